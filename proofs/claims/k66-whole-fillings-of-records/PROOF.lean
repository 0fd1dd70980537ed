import PyProof.Rows.All
import Wide.All
import OpenK.AllK
import Wide.FinOn
import HandS.ForMost
import HandS.IsInst
import KE.SortData
import HandS.HeadHook4
import HandS.HeadWalk
import HandS.HeadEnd
import HandS.Head2
import PySem.Challenge.RW_airturns_k66_whole_fillings_of_records
import HandS.Nested
import HandS.Exc
import HandS.WordsExc
import HandS.Lambda
import HandS.TupAny
import HandS.TupMul
import HandS.Deep
import HandS.Style
import HandS.CallSlots
import HandS.Property
import PyProof.TupleOfStr
import KE.DataMinMax
import HandS.TupLen
import HandS.TupSets
import HandS.SetFor
import HandS.Codes
import KE.KRevSl
import HandS.Star
import HandS.Iter
import HandS.MapSum
import KE.KDictWalk
import KE.KDictSum
import KE.KDictCopyH
import KE.KDictDisplayH
import HandS.More
import HandS.DictTup
import PyProof.DictMoreH
import HandS.SortKw
import KE.SortKeyHeap
import KE.KSortKey
import HandS.DictComp
import PyProof.DictFindH
import KE.GoesEnum
import KE.GoesMore
import HandS.Zip
import HandS.Small
set_option Elab.async false
set_option linter.all false
set_option maxRecDepth 100000
/-! V1: values as data, boxes, a small language of expressions and statements, what they come to. -/
namespace VI
open PySem L2

/-! ### data -/
inductive D where
  | non | bl (b : Bool) | int (i : Int) | str (s : Str) | tup (xs : List D) | ktp (xs : List D) | lst (xs : List D) | lck (xs : List D) | dic (t : Bool) (kvs : List (D × D)) | fdic (t : Bool) (kvs : List (D × D)) | ins (c : Nat) (fs : List (Str × D))
  deriving Inhabited
inductive Bop where
  | add | sub | mul | mod | fdiv | pow
  deriving DecidableEq
inductive Cop where
  | lt | le | gt | ge | eq | ne | isin | notin | is | isnot
  deriving DecidableEq
inductive Cl where
  | int | str | bool | tuple | list | dict | own (c : Nat)
  deriving DecidableEq
inductive Blt where
  | len | int | abs | maxL | minL | max2 | min2 | sum | any | all | tuple | sorted | divmod
  deriving DecidableEq
mutual
inductive Ex where
  | var (i : Nat) | cst (x : D) | glb (k : Nat) | tup (es : Exs) | tupS (e : Ex) (es : Exs) | tup2S (e f : Ex) | fz (f : Fx) | bx (f : Fx) | frz (i : Nat)
  | fzL (f : Fx) | frzL (i : Nat) | compB (e : Ex) (g : Tg) (it : It) (own : List Nat) | ixB (i : Nat) (e : Ex) | lenB (i : Nat)
  | bin (o : Bop) (a b : Ex) | neg (a : Ex) | cmp (o : Cop) (a b : Ex) | chn (o o' : Cop) (a b c : Ex) | isN (a : Ex) | notN (a : Ex)
  | and (a b : Ex) | or (a b : Ex) | not (a : Ex) | ite (c : Tx) (a b : Ex)
  | call (f : Nat) (es : Exs) | callK (f : Nat) (es ks : Exs) (pm : List Nat) | callL (f : Nat) (es : Exs) (np nf : Nat) (N : List Str) (b : Ex) (js : List Nat) | callV (i : Nat) (es : Exs)
  | get1 (o k : Ex) | get2 (o k d : Ex) | setd (o k d : Ex) | sumV (e : Ex)
  | blt (b : Blt) (es : Exs) | isi (a : Ex) (c : Cl) | ix (a i : Ex) | sl (a : Ex) (lo hi : Ox) | rev (a : Ex) | fld (n : Str) (a : Ex) | mk (c f : Nat) (es : Exs)
inductive Exs where
  | nil | cons (e : Ex) (es : Exs)
inductive Ox where
  | no | so (e : Ex)
inductive Fx where
  | disp (es : Exs) | lst (es : Exs) | comp (e : Ex) (g : Tg) (it : It) (c : Tx) (own : List Nat) | comp2 (e : Ex) (g : Tg) (it : It) (c : Tx) (g1 : Tg) (it1 : It) (c1 : Tx) (own own1 : List Nat) | dpr (e : Ex) | lkeys (e : Ex) | sortE (e : Ex) | ss (e : Ex) | split (e : Ex) (sep : Str) | dnew (t : Bool) | dd1 (k v : Ex) | dcomp (k v : Ex) (g : Tg) (it : It) (c : Tx) (own : List Nat) | lvals (e : Ex)
inductive It where
  | seq (e : Ex) | rng1 (a : Ex) | rng2 (a b : Ex) | enum (e : Ex) | enumS (e : Ex) | zip (e f : Ex) | vals (e : Ex) | keys (e : Ex) | items (e : Ex)
inductive Tx where
  | tt | val (e : Ex) | cmp (o : Cop) (a b : Ex) | chn (o o' : Cop) (a b c : Ex) | isN (a : Ex) | notN (a : Ex) | and (a b : Tx) | or (a b : Tx) | not (a : Tx)
inductive Tg where
  | nm (i : Nat) | tup (gs : Tgs) | sub (o i : Ex)
inductive Tgs where
  | nil | cons (g : Tg) (gs : Tgs)
end
def Exs.len : Exs → Nat
  | .nil => 0
  | .cons _ es => es.len + 1
def Tgs.len : Tgs → Nat
  | .nil => 0
  | .cons _ gs => gs.len + 1
mutual
inductive St where
  | asg (g : Tg) (e : Ex) | par (i j : Nat) (a b : Ex) | par3 (i j l : Nat) (a b c : Ex) | parN (js : List Nat) (es : Exs) | ret (e : Ex) | retN | ite (c : Tx) (a b : Sts) | for_ (g : Tg) (it : It) (body : Sts) | while (c : Tx) (body : Sts)
  | app (o e : Ex) | ext (o e : Ex) | lrev (o : Ex) | lpop (o i : Ex) | drop (e : Ex) | sfld (n : Str) (o e : Ex) | raise (c : Nat) (es : Exs) | nev | pass | brk | cnt
inductive Sts where
  | nil | cons (s : St) (ss : Sts)
end
structure LDef where
  np : Nat
  nf : Nat
  nl : Nat
  body : Ex
/-- a value: data, a box that may change, a function that was made -/
inductive VV where
  | d (x : D) | box (n : Nat) | clo (l : LDef) (caps : List VV) | bxs (ns : List Nat)
  deriving Inhabited
/-- what a box holds -/
inductive Ct where
  | lst (xs : List D) | dic (t : Bool) (kvs : List (D × D)) | fdic (t : Bool) (kvs : List (D × D)) | obj (c : Nat) (fs : List (Str × D))
structure Bx where
  ct : Ct
  live : Bool
abbrev Sto := List Bx
structure Exc where
  cls : Nat
  args : List D
inductive Res (α : Type) where
  | ok (a : α) (s : Sto) | exc (e : Exc) (s : Sto) | bad
def M (α : Type) : Type := Sto → Res α
namespace M
def ret {α : Type} (a : α) : M α := fun s => .ok a s
def bnd {α β : Type} (m : M α) (f : α → M β) : M β := fun s => match m s with
  | .ok a s' => f a s'
  | .exc e s' => .exc e s'
  | .bad => .bad
def bad {α : Type} : M α := fun _ => .bad
def raise {α : Type} (e : Exc) : M α := fun s => .exc e s
def opt {α : Type} : Option α → M α
  | some a => ret a
  | none => bad
end M
open M
theorem bnd_ok {α β : Type} {m : M α} {f : α → M β} {s s' : Sto} {a : α} (h : m s = .ok a s') : bnd m f s = f a s' := by unfold bnd; rw [h]
theorem bnd_exc {α β : Type} {m : M α} {f : α → M β} {s s' : Sto} {e : Exc} (h : m s = .exc e s') : bnd m f s = .exc e s' := by unfold bnd; rw [h]
@[simp] theorem ret_app {α : Type} (a : α) (s : Sto) : M.ret a s = .ok a s := rfl
@[simp] theorem bad_app {α : Type} (s : Sto) : (M.bad : M α) s = .bad := rfl
@[simp] theorem raise_app {α : Type} (e : Exc) (s : Sto) : (M.raise e : M α) s = .exc e s := rfl
@[simp] theorem bnd_ret {α β : Type} (a : α) (f : α → M β) : bnd (ret a) f = f a := rfl
@[simp] theorem bnd_bad {α β : Type} (f : α → M β) : bnd (bad (α := α)) f = bad := rfl
@[simp] theorem bnd_raise {α β : Type} (e : Exc) (f : α → M β) : bnd (raise (α := α) e) f = raise e := rfl
theorem bnd_bnd {α β γ : Type} (m : M α) (f : α → M β) (g : β → M γ) : bnd (bnd m f) g = bnd m fun a => bnd (f a) g := by
  funext s; unfold bnd; cases m s <;> rfl
@[simp] theorem opt_some {α : Type} (a : α) : M.opt (some a) = M.ret a := rfl
@[simp] theorem opt_none {α : Type} : M.opt (none : Option α) = M.bad := rfl

def ctD : Ct → Option D
  | .lst xs => some (.lst xs)
  | .dic t kvs => some (.dic t kvs)
  | .fdic t kvs => some (.fdic t kvs)
  | .obj _ _ => none
def ctZ : Ct → D
  | .lst xs => .lst xs
  | .dic t kvs => .dic t kvs
  | .fdic t kvs => .fdic t kvs
  | .obj c fs => .ins c fs
/-- a value, read through -/
def deref : VV → M D
  | .d x => ret x
  | .box n => fun s => match s[n]? with
    | some b => match ctD b.ct with
      | some x => .ok x s
      | none => .bad
    | none => .bad
  | .clo _ _ => bad
  | .bxs _ => bad
@[simp] theorem deref_d (x : D) : deref (.d x) = ret x := rfl
/-- the data of a value that is no box -/
def dataOf : VV → M D
  | .d x => ret x
  | _ => bad
@[simp] theorem dataOf_d (x : D) : dataOf (.d x) = ret x := rfl
def datasOf : List VV → M (List D)
  | [] => ret []
  | v :: vs => bnd (dataOf v) fun x => bnd (datasOf vs) fun xs => ret (x :: xs)
def newBox (c : Ct) : M VV := fun s => .ok (.box s.length) (s ++ [⟨c, true⟩])
def getBox (v : VV) : M Ct := match v with
  | .box n => fun s => match s[n]? with
    | some b => .ok b.ct s
    | none => .bad
  | _ => bad
def setBox (v : VV) (c : Ct) : M Unit := match v with
  | .box n => fun s => match s[n]? with
    | some ⟨_, true⟩ => .ok () (s.set n ⟨c, true⟩)
    | _ => .bad
  | _ => bad
/-- a box is data from now on -/
def freeze : VV → M D
  | .d x => ret x
  | .box n => fun s => match s[n]? with
    | some b => .ok (ctZ b.ct) (s.set n ⟨b.ct, false⟩)
    | none => .bad
  | .clo _ _ => bad
  | .bxs _ => bad
/-- a dict is data from now on, and locked -/
def freezeL : VV → M D
  | .d (.fdic t kvs) => ret (.fdic t kvs)
  | .box n => fun s => match s[n]? with
    | some ⟨.dic t kvs, true⟩ => .ok (.fdic t kvs) (s.set n ⟨.fdic t kvs, false⟩)
    | some ⟨.fdic t kvs, false⟩ => .ok (.fdic t kvs) s
    | _ => .bad
  | _ => bad
@[simp] theorem freeze_d (x : D) : freeze (.d x) = ret x := rfl

/-! ### as Python's data -/
mutual
def D.toPy : D → Option PyData
  | .non => some .none
  | .bl b => some (.bool b)
  | .int i => some (.int i)
  | .str s => some (.str s)
  | .tup xs => (toPyL xs).map .tuple
  | .ktp xs => (toPyL xs).map .tuple
  | .lst xs => (toPyL xs).map .list
  | .lck xs => (toPyL xs).map .list
  | .dic _ _ => none
  | .fdic _ _ => none
  | .ins _ _ => none
def toPyL : List D → Option (List PyData)
  | [] => some []
  | x :: xs => match x.toPy, toPyL xs with
    | some a, some b => some (a :: b)
    | _, _ => none
end

/-! ### operations on data -/
/-- the sizes that lists, tuples and texts keep below -/
def small (n : Nat) : Bool := decide (n ≤ 100000)
def mulOk (i j : Int) : Bool := decide (i.natAbs < 18446744073709551616) || decide (j.natAbs < 18446744073709551616)
def repD (xs : List D) (k : Nat) : List D := (List.replicate k xs).flatten
def repStr (x : Str) (k : Nat) : Str := ⟨(List.replicate k x.cps).foldl (· ++ ·) #[]⟩
def binD : Bop → D → D → Option D
  | .add, .int i, .int j => some (.int (i + j))
  | .add, .str x, .str y => if small (x.length + y.length) then some (.str (x ++ y)) else none
  | .add, .tup xs, .tup ys => if small (xs.length + ys.length) then some (.tup (xs ++ ys)) else none
  | .add, .lst xs, .lst ys => if small (xs.length + ys.length) then some (.lst (xs ++ ys)) else none
  | .sub, .int i, .int j => some (.int (i - j))
  | .mul, .int i, .int j => if mulOk i j then some (.int (i * j)) else none
  | .mul, .lst xs, .int j => if decide (0 ≤ j) && decide (j ≤ 1000) && small (xs.length * j.toNat) then some (.lst (repD xs j.toNat)) else none
  | .mul, .str x, .int j => if 2 ≤ j ∧ j ≤ 1000 ∧ 1 ≤ x.length ∧ x.length * j.toNat ≤ 100000 ∧ (repStr x j.toNat).length ≤ 100000 then some (.str (repStr x j.toNat)) else none
  | .mul, .tup xs, .int j => if j = 1 then some (.tup xs) else if 2 ≤ j ∧ j ≤ 1000 ∧ 1 ≤ xs.length ∧ xs.length ≤ 100 then some (.tup (repD xs j.toNat)) else none
  | .mod, .int i, .int j => if 0 < j then some (.int (i % j)) else none
  | .fdiv, .int i, .int j => if 0 < j ∧ j.natAbs < 1073741824 then some (.int (i / j)) else none
  | .pow, .int i, .int j => if 0 ≤ j ∧ j ≤ 1000000 ∧ i.natAbs < 2 ^ 64 then some (.int (i ^ j.toNat)) else none
  | _, _, _ => none
def shapedD (x : D) : Option PyData := match x.toPy with
  | some p => if SeqAt.shaped p then some p else none
  | none => none
/-- lists that are not as long -/
def lenNe : D → D → Option Bool
  | .lst xs, .lst ys => if xs.length = ys.length then none else some false
  | _, _ => none
def eqD (x y : D) : Option Bool := match shapedD x, shapedD y with
  | some a, some b => some (PyData.eqv a b)
  | _, _ => lenNe x y
def isSeqP : PyData → Bool
  | .tuple _ => true
  | .list _ => true
  | _ => false
def ltD (x y : D) : Option Bool := match x, y with
  | .int i, .int j => some (decide (i < j))
  | .str i, .str j => some (decide (i.cps.toList < j.cps.toList))
  | x, y => match shapedD x, shapedD y with
    | some a, some b => if PySem.W.alike a b && isSeqP a then some (PySem.W.dataLt a b) else none
    | _, _ => none
/-- a dict with keys that are ints and texts -/
def keyD : D → Option Key
  | .int i => some (.inl i)
  | .str s => some (.inr s)
  | _ => none
def lookD (k : Key) : List (D × D) → Option D
  | [] => none
  | (a, v) :: r => if keyD a = some k then some v else lookD k r
/-- a dict with keys that are tuples of ints and texts -/
def keysD : List D → Option (List Key)
  | [] => some []
  | x :: xs => match keyD x, keysD xs with
    | some k, some ks => some (k :: ks)
    | _, _ => none
def keyT : D → Option (List Key)
  | .tup xs => keysD xs
  | _ => none
def lookT (k : List Key) : List (D × D) → Option D
  | [] => none
  | (a, v) :: r => if keyT a = some k then some v else lookT k r
/-- x in y: items read as data, a part of a text, a key -/
def inD (x y : D) : Option Bool := match y with
  | .str z => match x with
    | .str s => some (!(Builtin.Str.occurrences z s 0 z.length 1).isEmpty)
    | _ => none
  | .dic false kvs => match keyD x with
    | some k => some (lookD k kvs).isSome
    | none => none
  | .dic true kvs => match keyT x with
    | some k => some (lookT k kvs).isSome
    | none => none
  | .fdic false kvs => match keyD x with
    | some k => some (lookD k kvs).isSome
    | none => none
  | .fdic true kvs => match keyT x with
    | some k => some (lookT k kvs).isSome
    | none => none
  | y => match shapedD x, shapedD y with
    | some a, some (.tuple ds) => some (ds.any fun z => PyData.eqv z a)
    | some a, some (.list ds) => some (ds.any fun z => PyData.eqv z a)
    | _, _ => none
def cmpD : Cop → D → D → Option Bool
  | .eq, x, y => eqD x y
  | .ne, x, y => (eqD x y).map (!·)
  | .lt, x, y => ltD x y
  | .gt, .int i, .int j => some (decide (j < i))
  | .le, .int i, .int j => some (decide (i ≤ j))
  | .ge, .int i, .int j => some (decide (j ≤ i))
  | .isin, x, y => inD x y
  | .notin, x, y => (inD x y).map (!·)
  | .is, .bl a, .bl b => some (decide (a = b))
  | .isnot, .bl a, .bl b => some (!decide (a = b))
  | _, _, _ => none

/-! ### classes as isinstance asks them -/
def isD : D → Cl → Bool
  | .bl _, .bool => true
  | .bl _, .int => true
  | .int _, .int => true
  | .str _, .str => true
  | .tup _, .tuple => true
  | .ktp _, .tuple => true
  | .lst _, .list => true
  | .lck _, .list => true
  | .dic _ _, .dict => true
  | .fdic _ _, .dict => true
  | .ins c _, .own e => decide (c = e)
  | _, _ => false
def isF : D → Bool
  | .fdic _ _ => true
  | _ => false
def isVV : VV → Cl → M Bool
  | .d x, c => if isF x then bad else ret (isD x c)
  | .box n, c => fun s => match s[n]? with
    | some b => if isF (ctZ b.ct) then .bad else .ok (isD (ctZ b.ct) c) s
    | none => .bad
  | .clo _ _, _ => bad
  | .bxs _, _ => bad

/-! ### built-in functions of data -/
def lenD : D → Option Nat
  | .str s => if small s.length then some s.length else none
  | .tup xs => some xs.length
  | .ktp xs => some xs.length
  | .lst xs => some xs.length
  | .lck xs => some xs.length
  | .dic _ kvs => some kvs.length
  | _ => none
def intsD : List D → Option (List Int)
  | [] => some []
  | .int i :: xs => (intsD xs).map (i :: ·)
  | _ :: _ => none
def strsD : List D → Option (List Str)
  | [] => some []
  | .str i :: xs => (strsD xs).map (i :: ·)
  | _ :: _ => none
def blsD : List D → Option (List Bool)
  | [] => some []
  | .bl i :: xs => (blsD xs).map (i :: ·)
  | _ :: _ => none
def foldMax : Int → List Int → Int
  | m, [] => m
  | m, x :: xs => foldMax (if x > m then x else m) xs
def foldMin : Int → List Int → Int
  | m, [] => m
  | m, x :: xs => foldMin (if x < m then x else m) xs
def pyOf (x : D) : PyData := x.toPy.getD .none
def isTup1 : PyData → Bool
  | .tuple (_ :: _) => true
  | _ => false
def noTup : PyData → Bool
  | .tuple _ => false
  | .none => false
  | _ => true
/-- sorted(..): items that can be compared with each other -/
def sortD (xs : List D) : Option (List D) :=
  if small xs.length && xs.all (fun x => (shapedD x).isSome) && xs.all (fun x => xs.all fun y => PySem.W.alike (pyOf x) (pyOf y)) && (xs.all (fun x => isTup1 (pyOf x)) || xs.all (fun x => noTup (pyOf x)))
  then some (xs.mergeSort (PySem.W.dataLe false pyOf)) else none
/-- rows of texts -/
def rowsS : List D → Option (List (List Str))
  | [] => some []
  | .tup x :: xs => match strsD x, rowsS xs with
    | some r, some rs => some (r :: rs)
    | _, _ => none
  | _ :: _ => none
def pyRow (r : List Str) : PyData := .tuple (r.map .str)
/-- the first of the least rows -/
def minR (r : List Str) (rs : List (List Str)) : List Str := rs.foldl (fun a y => if PySem.W.dataLt (pyRow y) (pyRow a) then y else a) r
/-- the least text -/
def minS (r : Str) (rs : List Str) : Str := rs.foldl (fun a y => if PySem.W.dataLt (.str y) (.str a) then y else a) r
/-- sorted(set(..)) of rows of texts -/
def rowLe (a b : List Str) : Bool := PySem.W.dataLe false pyRow a b
def nubR : List (List Str) → List (List Str)
  | [] => []
  | r :: rs => if r ∈ rs then nubR rs else r :: nubR rs
def ssD : D → Option (List D)
  | .lst xs => match rowsS xs with
    | some rs => if decide (rs.length < 64) && rs.all (fun r => !r.isEmpty) then some (((nubR rs).mergeSort rowLe).map fun r => .tup (r.map .str)) else none
    | none => none
  | _ => none
/-- x.split(sep) -/
def splitD (x : D) (sep : Str) : Option (List D) := match x with
  | .str a => if decide (a.length ≤ 100000) && !(sep.length == 0) then some ((Txt.split a sep).map .str) else none
  | _ => none
/-- zip of two tuples, of two lists -/
def zipD : D → D → Option (List D)
  | .tup xs, .tup ys => if small xs.length then some (List.zipWith (fun a b => .tup [a, b]) xs ys) else none
  | .lst xs, .lst ys => if small xs.length then some (List.zipWith (fun a b => .tup [a, b]) xs ys) else none
  | _, _ => none
/-- list(..) -/
def listD : List D → Option (List D)
  | [.tup xs] => if small xs.length then some xs else none
  | [.lst xs] => if small xs.length then some xs else none
  | [.lck xs] => if small xs.length then some xs else none
  | _ => none
def chrsD (s : Str) : List D := s.cps.toList.map fun c => .str ⟨#[c]⟩
def bltD : Blt → List D → Option D
  | .sorted, [.lst xs] => (sortD xs).map .lst
  | .len, [x] => (lenD x).map fun n => .int (n : Int)
  | .int, [.int i] => some (.int i)
  | .int, [.bl b] => some (.int (if b then 1 else 0))
  | .abs, [.int i] => some (.int (if i < 0 then -i else i))
  | .max2, [.int i, .int j] => some (.int (if j > i then j else i))
  | .min2, [.int i, .int j] => some (.int (if j < i then j else i))
  | .maxL, [.lst xs] => match intsD xs with
    | some (i :: is) => some (.int (foldMax i is))
    | _ => none
  | .minL, [.lst xs] => match intsD xs with
    | some (i :: is) => some (.int (foldMin i is))
    | _ => match rowsS xs with
      | some (r :: rs) => some (.tup ((minR r rs).map .str))
      | _ => match strsD xs with
        | some (r :: rs) => some (.str (minS r rs))
        | _ => none
  | .sum, [.lst xs] => (intsD xs).map fun is => .int is.sum
  | .any, [.lst xs] => (blsD xs).map fun bs => .bl (bs.any id)
  | .all, [.lst xs] => (blsD xs).map fun bs => .bl (bs.all id)
  | .tuple, [.lst xs] => some (.tup xs)
  | .tuple, [.tup xs] => some (.tup xs)
  | .tuple, [.str s] => if small s.length then some (.tup (chrsD s)) else none
  | .divmod, [.int i, .int j] => if 0 < j ∧ j.natAbs < 1073741824 then some (.tup [.int (i / j), .int (i % j)]) else none
  | _, _ => none
/-! ### places -/
def ixD : D → D → Option D
  | .tup xs, .int i => atI xs i
  | .lst xs, .int i => atI xs i
  | .lck xs, .int i => atI xs i
  | .str z, .int i => if small z.length then (atI z.cps.toList i).map fun c => .str ⟨#[c]⟩ else none
  | _, _ => none
def cutL {α : Type} (xs : List α) (lo hi : Option Int) : List α := (xs.drop (HT.sIx xs.length 0 lo)).take (HT.sIx xs.length xs.length hi - HT.sIx xs.length 0 lo)
def slD (x : D) (lo hi : Option Int) : Option D := match x with
  | .tup xs => some (.tup (cutL xs lo hi))
  | .lst xs => some (.lst (cutL xs lo hi))
  | .lck xs => some (.lst (cutL xs lo hi))
  | .str z => if small z.length then some (.str (cutS z lo hi)) else none
  | _ => none
def revD : D → Option D
  | .tup xs => some (.tup xs.reverse)
  | _ => none
def putD (k : Key) (kd v : D) (kvs : List (D × D)) : List (D × D) :=
  if (kvs.any fun p => decide (keyD p.1 = some k)) = true then kvs.map (fun p => if keyD p.1 = some k then (p.1, v) else p) else kvs ++ [(kd, v)]

def putT (k : List Key) (kd v : D) (kvs : List (D × D)) : List (D × D) :=
  if (kvs.any fun p => decide (keyT p.1 = some k)) = true then kvs.map (fun p => if keyT p.1 = some k then (p.1, v) else p) else kvs ++ [(kd, v)]
/-! ### the language -/
abbrev Sl := List (Option VV)
inductive Fl where
  | nxt | ret (v : VV) | brk | cnt
structure FDef where
  np : Nat
  nl : Nat
  body : Sts
structure Tbl where
  fs : List FDef
  cs : List D
  ps : List (List (Str × Nat))
  is : List Nat
  fuel : Nat
def propOf (T : Tbl) (c : Nat) (n : Str) : Option Nat := match T.ps[c]? with
  | some l => l.lookup n
  | none => none
inductive Callee where
  | f (n : Nat) | l (n : LDef) (caps : List VV)
abbrev CF := Callee → List VV → M VV
def wipeS (φ : Sl) : List Nat → Sl
  | [] => φ
  | i :: is => (wipeS φ is).set i none
/-- where no exception is borne -/
def noExc {α : Type} (m : M α) : M α := fun s => match m s with
  | .ok a s' => .ok a s'
  | .exc _ _ => .bad
  | .bad => .bad
def isNon : VV → Bool
  | .d .non => true
  | _ => false
def compGo (body : D → M (Option D)) : List D → M (List D)
  | [] => ret []
  | x :: xs => bnd (body x) fun o => bnd (compGo body xs) fun r => ret (o.toList ++ r)
def compGoL (body : D → M (List D)) : List D → M (List D)
  | [] => ret []
  | x :: xs => bnd (body x) fun o => bnd (compGoL body xs) fun r => ret (o ++ r)
/-- the box of a value -/
def boxOf : VV → M Nat
  | .box n => ret n
  | _ => bad
def compGoB (body : D → M Nat) : List D → M (List Nat)
  | [] => ret []
  | x :: xs => bnd (body x) fun n => bnd (compGoB body xs) fun r => ret (n :: r)
/-- a dict filled at each turn, its keys tuples -/
def dcGo (body : D → M (Option (D × D))) : List D → List (D × D) → M (List (D × D))
  | [], acc => ret acc
  | x :: xs, acc => bnd (body x) fun o => match o with
    | none => dcGo body xs acc
    | some (y, z) => match keyT y with
      | some k => if small acc.length then dcGo body xs (putT k y z acc) else bad
      | none => bad
/-- pairs of a key and a value, as dict(..) takes them -/
def dprGo : List D → List (D × D) → Option (List (D × D))
  | [], acc => some acc
  | .tup [k, v] :: r, acc => match keyD k with
    | some kk => dprGo r (putD kk k v acc)
    | none => none
  | _, _ => none
def dprD : D → Option (List (D × D))
  | .lst xs => dprGo xs []
  | _ => none
def rngD (a : Int) : Nat → List D
  | 0 => []
  | n + 1 => .int a :: rngD (a + 1) n
def enumD (k : Int) : List D → List D
  | [] => []
  | x :: xs => .tup [.int k, x] :: enumD (k + 1) xs
def itemsD : D → Option (List D)
  | .tup xs => if small xs.length then some xs else none
  | .lst xs => if small xs.length then some xs else none
  | .lck xs => if small xs.length then some xs else none
  | .str s => if small s.length then some (chrsD s) else none
  | _ => none
def seqD : D → Option (List D)
  | .tup xs => if small xs.length then some xs else none
  | .lst xs => if small xs.length then some xs else none
  | .lck xs => if small xs.length then some xs else none
  | _ => none
def asInt : D → M Int
  | .int i => ret i
  | _ => bad
def asBool : VV → M Bool
  | .d (.bl b) => ret b
  | _ => bad
@[simp] theorem asInt_int (i : Int) : asInt (.int i) = ret i := rfl
@[simp] theorem asBool_bl (b : Bool) : asBool (.d (.bl b)) = ret b := rfl
def derefs : List VV → M (List D)
  | [] => ret []
  | v :: vs => bnd (deref v) fun x => bnd (derefs vs) fun xs => ret (x :: xs)
def permV (vs : List VV) (pm : List Nat) : List VV := pm.filterMap fun i => vs[i]?
def rngOk (a : Int) : Bool := decide (a.natAbs ≤ 1000000)
def putIx (o : VV) (i x : D) : M Unit := bnd (getBox o) fun c => match c with
  | .lst xs => match i with
    | .int k => match ixN xs.length k with
      | some j => setBox o (.lst (xs.set j x))
      | none => bad
    | _ => bad
  | .dic false kvs => match keyD i with
    | some k => if small kvs.length then setBox o (.dic false (putD k i x kvs)) else bad
    | none => bad
  | .dic true kvs => match keyT i with
    | some k => if small kvs.length then setBox o (.dic true (putT k i x kvs)) else bad
    | none => bad
  | _ => bad
def getIx (o : VV) (i : D) : M D := bnd (deref o) fun c => match c with
  | .dic false kvs => match keyD i with
    | some k => M.opt (lookD k kvs)
    | none => bad
  | .dic true kvs => match keyT i with
    | some k => M.opt (lookT k kvs)
    | none => bad
  | .fdic false kvs => match keyD i with
    | some k => M.opt (lookD k kvs)
    | none => bad
  | .fdic true kvs => match keyT i with
    | some k => M.opt (lookT k kvs)
    | none => bad
  | c => M.opt (ixD c i)
def isDic (u : VV) : M Unit := bnd (deref u) fun c => match c with
  | .dic _ _ => ret ()
  | .fdic _ _ => ret ()
  | _ => bad
/-- d.get(y, x) -/
def getOr (c y x : D) : Option D := match c with
  | .dic false kvs => (keyD y).map fun k => (lookD k kvs).getD x
  | .dic true kvs => (keyT y).map fun k => (lookT k kvs).getD x
  | .fdic false kvs => (keyD y).map fun k => (lookD k kvs).getD x
  | .fdic true kvs => (keyT y).map fun k => (lookT k kvs).getD x
  | _ => none
def isDicT (u : VV) : M Unit := bnd (deref u) fun c => match c with
  | .dic true _ => ret ()
  | _ => bad
/-- d.setdefault(y, x), the keys tuples -/
def setdM (u : VV) (y x : D) : M D := bnd (getBox u) fun c => match c with
  | .dic true kvs => match keyT y with
    | some k => if small kvs.length then match lookT k kvs with
        | some v => ret v
        | none => bnd (setBox u (.dic true (putT k y x kvs))) fun _ => ret x
      else bad
    | none => bad
  | _ => bad
def dicVals : D → Option (List D)
  | .dic _ kvs => some (kvs.map (·.2))
  | .fdic _ kvs => some (kvs.map (·.2))
  | _ => none
def valsI (c : D) : Option (List Int) := (dicVals c).bind intsD
def keysOf : D → Option (List D)
  | .fdic _ kvs => if small kvs.length then some (kvs.map (·.1)) else none
  | _ => none
def pairsOf : D → Option (List D)
  | .fdic _ kvs => if small kvs.length then some (kvs.map fun p => .tup [p.1, p.2]) else none
  | _ => none
def valsOf : D → Option (List D)
  | .fdic _ kvs => if small kvs.length then some (kvs.map (·.2)) else none
  | _ => none
/-- list(d) -/
def keysL : D → Option (List D)
  | .dic _ kvs => if small kvs.length then some (kvs.map (·.1)) else none
  | .fdic _ kvs => if small kvs.length then some (kvs.map (·.1)) else none
  | _ => none
/-- list(d.values()) -/
def lvalsD : D → Option (List D)
  | .dic _ kvs => if small kvs.length then some (kvs.map (·.2)) else none
  | .fdic _ kvs => if small kvs.length then some (kvs.map (·.2)) else none
  | _ => none
def getFld (n : Str) : VV → M D
  | .d (.ins _ fs) => M.opt (fs.lookup n)
  | .box b => bnd (getBox (.box b)) fun c => match c with
    | .obj _ fs => M.opt (fs.lookup n)
    | _ => bad
  | _ => bad
def putFld (n : Str) (x : D) : List (Str × D) → List (Str × D)
  | [] => [(n, x)]
  | (m, y) :: r => if m = n then (n, x) :: r else (m, y) :: putFld n x r
def capsOf (φ : Sl) : List Nat → Option (List VV)
  | [] => some []
  | j :: js => match φ[j]?, capsOf φ js with
    | some (some v), some vs => some (v :: vs)
    | _, _ => none
def clsVV : VV → M Nat
  | .d (.ins c _) => ret c
  | .box n => bnd (getBox (.box n)) fun ct => match ct with
    | .obj c _ => ret c
    | _ => bad
  | _ => bad
def noClo : VV → M VV
  | .clo _ _ => bad
  | .bxs _ => bad
  | v => ret v
def plainV : VV → Bool
  | .clo _ _ => false
  | .bxs _ => false
  | _ => true
/-- plain, or a function that captures nothing -/
def plainC : VV → Bool
  | .clo _ [] => true
  | .clo _ (_ :: _) => false
  | .bxs _ => false
  | _ => true
def setN : Sl → List Nat → List VV → Sl
  | φ, i :: js, v :: vs => setN (φ.set i (some v)) js vs
  | φ, _, _ => φ
def isLst (u : VV) : M Unit := bnd (getBox u) fun c => match c with
  | .lst _ => ret ()
  | _ => bad
section
variable (T : Tbl) (cf : CF)
mutual
def ev : Ex → Sl → M VV
  | .var i, φ => match φ[i]? with
    | some (some v) => ret v
    | _ => bad
  | .cst x, _ => ret (.d x)
  | .glb k, _ => match T.cs[k]? with
    | some x => ret (.d x)
    | none => bad
  | .tup es, φ => bnd (evs es φ) fun vs => bnd (datasOf vs) fun xs => if small xs.length then ret (.d (.tup xs)) else bad
  | .tupS e es, φ => bnd (ev e φ) fun u => bnd (deref u) fun x => bnd (M.opt (seqD x)) fun xs => bnd (evs es φ) fun vs => bnd (datasOf vs) fun ys => if small (xs.length + ys.length) then ret (.d (.tup (xs ++ ys))) else bad
  | .tup2S e f, φ => bnd (ev e φ) fun u => bnd (deref u) fun x => bnd (M.opt (seqD x)) fun xs => bnd (ev f φ) fun v => bnd (deref v) fun y => bnd (M.opt (seqD y)) fun ys => if small (xs.length + ys.length) then ret (.d (.tup (xs ++ ys))) else bad
  | .fz f, φ => bnd (evF f φ) fun c => ret (.d (ctZ c))
  | .bx f, φ => bnd (evF f φ) fun c => newBox c
  | .frz i, φ => match φ[i]? with
    | some (some v) => bnd (freeze v) fun x => ret (.d x)
    | _ => bad
  | .fzL f, φ => bnd (evF f φ) fun c => match c with
    | .dic t kvs => ret (.d (.fdic t kvs))
    | _ => bad
  | .frzL i, φ => match φ[i]? with
    | some (some v) => bnd (freezeL v) fun x => ret (.d x)
    | _ => bad
  | .compB e g it own, φ => bnd (evI it φ) fun xs => bnd (compGoB (fun x => noExc (bnd (setT g (.d x) (wipeS φ own)) fun φ' => bnd (ev e φ') boxOf)) xs) fun ns => ret (.bxs ns)
  | .ixB i e, φ => match φ[i]? with
    | some (some (.bxs ns)) => bnd (ev e φ) fun w => bnd (dataOf w) fun y => bnd (asInt y) fun k => bnd (M.opt (atI ns k)) fun n => ret (.box n)
    | _ => bad
  | .lenB i, φ => match φ[i]? with
    | some (some (.bxs ns)) => ret (.d (.int ns.length))
    | _ => bad
  | .bin o a b, φ => bnd (ev a φ) fun u => bnd (ev b φ) fun v => bnd (deref u) fun x => bnd (deref v) fun y => bnd (M.opt (binD o x y)) fun z => ret (.d z)
  | .neg a, φ => bnd (ev a φ) fun u => bnd (deref u) fun x => bnd (asInt x) fun i => ret (.d (.int (-i)))
  | .cmp o a b, φ => bnd (ev a φ) fun u => bnd (ev b φ) fun v => bnd (deref u) fun x => bnd (deref v) fun y => bnd (M.opt (cmpD o x y)) fun z => ret (.d (.bl z))
  | .chn o o' a b c, φ => bnd (ev a φ) fun u => bnd (ev b φ) fun v => bnd (deref u) fun x => bnd (deref v) fun y => bnd (M.opt (cmpD o x y)) fun z =>
      if z then bnd (ev c φ) fun t => bnd (deref v) fun y' => bnd (deref t) fun w => bnd (M.opt (cmpD o' y' w)) fun z' => ret (.d (.bl z')) else ret (.d (.bl false))
  | .isN a, φ => bnd (ev a φ) fun u => ret (.d (.bl (isNon u)))
  | .notN a, φ => bnd (ev a φ) fun u => ret (.d (.bl (!isNon u)))
  | .and a b, φ => bnd (ev a φ) fun u => bnd (asBool u) fun k => if k then ev b φ else ret (.d (.bl false))
  | .or a b, φ => bnd (ev a φ) fun u => bnd (asBool u) fun k => if k then ret (.d (.bl true)) else ev b φ
  | .not a, φ => bnd (ev a φ) fun u => bnd (asBool u) fun k => ret (.d (.bl (!k)))
  | .ite c a b, φ => bnd (evT c φ) fun k => if k then ev a φ else ev b φ
  | .call f es, φ => bnd (evs es φ) fun vs => cf (.f f) vs
  | .callK f es ks pm, φ => bnd (evs es φ) fun vs => bnd (evs ks φ) fun ws => cf (.f f) (permV (vs ++ ws) pm)
  | .callL f es np nf N b js, φ => bnd (evs es φ) fun vs => match capsOf φ js with
    | some caps => bnd (noExc (cf (.f f) (vs ++ [.clo ⟨np, nf, N.length, b⟩ caps]))) noClo
    | none => bad
  | .callV i es, φ => match φ[i]? with
    | some (some (.clo l caps)) => bnd (evs es φ) fun vs => bnd (noExc (cf (.l l caps) vs)) noClo
    | _ => bad
  | .get1 o k, φ => bnd (ev o φ) fun u => bnd (isDic u) fun _ => bnd (ev k φ) fun w => bnd (dataOf w) fun y => bnd (deref u) fun c => bnd (M.opt (getOr c y .non)) fun r => ret (.d r)
  | .get2 o k d, φ => bnd (ev o φ) fun u => bnd (isDic u) fun _ => bnd (ev k φ) fun w => bnd (ev d φ) fun z => bnd (dataOf w) fun y => bnd (dataOf z) fun x => bnd (deref u) fun c => bnd (M.opt (getOr c y x)) fun r => ret (.d r)
  | .setd o k d, φ => bnd (ev o φ) fun u => bnd (isDicT u) fun _ => bnd (ev k φ) fun w => bnd (ev d φ) fun z => bnd (dataOf w) fun y => bnd (dataOf z) fun x => bnd (setdM u y x) fun r => ret (.d r)
  | .sumV e, φ => bnd (ev e φ) fun u => bnd (deref u) fun c => bnd (M.opt (valsI c)) fun ns => ret (.d (.int ns.sum))
  | .blt b es, φ => bnd (evs es φ) fun vs => bnd (derefs vs) fun xs => bnd (M.opt (bltD b xs)) fun z => ret (.d z)
  | .isi a c, φ => bnd (ev a φ) fun u => bnd (isVV u c) fun k => ret (.d (.bl k))
  | .ix a i, φ => bnd (ev a φ) fun u => bnd (ev i φ) fun w => bnd (dataOf w) fun y => bnd (getIx u y) fun z => ret (.d z)
  | .sl a lo hi, φ => bnd (ev a φ) fun u => bnd (evO lo φ) fun l => bnd (evO hi φ) fun h => bnd (deref u) fun x => bnd (M.opt (slD x l h)) fun z => ret (.d z)
  | .rev a, φ => bnd (ev a φ) fun u => bnd (deref u) fun x => bnd (M.opt (revD x)) fun z => ret (.d z)
  | .fld n a, φ => bnd (ev a φ) fun u => bnd (clsVV u) fun c => match propOf T c n with
    | some f => noExc (cf (.f f) [u])
    | none => bnd (getFld n u) fun x => ret (.d x)
  | .mk c f es, φ => bnd (evs es φ) fun vs => bnd (newBox (.obj c [])) fun o => bnd (cf (.f f) (o :: vs)) fun r => match r with
    | .d .non => bnd (freeze o) fun x => ret (.d x)
    | _ => bad
def evs : Exs → Sl → M (List VV)
  | .nil, _ => ret []
  | .cons e es, φ => bnd (ev e φ) fun v => bnd (evs es φ) fun vs => ret (v :: vs)
def evO : Ox → Sl → M (Option Int)
  | .no, _ => ret none
  | .so e, φ => bnd (ev e φ) fun v => bnd (dataOf v) fun x => bnd (asInt x) fun i => ret (some i)
def evF : Fx → Sl → M Ct
  | .disp es, φ => bnd (evs es φ) fun vs => bnd (datasOf vs) fun xs => if small xs.length then ret (.lst xs) else bad
  | .comp e g it c own, φ => bnd (evI it φ) fun xs => bnd (compGo (fun x => noExc (bnd (setT g (.d x) (wipeS φ own)) fun φ' => bnd (evT c φ') fun k =>
      if k then bnd (ev e φ') fun v => bnd (dataOf v) fun y => ret (some y) else ret none)) xs) fun ys => ret (.lst ys)
  | .comp2 e g it c g1 it1 c1 own own1, φ => bnd (evI it φ) fun xs => if decide (xs.length ≤ 10000) then bnd (compGoL (fun x => noExc (bnd (setT g (.d x) (wipeS φ own)) fun φ' => bnd (evT c φ') fun k =>
      if k then bnd (evI it1 φ') fun ys => if decide (ys.length ≤ 60) then compGo (fun y => noExc (bnd (setT g1 (.d y) (wipeS φ' own1)) fun φ2 => bnd (evT c1 φ2) fun k =>
        if k then bnd (ev e φ2) fun v => bnd (dataOf v) fun z => ret (some z) else ret none)) ys else bad else ret [])) xs) fun zs => ret (.lst zs) else bad
  | .dpr e, φ => bnd (ev e φ) fun u => bnd (deref u) fun x => bnd (M.opt (dprD x)) fun kvs => ret (.dic false kvs)
  | .lkeys e, φ => bnd (ev e φ) fun u => bnd (deref u) fun x => bnd (M.opt (keysL x)) fun xs => ret (.lst xs)
  | .lvals e, φ => bnd (ev e φ) fun u => bnd (deref u) fun x => bnd (M.opt (lvalsD x)) fun xs => ret (.lst xs)
  | .sortE e, φ => bnd (ev e φ) fun u => bnd (deref u) fun c => match c with
    | .lst [] => ret (.lst [])
    | _ => bad
  | .ss e, φ => bnd (ev e φ) fun u => bnd (deref u) fun x => bnd (M.opt (ssD x)) fun xs => ret (.lst xs)
  | .split e sep, φ => bnd (ev e φ) fun u => bnd (dataOf u) fun x => bnd (M.opt (splitD x sep)) fun xs => ret (.lst xs)
  | .dnew t, _ => ret (.dic t [])
  | .dcomp e f g it c own, φ => bnd (evI it φ) fun xs => bnd (dcGo (fun x => noExc (bnd (setT g (.d x) (wipeS φ own)) fun φ' => bnd (evT c φ') fun k =>
      if k then bnd (ev e φ') fun u => bnd (ev f φ') fun w => bnd (dataOf u) fun y => bnd (dataOf w) fun z => ret (some (y, z)) else ret none)) xs []) fun kvs => ret (.dic true kvs)
  | .dd1 k v, φ => bnd (noExc (ev k φ)) fun u => bnd (noExc (ev v φ)) fun w => bnd (dataOf u) fun y => bnd (dataOf w) fun x => if (keyT y).isSome then ret (.dic true [(y, x)]) else bad
  | .lst es, φ => bnd (evs es φ) fun vs => bnd (derefs vs) fun ds => bnd (M.opt (listD ds)) fun xs => ret (.lst xs)
def evI : It → Sl → M (List D)
  | .seq e, φ => bnd (ev e φ) fun v => bnd (freeze v) fun x => M.opt (itemsD x)
  | .rng1 a, φ => bnd (ev a φ) fun v => bnd (dataOf v) fun x => bnd (asInt x) fun n => if rngOk n then ret (rngD 0 n.toNat) else bad
  | .rng2 a b, φ => bnd (ev a φ) fun v => bnd (ev b φ) fun w => bnd (dataOf v) fun x => bnd (dataOf w) fun y => bnd (asInt x) fun i => bnd (asInt y) fun j => if rngOk i && rngOk j then ret (rngD i (j - i).toNat) else bad
  | .enum e, φ => bnd (ev e φ) fun v => bnd (freeze v) fun x => bnd (M.opt (seqD x)) fun xs => ret (enumD 0 xs)
  | .enumS e, φ => bnd (ev e φ) fun v => bnd (dataOf v) fun x => match x with
    | .str s => if small s.length then ret (enumD 0 (chrsD s)) else bad
    | _ => bad
  | .zip e f, φ => bnd (ev e φ) fun u => bnd (ev f φ) fun v => bnd (dataOf u) fun x => bnd (dataOf v) fun y => M.opt (zipD x y)
  | .vals e, φ => bnd (ev e φ) fun v => bnd (freezeL v) fun x => M.opt (valsOf x)
  | .keys e, φ => bnd (ev e φ) fun v => bnd (freezeL v) fun x => M.opt (keysOf x)
  | .items e, φ => bnd (ev e φ) fun v => bnd (freezeL v) fun x => M.opt (pairsOf x)
def evT : Tx → Sl → M Bool
  | .tt, _ => ret true
  | .val e, φ => bnd (ev e φ) asBool
  | .cmp o a b, φ => bnd (ev a φ) fun u => bnd (ev b φ) fun v => bnd (deref u) fun x => bnd (deref v) fun y => M.opt (cmpD o x y)
  | .chn o o' a b c, φ => bnd (bnd (ev a φ) fun u => bnd (ev b φ) fun v => bnd (deref u) fun x => bnd (deref v) fun y => bnd (M.opt (cmpD o x y)) fun z =>
      if z then bnd (ev c φ) fun t => bnd (deref v) fun y' => bnd (deref t) fun w => bnd (M.opt (cmpD o' y' w)) fun z' => ret (.d (.bl z')) else ret (.d (.bl false))) asBool
  | .isN a, φ => bnd (ev a φ) fun u => ret (isNon u)
  | .notN a, φ => bnd (ev a φ) fun u => ret (!isNon u)
  | .and a b, φ => bnd (evT a φ) fun k => if k then evT b φ else ret false
  | .or a b, φ => bnd (evT a φ) fun k => if k then ret true else evT b φ
  | .not a, φ => bnd (evT a φ) fun k => ret (!k)
def setT : Tg → VV → Sl → M Sl
  | .nm i, v, φ => ret (φ.set i (some v))
  | .tup gs, v, φ => bnd (deref v) fun x => match x with
    | .tup xs => setTs gs xs φ
    | _ => bad
  | .sub o i, v, φ => bnd (ev o φ) fun u => bnd (ev i φ) fun w => bnd (dataOf w) fun y => bnd (dataOf v) fun x => bnd (putIx u y x) fun _ => ret φ
def setTs : Tgs → List D → Sl → M Sl
  | .nil, [], φ => ret φ
  | .cons g gs, x :: xs, φ => bnd (setT g (.d x) φ) fun φ' => setTs gs xs φ'
  | _, _, _ => bad
end
def forGo (body : D → Sl → M (Fl × Sl)) : List D → Sl → M (Fl × Sl)
  | [], φ => ret (.nxt, φ)
  | x :: xs, φ => bnd (body x φ) fun r => match r with
    | (.nxt, φ') => forGo body xs φ'
    | (.cnt, φ') => forGo body xs φ'
    | (.brk, φ') => ret (.nxt, φ')
    | (.ret v, φ') => ret (.ret v, φ')
def whGo (c : Sl → M Bool) (body : Sl → M (Fl × Sl)) : Nat → Sl → M (Fl × Sl)
  | 0, _ => bad
  | n + 1, φ => bnd (c φ) fun k => if k then bnd (body φ) fun r => match r with
    | (.nxt, φ') => whGo c body n φ'
    | (.cnt, φ') => whGo c body n φ'
    | (.brk, φ') => ret (.nxt, φ')
    | (.ret v, φ') => ret (.ret v, φ')
    else ret (.nxt, φ)
mutual
def exS : St → Sl → M (Fl × Sl)
  | .asg g e, φ => bnd (ev T cf e φ) fun v => bnd (noExc (setT T cf g v φ)) fun φ' => ret (.nxt, φ')
  | .par i j a b, φ => bnd (ev T cf a φ) fun v => bnd (ev T cf b φ) fun w => ret (.nxt, (φ.set i (some v)).set j (some w))
  | .par3 i j l a b c, φ => bnd (ev T cf a φ) fun u => bnd (ev T cf b φ) fun v => bnd (ev T cf c φ) fun w => ret (.nxt, ((φ.set i (some u)).set j (some v)).set l (some w))
  | .parN js es, φ => bnd (evs T cf es φ) fun vs => if decide (vs.length = js.length) && decide (vs.length ≤ 20) then ret (.nxt, setN φ js vs) else bad
  | .ret e, φ => bnd (ev T cf e φ) fun v => ret (.ret v, φ)
  | .retN, φ => ret (.ret (.d .non), φ)
  | .ite c a b, φ => bnd (evT T cf c φ) fun k => if k then exSs a φ else exSs b φ
  | .for_ g it body, φ => bnd (evI T cf it φ) fun xs => forGo (fun x φ => bnd (noExc (setT T cf g (.d x) φ)) fun φ' => exSs body φ') xs φ
  | .while c body, φ => whGo (evT T cf c) (exSs body) T.fuel φ
  | .app o e, φ => bnd (ev T cf o φ) fun u => bnd (isLst u) fun _ => bnd (ev T cf e φ) fun v => bnd (dataOf v) fun x => bnd (getBox u) fun c => match c with
    | .lst xs => if small xs.length then bnd (setBox u (.lst (xs ++ [x]))) fun _ => ret (.nxt, φ) else bad
    | _ => bad
  | .ext o e, φ => bnd (ev T cf o φ) fun u => bnd (isLst u) fun _ => bnd (ev T cf e φ) fun v => bnd (deref v) fun y => match y with
    | .lst ys => bnd (getBox u) fun c => match c with
      | .lst xs => if small (xs.length + ys.length) then bnd (setBox u (.lst (xs ++ ys))) fun _ => ret (.nxt, φ) else bad
      | _ => bad
    | _ => bad
  | .lrev o, φ => bnd (ev T cf o φ) fun u => bnd (getBox u) fun c => match c with
    | .lst xs => bnd (setBox u (.lst xs.reverse)) fun _ => ret (.nxt, φ)
    | _ => bad
  | .lpop o i, φ => bnd (ev T cf o φ) fun u => bnd (isLst u) fun _ => bnd (ev T cf i φ) fun w => bnd (dataOf w) fun y => bnd (asInt y) fun k => bnd (getBox u) fun c => match c with
    | .lst xs => if decide (0 ≤ k) && decide (k < xs.length) && small xs.length then bnd (setBox u (.lst (xs.eraseIdx k.toNat))) fun _ => ret (.nxt, φ) else bad
    | _ => bad
  | .drop e, φ => bnd (ev T cf e φ) fun _ => ret (.nxt, φ)
  | .sfld n o e, φ => bnd (ev T cf e φ) fun v => bnd (ev T cf o φ) fun u => bnd (dataOf v) fun x => bnd (getBox u) fun c => match c with
    | .obj k fs => if decide (fs.length ≤ 100) && (propOf T k n).isNone then bnd (setBox u (.obj k (putFld n x fs))) fun _ => ret (.nxt, φ) else bad
    | _ => bad
  | .raise c es, φ => bnd (evs T cf es φ) fun vs => bnd (datasOf vs) fun xs => M.raise ⟨c, xs⟩
  | .nev, _ => bad
  | .pass, φ => ret (.nxt, φ)
  | .brk, φ => ret (.brk, φ)
  | .cnt, φ => ret (.cnt, φ)
def exSs : Sts → Sl → M (Fl × Sl)
  | .nil, φ => ret (.nxt, φ)
  | .cons s ss, φ => bnd (exS s φ) fun r => match r with
    | (.nxt, φ') => exSs ss φ'
    | r => ret r
end
end
def startS (nl : Nat) (args : List VV) : Sl := args.map some ++ List.replicate (nl - args.length) none
def runF (T : Tbl) (cf : CF) (F : FDef) (args : List VV) : M VV := if args.length = F.np then bnd (exSs T cf F.body (startS F.nl args)) fun r => match r.1 with
  | .ret v => ret v
  | .nxt => ret (.d .non)
  | _ => bad
  else bad
def runL (T : Tbl) (cf : CF) (L : LDef) (args caps : List VV) : M VV := if args.length = L.np ∧ caps.length = L.nf ∧ (args ++ caps).all plainC = true then ev T cf L.body (startS L.nl (args ++ caps)) else bad
def callA (T : Tbl) : Nat → CF
  | 0, _, _ => bad
  | n + 1, .f f, args => match T.fs[f]? with
    | some F => runF T (callA T n) F args
    | none => bad
  | n + 1, .l L caps, args => runL T (callA T n) L args caps
end VI

namespace VI
open PySem
namespace K
/-- is_whole -/
def N0 : List Str := ["value"]
def B_is_whole : Sts := (.cons (.ret (.and (.isi (.var 0) .int) (.not (.isi (.var 0) .bool))))
  .nil)
/-- is_between -/
def N1 : List Str := ["value", "least", "most"]
def B_is_between : Sts := (.cons (.ret (.and (.call 0 (.cons (.var 0) .nil)) (.chn .le .le (.var 1) (.var 0) (.var 2))))
  .nil)
/-- is_up_to -/
def N2 : List Str := ["value", "most"]
def B_is_up_to : Sts := (.cons (.ret (.call 1 (.cons (.var 0) (.cons (.cst (.int 0)) (.cons (.var 1) .nil)))))
  .nil)
/-- is_one_of -/
def N3 : List Str := ["value", "words"]
def B_is_one_of : Sts := (.cons (.ret (.and (.isi (.var 0) .str) (.cmp .isin (.var 0) (.var 1))))
  .nil)
/-- is_word -/
def N4 : List Str := ["value", "sign"]
def B_is_word : Sts := (.cons (.ret (.and (.isi (.var 0) .str) (.and (.cmp .ne (.var 0) (.cst (.str ""))) (.blt .all (.cons (.fz (.comp (.cmp .isin (.var 1) (.glb 0)) (.nm 1) (.seq (.var 0)) .tt [1])) .nil)))))
  .nil)
/-- is_name -/
def N5 : List Str := ["value"]
def B_is_name : Sts := (.cons (.ret (.and (.call 4 (.cons (.var 0) .nil)) (.and (.cmp .le (.blt .len (.cons (.var 0) .nil)) (.glb 1)) (.cmp .notin (.var 0) (.glb 2)))))
  .nil)
/-- is_tuple_of -/
def N6 : List Str := ["value", "many"]
def B_is_tuple_of : Sts := (.cons (.ret (.and (.isi (.var 0) .tuple) (.cmp .eq (.blt .len (.cons (.var 0) .nil)) (.var 1))))
  .nil)
/-- is_pair -/
def N7 : List Str := ["value"]
def B_is_pair : Sts := (.cons (.ret (.call 6 (.cons (.var 0) (.cons (.cst (.int 2)) .nil))))
  .nil)
/-- wrong_in -/
def N8 : List Str := ["value", "least", "most", "is_right", "index", "each"]
def B_wrong_in_0 : Sts := (.cons (.ite (.or (.cmp .eq (.var 4) (.var 2)) (.not (.val (.callV 3 (.cons (.sl (.var 0) .no (.so (.var 4))) (.cons (.var 5) .nil))))))
  (.cons (.ret (.fz (.disp (.cons (.var 4) .nil))))
  .nil)
  .nil)
  .nil)
def B_wrong_in : Sts := (.cons (.ite (.or (.not (.val (.isi (.var 0) .tuple))) (.cmp .lt (.blt .len (.cons (.var 0) .nil)) (.var 1)))
  (.cons (.ret (.fz (.disp (.cons (.cst .non) .nil))))
  .nil)
  .nil)
  (.cons (.for_ (.tup (.cons (.nm 4) (.cons (.nm 5) .nil))) (.enum (.var 0))
  B_wrong_in_0)
  (.cons (.ret (.fz (.disp .nil)))
  .nil)))
/-- is_piece -/
def N9 : List Str := ["value"]
def B_is_piece : Sts := (.cons (.ite (.or (.not (.val (.call 6 (.cons (.var 0) (.cons (.cst (.int 4)) .nil))))) (.or (.not (.val (.call 5 (.cons (.ix (.var 0) (.cst (.int 0))) .nil)))) (.not (.val (.call 5 (.cons (.ix (.var 0) (.cst (.int 1))) .nil))))))
  (.cons (.ret (.cst (.bl false)))
  .nil)
  .nil)
  (.cons (.ret (.and (.call 2 (.cons (.ix (.var 0) (.cst (.int 2))) (.cons (.glb 4) .nil))) (.call 2 (.cons (.ix (.var 0) (.cst (.int 3))) (.cons (.glb 5) .nil)))))
  .nil))
/-- wrong_in_pieces -/
def N10 : List Str := ["value"]
def B_wrong_in_pieces : Sts := (.cons (.ret (.callL 8 (.cons (.var 0) (.cons (.cst (.int 1)) (.cons (.glb 3) .nil))) 2 0 ["ahead", "each"] (.and (.call 9 (.cons (.var 1) .nil)) (.or (.cmp .eq (.var 0) (.tup .nil)) (.cmp .lt (.ix (.ix (.var 0) (.neg (.cst (.int 1)))) (.cst (.int 0))) (.ix (.var 1) (.cst (.int 0)))))) []))
  .nil)
/-- names_of -/
def N11 : List Str := ["pieces", "piece"]
def B_names_of : Sts := (.cons (.ret (.blt .tuple (.cons (.fz (.comp (.ix (.var 1) (.cst (.int 0))) (.nm 1) (.seq (.var 0)) .tt [1])) .nil)))
  .nil)
/-- is_bar -/
def N12 : List Str := ["names", "value"]
def B_is_bar : Sts := (.cons (.ret (.and (.call 7 (.cons (.var 1) .nil)) (.and (.call 3 (.cons (.ix (.var 1) (.cst (.int 0))) (.cons (.var 0) .nil))) (.call 3 (.cons (.ix (.var 1) (.cst (.int 1))) (.cons (.var 0) .nil))))))
  .nil)
/-- wrong_in_bars -/
def N13 : List Str := ["pieces", "value", "names"]
def B_wrong_in_bars : Sts := (.cons (.asg (.nm 2) (.call 11 (.cons (.var 0) .nil)))
  (.cons (.ret (.callL 8 (.cons (.var 1) (.cons (.cst (.int 0)) (.cons (.glb 6) .nil))) 2 1 ["ahead", "each", "names"] (.and (.call 12 (.cons (.var 2) (.cons (.var 1) .nil))) (.or (.cmp .eq (.var 0) (.tup .nil)) (.cmp .lt (.ix (.var 0) (.neg (.cst (.int 1)))) (.var 1)))) [2]))
  .nil))
/-- reach_of -/
def N14 : List Str := ["rules", "piece"]
def B_reach_of : Sts := (.cons (.ret (.blt .maxL (.cons (.bin .add (.fz (.disp (.cons (.cst (.int 1)) .nil))) (.fz (.comp (.ix (.var 1) (.cst (.int 2))) (.nm 1) (.seq (.fld "pieces" (.var 0))) .tt [1]))) .nil)))
  .nil)
/-- piece_of -/
def N15 : List Str := ["rules", "name", "piece"]
def B_piece_of : Sts := (.cons (.ret (.ix (.fz (.comp (.var 2) (.nm 2) (.seq (.fld "pieces" (.var 0))) (.cmp .eq (.ix (.var 2) (.cst (.int 0))) (.var 1)) [2])) (.cst (.int 0))))
  .nil)
/-- may_follow -/
def N16 : List Str := ["rules", "ahead", "name", "_", "artist", "rest", "last", "other"]
def B_may_follow : Sts := (.cons (.asg (.tup (.cons (.nm 3) (.cons (.nm 4) (.cons (.nm 5) (.cons (.nm 3) .nil))))) (.call 15 (.cons (.var 0) (.cons (.var 2) .nil))))
  (.cons (.asg (.nm 6) (.sl (.var 1) (.so (.blt .max2 (.cons (.bin .sub (.blt .len (.cons (.var 1) .nil)) (.var 5)) (.cons (.cst (.int 0)) .nil)))) .no))
  (.cons (.ite (.val (.blt .any (.cons (.fz (.comp (.cmp .eq (.ix (.call 15 (.cons (.var 0) (.cons (.var 7) .nil))) (.cst (.int 1))) (.var 4)) (.nm 7) (.seq (.var 6)) .tt [7])) .nil)))
  (.cons (.ret (.cst (.bl false)))
  .nil)
  .nil)
  (.cons (.ret (.or (.cmp .eq (.var 1) (.tup .nil)) (.cmp .notin (.tup (.cons (.ix (.var 1) (.neg (.cst (.int 1)))) (.cons (.var 2) .nil))) (.fld "bars" (.var 0)))))
  .nil))))
/-- wrong_slot -/
def N17 : List Str := ["rules", "course", "names", "index", "name"]
def B_wrong_slot_0 : Sts := (.cons (.ite (.or (.not (.val (.call 3 (.cons (.var 4) (.cons (.var 2) .nil))))) (.not (.val (.call 16 (.cons (.var 0) (.cons (.sl (.var 1) .no (.so (.var 3))) (.cons (.var 4) .nil)))))))
  (.cons (.ret (.fz (.disp (.cons (.var 3) .nil))))
  .nil)
  .nil)
  .nil)
def B_wrong_slot : Sts := (.cons (.asg (.nm 2) (.call 11 (.cons (.fld "pieces" (.var 0)) .nil)))
  (.cons (.for_ (.tup (.cons (.nm 3) (.cons (.nm 4) .nil))) (.enum (.var 1))
  B_wrong_slot_0)
  (.cons (.ret (.fz (.disp .nil)))
  .nil)))
/-- wrong_in_course -/
def N18 : List Str := ["rules", "value"]
def B_wrong_in_course : Sts := (.cons (.ite (.or (.not (.val (.isi (.var 1) .tuple))) (.cmp .gt (.blt .len (.cons (.var 1) .nil)) (.glb 7)))
  (.cons (.ret (.fz (.disp (.cons (.cst .non) .nil))))
  .nil)
  .nil)
  (.cons (.ret (.call 17 (.cons (.var 0) (.cons (.var 1) .nil))))
  .nil))
/-- window_of -/
def N19 : List Str := ["rules", "course"]
def B_window_of : Sts := (.cons (.ret (.sl (.var 1) (.so (.blt .max2 (.cons (.bin .sub (.blt .len (.cons (.var 1) .nil)) (.call 14 (.cons (.var 0) .nil))) (.cons (.cst (.int 0)) .nil)))) .no))
  .nil)
/-- next_by -/
def N20 : List Str := ["rules", "window", "name"]
def B_next_by : Sts := (.cons (.ret (.blt .tuple (.cons (.fz (.comp (.var 2) (.nm 2) (.seq (.call 11 (.cons (.fld "pieces" (.var 0)) .nil))) (.val (.call 16 (.cons (.var 0) (.cons (.var 1) (.cons (.var 2) .nil))))) [2])) .nil)))
  .nil)
/-- window_behind -/
def N21 : List Str := ["rules", "window", "piece"]
def B_window_behind : Sts := (.cons (.ret (.call 19 (.cons (.var 0) (.cons (.tupS (.var 1) (.cons (.var 2) .nil)) .nil))))
  .nil)
/-- steps_by -/
def N22 : List Str := ["rules", "found", "line", "at", "here", "piece", "_", "there"]
def B_steps_by_0 : Sts := (.cons (.asg (.tup (.cons (.nm 4) (.cons (.nm 3) .nil))) (.tup (.cons (.ix (.var 2) (.var 3)) (.cons (.bin .add (.var 3) (.cst (.int 1))) .nil))))
  (.cons (.asg (.sub (.var 1) (.var 4)) (.fz (.comp (.tup (.cons (.var 5) (.cons (.call 21 (.cons (.var 0) (.cons (.var 4) (.cons (.var 5) .nil)))) .nil))) (.nm 5) (.seq (.call 20 (.cons (.var 0) (.cons (.var 4) .nil)))) .tt [5])))
  (.cons (.ext (.var 2) (.fz (.comp (.var 7) (.tup (.cons (.nm 6) (.cons (.nm 7) .nil))) (.seq (.ix (.var 1) (.var 4))) (.cmp .gt (.blt .len (.cons (.var 7) .nil)) (.blt .len (.cons (.var 4) .nil))) [6, 7])))
  .nil)))
def B_steps_by : Sts := (.cons (.par3 1 2 3 (.bx (.dnew true)) (.bx (.disp (.cons (.tup .nil) .nil))) (.cst (.int 0)))
  (.cons (.while (.cmp .lt (.var 3) (.blt .len (.cons (.var 2) .nil)))
  B_steps_by_0)
  (.cons (.ret (.var 1))
  .nil)))
/-- how_many_by -/
def N23 : List Str := ["steps", "window", "slots", "counts", "_", "later", "here", "many", "there"]
def B_how_many_by_0 : Sts := (.cons (.asg (.sub (.var 5) (.var 8)) (.bin .add (.get2 (.var 5) (.var 8) (.cst (.int 0))) (.var 7)))
  .nil)
def B_how_many_by_1 : Sts := (.cons (.for_ (.tup (.cons (.nm 4) (.cons (.nm 8) .nil))) (.seq (.ix (.var 0) (.var 6)))
  B_how_many_by_0)
  .nil)
def B_how_many_by_2 : Sts := (.cons (.asg (.nm 5) (.bx (.dnew true)))
  (.cons (.for_ (.tup (.cons (.nm 6) (.cons (.nm 7) .nil))) (.items (.var 3))
  B_how_many_by_1)
  (.cons (.asg (.nm 3) (.var 5))
  .nil)))
def B_how_many_by : Sts := (.cons (.asg (.nm 3) (.bx (.dd1 (.var 1) (.cst (.int 1)))))
  (.cons (.for_ (.nm 4) (.rng1 (.var 2))
  B_how_many_by_2)
  (.cons (.ret (.sumV (.var 3)))
  .nil)))
/-- wrong_in_record -/
def N24 : List Str := ["rules", "value", "names"]
def B_wrong_in_record : Sts := (.cons (.asg (.nm 2) (.call 11 (.cons (.fld "pieces" (.var 0)) .nil)))
  (.cons (.ret (.callL 8 (.cons (.var 1) (.cons (.cst (.int 1)) (.cons (.glb 8) .nil))) 2 1 ["ahead", "each", "names"] (.or (.isN (.var 1)) (.call 3 (.cons (.var 1) (.cons (.var 2) .nil)))) [2]))
  .nil))
/-- is_let -/
def N25 : List Str := ["told", "piece"]
def B_is_let : Sts := (.cons (.ret (.or (.isN (.var 0)) (.cmp .eq (.var 0) (.var 1))))
  .nil)
/-- counts_ahead -/
def N26 : List Str := ["steps", "record", "found", "told", "later", "here", "many", "piece", "there"]
def B_counts_ahead_0 : Sts := (.cons (.ite (.val (.call 25 (.cons (.var 3) (.cons (.var 7) .nil))))
  (.cons (.asg (.sub (.var 4) (.var 8)) (.bin .add (.get2 (.var 4) (.var 8) (.cst (.int 0))) (.var 6)))
  .nil)
  .nil)
  .nil)
def B_counts_ahead_1 : Sts := (.cons (.for_ (.tup (.cons (.nm 7) (.cons (.nm 8) .nil))) (.seq (.ix (.var 0) (.var 5)))
  B_counts_ahead_0)
  .nil)
def B_counts_ahead_2 : Sts := (.cons (.asg (.nm 4) (.bx (.dnew true)))
  (.cons (.for_ (.tup (.cons (.nm 5) (.cons (.nm 6) .nil))) (.items (.ix (.var 2) (.neg (.cst (.int 1)))))
  B_counts_ahead_1)
  (.cons (.app (.var 2) (.frzL 4))
  .nil)))
def B_counts_ahead : Sts := (.cons (.asg (.nm 2) (.bx (.disp (.cons (.fzL (.dd1 (.tup .nil) (.cst (.int 1)))) .nil))))
  (.cons (.for_ (.nm 3) (.seq (.var 1))
  B_counts_ahead_2)
  (.cons (.ret (.frz 2))
  .nil)))
/-- how_many_fill_by -/
def N27 : List Str := ["rules", "record"]
def B_how_many_fill_by : Sts := (.cons (.ret (.sumV (.ix (.call 26 (.cons (.call 22 (.cons (.var 0) .nil)) (.cons (.var 1) .nil))) (.neg (.cst (.int 1))))))
  .nil)
/-- check_rules -/
def N28 : List Str := ["rules"]
def B_check_rules : Sts := (.cons (.ite (.not (.val (.isi (.var 0) (.own 0))))
  (.cons .nev
  .nil)
  .nil)
  .nil)
/-- check_number -/
def N29 : List Str := ["number", "least", "most"]
def B_check_number : Sts := (.cons (.ite (.not (.val (.call 1 (.cons (.var 0) (.cons (.var 1) (.cons (.var 2) .nil))))))
  (.cons .nev
  .nil)
  .nil)
  .nil)
/-- check_slots -/
def N30 : List Str := ["slots"]
def B_check_slots : Sts := (.cons (.drop (.call 29 (.cons (.var 0) (.cons (.cst (.int 0)) (.cons (.glb 7) .nil)))))
  .nil)
/-- check_course -/
def N31 : List Str := ["rules", "course", "index"]
def B_check_course_0 : Sts := (.cons .nev
  .nil)
def B_check_course : Sts := (.cons (.drop (.call 28 (.cons (.var 0) .nil)))
  (.cons (.for_ (.nm 2) (.seq (.call 18 (.cons (.var 0) (.cons (.var 1) .nil))))
  B_check_course_0)
  .nil))
/-- check_record -/
def N32 : List Str := ["rules", "record", "index"]
def B_check_record_0 : Sts := (.cons .nev
  .nil)
def B_check_record : Sts := (.cons (.drop (.call 28 (.cons (.var 0) .nil)))
  (.cons (.for_ (.nm 2) (.seq (.call 24 (.cons (.var 0) (.cons (.var 1) .nil))))
  B_check_record_0)
  .nil))
/-- how_many_fill -/
def N33 : List Str := ["rules", "record"]
def B_how_many_fill : Sts := (.cons (.drop (.call 32 (.cons (.var 0) (.cons (.var 1) .nil))))
  (.cons (.ret (.call 27 (.cons (.var 0) (.cons (.var 1) .nil))))
  .nil))
/-- how_many -/
def N34 : List Str := ["rules", "course", "slots"]
def B_how_many : Sts := (.cons (.drop (.call 31 (.cons (.var 0) (.cons (.var 1) .nil))))
  (.cons (.drop (.call 30 (.cons (.var 2) .nil)))
  (.cons (.ret (.call 23 (.cons (.call 22 (.cons (.var 0) .nil)) (.cons (.call 19 (.cons (.var 0) (.cons (.var 1) .nil))) (.cons (.var 2) .nil)))))
  .nil)))
/-- _law_well -/
def N35 : List Str := ["script", "lap", "stirred", "cell", "own"]
def B__law_well_0 : Sts := (.cons (.asg (.nm 2) (.bin .mod (.blt .int (.cons (.bin .add (.bin .add (.bin .mul (.var 2) (.cst (.int 48271))) (.bin .mod (.blt .int (.cons (.var 3) .nil)) (.cst (.int 2147483549)))) (.cst (.int 23))) .nil)) (.cst (.int 2147483587))))
  .nil)
def B__law_well : Sts := (.cons (.asg (.nm 2) (.bin .add (.cst (.int 704969)) (.bin .mul (.cst (.int 6121)) (.var 1))))
  (.cons (.for_ (.nm 3) (.seq (.sl (.var 0) .no (.so (.cst (.int 16)))))
  B__law_well_0)
  (.cons (.asg (.nm 4) (.ite (.cmp .lt (.var 1) (.blt .len (.cons (.var 0) .nil))) (.blt .int (.cons (.ix (.var 0) (.var 1)) .nil)) (.cst (.int 0))))
  (.cons (.asg (.nm 2) (.bin .mod (.blt .int (.cons (.bin .add (.bin .add (.bin .mul (.var 2) (.cst (.int 53))) (.bin .mul (.bin .mod (.blt .int (.cons (.var 4) .nil)) (.cst (.int 2147483549))) (.cst (.int 15013)))) (.cst (.int 11))) .nil)) (.cst (.int 2147483587))))
  (.cons (.ret (.bx (.disp (.cons (.ite (.or (.cmp .lt (.var 4) (.cst (.int 0))) (.cmp .ge (.var 4) (.bin .pow (.cst (.int 10)) (.cst (.int 15))))) (.blt .abs (.cons (.var 4) .nil)) (.cst (.int 0))) (.cons (.var 2) (.cons (.cst (.int 0)) .nil))))))
  .nil)))))
/-- _law_draw -/
def N36 : List Str := ["well", "limit", "figure", "mixed"]
def B__law_draw : Sts := (.cons (.ite (.cmp .gt (.ix (.var 0) (.cst (.int 0))) (.cst (.int 0)))
  (.cons (.asg (.tup (.cons (.sub (.var 0) (.cst (.int 0))) (.cons (.nm 2) .nil))) (.blt .divmod (.cons (.ix (.var 0) (.cst (.int 0))) (.cons (.var 1) .nil))))
  (.cons (.ret (.var 2))
  .nil))
  .nil)
  (.cons (.asg (.sub (.var 0) (.cst (.int 2))) (.bin .add (.ix (.var 0) (.cst (.int 2))) (.cst (.int 1))))
  (.cons (.asg (.nm 3) (.bin .mod (.blt .int (.cons (.bin .add (.bin .add (.bin .mul (.ix (.var 0) (.cst (.int 1))) (.cst (.int 40009))) (.bin .mul (.cst (.int 15013)) (.ix (.var 0) (.cst (.int 2))))) (.cst (.int 3))) .nil)) (.cst (.int 2147483587))))
  (.cons (.asg (.sub (.var 0) (.cst (.int 1))) (.bin .mod (.blt .int (.cons (.bin .add (.bin .mul (.var 3) (.bin .add (.bin .mod (.blt .int (.cons (.var 3) .nil)) (.cst (.int 5003))) (.cst (.int 20011)))) (.ix (.var 0) (.cst (.int 2)))) .nil)) (.cst (.int 2147483587))))
  (.cons (.ret (.bin .mod (.blt .int (.cons (.bin .fdiv (.ix (.var 0) (.cst (.int 1))) (.cst (.int 1031))) .nil)) (.var 1)))
  .nil)))))
/-- _law_of -/
def N37 : List Str := ["well", "some"]
def B__law_of : Sts := (.cons (.ret (.ix (.var 1) (.call 36 (.cons (.var 0) (.cons (.blt .len (.cons (.var 1) .nil)) .nil)))))
  .nil)
/-- _law_same -/
def N38 : List Str := ["one", "two", "alike", "k"]
def B__law_same : Sts := (.cons (.ite (.val (.isi (.var 1) .tuple))
  (.cons (.ite (.or (.not (.val (.isi (.var 0) .tuple))) (.cmp .ne (.blt .len (.cons (.var 0) .nil)) (.blt .len (.cons (.var 1) .nil))))
  (.cons (.ret (.cst (.bl false)))
  .nil)
  .nil)
  (.cons (.ret (.blt .all (.cons (.fz (.comp (.call 38 (.cons (.ix (.var 0) (.var 3)) (.cons (.ix (.var 1) (.var 3)) .nil))) (.nm 3) (.rng1 (.blt .len (.cons (.var 1) .nil))) .tt [3])) .nil)))
  .nil))
  .nil)
  (.cons (.ite (.val (.isi (.var 1) .bool))
  (.cons (.ret (.and (.isi (.var 0) .bool) (.cmp .eq (.var 0) (.var 1))))
  .nil)
  .nil)
  (.cons (.ite (.val (.isi (.var 1) .int))
  (.cons (.ret (.and (.isi (.var 0) .int) (.and (.not (.isi (.var 0) .bool)) (.cmp .eq (.var 0) (.var 1)))))
  .nil)
  .nil)
  (.cons (.ite (.val (.isi (.var 1) .str))
  (.cons (.ret (.and (.isi (.var 0) .str) (.cmp .eq (.var 0) (.var 1))))
  .nil)
  .nil)
  (.cons (.ite (.isN (.var 1))
  (.cons (.ret (.isN (.var 0)))
  .nil)
  .nil)
  (.cons (.asg (.nm 2) (.and (.cmp .eq (.isi (.var 0) .list) (.isi (.var 1) .list)) (.cmp .eq (.isi (.var 0) .dict) (.isi (.var 1) .dict))))
  (.cons (.ret (.and (.var 2) (.and (.not (.isi (.var 0) .tuple)) (.cmp .is (.cmp .eq (.var 0) (.var 1)) (.cst (.bl true))))))
  .nil)))))))
/-- _law_sorted -/
def N39 : List Str := ["some", "found", "each"]
def B__law_sorted_0 : Sts := (.cons (.ite (.or (.cmp .eq (.var 1) (.fz (.disp .nil))) (.cmp .ne (.ix (.var 1) (.neg (.cst (.int 1)))) (.var 2)))
  (.cons (.app (.var 1) (.var 2))
  .nil)
  .nil)
  .nil)
def B__law_sorted : Sts := (.cons (.asg (.nm 1) (.bx (.disp .nil)))
  (.cons (.for_ (.nm 2) (.seq (.blt .sorted (.cons (.var 0) .nil)))
  B__law_sorted_0)
  (.cons (.ret (.blt .tuple (.cons (.var 1) .nil)))
  .nil)))
/-- _law_words -/
def N40 : List Str := ["words"]
def B__law_words : Sts := (.cons (.asg (.nm 0) (.cst (.str "all bar can channel ever fail in last log mean next no none of open piece play quit round rule rules safe")))
  (.cons (.ret (.fz (.split (.bin .add (.var 0) (.cst (.str " slot slots station strike sure undo until yes"))) " ")))
  .nil))
/-- _law_names -/
def N41 : List Str := ["well", "many", "letters", "found", "turn", "name", "size", "lap", "at"]
def B__law_names_0 : Sts := (.cons (.asg (.nm 5) (.bin .add (.var 5) (.call 37 (.cons (.var 0) (.cons (.var 2) .nil)))))
  .nil)
def B__law_names_1 : Sts := (.cons (.par 5 6 (.cst (.str "")) (.call 37 (.cons (.var 0) (.cons (.tup (.cons (.cst (.int 0)) (.cons (.cst (.int 0)) (.cons (.cst (.int 1)) (.cons (.cst (.int 2)) (.cons (.cst (.int 3)) (.cons (.cst (.int 7)) .nil))))))) .nil))))
  (.cons (.for_ (.nm 7) (.rng1 (.var 6))
  B__law_names_0)
  (.cons (.asg (.nm 8) (.call 36 (.cons (.var 0) (.cons (.bin .add (.var 6) (.cst (.int 1))) .nil))))
  (.cons (.asg (.nm 5) (.bin .add (.bin .add (.sl (.var 5) .no (.so (.var 8))) (.ix (.var 2) (.var 4))) (.sl (.var 5) (.so (.var 8)) .no)))
  (.cons (.app (.var 3) (.ite (.or (.cmp .isin (.var 5) (.var 3)) (.cmp .isin (.var 5) (.call 40 .nil))) (.bin .mul (.ix (.var 2) (.var 4)) (.cst (.int 8))) (.var 5)))
  .nil)))))
def B__law_names : Sts := (.cons (.par 2 3 (.cst (.str "abcdefghijklmnopqrstuvwxyz")) (.bx (.disp .nil)))
  (.cons (.for_ (.nm 4) (.rng1 (.var 1))
  B__law_names_1)
  (.cons (.ret (.blt .tuple (.cons (.blt .sorted (.cons (.var 3) .nil)) .nil)))
  .nil)))
/-- _law_rules -/
def N42 : List Str := ["well", "most", "rest", "names", "pieces", "artists", "name", "bars", "lap"]
def B__law_rules_0 : Sts := (.cons (.app (.var 4) (.tup (.cons (.var 6) (.cons (.call 37 (.cons (.var 0) (.cons (.var 5) .nil))) (.cons (.call 36 (.cons (.var 0) (.cons (.bin .add (.var 2) (.cst (.int 1))) .nil))) (.cons (.call 36 (.cons (.var 0) (.cons (.cst (.int 100)) .nil))) .nil))))))
  .nil)
def B__law_rules : Sts := (.cons (.parN [3, 4] (.cons (.call 41 (.cons (.var 0) (.cons (.bin .add (.cst (.int 1)) (.call 36 (.cons (.var 0) (.cons (.var 1) .nil)))) .nil))) (.cons (.bx (.disp .nil)) .nil)))
  (.cons (.asg (.nm 5) (.call 41 (.cons (.var 0) (.cons (.bin .add (.cst (.int 1)) (.call 36 (.cons (.var 0) (.cons (.blt .len (.cons (.var 3) .nil)) .nil)))) .nil))))
  (.cons (.for_ (.nm 6) (.seq (.var 3))
  B__law_rules_0)
  (.cons (.asg (.nm 7) (.fz (.comp (.tup (.cons (.call 37 (.cons (.var 0) (.cons (.var 3) .nil))) (.cons (.call 37 (.cons (.var 0) (.cons (.var 3) .nil))) .nil))) (.nm 8) (.rng1 (.call 36 (.cons (.var 0) (.cons (.call 37 (.cons (.var 0) (.cons (.tup (.cons (.cst (.int 1)) (.cons (.cst (.int 4)) (.cons (.cst (.int 9)) .nil)))) .nil))) .nil)))) .tt [8])))
  (.cons (.ret (.tup (.cons (.blt .tuple (.cons (.var 4) .nil)) (.cons (.call 39 (.cons (.var 7) .nil)) .nil))))
  .nil)))))
/-- _law_made -/
def N43 : List Str := ["parts"]
def B__law_made : Sts := (.cons (.ret (.mk 0 54 (.cons (.ix (.var 0) (.cst (.int 0))) (.cons (.ix (.var 0) (.cst (.int 1))) .nil))))
  .nil)
/-- _law_reach -/
def N44 : List Str := ["parts", "piece"]
def B__law_reach : Sts := (.cons (.ret (.blt .maxL (.cons (.bin .add (.fz (.disp (.cons (.cst (.int 1)) .nil))) (.fz (.comp (.ix (.var 1) (.cst (.int 2))) (.nm 1) (.seq (.ix (.var 0) (.cst (.int 0)))) .tt [1]))) .nil)))
  .nil)
/-- _law_name_list -/
def N45 : List Str := ["parts", "piece"]
def B__law_name_list : Sts := (.cons (.ret (.fz (.comp (.ix (.var 1) (.cst (.int 0))) (.nm 1) (.seq (.ix (.var 0) (.cst (.int 0)))) .tt [1])))
  .nil)
/-- _law_may -/
def N46 : List Str := ["parts", "course", "name", "told", "rest", "near", "piece", "other"]
def B__law_may : Sts := (.cons (.asg (.nm 3) (.fz (.dpr (.fz (.comp (.tup (.cons (.ix (.var 6) (.cst (.int 0))) (.cons (.var 6) .nil))) (.nm 6) (.seq (.ix (.var 0) (.cst (.int 0)))) .tt [6])))))
  (.cons (.ite (.and (.cmp .ne (.var 1) (.tup .nil)) (.cmp .isin (.tup (.cons (.ix (.var 1) (.neg (.cst (.int 1)))) (.cons (.var 2) .nil))) (.ix (.var 0) (.cst (.int 1)))))
  (.cons (.ret (.cst (.bl false)))
  .nil)
  .nil)
  (.cons (.asg (.nm 4) (.ix (.ix (.var 3) (.var 2)) (.cst (.int 2))))
  (.cons (.asg (.nm 5) (.sl (.var 1) (.so (.blt .max2 (.cons (.cst (.int 0)) (.cons (.bin .sub (.blt .len (.cons (.var 1) .nil)) (.var 4)) .nil)))) .no))
  (.cons (.ret (.cmp .eq (.fz (.comp (.var 7) (.nm 7) (.seq (.var 5)) (.cmp .eq (.ix (.ix (.var 3) (.var 7)) (.cst (.int 1))) (.ix (.ix (.var 3) (.var 2)) (.cst (.int 1)))) [7])) (.fz (.disp .nil))))
  .nil)))))
/-- _law_window -/
def N47 : List Str := ["parts", "course"]
def B__law_window : Sts := (.cons (.ret (.sl (.var 1) (.so (.blt .max2 (.cons (.cst (.int 0)) (.cons (.bin .sub (.blt .len (.cons (.var 1) .nil)) (.call 44 (.cons (.var 0) .nil))) .nil)))) .no))
  .nil)
/-- _law_next -/
def N48 : List Str := ["parts", "course", "name"]
def B__law_next : Sts := (.cons (.ret (.fz (.comp (.var 2) (.nm 2) (.seq (.call 45 (.cons (.var 0) .nil))) (.val (.call 46 (.cons (.var 0) (.cons (.var 1) (.cons (.var 2) .nil))))) [2])))
  .nil)
/-- _law_course -/
def N49 : List Str := ["well", "parts", "slots", "found", "lap", "some"]
def B__law_course_0 : Sts := (.cons (.asg (.nm 5) (.call 48 (.cons (.var 1) (.cons (.var 3) .nil))))
  (.cons (.asg (.nm 3) (.bin .add (.var 3) (.ite (.cmp .ne (.var 5) (.fz (.disp .nil))) (.tup (.cons (.call 37 (.cons (.var 0) (.cons (.var 5) .nil))) .nil)) (.tup .nil))))
  .nil))
def B__law_course : Sts := (.cons (.asg (.nm 3) (.tup .nil))
  (.cons (.for_ (.nm 4) (.rng1 (.var 2))
  B__law_course_0)
  (.cons (.ret (.var 3))
  .nil)))
/-- _law_record -/
def N50 : List Str := ["well", "parts", "slots", "course", "found", "name", "way"]
def B__law_record_0 : Sts := (.cons (.asg (.nm 6) (.call 36 (.cons (.var 0) (.cons (.call 37 (.cons (.var 0) (.cons (.tup (.cons (.cst (.int 3)) (.cons (.cst (.int 6)) .nil))) .nil))) .nil))))
  (.cons (.app (.var 4) (.ite (.cmp .eq (.var 6) (.cst (.int 0))) (.cst .non) (.ite (.cmp .eq (.var 6) (.cst (.int 1))) (.call 37 (.cons (.var 0) (.cons (.call 45 (.cons (.var 1) .nil)) .nil))) (.var 5))))
  .nil))
def B__law_record : Sts := (.cons (.par 3 4 (.call 49 (.cons (.var 0) (.cons (.var 1) (.cons (.var 2) .nil)))) (.bx (.disp .nil)))
  (.cons (.for_ (.nm 5) (.seq (.ite (.cmp .ne (.var 3) (.tup .nil)) (.var 3) (.tup (.cons (.ix (.call 45 (.cons (.var 1) .nil)) (.cst (.int 0))) .nil))))
  B__law_record_0)
  (.cons (.ret (.blt .tuple (.cons (.var 4) .nil)))
  .nil)))
/-- _law_many -/
def N51 : List Str := ["parts", "record", "ends", "name", "new", "end", "piece", "then"]
def B__law_many_0 : Sts := (.cons (.ite (.or (.isN (.var 3)) (.cmp .eq (.var 3) (.var 6)))
  (.cons (.asg (.nm 7) (.call 47 (.cons (.var 0) (.cons (.bin .add (.var 5) (.tup (.cons (.var 6) .nil))) .nil))))
  (.cons (.asg (.sub (.var 4) (.var 7)) (.bin .add (.get2 (.var 4) (.var 7) (.cst (.int 0))) (.ix (.var 2) (.var 5))))
  .nil))
  .nil)
  .nil)
def B__law_many_1 : Sts := (.cons (.for_ (.nm 6) (.seq (.call 48 (.cons (.var 0) (.cons (.var 5) .nil))))
  B__law_many_0)
  .nil)
def B__law_many_2 : Sts := (.cons (.asg (.nm 4) (.bx (.dnew true)))
  (.cons (.for_ (.nm 5) (.seq (.fz (.lkeys (.var 2))))
  B__law_many_1)
  (.cons (.asg (.nm 2) (.var 4))
  .nil)))
def B__law_many : Sts := (.cons (.asg (.nm 2) (.bx (.dd1 (.tup .nil) (.cst (.int 1)))))
  (.cons (.for_ (.nm 3) (.seq (.var 1))
  B__law_many_2)
  (.cons (.ret (.blt .sum (.cons (.fz (.lvals (.var 2))) .nil)))
  .nil)))
/-- _law_right -/
def N52 : List Str := ["well", "parts", "rules", "record", "due", "at", "less", "lost"]
def B__law_right : Sts := (.cons (.asg (.nm 1) (.call 42 (.cons (.var 0) (.cons (.cst (.int 6)) (.cons (.call 37 (.cons (.var 0) (.cons (.tup (.cons (.cst (.int 1)) (.cons (.cst (.int 2)) (.cons (.cst (.int 3)) .nil)))) .nil))) .nil)))))
  (.cons (.par 2 3 (.call 43 (.cons (.var 1) .nil)) (.call 50 (.cons (.var 0) (.cons (.var 1) (.cons (.bin .add (.cst (.int 1)) (.call 36 (.cons (.var 0) (.cons (.call 37 (.cons (.var 0) (.cons (.tup (.cons (.cst (.int 5)) (.cons (.cst (.int 20)) .nil))) .nil))) .nil)))) .nil)))))
  (.cons (.par 4 5 (.call 51 (.cons (.var 1) (.cons (.var 3) .nil))) (.call 36 (.cons (.var 0) (.cons (.blt .len (.cons (.var 3) .nil)) .nil))))
  (.cons (.ite (.not (.val (.call 38 (.cons (.tup (.cons (.call 33 (.cons (.var 2) (.cons (.var 3) .nil))) (.cons (.callK 33 .nil (.cons (.var 3) (.cons (.var 2) .nil)) [1, 0]) .nil))) (.cons (.tup (.cons (.var 4) (.cons (.var 4) .nil))) .nil)))))
  (.cons (.ret (.cst (.bl false)))
  .nil)
  .nil)
  (.cons (.asg (.nm 6) (.bin .add (.bin .add (.sl (.var 3) .no (.so (.var 5))) (.tup (.cons (.cst .non) .nil))) (.sl (.var 3) (.so (.bin .add (.var 5) (.cst (.int 1)))) .no)))
  (.cons (.ite (.or (.cmp .lt (.call 33 (.cons (.var 2) (.cons (.var 6) .nil))) (.var 4)) (.not (.val (.call 38 (.cons (.call 33 (.cons (.var 2) (.cons (.var 6) .nil))) (.cons (.call 51 (.cons (.var 1) (.cons (.var 6) .nil))) .nil))))))
  (.cons (.ret (.cst (.bl false)))
  .nil)
  .nil)
  (.cons (.asg (.nm 7) (.bin .mul (.tup (.cons (.cst .non) .nil)) (.blt .len (.cons (.var 3) .nil))))
  (.cons (.ret (.call 38 (.cons (.tup (.cons (.call 33 (.cons (.var 2) (.cons (.var 7) .nil))) (.cons (.call 34 (.cons (.var 2) (.cons (.tup .nil) (.cons (.blt .len (.cons (.var 3) .nil)) .nil)))) .nil))) (.cons (.bin .mul (.tup (.cons (.call 51 (.cons (.var 1) (.cons (.var 7) .nil))) .nil)) (.cst (.int 2))) .nil))))
  .nil))))))))
/-- law -/
def N53 : List Str := ["script", "wells", "lap"]
def B_law : Sts := (.cons (.asg (.nm 1) (.compB (.call 35 (.cons (.var 0) (.cons (.var 2) .nil))) (.nm 2) (.rng1 (.blt .max2 (.cons (.cst (.int 1)) (.cons (.blt .min2 (.cons (.blt .len (.cons (.var 0) .nil)) (.cons (.cst (.int 3)) .nil))) .nil)))) [2]))
  (.cons (.ret (.blt .all (.cons (.fz (.comp (.call 52 (.cons (.ixB 1 (.bin .mod (.blt .int (.cons (.var 2) .nil)) (.lenB 1))) .nil)) (.nm 2) (.rng1 (.cst (.int 10))) .tt [2])) .nil)))
  .nil))
/-- Rules.__init__ -/
def N54 : List Str := ["self", "pieces", "bars", "index"]
def B_Rules_init_0 : Sts := (.cons .nev
  .nil)
def B_Rules_init_1 : Sts := (.cons .nev
  .nil)
def B_Rules_init : Sts := (.cons (.for_ (.nm 3) (.seq (.call 10 (.cons (.var 1) .nil)))
  B_Rules_init_0)
  (.cons (.for_ (.nm 3) (.seq (.call 13 (.cons (.var 1) (.cons (.var 2) .nil))))
  B_Rules_init_1)
  (.cons (.sfld "told" (.var 0) (.tup (.cons (.var 1) (.cons (.var 2) .nil))))
  .nil)))
/-- Rules.pieces -/
def N55 : List Str := ["self"]
def B_Rules_pieces : Sts := (.cons (.ret (.ix (.fld "told" (.var 0)) (.cst (.int 0))))
  .nil)
/-- Rules.bars -/
def N56 : List Str := ["self"]
def B_Rules_bars : Sts := (.cons (.ret (.ix (.fld "told" (.var 0)) (.cst (.int 1))))
  .nil)
/-- Rules.parts -/
def N57 : List Str := ["self"]
def B_Rules_parts : Sts := (.cons (.ret (.fld "told" (.var 0)))
  .nil)
def fs : List FDef := [⟨1, 1, B_is_whole⟩, ⟨3, 3, B_is_between⟩, ⟨2, 2, B_is_up_to⟩, ⟨2, 2, B_is_one_of⟩, ⟨1, 2, B_is_word⟩, ⟨1, 1, B_is_name⟩, ⟨2, 2, B_is_tuple_of⟩, ⟨1, 1, B_is_pair⟩, ⟨4, 6, B_wrong_in⟩, ⟨1, 1, B_is_piece⟩, ⟨1, 1, B_wrong_in_pieces⟩, ⟨1, 2, B_names_of⟩, ⟨2, 2, B_is_bar⟩, ⟨2, 3, B_wrong_in_bars⟩, ⟨1, 2, B_reach_of⟩, ⟨2, 3, B_piece_of⟩, ⟨3, 8, B_may_follow⟩, ⟨2, 5, B_wrong_slot⟩, ⟨2, 2, B_wrong_in_course⟩, ⟨2, 2, B_window_of⟩, ⟨2, 3, B_next_by⟩, ⟨3, 3, B_window_behind⟩, ⟨1, 8, B_steps_by⟩, ⟨3, 9, B_how_many_by⟩, ⟨2, 3, B_wrong_in_record⟩, ⟨2, 2, B_is_let⟩, ⟨2, 9, B_counts_ahead⟩, ⟨2, 2, B_how_many_fill_by⟩, ⟨1, 1, B_check_rules⟩, ⟨3, 3, B_check_number⟩, ⟨1, 1, B_check_slots⟩, ⟨2, 3, B_check_course⟩, ⟨2, 3, B_check_record⟩, ⟨2, 2, B_how_many_fill⟩, ⟨3, 3, B_how_many⟩, ⟨2, 5, B__law_well⟩, ⟨2, 4, B__law_draw⟩, ⟨2, 2, B__law_of⟩, ⟨2, 4, B__law_same⟩, ⟨1, 3, B__law_sorted⟩, ⟨0, 1, B__law_words⟩, ⟨2, 9, B__law_names⟩, ⟨3, 9, B__law_rules⟩, ⟨1, 1, B__law_made⟩, ⟨1, 2, B__law_reach⟩, ⟨1, 2, B__law_name_list⟩, ⟨3, 8, B__law_may⟩, ⟨2, 2, B__law_window⟩, ⟨2, 3, B__law_next⟩, ⟨3, 6, B__law_course⟩, ⟨3, 7, B__law_record⟩, ⟨2, 8, B__law_many⟩, ⟨1, 8, B__law_right⟩, ⟨1, 3, B_law⟩, ⟨3, 4, B_Rules_init⟩, ⟨1, 1, B_Rules_pieces⟩, ⟨1, 1, B_Rules_bars⟩, ⟨1, 1, B_Rules_parts⟩]
def Ns : List (List Str) := [N0, N1, N2, N3, N4, N5, N6, N7, N8, N9, N10, N11, N12, N13, N14, N15, N16, N17, N18, N19, N20, N21, N22, N23, N24, N25, N26, N27, N28, N29, N30, N31, N32, N33, N34, N35, N36, N37, N38, N39, N40, N41, N42, N43, N44, N45, N46, N47, N48, N49, N50, N51, N52, N53, N54, N55, N56, N57]
def pss : List (List Str) := [[("value" : Str)], [("value" : Str), ("least" : Str), ("most" : Str)], [("value" : Str), ("most" : Str)], [("value" : Str), ("words" : Str)], [("value" : Str)], [("value" : Str)], [("value" : Str), ("many" : Str)], [("value" : Str)], [("value" : Str), ("least" : Str), ("most" : Str), ("is_right" : Str)], [("value" : Str)], [("value" : Str)], [("pieces" : Str)], [("names" : Str), ("value" : Str)], [("pieces" : Str), ("value" : Str)], [("rules" : Str)], [("rules" : Str), ("name" : Str)], [("rules" : Str), ("ahead" : Str), ("name" : Str)], [("rules" : Str), ("course" : Str)], [("rules" : Str), ("value" : Str)], [("rules" : Str), ("course" : Str)], [("rules" : Str), ("window" : Str)], [("rules" : Str), ("window" : Str), ("piece" : Str)], [("rules" : Str)], [("steps" : Str), ("window" : Str), ("slots" : Str)], [("rules" : Str), ("value" : Str)], [("told" : Str), ("piece" : Str)], [("steps" : Str), ("record" : Str)], [("rules" : Str), ("record" : Str)], [("rules" : Str)], [("number" : Str), ("least" : Str), ("most" : Str)], [("slots" : Str)], [("rules" : Str), ("course" : Str)], [("rules" : Str), ("record" : Str)], [("rules" : Str), ("record" : Str)], [("rules" : Str), ("course" : Str), ("slots" : Str)], [("script" : Str), ("lap" : Str)], [("well" : Str), ("limit" : Str)], [("well" : Str), ("some" : Str)], [("one" : Str), ("two" : Str)], [("some" : Str)], [], [("well" : Str), ("many" : Str)], [("well" : Str), ("most" : Str), ("rest" : Str)], [("parts" : Str)], [("parts" : Str)], [("parts" : Str)], [("parts" : Str), ("course" : Str), ("name" : Str)], [("parts" : Str), ("course" : Str)], [("parts" : Str), ("course" : Str)], [("well" : Str), ("parts" : Str), ("slots" : Str)], [("well" : Str), ("parts" : Str), ("slots" : Str)], [("parts" : Str), ("record" : Str)], [("well" : Str)], [("script" : Str)], [("self" : Str), ("pieces" : Str), ("bars" : Str)], [("self" : Str)], [("self" : Str)], [("self" : Str)]]
/-! C LETTERS MOST_LETTERS WORDS MOST_PIECES MOST_REST MOST_WORTH MOST_BARS MOST_SLOTS MOST_RECORD -/
def cs : List D := [.str "abcdefghijklmnopqrstuvwxyz", .int 8, .ktp [.str "all", .str "bar", .str "can", .str "channel", .str "ever", .str "fail", .str "in", .str "last", .str "log", .str "mean", .str "next", .str "no", .str "none", .str "of", .str "open", .str "piece", .str "play", .str "quit", .str "round", .str "rule", .str "rules", .str "safe", .str "slot", .str "slots", .str "station", .str "strike", .str "sure", .str "undo", .str "until", .str "yes"], .int 6, .int 3, .int 99, .int 12, .int 60, .int 20]
def prs : List (List (Str × Nat)) := [[("pieces", 55), ("bars", 56), ("parts", 57)]]
abbrev i_is_whole : Nat := 0
abbrev i_is_between : Nat := 1
abbrev i_is_up_to : Nat := 2
abbrev i_is_one_of : Nat := 3
abbrev i_is_word : Nat := 4
abbrev i_is_name : Nat := 5
abbrev i_is_tuple_of : Nat := 6
abbrev i_is_pair : Nat := 7
abbrev i_wrong_in : Nat := 8
abbrev i_is_piece : Nat := 9
abbrev i_wrong_in_pieces : Nat := 10
abbrev i_names_of : Nat := 11
abbrev i_is_bar : Nat := 12
abbrev i_wrong_in_bars : Nat := 13
abbrev i_reach_of : Nat := 14
abbrev i_piece_of : Nat := 15
abbrev i_may_follow : Nat := 16
abbrev i_wrong_slot : Nat := 17
abbrev i_wrong_in_course : Nat := 18
abbrev i_window_of : Nat := 19
abbrev i_next_by : Nat := 20
abbrev i_window_behind : Nat := 21
abbrev i_steps_by : Nat := 22
abbrev i_how_many_by : Nat := 23
abbrev i_wrong_in_record : Nat := 24
abbrev i_is_let : Nat := 25
abbrev i_counts_ahead : Nat := 26
abbrev i_how_many_fill_by : Nat := 27
abbrev i_check_rules : Nat := 28
abbrev i_check_number : Nat := 29
abbrev i_check_slots : Nat := 30
abbrev i_check_course : Nat := 31
abbrev i_check_record : Nat := 32
abbrev i_how_many_fill : Nat := 33
abbrev i_how_many : Nat := 34
abbrev i__law_well : Nat := 35
abbrev i__law_draw : Nat := 36
abbrev i__law_of : Nat := 37
abbrev i__law_same : Nat := 38
abbrev i__law_sorted : Nat := 39
abbrev i__law_words : Nat := 40
abbrev i__law_names : Nat := 41
abbrev i__law_rules : Nat := 42
abbrev i__law_made : Nat := 43
abbrev i__law_reach : Nat := 44
abbrev i__law_name_list : Nat := 45
abbrev i__law_may : Nat := 46
abbrev i__law_window : Nat := 47
abbrev i__law_next : Nat := 48
abbrev i__law_course : Nat := 49
abbrev i__law_record : Nat := 50
abbrev i__law_many : Nat := 51
abbrev i__law_right : Nat := 52
abbrev i_law : Nat := 53
abbrev i_Rules_init : Nat := 54
abbrev i_Rules_pieces : Nat := 55
abbrev i_Rules_bars : Nat := 56
abbrev i_Rules_parts : Nat := 57
abbrev g_LETTERS : Nat := 0
abbrev g_MOST_LETTERS : Nat := 1
abbrev g_WORDS : Nat := 2
abbrev g_MOST_PIECES : Nat := 3
abbrev g_MOST_REST : Nat := 4
abbrev g_MOST_WORTH : Nat := 5
abbrev g_MOST_BARS : Nat := 6
abbrev g_MOST_SLOTS : Nat := 7
abbrev g_MOST_RECORD : Nat := 8
def Lam_wrong_in_pieces_0 : LDef := ⟨2, 0, 2, (.and (.call 9 (.cons (.var 1) .nil)) (.or (.cmp .eq (.var 0) (.tup .nil)) (.cmp .lt (.ix (.ix (.var 0) (.neg (.cst (.int 1)))) (.cst (.int 0))) (.ix (.var 1) (.cst (.int 0))))))⟩
def Lam_wrong_in_bars_0 : LDef := ⟨2, 1, 3, (.and (.call 12 (.cons (.var 2) (.cons (.var 1) .nil))) (.or (.cmp .eq (.var 0) (.tup .nil)) (.cmp .lt (.ix (.var 0) (.neg (.cst (.int 1)))) (.var 1))))⟩
def Lam_wrong_in_record_0 : LDef := ⟨2, 1, 3, (.or (.isN (.var 1)) (.call 3 (.cons (.var 1) (.cons (.var 2) .nil))))⟩
def isl : List Nat := [54]
def T0 (fuel : Nat) : Tbl := ⟨fs, cs, prs, isl, fuel⟩
end K
end VI

set_option maxHeartbeats 2000000
/-! H0: what the head tells (its run is the greatest piece: it stands first). -/
namespace VI
open PySem L2 M
open PyProof.Rows
inductive GK where
  | fn (i : Nat) | cls (c : Nat) | cst (k : Nat) | blt
  deriving DecidableEq
structure KBE where
  f : Nat
  ks : List Str
  m : Nat
  pm : List Nat
  deriving DecidableEq
structure GX where
  gm : List (Str × GK)
  flds : List Str
  is : List Nat
  kb : List KBE
  lams : List Nat
  pn : List (List Str)
structure DW where
  at_ : PySem.W.Frag → Addr
  name : Str
  qual : Str
  st : Stmt
def fnA (K : PySem.W.Frag) (a : Addr) : He.FnW := match K.lookup a with
  | some ⟨_, _, .func fd, _⟩ => some (fd.name, fd.qualname, fd.params, fd.body, fd.scope, fd.globals, fd.closure, fd.builtins)
  | _ => none
def DW.val (d : DW) : He.FnW := some (d.name, d.qual, defArgs d.st, .stmts (defBody d.st), defScope d.st, mainGlobals, [], builtinsNs)
def noneB : Value → Bool
  | .none => true
  | _ => false
def fdAt (K : PySem.W.Frag) (a : Addr) : FuncData := match K.lookup a with
  | some ⟨_, _, .func fd, _⟩ => fd
  | _ => PySem.W.fnOf "" "" ⟨[], [], none, [], [], none, []⟩ [] ⟨.function, [], false, false, []⟩ .none .none .none .none none .none .none
def DW.okB (K : PySem.W.Frag) (d : DW) : Bool := PySem.W.keepIn K (.ref (d.at_ K)) && (match K.lookup (d.at_ K) with
  | some ⟨_, _, .func fd, _⟩ => PySem.W.codeIn K fd.code d.qual && noneB fd.defaults
  | _ => false)
theorem DW.fun_ {K : PySem.W.Frag} {d : DW} (e : fnA K (d.at_ K) = d.val) (c : d.okB K = true) : PySem.W.keepIn K (.ref (d.at_ K)) = true ∧
    ∃ (oc : Value) (od : Option Addr) (kV doc pm : Value) (an : Option Addr) (ct : Value) (osl : Array (Option Value)), fdAt K (d.at_ K) = PySem.W.fnOf d.name d.qual (defArgs d.st) (defBody d.st) (defScope d.st) .none kV doc pm an (fdAt K (d.at_ K)).code ct ∧
      K.lookup (d.at_ K) = some ⟨oc, od, .func (fdAt K (d.at_ K)), osl⟩ ∧ PySem.W.codeIn K (fdAt K (d.at_ K)).code d.qual = true := by
  unfold DW.okB at c
  rw [Bool.and_eq_true] at c
  obtain ⟨c1, c2⟩ := c
  refine ⟨c1, ?_⟩
  unfold fnA at e
  unfold fdAt
  cases q : K.lookup (d.at_ K) with
  | none => rw [q] at c2; cases c2
  | some o =>
    obtain ⟨oc, od, dt, osl⟩ := o
    rw [q] at c2 e
    cases dt with
    | func fd =>
      obtain ⟨n1, n2, n3, n4, n5, n6, n7, n8, n9, n10, n11, n12, n13, n14, n15⟩ := fd
      have e2 : (some (n1, n2, n3, n4, n5, n6, n7, n15) : He.FnW) = some (d.name, d.qual, defArgs d.st, .stmts (defBody d.st), defScope d.st, mainGlobals, [], builtinsNs) := e
      simp only [Option.some.injEq, Prod.mk.injEq] at e2
      obtain ⟨h1, h2, h3, h4, h5, h6, h7, h9⟩ := e2
      subst h1 h2 h3 h4 h5 h6 h7 h9
      have c2 : (PySem.W.codeIn K n13 d.qual && noneB n8) = true := c2
      rw [Bool.and_eq_true] at c2
      obtain ⟨c3, c4⟩ := c2
      cases n8 with
      | none => exact ⟨oc, od, n9, n10, n11, n12, n14, osl, rfl, rfl, c3⟩
      | _ => cases c4
    | _ => cases c2
/-- a def's code object and its table -/
def cdA (K : PySem.W.Frag) (a : Addr) : Addr := match (fdAt K a).code with
  | .ref c => c
  | _ => 0
def tbA (K : PySem.W.Frag) (a : Addr) : Addr := He.tabOf K (cdA K a)
structure SaysV (ds : List DW) (tf : List (PySem.W.Frag → Addr)) (ex : PySem.W.Frag → Bool) (h : Heap) (K : PySem.W.Frag) : Prop where
  val : ds.map (fun d => fnA K (d.at_ K)) = ds.map DW.val
  ok : ∀ d ∈ ds, d.okB K = true
  more : ex K = true
  hd : ∀ p ∈ tf, PySem.W.codeHdIn K (cdA K (p K)) (tbA K (p K)) = true
  out : ∀ p ∈ tf, K.lookup (tbA K (p K)) = none
  empty : ∀ p ∈ tf, h.get? (tbA K (p K)) = some { cls := .none, data := .fields #[] }
def tabsV (g : Addr → Option Obj) (tf : List (PySem.W.Frag → Addr)) (K : PySem.W.Frag) : Bool := tf.all fun p => PySem.W.codeHdIn K (cdA K (p K)) (tbA K (p K)) && (match g (tbA K (p K)) with
  | some o => He.emptyTab o
  | none => false)
abbrev AlV : Type := List He.FnW × Bool
def obsV (n : Nat) (ds : List DW) (tf : List (PySem.W.Frag → Addr)) (ex : PySem.W.Frag → Bool) (g : Addr → Option Obj) : AlV :=
  let K := He.frT g (He.asD g n)
  (ds.map fun d => fnA K (d.at_ K), ds.all (fun d => d.okB K) && ex K && tabsV g tf K)
def valHd (ds : List DW) : AlV := (ds.map DW.val, true)
theorem saysV_of {n : Nat} {ds : List DW} {tf : List (PySem.W.Frag → Addr)} {ex : PySem.W.Frag → Bool} {h : Heap} (e : obsV n ds tf ex h.get? = valHd ds) : SaysV ds tf ex h (He.frT h.get? (He.asD h.get? n)) := by
  have e1 : ds.map (fun d => fnA (He.frT h.get? (He.asD h.get? n)) (d.at_ (He.frT h.get? (He.asD h.get? n)))) = ds.map DW.val := congrArg (fun z : AlV => z.1) e
  have e2 : (ds.all (fun d => d.okB (He.frT h.get? (He.asD h.get? n))) && ex (He.frT h.get? (He.asD h.get? n)) && tabsV h.get? tf (He.frT h.get? (He.asD h.get? n))) = true := congrArg (fun z : AlV => z.2) e
  rw [Bool.and_eq_true, Bool.and_eq_true] at e2
  obtain ⟨⟨h0, h1⟩, h2⟩ := e2
  have key : ∀ p ∈ tf, PySem.W.codeHdIn (He.frT h.get? (He.asD h.get? n)) (cdA (He.frT h.get? (He.asD h.get? n)) (p (He.frT h.get? (He.asD h.get? n)))) (tbA (He.frT h.get? (He.asD h.get? n)) (p (He.frT h.get? (He.asD h.get? n)))) = true ∧
      ∃ o, h.get? (tbA (He.frT h.get? (He.asD h.get? n)) (p (He.frT h.get? (He.asD h.get? n)))) = some o ∧ He.emptyTab o = true := fun p hp => by
    have z := List.all_eq_true.mp h2 p hp
    rw [Bool.and_eq_true] at z
    obtain ⟨z1, z2⟩ := z
    refine ⟨z1, ?_⟩
    split at z2
    · rename_i o q
      exact ⟨o, q, z2⟩
    · cases z2
  exact ⟨e1, fun d hd => List.all_eq_true.mp h0 d hd, h1, fun p hp => (key p hp).1, fun p hp => let ⟨_, o, q, z⟩ := key p hp; He.frT_none q z, fun p hp => let ⟨_, o, q, z⟩ := key p hp; by rw [q, He.emptyTab_eq z]⟩
def hookV (n : Nat) (ds : List DW) (tf : List (PySem.W.Frag → Addr)) (ex : PySem.W.Frag → Bool) : PySem.W.Hook where
  α := AlV
  obs := fun s => obsV n ds tf ex s.heap.get?
  val := fun _ => valHd ds
  says := fun _ h => ∃ K : PySem.W.Frag, K.In h ∧ SaysV ds tf ex h K
  of := fun _ _ e => ⟨_, He.frT_in, saysV_of e⟩
  keeps := fun _ _ _ ⟨K, hK, c⟩ k => ⟨K, PySem.W.Frag.In.keeps hK k, ⟨c.val, c.ok, c.more, c.hd, c.out, fun p hp => k _ _ (c.empty p hp)⟩⟩
theorem obsV_eq {n : Nat} {ds : List DW} {tf : List (PySem.W.Frag → Addr)} {ex : PySem.W.Frag → Bool} {g : Addr → Option Obj} {s : Shared} (h : ∀ a, g a = s.heap.get? a) : obsV n ds tf ex g = (hookV n ds tf ex).obs s := by
  have e : g = s.heap.get? := funext h
  rw [e]; rfl
/-! ### places -/
/-- the getter of a property -/
def pgA (C x : Str) (K : PySem.W.Frag) : Addr := match PySem.W.findIn K (.ref (He.ga K C)) x with
  | some (some (.ref p)) => match PySem.W.recIn K p "property" with
    | some (.ref g :: _) => g
    | _ => 0
  | _ => 0
def glA (x : Str) (K : PySem.W.Frag) : Addr := He.ga K x
def miA (C : Str) (K : PySem.W.Frag) : Addr := He.ma K (He.ga K C) "__init__"
/-! ### the facts, looked at -/
def eqV (a b : Option (Option Value)) : Bool := decide (a = b)
def dvOf : D → He.Dv
  | .int i => .int i
  | .str s => .str s
  | .bl b => .bl b
  | _ => .non
def flatD : D → Bool
  | .int _ => true
  | .str _ => true
  | .bl _ => true
  | .non => true
  | _ => false
def tyNs : List String := ["NoneType", "bool", "int", "str", "tuple", "list", "dict"]
def clNs : List String := ["int", "str", "bool", "tuple", "list", "dict"]
def clsB (K : PySem.W.Frag) (x : Str) : Bool :=
  (He.Fa.glo x).ok K && ((He.Fa.cls x).ok K && (eqV (PySem.W.findIn K (.ref (He.ga K x)) "__class__") (some (some (.builtin "object.__class__"))) && (eqV (PySem.W.specialIn K (.builtin "object.__class__") "__get__") (some (some (.builtin "getset_descriptor.__get__"))) &&
    (decide (PySem.W.takesIn K (.builtin "object.__class__") = some true) && (decide (PySem.W.mroIn K (He.ga K x) (.type "object") = some true) && (decide (PySem.W.kitOne K (.ref (He.ga K x)) (.ref (He.ga K x)) = some true) &&
    ((clNs.all fun t => decide (PySem.W.kitOne K (.ref (He.ga K x)) (.type t) = some false)) && (tyNs.all fun t => decide (PySem.W.kitOne K (.type t) (.ref (He.ga K x)) = some false)))))))))
def gmB (K : PySem.W.Frag) (ds : List DW) (cls : List Str) (cs : List D) (y : Str) : GK → Bool
  | .fn i => (He.Fa.glo y).ok K && (match ds[i]? with
    | some d => decide (d.at_ K = He.ga K y)
    | none => false)
  | .cls c => (He.Fa.glo y).ok K && decide (cls[c]? = some y)
  | .cst k => match cs[k]? with
    | some (.int i) => (He.Fa.int y i).ok K
    | some (.str s) => (He.Fa.str y s).ok K
    | some (.ktp xs) => (He.Fa.glo y).ok K && (He.tupB K y (xs.map dvOf) && xs.all flatD)
    | _ => false
  | .blt => (He.Fa.free y).ok K
def lookP (prs : List (List (Str × Nat))) (c : Nat) (f : Str) : Option Nat := match prs[c]? with
  | some l => l.lookup f
  | none => none
theorem propOf_look (T : Tbl) (c : Nat) (f : Str) : propOf T c f = lookP T.ps c f := by
  unfold propOf lookP
  cases T.ps[c]? <;> rfl
def fldB (K : PySem.W.Frag) (ds : List DW) (prs : List (List (Str × Nat))) (f C : Str) (c : Nat) : Bool := match lookP prs c f with
  | some i => (match PySem.W.findIn K (.ref (He.ga K C)) f with
    | some (some (.ref p)) => (match ds[i]? with
      | some d => eqV (PySem.W.specialIn K (.ref p) "__get__") (some (some (.builtin "property.__get__"))) && (decide (PySem.W.takesIn K (.ref p) = some true) && (match PySem.W.recIn K p "property" with
        | some (.ref g :: _) => decide (g = d.at_ K)
        | _ => false))
      | none => false)
    | _ => false)
  | none => (He.Fa.noat C f).ok K
def iniB (K : PySem.W.Frag) (ds : List DW) (f : Nat) (C : Str) : Bool := (He.Fa.mkr C).ok K && (match ds[f]? with
  | some d => decide (He.ma K (He.ga K C) "__init__" = d.at_ K)
  | none => false)
def exV (x : GX) (ds : List DW) (cls : List Str) (cs : List D) (prs : List (List (Str × Nat))) (K : PySem.W.Frag) : Bool :=
  (x.gm.all fun p => gmB K ds cls cs p.1 p.2) && ((cls.all fun C => clsB K C) && ((cls.all fun C => cls.all fun E => decide (C = E) || decide (PySem.W.kitOne K (.ref (He.ga K C)) (.ref (He.ga K E)) = some false)) &&
    ((x.flds.all fun f => (List.range cls.length).all fun c => fldB K ds prs f (cls.getD c "") c) && (((List.range x.is.length).all fun c => iniB K ds (x.is.getD c 0) (cls.getD c "") && decide (c < cls.length)) &&
    (decide ((x.lams.map fun i => match ds[i]? with | some d => tbA K (d.at_ K) | none => 0).Nodup) && decide (cls.Nodup))))))
structure TX where
  x : GX
  ds : List DW
  Ns : List (List Str)
  pss : List (List Str)
  cls : List Str
  T : Tbl
def TX.lamAt (t : TX) (K : PySem.W.Frag) (i : Nat) : Addr := match t.ds[i]? with
  | some d => d.at_ K
  | none => 0
def TX.tabAt (t : TX) (K : PySem.W.Frag) (i : Nat) : Addr := match t.ds[i]? with
  | some d => tbA K (d.at_ K)
  | none => 0
def TX.cs (t : TX) (K : PySem.W.Frag) : List (Addr × Addr) := t.x.lams.map fun i => (cdA K (t.lamAt K i), t.tabAt K i)
def TX.qual (t : TX) (i : Nat) : Str := match t.ds[i]? with
  | some d => d.qual
  | none => ""
end VI

set_option maxHeartbeats 0
namespace VI
open PySem
namespace K
def top (i : Nat) : Stmt := PySem.Challenge.pw_airturns_k66_whole_fillings_of_records.main.body.getD i (.Pass ⟨0, 0, 0, 0⟩)
def stOf : Nat → Nat × Option Nat
  | 0 => (12, none)
  | 1 => (13, none)
  | 2 => (14, none)
  | 3 => (15, none)
  | 4 => (16, none)
  | 5 => (17, none)
  | 6 => (18, none)
  | 7 => (19, none)
  | 8 => (20, none)
  | 9 => (27, none)
  | 10 => (28, none)
  | 11 => (29, none)
  | 12 => (30, none)
  | 13 => (31, none)
  | 14 => (32, none)
  | 15 => (33, none)
  | 16 => (34, none)
  | 17 => (35, none)
  | 18 => (36, none)
  | 19 => (38, none)
  | 20 => (39, none)
  | 21 => (40, none)
  | 22 => (41, none)
  | 23 => (42, none)
  | 24 => (45, none)
  | 25 => (46, none)
  | 26 => (47, none)
  | 27 => (48, none)
  | 28 => (51, none)
  | 29 => (52, none)
  | 30 => (53, none)
  | 31 => (54, none)
  | 32 => (56, none)
  | 33 => (57, none)
  | 34 => (59, none)
  | 35 => (61, none)
  | 36 => (62, none)
  | 37 => (63, none)
  | 38 => (64, none)
  | 39 => (65, none)
  | 40 => (66, none)
  | 41 => (67, none)
  | 42 => (68, none)
  | 43 => (69, none)
  | 44 => (70, none)
  | 45 => (71, none)
  | 46 => (72, none)
  | 47 => (73, none)
  | 48 => (74, none)
  | 49 => (75, none)
  | 50 => (76, none)
  | 51 => (77, none)
  | 52 => (78, none)
  | 53 => (79, none)
  | 54 => (50, some 0)
  | 55 => (50, some 1)
  | 56 => (50, some 2)
  | 57 => (50, some 3)
  | _ => (0, none)
def stmtOf (p : Nat × Option Nat) : Stmt := match p.2 with | none => top p.1 | some j => L2.inClass (top p.1) j
def gx : GX where
  gm := [(("LETTERS" : Str), GK.cst 0), (("MOST_BARS" : Str), GK.cst 6), (("MOST_LETTERS" : Str), GK.cst 1), (("MOST_PIECES" : Str), GK.cst 3), (("MOST_RECORD" : Str), GK.cst 8), (("MOST_REST" : Str), GK.cst 4), (("MOST_SLOTS" : Str), GK.cst 7), (("MOST_WORTH" : Str), GK.cst 5), (("Rules" : Str), GK.cls 0), (("WORDS" : Str), GK.cst 2), (("_law_course" : Str), GK.fn 49), (("_law_draw" : Str), GK.fn 36), (("_law_made" : Str), GK.fn 43), (("_law_many" : Str), GK.fn 51), (("_law_may" : Str), GK.fn 46), (("_law_name_list" : Str), GK.fn 45), (("_law_names" : Str), GK.fn 41), (("_law_next" : Str), GK.fn 48), (("_law_of" : Str), GK.fn 37), (("_law_reach" : Str), GK.fn 44), (("_law_record" : Str), GK.fn 50), (("_law_right" : Str), GK.fn 52), (("_law_rules" : Str), GK.fn 42), (("_law_same" : Str), GK.fn 38), (("_law_sorted" : Str), GK.fn 39), (("_law_well" : Str), GK.fn 35), (("_law_window" : Str), GK.fn 47), (("_law_words" : Str), GK.fn 40), (("abs" : Str), GK.blt), (("all" : Str), GK.blt), (("any" : Str), GK.blt), (("bool" : Str), GK.blt), (("check_course" : Str), GK.fn 31), (("check_number" : Str), GK.fn 29), (("check_record" : Str), GK.fn 32), (("check_rules" : Str), GK.fn 28), (("check_slots" : Str), GK.fn 30), (("counts_ahead" : Str), GK.fn 26), (("dict" : Str), GK.blt), (("divmod" : Str), GK.blt), (("enumerate" : Str), GK.blt), (("how_many" : Str), GK.fn 34), (("how_many_by" : Str), GK.fn 23), (("how_many_fill" : Str), GK.fn 33), (("how_many_fill_by" : Str), GK.fn 27), (("int" : Str), GK.blt), (("is_bar" : Str), GK.fn 12), (("is_between" : Str), GK.fn 1), (("is_let" : Str), GK.fn 25), (("is_name" : Str), GK.fn 5), (("is_one_of" : Str), GK.fn 3), (("is_pair" : Str), GK.fn 7), (("is_piece" : Str), GK.fn 9), (("is_tuple_of" : Str), GK.fn 6), (("is_up_to" : Str), GK.fn 2), (("is_whole" : Str), GK.fn 0), (("is_word" : Str), GK.fn 4), (("isinstance" : Str), GK.blt), (("law" : Str), GK.fn 53), (("len" : Str), GK.blt), (("list" : Str), GK.blt), (("max" : Str), GK.blt), (("may_follow" : Str), GK.fn 16), (("min" : Str), GK.blt), (("names_of" : Str), GK.fn 11), (("next_by" : Str), GK.fn 20), (("piece_of" : Str), GK.fn 15), (("range" : Str), GK.blt), (("reach_of" : Str), GK.fn 14), (("sorted" : Str), GK.blt), (("steps_by" : Str), GK.fn 22), (("str" : Str), GK.blt), (("sum" : Str), GK.blt), (("tuple" : Str), GK.blt), (("window_behind" : Str), GK.fn 21), (("window_of" : Str), GK.fn 19), (("wrong_in" : Str), GK.fn 8), (("wrong_in_bars" : Str), GK.fn 13), (("wrong_in_course" : Str), GK.fn 18), (("wrong_in_pieces" : Str), GK.fn 10), (("wrong_in_record" : Str), GK.fn 24), (("wrong_slot" : Str), GK.fn 17)]
  flds := ["bars", "pieces", "told"]
  is := [54]
  kb := [⟨33, ["record", "rules"], 0, [1, 0]⟩]
  lams := [10, 13, 24]
  pn := [["ahead", "each"]]
def ds : List DW := [⟨glA "is_whole", "is_whole", "is_whole", stmtOf (stOf 0)⟩, ⟨glA "is_between", "is_between", "is_between", stmtOf (stOf 1)⟩, ⟨glA "is_up_to", "is_up_to", "is_up_to", stmtOf (stOf 2)⟩, ⟨glA "is_one_of", "is_one_of", "is_one_of", stmtOf (stOf 3)⟩, ⟨glA "is_word", "is_word", "is_word", stmtOf (stOf 4)⟩, ⟨glA "is_name", "is_name", "is_name", stmtOf (stOf 5)⟩, ⟨glA "is_tuple_of", "is_tuple_of", "is_tuple_of", stmtOf (stOf 6)⟩, ⟨glA "is_pair", "is_pair", "is_pair", stmtOf (stOf 7)⟩, ⟨glA "wrong_in", "wrong_in", "wrong_in", stmtOf (stOf 8)⟩, ⟨glA "is_piece", "is_piece", "is_piece", stmtOf (stOf 9)⟩, ⟨glA "wrong_in_pieces", "wrong_in_pieces", "wrong_in_pieces", stmtOf (stOf 10)⟩, ⟨glA "names_of", "names_of", "names_of", stmtOf (stOf 11)⟩, ⟨glA "is_bar", "is_bar", "is_bar", stmtOf (stOf 12)⟩, ⟨glA "wrong_in_bars", "wrong_in_bars", "wrong_in_bars", stmtOf (stOf 13)⟩, ⟨glA "reach_of", "reach_of", "reach_of", stmtOf (stOf 14)⟩, ⟨glA "piece_of", "piece_of", "piece_of", stmtOf (stOf 15)⟩, ⟨glA "may_follow", "may_follow", "may_follow", stmtOf (stOf 16)⟩, ⟨glA "wrong_slot", "wrong_slot", "wrong_slot", stmtOf (stOf 17)⟩, ⟨glA "wrong_in_course", "wrong_in_course", "wrong_in_course", stmtOf (stOf 18)⟩, ⟨glA "window_of", "window_of", "window_of", stmtOf (stOf 19)⟩, ⟨glA "next_by", "next_by", "next_by", stmtOf (stOf 20)⟩, ⟨glA "window_behind", "window_behind", "window_behind", stmtOf (stOf 21)⟩, ⟨glA "steps_by", "steps_by", "steps_by", stmtOf (stOf 22)⟩, ⟨glA "how_many_by", "how_many_by", "how_many_by", stmtOf (stOf 23)⟩, ⟨glA "wrong_in_record", "wrong_in_record", "wrong_in_record", stmtOf (stOf 24)⟩, ⟨glA "is_let", "is_let", "is_let", stmtOf (stOf 25)⟩, ⟨glA "counts_ahead", "counts_ahead", "counts_ahead", stmtOf (stOf 26)⟩, ⟨glA "how_many_fill_by", "how_many_fill_by", "how_many_fill_by", stmtOf (stOf 27)⟩, ⟨glA "check_rules", "check_rules", "check_rules", stmtOf (stOf 28)⟩, ⟨glA "check_number", "check_number", "check_number", stmtOf (stOf 29)⟩, ⟨glA "check_slots", "check_slots", "check_slots", stmtOf (stOf 30)⟩, ⟨glA "check_course", "check_course", "check_course", stmtOf (stOf 31)⟩, ⟨glA "check_record", "check_record", "check_record", stmtOf (stOf 32)⟩, ⟨glA "how_many_fill", "how_many_fill", "how_many_fill", stmtOf (stOf 33)⟩, ⟨glA "how_many", "how_many", "how_many", stmtOf (stOf 34)⟩, ⟨glA "_law_well", "_law_well", "_law_well", stmtOf (stOf 35)⟩, ⟨glA "_law_draw", "_law_draw", "_law_draw", stmtOf (stOf 36)⟩, ⟨glA "_law_of", "_law_of", "_law_of", stmtOf (stOf 37)⟩, ⟨glA "_law_same", "_law_same", "_law_same", stmtOf (stOf 38)⟩, ⟨glA "_law_sorted", "_law_sorted", "_law_sorted", stmtOf (stOf 39)⟩, ⟨glA "_law_words", "_law_words", "_law_words", stmtOf (stOf 40)⟩, ⟨glA "_law_names", "_law_names", "_law_names", stmtOf (stOf 41)⟩, ⟨glA "_law_rules", "_law_rules", "_law_rules", stmtOf (stOf 42)⟩, ⟨glA "_law_made", "_law_made", "_law_made", stmtOf (stOf 43)⟩, ⟨glA "_law_reach", "_law_reach", "_law_reach", stmtOf (stOf 44)⟩, ⟨glA "_law_name_list", "_law_name_list", "_law_name_list", stmtOf (stOf 45)⟩, ⟨glA "_law_may", "_law_may", "_law_may", stmtOf (stOf 46)⟩, ⟨glA "_law_window", "_law_window", "_law_window", stmtOf (stOf 47)⟩, ⟨glA "_law_next", "_law_next", "_law_next", stmtOf (stOf 48)⟩, ⟨glA "_law_course", "_law_course", "_law_course", stmtOf (stOf 49)⟩, ⟨glA "_law_record", "_law_record", "_law_record", stmtOf (stOf 50)⟩, ⟨glA "_law_many", "_law_many", "_law_many", stmtOf (stOf 51)⟩, ⟨glA "_law_right", "_law_right", "_law_right", stmtOf (stOf 52)⟩, ⟨glA "law", "law", "law", stmtOf (stOf 53)⟩, ⟨miA "Rules", "__init__", "Rules.__init__", stmtOf (stOf 54)⟩, ⟨pgA "Rules" "pieces", "pieces", "Rules.pieces", stmtOf (stOf 55)⟩, ⟨pgA "Rules" "bars", "bars", "Rules.bars", stmtOf (stOf 56)⟩, ⟨pgA "Rules" "parts", "parts", "Rules.parts", stmtOf (stOf 57)⟩]
def tf : List (PySem.W.Frag → Addr) := [glA "wrong_in_pieces", glA "wrong_in_bars", glA "wrong_in_record"]
def cls : List Str := [("Rules" : Str)]
def loose : List Str := [("__name__" : Str), ("AirError" : Str), ("InvalidNumber" : Str), ("NotRules" : Str), ("InvalidPieces" : Str), ("InvalidBars" : Str), ("InvalidCourse" : Str), ("InvalidRecord" : Str), ("LETTERS" : Str), ("MOST_LETTERS" : Str), ("WORDS" : Str), ("is_whole" : Str), ("is_between" : Str), ("is_up_to" : Str), ("is_one_of" : Str), ("is_word" : Str), ("is_name" : Str), ("is_tuple_of" : Str), ("is_pair" : Str), ("wrong_in" : Str), ("MOST_PIECES" : Str), ("MOST_REST" : Str), ("MOST_WORTH" : Str), ("MOST_BARS" : Str), ("MOST_SLOTS" : Str), ("is_piece" : Str), ("wrong_in_pieces" : Str), ("names_of" : Str), ("is_bar" : Str), ("wrong_in_bars" : Str), ("reach_of" : Str), ("piece_of" : Str), ("may_follow" : Str), ("wrong_slot" : Str), ("wrong_in_course" : Str), ("window_of" : Str), ("next_by" : Str), ("window_behind" : Str), ("steps_by" : Str), ("how_many_by" : Str), ("MOST_RECORD" : Str), ("wrong_in_record" : Str), ("is_let" : Str), ("counts_ahead" : Str), ("how_many_fill_by" : Str), ("Rules" : Str), ("check_rules" : Str), ("check_number" : Str), ("check_slots" : Str), ("check_course" : Str), ("check_record" : Str), ("how_many_fill" : Str), ("how_many" : Str), ("_law_well" : Str), ("_law_draw" : Str), ("_law_of" : Str), ("_law_same" : Str), ("_law_sorted" : Str), ("_law_words" : Str), ("_law_names" : Str), ("_law_rules" : Str), ("_law_made" : Str), ("_law_reach" : Str), ("_law_name_list" : Str), ("_law_may" : Str), ("_law_window" : Str), ("_law_next" : Str), ("_law_course" : Str), ("_law_record" : Str), ("_law_many" : Str), ("_law_right" : Str)]
def lawAt : Nat := 79
def lawI : Nat := 53
def TV (fuel : Nat) : Tbl := ⟨fs, cs, prs, gx.is, fuel⟩
def t : TX := ⟨gx, ds, Ns, pss, cls, TV 1000⟩
def tfL : List (PySem.W.Frag → Addr) := t.x.lams.map fun i => fun K => t.lamAt K i
abbrev R : PySem.W.OpenRow := PySem.W.OpenLaw.row PySem.Challenge.rw_airturns_k66_whole_fillings_of_records
abbrev hk : PySem.W.Hook := hookV 7 t.ds tfL (exV t.x t.ds t.cls t.T.cs t.T.ps)
def ob (s : PySem.W.SharedT) : AlV := obsV 7 t.ds tfL (exV t.x t.ds t.cls t.T.cs t.T.ps) (HandSHeadRun.getT s)
theorem ob_eq (s : PySem.W.SharedT) : ob s = hk.obs s.abs := obsV_eq (HandSHeadRun.getT_eq s)
theorem run (w : World) : HandSHeadRun.RunEq R (PySem.W.view R.prog [lawAt]) hk ob 8000 loose w := by
  intro os
  kernel_rfl
end K
end VI

/-! P1: laws of the small language, for proofs about what a program comes to. -/
namespace VI
open PySem L2 M

def Wp {α : Type} (E : Exc → Sto → Prop) (r : Res α) (Q : α → Sto → Prop) : Prop := match r with
  | .ok a s => Q a s
  | .exc e s => E e s
  | .bad => False
/-- no exception -/
def noE : Exc → Sto → Prop := fun _ _ => False
section
variable {α β γ : Type} {E E' : Exc → Sto → Prop} {s : Sto}
@[simp] theorem wp_ok (a : α) (Q : α → Sto → Prop) : Wp E (.ok a s) Q = Q a s := rfl
@[simp] theorem wp_exc (e : Exc) (Q : α → Sto → Prop) : Wp E (.exc e s) Q = E e s := rfl
@[simp] theorem wp_bad (Q : α → Sto → Prop) : Wp E .bad Q = False := rfl
@[simp] theorem wp_ret (a : α) (Q : α → Sto → Prop) : Wp E (ret a s) Q = Q a s := rfl
/-- what comes first is looked at first -/
theorem wp_congr {r r' : Res α} (h : r = r') (Q : α → Sto → Prop) : Wp E r Q = Wp E r' Q := by rw [h]
theorem bnd_congr {m m' : M α} (h : m = m') (f : α → M β) : bnd m f = bnd m' f := by rw [h]
theorem wp_bnd (m : M α) (f : α → M β) (Q : β → Sto → Prop) : Wp E (bnd m f s) Q = Wp E (m s) (fun a s' => Wp E (f a s') Q) := by
  unfold bnd Wp; cases m s <;> rfl
theorem wp_noExc (m : M α) (Q : α → Sto → Prop) : Wp E (noExc m s) Q = Wp noE (m s) Q := by
  unfold noExc Wp; cases m s <;> rfl
theorem Wp.imp {r : Res α} {Q Q' : α → Sto → Prop} (h : Wp E r Q) (hq : ∀ a s, Q a s → Q' a s) : Wp E r Q' := by
  cases r with
  | ok a s => exact hq a s h
  | exc e s => exact h
  | bad => exact h
theorem Wp.impE {r : Res α} {Q Q' : α → Sto → Prop} (h : Wp E r Q) (hq : ∀ a s, Q a s → Q' a s) (he : ∀ e s, E e s → E' e s) : Wp E' r Q' := by
  cases r with
  | ok a s => exact hq a s h
  | exc e s => exact he e s h
  | bad => exact h
theorem Wp.noE {r : Res α} {Q : α → Sto → Prop} (h : Wp noE r Q) : Wp E r Q := h.impE (fun _ _ h => h) fun _ _ h => h.elim
theorem wp_of_ok {r : Res α} {a : α} {t : Sto} {Q : α → Sto → Prop} (h : r = .ok a t) (q : Q a t) : Wp E r Q := by rw [h]; exact q
theorem Wp.ok {r : Res α} {Q : α → Sto → Prop} (h : Wp VI.noE r Q) : ∃ a t, r = .ok a t ∧ Q a t := by
  cases r with
  | ok a s => exact ⟨a, s, rfl, h⟩
  | exc e s => exact h.elim
  | bad => exact h.elim
theorem bnd_app (m : M α) (f : α → M β) : bnd m f s = match m s with | .ok a s' => f a s' | .exc e s' => .exc e s' | .bad => .bad := rfl
theorem ite_app {c : Prop} [Decidable c] (m m' : M α) : (if c then m else m') s = if c then m s else m' s := by split <;> rfl
theorem ite_ret {c : Prop} [Decidable c] (a b : α) : (if c then ret a else ret b) = ret (if c then a else b) := by split <;> rfl
theorem bnd_ite {c : Prop} [Decidable c] (m m' : M α) (f : α → M β) : bnd (if c then m else m') f = if c then bnd m f else bnd m' f := by split <;> rfl
@[simp] theorem noExc_ret (a : α) : noExc (ret a) = ret a := rfl
@[simp] theorem noExc_bad : noExc (M.bad : M α) = M.bad := rfl
theorem noExc_bnd (m : M α) (f : α → M β) : noExc (bnd m f) = bnd (noExc m) fun a => noExc (f a) := by
  funext s; simp only [noExc, bnd]; cases m s <;> rfl
theorem noExc_ite {c : Prop} [Decidable c] (m m' : M α) : noExc (if c then m else m') = if c then noExc m else noExc m' := by split <;> rfl

/-! ### calls -/
theorem callA_f (T : Tbl) (n f : Nat) (args : List VV) {F : FDef} (h : T.fs[f]? = some F) : callA T (n + 1) (.f f) args = runF T (callA T n) F args := by
  show (match T.fs[f]? with | some F => runF T (callA T n) F args | none => bad) = _
  rw [h]
theorem callA_l (T : Tbl) (n : Nat) (L : LDef) (caps args : List VV) : callA T (n + 1) (.l L caps) args = runL T (callA T n) L args caps := rfl

/-! ### loops -/
theorem wp_forGo {body : D → Sl → M (Fl × Sl)} {Q : Fl × Sl → Sto → Prop} (Inv : List D → Sl → Sto → Prop)
    (step : ∀ x rest φ s, Inv (x :: rest) φ s → Wp E (body x φ s) fun r s' => match r with
      | (.nxt, φ') => Inv rest φ' s'
      | (.cnt, φ') => Inv rest φ' s'
      | (.brk, φ') => Q (.nxt, φ') s'
      | (.ret v, φ') => Q (.ret v, φ') s')
    (done : ∀ φ s, Inv [] φ s → Q (.nxt, φ) s) : ∀ (xs : List D) (φ : Sl) (s : Sto), Inv xs φ s → Wp E (forGo body xs φ s) Q
  | [], φ, s, i => done φ s i
  | x :: xs, φ, s, i => by
    unfold forGo
    rw [wp_bnd]
    refine (step x xs φ s i).imp fun r t h => ?_
    match r, h with
    | (.nxt, φ'), h => exact wp_forGo Inv step done xs φ' t h
    | (.cnt, φ'), h => exact wp_forGo Inv step done xs φ' t h
    | (.brk, φ'), h => exact h
    | (.ret v, φ'), h => exact h
theorem wp_compGo {body : D → M (Option D)} {Q : List D → Sto → Prop} (Inv : List D → List D → Sto → Prop)
    (step : ∀ x rest acc s, Inv (x :: rest) acc s → Wp E (body x s) fun o s' => Inv rest (acc ++ o.toList) s')
    (done : ∀ acc s, Inv [] acc s → Q acc s) : ∀ (xs acc : List D) (s : Sto), Inv xs acc s → Wp E (compGo body xs s) fun ys s' => Q (acc ++ ys) s'
  | [], acc, s, i => by
    show Q (acc ++ []) s
    rw [List.append_nil]; exact done acc s i
  | x :: xs, acc, s, i => by
    unfold compGo
    rw [wp_bnd]
    refine (step x xs acc s i).imp fun o t h => ?_
    rw [wp_bnd]
    refine (wp_compGo Inv step done xs _ t h).imp fun ys u h => ?_
    show Q (acc ++ (o.toList ++ ys)) u
    rw [← List.append_assoc]; exact h
theorem compGo_map {body : D → M (Option D)} {α : Type} {f : α → D} {g : α → D} {xs : List α} (h : ∀ a ∈ xs, body (f a) = ret (some (g a))) : compGo body (xs.map f) = ret (xs.map g) := by
  induction xs with
  | nil => rfl
  | cons a xs ih =>
    simp only [List.map_cons, compGo]
    rw [h a (List.mem_cons_self ..), ih fun b hb => h b (List.mem_cons_of_mem _ hb)]
    rfl
theorem compGo_if {body : D → M (Option D)} {α : Type} {f : α → D} {p : α → Bool} {g : α → D} {xs : List α} (h : ∀ a ∈ xs, body (f a) = ret (if p a then some (g a) else none)) : compGo body (xs.map f) = ret ((xs.filter p).map g) := by
  induction xs with
  | nil => rfl
  | cons a xs ih =>
    simp only [List.map_cons, compGo]
    rw [h a (List.mem_cons_self ..), ih fun b hb => h b (List.mem_cons_of_mem _ hb)]
    by_cases e : p a = true
    · simp [List.filter_cons, e]
    · simp [List.filter_cons, e]
end

/-! ### data -/
section
@[simp] theorem small_eq {n : Nat} (h : n ≤ 100000) : small n = true := decide_eq_true h
@[simp] theorem opt_ite {α : Type} {c : Prop} [Decidable c] (a : α) : M.opt (if c then some a else none) = if c then ret a else M.bad := by split <;> rfl
theorem toPyL_map {α : Type} {f : α → D} {g : α → PyData} (h : ∀ a, (f a).toPy = some (g a)) : ∀ xs : List α, toPyL (xs.map f) = some (xs.map g)
  | [] => rfl
  | a :: xs => by simp [toPyL, h, toPyL_map h xs]
theorem rngD_eq (a : Int) : ∀ n : Nat, rngD a n = (List.range n).map fun (k : Nat) => D.int (a + (k : Int))
  | 0 => rfl
  | n + 1 => by
    rw [rngD, rngD_eq (a + 1) n, List.range_succ_eq_map]
    simp only [List.map_cons, List.map_map, List.cons.injEq]
    refine ⟨by simp, List.map_congr_left fun k _ => ?_⟩
    simp only [Function.comp_apply, D.int.injEq]
    omega
end
end VI

/-! P3: things as data, compared. -/
namespace VI
open PySem L2 M

/-- things that are data -/
class Enc (α : Type) where
  d : α → D
  py : α → PyData
  toPy : ∀ a, (d a).toPy = some (py a)
  dep : Nat
  depth : ∀ a, (py a).depth ≤ dep
  lay : ∀ a, (py a).canLay0 = true
  eqv : ∀ a b, PyData.eqv (py a) (py b) = true ↔ a = b

theorem toPyL_enc {α : Type} [Enc α] : ∀ xs : List α, toPyL (xs.map Enc.d) = some (xs.map Enc.py)
  | [] => rfl
  | a :: xs => by simp only [List.map_cons, toPyL, Enc.toPy, toPyL_enc xs]
theorem depthAll_enc {α : Type} [Enc α] : ∀ xs : List α, PyData.depthAll (xs.map Enc.py) ≤ Enc.dep α
  | [] => Nat.zero_le _
  | a :: xs => by
    rw [List.map_cons, PyData.depthAll]
    exact Nat.max_le.mpr ⟨Enc.depth a, depthAll_enc xs⟩
theorem layAll_enc {α : Type} [Enc α] : ∀ xs : List α, PyData.canLayAll0 (xs.map Enc.py) = true
  | [] => by simp [PyData.canLayAll0]
  | a :: xs => by rw [List.map_cons, PyData.canLayAll0, Enc.lay, layAll_enc xs]; rfl
theorem eqvAll_enc {α : Type} [Enc α] : ∀ xs ys : List α, PyData.eqvAll (xs.map Enc.py) (ys.map Enc.py) = true ↔ xs = ys
  | [], [] => by simp [PyData.eqvAll]
  | [], _ :: _ => by simp [PyData.eqvAll]
  | _ :: _, [] => by simp [PyData.eqvAll]
  | a :: xs, b :: ys => by
    rw [List.map_cons, List.map_cons, PyData.eqvAll, Bool.and_eq_true, Enc.eqv, eqvAll_enc xs ys, List.cons.injEq]
instance : Enc Int where
  d i := .int i
  py i := .int i
  toPy _ := rfl
  dep := 0
  depth _ := by simp [PyData.depth]
  lay _ := by simp [PyData.canLay0]
  eqv a b := by simp [PyData.eqv]
/-- as a tuple -/
instance {α : Type} [Enc α] : Enc (List α) where
  d xs := .tup (xs.map Enc.d)
  py xs := .tuple (xs.map Enc.py)
  toPy xs := by simp only [D.toPy, toPyL_enc, Option.map_some]
  dep := Enc.dep α + 1
  depth xs := by rw [PyData.depth]; exact Nat.succ_le_succ (depthAll_enc xs)
  lay xs := by rw [PyData.canLay0]; exact layAll_enc xs
  eqv xs ys := by rw [PyData.eqv]; exact eqvAll_enc xs ys
instance {α β : Type} [Enc α] [Enc β] : Enc (α × β) where
  d p := .tup [Enc.d p.1, Enc.d p.2]
  py p := .tuple [Enc.py p.1, Enc.py p.2]
  toPy p := by simp only [D.toPy, toPyL, Enc.toPy, Option.map_some]
  dep := max (Enc.dep α) (Enc.dep β) + 1
  depth p := by
    have h1 := Enc.depth p.1
    have h2 := Enc.depth p.2
    simp only [PyData.depth, PyData.depthAll]
    omega
  lay p := by simp only [PyData.canLay0, PyData.canLayAll0, Enc.lay]; rfl
  eqv p q := by
    simp only [PyData.eqv, PyData.eqvAll, Bool.and_eq_true, Enc.eqv, and_true]
    exact ⟨fun h => Prod.ext h.1 h.2, fun h => by rw [h]; exact ⟨rfl, rfl⟩⟩

section
variable {α : Type} [Enc α] [DecidableEq α]
omit [DecidableEq α] in
theorem shapedD_enc (h : Enc.dep α ≤ 64) (a : α) : shapedD (Enc.d a) = some (Enc.py a) := by
  unfold shapedD
  rw [Enc.toPy]
  show (if SeqAt.shaped (Enc.py a) then some (Enc.py a) else none) = _
  rw [if_pos]
  unfold SeqAt.shaped
  rw [Enc.lay, decide_eq_true (Nat.le_trans (Enc.depth a) h)]
  rfl
theorem eqv_enc (a b : α) : PyData.eqv (Enc.py a) (Enc.py b) = decide (a = b) := by
  by_cases h : a = b
  · rw [decide_eq_true h, (Enc.eqv a b).mpr h]
  · rw [decide_eq_false h]
    exact Bool.eq_false_iff.mpr fun e => h ((Enc.eqv a b).mp e)
theorem eqD_enc (h : Enc.dep α ≤ 64) (a b : α) : eqD (Enc.d a) (Enc.d b) = some (decide (a = b)) := by
  unfold eqD
  rw [shapedD_enc h, shapedD_enc h]
  show some _ = _
  rw [eqv_enc]
theorem any_enc (a : α) : ∀ xs : List α, ((xs.map Enc.py).any fun z => PyData.eqv z (Enc.py a)) = decide (a ∈ xs)
  | [] => by simp
  | b :: xs => by
    rw [List.map_cons, List.any_cons, any_enc a xs, eqv_enc]
    by_cases h : b = a
    · simp [h]
    · have : ¬ a = b := fun e => h e.symm
      simp [h, this]
theorem inD_enc (h : Enc.dep α ≤ 63) (a : α) (xs : List α) : inD (Enc.d a) (.tup (xs.map Enc.d)) = some (decide (a ∈ xs)) := by
  have e : shapedD (.tup (xs.map Enc.d)) = some (.tuple (xs.map Enc.py)) := shapedD_enc (α := List α) (Nat.succ_le_succ h) xs
  simp only [inD, shapedD_enc (Nat.le_succ_of_le h), e, any_enc]
theorem inD_encL (h : Enc.dep α ≤ 63) (a : α) (xs : List α) : inD (Enc.d a) (.lst (xs.map Enc.d)) = some (decide (a ∈ xs)) := by
  have e : shapedD (.lst (xs.map Enc.d)) = some (.list (xs.map Enc.py)) := by
    unfold shapedD
    simp only [D.toPy, toPyL_enc, Option.map_some]
    rw [if_pos]
    unfold SeqAt.shaped
    rw [PyData.canLay0, layAll_enc, PyData.depth]
    rw [decide_eq_true (Nat.succ_le_succ (Nat.le_trans (depthAll_enc xs) h))]
    rfl
  simp only [inD, shapedD_enc (Nat.le_succ_of_le h), e, any_enc]
end

/-! ### names -/
/-- rows of one to eight small letters -/
structure Lw where
  s : Str
  ok : (1 ≤ s.cps.size ∧ s.cps.size ≤ 8) ∧ ∀ c ∈ s.cps.toList, 97 ≤ c ∧ c ≤ 122
  deriving DecidableEq
theorem strOk_lw (n : Lw) : PyData.strOk n.s = true := by
  have h : PyData.strOk n.s = n.s.cps.all (· < 0x110000) := rfl
  rw [h, Array.all_eq_true_iff_forall_mem]
  intro c hc
  have := n.ok.2 c (Array.mem_toList_iff.mpr hc)
  exact decide_eq_true (by omega)
theorem Lw.ext' {a b : Lw} (h : a.s = b.s) : a = b := by cases a; cases b; cases h; rfl
instance : Enc Lw where
  d n := .str n.s
  py n := .str n.s
  toPy _ := rfl
  dep := 0
  depth _ := by simp [PyData.depth]
  lay n := by rw [PyData.canLay0]; exact strOk_lw n
  eqv a b := by
    simp only [PyData.eqv, beq_iff_eq]
    exact ⟨fun h => Lw.ext' h, fun h => by rw [h]⟩
def wordsS : List Str := ["all", "bar", "can", "channel", "ever", "fail", "in", "last", "log", "mean", "next", "no", "none", "of", "open", "piece", "play", "quit", "round", "rule", "rules", "safe", "slot", "slots", "station", "strike", "sure", "undo", "until", "yes"]
def wordsL : List Lw := wordsS.pmap (fun s h => ⟨s, h⟩) (by decide +kernel)
theorem wordsL_s : wordsL.map (·.s) = wordsS := by
  unfold wordsL
  rw [List.map_pmap]
  simp
/-- names: no words -/
structure Nm extends Lw where
  nw : s ∉ wordsS
  deriving DecidableEq
theorem Nm.ext' {a b : Nm} (h : a.s = b.s) : a = b := by
  obtain ⟨a, ha⟩ := a; obtain ⟨b, hb⟩ := b
  have : a = b := Lw.ext' h
  cases this; rfl
instance : Enc Nm where
  d n := .str n.s
  py n := .str n.s
  toPy _ := rfl
  dep := 0
  depth _ := by simp [PyData.depth]
  lay n := by rw [PyData.canLay0]; exact strOk_lw n.toLw
  eqv a b := by
    simp only [PyData.eqv, beq_iff_eq]
    exact ⟨fun h => Nm.ext' h, fun h => by rw [h]⟩
theorem inD_words (w : Lw) : inD (.str w.s) (.tup (wordsS.map .str)) = some (decide (w.s ∈ wordsS)) := by
  have h := inD_enc (α := Lw) (Nat.zero_le _) w wordsL
  rw [← wordsL_s, List.map_map]
  refine h.trans ?_
  congr 1
  rw [decide_eq_decide, List.mem_map]
  exact ⟨fun h => ⟨w, h, rfl⟩, fun ⟨a, h1, h2⟩ => Lw.ext' h2 ▸ h1⟩
theorem map_nm (ns : List Nm) : ns.map (Enc.d (α := Nm)) = (ns.map Nm.toLw).map (Enc.d (α := Lw)) := by rw [List.map_map]; rfl
theorem inD_nmL (w : Lw) (ns : List Nm) : inD (.str w.s) (.lst (ns.map Enc.d)) = some (decide (w ∈ ns.map Nm.toLw)) := by
  rw [map_nm]; exact inD_encL (Nat.zero_le _) w _
end VI

/-! P4: order, sorting. -/
namespace VI
open PySem L2 M

/-- things of one shape, in an order -/
class EncO (α : Type) extends Enc α where
  ali : ∀ a b, PySem.W.alike (py a) (py b) = true
  kind : (∀ a, isTup1 (py a) = true) ∨ (∀ a, noTup (py a) = true)
  sml : dep ≤ 16
  lt_d : ∀ a b, ltD (d a) (d b) = some (PySem.W.dataLt (py a) (py b))
section
variable {α : Type} [EncO α]
def ltE (a b : α) : Bool := PySem.W.dataLt (Enc.py a) (Enc.py b)
def leE (a b : α) : Bool := PySem.W.dataLe false (fun x : α => Enc.py x) a b
theorem ltD_enc (a b : α) : ltD (Enc.d a) (Enc.d b) = some (ltE a b) := EncO.lt_d a b
theorem leE_not (a b : α) : leE a b = !ltE b a := rfl
theorem toks_inj {a b : α} (h : PySem.W.keyToks (Enc.py a) = PySem.W.keyToks (Enc.py b)) : a = b := by
  apply Classical.byContradiction
  intro hab
  have h1 := (PySem.W.toks_eqv (Enc.py a) (Enc.py b) (EncO.ali a b)).2 (by
    exact Bool.eq_false_iff.mpr fun e => hab ((Enc.eqv a b).mp e)) [] [.inl 0]
  rw [h, PySem.W.lex_pre] at h1
  have h2 : PyProof.Rows.lexLt PyProof.Rows.itemOrd (PySem.W.keyToks (Enc.py b)) (PySem.W.keyToks (Enc.py b)) = false := PyProof.Rows.lex_irrefl _
  rw [h2] at h1
  exact absurd h1 (by decide)
theorem ltE_irrefl (a : α) : ltE a a = false := PyProof.Rows.lex_irrefl _
theorem ltE_trans {a b c : α} (h1 : ltE a b = true) (h2 : ltE b c = true) : ltE a c = true := PyProof.Rows.lex_trans _ _ _ h1 h2
theorem ltE_total {a b : α} (h1 : ltE a b = false) (h2 : ltE b a = false) : a = b := toks_inj (PyProof.Rows.lex_total _ _ h1 h2)
theorem ltE_asymm {a b : α} (h1 : ltE a b = true) : ltE b a = false := by
  cases h : ltE b a with
  | false => rfl
  | true => exact absurd (ltE_trans h1 h) (by rw [ltE_irrefl]; decide)
theorem leE_trans (a b c : α) (h1 : leE a b = true) (h2 : leE b c = true) : leE a c = true := (PySem.W.sortLe_total (PyProof.Rows.listOrd PyProof.Rows.itemOrd) false (fun x : α => PySem.W.keyToks (Enc.py x))).trans a b c h1 h2
theorem leE_total (a b : α) : (leE a b || leE b a) = true := by
  rw [leE_not, leE_not]
  cases h : ltE b a with
  | false => rfl
  | true => rw [ltE_asymm h]; rfl
/-- sorted -/
def srt (xs : List α) : List α := xs.mergeSort leE
theorem srt_perm (xs : List α) : (srt xs).Perm xs := List.mergeSort_perm xs leE
theorem srt_le (xs : List α) : (srt xs).Pairwise fun a b => leE a b = true := List.pairwise_mergeSort leE_trans leE_total xs
theorem srt_lt {xs : List α} (h : xs.Nodup) : (srt xs).Pairwise fun a b => ltE a b = true := by
  have h1 := (srt_perm xs).nodup_iff.mpr h
  refine (List.Pairwise.and (srt_le xs) h1).imp fun {a b} h => ?_
  cases e : ltE a b with
  | true => rfl
  | false =>
    have h2 := h.1
    rw [leE_not] at h2
    exact absurd (ltE_total e (by simpa using h2)) h.2
theorem sortD_enc (h : Enc.dep α ≤ 64) (xs : List α) (hl : xs.length ≤ 100000) : sortD (xs.map Enc.d) = some ((srt xs).map Enc.d) := by
  have hp : ∀ a : α, pyOf (Enc.d a) = Enc.py a := fun a => by unfold pyOf; rw [Enc.toPy]; rfl
  unfold sortD
  rw [if_pos]
  · unfold srt
    rw [List.map_mergeSort]
    intro a _ b _
    show PySem.W.dataLe false (fun x : α => Enc.py x) a b = PySem.W.dataLe false pyOf (Enc.d a) (Enc.d b)
    show (!PySem.W.dataLt (Enc.py b) (Enc.py a)) = !PySem.W.dataLt (pyOf (Enc.d b)) (pyOf (Enc.d a))
    rw [hp, hp]
  · simp only [Bool.and_eq_true, List.all_eq_true, List.mem_map, forall_exists_index, and_imp, forall_apply_eq_imp_iff₂, shapedD_enc h, Option.isSome_some, hp, EncO.ali, implies_true, and_true, Bool.or_eq_true]
    refine ⟨by rw [List.length_map]; exact decide_eq_true hl, ?_⟩
    rcases EncO.kind (α := α) with h | h
    · exact .inl fun a _ => h a
    · exact .inr fun a _ => h a
end
instance : EncO Int where
  ali _ _ := by simp [Enc.py, PySem.W.alike]
  kind := .inr fun _ => rfl
  sml := Nat.zero_le _
  lt_d a b := by
    exact congrArg some (PySem.W.dataLt_int a b).symm
instance : EncO Nm where
  ali _ _ := by simp [Enc.py, PySem.W.alike]
  kind := .inr fun _ => rfl
  sml := Nat.zero_le _
  lt_d a b := by
    exact congrArg some (PySem.W.dataLt_str a.s b.s).symm
/-- pairs of what is no pair -/
class EncS (α : Type) extends EncO α where
  flat : Enc.dep α = 0
instance : EncS Int where flat := rfl
instance : EncS Nm where flat := rfl
instance {α β : Type} [EncS α] [EncS β] : EncO (α × β) where
  sml := by show max (Enc.dep α) (Enc.dep β) + 1 ≤ 16; rw [EncS.flat, EncS.flat]; decide
  ali a b := by
    show PySem.W.alike (.tuple _) (.tuple _) = true
    rw [PySem.W.alike]
    simp [PySem.W.alikeAll, EncO.ali]
  kind := .inl fun _ => rfl
  lt_d a b := by
    have h : ∀ p : α × β, shapedD (.tup [Enc.d p.1, Enc.d p.2]) = some (.tuple [Enc.py p.1, Enc.py p.2]) := fun p => shapedD_enc (α := α × β) (by show max (Enc.dep α) (Enc.dep β) + 1 ≤ 64; rw [EncS.flat, EncS.flat]; decide) p
    have hal : PySem.W.alike (.tuple [Enc.py a.1, Enc.py a.2]) (.tuple [Enc.py b.1, Enc.py b.2]) = true := by
      rw [PySem.W.alike]; simp [PySem.W.alikeAll, EncO.ali]
    show ltD (.tup [Enc.d a.1, Enc.d a.2]) (.tup [Enc.d b.1, Enc.d b.2]) = some (PySem.W.dataLt (.tuple [Enc.py a.1, Enc.py a.2]) (.tuple [Enc.py b.1, Enc.py b.2]))
    simp only [ltD, h, hal, isSeqP]
    rfl
end VI

/-! P5: the draws of a law. -/
namespace VI
open PySem L2 M

/-- the pool's box -/
def PoolAt (β : Sto) (p : Nat) : Prop := ∃ a b c : Int, β[p]? = some ⟨.lst [.int a, .int b, .int c], true⟩
/-- the pool alone is changed -/
structure Ch (p : Nat) (β β' : Sto) : Prop where
  len : β.length ≤ β'.length
  oth : ∀ i, i ≠ p → i < β.length → β'[i]? = β[i]?
  pool : PoolAt β' p
theorem Ch.refl {p : Nat} {β : Sto} (h : PoolAt β p) : Ch p β β := ⟨Nat.le_refl _, fun _ _ _ => rfl, h⟩
theorem Ch.trans {p : Nat} {β β' β'' : Sto} (h : Ch p β β') (h' : Ch p β' β'') : Ch p β β'' :=
  ⟨Nat.le_trans h.len h'.len, fun i hi hl => (h'.oth i hi (Nat.lt_of_lt_of_le hl h.len)).trans (h.oth i hi hl), h'.pool⟩
theorem Ch.set {p : Nat} {β : Sto} (h : p < β.length) (a b c : Int) : Ch p β (β.set p ⟨.lst [.int a, .int b, .int c], true⟩) :=
  ⟨by rw [List.length_set]; exact Nat.le_refl _, fun i hi _ => List.getElem?_set_ne (Ne.symm hi), ⟨a, b, c, List.getElem?_set_self h⟩⟩
theorem mulOk_r {i j : Int} (h : -(2 ^ 64) < j ∧ j < 2 ^ 64) : mulOk i j = true := by
  unfold mulOk; rw [decide_eq_true (show j.natAbs < 18446744073709551616 by omega), Bool.or_true]
theorem mulOk_l {i j : Int} (h : -(2 ^ 64) < i ∧ i < 2 ^ 64) : mulOk i j = true := by
  unfold mulOk; rw [decide_eq_true (show i.natAbs < 18446744073709551616 by omega), Bool.true_or]
theorem mulOk_mod {i j m k : Int} (h : 0 < m ∧ m < 2 ^ 62) (hk : 0 ≤ k ∧ k < 2 ^ 62) : mulOk i (j % m + k) = true := by
  have h1 := Int.emod_nonneg j (Int.ne_of_gt h.1)
  have h2 := Int.emod_lt_of_pos j h.1
  exact mulOk_r ⟨by omega, by omega⟩
theorem wp_deref_set {E : Exc → Sto → Prop} {β : Sto} {p : Nat} (hl : p < β.length) (xs : List D) (l : Bool) (Q : D → Sto → Prop) : Wp E (deref (.box p) (β.set p ⟨.lst xs, l⟩)) Q = Q (.lst xs) (β.set p ⟨.lst xs, l⟩) := by
  unfold deref; simp only [List.getElem?_set_self hl, ctD]; rfl
theorem wp_getIx_set {E : Exc → Sto → Prop} {β : Sto} {p : Nat} (hl : p < β.length) (xs : List D) (l : Bool) (i : Int) (Q : D → Sto → Prop) : Wp E (getIx (.box p) (.int i) (β.set p ⟨.lst xs, l⟩)) Q = Wp E (M.opt (atI xs i) (β.set p ⟨.lst xs, l⟩)) Q := by
  unfold getIx; rw [wp_bnd, wp_deref_set hl]; rfl
theorem wp_putIx_set {E : Exc → Sto → Prop} {β : Sto} {p : Nat} (hl : p < β.length) (xs : List D) (i : Int) (x : D) (Q : Unit → Sto → Prop) : Wp E (putIx (.box p) (.int i) x (β.set p ⟨.lst xs, true⟩)) Q = match ixN xs.length i with | some j => Q () (β.set p ⟨.lst (xs.set j x), true⟩) | none => False := by
  unfold putIx getBox
  rw [wp_bnd]
  simp only [List.getElem?_set_self hl]
  show Wp E ((match ixN xs.length i with | some j => setBox (.box p) (.lst (xs.set j x)) | none => M.bad) (β.set p ⟨.lst xs, true⟩)) Q = _
  cases ixN xs.length i with
  | none => rfl
  | some j =>
    unfold setBox
    simp only [List.getElem?_set_self hl, List.set_set]
    rfl
theorem atI_3 (x y z : D) : atI [x, y, z] 0 = some x ∧ atI [x, y, z] 1 = some y ∧ atI [x, y, z] 2 = some z := ⟨rfl, rfl, rfl⟩
theorem ixN_3 : ixN 3 0 = some 0 ∧ ixN 3 1 = some 1 ∧ ixN 3 2 = some 2 := ⟨rfl, rfl, rfl⟩
theorem binD_mul {i j : Int} (h : mulOk i j = true) : binD .mul (.int i) (.int j) = some (.int (i * j)) := if_pos h
theorem binD_fdiv {i j : Int} (h : 0 < j ∧ j < 1073741824) : binD .fdiv (.int i) (.int j) = some (.int (i / j)) := if_pos ⟨h.1, by omega⟩
theorem binD_mod {i j : Int} (h : 0 < j) : binD .mod (.int i) (.int j) = some (.int (i % j)) := if_pos h
theorem binD_add (i j : Int) : binD .add (.int i) (.int j) = some (.int (i + j)) := rfl
theorem binD_sub (i j : Int) : binD .sub (.int i) (.int j) = some (.int (i - j)) := rfl
theorem divmod_i {i j : Int} (h : 0 < j ∧ j < 1073741824) : bltD .divmod [.int i, .int j] = some (.tup [.int (i / j), .int (i % j)]) := if_pos ⟨h.1, by omega⟩
theorem blt_int (i : Int) : bltD .int [.int i] = some (.int i) := rfl
theorem cmp_gt (i j : Int) : cmpD .gt (.int i) (.int j) = some (decide (j < i)) := rfl
theorem cmp_le (i j : Int) : cmpD .le (.int i) (.int j) = some (decide (i ≤ j)) := rfl
theorem cmp_ge (i j : Int) : cmpD .ge (.int i) (.int j) = some (decide (j ≤ i)) := rfl
theorem cmp_lt (i j : Int) : cmpD .lt (.int i) (.int j) = some (decide (i < j)) := rfl
theorem wp_callA (T : Tbl) (n f : Nat) (args : List VV) {F : FDef} {s : Sto} {Q : VV → Sto → Prop} {E : Exc → Sto → Prop} (h : T.fs[f]? = some F) (w : Wp E (runF T (callA T n) F args s) Q) : Wp E (callA T (n + 1) (.f f) args s) Q := by
  rw [callA_f T n f args h]; exact w
theorem set_self {β : Sto} {p : Nat} {x : Bx} (h : β[p]? = some x) : β.set p x = β := by
  obtain ⟨h1, h2⟩ := List.getElem?_eq_some_iff.mp h
  rw [← h2]; exact List.set_getElem_self h1
namespace K
abbrev T := T0 1000
theorem w_draw {n p : Nat} {m : Int} {β : Sto} {E : Exc → Sto → Prop} {Q : VV → Sto → Prop} (h : PoolAt β p) (h1 : 1 ≤ m) (h2 : m < 1073741824) (q : ∀ r β', 0 ≤ r → r < m → Ch p β β' → Q (.d (.int r)) β') :
    Wp E (callA T (n + 1) (.f i__law_draw) [.box p, .d (.int m)] β) Q := by
  obtain ⟨a, b, c, h⟩ := h
  have hl : p < β.length := (List.getElem?_eq_some_iff.mp h).1
  have hd : 0 < m ∧ m < 1073741824 := ⟨by omega, h2⟩
  have hm : 0 < m := hd.1
  have e := set_self h
  refine wp_callA T n i__law_draw _ rfl ?_
  have hr : ∀ i : Int, 0 ≤ i % m := fun i => Int.emod_nonneg i (by omega)
  have hr' : ∀ i : Int, i % m < m := fun i => Int.emod_lt_of_pos i hm
  rw [← e]
  by_cases ha : 0 < a
  · simp [runF, B__law_draw, exSs, exS, ev, evs, evT, startS, setT, setTs, wp_bnd, wp_noExc, wp_deref_set hl, wp_getIx_set hl, wp_putIx_set hl, atI_3, ixN_3, derefs, divmod_i, hd, cmp_gt, ha]
    exact q _ _ (hr _) (hr' _) (.set hl _ _ _)
  · simp [runF, B__law_draw, exSs, exS, ev, evs, evT, startS, setT, setTs, wp_bnd, wp_noExc, wp_deref_set hl, wp_getIx_set hl, wp_putIx_set hl, atI_3, ixN_3, derefs, cmp_gt, ha, binD_add, binD_mul, binD_fdiv, binD_mod, mulOk_l, mulOk_r, mulOk_mod, hm, blt_int]
    exact q _ _ (hr _) (hr' _) (.set hl _ _ _)
end K
end VI

namespace VI
open PySem L2 M
theorem wp_getIx_tup {E : Exc → Sto → Prop} {s : Sto} (xs : List D) (i : Int) (Q : D → Sto → Prop) : Wp E (getIx (.d (.tup xs)) (.int i) s) Q = Wp E (M.opt (atI xs i) s) Q := rfl
theorem getIx_tup (xs : List D) (i : Int) : getIx (.d (.tup xs)) (.int i) = M.opt (atI xs i) := rfl
theorem getIx_lstD (xs : List D) (i : Int) : getIx (.d (.lst xs)) (.int i) = M.opt (atI xs i) := rfl
theorem wp_deref_at {E : Exc → Sto → Prop} {β : Sto} {u : Nat} {xs : List D} {l : Bool} (h : β[u]? = some ⟨.lst xs, l⟩) (Q : D → Sto → Prop) : Wp E (deref (.box u) β) Q = Q (.lst xs) β := by
  unfold deref; simp only [h, ctD]; rfl
theorem wp_getIx_at {E : Exc → Sto → Prop} {β : Sto} {u : Nat} {xs : List D} {l : Bool} (h : β[u]? = some ⟨.lst xs, l⟩) (i : Int) (Q : D → Sto → Prop) : Wp E (getIx (.box u) (.int i) β) Q = Wp E (M.opt (atI xs i) β) Q := by
  unfold getIx; rw [wp_bnd, wp_deref_at h]; rfl
theorem blt_len_tup (xs : List D) : bltD .len [.tup xs] = some (.int xs.length) := rfl
theorem blt_len_lst (xs : List D) : bltD .len [.lst xs] = some (.int xs.length) := rfl
theorem atI_pos {α : Type} {xs : List α} {r : Int} (h : 0 ≤ r) (h' : r < xs.length) : ∃ x, atI xs r = some x ∧ x ∈ xs := by
  obtain ⟨k, rfl⟩ := Int.eq_ofNat_of_zero_le h
  have hk : k < xs.length := by omega
  refine ⟨xs[k], ?_, List.getElem_mem hk⟩
  unfold atI ixN
  rw [if_pos h, if_pos h']
  simp [hk]
namespace K
theorem w_of_tup {n p : Nat} {xs : List D} {β : Sto} {E : Exc → Sto → Prop} {Q : VV → Sto → Prop} (h : PoolAt β p) (h1 : xs ≠ []) (h2 : xs.length < 1073741824) (q : ∀ x β', x ∈ xs → Ch p β β' → Q (.d x) β') :
    Wp E (callA T (n + 2) (.f i__law_of) [.box p, .d (.tup xs)] β) Q := by
  have hp : 0 < xs.length := List.length_pos_iff.mpr h1
  refine wp_callA T (n + 1) i__law_of _ rfl ?_
  simp [runF, B__law_of, exSs, exS, ev, evs, startS, wp_bnd, derefs, blt_len_tup]
  refine w_draw h (by omega) (by omega) fun r β' hr hr' c => ?_
  obtain ⟨x, e, hx⟩ := atI_pos hr hr'
  simp [wp_bnd, getIx_tup, e, startS]
  exact q x β' hx c
theorem w_of_lst {n p : Nat} {xs : List D} {β : Sto} {E : Exc → Sto → Prop} {Q : VV → Sto → Prop} (h : PoolAt β p) (h1 : xs ≠ []) (h2 : xs.length < 1073741824) (q : ∀ x β', x ∈ xs → Ch p β β' → Q (.d x) β') :
    Wp E (callA T (n + 2) (.f i__law_of) [.box p, .d (.lst xs)] β) Q := by
  have hp : 0 < xs.length := List.length_pos_iff.mpr h1
  refine wp_callA T (n + 1) i__law_of _ rfl ?_
  simp [runF, B__law_of, exSs, exS, ev, evs, startS, wp_bnd, derefs, blt_len_lst]
  refine w_draw h (by omega) (by omega) fun r β' hr hr' c => ?_
  obtain ⟨x, e, hx⟩ := atI_pos hr hr'
  simp [wp_bnd, getIx_lstD, e, startS]
  exact q x β' hx c
end K
end VI

namespace VI
open PySem L2 M
/-! ### texts of letters -/
def Lts (s : Str) : Prop := ∀ c ∈ s.cps.toList, 97 ≤ c ∧ c ≤ 122
theorem lts_app {a b : Str} (h : Lts a) (h' : Lts b) : Lts (a ++ b) := by
  intro c hc
  have e : (a ++ b).cps.toList = a.cps.toList ++ b.cps.toList := by show (a.cps ++ b.cps).toList = _; simp
  rw [e, List.mem_append] at hc
  exact hc.elim (h c) (h' c)
theorem len_app (a b : Str) : (a ++ b).length = a.length + b.length := by show (a.cps ++ b.cps).size = _; rw [Array.size_append]; rfl
theorem cutS_pre (z : Str) (k : Nat) : cutS z none (some (k : Int)) = ⟨(z.cps.toList.take k).toArray⟩ := by
  unfold cutS
  rw [HT.sIx_none, HT.sIx_nat, Nat.sub_zero, List.drop_zero]
  congr 2
  have : z.length = z.cps.toList.length := by simp [Str.length]
  rw [List.take_eq_take_iff]
  omega
theorem lts_cut {z : Str} (k : Nat) (h : Lts z) : Lts (cutS z none (some (k : Int))) := by
  rw [cutS_pre]
  intro c hc
  exact h c (List.mem_of_mem_take (by simpa using hc))
theorem len_cut (z : Str) (k : Nat) : (cutS z none (some (k : Int))).length = min k z.length := by
  rw [cutS_pre]
  simp [Str.length]
theorem slD_pre {z : Str} {k : Nat} (h : z.length ≤ 100000) : slD (.str z) none (some (k : Int)) = some (.str (cutS z none (some (k : Int)))) := if_pos (decide_eq_true h)
theorem binD_str {a b : Str} (h : a.length + b.length ≤ 100000) : binD .add (.str a) (.str b) = some (.str (a ++ b)) := if_pos (decide_eq_true h)
theorem ixD_str {z : Str} {i : Int} (hz : z.length ≤ 100000) (h : 0 ≤ i) (h' : i < z.length) : ∃ c, ixD (.str z) (.int i) = some (.str ⟨#[c]⟩) ∧ c ∈ z.cps.toList := by
  obtain ⟨c, e, hc⟩ := atI_pos (xs := z.cps.toList) h (by simpa [Str.length] using h')
  refine ⟨c, ?_, hc⟩
  have h1 : ixD (.str z) (.int i) = if small z.length then (atI z.cps.toList i).map fun c => D.str ⟨#[c]⟩ else none := rfl
  rw [h1, if_pos (show small z.length = true from decide_eq_true hz), e]; rfl
theorem getIx_str {z : Str} (i : Int) : getIx (.d (.str z)) (.int i) = M.opt (ixD (.str z) (.int i)) := rfl
theorem lts_chr {c : Nat} (h : 97 ≤ c ∧ c ≤ 122) : Lts ⟨#[c]⟩ := by
  intro d hd
  simp at hd
  subst hd; exact h
def abc : Str := "abcdefghijklmnopqrstuvwxyz"
theorem abc_lts : Lts abc := by
  unfold Lts
  decide +kernel
theorem abc_len : abc.length = 26 := by decide +kernel
theorem ix_abc {i : Int} (h : 0 ≤ i) (h' : i < 26) : ∃ c, ixD (.str "abcdefghijklmnopqrstuvwxyz") (.int i) = some (.str ⟨#[c]⟩) ∧ 97 ≤ c ∧ c ≤ 122 := by
  obtain ⟨c, e, hc⟩ := ixD_str (z := abc) (by rw [abc_len]; decide) h (by rw [abc_len]; exact h')
  exact ⟨c, e, abc_lts c hc⟩
/-! ### the names behind all others -/
def candS (k : Nat) : Str := repStr ⟨#[97 + k]⟩ 8
theorem cand_ix : ∀ k : Nat, k < 12 → ixD (.str "abcdefghijkl") (.int k) = some (.str ⟨#[97 + k]⟩)
  | 0, _ => rfl | 1, _ => rfl | 2, _ => rfl | 3, _ => rfl | 4, _ => rfl | 5, _ => rfl | 6, _ => rfl | 7, _ => rfl | 8, _ => rfl | 9, _ => rfl | 10, _ => rfl | 11, _ => rfl
  | k + 12, h => absurd h (by omega)
theorem cand_ok : ∀ k : Nat, k < 12 → ((1 ≤ (candS k).cps.size ∧ (candS k).cps.size ≤ 8) ∧ ∀ c ∈ (candS k).cps.toList, 97 ≤ c ∧ c ≤ 122) ∧ candS k ∉ wordsS := by decide +kernel
theorem cand_mul (k : Nat) (h : k < 12) : binD .mul (.str ⟨#[97 + k]⟩) (.int 8) = some (.str (candS k)) := by
  have h1 : (repStr ⟨#[97 + k]⟩ 8).length ≤ 100000 := Nat.le_trans (cand_ok k h).1.1.2 (by decide)
  have h2 : (2 : Int) ≤ 8 ∧ (8 : Int) ≤ 1000 ∧ 1 ≤ (⟨#[97 + k]⟩ : Str).length ∧ (⟨#[97 + k]⟩ : Str).length * (8 : Int).toNat ≤ 100000 ∧ (repStr ⟨#[97 + k]⟩ (8 : Int).toNat).length ≤ 100000 := ⟨by decide, by decide, Nat.le_refl 1, by show 1 * 8 ≤ 100000; decide, h1⟩
  have e : binD .mul (.str ⟨#[97 + k]⟩) (.int 8) = if (2 : Int) ≤ 8 ∧ (8 : Int) ≤ 1000 ∧ 1 ≤ (⟨#[97 + k]⟩ : Str).length ∧ (⟨#[97 + k]⟩ : Str).length * (8 : Int).toNat ≤ 100000 ∧ (repStr ⟨#[97 + k]⟩ (8 : Int).toNat).length ≤ 100000 then some (.str (repStr ⟨#[97 + k]⟩ (8 : Int).toNat)) else none := rfl
  rw [e, if_pos h2]; rfl
theorem cand_inj : ∀ j : Nat, j < 12 → ∀ k : Nat, k < 12 → candS j = candS k → j = k := by decide +kernel
def cand (k : Nat) (h : k < 12) : Nm := ⟨⟨candS k, (cand_ok k h).1⟩, (cand_ok k h).2⟩
end VI

namespace VI
open PySem L2 M
theorem ne_lst_nil {α : Type} [Enc α] [DecidableEq α] (h : Enc.dep α ≤ 63) (xs : List α) : cmpD .ne (.lst (xs.map Enc.d)) (.lst []) = some (!decide (xs = [])) := by
  have e1 : ∀ ys : List α, shapedD (.lst (ys.map Enc.d)) = some (.list (ys.map Enc.py)) := fun ys => by
    unfold shapedD
    simp only [D.toPy, toPyL_enc, Option.map_some]
    rw [if_pos]
    unfold SeqAt.shaped
    rw [PyData.canLay0, layAll_enc, PyData.depth]
    rw [decide_eq_true (Nat.succ_le_succ (Nat.le_trans (depthAll_enc ys) h))]
    rfl
  have e2 : shapedD (.lst []) = some (.list []) := e1 []
  show (eqD _ _).map _ = _
  unfold eqD
  rw [e1, e2]
  show some (!PyData.eqv (.list (xs.map Enc.py)) (.list [])) = _
  rw [PyData.eqv]
  have := eqvAll_enc xs []
  by_cases h : xs = []
  · subst h; simp [PyData.eqvAll]
  · have h2 : PyData.eqvAll (xs.map Enc.py) [] = false := Bool.eq_false_iff.mpr fun e => h (this.mp e)
    rw [h2, decide_eq_false h]
theorem cmp_eq_int (i j : Int) : cmpD .eq (.int i) (.int j) = some (decide (i = j)) := eqD_enc (α := Int) (Nat.zero_le _) i j
end VI

namespace VI
open PySem L2 M
theorem binD_tup {xs ys : List D} (h : xs.length + ys.length ≤ 100000) : binD .add (.tup xs) (.tup ys) = some (.tup (xs ++ ys)) := if_pos (decide_eq_true h)
theorem binD_lsB {xs ys : List D} (h : xs.length + ys.length ≤ 100000) : binD .add (.lst xs) (.lst ys) = some (.lst (xs ++ ys)) := if_pos (decide_eq_true h)
theorem rngOk_of {a : Int} (h : -1000000 ≤ a ∧ a ≤ 1000000) : rngOk a = true := decide_eq_true (by omega)
theorem eq_retP {α : Type} {m : M α} {v : α} (h : ∀ s, Wp noE (m s) fun a s' => a = v ∧ s' = s) : m = ret v := by
  funext s
  obtain ⟨a, t, e, rfl, rfl⟩ := (h s).ok
  exact e
def wordsA : Str := "all bar can channel ever fail in last log mean next no none of open piece play quit round rule rules safe"
def wordsB : Str := " slot slots station strike sure undo until yes"
theorem words_add : binD .add (.str wordsA) (.str wordsB) = some (.str (wordsA ++ wordsB)) := binD_str (by decide +kernel)
theorem words_split : splitD (.str (wordsA ++ wordsB)) " " = some (wordsS.map .str) := by kernel_rfl
namespace K
theorem f_words (n : Nat) : callA T (n + 1) (.f i__law_words) [] = ret (.d (.lst (wordsS.map .str))) := by
  rw [callA_f T n _ _ rfl]
  have e1 : binD .add (.str (Str.ofString "all bar can channel ever fail in last log mean next no none of open piece play quit round rule rules safe")) (.str (Str.ofString " slot slots station strike sure undo until yes")) = some (.str (wordsA ++ wordsB)) := words_add
  have e2 : splitD (.str (wordsA ++ wordsB)) (Str.ofString " ") = some (wordsS.map .str) := words_split
  simp [runF, B__law_words, exSs, exS, ev, evs, evF, startS, setT, noExc, e1, e2, ctZ]
end K
end VI

namespace VI
open PySem L2 M
theorem wp_isLst_at {E : Exc → Sto → Prop} {β : Sto} {u : Nat} {xs : List D} {l : Bool} (h : β[u]? = some ⟨.lst xs, l⟩) (Q : Unit → Sto → Prop) : Wp E (isLst (.box u) β) Q = Q () β := by
  unfold isLst getBox; rw [wp_bnd]; simp only [h]; rfl
theorem wp_getBox_at {E : Exc → Sto → Prop} {β : Sto} {u : Nat} {b : Bx} (h : β[u]? = some b) (Q : Ct → Sto → Prop) : Wp E (getBox (.box u) β) Q = Q b.ct β := by
  unfold getBox; simp only [h]; rfl
theorem wp_setBox_at {E : Exc → Sto → Prop} {β : Sto} {u : Nat} {c c' : Ct} (h : β[u]? = some ⟨c', true⟩) (Q : Unit → Sto → Prop) : Wp E (setBox (.box u) c β) Q = Q () (β.set u ⟨c, true⟩) := by
  unfold setBox; simp only [h]; rfl
theorem wp_newBox {E : Exc → Sto → Prop} {β : Sto} {c : Ct} (Q : VV → Sto → Prop) : Wp E (newBox c β) Q = Q (.box β.length) (β ++ [⟨c, true⟩]) := rfl
theorem small_of {n : Nat} (h : n ≤ 100000) : small n = true := decide_eq_true h
/-- another box is changed -/
theorem Ch.setO {p u : Nat} {β s : Sto} (c : Ch p β s) (x : Bx) (h : β.length ≤ u) (hp : p < β.length) : Ch p β (s.set u x) :=
  ⟨by rw [List.length_set]; exact c.len, fun i hi hl => by rw [List.getElem?_set_ne (by omega)]; exact c.oth i hi hl, by
    obtain ⟨a, b, d, e⟩ := c.pool
    exact ⟨a, b, d, by rw [List.getElem?_set_ne (by omega)]; exact e⟩⟩
theorem PoolAt.lt {β : Sto} {p : Nat} (h : PoolAt β p) : p < β.length := by obtain ⟨a, b, c, h⟩ := h; exact (List.getElem?_eq_some_iff.mp h).1
theorem Ch.new {p : Nat} {β : Sto} (h : PoolAt β p) (x : Bx) : Ch p β (β ++ [x]) :=
  ⟨by simp, fun i _ hl => List.getElem?_append_left hl, by
    obtain ⟨a, b, c, e⟩ := h
    exact ⟨a, b, c, by rw [List.getElem?_append_left (List.getElem?_eq_some_iff.mp e).1]; exact e⟩⟩
end VI

namespace VI
open PySem L2 M
/-! P12: pieces, rules; checks that hold. -/
structure Pc where
  nm : Nm
  ar : Nm
  rest : Int
  worth : Int
  ok : (0 ≤ rest ∧ rest ≤ 3) ∧ (0 ≤ worth ∧ worth ≤ 99)
  deriving DecidableEq
instance : Enc Pc where
  d p := .tup [.str p.nm.s, .str p.ar.s, .int p.rest, .int p.worth]
  py p := .tuple [.str p.nm.s, .str p.ar.s, .int p.rest, .int p.worth]
  toPy _ := rfl
  dep := 1
  depth _ := by simp [PyData.depth, PyData.depthAll]
  lay n := by simp [PyData.canLay0, PyData.canLayAll0, strOk_lw]
  eqv a b := by
    obtain ⟨a1, a2, a3, a4, a5⟩ := a
    obtain ⟨b1, b2, b3, b4, b5⟩ := b
    simp only [PyData.eqv, PyData.eqvAll, Bool.and_eq_true, beq_iff_eq, Pc.mk.injEq, and_true]
    exact ⟨fun h => ⟨Nm.ext' h.1, Nm.ext' h.2.1, h.2.2⟩, fun h => by obtain ⟨rfl, rfl, h⟩ := h; exact ⟨rfl, rfl, h⟩⟩
theorem pc_d (p : Pc) : Enc.d p = .tup [Enc.d p.nm, Enc.d p.ar, .int p.rest, .int p.worth] := rfl
theorem inD_barL (b : Nm × Nm) (bs : List (Nm × Nm)) : inD (.tup [.str b.1.s, .str b.2.s]) (.lst (bs.map Enc.d)) = some (decide (b ∈ bs)) := (inD_encL (α := Nm × Nm) (by decide) b bs).trans (by congr)

theorem eq_ret {α : Type} {m : M α} {v : α} (h : ∀ s, Wp noE (m s) fun a s' => a = v ∧ s' = s) : m = ret v := by
  funext s
  obtain ⟨a, t, e, rfl, rfl⟩ := (h s).ok
  exact e
/-! ### shapes -/
theorem isVV_d (x : D) (c : Cl) : isVV (.d x) c = if isF x then bad else ret (isD x c) := rfl
@[simp] theorem isF_non : isF D.non = false := rfl
@[simp] theorem isF_bl (b : Bool) : isF (.bl b) = false := rfl
@[simp] theorem isF_int (i : Int) : isF (.int i) = false := rfl
@[simp] theorem isF_str (x : Str) : isF (.str x) = false := rfl
@[simp] theorem isF_tup (xs : List D) : isF (.tup xs) = false := rfl
@[simp] theorem isF_ktp (xs : List D) : isF (.ktp xs) = false := rfl
@[simp] theorem isF_lst (xs : List D) : isF (.lst xs) = false := rfl
@[simp] theorem isF_lck (xs : List D) : isF (.lck xs) = false := rfl
@[simp] theorem isF_dic (t : Bool) (xs : List (D × D)) : isF (.dic t xs) = false := rfl
@[simp] theorem isF_ins (c : Nat) (fs : List (Str × D)) : isF (.ins c fs) = false := rfl
@[simp] theorem isF_enc {α : Type} [Enc α] (x : α) : isF (Enc.d x) = false := by
  have h := Enc.toPy x
  cases e : (Enc.d x : D) <;> try rfl
  rw [e] at h; simp [D.toPy] at h
theorem isD_nm (x : Nm) : isD (Enc.d x) .str = true := rfl
theorem isD_tup (xs : List D) : isD (.tup xs) .tuple = true := rfl
theorem isD_ii (i : Int) : isD (.int i) .int = true := rfl
theorem isD_ib (i : Int) : isD (.int i) .bool = false := rfl
theorem asBool_d (b : Bool) : asBool (.d (.bl b)) = ret b := rfl
theorem eq_tup_nil {α : Type} [Enc α] [DecidableEq α] (h : Enc.dep α ≤ 63) (xs : List α) : cmpD .eq (.tup (xs.map Enc.d)) (.tup []) = some (decide (xs = [])) :=
  eqD_enc (α := List α) (Nat.succ_le_succ h) xs []
theorem ne_tup_nil {α : Type} [Enc α] [DecidableEq α] (h : Enc.dep α ≤ 63) (xs : List α) : cmpD .ne (.tup (xs.map Enc.d)) (.tup []) = some (!decide (xs = [])) := by
  show (eqD _ _).map _ = _
  rw [show eqD (.tup (xs.map Enc.d)) (.tup []) = _ from eqD_enc (α := List α) (Nat.succ_le_succ h) xs []]; rfl
theorem eq_nm (a b : Nm) : cmpD .eq (Enc.d a) (Enc.d b) = some (decide (a = b)) := eqD_enc (α := Nm) (Nat.zero_le _) a b
theorem in_nms (a : Nm) (xs : List Nm) : cmpD .isin (Enc.d a) (.tup (xs.map Enc.d)) = some (decide (a ∈ xs)) := inD_enc (α := Nm) (Nat.zero_le _) a xs
theorem lt_nm (a b : Nm) : cmpD .lt (Enc.d a) (Enc.d b) = some (ltE a b) := ltD_enc a b
theorem lt_bar (a b : Nm × Nm) : cmpD .lt (Enc.d a) (Enc.d b) = some (ltE a b) := ltD_enc a b
theorem atI_nat {α : Type} (xs : List α) (k : Nat) : atI xs (k : Int) = xs[k]? := by
  unfold atI ixN
  rw [if_pos (by omega)]
  by_cases h : (k : Int) < xs.length
  · rw [if_pos h]; simp
  · rw [if_neg h]
    symm
    simp; omega
theorem atI_m1 {α : Type} (xs : List α) : atI xs (-1) = xs.getLast? := by
  unfold atI ixN
  rw [if_neg (by decide)]
  cases xs with
  | nil => rfl
  | cons x r =>
    rw [if_pos (by simp only [List.length_cons]; omega), List.getLast?_eq_getElem?]
    have e : (-1 + ((x :: r).length : Int)).toNat = (x :: r).length - 1 := by simp only [List.length_cons]; omega
    rw [e]; rfl
theorem cutL_pre {α : Type} (xs : List α) (k : Nat) : cutL xs none (some (k : Int)) = xs.take k := by
  unfold cutL
  rw [HT.sIx_none, HT.sIx_nat, Nat.sub_zero, List.drop_zero, List.take_eq_take_iff]
  omega
theorem cutL_suf {α : Type} (xs : List α) (k : Nat) : cutL xs (some (k : Int)) none = xs.drop k := by
  unfold cutL
  rw [HT.sIx_none, HT.sIx_nat]
  by_cases h : k ≤ xs.length
  · rw [Nat.min_eq_left h]
    rw [List.take_of_length_le (by rw [List.length_drop]; exact Nat.le_refl _)]
  · rw [Nat.min_eq_right (by omega), List.drop_length, List.drop_of_length_le (by omega), List.take_nil]
theorem slD_tup (xs : List D) (lo hi : Option Int) : slD (.tup xs) lo hi = some (.tup (cutL xs lo hi)) := rfl
theorem lenD_nm (x : Nm) : bltD .len [Enc.d x] = some (.int x.s.length) := by
  have h : x.s.length ≤ 100000 := Nat.le_trans x.ok.1.2 (by decide)
  have e : lenD (.str x.s) = some x.s.length := if_pos (decide_eq_true h)
  have e' : bltD .len [Enc.d x] = (lenD (.str x.s)).map fun n => D.int (n : Int) := rfl
  rw [e', e]; rfl
theorem items_nm (x : Nm) : itemsD (Enc.d x) = some (x.s.cps.toList.map fun c => .str ⟨#[c]⟩) := by
  have h : x.s.length ≤ 100000 := Nat.le_trans x.ok.1.2 (by decide)
  show (if small x.s.length then some (chrsD x.s) else none) = _
  exact if_pos (decide_eq_true h)
theorem items_tup {xs : List D} (h : xs.length ≤ 100000) : itemsD (.tup xs) = some xs := if_pos (decide_eq_true h)
theorem items_lst {xs : List D} (h : xs.length ≤ 100000) : itemsD (.lst xs) = some xs := if_pos (decide_eq_true h)
theorem seq_tup {xs : List D} (h : xs.length ≤ 100000) : seqD (.tup xs) = some xs := if_pos (decide_eq_true h)
theorem in_abc : ∀ k : Nat, k < 26 → inD (.str ⟨#[97 + k]⟩) (.str "abcdefghijklmnopqrstuvwxyz") = some true := by decide +kernel
theorem ne_empty (x : Nm) : cmpD .ne (Enc.d x) (.str "") = some true := by
  show (eqD (.str x.s) (.str "")).map _ = _
  have h1 : shapedD (.str x.s) = some (.str x.s) := shapedD_enc (α := Nm) (Nat.zero_le _) x
  have h2 : shapedD (.str "") = some (.str "") := if_pos (by decide +kernel)
  unfold eqD
  rw [h1, h2]
  show some (!PyData.eqv (.str x.s) (.str "")) = _
  rw [PyData.eqv]
  have h3 : ¬ x.s = "" := fun e => by
    have := x.ok.1.1
    rw [e] at this
    exact absurd this (by decide)
  have h4 : (x.s == ("" : Str)) = false := by
    rw [beq_eq_false_iff_ne]; exact h3
  rw [h4]; rfl
theorem in_words (x : Nm) : cmpD .notin (Enc.d x) (.ktp (wordsS.map .str)) = some true := by
  show (inD (.str x.s) _).map _ = _
  rw [show inD (.str x.s) (.ktp (wordsS.map .str)) = _ from inD_words x.toLw, decide_eq_false x.nw]; rfl
theorem all_true {α : Type} (xs : List α) : bltD .all [.lst (xs.map fun _ => D.bl true)] = some (.bl true) := by
  have h : blsD (xs.map fun _ => D.bl true) = some (xs.map fun _ => true) := by
    induction xs with
    | nil => rfl
    | cons x xs ih => simp only [List.map_cons, blsD, ih, Option.map_some]
  show (blsD _).map _ = _
  rw [h]
  simp
theorem any_bls {α : Type} (f : α → Bool) (xs : List α) : bltD .any [.lst (xs.map fun x => D.bl (f x))] = some (.bl (xs.any f)) := by
  have h : blsD (xs.map fun x => D.bl (f x)) = some (xs.map f) := by
    induction xs with
    | nil => rfl
    | cons x xs ih => simp only [List.map_cons, blsD, ih, Option.map_some]
  show (blsD _).map _ = _
  rw [h]
  simp [List.any_map]
namespace K
theorem cs0 : K.T.cs[g_LETTERS]? = some (.str "abcdefghijklmnopqrstuvwxyz") := rfl
theorem cs1 : K.T.cs[g_MOST_LETTERS]? = some (.int 8) := rfl
theorem cs2 : K.T.cs[g_WORDS]? = some (.ktp (wordsS.map .str)) := rfl
theorem ktp_inD (x : D) (xs : List D) : inD x (.ktp xs) = inD x (.tup xs) := rfl
theorem cs3 : K.T.cs[g_MOST_PIECES]? = some (.int 6) := rfl
theorem cs4 : K.T.cs[g_MOST_REST]? = some (.int 3) := rfl
theorem cs5 : K.T.cs[g_MOST_WORTH]? = some (.int 99) := rfl
theorem cs6 : K.T.cs[g_MOST_BARS]? = some (.int 12) := rfl
theorem f_is_whole (n : Nat) (i : Int) : callA T (n + 1) (.f i_is_whole) [.d (.int i)] = ret (.d (.bl true)) := by
  rw [callA_f T n _ _ rfl]
  simp [runF, B_is_whole, exSs, exS, ev, startS, isVV_d, isD_ii, isD_ib]
theorem f_is_between (n : Nat) (i lo hi : Int) : callA T (n + 2) (.f i_is_between) [.d (.int i), .d (.int lo), .d (.int hi)] = ret (.d (.bl (decide (lo ≤ i ∧ i ≤ hi)))) := by
  rw [callA_f T (n + 1) _ _ rfl]
  simp [runF, B_is_between, exSs, exS, ev, evs, startS, f_is_whole, cmp_le]
  by_cases h : lo ≤ i <;> simp [h]
theorem f_is_up_to (n : Nat) (i hi : Int) (h : 0 ≤ i ∧ i ≤ hi) : callA T (n + 3) (.f i_is_up_to) [.d (.int i), .d (.int hi)] = ret (.d (.bl true)) := by
  rw [callA_f T (n + 2) _ _ rfl]
  simp [runF, B_is_up_to, exSs, exS, ev, evs, startS, f_is_between, h]
theorem f_is_one_of (n : Nat) (x : Nm) (xs : List Nm) : callA T (n + 1) (.f i_is_one_of) [.d (Enc.d x), .d (.tup (xs.map Enc.d))] = ret (.d (.bl (decide (x ∈ xs)))) := by
  rw [callA_f T n _ _ rfl]
  simp [runF, B_is_one_of, exSs, exS, ev, evs, startS, isVV_d, isD_nm, in_nms]
theorem f_is_word (n : Nat) (x : Nm) : callA T (n + 1) (.f i_is_word) [.d (Enc.d x)] = ret (.d (.bl true)) := by
  rw [callA_f T n _ _ rfl]
  simp [runF, B_is_word, exSs, exS, ev, evs, evF, evI, evT, setT, startS, isVV_d, isD_nm, ne_empty, items_nm, wipeS, derefs, cs0]
  rw [compGo_map (g := fun _ => D.bl true)]
  · simp [ctZ, derefs, all_true]
  · intro c hc
    obtain ⟨h1, h2⟩ := x.ok.2 c hc
    obtain ⟨k, rfl⟩ := Nat.exists_eq_add_of_le h1
    have e : cmpD .isin (.str ⟨#[97 + k]⟩) (.str "abcdefghijklmnopqrstuvwxyz") = some true := in_abc k (by omega)
    simp [e]
theorem f_is_name (n : Nat) (x : Nm) : callA T (n + 2) (.f i_is_name) [.d (Enc.d x)] = ret (.d (.bl true)) := by
  rw [callA_f T (n + 1) _ _ rfl]
  have h := x.ok.1.2
  have h' : (x.s.length : Int) ≤ 8 := by show ((x.s.cps.size : Nat) : Int) ≤ 8; omega
  simp [runF, B_is_name, exSs, exS, ev, evs, startS, f_is_word, lenD_nm, cs1, cs2, derefs, cmp_le, h', in_words]
theorem f_is_tuple_of (n : Nat) (xs : List D) (k : Int) : callA T (n + 1) (.f i_is_tuple_of) [.d (.tup xs), .d (.int k)] = ret (.d (.bl (decide ((xs.length : Int) = k)))) := by
  rw [callA_f T n _ _ rfl]
  simp [runF, B_is_tuple_of, exSs, exS, ev, evs, startS, isVV_d, isD_tup, blt_len_tup, derefs, cmp_eq_int]
theorem f_is_pair (n : Nat) (a b : D) : callA T (n + 2) (.f i_is_pair) [.d (.tup [a, b])] = ret (.d (.bl true)) := by
  rw [callA_f T (n + 1) _ _ rfl]
  simp [runF, B_is_pair, exSs, exS, ev, evs, startS, f_is_tuple_of]
theorem atI4 (a b c d : D) : atI [a, b, c, d] 0 = some a ∧ atI [a, b, c, d] 1 = some b ∧ atI [a, b, c, d] 2 = some c ∧ atI [a, b, c, d] 3 = some d := ⟨rfl, rfl, rfl, rfl⟩
theorem atI2 (a b : D) : atI [a, b] 0 = some a ∧ atI [a, b] 1 = some b := ⟨rfl, rfl⟩
theorem f_is_piece (n : Nat) (x : Pc) : callA T (n + 4) (.f i_is_piece) [.d (Enc.d x)] = ret (.d (.bl true)) := by
  rw [callA_f T (n + 3) _ _ rfl, pc_d]
  have h := x.ok
  simp [runF, B_is_piece, exSs, exS, ev, evs, evT, startS, f_is_tuple_of, getIx_tup, atI4, f_is_name, cs4, cs5]
  rw [f_is_up_to _ _ _ h.1, f_is_up_to _ _ _ h.2]
  simp
end K
end VI

namespace VI
open PySem L2 M
/-! P13: rules that are right. -/
namespace K
theorem f_wrong_in (n : Nat) (xs : List D) (lo hi : Int) (L : LDef) (caps : List VV) (hs : xs.length ≤ 1000) (h1 : lo ≤ xs.length) (h2 : xs.length ≤ hi)
    (hc : ∀ k (h : k < xs.length), callA T n (.l L caps) [.d (.tup (xs.take k)), .d xs[k]] = ret (.d (.bl true))) :
    callA T (n + 1) (.f i_wrong_in) [.d (.tup xs), .d (.int lo), .d (.int hi), .clo L caps] = ret (.d (.lst [])) := by
  rw [callA_f T n _ _ rfl]
  refine eq_ret fun s => ?_
  have hlo : ¬ (xs.length : Int) < lo := by omega
  simp [runF, B_wrong_in, exSs, exS, ev, evs, evT, evI, startS, isVV_d, isD_tup, derefs, blt_len_tup, cmp_lt, hlo, seq_tup (show xs.length ≤ 100000 by omega), wp_bnd, datasOf]
  refine wp_forGo (fun rest φ s' => ∃ k v4 v5, k ≤ xs.length ∧ rest = enumD (k : Int) (xs.drop k) ∧ φ = [some (.d (.tup xs)), some (.d (.int lo)), some (.d (.int hi)), some (.clo L caps), v4, v5] ∧ s' = s) ?_ ?_ _ _ _ ⟨0, none, none, Nat.zero_le _, rfl, rfl, rfl⟩
  · rintro x rest φ s' ⟨k, v4, v5, hk, hr, rfl, rfl⟩
    have hk' : k < xs.length := by
      apply Classical.byContradiction
      intro hn
      rw [List.drop_of_length_le (by omega)] at hr
      cases hr
    rw [List.drop_eq_getElem_cons hk', enumD] at hr
    obtain ⟨rfl, rfl⟩ := List.cons.inj hr
    have hne : ¬ (k : Int) = hi := by omega
    simp [wp_bnd, setT, setTs, B_wrong_in_0, exSs, exS, ev, evs, evT, evO, cmp_eq_int, hne, slD_tup, cutL_pre, hc k hk']
    exact ⟨k + 1, hk', by simp⟩
  · rintro φ s' ⟨k, v4, v5, hk, hr, rfl, rfl⟩
    simp [evF, evs, wp_bnd, ctZ, datasOf, small_of]
end K
/-! ### rules -/
structure Ru where
  ps : List Pc
  bs : List (Nm × Nm)
  h1 : 1 ≤ ps.length ∧ ps.length ≤ 6
  asc : (ps.map (·.nm)).Pairwise fun a b => ltE a b = true
  bl : bs.length ≤ 8
  bsc : bs.Pairwise fun a b => ltE a b = true
  bin : ∀ b ∈ bs, b.1 ∈ ps.map (·.nm) ∧ b.2 ∈ ps.map (·.nm)
def Ru.ns (R : Ru) : List Nm := R.ps.map (·.nm)
def Ru.psD (R : Ru) : D := .tup (R.ps.map Enc.d)
def Ru.bsD (R : Ru) : D := .tup (R.bs.map Enc.d)
def Ru.parts (R : Ru) : D := .tup [R.psD, R.bsD]
def Ru.d (R : Ru) : D := .ins 0 [("told", R.parts)]
theorem Ru.nodup (R : Ru) : R.ns.Nodup := R.asc.imp fun {a b} h e => by rw [e, ltE_irrefl] at h; cases h
theorem pw_last {α : Type} {r : α → α → Prop} {xs : List α} (h : xs.Pairwise r) {k : Nat} (hk : k < xs.length) {y : α} (e : (xs.take k).getLast? = some y) : r y xs[k] := by
  have hy : y ∈ xs.take k := List.mem_of_getLast? e
  rw [← List.take_append_drop k xs, List.pairwise_append] at h
  refine h.2.2 y hy _ ?_
  rw [List.drop_eq_getElem_cons hk]
  exact List.mem_cons_self ..
namespace K
abbrev Lp : LDef := Lam_wrong_in_pieces_0
theorem l_p (n : Nat) (R : Ru) (k : Nat) (h : k < R.ps.length) : callA T (n + 5) (.l Lp []) [.d (.tup ((R.ps.take k).map Enc.d)), .d (Enc.d R.ps[k])] = ret (.d (.bl true)) := by
  rw [callA_l]
  have hm : 1 ≤ 1073741824 := by decide
  cases e : (R.ps.take k).getLast? with
  | none =>
    have e' : R.ps.take k = [] := List.getLast?_eq_none_iff.mp e
    rw [e']
    have := eq_tup_nil (α := Pc) (by decide) []
    simp only [List.map_nil] at this
    simp [runL, Lam_wrong_in_pieces_0, plainC, startS, ev, evs, f_is_piece, datasOf, this]
  | some y =>
    have hlt : ltE y.nm R.ps[k].nm = true := by
      have h0 := R.asc
      rw [List.pairwise_map] at h0
      exact pw_last h0 h e
    have hne : R.ps.take k ≠ [] := fun e' => by rw [e'] at e; cases e
    have := eq_tup_nil (α := Pc) (by decide) (R.ps.take k)
    rw [decide_eq_false hne] at this
    have hl : atI ((R.ps.take k).map Enc.d) (-1) = some (Enc.d y) := by rw [atI_m1, List.getLast?_map, e]; rfl
    simp [runL, Lam_wrong_in_pieces_0, plainC, startS, ev, evs, f_is_piece, datasOf, this, getIx_tup, hl, -List.map_take]
    simp [pc_d, getIx_tup, atI4, lt_nm, hlt]
theorem f_wrong_in_pieces (n : Nat) (R : Ru) : callA T (n + 7) (.f i_wrong_in_pieces) [.d R.psD] = ret (.d (.lst [])) := by
  rw [callA_f T (n + 6) _ _ rfl]
  have h := R.h1
  have e := f_wrong_in (n + 5) (R.ps.map Enc.d) 1 6 Lp [] (by simp; omega) (by simp; omega) (by simp; omega) fun k hk => by
    rw [List.length_map] at hk
    rw [← List.map_take, List.getElem_map]
    exact l_p n R k hk
  simp [runF, B_wrong_in_pieces, exSs, exS, ev, evs, startS, cs3, capsOf]
  rw [show (⟨2, 0, 2, _⟩ : LDef) = Lp from rfl, show R.psD = .tup (R.ps.map Enc.d) from rfl]
  rw [e]
  rfl
theorem f_names_of (n : Nat) (R : Ru) : callA T (n + 1) (.f i_names_of) [.d R.psD] = ret (.d (.tup (R.ns.map Enc.d))) := by
  rw [callA_f T n _ _ rfl]
  have h := R.h1
  simp [runF, B_names_of, exSs, exS, ev, evs, evF, evI, evT, setT, startS, wipeS, derefs, Ru.psD, items_tup (show (R.ps.map (Enc.d (α := Pc))).length ≤ 100000 by simp; omega)]
  rw [compGo_map (g := fun p : Pc => Enc.d p.nm)]
  · simp [ctZ, Ru.ns]
    rfl
  · intro p _
    simp [pc_d, getIx_tup, atI4]
theorem bar_d (b : Nm × Nm) : Enc.d b = .tup [Enc.d b.1, Enc.d b.2] := rfl
theorem f_is_bar (n : Nat) (R : Ru) (b : Nm × Nm) (h : b ∈ R.bs) : callA T (n + 3) (.f i_is_bar) [.d (.tup (R.ns.map Enc.d)), .d (Enc.d b)] = ret (.d (.bl true)) := by
  rw [callA_f T (n + 2) _ _ rfl, bar_d]
  have h1 : b.1 ∈ R.ns := (R.bin b h).1
  have h2 : b.2 ∈ R.ns := (R.bin b h).2
  simp [runF, B_is_bar, exSs, exS, ev, evs, startS, f_is_pair, getIx_tup, atI2, f_is_one_of, -List.mem_map, h1, h2]
abbrev Lb : LDef := Lam_wrong_in_bars_0
theorem l_b (n : Nat) (R : Ru) (k : Nat) (h : k < R.bs.length) : callA T (n + 4) (.l Lb [.d (.tup (R.ns.map Enc.d))]) [.d (.tup ((R.bs.take k).map Enc.d)), .d (Enc.d R.bs[k])] = ret (.d (.bl true)) := by
  rw [callA_l]
  have hb := f_is_bar n R R.bs[k] (List.getElem_mem h)
  cases e : (R.bs.take k).getLast? with
  | none =>
    have e' : R.bs.take k = [] := List.getLast?_eq_none_iff.mp e
    rw [e']
    have := eq_tup_nil (α := Nm × Nm) (by decide) []
    simp only [List.map_nil] at this
    simp [runL, Lam_wrong_in_bars_0, plainC, startS, ev, evs, hb, datasOf, this]
  | some y =>
    have hlt : ltE y R.bs[k] = true := pw_last R.bsc h e
    have hne : R.bs.take k ≠ [] := fun e' => by rw [e'] at e; cases e
    have := eq_tup_nil (α := Nm × Nm) (by decide) (R.bs.take k)
    rw [decide_eq_false hne] at this
    have hl : atI ((R.bs.take k).map Enc.d) (-1) = some (Enc.d y) := by rw [atI_m1, List.getLast?_map, e]; rfl
    simp [runL, Lam_wrong_in_bars_0, plainC, startS, ev, evs, hb, datasOf, this, getIx_tup, hl, -List.map_take, lt_bar, hlt]
theorem f_wrong_in_bars (n : Nat) (R : Ru) : callA T (n + 6) (.f i_wrong_in_bars) [.d R.psD, .d R.bsD] = ret (.d (.lst [])) := by
  rw [callA_f T (n + 5) _ _ rfl]
  have h := R.bl
  have e := f_wrong_in (n + 4) (R.bs.map Enc.d) 0 12 Lb [.d (.tup (R.ns.map Enc.d))] (by simp; omega) (by simp) (by simp; omega) fun k hk => by
    rw [List.length_map] at hk
    rw [← List.map_take, List.getElem_map]
    exact l_b n R k hk
  simp [runF, B_wrong_in_bars, exSs, exS, ev, evs, startS, setT, cs6, capsOf, f_names_of]
  rw [show (⟨2, 1, 3, _⟩ : LDef) = Lb from rfl, show R.bsD = .tup (R.bs.map Enc.d) from rfl]
  rw [e]
  rfl
end K
end VI

namespace VI
open PySem L2 M
/-! P14: courses. -/
/-- a course: names of pieces -/
def cD (c : List Pc) : D := .tup (c.map fun p => Enc.d p.nm)
def hasAr (c : List Pc) (a : Nm) : Bool := c.any fun o => decide (o.ar = a)
theorem any_ar (c : List Pc) (a : Nm) : bltD .any [.lst (c.map fun o => D.bl (decide (o.ar = a)))] = some (.bl (hasAr c a)) := any_bls (fun o : Pc => decide (o.ar = a)) c
def Ru.may (R : Ru) (c : List Pc) (p : Pc) : Bool := !hasAr (c.drop (c.length - p.rest.toNat)) p.ar && match c.getLast? with
  | none => true
  | some y => !decide ((y.nm, p.nm) ∈ R.bs)
structure Ru.Law (R : Ru) (c : List Pc) : Prop where
  mem : ∀ p ∈ c, p ∈ R.ps
  ok : ∀ k (h : k < c.length), R.may (c.take k) c[k] = true
def Ru.reach (R : Ru) : Int := foldMax 1 (R.ps.map (·.rest))
def Ru.win (R : Ru) (c : List Pc) : List Pc := c.drop (c.length - R.reach.toNat)
def Ru.nxt (R : Ru) (c : List Pc) : List Pc := R.ps.filter fun p => R.may c p
theorem foldMax_le (m : Int) (xs : List Int) : m ≤ foldMax m xs ∧ ∀ x ∈ xs, x ≤ foldMax m xs := by
  induction xs generalizing m with
  | nil => exact ⟨Int.le_refl _, fun _ h => by cases h⟩
  | cons y xs ih =>
    have := ih (if y > m then y else m)
    have h1 : m ≤ (if y > m then y else m) ∧ y ≤ (if y > m then y else m) := by split <;> omega
    refine ⟨Int.le_trans h1.1 this.1, fun x hx => ?_⟩
    rcases List.mem_cons.mp hx with rfl | hx
    · exact Int.le_trans h1.2 this.1
    · exact this.2 x hx
theorem foldMax_ub (m b : Int) (xs : List Int) (h : m ≤ b) (h' : ∀ x ∈ xs, x ≤ b) : foldMax m xs ≤ b := by
  induction xs generalizing m with
  | nil => exact h
  | cons y xs ih =>
    refine ih _ ?_ fun x hx => h' x (List.mem_cons_of_mem _ hx)
    have := h' y (List.mem_cons_self ..)
    split <;> omega
theorem Ru.reach_le (R : Ru) : 1 ≤ R.reach ∧ R.reach ≤ 3 := ⟨(foldMax_le 1 _).1, foldMax_ub _ _ _ (by decide) fun x hx => by obtain ⟨p, _, rfl⟩ := List.mem_map.mp hx; exact p.ok.1.2⟩
theorem Ru.rest_le (R : Ru) {p : Pc} (h : p ∈ R.ps) : p.rest ≤ R.reach := (foldMax_le 1 _).2 _ (List.mem_map.mpr ⟨p, h, rfl⟩)
theorem cD_drop (c : List Pc) (k : Nat) : D.tup ((c.map fun p => Enc.d p.nm).drop k) = cD (c.drop k) := by unfold cD; rw [List.map_drop]
theorem cD_take (c : List Pc) (k : Nat) : D.tup ((c.map fun p => Enc.d p.nm).take k) = cD (c.take k) := by unfold cD; rw [List.map_take]
theorem len_cD (c : List Pc) : bltD .len [cD c] = some (.int c.length) := by show some (D.int ((c.map fun p : Pc => Enc.d p.nm).length : Nat)) = _; rw [List.length_map]
theorem isD_cD (c : List Pc) : isD (cD c) .tuple = true := rfl
@[simp] theorem isF_cD (c : List Pc) : isF (cD c) = false := rfl
theorem sl_cD (c : List Pc) (k : Nat) : slD (cD c) (some (k : Int)) none = some (cD (c.drop k)) := by
  show some (D.tup _) = _
  rw [cutL_suf, cD_drop]
theorem sl_cD' (c : List Pc) (k : Nat) : slD (cD c) none (some (k : Int)) = some (cD (c.take k)) := by
  show some (D.tup _) = _
  rw [cutL_pre, cD_take]
theorem eq_cD_nil (c : List Pc) : cmpD .eq (cD c) (.tup []) = some (decide (c = [])) := by
  have h := eq_tup_nil (α := Nm) (Nat.zero_le _) (c.map (·.nm))
  rw [List.map_map] at h
  refine h.trans ?_
  congr 1
  rw [decide_eq_decide]
  exact List.map_eq_nil_iff
theorem ne_cD_nil (c : List Pc) : cmpD .ne (cD c) (.tup []) = some (!decide (c = [])) := by
  have h := ne_tup_nil (α := Nm) (Nat.zero_le _) (c.map (·.nm))
  rw [List.map_map] at h
  refine h.trans ?_
  congr 2
  rw [decide_eq_decide]
  exact List.map_eq_nil_iff
theorem items_cD {c : List Pc} (h : c.length ≤ 1000) : itemsD (cD c) = some (c.map fun p => Enc.d p.nm) := items_tup (by rw [List.length_map]; omega)
theorem seq_cD {c : List Pc} (h : c.length ≤ 1000) : seqD (cD c) = some (c.map fun p => Enc.d p.nm) := seq_tup (by rw [List.length_map]; omega)
theorem last_cD (c : List Pc) : getIx (.d (cD c)) (.int (-1)) = M.opt (c.getLast?.map fun p => Enc.d p.nm) := by
  show M.opt (atI _ _) = _
  rw [atI_m1, List.getLast?_map]
theorem ix_cD (c : List Pc) (k : Nat) (h : k < c.length) : getIx (.d (cD c)) (.int k) = ret (Enc.d c[k].nm) := by
  show M.opt (atI _ _) = _
  rw [atI_nat, List.getElem?_map, List.getElem?_eq_getElem h]; rfl
theorem max_0 (i : Nat) (r : Int) (h : 0 ≤ r) : bltD .max2 [.int ((i : Int) - r), .int 0] = some (.int ((i - r.toNat : Nat) : Int)) := by
  show some (D.int (if (0 : Int) > (i : Int) - r then 0 else (i : Int) - r)) = _
  congr 2
  split <;> omega
theorem max_0' (i : Nat) (r : Int) (h : 0 ≤ r) : bltD .max2 [.int 0, .int ((i : Int) - r)] = some (.int ((i - r.toNat : Nat) : Int)) := by
  show some (D.int (if (i : Int) - r > 0 then (i : Int) - r else 0)) = _
  congr 2
  split <;> omega
theorem pair_in (R : Ru) (a b : Nm) : inD (.tup [Enc.d a, Enc.d b]) R.bsD = some (decide ((a, b) ∈ R.bs)) := (inD_enc (α := Nm × Nm) (by decide) (a, b) R.bs).trans (by congr)
theorem pair_isin (R : Ru) (a b : Nm) : cmpD .isin (.tup [Enc.d a, Enc.d b]) R.bsD = some (decide ((a, b) ∈ R.bs)) := pair_in R a b
theorem pair_notin (R : Ru) (a b : Nm) : cmpD .notin (.tup [Enc.d a, Enc.d b]) R.bsD = some (!decide ((a, b) ∈ R.bs)) := by
  show (inD _ _).map _ = _
  rw [pair_in]; rfl
theorem binD_lst {xs ys : List D} (h : xs.length + ys.length ≤ 100000) : binD .add (.lst xs) (.lst ys) = some (.lst (xs ++ ys)) := if_pos (decide_eq_true h)
theorem intsD_map {α : Type} (f : α → Int) : ∀ xs : List α, intsD (xs.map fun x => .int (f x)) = some (xs.map f)
  | [] => rfl
  | x :: xs => by simp only [List.map_cons, intsD, intsD_map f xs, Option.map_some]
theorem maxL_map {α : Type} (f : α → Int) (m : Int) (xs : List α) : bltD .maxL [.lst (.int m :: xs.map fun x => .int (f x))] = some (.int (foldMax m (xs.map f))) := by
  simp only [bltD, intsD, intsD_map, Option.map_some]
theorem filter_nm {ps : List Pc} (h : (ps.map (·.nm)).Nodup) {p : Pc} (hp : p ∈ ps) : ps.filter (fun q => decide (q.nm = p.nm)) = [p] := by
  induction ps with
  | nil => cases hp
  | cons q ps ih =>
    rw [List.map_cons, List.nodup_cons] at h
    rw [List.filter_cons]
    rcases List.mem_cons.mp hp with rfl | hp
    · have : ps.filter (fun q => decide (q.nm = p.nm)) = [] := by
        rw [List.filter_eq_nil_iff]
        intro a ha e
        exact h.1 (List.mem_map.mpr ⟨a, ha, of_decide_eq_true e⟩)
      rw [this]; simp
    · have : ¬ q.nm = p.nm := fun e => h.1 (List.mem_map.mpr ⟨p, hp, e.symm⟩)
      rw [if_neg (by simpa using this)]
      exact ih h.2 hp
namespace K
theorem po_pieces : propOf T 0 "pieces" = some i_Rules_pieces := by decide +kernel
theorem po_bars : propOf T 0 "bars" = some i_Rules_bars := by decide +kernel
theorem po_told : propOf T 0 "told" = none := by decide +kernel
theorem cls_R (R : Ru) : clsVV (.d R.d) = ret 0 := rfl
theorem fld_R (R : Ru) : getFld "told" (.d R.d) = ret R.parts := by
  show M.opt (List.lookup ("told" : Str) [(("told" : Str), R.parts)]) = _
  rw [List.lookup_cons_self]; rfl
theorem ix_parts0 (R : Ru) : getIx (.d R.parts) (.int 0) = ret R.psD := rfl
theorem ix_parts1 (R : Ru) : getIx (.d R.parts) (.int 1) = ret R.bsD := rfl
theorem f_pieces (n : Nat) (R : Ru) : callA T (n + 1) (.f i_Rules_pieces) [.d R.d] = ret (.d R.psD) := by
  rw [callA_f T n _ _ rfl]
  simp [runF, B_Rules_pieces, exSs, exS, ev, startS, cls_R, po_told, fld_R, ix_parts0]
theorem f_bars (n : Nat) (R : Ru) : callA T (n + 1) (.f i_Rules_bars) [.d R.d] = ret (.d R.bsD) := by
  rw [callA_f T n _ _ rfl]
  simp [runF, B_Rules_bars, exSs, exS, ev, startS, cls_R, po_told, fld_R, ix_parts1]
theorem items_ps (R : Ru) : itemsD R.psD = some (R.ps.map Enc.d) := items_tup (by have := R.h1; simp; omega)
theorem f_piece_of (n : Nat) (R : Ru) (p : Pc) (hp : p ∈ R.ps) : callA T (n + 2) (.f i_piece_of) [.d R.d, .d (Enc.d p.nm)] = ret (.d (Enc.d p)) := by
  rw [callA_f T (n + 1) _ _ rfl]
  simp [runF, B_piece_of, exSs, exS, ev, evs, evF, evI, evT, setT, startS, wipeS, cls_R, po_pieces, f_pieces, items_ps]
  rw [compGo_if (p := fun q : Pc => decide (q.nm = p.nm)) (g := fun q : Pc => Enc.d q)]
  · rw [filter_nm R.nodup hp]
    simp [ctZ, getIx_lstD]
    rfl
  · intro q _
    simp [pc_d, getIx_tup, atI4, eq_nm]
    by_cases h : q.nm = p.nm <;> simp [h]
theorem pc_set (φ : Sl) (p : Pc) : True := trivial
theorem f_may_follow (n : Nat) (R : Ru) (c : List Pc) (p : Pc) (hc : ∀ q ∈ c, q ∈ R.ps) (hl : c.length ≤ 1000) (hp : p ∈ R.ps) : callA T (n + 3) (.f i_may_follow) [.d R.d, .d (cD c), .d (Enc.d p.nm)] = ret (.d (.bl (R.may c p))) := by
  rw [callA_f T (n + 2) _ _ rfl]
  have hr := p.ok.1.1
  simp [runF, B_may_follow, exSs, exS, ev, evs, evF, evI, evT, evO, setT, setTs, startS, wipeS, derefs, datasOf, f_piece_of _ R p hp, pc_d, len_cD, binD_sub, max_0 _ _ hr, sl_cD, -List.map_drop]
  rw [items_cD (by simp; omega)]
  simp [-List.map_drop]
  rw [compGo_map (g := fun o : Pc => .bl (decide (o.ar = p.ar)))]
  · simp [ctZ, derefs, any_ar, -List.map_drop]
    unfold Ru.may
    cases hasAr (c.drop (c.length - p.rest.toNat)) p.ar with
    | true => simp
    | false =>
      simp [eq_cD_nil, last_cD, small_of, datasOf, cls_R, po_bars, f_bars]
      cases e : c.getLast? with
      | none => simp [List.getLast?_eq_none_iff.mp e]
      | some y =>
        have : c ≠ [] := fun h => by rw [h] at e; cases e
        simp [this, datasOf, small_of, pair_notin]
  · intro o ho
    simp [f_piece_of _ R o (hc o (List.mem_of_mem_drop ho)), pc_d, getIx_tup, atI4, eq_nm]
end K
end VI

namespace VI
open PySem L2 M
namespace K
theorem f_reach_of (n : Nat) (R : Ru) : callA T (n + 2) (.f i_reach_of) [.d R.d] = ret (.d (.int R.reach)) := by
  rw [callA_f T (n + 1) _ _ rfl]
  have h := R.h1
  simp [runF, B_reach_of, exSs, exS, ev, evs, evF, evI, evT, setT, startS, wipeS, derefs, datasOf, cls_R, po_pieces, f_pieces, items_ps, small_of]
  rw [compGo_map (g := fun p : Pc => .int p.rest)]
  · simp [ctZ]
    rw [binD_lst (by simp; omega)]
    simp [derefs, maxL_map, Ru.reach]
  · intro p _
    simp [pc_d, getIx_tup, atI4]
end K
end VI

namespace VI
open PySem L2 M
namespace K
theorem cs7 : K.T.cs[g_MOST_SLOTS]? = some (.int 60) := rfl
theorem f_wrong_slot (n : Nat) (R : Ru) (c : List Pc) (hc : R.Law c) (hl : c.length ≤ 1000) : callA T (n + 4) (.f i_wrong_slot) [.d R.d, .d (cD c)] = ret (.d (.lst [])) := by
  rw [callA_f T (n + 3) _ _ rfl]
  refine eq_ret fun s => ?_
  simp [runF, B_wrong_slot, exSs, exS, ev, evs, evF, evI, evT, evO, setT, setTs, startS, wp_bnd, cls_R, po_pieces, f_pieces, f_names_of, seq_cD hl, datasOf, ctZ]
  refine wp_forGo (fun rest φ s' => ∃ k v4 v5, k ≤ c.length ∧ rest = enumD (k : Int) ((c.map fun p => Enc.d p.nm).drop k) ∧ φ = [some (.d R.d), some (.d (cD c)), some (.d (.tup (R.ns.map Enc.d))), v4, v5] ∧ s' = s) ?_ ?_ _ _ _ ⟨0, none, none, Nat.zero_le _, rfl, rfl, rfl⟩
  · rintro x rest φ s' ⟨k, v4, v5, hk, hr, rfl, rfl⟩
    have hk' : k < c.length := by
      apply Classical.byContradiction
      intro hn
      rw [List.drop_of_length_le (by simp; omega)] at hr
      cases hr
    rw [List.drop_eq_getElem_cons (by simpa using hk'), enumD] at hr
    obtain ⟨rfl, rfl⟩ := List.cons.inj hr
    have hin : c[k] ∈ R.ps := hc.mem _ (List.getElem_mem hk')
    have hin' : c[k].nm ∈ R.ns := List.mem_map.mpr ⟨_, hin, rfl⟩
    simp [wp_bnd, setT, setTs, B_wrong_slot_0, exSs, exS, ev, evs, evT, evO, f_is_one_of, hin', sl_cD']
    rw [f_may_follow _ R (c.take k) c[k] (fun q hq => hc.mem q (List.mem_of_mem_take hq)) (by simp; omega) hin]
    simp [hc.ok k hk']
    exact ⟨k + 1, hk', by simp⟩
  · rintro φ s' ⟨k, v4, v5, hk, hr, rfl, rfl⟩
    simp
theorem f_wrong_in_course (n : Nat) (R : Ru) (c : List Pc) (hc : R.Law c) (hl : c.length ≤ 60) : callA T (n + 5) (.f i_wrong_in_course) [.d R.d, .d (cD c)] = ret (.d (.lst [])) := by
  rw [callA_f T (n + 4) _ _ rfl]
  have : ¬ (60 : Int) < c.length := by omega
  simp [runF, B_wrong_in_course, exSs, exS, ev, evs, evT, startS, isVV_d, isD_cD, derefs, len_cD, cs7, cmp_gt, this, f_wrong_slot _ R c hc (by omega)]
theorem isD_R (R : Ru) : isD R.d (.own 0) = true := rfl
@[simp] theorem isF_R (R : Ru) : isF R.d = false := rfl
theorem f_check_rules (n : Nat) (R : Ru) : callA T (n + 1) (.f i_check_rules) [.d R.d] = ret (.d .non) := by
  rw [callA_f T n _ _ rfl]
  simp [runF, B_check_rules, exSs, exS, ev, evs, evT, startS, isVV_d, isD_R]
end K
end VI

namespace VI
open PySem L2 M
namespace K
theorem f_check_course (n : Nat) (R : Ru) (c : List Pc) (hc : R.Law c) (hl : c.length ≤ 60) : callA T (n + 6) (.f i_check_course) [.d R.d, .d (cD c)] = ret (.d .non) := by
  rw [callA_f T (n + 5) _ _ rfl]
  simp [runF, B_check_course, exSs, exS, ev, evs, evT, evI, startS, f_check_rules, f_wrong_in_course _ R c hc hl, itemsD, forGo]
theorem f_window_of (n : Nat) (R : Ru) (c : List Pc) : callA T (n + 3) (.f i_window_of) [.d R.d, .d (cD c)] = ret (.d (cD (R.win c))) := by
  rw [callA_f T (n + 2) _ _ rfl]
  have hr : 0 ≤ R.reach := by have := R.reach_le; omega
  simp [runF, B_window_of, exSs, exS, ev, evs, evT, evI, evO, startS, derefs, f_reach_of, len_cD, binD_sub, max_0 _ _ hr, sl_cD, Ru.win]
theorem f_next_by (n : Nat) (R : Ru) (c : List Pc) (hc : ∀ q ∈ c, q ∈ R.ps) (hl : c.length ≤ 1000) : callA T (n + 4) (.f i_next_by) [.d R.d, .d (cD c)] = ret (.d (cD (R.nxt c))) := by
  rw [callA_f T (n + 3) _ _ rfl]
  have h := R.h1
  simp [runF, B_next_by, exSs, exS, ev, evs, evF, evI, evT, evO, setT, setTs, startS, wipeS, derefs, cls_R, po_pieces, f_pieces, f_names_of]
  rw [items_tup (by simp [Ru.ns]; omega)]
  unfold Ru.ns
  rw [List.map_map]
  simp only [opt_some, bnd_ret]
  rw [compGo_if (p := fun q : Pc => R.may c q) (g := fun q : Pc => Enc.d q.nm)]
  · simp [ctZ, Ru.nxt, cD]
    rfl
  · intro q hq
    simp [f_may_follow _ R c q hc hl hq]
    cases R.may c q <;> simp
end K
end VI

namespace VI
open PySem L2 M
/-! P14p: plain laws of courses. -/
theorem last_drop {α : Type} {c : List α} {k : Nat} (h : k < c.length) : (c.drop k).getLast? = c.getLast? := by
  rw [List.getLast?_drop, if_neg (by omega)]
theorem may_win {R : Ru} (c : List Pc) {p : Pc} (hp : p ∈ R.ps) : R.may (R.win c) p = R.may c p := by
  have h1 := R.reach_le
  have h2 := R.rest_le hp
  have h3 := p.ok.1.1
  unfold Ru.may Ru.win
  rw [List.drop_drop, List.length_drop]
  have e : c.length - R.reach.toNat + (c.length - (c.length - R.reach.toNat) - p.rest.toNat) = c.length - p.rest.toNat := by omega
  rw [e]
  by_cases hc : c = []
  · subst hc; simp
  · have : 0 < c.length := List.length_pos_iff.mpr hc
    rw [last_drop (show c.length - R.reach.toNat < c.length by omega)]
theorem nxt_win {R : Ru} (c : List Pc) : R.nxt (R.win c) = R.nxt c := List.filter_congr fun p hp => may_win c hp
theorem win_win {R : Ru} (c : List Pc) : R.win (R.win c) = R.win c := by
  unfold Ru.win
  rw [List.drop_drop, List.length_drop]
  congr 1
  omega
theorem may_drop {R : Ru} {a : List Pc} {p : Pc} (h : R.may a p = true) (j : Nat) : R.may (a.drop j) p = true := by
  unfold Ru.may at h ⊢
  rw [Bool.and_eq_true] at h ⊢
  refine ⟨?_, ?_⟩
  · have h1 := h.1
    rw [Bool.not_eq_true'] at h1 ⊢
    unfold hasAr at h1 ⊢
    rw [List.any_eq_false] at h1 ⊢
    intro x hx
    refine h1 x ?_
    rw [List.drop_drop, List.length_drop] at hx
    have : a.drop (j + (a.length - j - p.rest.toNat)) = (a.drop (a.length - p.rest.toNat)).drop (j + (a.length - j - p.rest.toNat) - (a.length - p.rest.toNat)) := by
      rw [List.drop_drop]; congr 1; omega
    rw [this] at hx
    exact List.mem_of_mem_drop hx
  · have h2 := h.2
    rw [List.getLast?_drop]
    split
    · next e =>
      split at e
      · rfl
      · rfl
    · next y e =>
      split at e
      · cases e
      · rw [e] at h2; exact h2
theorem Ru.Law.drop {R : Ru} {c : List Pc} (h : R.Law c) (j : Nat) : R.Law (c.drop j) := by
  refine ⟨fun p hp => h.mem p (List.mem_of_mem_drop hp), fun k hk => ?_⟩
  rw [List.length_drop] at hk
  have := may_drop (h.ok (j + k) (by omega)) j
  rw [List.getElem_drop]
  rw [List.drop_take] at this
  rw [show j + k - j = k by omega] at this
  exact this
theorem win_short {R : Ru} {c : List Pc} (h : ¬ R.reach < (c.length : Int)) : R.win c = c := by
  unfold Ru.win
  have h1 := R.reach_le
  rw [show c.length - R.reach.toNat = 0 by omega, List.drop_zero]
theorem sl_last (R : Ru) (c : List Pc) (h : R.reach < (c.length : Int)) : slD (cD c) (some (-R.reach)) none = some (cD (R.win c)) := by
  have h1 := R.reach_le
  have e : ∀ xs : List D, cutL xs (some (-R.reach)) none = xs.drop (xs.length - R.reach.toNat) := fun xs => by
    unfold cutL
    rw [HT.sIx_none]
    have : HT.sIx xs.length 0 (some (-R.reach)) = xs.length - R.reach.toNat := by
      show (if (-R.reach) < 0 then ((-R.reach) + (xs.length : Int)).toNat else min (-R.reach).toNat xs.length) = _
      rw [if_pos (by omega)]
      omega
    rw [this, List.take_of_length_le (by rw [List.length_drop]; exact Nat.le_refl _)]
  show some (D.tup _) = _
  rw [e, List.length_map, cD_drop]
  rfl
theorem mul_lst3 (x : D) : binD .mul (.lst [x]) (.int 3) = some (.lst [x, x, x]) := rfl
theorem cD_nil : cD [] = .tup [] := rfl
end VI

namespace VI
open PySem L2 M
/-! P15: the law's own steps: what grows the store alone. -/
theorem rng0 (n : Nat) : rngD 0 n = (List.range n).map fun (k : Nat) => D.int (k : Int) := by
  rw [rngD_eq]; simp
theorem isD_nm' (x : Nm) : isD (Enc.d x) .str = true := rfl
theorem notin_nmsL (a : Nm) (xs : List Nm) : cmpD .notin (Enc.d a) (.lst (xs.map Enc.d)) = some (!decide (a ∈ xs)) := by
  show (inD _ _).map _ = _
  rw [inD_encL (α := Nm) (Nat.zero_le _)]; rfl
/-- comes to a value; the store grows by what nobody else knows -/
def Gw {α : Type} (m : M α) (v : α) : Prop := ∀ s, ∃ t, m s = .ok v (s ++ t)
theorem Gw.ret {α : Type} (v : α) : Gw (M.ret v) v := fun s => ⟨[], by simp⟩
theorem Gw.wp {α : Type} {m : M α} {v : α} (h : Gw m v) {E : Exc → Sto → Prop} {s : Sto} {Q : α → Sto → Prop} (q : ∀ t, Q v (s ++ t)) : Wp E (m s) Q := by
  obtain ⟨t, e⟩ := h s
  rw [e]; exact q t
theorem Gw.of {α : Type} {m : M α} {v : α} (h : ∀ s, Wp VI.noE (m s) fun a s' => a = v ∧ ∃ t, s' = s ++ t) : Gw m v := fun s => by
  obtain ⟨a, s', e, rfl, t, rfl⟩ := (h s).ok
  exact ⟨t, e⟩
theorem Gw.comp {body : D → M (Option D)} {α : Type} {f : α → D} {p : α → Bool} {g : α → D} {xs : List α} (h : ∀ a ∈ xs, Gw (body (f a)) (if p a then some (g a) else none)) : Gw (compGo body (xs.map f)) ((xs.filter p).map g) := by
  induction xs with
  | nil => exact .ret _
  | cons a xs ih =>
    intro s
    obtain ⟨t, e⟩ := h a (List.mem_cons_self ..) s
    obtain ⟨u, e'⟩ := ih (fun b hb => h b (List.mem_cons_of_mem _ hb)) (s ++ t)
    refine ⟨t ++ u, ?_⟩
    rw [List.map_cons, compGo, bnd_ok e, bnd_ok e', ← List.append_assoc]
    by_cases hp : p a = true
    · simp [List.filter_cons, hp]
    · simp [List.filter_cons, hp]
theorem compGo_ifS {body : D → M (Option D)} {α : Type} {f : α → D} {p : α → Bool} {g : α → D} {xs : List α} {s : Sto} (h : ∀ a ∈ xs, body (f a) s = .ok (if p a then some (g a) else none) s) : compGo body (xs.map f) s = .ok ((xs.filter p).map g) s := by
  induction xs with
  | nil => rfl
  | cons a xs ih =>
    rw [List.map_cons, compGo, bnd_ok (h a (List.mem_cons_self ..)), bnd_ok (ih fun b hb => h b (List.mem_cons_of_mem _ hb))]
    by_cases hp : p a = true
    · simp [List.filter_cons, hp]
    · simp [List.filter_cons, hp]
theorem Ch.grow {p : Nat} {β : Sto} (h : PoolAt β p) (t : Sto) : Ch p β (β ++ t) :=
  ⟨by simp, fun i _ hl => List.getElem?_append_left hl, by
    obtain ⟨a, b, c, e⟩ := h
    exact ⟨a, b, c, by rw [List.getElem?_append_left (List.getElem?_eq_some_iff.mp e).1]; exact e⟩⟩
/-! ### a dict of pieces -/
def rowsD (ps : List Pc) : List (D × D) := ps.map fun p => (Enc.d p.nm, Enc.d p)
theorem keyD_nm (x : Nm) : keyD (Enc.d x) = some (.inr x.s) := rfl
theorem nm_s {a b : Nm} : (some (Sum.inr a.s : Key) = some (Sum.inr b.s)) ↔ a = b := by
  constructor
  · intro h
    injection h with h
    injection h with h
    exact Nm.ext' h
  · rintro rfl; rfl
theorem putD_rows (ps : List Pc) (p : Pc) (h : ∀ q ∈ ps, q.nm ≠ p.nm) : putD (.inr p.nm.s) (Enc.d p.nm) (Enc.d p) (rowsD ps) = rowsD (ps ++ [p]) := by
  unfold putD
  rw [if_neg]
  · simp [rowsD]
  · rw [List.any_eq_true]
    rintro ⟨kv, hkv, e⟩
    obtain ⟨q, hq, rfl⟩ := List.mem_map.mp hkv
    have e' := of_decide_eq_true e
    exact h q hq (nm_s.mp e')
theorem lookD_rows {ps : List Pc} (h : (ps.map (·.nm)).Nodup) {p : Pc} (hp : p ∈ ps) : lookD (.inr p.nm.s) (rowsD ps) = some (Enc.d p) := by
  induction ps with
  | nil => cases hp
  | cons q ps ih =>
    rw [List.map_cons, List.nodup_cons] at h
    rw [rowsD, List.map_cons, lookD]
    rcases List.mem_cons.mp hp with rfl | hp
    · rw [if_pos (keyD_nm _)]
    · have : ¬ keyD (Enc.d q.nm) = some (.inr p.nm.s) := fun e => h.1 (List.mem_map.mpr ⟨p, hp, (nm_s.mp e).symm⟩)
      rw [if_neg this]
      exact ih h.2 hp
theorem getIx_rows {s : Sto} {u : Nat} {R : Ru} {l : Bool} (h : s[u]? = some ⟨.dic false (rowsD R.ps), l⟩) {p : Pc} (hp : p ∈ R.ps) : getIx (.box u) (Enc.d p.nm) s = .ok (Enc.d p) s := by
  have e : deref (.box u) s = .ok (.dic false (rowsD R.ps)) s := by unfold deref; simp only [h, ctD]
  unfold getIx
  rw [bnd_ok e]
  simp only [keyD_nm, lookD_rows R.nodup hp]
  rfl
theorem wp_getIx_rows {E : Exc → Sto → Prop} {s : Sto} {u : Nat} {R : Ru} {l : Bool} (h : s[u]? = some ⟨.dic false (rowsD R.ps), l⟩) {p : Pc} (hp : p ∈ R.ps) (Q : D → Sto → Prop) : Wp E (getIx (.box u) (Enc.d p.nm) s) Q = Q (Enc.d p) s := by
  rw [getIx_rows h hp]; rfl
theorem wp_putIx_rows {E : Exc → Sto → Prop} {s : Sto} {u : Nat} {ps : List Pc} (h : s[u]? = some ⟨.dic false (rowsD ps), true⟩) (hl : ps.length ≤ 1000) {p : Pc} (hp : ∀ q ∈ ps, q.nm ≠ p.nm) (Q : Unit → Sto → Prop) :
    Wp E (putIx (.box u) (Enc.d p.nm) (Enc.d p) s) Q = Q () (s.set u ⟨.dic false (rowsD (ps ++ [p])), true⟩) := by
  unfold putIx
  rw [wp_bnd, wp_getBox_at h]
  have hs : small (rowsD ps).length = true := small_of (by simp [rowsD]; omega)
  simp only [keyD_nm, hs, if_true, putD_rows ps p hp, wp_setBox_at h]
theorem eq_lst_nil {α β : Type} [Enc β] [DecidableEq β] (hd : Enc.dep β ≤ 63) (f : α → β) (xs : List α) : cmpD .eq (.lst (xs.map fun x => Enc.d (f x))) (.lst []) = some (decide (xs = [])) := by
  have h := ne_lst_nil (α := β) hd (xs.map f)
  rw [List.map_map] at h
  have h' : (eqD (.lst (xs.map fun x => Enc.d (f x))) (.lst [])).map (!·) = some (!decide (xs.map f = [])) := h
  show eqD (.lst (xs.map fun x => Enc.d (f x))) (.lst []) = _
  cases e : eqD (.lst (xs.map fun x => Enc.d (f x))) (.lst []) with
  | none => rw [e] at h'; cases h'
  | some b =>
    rw [e] at h'
    simp at h'
    by_cases hx : xs = []
    · subst hx; simp at h'; rw [h']; rfl
    · simp [hx] at h'; rw [h']; simp [hx]
theorem snoc_set (s : Sto) (x y : Bx) : (s ++ [x]).set s.length y = s ++ [y] := by
  rw [List.set_append_right _ _ (Nat.le_refl _)]; simp
theorem snoc_get (s : Sto) (x : Bx) : (s ++ [x])[s.length]? = some x := by simp
theorem ok_of_wp {α : Type} {m : M α} {s : Sto} {v : α} (h : Wp noE (m s) fun a s' => a = v ∧ s' = s) : m s = .ok v s := by
  obtain ⟨a, t, e, rfl, rfl⟩ := h.ok
  exact e
theorem filter_ar (c : List Pc) (a : Nm) : decide (c.filter (fun o => decide (o.ar = a)) = []) = !hasAr c a := by
  unfold hasAr
  rw [Bool.eq_iff_iff]
  simp
section
variable {α : Type} {E : Exc → Sto → Prop} {T : Tbl}
theorem wp_cons' {cf : CF} {st : St} {ss : Sts} {φ : Sl} {s : Sto} {Q : Fl × Sl → Sto → Prop} (h : Wp E (exS T cf st φ s) fun r s' => match r with | (.nxt, φ') => Wp E (exSs T cf ss φ' s') Q | (.brk, φ') => Q (.brk, φ') s' | (.cnt, φ') => Q (.cnt, φ') s' | (.ret v, φ') => Q (.ret v, φ') s') : Wp E (exSs T cf (.cons st ss) φ s) Q := by
  show Wp E (bnd (exS T cf st φ) _ s) Q
  rw [wp_bnd]
  refine h.imp fun r s' hr => ?_
  match r, hr with
  | (.nxt, φ'), hr => exact hr
  | (.brk, φ'), hr => exact hr
  | (.cnt, φ'), hr => exact hr
  | (.ret v, φ'), hr => exact hr
end
theorem exSs_nil {T : Tbl} {cf : CF} {φ : Sl} : exSs T cf .nil φ = ret (.nxt, φ) := rfl
theorem dprGo_rows (ps : List Pc) : ∀ done : List Pc, ((done ++ ps).map (·.nm)).Nodup → dprGo (ps.map fun p : Pc => D.tup [Enc.d p.nm, Enc.d p]) (rowsD done) = some (rowsD (done ++ ps)) := by
  induction ps with
  | nil => intro done _; rw [List.append_nil]; rfl
  | cons p ps ih =>
    intro done h
    have hne : ∀ q ∈ done, q.nm ≠ p.nm := fun q hq e => by
      rw [List.map_append, List.nodup_append] at h
      exact h.2.2 q.nm (List.mem_map.mpr ⟨q, hq, rfl⟩) p.nm (by simp) e
    have e1 := putD_rows done p hne
    show (match keyD (Enc.d p.nm) with | some k => dprGo (ps.map fun p : Pc => D.tup [Enc.d p.nm, Enc.d p]) (putD k (Enc.d p.nm) (Enc.d p) (rowsD done)) | none => none) = _
    rw [keyD_nm]
    show dprGo _ (putD (.inr p.nm.s) (Enc.d p.nm) (Enc.d p) (rowsD done)) = _
    rw [e1, ih (done ++ [p]) (by rw [List.append_assoc]; exact h), List.append_assoc]
    rfl
theorem dpr_rows (R : Ru) : dprD (.lst (R.ps.map fun p : Pc => D.tup [Enc.d p.nm, Enc.d p])) = some (rowsD R.ps) := dprGo_rows R.ps [] R.nodup
theorem getIx_rowsD {R : Ru} {p : Pc} (hp : p ∈ R.ps) : getIx (.d (.dic false (rowsD R.ps))) (Enc.d p.nm) = ret (Enc.d p) := by
  have e := lookD_rows R.nodup hp
  show M.opt (match keyD (Enc.d p.nm) with | some k => lookD k (rowsD R.ps) | none => none) = _
  rw [keyD_nm]
  show M.opt (lookD (.inr p.nm.s) (rowsD R.ps)) = _
  rw [e]; rfl
namespace K
theorem f_name_list (n : Nat) (R : Ru) : callA T (n + 1) (.f i__law_name_list) [.d R.parts] = ret (.d (.lst (R.ns.map Enc.d))) := by
  rw [callA_f T n _ _ rfl]
  refine eq_ret fun s => ?_
  simp [runF, B__law_name_list, exSs, exS, ev, evs, evF, evI, evT, startS, wp_bnd, ix_parts0, items_ps, wipeS]
  rw [compGo_map (g := fun p : Pc => Enc.d p.nm) (fun p _ => by simp [noExc, setT, pc_d, getIx_tup, atI4])]
  simp [ctZ, Ru.ns]
theorem f_may (n : Nat) (R : Ru) (c : List Pc) (p : Pc) (hc : ∀ q ∈ c, q ∈ R.ps) (hl : c.length ≤ 1000) (hp : p ∈ R.ps) : callA T (n + 1) (.f i__law_may) [.d R.parts, .d (cD c), .d (Enc.d p.nm)] = ret (.d (.bl (R.may c p))) := by
  rw [callA_f T n _ _ rfl]
  refine eq_ret fun s => ?_
  have hr := p.ok.1
  simp only [runF, B__law_may]
  simp [wp_bnd, startS]
  refine wp_cons' ?_
  simp [exS, ev, evs, evF, evI, evT, wp_bnd, wp_noExc, setT, ix_parts0, items_ps, wipeS]
  rw [compGo_map (g := fun p : Pc => D.tup [Enc.d p.nm, Enc.d p]) (fun p _ => by simp [noExc, setT, pc_d, getIx_tup, atI4, datasOf, small_of])]
  simp [wp_bnd, ctZ, dpr_rows]
  refine wp_cons' ?_
  simp [exS, ev, evs, evT, wp_bnd, datasOf, small_of, ne_cD_nil]
  refine Wp.imp (Q := fun (a : Bool) s' => a = (match c.getLast? with | none => false | some y => decide ((y.nm, p.nm) ∈ R.bs)) ∧ s' = s) ?_ ?_
  · cases e : c.getLast? with
    | none => simp [List.getLast?_eq_none_iff.mp e]
    | some y =>
      have : c ≠ [] := fun h => by rw [h] at e; cases e
      simp [this, last_cD, e, datasOf, small_of, ix_parts1, pair_isin, wp_bnd]
  rintro a s1 ⟨ha, rfl⟩
  have hcond : R.may c p = (!hasAr (c.drop (c.length - p.rest.toNat)) p.ar && !a) := by
    unfold Ru.may
    rw [ha]
    cases c.getLast? <;> rfl
  rw [hcond]
  clear ha hcond
  cases a with
  | true => simp [exSs, exS, ev]
  | false =>
    simp [exSs_nil]
    refine wp_cons' ?_
    simp [exS, ev, evs, wp_bnd, wp_noExc, setT, getIx_rowsD hp, pc_d, getIx_tup, atI4]
    refine wp_cons' ?_
    simp [exS, ev, evs, evO, wp_bnd, wp_noExc, setT, derefs, len_cD, binD_sub, max_0' _ _ hr.1, sl_cD, -List.map_drop]
    refine wp_cons' ?_
    simp [exS, ev, evs, evF, evI, evT, wp_bnd, wp_noExc, setT, freeze_d, items_cD (show (c.drop (c.length - p.rest.toNat)).length ≤ 1000 by simp; omega), wipeS, -List.map_drop]
    rw [compGo_if (p := fun o : Pc => decide (o.ar = p.ar)) (g := fun o : Pc => Enc.d o.nm)]
    · simp [ctZ, wp_bnd, datasOf, small_of]
      rw [eq_lst_nil (β := Nm) (Nat.zero_le _) (fun o : Pc => o.nm), filter_ar]
      simp
    · intro o ho
      have ho' := hc o (List.mem_of_mem_drop ho)
      simp [noExc, getIx_rowsD ho', getIx_rowsD hp, pc_d, getIx_tup, atI4, eq_nm]
      by_cases e : o.ar = p.ar <;> simp [e]
theorem f_law_next (n : Nat) (R : Ru) (c : List Pc) (hc : ∀ q ∈ c, q ∈ R.ps) (hl : c.length ≤ 1000) : callA T (n + 2) (.f i__law_next) [.d R.parts, .d (cD c)] = ret (.d (.lst ((R.nxt c).map fun p => Enc.d p.nm))) := by
  rw [callA_f T (n + 1) _ _ rfl]
  refine eq_ret fun s => ?_
  have hps := R.h1
  have hi : itemsD (.lst (R.ns.map Enc.d)) = some (R.ps.map fun p => Enc.d p.nm) := by
    unfold Ru.ns
    rw [List.map_map]
    exact items_lst (by simp; omega)
  simp [runF, B__law_next, exSs, exS, ev, evs, evF, evI, evT, startS, wp_bnd, f_name_list, freeze_d, hi, wipeS]
  rw [compGo_if (p := fun p : Pc => R.may c p) (g := fun p : Pc => Enc.d p.nm) (fun p hp => by
    simp [noExc, setT, f_may n R c p hc hl hp, asBool_d]
    cases R.may c p <;> rfl)]
  simp [ctZ, Ru.nxt]
end K
end VI

namespace VI
open PySem L2 M
namespace K
theorem f_law_reach (n : Nat) (R : Ru) : callA T (n + 1) (.f i__law_reach) [.d R.parts] = ret (.d (.int R.reach)) := by
  rw [callA_f T n _ _ rfl]
  have h := R.h1
  simp [runF, B__law_reach, exSs, exS, ev, evs, evF, evI, evT, setT, startS, wipeS, derefs, datasOf, ix_parts0, items_ps, small_of]
  rw [compGo_map (g := fun p : Pc => .int p.rest)]
  · simp [ctZ]
    rw [binD_lst (by simp; omega)]
    simp [derefs, maxL_map, Ru.reach]
  · intro p _
    simp [pc_d, getIx_tup, atI4]
end K
end VI

namespace VI
open PySem L2 M
/-! P17: drawn courses, rules made. -/
theorem Ru.Law.nil (R : Ru) : R.Law [] := ⟨fun _ h => (by cases h), fun k h => absurd h (Nat.not_lt_zero _)⟩
theorem Ru.Law.snoc {R : Ru} {c : List Pc} {p : Pc} (h : R.Law c) (hp : p ∈ R.ps) (hm : R.may c p = true) : R.Law (c ++ [p]) := by
  refine ⟨fun q hq => ?_, fun k hk => ?_⟩
  · rcases List.mem_append.mp hq with hq | hq
    · exact h.mem q hq
    · rw [List.mem_singleton] at hq; exact hq ▸ hp
  · rw [List.length_append, List.length_singleton] at hk
    by_cases e : k < c.length
    · rw [List.take_append_of_le_length (by omega), List.getElem_append_left e]
      exact h.ok k e
    · have : k = c.length := by omega
      subst this
      simp [hm]
theorem add_cD (c : List Pc) (p : Pc) (h : c.length ≤ 1000) : binD .add (cD c) (.tup [Enc.d p.nm]) = some (cD (c ++ [p])) := by
  have := binD_tup (xs := c.map fun p : Pc => Enc.d p.nm) (ys := [Enc.d p.nm]) (by simp; omega)
  refine this.trans ?_
  simp [cD]
theorem add_cD0 (c : List Pc) (h : c.length ≤ 1000) : binD .add (cD c) (.tup []) = some (cD c) := by
  have := binD_tup (xs := c.map fun p : Pc => Enc.d p.nm) (ys := []) (by simp; omega)
  refine this.trans ?_
  simp [cD]
namespace K
theorem w_course {n p k : Nat} {R : Ru} {E : Exc → Sto → Prop} {Q : VV → Sto → Prop} {β : Sto} (h : PoolAt β p) (hk : k ≤ 60)
    (q : ∀ (c : List Pc) β', R.Law c → c.length ≤ k → Ch p β β' → Q (.d (cD c)) β') : Wp E (callA T (n + 3) (.f i__law_course) [.box p, .d R.parts, .d (.int k)] β) Q := by
  refine wp_callA T (n + 2) i__law_course _ rfl ?_
  simp [runF, B__law_course, exSs, exS, ev, evs, evI, wp_bnd, setT, startS, datasOf, small_of, rngOk_of (show (-1000000 : Int) ≤ k ∧ (k : Int) ≤ 1000000 by omega)]
  refine wp_forGo (fun rest φ s => ∃ c v4 v5, φ = [some (.box p), some (.d R.parts), some (.d (.int k)), some (.d (cD c)), v4, v5] ∧ R.Law c ∧ c.length + rest.length ≤ k ∧ Ch p β s) ?_ ?_ _ _ _ ⟨[], none, none, rfl, .nil R, by rw [rng0]; simp, .refl h⟩
  · rintro x rest φ s ⟨c, v4, v5, rfl, hc, hl, ch⟩
    rw [List.length_cons] at hl
    have hcl : c.length ≤ 1000 := by omega
    simp [wp_bnd, B__law_course_0, exSs, exS, ev, evs, evT, evF, setT, f_law_next n R c hc.mem hcl, datasOf, small_of, ctZ]
    have e0 := ne_lst_nil (α := Nm) (by decide) ((R.nxt c).map (·.nm))
    rw [List.map_map] at e0
    have e0 : cmpD .ne (.lst ((R.nxt c).map fun p => Enc.d p.nm)) (.lst []) = some (!decide (((R.nxt c).map (·.nm)) = [])) := e0
    rw [e0]
    by_cases e : R.nxt c = []
    · simp [e, datasOf, small_of, add_cD0 c hcl]
      exact ⟨c, rfl, hc, by omega, ch⟩
    · simp [e, wp_bnd]
      refine w_of_lst ch.pool (by simpa using e) (by have := R.h1; have := List.length_filter_le (fun p => R.may c p) R.ps; simp [Ru.nxt]; omega) fun x s' hx ch2 => ?_
      obtain ⟨y, hy, rfl⟩ := List.mem_map.mp hx
      have hy' := List.mem_filter.mp hy
      simp [wp_bnd, datasOf, small_of, add_cD c y hcl]
      exact ⟨_, rfl, hc.snoc hy'.1 hy'.2, by simp; omega, ch.trans ch2⟩
  · rintro φ s ⟨c, v4, v5, rfl, hc, hl, ch⟩
    simp [wp_bnd]
    exact q c s hc (by simp at hl; omega) ch
end K
end VI

namespace VI
open PySem L2 M
/-! P17b -/
namespace K
theorem g_made (n : Nat) (R : Ru) : Gw (callA T (n + 9) (.f i__law_made) [.d R.parts]) (.d R.d) := by
  rw [callA_f T (n + 8) _ _ rfl]
  refine .of fun s => ?_
  simp [runF, B__law_made, exSs, exS, ev, evs, startS, ix_parts0, ix_parts1, wp_bnd, wp_newBox]
  refine wp_callA T (n + 7) i_Rules_init _ rfl ?_
  have hg := snoc_get s ⟨.obj 0 [], true⟩
  simp [runF, B_Rules_init, exSs, exS, ev, evs, evI, startS, wp_bnd, f_wrong_in_pieces, f_wrong_in_bars, itemsD, forGo, datasOf, small_of, wp_getBox_at hg, po_told, wp_setBox_at hg, snoc_set]
  simp [freeze, ctZ, putFld, snoc_set]
  rfl
end K
end VI

namespace VI
open PySem L2 M
/-! P23: windows, how many go on; dicts whose keys are windows. -/
theorem map_inj {α β : Type} {f : α → β} : ∀ {l : List α}, (l.map f).Nodup → ∀ {a b : α}, a ∈ l → b ∈ l → f a = f b → a = b
  | [], _, _, _, h, _, _ => by cases h
  | x :: l, hn, a, b, ha, hb, e => by
    rw [List.map_cons, List.nodup_cons] at hn
    rcases List.mem_cons.mp ha with h1 | h1 <;> rcases List.mem_cons.mp hb with h2 | h2
    · rw [h1, h2]
    · exact absurd (List.mem_map.mpr ⟨b, h2, by rw [← e, h1]⟩) hn.1
    · exact absurd (List.mem_map.mpr ⟨a, h1, by rw [e, h2]⟩) hn.1
    · exact map_inj hn.2 h1 h2 e
theorem nodup_len {α : Type} [DecidableEq α] : ∀ {l m : List α}, l.Nodup → (∀ x ∈ l, x ∈ m) → l.length ≤ m.length
  | [], m, _, _ => Nat.zero_le _
  | x :: l, m, hn, h => by
    rw [List.nodup_cons] at hn
    have hx := h x (List.mem_cons_self ..)
    have := nodup_len (l := l) (m := m.erase x) hn.2 fun y hy => (List.mem_erase_of_ne (fun e => hn.1 (by rw [← e]; exact hy))).mpr (h y (List.mem_cons_of_mem _ hy))
    rw [List.length_erase_of_mem hx] at this
    have : 0 < m.length := List.length_pos_of_mem hx
    rw [List.length_cons]; omega
/-! ### keys -/
def kk (w : List Pc) : List Key := w.map fun p => .inr p.nm.s
theorem keysD_nms : ∀ w : List Pc, keysD (w.map fun p => Enc.d p.nm) = some (kk w)
  | [] => rfl
  | p :: w => by
    rw [List.map_cons, keysD, keyD_nm, keysD_nms w]
    rfl
theorem keyT_cD (w : List Pc) : keyT (cD w) = some (kk w) := keysD_nms w
def Ru.In (R : Ru) (w : List Pc) : Prop := ∀ p ∈ w, p ∈ R.ps
theorem kk_inj {R : Ru} : ∀ {a b : List Pc}, R.In a → R.In b → kk a = kk b → a = b
  | [], [], _, _, _ => rfl
  | [], _ :: _, _, _, e => by cases e
  | _ :: _, [], _, _, e => by cases e
  | x :: a, y :: b, ha, hb, e => by
    have e' : (Sum.inr x.nm.s : Key) :: kk a = .inr y.nm.s :: kk b := e
    obtain ⟨e1, e2⟩ := List.cons.inj e'
    have en : x.nm = y.nm := nm_s.mp (by rw [e1])
    have := map_inj (l := R.ps) (f := fun p : Pc => p.nm) R.nodup (ha x (List.mem_cons_self ..)) (hb y (List.mem_cons_self ..)) en
    rw [this, kk_inj (fun p hp => ha p (List.mem_cons_of_mem _ hp)) (fun p hp => hb p (List.mem_cons_of_mem _ hp)) e2]
section
variable {β : Type}
def look (w : List Pc) : List (List Pc × β) → Option β
  | [] => none
  | r :: rs => if r.1 = w then some r.2 else look w rs
def put (w : List Pc) (b : β) : List (List Pc × β) → List (List Pc × β)
  | [] => [(w, b)]
  | r :: rs => if r.1 = w then (w, b) :: rs else r :: put w b rs
def rD (f : β → D) (rows : List (List Pc × β)) : List (D × D) := rows.map fun r => (cD r.1, f r.2)
theorem keyT_ne {R : Ru} {a w : List Pc} (ha : R.In a) (hw : R.In w) : (keyT (cD a) = some (kk w)) ↔ a = w := by
  rw [keyT_cD]
  constructor
  · intro h
    exact kk_inj ha hw (Option.some.inj h)
  · rintro rfl; rfl
theorem lookT_rD {R : Ru} {f : β → D} {w : List Pc} (hw : R.In w) : ∀ {rows : List (List Pc × β)}, (∀ r ∈ rows, R.In r.1) → lookT (kk w) (rD f rows) = (look w rows).map f
  | [], _ => rfl
  | r :: rs, h => by
    show (if keyT (cD r.1) = some (kk w) then some (f r.2) else lookT (kk w) (rD f rs)) = (if r.1 = w then some r.2 else look w rs).map f
    have h1 := keyT_ne (h r (List.mem_cons_self ..)) hw
    by_cases e : r.1 = w
    · rw [if_pos (h1.mpr e), if_pos e]; rfl
    · rw [if_neg (fun z => e (h1.mp z)), if_neg e]
      exact lookT_rD hw fun x hx => h x (List.mem_cons_of_mem _ hx)
theorem putT_ne {k : List Key} {kd v a x : D} {r : List (D × D)} (h : ¬ keyT a = some k) : putT k kd v ((a, x) :: r) = (a, x) :: putT k kd v r := by
  unfold putT
  rw [List.any_cons, decide_eq_false h, Bool.false_or, List.map_cons, if_neg h]
  split <;> rfl
theorem putT_eq {k : List Key} {kd v a x : D} {r : List (D × D)} (h : keyT a = some k) (hr : ∀ p ∈ r, ¬ keyT p.1 = some k) : putT k kd v ((a, x) :: r) = (a, v) :: r := by
  unfold putT
  rw [List.any_cons, decide_eq_true h, Bool.true_or, if_pos rfl, List.map_cons, if_pos h]
  congr 1
  conv => rhs; rw [← List.map_id r]
  refine List.map_congr_left fun p hp => ?_
  rw [if_neg (hr p hp)]; rfl
theorem putT_new {k : List Key} {kd v : D} : ∀ {r : List (D × D)}, (∀ p ∈ r, ¬ keyT p.1 = some k) → putT k kd v r = r ++ [(kd, v)]
  | [], _ => rfl
  | (a, x) :: r, h => by
    rw [putT_ne (h (a, x) (List.mem_cons_self ..)), putT_new fun p hp => h p (List.mem_cons_of_mem _ hp)]
    rfl
theorem putT_rD {R : Ru} {f : β → D} {w : List Pc} {b : β} (hw : R.In w) : ∀ {rows : List (List Pc × β)}, (∀ r ∈ rows, R.In r.1) → (rows.map (·.1)).Nodup → putT (kk w) (cD w) (f b) (rD f rows) = rD f (put w b rows)
  | [], _, _ => rfl
  | r :: rs, h, hn => by
    rw [List.map_cons, List.nodup_cons] at hn
    have h1 := keyT_ne (h r (List.mem_cons_self ..)) hw
    show putT (kk w) (cD w) (f b) ((cD r.1, f r.2) :: rD f rs) = rD f (if r.1 = w then (w, b) :: rs else r :: put w b rs)
    by_cases e : r.1 = w
    · rw [if_pos e, putT_eq (h1.mpr e)]
      · rw [e]; rfl
      · intro p hp
        obtain ⟨q, hq, rfl⟩ := List.mem_map.mp hp
        intro z
        have := (keyT_ne (h q (List.mem_cons_of_mem _ hq)) hw).mp z
        exact hn.1 (List.mem_map.mpr ⟨q, hq, by rw [this, e]⟩)
    · rw [if_neg e, putT_ne (fun z => e (h1.mp z)), putT_rD hw (fun x hx => h x (List.mem_cons_of_mem _ hx)) hn.2]
      rfl
theorem put_keys (w : List Pc) (b : β) : ∀ rows : List (List Pc × β), ∀ x ∈ (put w b rows).map (·.1), x = w ∨ x ∈ rows.map (·.1)
  | [], x, hx => by simp [put] at hx; exact .inl hx
  | r :: rs, x, hx => by
    unfold put at hx
    split at hx
    · rename_i e
      rw [List.map_cons] at hx
      rcases List.mem_cons.mp hx with h | h
      · exact .inl h
      · exact .inr (by rw [List.map_cons]; exact List.mem_cons_of_mem _ h)
    · rw [List.map_cons] at hx
      rcases List.mem_cons.mp hx with h | h
      · exact .inr (by rw [List.map_cons, h]; exact List.mem_cons_self ..)
      · exact (put_keys w b rs x h).imp id fun z => by rw [List.map_cons]; exact List.mem_cons_of_mem _ z
theorem put_nodup (w : List Pc) (b : β) : ∀ {rows : List (List Pc × β)}, (rows.map (·.1)).Nodup → ((put w b rows).map (·.1)).Nodup
  | [], _ => by simp [put]
  | r :: rs, hn => by
    rw [List.map_cons, List.nodup_cons] at hn
    unfold put
    split
    · rename_i e
      rw [List.map_cons, List.nodup_cons]
      exact ⟨by rw [← e]; exact hn.1, hn.2⟩
    · rename_i e
      rw [List.map_cons, List.nodup_cons]
      refine ⟨fun z => ?_, put_nodup w b hn.2⟩
      rcases put_keys w b rs _ z with h | h
      · exact e h
      · exact hn.1 h
end
def tot (g : List Pc → Int) (rows : List (List Pc × Int)) : Int := (rows.map fun r => r.2 * g r.1).sum
theorem put_tot (g : List Pc → Int) (w : List Pc) (m : Int) : ∀ rows : List (List Pc × Int), tot g (put w ((look w rows).getD 0 + m) rows) = tot g rows + m * g w
  | [] => by simp [tot, put, look]
  | r :: rs => by
    unfold put look
    by_cases e : r.1 = w
    · rw [if_pos e, if_pos e]
      show ((r.2 + m) * g w + tot g rs) = (r.2 * g r.1 + tot g rs) + m * g w
      rw [e, Int.add_mul]; omega
    · rw [if_neg e, if_neg e]
      have := put_tot g w m rs
      show r.2 * g r.1 + tot g (put w ((look w rs).getD 0 + m) rs) = (r.2 * g r.1 + tot g rs) + m * g w
      rw [this]; omega
/-! ### windows -/
structure Ru.W (R : Ru) (w : List Pc) : Prop where
  law : R.Law w
  len : (w.length : Int) ≤ R.reach
theorem Ru.W.le {R : Ru} {w : List Pc} (h : R.W w) : w.length ≤ 3 := by have := h.len; have := R.reach_le; omega
theorem Ru.W.mem {R : Ru} {w : List Pc} (h : R.W w) : R.In w := h.law.mem
theorem Ru.win_W {R : Ru} {c : List Pc} (h : R.Law c) : R.W (R.win c) := ⟨h.drop _, by unfold Ru.win; rw [List.length_drop]; have := R.reach_le; omega⟩
theorem Ru.W.nil (R : Ru) : R.W [] := ⟨.nil R, by have := R.reach_le; simp; omega⟩
def Ru.beh (R : Ru) (w : List Pc) (p : Pc) : List Pc := R.win (w ++ [p])
theorem nxt_mem {R : Ru} {w : List Pc} {p : Pc} (h : p ∈ R.nxt w) : p ∈ R.ps ∧ R.may w p = true := List.mem_filter.mp h
theorem Ru.W.beh {R : Ru} {w : List Pc} {p : Pc} (h : R.W w) (hp : p ∈ R.nxt w) : R.W (R.beh w p) := Ru.win_W (h.law.snoc (nxt_mem hp).1 (nxt_mem hp).2)
theorem win_snoc {R : Ru} (c : List Pc) (p : Pc) : R.win (R.win c ++ [p]) = R.win (c ++ [p]) := by
  have h1 := R.reach_le
  unfold Ru.win
  have e : c.drop (c.length - R.reach.toNat) ++ [p] = (c ++ [p]).drop (c.length - R.reach.toNat) := by rw [List.drop_append_of_le_length (by omega)]
  rw [e, List.drop_drop, List.length_drop, List.length_append, List.length_singleton]
  congr 1
  omega
def Ru.cnt (R : Ru) : Nat → List Pc → Nat
  | 0, _ => 1
  | s + 1, w => ((R.nxt w).map fun p => R.cnt s (R.beh w p)).sum
theorem cnt_win {R : Ru} (s : Nat) (c : List Pc) : R.cnt s (R.win c) = R.cnt s c := by
  cases s with
  | zero => rfl
  | succ s =>
    show ((R.nxt (R.win c)).map fun p => R.cnt s (R.win (R.win c ++ [p]))).sum = _
    rw [nxt_win]
    simp only [win_snoc]
    rfl
def lists (ps : List Pc) : Nat → List (List Pc)
  | 0 => [[]]
  | n + 1 => [] :: ps.flatMap fun p => (lists ps n).map (p :: ·)
theorem lists_mem {ps : List Pc} : ∀ {n : Nat} {w : List Pc}, (∀ p ∈ w, p ∈ ps) → w.length ≤ n → w ∈ lists ps n
  | 0, [], _, _ => List.mem_singleton.mpr rfl
  | 0, _ :: _, _, h => by simp at h
  | n + 1, [], _, _ => List.mem_cons_self ..
  | n + 1, p :: w, h, hl => by
    refine List.mem_cons_of_mem _ (List.mem_flatMap.mpr ⟨p, h p (List.mem_cons_self ..), List.mem_map.mpr ⟨w, lists_mem (fun q hq => h q (List.mem_cons_of_mem _ hq)) ?_, rfl⟩⟩)
    rw [List.length_cons] at hl; omega
theorem flat_len {α β : Type} (f : α → List β) (k : Nat) : ∀ l : List α, (∀ a ∈ l, (f a).length = k) → (l.flatMap f).length = l.length * k
  | [], _ => by simp
  | a :: l, h => by
    rw [List.flatMap_cons, List.length_append, flat_len f k l (fun b hb => h b (List.mem_cons_of_mem _ hb)), h a (List.mem_cons_self ..), List.length_cons, Nat.succ_mul]; omega
theorem lists_len (ps : List Pc) (n : Nat) : (lists ps (n + 1)).length = 1 + ps.length * (lists ps n).length := by
  show ([] :: ps.flatMap fun p => (lists ps n).map (p :: ·)).length = _
  rw [List.length_cons, flat_len _ (lists ps n).length ps (fun a _ => by simp)]; omega
theorem keys_len {R : Ru} {ks : List (List Pc)} (hn : ks.Nodup) (h : ∀ w ∈ ks, R.W w) : ks.length ≤ 259 := by
  have h1 := nodup_len (m := lists R.ps 3) hn fun w hw => lists_mem (h w hw).mem (h w hw).le
  have h2 := R.h1.2
  have e0 : (lists R.ps 0).length = 1 := rfl
  have e1 := lists_len R.ps 0
  have e2 := lists_len R.ps 1
  have e3 := lists_len R.ps 2
  rw [e0] at e1
  have b1 : (lists R.ps 1).length ≤ 7 := by rw [e1]; omega
  have b2 : (lists R.ps 2).length ≤ 43 := by
    rw [e2]
    have := Nat.mul_le_mul h2 b1
    omega
  have b3 : (lists R.ps 3).length ≤ 259 := by
    rw [e3]
    have := Nat.mul_le_mul h2 b2
    omega
  omega
/-- good rows -/
structure Good (R : Ru) {β : Type} (rows : List (List Pc × β)) : Prop where
  nd : (rows.map (·.1)).Nodup
  w : ∀ r ∈ rows, R.W r.1
theorem Good.nil (R : Ru) {β : Type} : Good R ([] : List (List Pc × β)) := ⟨List.nodup_nil, fun _ h => by cases h⟩
theorem Good.len {R : Ru} {β : Type} {rows : List (List Pc × β)} (h : Good R rows) : rows.length ≤ 259 := by
  have := keys_len h.nd fun w hw => by obtain ⟨r, hr, rfl⟩ := List.mem_map.mp hw; exact h.w r hr
  simpa using this
theorem Good.put {R : Ru} {β : Type} {rows : List (List Pc × β)} (h : Good R rows) {w : List Pc} (hw : R.W w) (b : β) : Good R (put w b rows) := by
  refine ⟨put_nodup w b h.nd, fun r hr => ?_⟩
  rcases put_keys w b rows r.1 (List.mem_map.mpr ⟨r, hr, rfl⟩) with e | e
  · rw [e]; exact hw
  · obtain ⟨q, hq, e⟩ := List.mem_map.mp e
    rw [← e]; exact h.w q hq
theorem Good.in_ {R : Ru} {β : Type} {rows : List (List Pc × β)} (h : Good R rows) : ∀ r ∈ rows, R.In r.1 := fun r hr => (h.w r hr).mem
/-! ### all windows, as they are come to -/
def Ru.kids (R : Ru) (w : List Pc) : List (List Pc) := ((R.nxt w).map fun p => R.beh w p).filter fun v => decide (w.length < v.length)
theorem beh_short {R : Ru} {w : List Pc} {p : Pc} (h : (w.length : Int) < R.reach) : R.beh w p = w ++ [p] := by
  unfold Ru.beh
  exact win_short (by rw [List.length_append, List.length_singleton]; omega)
theorem beh_long {R : Ru} {w : List Pc} {p : Pc} (h : (w.length : Int) = R.reach) : (R.beh w p).length = w.length := by
  unfold Ru.beh Ru.win
  rw [List.length_drop, List.length_append, List.length_singleton]; omega
theorem kids_mem {R : Ru} {w v : List Pc} (hw : R.W w) (h : v ∈ R.kids w) : ∃ p ∈ R.nxt w, v = w ++ [p] := by
  obtain ⟨h1, h2⟩ := List.mem_filter.mp h
  obtain ⟨p, hp, rfl⟩ := List.mem_map.mp h1
  have h2 := of_decide_eq_true h2
  by_cases e : (w.length : Int) < R.reach
  · exact ⟨p, hp, beh_short e⟩
  · have := hw.len
    have := beh_long (R := R) (w := w) (p := p) (by omega)
    omega
theorem kids_of {R : Ru} {w : List Pc} {p : Pc} (hp : p ∈ R.nxt w) (h : (w.length : Int) < R.reach) : w ++ [p] ∈ R.kids w :=
  List.mem_filter.mpr ⟨List.mem_map.mpr ⟨p, hp, beh_short h⟩, decide_eq_true (by simp)⟩
theorem kids_W {R : Ru} {w v : List Pc} (hw : R.W w) (h : v ∈ R.kids w) : R.W v := by
  obtain ⟨h1, _⟩ := List.mem_filter.mp h
  obtain ⟨p, hp, rfl⟩ := List.mem_map.mp h1
  exact hw.beh hp
theorem Ru.ps_nodup (R : Ru) : R.ps.Nodup := by
  have := R.nodup
  unfold Ru.ns at this
  exact List.Pairwise.of_map _ (fun a b h e => h (by rw [e])) this
theorem kids_nodup {R : Ru} {w : List Pc} (hw : R.W w) : (R.kids w).Nodup := by
  by_cases e : (w.length : Int) < R.reach
  · unfold Ru.kids
    refine List.Pairwise.filter _ ?_
    have : ((R.nxt w).map fun p => R.beh w p) = (R.nxt w).map fun p => w ++ [p] := List.map_congr_left fun p _ => beh_short e
    rw [this]
    exact List.Pairwise.map _ (fun a b h e => h (by simpa using e)) (List.Pairwise.filter _ R.ps_nodup)
  · have : R.kids w = [] := by
      unfold Ru.kids
      rw [List.filter_eq_nil_iff]
      intro v hv
      obtain ⟨p, hp, rfl⟩ := List.mem_map.mp hv
      have := hw.len
      have := beh_long (R := R) (w := w) (p := p) (by omega)
      simp; omega
    rw [this]; exact List.nodup_nil
theorem line_nodup {R : Ru} : ∀ {l : List (List Pc)}, l.Nodup → (∀ w ∈ l, R.W w) → ([] :: l.flatMap R.kids).Nodup := by
  intro l hn hw
  rw [List.nodup_cons]
  constructor
  · intro z
    obtain ⟨w, hw', hv⟩ := List.mem_flatMap.mp z
    obtain ⟨p, _, e⟩ := kids_mem (hw w hw') hv
    simp at e
  · induction l with
    | nil => exact List.nodup_nil
    | cons a l ih =>
      rw [List.nodup_cons] at hn
      rw [List.flatMap_cons, List.nodup_append]
      refine ⟨kids_nodup (hw a (List.mem_cons_self ..)), ih hn.2 fun w h => hw w (List.mem_cons_of_mem _ h), fun x hx y hy e => ?_⟩
      subst e
      obtain ⟨w, hw', hv⟩ := List.mem_flatMap.mp hy
      obtain ⟨p, _, e1⟩ := kids_mem (hw a (List.mem_cons_self ..)) hx
      obtain ⟨q, _, e2⟩ := kids_mem (hw w (List.mem_cons_of_mem _ hw')) hv
      rw [e1] at e2
      have : a = w := by
        have := congrArg List.dropLast e2
        simpa using this
      exact hn.1 (this ▸ hw')
/-- the line while it grows -/
structure Line (R : Ru) (line : List (List Pc)) (at_ : Nat) : Prop where
  le : at_ ≤ line.length
  eq : line = [] :: (line.take at_).flatMap R.kids
  w : ∀ v ∈ line, R.W v
  nd : line.Nodup
theorem Line.start (R : Ru) : Line R [[]] 0 := ⟨Nat.zero_le _, by simp, fun v h => by rw [List.mem_singleton] at h; subst h; exact .nil R, by simp⟩
theorem Line.len {R : Ru} {line : List (List Pc)} {k : Nat} (h : Line R line k) : line.length ≤ 259 := keys_len h.nd h.w
theorem Line.next {R : Ru} {line : List (List Pc)} {k : Nat} (h : Line R line k) (hk : k < line.length) : Line R (line ++ R.kids line[k]) (k + 1) := by
  have hw : R.W line[k] := h.w _ (List.getElem_mem hk)
  have et : (line ++ R.kids line[k]).take (k + 1) = line.take k ++ [line[k]] := by
    rw [List.take_append_of_le_length (by omega), List.take_succ, List.getElem?_eq_getElem hk]; rfl
  have eq : line ++ R.kids line[k] = [] :: ((line ++ R.kids line[k]).take (k + 1)).flatMap R.kids := by
    rw [et, List.flatMap_append, List.flatMap_singleton]
    generalize R.kids line[k] = z
    conv => lhs; rw [h.eq]
    rfl
  have wt : ∀ v ∈ line ++ R.kids line[k], R.W v := fun v hv => (List.mem_append.mp hv).elim (h.w v) (kids_W hw)
  refine ⟨by rw [List.length_append]; omega, eq, wt, ?_⟩
  rw [eq]
  refine line_nodup ?_ fun w hw' => wt w (List.mem_of_mem_take hw')
  rw [et]
  have : line.take k ++ [line[k]] = line.take (k + 1) := by rw [List.take_succ, List.getElem?_eq_getElem hk]; rfl
  rw [this]
  exact h.nd.sublist (List.take_sublist _ _)
theorem Line.full {R : Ru} {line : List (List Pc)} (h : Line R line line.length) : ∀ (n : Nat) {w : List Pc}, w.length = n → R.W w → w ∈ line := by
  have eq := h.eq
  rw [List.take_length] at eq
  intro n
  induction n with
  | zero =>
    intro w hl _
    have : w = [] := List.length_eq_zero_iff.mp hl
    rw [this, eq]
    exact List.mem_cons_self ..
  | succ n ih =>
    intro w hl hw
    have hne : w ≠ [] := fun e => by rw [e] at hl; cases hl
    have ew := List.dropLast_concat_getLast hne
    have hd : w.dropLast.length = n := by rw [List.length_dropLast, hl]; rfl
    have hlaw : R.Law w.dropLast := by
      refine ⟨fun p hp => hw.law.mem p (List.dropLast_subset w hp), fun k hk => ?_⟩
      have hk' : k < w.length := by omega
      have := hw.law.ok k hk'
      rw [List.getElem_dropLast]
      have e : w.dropLast.take k = w.take k := by
        rw [List.dropLast_eq_take, List.take_take]
        congr 1; omega
      rw [e]; exact this
    have hW : R.W w.dropLast := ⟨hlaw, by have := hw.len; rw [hl] at this; rw [hd]; omega⟩
    have hmem := ih hd hW
    have hm : R.may w.dropLast (w.getLast hne) = true := by
      have := hw.law.ok n (by omega)
      have e1 : w.take n = w.dropLast := by rw [List.dropLast_eq_take, hl]; rfl
      have e2 : w[n]'(by omega) = w.getLast hne := by
        rw [List.getLast_eq_getElem]
        congr 1; omega
      rw [e1, e2] at this
      exact this
    have hp : w.getLast hne ∈ R.nxt w.dropLast := List.mem_filter.mpr ⟨hw.law.mem _ (List.getLast_mem hne), hm⟩
    have := kids_of hp (by have := hw.len; rw [hl] at this; rw [hd]; omega)
    rw [ew] at this
    rw [eq]
    exact List.mem_cons_of_mem _ (List.mem_flatMap.mpr ⟨_, hmem, this⟩)
end VI

namespace VI
open PySem L2 M
/-! P24: the store that grows; loops; the table of steps. -/
section
variable {α : Type} {E : Exc → Sto → Prop} {T : Tbl}
theorem wp_whGo {c : Sl → M Bool} {body : Sl → M (Fl × Sl)} {Q : Fl × Sl → Sto → Prop} (Inv : Nat → Sl → Sto → Prop)
    (step : ∀ m φ s, Inv m φ s → Wp E (c φ s) fun k s' => if k = true then Wp E (body φ s') (fun r s'' => match r with
      | (.nxt, φ') => ∃ m', m' < m ∧ Inv m' φ' s''
      | (.cnt, φ') => ∃ m', m' < m ∧ Inv m' φ' s''
      | (.brk, φ') => Q (.nxt, φ') s''
      | (.ret v, φ') => Q (.ret v, φ') s'') else Q (.nxt, φ) s') : ∀ (n m : Nat) (φ : Sl) (s : Sto), m < n → Inv m φ s → Wp E (whGo c body n φ s) Q
  | 0, m, φ, s, h, _ => absurd h (Nat.not_lt_zero _)
  | n + 1, m, φ, s, h, i => by
    unfold whGo
    rw [wp_bnd]
    refine (step m φ s i).imp fun k s' hk => ?_
    cases k with
    | false => exact hk
    | true =>
      have hk : Wp E (body φ s') _ := hk
      rw [if_pos rfl, wp_bnd]
      refine hk.imp fun r s'' hr => ?_
      match r, hr with
      | (.nxt, φ'), hr => obtain ⟨m', hm, i'⟩ := hr; exact wp_whGo Inv step n m' φ' s'' (by omega) i'
      | (.cnt, φ'), hr => obtain ⟨m', hm, i'⟩ := hr; exact wp_whGo Inv step n m' φ' s'' (by omega) i'
      | (.brk, φ'), hr => exact hr
      | (.ret v, φ'), hr => exact hr
end
/-! ### growing -/
def Up (s s' : Sto) : Prop := ∃ t, s' = s ++ t
theorem Up.refl (s : Sto) : Up s s := ⟨[], by simp⟩
theorem Up.trans {a b c : Sto} (h : Up a b) (k : Up b c) : Up a c := by
  obtain ⟨t, rfl⟩ := h
  obtain ⟨u, rfl⟩ := k
  exact ⟨t ++ u, by simp⟩
theorem Up.add (s t : Sto) : Up s (s ++ t) := ⟨t, rfl⟩
theorem Up.set {a b : Sto} (h : Up a b) {i : Nat} (hi : a.length ≤ i) (x : Bx) : Up a (b.set i x) := by
  obtain ⟨t, rfl⟩ := h
  exact ⟨t.set (i - a.length) x, by rw [List.set_append_right _ _ hi]⟩
theorem Up.get {a b : Sto} (h : Up a b) {i : Nat} {x : Bx} (hi : a[i]? = some x) : b[i]? = some x := by
  obtain ⟨t, rfl⟩ := h
  rw [List.getElem?_append_left (List.getElem?_eq_some_iff.mp hi).1]; exact hi
theorem Up.len {a b : Sto} (h : Up a b) : a.length ≤ b.length := by
  obtain ⟨t, rfl⟩ := h
  simp
theorem get_set_self {s : Sto} {i : Nat} {x y : Bx} (h : s[i]? = some x) : (s.set i y)[i]? = some y := List.getElem?_set_self (List.getElem?_eq_some_iff.mp h).1
theorem get_set_ne {s : Sto} {i j : Nat} {x y : Bx} (h : s[j]? = some x) (hn : i ≠ j) : (s.set i y)[j]? = some x := by rw [List.getElem?_set_ne hn]; exact h
/-! ### dicts with tuple keys, as boxes -/
section
variable {E : Exc → Sto → Prop} {s : Sto} {u : Nat} {l : Bool} {kvs : List (D × D)}
theorem deref_dic (h : s[u]? = some ⟨.dic true kvs, l⟩) : deref (.box u) s = .ok (.dic true kvs) s := by unfold deref; simp only [h, ctD]
theorem deref_fdic (h : s[u]? = some ⟨.fdic true kvs, l⟩) : deref (.box u) s = .ok (.fdic true kvs) s := by unfold deref; simp only [h, ctD]
theorem wp_getIx_T {w : List Pc} {x : D} (h : s[u]? = some ⟨.dic true kvs, l⟩) (e : lookT (kk w) kvs = some x) (Q : D → Sto → Prop) : Wp E (getIx (.box u) (cD w) s) Q = Q x s := by
  unfold getIx
  rw [wp_bnd, deref_dic h]
  show Wp E ((match keyT (cD w) with | some k => M.opt (lookT k kvs) | none => bad) s) Q = _
  rw [keyT_cD]
  show Wp E (M.opt (lookT (kk w) kvs) s) Q = _
  rw [e]; rfl
theorem wp_getIx_F {w : List Pc} {x : D} (h : s[u]? = some ⟨.fdic true kvs, l⟩) (e : lookT (kk w) kvs = some x) (Q : D → Sto → Prop) : Wp E (getIx (.box u) (cD w) s) Q = Q x s := by
  unfold getIx
  rw [wp_bnd, deref_fdic h]
  show Wp E ((match keyT (cD w) with | some k => M.opt (lookT k kvs) | none => bad) s) Q = _
  rw [keyT_cD]
  show Wp E (M.opt (lookT (kk w) kvs) s) Q = _
  rw [e]; rfl
theorem wp_putIx_T {w : List Pc} {x : D} (h : s[u]? = some ⟨.dic true kvs, true⟩) (hl : kvs.length ≤ 1000) (Q : Unit → Sto → Prop) : Wp E (putIx (.box u) (cD w) x s) Q = Q () (s.set u ⟨.dic true (putT (kk w) (cD w) x kvs), true⟩) := by
  unfold putIx
  rw [wp_bnd, wp_getBox_at h]
  have hs : small kvs.length = true := small_of (by omega)
  simp only [keyT_cD, hs, if_true, wp_setBox_at h]
theorem wp_isDic (h : s[u]? = some ⟨.dic true kvs, l⟩) (Q : Unit → Sto → Prop) : Wp E (isDic (.box u) s) Q = Q () s := by
  unfold isDic
  rw [wp_bnd, deref_dic h]; rfl
theorem wp_deref_dic (h : s[u]? = some ⟨.dic true kvs, l⟩) (Q : D → Sto → Prop) : Wp E (deref (.box u) s) Q = Q (.dic true kvs) s := by rw [deref_dic h]; rfl
theorem wp_freezeL (h : s[u]? = some ⟨.dic true kvs, true⟩) (Q : D → Sto → Prop) : Wp E (freezeL (.box u) s) Q = Q (.fdic true kvs) (s.set u ⟨.fdic true kvs, false⟩) := by
  unfold freezeL
  simp only [h]
  rfl
theorem wp_freezeL' (h : s[u]? = some ⟨.fdic true kvs, false⟩) (Q : D → Sto → Prop) : Wp E (freezeL (.box u) s) Q = Q (.fdic true kvs) s := by
  unfold freezeL
  simp only [h]
  rfl
theorem getOr_T {w : List Pc} {x : D} : getOr (.dic true kvs) (cD w) x = some ((lookT (kk w) kvs).getD x) := by
  show (keyT (cD w)).map _ = _
  rw [keyT_cD]; rfl
theorem keyT_some (w : List Pc) : (keyT (cD w)).isSome = true := by rw [keyT_cD]; rfl
end
def srow (R : Ru) (w : List Pc) : D := .lst ((R.nxt w).map fun p => .tup [Enc.d p.nm, cD (R.beh w p)])
def stD (R : Ru) (ws : List (List Pc)) : List (D × D) := ws.map fun w => (cD w, srow R w)
theorem stD_rD (R : Ru) (ws : List (List Pc)) : stD R ws = rD (srow R) (ws.map fun w => (w, w)) := by simp [stD, rD, Function.comp_def]
theorem look_st {w : List Pc} : ∀ {ws : List (List Pc)}, w ∈ ws → look w (ws.map fun w => (w, w)) = some w
  | a :: ws, h => by
    show (if a = w then some a else look w (ws.map fun w => (w, w))) = _
    by_cases e : a = w
    · rw [if_pos e, e]
    · rw [if_neg e]
      exact look_st ((List.mem_cons.mp h).resolve_left fun z => e z.symm)
theorem lookT_st {R : Ru} {ws : List (List Pc)} (hw : ∀ w ∈ ws, R.In w) {w : List Pc} (h : w ∈ ws) : lookT (kk w) (stD R ws) = some (srow R w) := by
  rw [stD_rD, lookT_rD (R := R) (hw w h), look_st h]
  · rfl
  · intro r hr
    obtain ⟨x, hx, rfl⟩ := List.mem_map.mp hr
    exact hw x hx
theorem putT_st {R : Ru} {ws : List (List Pc)} (hw : ∀ w ∈ ws, R.In w) {w : List Pc} (hi : R.In w) (h : w ∉ ws) : putT (kk w) (cD w) (srow R w) (stD R ws) = stD R (ws ++ [w]) := by
  rw [putT_new]
  · simp [stD]
  · intro p hp
    obtain ⟨x, hx, rfl⟩ := List.mem_map.mp hp
    intro z
    exact h ((keyT_ne (hw x hx) hi).mp z ▸ hx)
theorem tupS_cD (c : List Pc) (p : Pc) : (D.tup ((c.map fun p => Enc.d p.nm) ++ [Enc.d p.nm])) = cD (c ++ [p]) := by simp [cD]
namespace K
theorem f_window_behind (n : Nat) (R : Ru) (w : List Pc) (p : Pc) (hl : w.length ≤ 1000) : callA T (n + 4) (.f i_window_behind) [.d R.d, .d (cD w), .d (Enc.d p.nm)] = ret (.d (cD (R.beh w p))) := by
  rw [callA_f T (n + 3) _ _ rfl]
  simp [runF, B_window_behind, exSs, exS, ev, evs, startS, seq_cD hl, datasOf, small_of (show w.length + 1 ≤ 100000 by omega), tupS_cD, f_window_of, Ru.beh]
theorem f_law_window (n : Nat) (R : Ru) (c : List Pc) : callA T (n + 2) (.f i__law_window) [.d R.parts, .d (cD c)] = ret (.d (cD (R.win c))) := by
  rw [callA_f T (n + 1) _ _ rfl]
  have hr : 0 ≤ R.reach := by have := R.reach_le; omega
  simp [runF, B__law_window, exSs, exS, ev, evs, evT, evI, evO, startS, derefs, f_law_reach, len_cD, binD_sub, max_0' _ _ hr, sl_cD, Ru.win]
end K
end VI

namespace VI
open PySem L2 M
/-! P25: steps_by. -/
theorem two_get0 (s : Sto) (x y : Bx) : (s ++ [x, y])[s.length]? = some x := by simp
theorem two_get1 (s : Sto) (x y : Bx) : (s ++ [x, y])[s.length + 1]? = some y := by simp
theorem two_set0 (s : Sto) (x y z : Bx) : (s ++ [x, y]).set s.length z = s ++ [z, y] := by rw [List.set_append_right _ _ (Nat.le_refl _)]; simp
theorem two_set1 (s : Sto) (x y z : Bx) : (s ++ [x, y]).set (s.length + 1) z = s ++ [x, z] := by rw [List.set_append_right _ _ (by omega)]; simp
theorem len_lstD (xs : List D) : bltD .len [.lst xs] = some (.int xs.length) := rfl
theorem gt_len (a b : Nat) : cmpD .gt (.int a) (.int b) = some (decide (b < a)) := by
  show some (decide ((b : Int) < (a : Int))) = _
  congr 1
  rw [decide_eq_decide]; omega
theorem kids_D (R : Ru) (w : List Pc) : (((R.nxt w).filter fun p => decide (w.length < (R.beh w p).length)).map fun p => cD (R.beh w p)) = (R.kids w).map cD := by
  unfold Ru.kids
  rw [List.filter_map, List.map_map]
  rfl
namespace K
theorem w_steps_0 {n : Nat} {R : Ru} {line : List (List Pc)} {k : Nat} (h : Line R line k) (hk : k < line.length) {s : Sto} {v4 v5 v6 v7 : Option VV} {E : Exc → Sto → Prop} {Q : Fl × Sl → Sto → Prop}
    (q : ∀ w4 w5 w6 w7, Q (.nxt, [some (.d R.d), some (.box s.length), some (.box (s.length + 1)), some (.d (.int (k + 1 : Nat))), w4, w5, w6, w7]) (s ++ [⟨.dic true (stD R ((line ++ R.kids line[k]).take (k + 1))), true⟩, ⟨.lst ((line ++ R.kids line[k]).map cD), true⟩])) :
    Wp E (exSs T (callA T (n + 5)) B_steps_by_0 [some (.d R.d), some (.box s.length), some (.box (s.length + 1)), some (.d (.int (k : Nat))), v4, v5, v6, v7] (s ++ [⟨.dic true (stD R (line.take k)), true⟩, ⟨.lst (line.map cD), true⟩])) Q := by
  have hW : R.W line[k] := h.w _ (List.getElem_mem hk)
  have hl := h.len
  have hw3 := hW.le
  have hps := R.h1
  have hnl : (R.nxt line[k]).length ≤ 6 := by have := List.length_filter_le (fun p => R.may line[k] p) R.ps; unfold Ru.nxt; omega
  have e1 : atI (line.map cD) (k : Int) = some (cD line[k]) := by rw [atI_nat, List.getElem?_map, List.getElem?_eq_getElem hk]; rfl
  have et : (line ++ R.kids line[k]).take (k + 1) = line.take (k + 1) := List.take_append_of_le_length (by omega)
  have et' : line.take k ++ [line[k]] = line.take (k + 1) := by rw [List.take_succ, List.getElem?_eq_getElem hk]; rfl
  have hnm : line[k] ∉ line.take k := by
    intro z
    have := h.nd
    rw [← List.take_append_drop k line, List.nodup_append] at this
    refine this.2.2 _ z _ ?_ rfl
    rw [List.drop_eq_getElem_cons hk]
    exact List.mem_cons_self ..
  have hin : ∀ w ∈ line.take k, R.In w := fun w hw => (h.w w (List.mem_of_mem_take hw)).mem
  have hin' : ∀ w ∈ line.take (k + 1), R.In w := fun w hw => (h.w w (List.mem_of_mem_take hw)).mem
  unfold B_steps_by_0
  refine wp_cons' ?_
  simp [exS, ev, evs, wp_bnd, wp_noExc, setT, setTs, datasOf, wp_getIx_at (two_get1 s _ _), e1, binD_add, small_of]
  refine wp_cons' ?_
  simp [exS, ev, evs, evF, evI, evT, wp_bnd, wp_noExc, setT, wipeS, f_next_by (n + 1) R line[k] hW.mem (by omega), items_cD (show (R.nxt line[k]).length ≤ 1000 by omega)]
  rw [compGo_map (g := fun p : Pc => D.tup [Enc.d p.nm, cD (R.beh line[k] p)]) (fun p _ => by
    simp [f_window_behind (n + 1) R line[k] p (by omega), datasOf, small_of, noExc])]
  simp [wp_bnd, ctZ, wp_putIx_T (two_get0 s _ _) (show (stD R (line.take k)).length ≤ 1000 by simp [stD]; omega)]
  rw [show (D.lst ((R.nxt line[k]).map fun p => D.tup [Enc.d p.nm, cD (R.beh line[k] p)])) = srow R line[k] from rfl, putT_st hin hW.mem hnm, et']
  refine wp_cons' ?_
  have e2 : lookT (kk line[k]) (stD R (line.take (k + 1))) = some (srow R line[k]) := lookT_st hin' (by rw [← et']; exact List.mem_append_right _ (List.mem_singleton.mpr rfl))
  simp [exS, ev, evs, evF, evI, evT, wp_bnd, wp_noExc, wp_isLst_at (two_get1 s _ _), setT, wipeS, wp_getIx_T (two_get0 s _ _) e2]
  rw [show itemsD (srow R line[k]) = some ((R.nxt line[k]).map fun p => D.tup [Enc.d p.nm, cD (R.beh line[k] p)]) from items_lst (by simp; omega)]
  simp [wp_bnd, freeze_d]
  rw [compGo_if (p := fun p : Pc => decide (line[k].length < (R.beh line[k] p).length)) (g := fun p : Pc => cD (R.beh line[k] p)) (fun p _ => by
    simp [setTs, setT, derefs, len_cD, gt_len, noExc]
    by_cases e : line[k].length < (R.beh line[k] p).length
    · simp [e]
    · simp [e])]
  rw [kids_D]
  have hkl : (R.kids line[k]).length ≤ 6 := by
    unfold Ru.kids
    refine Nat.le_trans (List.length_filter_le _ _) ?_
    rw [List.length_map]; exact hnl
  simp [wp_bnd, ctZ, wp_getBox_at (two_get1 s _ _), small_of (show line.length + (R.kids line[k]).length ≤ 100000 by omega), wp_setBox_at (two_get1 s _ _), two_set1]
  have := q (some (.d (cD line[k]))) v5 v6 v7
  rw [et, List.map_append] at this
  simpa [exSs] using this
theorem w_steps_by {n : Nat} {R : Ru} {s : Sto} {E : Exc → Sto → Prop} {Q : VV → Sto → Prop}
    (q : ∀ line t, Line R line line.length → Q (.box s.length) (s ++ ⟨.dic true (stD R line), true⟩ :: t)) : Wp E (callA T (n + 6) (.f i_steps_by) [.d R.d] s) Q := by
  refine wp_callA T (n + 5) i_steps_by _ rfl ?_
  simp only [runF, B_steps_by]
  simp [wp_bnd, startS]
  refine wp_cons' ?_
  simp [exS, ev, evs, evF, wp_bnd, wp_newBox, datasOf, small_of]
  refine wp_cons' ?_
  simp only [exS]
  refine wp_whGo (fun m φ s' => ∃ line k v4 v5 v6 v7, Line R line k ∧ m = 259 - k ∧ φ = [some (.d R.d), some (.box s.length), some (.box (s.length + 1)), some (.d (.int (k : Nat))), v4, v5, v6, v7] ∧ s' = s ++ [⟨.dic true (stD R (line.take k)), true⟩, ⟨.lst (line.map cD), true⟩]) ?_ 1000 259 _ _ (by decide) ⟨[[]], 0, none, none, none, none, .start R, rfl, rfl, rfl⟩
  rintro m φ s' ⟨line, k, v4, v5, v6, v7, h, rfl, rfl, rfl⟩
  have hl := h.len
  have hle := h.le
  simp [evT, ev, evs, derefs, wp_bnd, wp_deref_at (two_get1 s _ _), len_lstD, cmp_lt]
  by_cases hk : k < line.length
  · simp [hk]
    refine w_steps_0 h hk fun w4 w5 w6 w7 => ?_
    exact ⟨259 - (k + 1), by omega, _, k + 1, h.next hk, rfl, ⟨w4, w5, w6, w7, rfl⟩, rfl⟩
  · have : k = line.length := by omega
    subst this
    simp
    refine wp_cons' ?_
    simp [exS, ev]
    exact q line _ h
end K
end VI

namespace VI
open PySem L2 M
/-! P26: how_many_by. -/
def Ru.S (R : Ru) (g : List Pc → Int) (w : List Pc) : Int := ((R.nxt w).map fun p => g (R.beh w p)).sum
def Ru.cntI (R : Ru) (k : Nat) (w : List Pc) : Int := (R.cnt k w : Int)
theorem sum_cast {α : Type} (f : α → Nat) : ∀ l : List α, ((l.map f).sum : Int) = (l.map fun a => (f a : Int)).sum
  | [] => rfl
  | a :: l => by
    rw [List.map_cons, List.sum_cons, List.map_cons, List.sum_cons, ← sum_cast f l]; omega
theorem cnt_S (R : Ru) (k : Nat) : R.S (R.cntI k) = R.cntI (k + 1) := by
  funext w
  exact (sum_cast (fun p => R.cnt k (R.beh w p)) (R.nxt w)).symm
theorem tot_nil (g : List Pc → Int) : tot g [] = 0 := rfl
theorem tot_snoc (g : List Pc → Int) (l : List (List Pc × Int)) (r : List Pc × Int) : tot g (l ++ [r]) = tot g l + r.2 * g r.1 := by
  unfold tot
  rw [List.map_append, List.sum_append]; simp
theorem tot_one {R : Ru} (rows : List (List Pc × Int)) : tot (R.cntI 0) rows = (rows.map (·.2)).sum := by
  unfold tot
  congr 1
  refine List.map_congr_left fun r _ => ?_
  show r.2 * ((1 : Nat) : Int) = r.2
  simp
theorem valsI_rD (l : List (List Pc × Int)) : valsI (.dic true (rD .int l)) = some (l.map (·.2)) := by
  show intsD ((rD .int l).map (·.2)) = _
  induction l with
  | nil => rfl
  | cons r l ih =>
    show intsD (.int r.2 :: (rD .int l).map (·.2)) = _
    rw [intsD, ih]; rfl
theorem lookI {R : Ru} {rows : List (List Pc × Int)} (hg : Good R rows) {w : List Pc} (hw : R.W w) : (lookT (kk w) (rD .int rows)).getD (.int 0) = .int ((look w rows).getD 0) := by
  rw [lookT_rD hw.mem hg.in_]
  cases look w rows <;> rfl
theorem putI {R : Ru} {rows : List (List Pc × Int)} (hg : Good R rows) {w : List Pc} (hw : R.W w) (m : Int) : putT (kk w) (cD w) (.int m) (rD .int rows) = rD .int (put w m rows) := putT_rD hw.mem hg.in_ hg.nd
theorem rD_len {β : Type} (f : β → D) (rows : List (List Pc × β)) : (rD f rows).length = rows.length := by simp [rD]
/-- what is done in a loop upon one box alone -/
structure Only (u : Nat) (s s' : Sto) : Prop where
  len : s'.length = s.length
  oth : ∀ i, i ≠ u → s'[i]? = s[i]?
theorem Only.refl (u : Nat) (s : Sto) : Only u s s := ⟨rfl, fun _ _ => rfl⟩
theorem Only.trans {u : Nat} {a b c : Sto} (h : Only u a b) (k : Only u b c) : Only u a c := ⟨k.len.trans h.len, fun i hi => (k.oth i hi).trans (h.oth i hi)⟩
theorem Only.set {u : Nat} {a b : Sto} (h : Only u a b) (x : Bx) : Only u a (b.set u x) := ⟨by rw [List.length_set]; exact h.len, fun i hi => by rw [List.getElem?_set_ne (fun e => hi e.symm)]; exact h.oth i hi⟩
theorem Only.up {u : Nat} {z a b : Sto} (h : Only u a b) (hz : Up z a) (hu : z.length ≤ u) : Up z b := by
  obtain ⟨t, rfl⟩ := hz
  refine ⟨b.drop z.length, ?_⟩
  apply List.ext_getElem?
  intro i
  by_cases hi : i < z.length
  · rw [List.getElem?_append_left hi, h.oth i (by omega), List.getElem?_append_left hi]
  · rw [List.getElem?_append_right (by omega), List.getElem?_drop]
    congr 1; omega
namespace K
/-- one more is counted -/
theorem w_inc {n i j : Nat} {R : Ru} {rows : List (List Pc × Int)} {v : List Pc} {m : Int} {e : Ex} {φ : Sl} {s : Sto} {u : Nat} {E : Exc → Sto → Prop} {Q : Fl × Sl → Sto → Prop} (hg : Good R rows) (hv : R.W v)
    (hi : φ[i]? = some (some (.box u))) (hj : φ[j]? = some (some (.d (cD v)))) (hu : s[u]? = some ⟨.dic true (rD .int rows), true⟩) (he : ev T (callA T n) e φ s = .ok (.d (.int m)) s)
    (q : Q (.nxt, φ) (s.set u ⟨.dic true (rD .int (put v ((look v rows).getD 0 + m) rows)), true⟩)) :
    Wp E (exS T (callA T n) (.asg (.sub (.var i) (.var j)) (.bin .add (.get2 (.var i) (.var j) (.cst (.int 0))) e)) φ s) Q := by
  have hl := hg.len
  simp [exS, ev, wp_bnd, wp_noExc, setT, hi, hj, wp_isDic hu, wp_deref_dic hu, getOr_T, lookI hg hv, he]
  simp [binD_add, wp_bnd, wp_noExc, wp_putIx_T hu (show (rD D.int rows).length ≤ 1000 by rw [rD_len]; omega), putI hg hv]
  exact q
theorem w_hmb_1 {n : Nat} {R : Ru} {line : List (List Pc)} {b u c : Nat} {w h : List Pc} {m k : Int} {rows : List (List Pc × Int)} {v4 v8 : Option VV} {s : Sto} {E : Exc → Sto → Prop} {Q : Fl × Sl → Sto → Prop}
    (hL : Line R line line.length) (hb : s[b]? = some ⟨.dic true (stD R line), true⟩) (hbu : b ≠ u) (hh : R.W h) (hg : Good R rows) (hu : s[u]? = some ⟨.dic true (rD .int rows), true⟩)
    (q : ∀ rows' w4 w8 s', Good R rows' → s'[u]? = some ⟨.dic true (rD .int rows'), true⟩ → Only u s s' → (∀ g, tot g rows' = tot g rows + m * R.S g h) →
      Q (.nxt, [some (.box b), some (.d (cD w)), some (.d (.int k)), some (.box c), w4, some (.box u), some (.d (cD h)), some (.d (.int m)), w8]) s') :
    Wp E (exSs T (callA T n) B_how_many_by_1 [some (.box b), some (.d (cD w)), some (.d (.int k)), some (.box c), v4, some (.box u), some (.d (cD h)), some (.d (.int m)), v8] s) Q := by
  have hps := R.h1
  have hnl : (R.nxt h).length ≤ 6 := by have := List.length_filter_le (fun p => R.may h p) R.ps; unfold Ru.nxt; omega
  have e2 : lookT (kk h) (stD R line) = some (srow R h) := lookT_st (fun w hw => (hL.w w hw).mem) (hL.full _ rfl hh)
  unfold B_how_many_by_1
  refine wp_cons' ?_
  simp [exS, ev, evI, wp_bnd, wp_getIx_T hb e2]
  rw [show itemsD (srow R h) = some ((R.nxt h).map fun p => D.tup [Enc.d p.nm, cD (R.beh h p)]) from items_lst (by simp; omega)]
  simp
  refine wp_forGo (fun rest φ s' => ∃ done rst rows' w4 w8, done ++ rst = R.nxt h ∧ rest = rst.map (fun p => D.tup [Enc.d p.nm, cD (R.beh h p)]) ∧
    φ = [some (.box b), some (.d (cD w)), some (.d (.int k)), some (.box c), w4, some (.box u), some (.d (cD h)), some (.d (.int m)), w8] ∧ Good R rows' ∧ s'[u]? = some ⟨.dic true (rD .int rows'), true⟩ ∧ Only u s s' ∧
    (∀ g, tot g rows' = tot g rows + m * (done.map fun p => g (R.beh h p)).sum)) ?_ ?_ _ _ _ ⟨[], R.nxt h, rows, v4, v8, rfl, rfl, rfl, hg, hu, .refl u s, fun g => by simp⟩
  · rintro x rest φ s' ⟨done, rst, rows', w4, w8, h1, h2, rfl, hg', hu', ho, ht⟩
    cases rst with
    | nil => cases h2
    | cons p rst =>
      obtain ⟨rfl, rfl⟩ := List.cons.inj h2
      have hp : p ∈ R.nxt h := by rw [← h1]; simp
      have hW := hh.beh hp
      simp [wp_bnd, wp_noExc, setT, setTs, B_how_many_by_0]
      refine wp_cons' ?_
      refine w_inc hg' hW rfl rfl hu' (m := m) rfl ?_
      simp [exSs]
      refine ⟨done ++ [p], rst, by simpa using h1, rfl, put (R.beh h p) ((look (R.beh h p) rows').getD 0 + m) rows', hg'.put hW _, ?_, ho.set _, fun g => ?_⟩
      · have := get_set_self hu' (y := ⟨.dic true (rD .int (put (R.beh h p) ((look (R.beh h p) rows').getD 0 + m) rows')), true⟩)
        simpa using this
      · rw [put_tot, ht, List.map_append, List.sum_append, Int.mul_add, Int.add_assoc]; simp
  · rintro φ s' ⟨done, rst, rows', w4, w8, h1, h2, rfl, hg', hu', ho, ht⟩
    have : rst = [] := by cases rst with | nil => rfl | cons _ _ => cases h2
    subst this
    rw [List.append_nil] at h1
    subst h1
    exact q rows' w4 w8 s' hg' hu' ho ht
end K
end VI

namespace VI
open PySem L2 M
/-! P27: how_many. -/
theorem pairs_rD (rows : List (List Pc × Int)) (h : rows.length ≤ 259) : pairsOf (.fdic true (rD .int rows)) = some (rows.map fun r => D.tup [cD r.1, .int r.2]) := by
  show (if small (rD D.int rows).length then some ((rD D.int rows).map fun p => D.tup [p.1, p.2]) else none) = _
  rw [if_pos (small_of (by rw [rD_len]; omega))]
  simp [rD, Function.comp_def]
theorem keys_rD (rows : List (List Pc × Int)) (h : rows.length ≤ 259) : keysOf (.fdic true (rD .int rows)) = some (rows.map fun r => cD r.1) := by
  show (if small (rD D.int rows).length then some ((rD D.int rows).map (·.1)) else none) = _
  rw [if_pos (small_of (by rw [rD_len]; omega))]
  simp [rD, Function.comp_def]
theorem Only.get {u i : Nat} {s s' : Sto} {x : Bx} (h : Only u s s') (hi : s[i]? = some x) (hn : i ≠ u) : s'[i]? = some x := (h.oth i hn).trans hi
namespace K
theorem w_hmb_2 {n : Nat} {R : Ru} {line : List (List Pc)} {b c : Nat} {w : List Pc} {k : Int} {rows : List (List Pc × Int)} {v4 v5 v6 v7 v8 : Option VV} {s0 s : Sto} {E : Exc → Sto → Prop} {Q : Fl × Sl → Sto → Prop}
    (hL : Line R line line.length) (hb : s0[b]? = some ⟨.dic true (stD R line), true⟩) (hU : Up s0 s) (hc0 : s0.length ≤ c) (hg : Good R rows) (hc : s[c]? = some ⟨.dic true (rD .int rows), true⟩)
    (q : ∀ rows' u w4 w6 w7 w8 s', Good R rows' → s'[u]? = some ⟨.dic true (rD .int rows'), true⟩ → Up s0 s' → s0.length ≤ u → (∀ g, tot g rows' = tot (R.S g) rows) →
      Q (.nxt, [some (.box b), some (.d (cD w)), some (.d (.int k)), some (.box u), w4, some (.box u), w6, w7, w8]) s') :
    Wp E (exSs T (callA T n) B_how_many_by_2 [some (.box b), some (.d (cD w)), some (.d (.int k)), some (.box c), v4, v5, v6, v7, v8] s) Q := by
  have hl := hg.len
  have hb0 := (List.getElem?_eq_some_iff.mp hb).1
  have hcl := (List.getElem?_eq_some_iff.mp hc).1
  have hul := hU.len
  unfold B_how_many_by_2
  refine wp_cons' ?_
  simp [exS, ev, evF, wp_bnd, wp_newBox, wp_noExc, setT]
  refine wp_cons' ?_
  have hc1 : (s ++ [(⟨.dic true [], true⟩ : Bx)])[c]? = some ⟨.dic true (rD .int rows), true⟩ := by rw [List.getElem?_append_left hcl]; exact hc
  simp only [exS]
  simp [evI, ev, wp_bnd, wp_freezeL hc1, pairs_rD rows hl]
  have hs1 : ((s ++ [(⟨.dic true [], true⟩ : Bx)]).set c ⟨.fdic true (rD .int rows), false⟩)[s.length]? = some ⟨.dic true (rD .int ([] : List (List Pc × Int))), true⟩ := by
    rw [List.getElem?_set_ne (by omega)]; simp [rD]
  have hU1 : Up s0 ((s ++ [(⟨.dic true [], true⟩ : Bx)]).set c ⟨.fdic true (rD .int rows), false⟩) := (hU.trans (Up.add s _)).set hc0 _
  refine wp_forGo (fun rest φ s' => ∃ done rst rows' w4 w6 w7 w8, done ++ rst = rows ∧ rest = rst.map (fun r => D.tup [cD r.1, .int r.2]) ∧
    φ = [some (.box b), some (.d (cD w)), some (.d (.int k)), some (.box c), w4, some (.box s.length), w6, w7, w8] ∧ Good R rows' ∧ s'[s.length]? = some ⟨.dic true (rD .int rows'), true⟩ ∧ Up s0 s' ∧
    (∀ g, tot g rows' = tot (R.S g) done)) ?_ ?_ _ _ _ ⟨[], rows, [], v4, v6, v7, v8, rfl, rfl, rfl, .nil R, hs1, hU1, fun g => rfl⟩
  · rintro x rest φ s' ⟨done, rst, rows', w4, w6, w7, w8, h1, h2, rfl, hg', hu', hU', ht⟩
    cases rst with
    | nil => cases h2
    | cons r rst =>
      obtain ⟨rfl, rfl⟩ := List.cons.inj h2
      have hW : R.W r.1 := hg.w r (by rw [← h1]; simp)
      simp [wp_bnd, wp_noExc, setT, setTs]
      refine w_hmb_1 hL (hU'.get hb) (by omega) hW hg' hu' fun rows2 w4' w8' s2 hg2 hu2 ho ht2 => ?_
      refine ⟨done ++ [r], rst, by simpa using h1, rfl, ⟨_, _, _, _, rfl⟩, rows2, hg2, hu2, ho.up hU' hul, fun g => ?_⟩
      rw [ht2, ht, tot_snoc]
  · rintro φ s' ⟨done, rst, rows', w4, w6, w7, w8, h1, h2, rfl, hg', hu', hU', ht⟩
    have : rst = [] := by cases rst with | nil => rfl | cons _ _ => cases h2
    subst this
    rw [List.append_nil] at h1
    subst h1
    show Wp E (exSs T (callA T n) _ _ s') Q
    refine wp_cons' ?_
    simp [exS, ev, wp_bnd, wp_noExc, setT, exSs]
    exact q rows' _ _ _ _ _ s' hg' hu' hU' hul ht
theorem w_how_many_by {n : Nat} {R : Ru} {line : List (List Pc)} {b k : Nat} {w : List Pc} {s : Sto} {E : Exc → Sto → Prop} {Q : VV → Sto → Prop} (hL : Line R line line.length)
    (hb : s[b]? = some ⟨.dic true (stD R line), true⟩) (hw : R.W w) (hk : k ≤ 1000) (q : ∀ s', Up s s' → Q (.d (.int (R.cnt k w))) s') :
    Wp E (callA T (n + 1) (.f i_how_many_by) [.box b, .d (cD w), .d (.int k)] s) Q := by
  refine wp_callA T n i_how_many_by _ rfl ?_
  simp only [runF, B_how_many_by]
  simp [wp_bnd, startS]
  refine wp_cons' ?_
  simp [exS, ev, evF, wp_bnd, wp_newBox, wp_noExc, setT, keyT_some]
  refine wp_cons' ?_
  simp only [exS]
  simp [evI, ev, wp_bnd, rngOk_of (show (-1000000 : Int) ≤ k ∧ (k : Int) ≤ 1000000 by omega), rng0]
  refine wp_forGo (fun rest φ s' => ∃ rows c v4 v5 v6 v7 v8, φ = [some (.box b), some (.d (cD w)), some (.d (.int k)), some (.box c), v4, v5, v6, v7, v8] ∧ Good R rows ∧ s'[c]? = some ⟨.dic true (rD .int rows), true⟩ ∧ Up s s' ∧ s.length ≤ c ∧
    tot (R.cntI rest.length) rows = R.cntI k w) ?_ ?_ _ _ _ ⟨[(w, 1)], s.length, none, none, none, none, none, rfl, ⟨by simp, fun r hr => by rw [List.mem_singleton] at hr; rw [hr]; exact hw⟩, by simp [rD], Up.add s _, Nat.le_refl _, by simp [tot]⟩
  · rintro x rest φ s' ⟨rows, c, v4, v5, v6, v7, v8, rfl, hg, hc, hU, hc0, ht⟩
    simp [wp_bnd, wp_noExc, setT]
    refine w_hmb_2 hL hb hU hc0 hg hc fun rows' u w4 w6 w7 w8 s2 hg2 hu2 hU2 hu0 ht2 => ?_
    refine ⟨rows', u, ⟨_, _, _, _, _, rfl⟩, hg2, hu2, hU2, hu0, ?_⟩
    rw [ht2, cnt_S]
    rw [List.length_cons] at ht
    exact ht
  · rintro φ s' ⟨rows, c, v4, v5, v6, v7, v8, rfl, hg, hc, hU, hc0, ht⟩
    show Wp E (exSs T (callA T n) _ _ s') _
    refine wp_cons' ?_
    have e : (rows.map (·.2)).sum = (R.cnt k w : Int) := by rw [← tot_one (R := R)]; exact ht
    simp [exS, ev, wp_bnd, wp_deref_dic hc, valsI_rD, e]
    exact q s' hU
theorem f_check_slots (n k : Nat) (hk : k ≤ 60) : callA T (n + 4) (.f i_check_slots) [.d (.int k)] = ret (.d .non) := by
  rw [callA_f T (n + 3) _ _ rfl]
  have e : callA T (n + 3) (.f i_check_number) [.d (.int k), .d (.int 0), .d (.int 60)] = ret (.d .non) := by
    rw [callA_f T (n + 2) _ _ rfl]
    have h1 : ¬ (60 : Int) < (k : Int) := by omega
    simp [runF, B_check_number, exSs, exS, ev, evs, evT, startS, f_is_between, h1]
  simp [runF, B_check_slots, exSs, exS, ev, evs, startS, cs7, e]
theorem g_how_many (n : Nat) (R : Ru) (c : List Pc) (k : Nat) (hc : R.Law c) (hl : c.length ≤ 60) (hk : k ≤ 60) : Gw (callA T (n + 7) (.f i_how_many) [.d R.d, .d (cD c), .d (.int k)]) (.d (.int (R.cnt k c))) := by
  rw [callA_f T (n + 6) _ _ rfl]
  refine .of fun s => ?_
  simp [runF, B_how_many, exSs, exS, ev, evs, startS, f_check_course _ R c hc hl, f_check_slots _ k hk, wp_bnd]
  refine w_steps_by fun line t hL => ?_
  simp [wp_bnd, f_window_of]
  refine w_how_many_by (n := n + 5) hL (b := s.length) (by simp) (Ru.win_W hc) (by omega) fun s' hU => ?_
  rw [cnt_win]
  simp
  obtain ⟨u, rfl⟩ := hU
  exact ⟨_, by simp; rfl⟩
end K
end VI

namespace VI
open PySem L2 M
/-! WN (wells): drawn names. -/
theorem cutS_suf (z : Str) (k : Nat) : cutS z (some (k : Int)) none = ⟨(z.cps.toList.drop k).toArray⟩ := by
  have hz : z.length = z.cps.toList.length := by simp [Str.length]
  unfold cutS
  rw [HT.sIx_none, HT.sIx_nat]
  congr 2
  by_cases h : k ≤ z.length
  · rw [Nat.min_eq_left h]
    rw [List.take_of_length_le (by rw [List.length_drop]; omega)]
  · rw [Nat.min_eq_right (by omega), List.drop_of_length_le (by omega), List.drop_of_length_le (by omega), List.take_nil]
theorem lts_suf {z : Str} (k : Nat) (h : Lts z) : Lts (cutS z (some (k : Int)) none) := by
  rw [cutS_suf]
  intro c hc
  exact h c (List.mem_of_mem_drop (by simpa using hc))
theorem len_suf (z : Str) (k : Nat) : (cutS z (some (k : Int)) none).length = z.length - k := by
  rw [cutS_suf]
  simp [Str.length]
theorem slD_suf {z : Str} {k : Nat} (h : z.length ≤ 100000) : slD (.str z) (some (k : Int)) none = some (.str (cutS z (some (k : Int)) none)) := if_pos (decide_eq_true h)
theorem abc_at : ∀ k : Nat, k < 12 → ixD (.str "abcdefghijklmnopqrstuvwxyz") (.int k) = some (.str ⟨#[97 + k]⟩)
  | 0, _ => rfl | 1, _ => rfl | 2, _ => rfl | 3, _ => rfl | 4, _ => rfl | 5, _ => rfl | 6, _ => rfl | 7, _ => rfl | 8, _ => rfl | 9, _ => rfl | 10, _ => rfl | 11, _ => rfl
  | k + 12, h => absurd h (by omega)
/-- the name with the letter of its turn -/
def putIn (f : Str) (at_ k : Nat) : Str := cutS f none (some (at_ : Int)) ++ ⟨#[97 + k]⟩ ++ cutS f (some (at_ : Int)) none
theorem putIn_len (f : Str) (at_ k : Nat) : (putIn f at_ k).length = f.length + 1 := by
  unfold putIn
  rw [len_app, len_app, len_cut, len_suf]
  show min at_ f.length + 1 + (f.length - at_) = _
  omega
theorem app_list (a b : Str) : (a ++ b).cps.toList = a.cps.toList ++ b.cps.toList := by show (a.cps ++ b.cps).toList = _; simp
theorem putIn_has (f : Str) (at_ k : Nat) : 97 + k ∈ (putIn f at_ k).cps.toList := by
  unfold putIn
  rw [app_list, app_list]
  simp
theorem putIn_lts {f : Str} (at_ : Nat) {k : Nat} (h : Lts f) (hk : k < 12) : Lts (putIn f at_ k) := lts_app (lts_app (lts_cut _ h) (lts_chr (by omega))) (lts_suf _ h)
theorem cand_has : ∀ k : Nat, k < 12 → 97 + k ∈ (candS k).cps.toList := by decide +kernel
theorem cand_only : ∀ k : Nat, k < 12 → ∀ c ∈ (candS k).cps.toList, c = 97 + k := by decide +kernel
/-- each name has the letter of its turn -/
structure Turns (ns : List Nm) : Prop where
  nd : ns.Nodup
  has : ∀ (i : Nat) (x : Nm), ns[i]? = some x → 97 + i ∈ x.s.cps.toList
theorem Turns.nil : Turns [] := ⟨List.nodup_nil, fun i x h => by simp at h⟩
theorem Turns.snoc {ns : List Nm} (h : Turns ns) {x : Nm} (hx : x ∉ ns) (e : 97 + ns.length ∈ x.s.cps.toList) : Turns (ns ++ [x]) := by
  refine ⟨?_, fun i y hy => ?_⟩
  · rw [List.nodup_append]
    refine ⟨h.nd, by simp, fun a ha b hb e => ?_⟩
    rw [List.mem_singleton] at hb
    exact hx (hb ▸ e ▸ ha)
  · by_cases hi : i < ns.length
    · rw [List.getElem?_append_left hi] at hy
      exact h.has i y hy
    · have hl := (List.getElem?_eq_some_iff.mp hy).1
      rw [List.length_append, List.length_singleton] at hl
      have : i = ns.length := by omega
      subst this
      simp at hy
      subst hy; exact e
theorem Turns.cand_new {ns : List Nm} (h : Turns ns) (hk : ns.length < 12) : cand ns.length hk ∉ ns := fun hm => by
  obtain ⟨i, hi, e⟩ := List.getElem_of_mem hm
  have := h.has i _ (List.getElem?_eq_some_iff.mpr ⟨hi, e⟩)
  have := cand_only ns.length hk _ this
  omega
/-- the name that is taken -/
theorem pick_name {f : Str} {ns : List Nm} {at_ : Nat} (ht : Turns ns) (hk : ns.length < 12) (hf : Lts f) (hl : f.length ≤ 7) :
    ∃ nm : Nm, nm ∉ ns ∧ 97 + ns.length ∈ nm.s.cps.toList ∧ (∃ b1 b2, cmpD .isin (.str (putIn f at_ ns.length)) (.lst (ns.map Enc.d)) = some b1 ∧ cmpD .isin (.str (putIn f at_ ns.length)) (.lst (wordsS.map .str)) = some b2 ∧ (if b1 || b2 then candS ns.length else putIn f at_ ns.length) = nm.s) := by
  have hlen := putIn_len f at_ ns.length
  let w : Lw := ⟨putIn f at_ ns.length, ⟨by show 1 ≤ (putIn f at_ ns.length).length ∧ (putIn f at_ ns.length).length ≤ 8; omega, putIn_lts at_ hf hk⟩⟩
  have e1 : cmpD .isin (.str w.s) (.lst (ns.map Enc.d)) = some (decide (w ∈ ns.map Nm.toLw)) := inD_nmL w ns
  have e2 : cmpD .isin (.str w.s) (.lst (wordsS.map .str)) = some (decide (w.s ∈ wordsS)) := by
    have h := inD_encL (α := Lw) (Nat.zero_le _) w wordsL
    have e : wordsL.map Enc.d = wordsS.map D.str := by rw [← wordsL_s, List.map_map]; rfl
    rw [e] at h
    show inD (.str w.s) (.lst (wordsS.map .str)) = _
    refine Eq.trans h ?_
    congr 1
    rw [decide_eq_decide, ← wordsL_s, List.mem_map]
    exact ⟨fun h => ⟨w, h, rfl⟩, fun ⟨a, h1, h2⟩ => Lw.ext' h2 ▸ h1⟩
  by_cases h1 : w ∈ ns.map Nm.toLw
  · exact ⟨cand ns.length hk, ht.cand_new hk, cand_has _ hk, _, _, e1, e2, by simp [h1]; rfl⟩
  · by_cases h2 : w.s ∈ wordsS
    · exact ⟨cand ns.length hk, ht.cand_new hk, cand_has _ hk, _, _, e1, e2, by simp [h2]; rfl⟩
    · exact ⟨⟨w, h2⟩, fun hm => h1 (List.mem_map.mpr ⟨_, hm, rfl⟩), putIn_has _ _ _, _, _, e1, e2, by simp [h1, h2, w]⟩
namespace K
theorem w_of_abc {n p : Nat} {β : Sto} {E : Exc → Sto → Prop} {Q : VV → Sto → Prop} (h : PoolAt β p) (q : ∀ c β', (97 ≤ c ∧ c ≤ 122) → Ch p β β' → Q (.d (.str ⟨#[c]⟩)) β') :
    Wp E (callA T (n + 2) (.f i__law_of) [.box p, .d (.str "abcdefghijklmnopqrstuvwxyz")] β) Q := by
  refine wp_callA T (n + 1) i__law_of _ rfl ?_
  have el : bltD .len [.str "abcdefghijklmnopqrstuvwxyz"] = some (.int 26) := by
    show (if small abc.length then some abc.length else none).map (fun n : Nat => D.int (n : Int)) = _
    rw [abc_len]; rfl
  simp [runF, B__law_of, exSs, exS, ev, evs, startS, wp_bnd, derefs, el]
  refine w_draw h (by decide) (by decide) fun r β' hr hr' c => ?_
  obtain ⟨k, e, hk⟩ := ix_abc hr hr'
  simp [wp_bnd, getIx_str, e]
  exact q k β' hk c
theorem w_names_0 {n p : Nat} {v1 v3 v4 x6 x7 x8 : Option VV} {E : Exc → Sto → Prop} {Q : Fl × Sl → Sto → Prop} {xs : List D} {f : Str} {β : Sto} (h : PoolAt β p) (hf : Lts f) (hl : f.length + xs.length ≤ 1000)
    (q : ∀ f' y7 β', Lts f' → f'.length = f.length + xs.length → Ch p β β' → Q (.nxt, [some (.box p), v1, some (.d (.str "abcdefghijklmnopqrstuvwxyz")), v3, v4, some (.d (.str f')), x6, y7, x8]) β') :
    Wp E (forGo (fun x φ => exSs T (callA T (n + 2)) B__law_names_0 (List.set φ 7 (some (.d x)))) xs [some (.box p), v1, some (.d (.str "abcdefghijklmnopqrstuvwxyz")), v3, v4, some (.d (.str f)), x6, x7, x8] β) Q := by
  refine wp_forGo (fun rest φ s => ∃ f' y7, φ = [some (.box p), v1, some (.d (.str "abcdefghijklmnopqrstuvwxyz")), v3, v4, some (.d (.str f')), x6, y7, x8] ∧ Lts f' ∧ f'.length + rest.length = f.length + xs.length ∧ Ch p β s) ?_ ?_ xs _ β ⟨f, x7, rfl, hf, rfl, .refl h⟩
  · rintro x rest φ s ⟨f', y5, rfl, hf', hl', c⟩
    rw [List.length_cons] at hl'
    simp [wp_bnd, setT, B__law_names_0, exSs, exS, ev, evs]
    refine w_of_abc c.pool fun k β1 hk c1 => ?_
    have hb : binD .add (.str f') (.str ⟨#[k]⟩) = some (.str (f' ++ ⟨#[k]⟩)) := binD_str (by show f'.length + 1 ≤ 100000; omega)
    have hlen : (f' ++ (⟨#[k]⟩ : Str)).length = f'.length + 1 := len_app f' ⟨#[k]⟩
    simp [wp_bnd, hb, setT]
    exact ⟨lts_app hf' (lts_chr hk), by rw [hlen]; omega, c.trans c1⟩
  · rintro φ s ⟨f', y5, rfl, hf', hl', c⟩
    exact q f' y5 s hf' hl' c
theorem w_names_1 {n p u : Nat} {ns : List Nm} {v1 v5 v6 v7 v8 : Option VV} {E : Exc → Sto → Prop} {Q : Fl × Sl → Sto → Prop} {β : Sto} (h : PoolAt β p) (hu : β[u]? = some ⟨.lst (ns.map Enc.d), true⟩) (hup : u ≠ p) (ht : Turns ns) (hn : ns.length < 12)
    (q : ∀ (nm : Nm) y5 y6 y7 y8 β', nm ∉ ns → 97 + ns.length ∈ nm.s.cps.toList → Ch p β β' → Q (.nxt, [some (.box p), v1, some (.d (.str "abcdefghijklmnopqrstuvwxyz")), some (.box u), some (.d (.int (ns.length : Nat))), y5, y6, y7, y8]) (β'.set u ⟨.lst ((ns ++ [nm]).map Enc.d), true⟩)) :
    Wp E (exSs T (callA T (n + 2)) B__law_names_1 [some (.box p), v1, some (.d (.str "abcdefghijklmnopqrstuvwxyz")), some (.box u), some (.d (.int (ns.length : Nat))), v5, v6, v7, v8] β) Q := by
  unfold B__law_names_1
  refine wp_cons' ?_
  simp [exS, ev, evs, wp_bnd, datasOf, small_of]
  refine w_of_tup h (by simp) (by decide) fun x s1 hx c1 => ?_
  obtain ⟨k, rfl, hk2⟩ : ∃ k : Nat, x = .int (k : Int) ∧ k ≤ 7 := by
    simp at hx
    rcases hx with rfl | rfl | rfl | rfl | rfl
    · exact ⟨0, rfl, by decide⟩
    · exact ⟨1, rfl, by decide⟩
    · exact ⟨2, rfl, by decide⟩
    · exact ⟨3, rfl, by decide⟩
    · exact ⟨7, rfl, by decide⟩
  have hrk : rngOk (k : Int) = true := decide_eq_true (by omega)
  refine wp_cons' ?_
  simp [exS, evI, ev, wp_bnd, hrk]
  have hlen : (rngD 0 k).length = k := by rw [rngD_eq]; simp
  have e0 : (Str.ofString "").length = 0 := by decide +kernel
  have l0 : Lts (Str.ofString "") := by unfold Lts; decide +kernel
  simp [setT, wp_noExc, wp_bnd]
  refine w_names_0 c1.pool l0 (by rw [hlen, e0]; omega) fun f y7 s2 hf hl c2 => ?_
  rw [hlen, e0, Nat.zero_add] at hl
  have c2 := c1.trans c2
  refine wp_cons' ?_
  simp [exS, ev, evs, wp_bnd, binD_add, setT, wp_noExc]
  refine w_draw c2.pool (by omega) (by omega) fun r s3 h0 h1 c3 => ?_
  obtain ⟨a, rfl⟩ := Int.eq_ofNat_of_zero_le h0
  have c3 := c2.trans c3
  have hfl : f.length ≤ 7 := by omega
  obtain ⟨nm, hnm, hhas, b1, b2, e1, e2, e3⟩ := pick_name (at_ := a) ht hn hf hfl
  have s1' := slD_pre (z := f) (k := a) (by omega)
  have s2' := slD_suf (z := f) (k := a) (by omega)
  have ea := abc_at ns.length hn
  have l1 : (cutS f none (some (a : Int))).length ≤ 7 := by rw [len_cut]; omega
  have l2 : (cutS f (some (a : Int)) none).length ≤ 7 := by rw [len_suf]; omega
  have a1 : binD .add (.str (cutS f none (some (a : Int)))) (.str ⟨#[97 + ns.length]⟩) = some (.str (cutS f none (some (a : Int)) ++ ⟨#[97 + ns.length]⟩)) := binD_str (by show _ + 1 ≤ 100000; omega)
  have a2 : binD .add (.str (cutS f none (some (a : Int)) ++ ⟨#[97 + ns.length]⟩)) (.str (cutS f (some (a : Int)) none)) = some (.str (putIn f a ns.length)) := binD_str (by rw [len_app]; show _ + 1 + _ ≤ 100000; omega)
  refine wp_cons' ?_
  simp [exS, ev, evs, evO, wp_bnd, setT, wp_noExc, s1', s2', getIx_str, ea, a1, a2]
  have hu2 := (c3.oth u hup (List.getElem?_eq_some_iff.mp hu).1).trans hu
  have hm := cand_mul ns.length hn
  refine wp_cons' ?_
  have hs : small ns.length = true := small_of (by omega)
  simp [exS, ev, evs, evT, wp_bnd, wp_isLst_at hu2, wp_deref_at hu2, e1, f_words, e2]
  have fin : ∀ st : Str, st = nm.s → Wp E (exSs T (callA T (n + 2)) .nil [some (.box p), v1, some (.d (.str "abcdefghijklmnopqrstuvwxyz")), some (.box u), some (.d (.int (ns.length : Nat))), some (.d (.str (putIn f a ns.length))), some (.d (.int k)), y7, some (.d (.int a))] (s3.set u ⟨.lst (ns.map Enc.d ++ [.str st]), true⟩)) Q := fun st est => by
    have := q nm (some (.d (.str (putIn f a ns.length)))) (some (.d (.int k))) y7 (some (.d (.int a))) s3 hnm hhas c3
    rw [List.map_append] at this
    subst est
    exact this
  cases b1 with
  | true =>
    simp [wp_bnd, getIx_str, ea, hm, wp_getBox_at hu2, hs, wp_setBox_at hu2]
    exact fin _ e3
  | false =>
    cases b2 with
    | true =>
      simp [wp_bnd, getIx_str, ea, hm, wp_getBox_at hu2, hs, wp_setBox_at hu2]
      exact fin _ e3
    | false =>
      simp [wp_bnd, wp_getBox_at hu2, hs, wp_setBox_at hu2]
      exact fin _ e3
theorem w_names {n p m : Nat} {E : Exc → Sto → Prop} {Q : VV → Sto → Prop} {β : Sto} (h : PoolAt β p) (hm : m ≤ 12)
    (q : ∀ (ns : List Nm) β', ns.length = m → ns.Pairwise (fun a b => ltE a b = true) → Ch p β β' → Q (.d (.tup (ns.map Enc.d))) β') : Wp E (callA T (n + 3) (.f i__law_names) [.box p, .d (.int m)] β) Q := by
  refine wp_callA T (n + 2) i__law_names _ rfl ?_
  have hp := h.lt
  simp only [runF, B__law_names]
  simp [wp_bnd, startS]
  refine wp_cons' ?_
  simp [exS, ev, evs, evF, wp_bnd, wp_newBox, datasOf, small_of]
  refine wp_cons' ?_
  simp [exS, evI, ev, wp_bnd, rngOk_of (show (-1000000 : Int) ≤ m ∧ (m : Int) ≤ 1000000 by omega)]
  refine wp_forGo (fun rest φ s => ∃ ns v4 v5 v6 v7 v8, φ = [some (.box p), some (.d (.int m)), some (.d (.str "abcdefghijklmnopqrstuvwxyz")), some (.box β.length), v4, v5, v6, v7, v8] ∧ s[β.length]? = some ⟨.lst (ns.map Enc.d), true⟩ ∧ Turns ns ∧ ns.length ≤ m ∧ rest = rngD (ns.length : Int) (m - ns.length) ∧ Ch p β s) ?_ ?_ _ _ _ ⟨[], none, none, none, none, none, rfl, by simp, .nil, Nat.zero_le _, by simp, .new h _⟩
  · rintro x rest φ s ⟨ns, v4, v5, v6, v7, v8, rfl, hu, ht, hl, hr', c⟩
    obtain ⟨d, hd⟩ : ∃ d, m - ns.length = d + 1 := by
      cases e : m - ns.length with
      | zero => rw [e] at hr'; cases hr'
      | succ d => exact ⟨d, rfl⟩
    rw [hd, rngD] at hr'
    obtain ⟨rfl, rfl⟩ := List.cons.inj hr'
    simp only [setT, bnd_ret, noExc_ret, List.set]
    refine w_names_1 c.pool hu (by omega) ht (by omega) fun nm y5 y6 y7 y8 s' hnm hhas c' => ?_
    have hlt : β.length < s.length := (List.getElem?_eq_some_iff.mp hu).1
    refine ⟨ns ++ [nm], _, _, _, _, _, rfl, by rw [List.getElem?_set_self (Nat.lt_of_lt_of_le hlt c'.len)], ht.snoc hnm hhas, by simp; omega, ?_, (c.trans c').setO _ (Nat.le_refl _) hp⟩
    rw [List.length_append, List.length_singleton, show m - (ns.length + 1) = d by omega]
    rfl
  · rintro φ s ⟨ns, v4, v5, v6, v7, v8, rfl, hu, ht, hl, hr', c⟩
    have hl' : ns.length = m := by
      cases e : m - ns.length with
      | zero => omega
      | succ d => rw [e] at hr'; cases hr'
    have e1 : bltD .sorted [.lst (ns.map Enc.d)] = some (.lst ((srt ns).map Enc.d)) := by
      show (sortD (ns.map Enc.d)).map D.lst = _
      rw [sortD_enc (Nat.zero_le _) ns (by omega)]; rfl
    have e2 : ∀ xs : List D, bltD .tuple [.lst xs] = some (.tup xs) := fun _ => rfl
    refine wp_cons' ?_
    simp [exS, ev, evs, wp_bnd, derefs, wp_deref_at hu, e1, e2]
    exact q (srt ns) s ((srt_perm ns).length_eq.trans hl') (srt_lt ht.nd) c
end K
end VI

namespace VI
open PySem L2 M
/-! WR (wells): drawn rules. -/
abbrev Br := Nm × Nm
theorem ne_br (a b : Br) : cmpD .ne (Enc.d a) (Enc.d b) = some (!decide (a = b)) := by
  show (eqD (Enc.d a) (Enc.d b)).map (!·) = _
  rw [eqD_enc (α := Br) (by decide)]; rfl
theorem asc_new {ds : List Br} {w : Br} (h : ds.Pairwise fun a b => ltE a b = true) (hl : ∀ x ∈ ds, leE x w = true) (hn : ∀ y, ds.getLast? = some y → y ≠ w) : (ds ++ [w]).Pairwise fun a b => ltE a b = true := by
  have key : ∀ x ∈ ds, x ≠ w := fun x hx e => by
    subst e
    cases e2 : ds.getLast? with
    | none => rw [List.getLast?_eq_none_iff.mp e2] at hx; cases hx
    | some y =>
      have hy := hn y e2
      obtain ⟨k, hk, ek⟩ := List.getElem_of_mem hx
      have hl2 : ds.length - 1 < ds.length := by omega
      have ey : ds[ds.length - 1] = y := by
        rw [List.getLast?_eq_getElem?, List.getElem?_eq_getElem hl2] at e2
        exact Option.some.inj e2
      have hlt : k < ds.length - 1 := by
        rcases Nat.lt_or_ge k (ds.length - 1) with z | z
        · exact z
        · have : k = ds.length - 1 := by omega
          subst this
          exact absurd (ey.symm.trans ek) hy
      have := (List.pairwise_iff_getElem.mp h) k (ds.length - 1) hk hl2 hlt
      rw [ek, ey] at this
      have h3 := hl y (by rw [← ey]; exact List.getElem_mem hl2)
      rw [leE_not, this] at h3
      cases h3
  rw [List.pairwise_append]
  refine ⟨h, by simp, fun a ha b hb => ?_⟩
  rw [List.mem_singleton] at hb
  subst hb
  cases e : ltE a b with
  | true => rfl
  | false =>
    have h1 := hl a ha
    rw [leE_not] at h1
    exact absurd (ltE_total e (by simpa using h1)) (key a ha)
namespace K
theorem w_sorted {n : Nat} {bs : List Br} {E : Exc → Sto → Prop} {Q : VV → Sto → Prop} {β : Sto} (hl : bs.length ≤ 100)
    (q : ∀ (ds : List Br) t, ds.length ≤ bs.length → ds.Pairwise (fun a b => ltE a b = true) → (∀ x ∈ ds, x ∈ bs) → Q (.d (.tup (ds.map Enc.d))) (β ++ t)) : Wp E (callA T (n + 1) (.f i__law_sorted) [.d (.lst (bs.map Enc.d))] β) Q := by
  refine wp_callA T n i__law_sorted _ rfl ?_
  have e1 : bltD .sorted [.lst (bs.map Enc.d)] = some (.lst ((srt bs).map Enc.d)) := by
    show (sortD (bs.map Enc.d)).map D.lst = _
    rw [sortD_enc (α := Br) (by decide) bs (by omega)]; rfl
  have hsl := (srt_perm bs).length_eq
  have hi : itemsD (.lst ((srt bs).map Enc.d)) = some ((srt bs).map Enc.d) := items_lst (by simp; omega)
  simp only [runF, B__law_sorted]
  simp [wp_bnd, startS]
  refine wp_cons' ?_
  simp [exS, ev, evs, evF, wp_bnd, wp_newBox, datasOf, small_of, setT, wp_noExc]
  refine wp_cons' ?_
  simp [exS, evI, ev, evs, wp_bnd, derefs, e1, freeze_d, hi]
  refine wp_forGo (fun rest φ s => ∃ done todo ds v2, srt bs = done ++ todo ∧ rest = todo.map Enc.d ∧ φ = [some (.d (.lst (bs.map Enc.d))), some (.box β.length), v2] ∧ s = β ++ [⟨.lst (ds.map Enc.d), true⟩] ∧ (ds : List Br).Pairwise (fun a b => ltE a b = true) ∧ (∀ x ∈ ds, x ∈ done) ∧ ds.length ≤ done.length) ?_ ?_ _ _ _ ⟨[], srt bs, [], none, rfl, rfl, rfl, rfl, .nil, fun _ h => (by cases h), Nat.le_refl _⟩
  · rintro x rest φ s ⟨done, todo, ds, v2, e, er, rfl, rfl, hp, hm, hdl⟩
    cases todo with
    | nil => cases er
    | cons w todo =>
      obtain ⟨rfl, rfl⟩ := List.cons.inj er
      have hu := snoc_get β ⟨.lst (ds.map Enc.d), true⟩
      have hdn : done.length ≤ 100 := by have := congrArg List.length e; rw [List.length_append] at this; omega
      have hpw := srt_le bs
      rw [e, List.pairwise_append] at hpw
      have hle : ∀ x ∈ ds, leE x w = true := fun x hx => hpw.2.2 x (hm x hx) w (List.mem_cons_self ..)
      have e0 : cmpD .eq (.lst (ds.map Enc.d)) (.lst []) = some (decide (ds = [])) := eq_lst_nil (β := Br) (by decide) (fun x => x) ds
      have hsm : small ds.length = true := small_of (by omega)
      simp [setT, wp_noExc, wp_bnd]
      unfold B__law_sorted_0
      refine wp_cons' ?_
      simp [exS, ev, evs, evF, evT, wp_bnd, wp_deref_at hu, datasOf, small_of, ctZ, e0]
      have hmem : ∀ x ∈ ds ++ [w], x ∈ done ++ [w] := fun x hx => by
        rcases List.mem_append.mp hx with z | z
        · exact List.mem_append_left _ (hm x z)
        · exact List.mem_append_right _ z
      by_cases hd : ds = []
      · simp [hd, exSs_nil]
        refine wp_cons' ?_
        simp [exS, ev, wp_bnd, wp_isLst_at (snoc_get β _), wp_getBox_at (snoc_get β _), small_of, wp_setBox_at (snoc_get β _), snoc_set, exSs_nil]
        subst hd
        exact ⟨done ++ [w], todo, by rw [e]; simp, rfl, [w], by simp, by simp, fun a b => hmem (a, b), by simp⟩
      · obtain ⟨y, hy⟩ : ∃ y, ds.getLast? = some y := by
          cases h : ds.getLast? with
          | none => exact absurd (List.getLast?_eq_none_iff.mp h) hd
          | some y => exact ⟨y, rfl⟩
        have hm1 : atI (ds.map (Enc.d (α := Br))) (-1) = some (Enc.d y) := by rw [atI_m1, List.getLast?_map, hy]; rfl
        simp [hd, wp_getIx_at hu, hm1, ne_br, wp_bnd]
        by_cases hyw : y = w
        · simp [hyw, exSs_nil]
          exact ⟨done ++ [w], todo, by rw [e]; simp, rfl, ds, rfl, hp, fun a b hx => List.mem_append_left _ (hm (a, b) hx), by simp; omega⟩
        · simp [hyw, exSs_nil]
          refine wp_cons' ?_
          simp [exS, ev, wp_bnd, wp_isLst_at hu, wp_getBox_at hu, hsm, wp_setBox_at hu, snoc_set, exSs_nil]
          exact ⟨done ++ [w], todo, by rw [e]; simp, rfl, ds ++ [w], by simp, asc_new hp hle (fun z hz => by rw [hy] at hz; cases hz; exact hyw), fun a b => hmem (a, b), by simp; exact hdl⟩
  · rintro φ s ⟨done, todo, ds, v2, e, er, rfl, rfl, hp, hm, hdl⟩
    have : todo = [] := by cases todo with
      | nil => rfl
      | cons _ _ => cases er
    subst this
    rw [List.append_nil] at e
    subst e
    have e2 : ∀ xs : List D, bltD .tuple [.lst xs] = some (.tup xs) := fun _ => rfl
    refine wp_cons' ?_
    simp [exS, ev, evs, wp_bnd, derefs, wp_deref_at (snoc_get β _), e2]
    exact q ds _ (by omega) hp fun x hx => (srt_perm bs).mem_iff.mp (hm x hx)
theorem w_rules_0 {n p u : Nat} {r : Int} {as : List Nm} {x : Nm} {ps : List Pc} {v1 v3 v7 v8 : Option VV} {E : Exc → Sto → Prop} {Q : Fl × Sl → Sto → Prop} {s : Sto} (h : PoolAt s p) (hu : s[u]? = some ⟨.lst (ps.map Enc.d), true⟩) (hup : u ≠ p)
    (has : as ≠ []) (hal : as.length ≤ 1000) (hl : ps.length ≤ 1000) (hr : 0 ≤ r ∧ r ≤ 3)
    (q : ∀ (pc : Pc) s', pc.nm = x → Ch p s s' → Q (.nxt, [some (.box p), v1, some (.d (.int r)), v3, some (.box u), some (.d (.tup (as.map Enc.d))), some (.d (Enc.d x)), v7, v8]) (s'.set u ⟨.lst ((ps ++ [pc]).map Enc.d), true⟩)) :
    Wp E (exSs T (callA T (n + 3)) B__law_rules_0 [some (.box p), v1, some (.d (.int r)), v3, some (.box u), some (.d (.tup (as.map Enc.d))), some (.d (Enc.d x)), v7, v8] s) Q := by
  unfold B__law_rules_0
  refine wp_cons' ?_
  simp [exS, ev, evs, wp_bnd, wp_isLst_at hu]
  refine w_of_tup (n := n + 1) h (by simpa using has) (by simp; omega) fun y s1 hy c1 => ?_
  obtain ⟨a, ha, rfl⟩ := List.mem_map.mp hy
  simp [wp_bnd, binD_add]
  refine w_draw (n := n + 2) c1.pool (by omega) (by omega) fun i s2 i1 i2 c2 => ?_
  refine w_draw (n := n + 2) c2.pool (by decide) (by decide) fun w s3 w1 w2 c3 => ?_
  have c := (c1.trans c2).trans c3
  have hu4 := (c.oth u hup (List.getElem?_eq_some_iff.mp hu).1).trans hu
  have hs : small ps.length = true := small_of (by omega)
  simp [wp_bnd, datasOf, small_of, wp_getBox_at hu4, hs, wp_setBox_at hu4, exSs_nil]
  have := q ⟨x, a, i, w, ⟨⟨i1, by omega⟩, ⟨w1, by omega⟩⟩⟩ s3 rfl c
  rw [List.map_append] at this
  exact this
theorem w_rules {n p : Nat} {m r : Int} {E : Exc → Sto → Prop} {Q : VV → Sto → Prop} {β : Sto} (h : PoolAt β p) (hm : 1 ≤ m ∧ m ≤ 6) (hr : 0 ≤ r ∧ r ≤ 3)
    (q : ∀ (R : Ru) β', Ch p β β' → Q (.d R.parts) β') : Wp E (callA T (n + 4) (.f i__law_rules) [.box p, .d (.int m), .d (.int r)] β) Q := by
  refine wp_callA T (n + 3) i__law_rules _ rfl ?_
  have hp := h.lt
  simp only [runF, B__law_rules]
  simp [wp_bnd, startS]
  refine wp_cons' ?_
  simp [exS, ev, evs, evF, wp_bnd]
  refine w_draw (n := n + 2) h hm.1 (by omega) fun k s1 k1 k2 c1 => ?_
  obtain ⟨k, rfl⟩ := Int.eq_ofNat_of_zero_le k1
  simp [wp_bnd, binD_add]
  rw [show (1 : Int) + (k : Int) = ((k + 1 : Nat) : Int) by omega]
  refine w_names (n := n) c1.pool (by omega) fun ns s2 hnl hnp c2 => ?_
  have c2 := c1.trans c2
  simp [wp_bnd, datasOf, small_of, wp_newBox, setN]
  have hnn : ns ≠ [] := fun e => by rw [e] at hnl; simp at hnl
  have hnl6 : ns.length ≤ 6 := by omega
  have c3 : Ch p β (s2 ++ [⟨.lst [], true⟩]) := c2.trans (.new c2.pool _)
  have hu3 : (s2 ++ [(⟨.lst [], true⟩ : Bx)])[s2.length]? = some ⟨.lst [], true⟩ := snoc_get s2 _
  have hge : β.length ≤ s2.length := c2.len
  have hup : s2.length ≠ p := by omega
  refine wp_cons' ?_
  simp [exS, ev, evs, wp_bnd, derefs, blt_len_tup]
  refine w_draw (n := n + 2) c3.pool (by omega) (by omega) fun a s4 a1 a2 c4 => ?_
  obtain ⟨a, rfl⟩ := Int.eq_ofNat_of_zero_le a1
  simp [wp_bnd, binD_add]
  rw [show (1 : Int) + (a : Int) = ((a + 1 : Nat) : Int) by omega]
  refine w_names (n := n) c4.pool (by omega) fun as s5 hal hap c5 => ?_
  have has : as ≠ [] := fun e => by rw [e] at hal; simp at hal
  have c45 := c4.trans c5
  have hu5 := (c45.oth s2.length hup (by simp)).trans hu3
  have c5 := c3.trans c45
  simp [wp_bnd, setT, wp_noExc]
  refine wp_cons' ?_
  simp [exS, evI, ev, wp_bnd, freeze_d, items_tup (show (ns.map (Enc.d (α := Nm))).length ≤ 100000 by simp; omega)]
  refine Wp.imp (Q := fun (x : Fl × Sl) s' => ∃ ps v6 v7 v8, x = (.nxt, [some (.box p), some (.d (.int m)), some (.d (.int r)), some (.d (.tup (ns.map Enc.d))), some (.box s2.length), some (.d (.tup (as.map Enc.d))), v6, v7, v8]) ∧ s'[s2.length]? = some ⟨.lst (ps.map Enc.d), true⟩ ∧ (ps : List Pc).map (·.nm) = ns ∧ Ch p β s') ?_ ?_
  · refine wp_forGo (fun rest φ s' => ∃ ps todo v6 v7 v8, (ps : List Pc).map (·.nm) ++ todo = ns ∧ rest = todo.map Enc.d ∧ φ = [some (.box p), some (.d (.int m)), some (.d (.int r)), some (.d (.tup (ns.map Enc.d))), some (.box s2.length), some (.d (.tup (as.map Enc.d))), v6, v7, v8] ∧ s'[s2.length]? = some ⟨.lst (ps.map Enc.d), true⟩ ∧ Ch p β s') ?_ ?_ _ _ _ ⟨[], ns, none, none, none, rfl, rfl, rfl, hu5, c5⟩
    · rintro x rest φ s' ⟨ps, todo, v6, v7, v8, e, er, rfl, hu, c⟩
      cases todo with
      | nil => cases er
      | cons w todo =>
        obtain ⟨rfl, rfl⟩ := List.cons.inj er
        have hpl : ps.length ≤ 1000 := by have := congrArg List.length e; simp at this; omega
        simp [setT, wp_noExc, wp_bnd]
        refine w_rules_0 c.pool hu hup has (by omega) hpl hr fun pc s6 e6 c6 => ?_
        have hlt : s2.length < s'.length := (List.getElem?_eq_some_iff.mp hu).1
        refine ⟨ps ++ [pc], todo, by rw [List.map_append, ← e]; simp [e6], rfl, ⟨_, _, _, rfl⟩, by rw [List.getElem?_set_self (Nat.lt_of_lt_of_le hlt c6.len)], (c.trans c6).setO _ hge hp⟩
    · rintro φ s' ⟨ps, todo, v6, v7, v8, e, er, rfl, hu, c⟩
      have : todo = [] := by cases todo with
        | nil => rfl
        | cons _ _ => cases er
      subst this
      rw [List.append_nil] at e
      exact ⟨ps, v6, v7, v8, rfl, hu, e, c⟩
  rintro _ s6 ⟨ps, v6, v7, v8, rfl, hu6, hps, c6⟩
  show Wp E (exSs T _ _ _ s6) _
  refine wp_cons' ?_
  simp [exS, ev, evs, evF, evI, wp_bnd, datasOf, small_of]
  refine w_of_tup (n := n + 1) c6.pool (by simp) (by decide) fun x s7 hx c7 => ?_
  obtain ⟨l, rfl, hl1, hl2⟩ : ∃ l : Nat, x = .int (l : Int) ∧ 1 ≤ l ∧ l ≤ 9 := by
    simp at hx
    rcases hx with rfl | rfl | rfl
    · exact ⟨1, rfl, by decide, by decide⟩
    · exact ⟨4, rfl, by decide, by decide⟩
    · exact ⟨9, rfl, by decide, by decide⟩
  refine w_draw (n := n + 2) c7.pool (by omega) (by omega) fun b s8 b1 b2 cc => ?_
  obtain ⟨b, rfl⟩ := Int.eq_ofNat_of_zero_le b1
  have c8 := (c6.trans c7).trans cc
  have hu8 := ((c7.trans cc).oth s2.length hup (List.getElem?_eq_some_iff.mp hu6).1).trans hu6
  simp [wp_bnd, rngOk_of (show (-1000000 : Int) ≤ b ∧ (b : Int) ≤ 1000000 by omega), wipeS]
  have hnD : ns.map (Enc.d (α := Nm)) ≠ [] := by simpa using hnn
  refine Wp.imp (Q := fun acc s' => ∃ bs : List Br, acc = bs.map Enc.d ∧ bs.length ≤ 8 ∧ (∀ x ∈ bs, x.1 ∈ ns ∧ x.2 ∈ ns) ∧ s'[s2.length]? = some ⟨.lst (ps.map Enc.d), true⟩ ∧ Ch p β s') ?_ ?_
  · refine wp_compGo (Q := fun acc s' => ∃ bs : List Br, acc = bs.map Enc.d ∧ bs.length ≤ 8 ∧ (∀ x ∈ bs, x.1 ∈ ns ∧ x.2 ∈ ns) ∧ s'[s2.length]? = some ⟨.lst (ps.map Enc.d), true⟩ ∧ Ch p β s') (fun rest acc s' => ∃ bs : List Br, acc = bs.map Enc.d ∧ bs.length + rest.length ≤ 8 ∧ (∀ x ∈ bs, x.1 ∈ ns ∧ x.2 ∈ ns) ∧ s'[s2.length]? = some ⟨.lst (ps.map Enc.d), true⟩ ∧ Ch p β s') ?_ ?_ _ [] _ ?_
    · rintro x rest acc s' ⟨bs, rfl, hb, hin, hu, c⟩
      rw [List.length_cons] at hb
      simp [wp_noExc, wp_bnd, setT, evT, ev, evs]
      refine w_of_tup (n := n + 1) c.pool hnD (by simp; omega) fun y s9 hy c9 => ?_
      obtain ⟨a1, ha1, rfl⟩ := List.mem_map.mp hy
      refine w_of_tup (n := n + 1) c9.pool hnD (by simp; omega) fun y s10 hy c10 => ?_
      obtain ⟨a2, ha2, rfl⟩ := List.mem_map.mp hy
      simp [datasOf, small_of, wp_bnd]
      refine ⟨bs ++ [(a1, a2)], by simp [bar_d], by simp; omega, ?_, ((c9.trans c10).oth s2.length hup (List.getElem?_eq_some_iff.mp hu).1).trans hu, (c.trans c9).trans c10⟩
      rintro x1 x2 hx
      rcases List.mem_append.mp hx with z | z
      · exact hin _ z
      · rw [List.mem_singleton] at z
        cases z
        exact ⟨ha1, ha2⟩
    · rintro acc s' ⟨bs, rfl, hb, hin, hu, c⟩
      exact ⟨bs, rfl, by simpa using hb, hin, hu, c⟩
    · exact ⟨[], rfl, by rw [rngD_eq]; simp; omega, fun _ h => (by cases h), hu8, c8⟩
  rintro _ s9 ⟨bs, rfl, hb, hin, hu9, c9⟩
  simp [ctZ, setT, wp_bnd, wp_noExc]
  refine wp_cons' ?_
  have e2 : ∀ xs : List D, bltD .tuple [.lst xs] = some (.tup xs) := fun _ => rfl
  simp [exS, ev, evs, wp_bnd, derefs, wp_deref_at hu9, e2]
  refine w_sorted (n := n + 2) (by omega) fun ds t hd1 hd2 hd3 => ?_
  simp [wp_bnd, datasOf, small_of]
  have hpl : ps.length = ns.length := by rw [← hps, List.length_map]
  let R : Ru := ⟨ps, ds, ⟨by omega, by omega⟩, by rw [hps]; exact hnp, by omega, hd2, fun x hx => by rw [hps]; exact hin x (hd3 x hx)⟩
  exact q R _ (c9.trans (.grow c9.pool t))
end K
end VI

namespace VI
open PySem L2 M
/-! WC (wells): records, fillings counted. -/
def oD : Option Pc → D
  | none => .non
  | some p => Enc.d p.nm
def recD (r : List (Option Pc)) : D := .tup (r.map oD)
def lets (t : Option Pc) (p : Pc) : Bool := match t with
  | none => true
  | some q => decide (q = p)
def Ru.OkT (R : Ru) (t : Option Pc) : Prop := ∀ p, t = some p → p ∈ R.ps
def Ru.OkR (R : Ru) (r : List (Option Pc)) : Prop := ∀ t ∈ r, R.OkT t
def Ru.SL (R : Ru) (t : Option Pc) (g : List Pc → Int) (w : List Pc) : Int := (((R.nxt w).filter (lets t)).map fun p => g (R.beh w p)).sum
def Ru.fill (R : Ru) : List (Option Pc) → List Pc → Int
  | [], _ => 1
  | t :: r, w => R.SL t (R.fill r) w
theorem fill_none (R : Ru) : ∀ k, R.fill (List.replicate k none) = R.cntI k
  | 0 => by funext w; rfl
  | k + 1 => by
    rw [List.replicate_succ, ← cnt_S, ← fill_none R k]
    funext w
    show R.SL none _ w = R.S _ w
    unfold Ru.SL Ru.S
    rw [show (R.nxt w).filter (lets none) = R.nxt w from List.filter_eq_self.mpr fun _ _ => rfl]
theorem sum_nonneg {α : Type} {f : α → Int} : ∀ {l : List α}, (∀ a ∈ l, 0 ≤ f a) → 0 ≤ (l.map f).sum
  | [], _ => Int.le_refl _
  | a :: l, h => by
    rw [List.map_cons, List.sum_cons]
    have := h a (List.mem_cons_self ..)
    have := sum_nonneg (l := l) fun b hb => h b (List.mem_cons_of_mem _ hb)
    omega
theorem sum_filter_le {α : Type} {f f' : α → Int} {p p' : α → Bool} : ∀ {l : List α}, (∀ a ∈ l, p a = true → p' a = true) → (∀ a, f a ≤ f' a) → (∀ a, 0 ≤ f' a) → ((l.filter p).map f).sum ≤ ((l.filter p').map f').sum
  | [], _, _, _ => Int.le_refl _
  | a :: l, h, hf, h0 => by
    have ih := sum_filter_le (l := l) (fun b hb => h b (List.mem_cons_of_mem _ hb)) hf h0
    have h1 := hf a
    have h2 := h0 a
    rw [List.filter_cons, List.filter_cons]
    by_cases e : p a = true
    · rw [if_pos e, if_pos (h a (List.mem_cons_self ..) e), List.map_cons, List.sum_cons, List.map_cons, List.sum_cons]; omega
    · rw [if_neg e]
      split
      · rw [List.map_cons, List.sum_cons]; omega
      · exact ih
theorem fill_nonneg (R : Ru) : ∀ r w, 0 ≤ R.fill r w
  | [], _ => by show (0 : Int) ≤ 1; omega
  | t :: r, w => sum_nonneg fun p _ => fill_nonneg R r _
theorem fill_lost (R : Ru) : ∀ (a : List (Option Pc)) (t : Option Pc) (b : List (Option Pc)) (w : List Pc), R.fill (a ++ t :: b) w ≤ R.fill (a ++ none :: b) w
  | [], t, b, w => sum_filter_le (fun _ _ _ => rfl) (fun _ => Int.le_refl _) fun _ => fill_nonneg R b _
  | c :: a, t, b, w => sum_filter_le (fun _ _ h => h) (fun p => fill_lost R a t b (R.beh w p)) fun _ => fill_nonneg R _ _
theorem eq_oD {R : Ru} {t : Option Pc} {p : Pc} (ht : R.OkT t) (hp : p ∈ R.ps) : (isNon (.d (oD t)) = true ∧ lets t p = true) ∨ (isNon (.d (oD t)) = false ∧ cmpD .eq (oD t) (Enc.d p.nm) = some (lets t p)) := by
  cases t with
  | none => exact .inl ⟨rfl, rfl⟩
  | some q =>
    refine .inr ⟨rfl, ?_⟩
    show cmpD .eq (Enc.d q.nm) (Enc.d p.nm) = some (decide (q = p))
    rw [eq_nm]
    congr 1
    rw [decide_eq_decide]
    exact ⟨fun e => map_inj (l := R.ps) (f := fun p : Pc => p.nm) R.nodup (ht q rfl) hp e, fun e => by rw [e]⟩
theorem valsI_rF (l : List (List Pc × Int)) : valsI (.fdic true (rD .int l)) = some (l.map (·.2)) := valsI_rD l
theorem tot_fill (R : Ru) (rows : List (List Pc × Int)) : tot (R.fill []) rows = (rows.map (·.2)).sum := tot_one (R := R) rows
theorem pieces_if {l : List Pc} {f : Pc → Bool} {g : Pc → Int} {p : Pc} : (((l ++ [p]).filter f).map g).sum = ((l.filter f).map g).sum + if f p then g p else 0 := by
  rw [List.filter_append, List.map_append, List.sum_append, List.filter_cons]
  split <;> simp
namespace K
theorem f_is_let (n : Nat) {R : Ru} {t : Option Pc} {p : Pc} (ht : R.OkT t) (hp : p ∈ R.ps) : callA T (n + 1) (.f i_is_let) [.d (oD t), .d (Enc.d p.nm)] = ret (.d (.bl (lets t p))) := by
  rw [callA_f T n _ _ rfl]
  rcases eq_oD ht hp with ⟨h1, h2⟩ | ⟨h1, h2⟩
  · simp [runF, B_is_let, exSs, exS, ev, startS, h1, h2, asBool_d]
  · simp [runF, B_is_let, exSs, exS, ev, startS, h1, h2, asBool_d]
theorem w_ca_1 {n : Nat} {R : Ru} {line : List (List Pc)} {b u f : Nat} {t : Option Pc} {h : List Pc} {m : Int} {rc : D} {rows : List (List Pc × Int)} {v7 v8 : Option VV} {s : Sto} {E : Exc → Sto → Prop} {Q : Fl × Sl → Sto → Prop} (ht : R.OkT t)
    (hL : Line R line line.length) (hb : s[b]? = some ⟨.dic true (stD R line), true⟩) (hbu : b ≠ u) (hh : R.W h) (hg : Good R rows) (hu : s[u]? = some ⟨.dic true (rD .int rows), true⟩)
    (q : ∀ rows' w7 w8 s', Good R rows' → s'[u]? = some ⟨.dic true (rD .int rows'), true⟩ → Only u s s' → (∀ g, tot g rows' = tot g rows + m * R.SL t g h) →
      Q (.nxt, [some (.box b), some (.d rc), some (.box f), some (.d (oD t)), some (.box u), some (.d (cD h)), some (.d (.int m)), w7, w8]) s') :
    Wp E (exSs T (callA T (n + 1)) B_counts_ahead_1 [some (.box b), some (.d rc), some (.box f), some (.d (oD t)), some (.box u), some (.d (cD h)), some (.d (.int m)), v7, v8] s) Q := by
  have hps := R.h1
  have hnl : (R.nxt h).length ≤ 6 := by have := List.length_filter_le (fun p => R.may h p) R.ps; unfold Ru.nxt; omega
  have e2 : lookT (kk h) (stD R line) = some (srow R h) := lookT_st (fun w hw => (hL.w w hw).mem) (hL.full _ rfl hh)
  unfold B_counts_ahead_1
  refine wp_cons' ?_
  simp [exS, ev, evI, wp_bnd, wp_getIx_T hb e2, freeze_d]
  rw [show itemsD (srow R h) = some ((R.nxt h).map fun p => D.tup [Enc.d p.nm, cD (R.beh h p)]) from items_lst (by simp; omega)]
  simp
  refine wp_forGo (fun rest φ s' => ∃ done rst rows' w7 w8, done ++ rst = R.nxt h ∧ rest = rst.map (fun p => D.tup [Enc.d p.nm, cD (R.beh h p)]) ∧
    φ = [some (.box b), some (.d rc), some (.box f), some (.d (oD t)), some (.box u), some (.d (cD h)), some (.d (.int m)), w7, w8] ∧ Good R rows' ∧ s'[u]? = some ⟨.dic true (rD .int rows'), true⟩ ∧ Only u s s' ∧
    (∀ g, tot g rows' = tot g rows + m * ((done.filter (lets t)).map fun p => g (R.beh h p)).sum)) ?_ ?_ _ _ _ ⟨[], R.nxt h, rows, v7, v8, rfl, rfl, rfl, hg, hu, .refl u s, fun g => by simp⟩
  · rintro x rest φ s' ⟨done, rst, rows', w7, w8, h1, h2, rfl, hg', hu', ho, htt⟩
    cases rst with
    | nil => cases h2
    | cons p rst =>
      obtain ⟨rfl, rfl⟩ := List.cons.inj h2
      have hp : p ∈ R.nxt h := by rw [← h1]; simp
      have hW := hh.beh hp
      simp [wp_bnd, wp_noExc, setT, setTs]
      unfold B_counts_ahead_0
      refine wp_cons' ?_
      simp [exS, ev, evs, evT, wp_bnd, f_is_let n ht (nxt_mem hp).1, asBool_d]
      cases hlt : lets t p with
      | false =>
        simp [exSs_nil]
        refine ⟨done ++ [p], rst, by simpa using h1, rfl, rows', hg', hu', ho, fun g => ?_⟩
        rw [htt, pieces_if, hlt]; simp
      | true =>
        simp
        refine wp_cons' ?_
        refine w_inc hg' hW rfl rfl hu' (m := m) rfl ?_
        simp [exSs_nil]
        refine ⟨done ++ [p], rst, by simpa using h1, rfl, put (R.beh h p) ((look (R.beh h p) rows').getD 0 + m) rows', hg'.put hW _, ?_, ho.set _, fun g => ?_⟩
        · have := get_set_self hu' (y := ⟨.dic true (rD .int (put (R.beh h p) ((look (R.beh h p) rows').getD 0 + m) rows')), true⟩)
          simpa using this
        · rw [put_tot, htt, pieces_if, hlt, Int.mul_add, Int.add_assoc]; simp
  · rintro φ s' ⟨done, rst, rows', w7, w8, h1, h2, rfl, hg', hu', ho, htt⟩
    have : rst = [] := by cases rst with | nil => rfl | cons _ _ => cases h2
    subst this
    rw [List.append_nil] at h1
    subst h1
    simp [exSs_nil]
    exact q rows' w7 w8 s' hg' hu' ho htt
theorem getIx_last {f : Nat} {ds : List D} {x : D} {s : Sto} {l : Bool} (hf : s[f]? = some ⟨.lst (ds ++ [x]), l⟩) {E : Exc → Sto → Prop} (Q : D → Sto → Prop) : Wp E (getIx (.box f) (.int (-1)) s) Q = Q x s := by
  rw [wp_getIx_at hf, atI_m1, List.getLast?_append]; rfl
theorem w_ca_2 {n : Nat} {R : Ru} {line : List (List Pc)} {b f : Nat} {t : Option Pc} {rc : D} {ds : List D} {rows : List (List Pc × Int)} {v4 v5 v6 v7 v8 : Option VV} {s0 s : Sto} {E : Exc → Sto → Prop} {Q : Fl × Sl → Sto → Prop} (ht : R.OkT t)
    (hL : Line R line line.length) (hb : s0[b]? = some ⟨.dic true (stD R line), true⟩) (hU : Up s0 s) (hf0 : s0.length ≤ f) (hf : s[f]? = some ⟨.lst (ds ++ [.fdic true (rD .int rows)]), true⟩) (hdl : ds.length ≤ 1000) (hg : Good R rows)
    (q : ∀ rows' w4 w5 w6 w7 w8 s', Good R rows' → s'[f]? = some ⟨.lst (ds ++ [.fdic true (rD .int rows)] ++ [.fdic true (rD .int rows')]), true⟩ → Up s0 s' → (∀ g, tot g rows' = tot (R.SL t g) rows) →
      Q (.nxt, [some (.box b), some (.d rc), some (.box f), some (.d (oD t)), w4, w5, w6, w7, w8]) s') :
    Wp E (exSs T (callA T (n + 1)) B_counts_ahead_2 [some (.box b), some (.d rc), some (.box f), some (.d (oD t)), v4, v5, v6, v7, v8] s) Q := by
  have hl := hg.len
  have hb0 := (List.getElem?_eq_some_iff.mp hb).1
  have hfl := (List.getElem?_eq_some_iff.mp hf).1
  have hul := hU.len
  unfold B_counts_ahead_2
  refine wp_cons' ?_
  simp [exS, ev, evF, wp_bnd, wp_newBox, wp_noExc, setT]
  refine wp_cons' ?_
  have hf1 : (s ++ [(⟨.dic true [], true⟩ : Bx)])[f]? = some ⟨.lst (ds ++ [.fdic true (rD .int rows)]), true⟩ := by rw [List.getElem?_append_left hfl]; exact hf
  have hfz : freezeL (.d (.fdic true (rD .int rows))) = ret (.fdic true (rD .int rows)) := rfl
  simp only [exS]
  simp [evI, ev, wp_bnd, getIx_last hf1, hfz, pairs_rD rows hl]
  refine wp_forGo (fun rest φ s' => ∃ done rst rows' w5 w6 w7 w8, done ++ rst = rows ∧ rest = rst.map (fun r => D.tup [cD r.1, .int r.2]) ∧
    φ = [some (.box b), some (.d rc), some (.box f), some (.d (oD t)), some (.box s.length), w5, w6, w7, w8] ∧ Good R rows' ∧ s'[s.length]? = some ⟨.dic true (rD .int rows'), true⟩ ∧ s'[f]? = some ⟨.lst (ds ++ [.fdic true (rD .int rows)]), true⟩ ∧ Up s0 s' ∧
    (∀ g, tot g rows' = tot (R.SL t g) done)) ?_ ?_ _ _ _ ⟨[], rows, [], v5, v6, v7, v8, rfl, rfl, rfl, .nil R, by simp [rD], hf1, hU.trans (Up.add s _), fun g => rfl⟩
  · rintro x rest φ s' ⟨done, rst, rows', w5, w6, w7, w8, h1, h2, rfl, hg', hu', hf', hU', htt⟩
    cases rst with
    | nil => cases h2
    | cons r rst =>
      obtain ⟨rfl, rfl⟩ := List.cons.inj h2
      have hW : R.W r.1 := hg.w r (by rw [← h1]; simp)
      simp [wp_bnd, wp_noExc, setT, setTs]
      refine w_ca_1 ht hL (hU'.get hb) (by omega) hW hg' hu' fun rows2 w7' w8' s2 hg2 hu2 ho ht2 => ?_
      refine ⟨done ++ [r], rst, by simpa using h1, rfl, ⟨_, _, _, _, rfl⟩, rows2, hg2, hu2, ho.get hf' (by omega), ho.up hU' hul, fun g => ?_⟩
      rw [ht2, htt, tot_snoc]
  · rintro φ s' ⟨done, rst, rows', w5, w6, w7, w8, h1, h2, rfl, hg', hu', hf', hU', htt⟩
    have : rst = [] := by cases rst with | nil => rfl | cons _ _ => cases h2
    subst this
    rw [List.append_nil] at h1
    subst h1
    show Wp E (exSs T (callA T (n + 1)) _ _ s') Q
    refine wp_cons' ?_
    have hne : s.length ≠ f := by omega
    have hs2 : (s'.set s.length ⟨.fdic true (rD .int rows'), false⟩)[f]? = some ⟨.lst (ds ++ [.fdic true (rD .int done)]), true⟩ := get_set_ne hf' hne
    have hsm : small (ds.length + 1) = true := small_of (by omega)
    simp [exS, ev, wp_bnd, wp_noExc, setT, exSs_nil, wp_isLst_at hf', wp_freezeL hu', wp_getBox_at hs2, hsm, wp_setBox_at hs2]
    have hUp : Up s0 ((s'.set s.length ⟨.fdic true (rD .int rows'), false⟩).set f ⟨.lst (ds ++ [.fdic true (rD .int done)] ++ [.fdic true (rD .int rows')]), true⟩) := (hU'.set hul _).set hf0 _
    have := q rows' (some (.box s.length)) w5 w6 w7 w8 _ hg' (get_set_self hs2) hUp htt
    simpa using this
theorem w_counts_ahead {n : Nat} {R : Ru} {line : List (List Pc)} {b : Nat} {rec_ : List (Option Pc)} {s : Sto} {E : Exc → Sto → Prop} {Q : VV → Sto → Prop} (hr : R.OkR rec_) (hrl : rec_.length ≤ 60) (hL : Line R line line.length)
    (hb : s[b]? = some ⟨.dic true (stD R line), true⟩)
    (q : ∀ ds rows s', Up s s' → (rows.map (·.2)).sum = R.fill rec_ [] → Q (.d (.lst (ds ++ [.fdic true (rD .int rows)]))) s') : Wp E (callA T (n + 2) (.f i_counts_ahead) [.box b, .d (recD rec_)] s) Q := by
  refine wp_callA T (n + 1) i_counts_ahead _ rfl ?_
  simp only [runF, B_counts_ahead]
  simp [wp_bnd, startS]
  refine wp_cons' ?_
  have kt : (keyT (.tup [])).isSome = true := rfl
  simp [exS, ev, evs, evF, wp_bnd, wp_newBox, wp_noExc, setT, noExc, datasOf, small_of, kt]
  refine wp_cons' ?_
  have hi : itemsD (recD rec_) = some (rec_.map oD) := items_tup (by simp; omega)
  simp [exS, evI, ev, wp_bnd, freeze_d, hi]
  refine wp_forGo (fun rest φ s' => ∃ done todo ds rows v3 v4 v5 v6 v7 v8, done ++ todo = rec_ ∧ rest = todo.map oD ∧ φ = [some (.box b), some (.d (recD rec_)), some (.box s.length), v3, v4, v5, v6, v7, v8] ∧ s'[s.length]? = some ⟨.lst (ds ++ [.fdic true (rD .int rows)]), true⟩ ∧ ds.length = done.length ∧ Good R rows ∧ Up s s' ∧
    tot (R.fill todo) rows = R.fill rec_ []) ?_ ?_ _ _ _ ⟨[], rec_, [], [([], 1)], none, none, none, none, none, none, rfl, rfl, rfl, by simp [rD, cD], rfl, ⟨by simp, fun r hr => by rw [List.mem_singleton] at hr; rw [hr]; exact .nil R⟩, Up.add s _, by simp [tot]⟩
  · rintro x rest φ s' ⟨done, todo, ds, rows, v3, v4, v5, v6, v7, v8, h1, h2, rfl, hf, hdl, hg, hU, ht⟩
    cases todo with
    | nil => cases h2
    | cons t todo =>
      obtain ⟨rfl, rfl⟩ := List.cons.inj h2
      have htm : R.OkT t := hr t (by rw [← h1]; simp)
      have hdn : done.length ≤ 60 := by have := congrArg List.length h1; rw [List.length_append] at this; omega
      simp [wp_bnd, wp_noExc, setT]
      refine w_ca_2 htm hL hb hU (Nat.le_refl _) hf (by omega) hg fun rows' w4 w5 w6 w7 w8 s2 hg2 hf2 hU2 ht2 => ?_
      refine ⟨done ++ [t], todo, by simpa using h1, rfl, ⟨_, _, _, _, _, _, rfl⟩, ds ++ [.fdic true (rD .int rows)], rows', by simpa using hf2, by simp; omega, hg2, hU2, ?_⟩
      rw [ht2]; exact ht
  · rintro φ s' ⟨done, todo, ds, rows, v3, v4, v5, v6, v7, v8, h1, h2, rfl, hf, hdl, hg, hU, ht⟩
    have : todo = [] := by cases todo with | nil => rfl | cons _ _ => cases h2
    subst this
    refine wp_cons' ?_
    have hfr : ∀ Q' : D → Sto → Prop, Wp E (freeze (.box s.length) s') Q' = Q' (.lst (ds ++ [.fdic true (rD .int rows)])) (s'.set s.length ⟨.lst (ds ++ [.fdic true (rD .int rows)]), false⟩) := fun Q' => by
      unfold freeze; simp only [hf, ctZ]; rfl
    simp [exS, ev, wp_bnd, hfr]
    exact q ds rows _ (hU.set (Nat.le_refl _) _) (by rw [← tot_fill R]; exact ht)
end K
end VI

namespace VI
open PySem L2 M
/-! WD (wells): how_many_fill; the law's own counts. -/
namespace K
theorem cs8 : K.T.cs[g_MOST_RECORD]? = some (.int 20) := rfl
abbrev Lr : LDef := Lam_wrong_in_record_0
theorem l_r (n : Nat) (R : Ru) (ahead : D) {t : Option Pc} (ht : R.OkT t) : callA T (n + 2) (.l Lr [.d (.tup (R.ns.map Enc.d))]) [.d ahead, .d (oD t)] = ret (.d (.bl true)) := by
  rw [callA_l]
  cases t with
  | none => simp [runL, Lam_wrong_in_record_0, plainC, startS, ev, evs, show isNon (.d (oD none)) = true from rfl, asBool_d]
  | some p =>
    have hm : p.nm ∈ R.ns := List.mem_map.mpr ⟨p, ht p rfl, rfl⟩
    simp [runL, Lam_wrong_in_record_0, plainC, startS, ev, evs, show isNon (.d (oD (some p))) = false from rfl, asBool_d, show oD (some p) = Enc.d p.nm from rfl, f_is_one_of, -List.mem_map, hm]
theorem f_wrong_in_record (n : Nat) {R : Ru} {r : List (Option Pc)} (hr : R.OkR r) (h1 : 1 ≤ r.length) (h2 : r.length ≤ 20) : callA T (n + 4) (.f i_wrong_in_record) [.d R.d, .d (recD r)] = ret (.d (.lst [])) := by
  rw [callA_f T (n + 3) _ _ rfl]
  have e := f_wrong_in (n + 2) (r.map oD) 1 20 Lr [.d (.tup (R.ns.map Enc.d))] (by simp; omega) (by simp; omega) (by simp; omega) fun k hk => by
    rw [List.length_map] at hk
    rw [List.getElem_map]
    exact l_r n R _ (hr _ (List.getElem_mem hk))
  simp [runF, B_wrong_in_record, exSs, exS, ev, evs, startS, setT, noExc, cs8, capsOf, cls_R, po_pieces, f_pieces, f_names_of]
  rw [show (⟨2, 1, 3, _⟩ : LDef) = Lr from rfl, show recD r = .tup (r.map oD) from rfl]
  rw [e]
  rfl
theorem f_check_record (n : Nat) {R : Ru} {r : List (Option Pc)} (hr : R.OkR r) (h1 : 1 ≤ r.length) (h2 : r.length ≤ 20) : callA T (n + 5) (.f i_check_record) [.d R.d, .d (recD r)] = ret (.d .non) := by
  rw [callA_f T (n + 4) _ _ rfl]
  simp [runF, B_check_record, exSs, exS, ev, evs, evI, startS, f_check_rules, f_wrong_in_record n hr h1 h2, freeze_d, items_lst, forGo]
theorem w_how_many_fill {n : Nat} {R : Ru} {r : List (Option Pc)} {s : Sto} {E : Exc → Sto → Prop} {Q : VV → Sto → Prop} (hr : R.OkR r) (h1 : 1 ≤ r.length) (h2 : r.length ≤ 20) (q : ∀ s', Up s s' → Q (.d (.int (R.fill r []))) s') :
    Wp E (callA T (n + 8) (.f i_how_many_fill) [.d R.d, .d (recD r)] s) Q := by
  refine wp_callA T (n + 7) i_how_many_fill _ rfl ?_
  simp only [runF, B_how_many_fill]
  simp [wp_bnd, startS]
  refine wp_cons' ?_
  simp [exS, ev, evs, wp_bnd, f_check_record (n + 2) hr h1 h2]
  refine wp_cons' ?_
  simp [exS, ev, evs, wp_bnd]
  refine wp_callA T (n + 6) i_how_many_fill_by _ rfl ?_
  simp only [runF, B_how_many_fill_by]
  simp [wp_bnd, startS]
  refine wp_cons' ?_
  simp [exS, ev, evs, wp_bnd]
  refine w_steps_by (n := n) fun line t hL => ?_
  refine w_counts_ahead (n := n + 4) hr (by omega) hL (b := s.length) (by simp) fun ds rows s' hU hsum => ?_
  have hm1 : getIx (.d (.lst (ds ++ [.fdic true (rD .int rows)]))) (.int (-1)) = ret (.fdic true (rD .int rows)) := by
    rw [getIx_lstD, atI_m1, List.getLast?_append]; rfl
  simp [hm1, wp_bnd, valsI_rF, hsum]
  exact q s' ((Up.add s _).trans hU)
/-! ### the law's counts -/
theorem lkeys_rD (rows : List (List Pc × Int)) (h : rows.length ≤ 259) : keysL (.dic true (rD .int rows)) = some (rows.map fun r => cD r.1) := by
  show (if small (rD D.int rows).length then some ((rD D.int rows).map (·.1)) else none) = _
  rw [if_pos (small_of (by rw [rD_len]; omega))]
  simp [rD, Function.comp_def]
theorem lvals_rD (rows : List (List Pc × Int)) (h : rows.length ≤ 259) : lvalsD (.dic true (rD .int rows)) = some ((rows.map (·.2)).map .int) := by
  show (if small (rD D.int rows).length then some ((rD D.int rows).map (·.2)) else none) = _
  rw [if_pos (small_of (by rw [rD_len]; omega))]
  simp [rD, Function.comp_def]
theorem look_mem {β : Type} {r : List Pc × β} : ∀ {rows : List (List Pc × β)}, (rows.map (·.1)).Nodup → r ∈ rows → look r.1 rows = some r.2
  | [], _, h => by cases h
  | x :: rows, hn, h => by
    rw [List.map_cons, List.nodup_cons] at hn
    unfold look
    rcases List.mem_cons.mp h with e | h
    · rw [if_pos (by rw [e]), e]
    · rw [if_neg fun e => hn.1 (List.mem_map.mpr ⟨r, h, e.symm⟩)]
      exact look_mem hn.2 h
theorem lookF {R : Ru} {rows : List (List Pc × Int)} (hg : Good R rows) {r : List Pc × Int} (hr : r ∈ rows) : lookT (kk r.1) (rD .int rows) = some (.int r.2) := by
  rw [lookT_rD (hg.w r hr).mem hg.in_, look_mem hg.nd hr]; rfl
theorem intsD_ints (l : List Int) : intsD (l.map .int) = some l := by
  induction l with
  | nil => rfl
  | cons i l ih => rw [List.map_cons, intsD, ih]; rfl
theorem sum_ints (l : List Int) : bltD .sum [.lst (l.map .int)] = some (.int l.sum) := by
  show (intsD _).map _ = _
  rw [intsD_ints]; rfl
theorem w_lm_1 {n : Nat} {R : Ru} {cc u : Nat} {t : Option Pc} {rc : D} {r : List Pc × Int} {rows0 rows : List (List Pc × Int)} {v6 v7 : Option VV} {s : Sto} {E : Exc → Sto → Prop} {Q : Fl × Sl → Sto → Prop} (ht : R.OkT t)
    (hg0 : Good R rows0) (hr : r ∈ rows0) (hcc : s[cc]? = some ⟨.dic true (rD .int rows0), true⟩) (hcu : cc ≠ u) (hg : Good R rows) (hu : s[u]? = some ⟨.dic true (rD .int rows), true⟩)
    (q : ∀ rows' w6 w7 s', Good R rows' → s'[u]? = some ⟨.dic true (rD .int rows'), true⟩ → Only u s s' → (∀ g, tot g rows' = tot g rows + r.2 * R.SL t g r.1) →
      Q (.nxt, [some (.d R.parts), some (.d rc), some (.box cc), some (.d (oD t)), some (.box u), some (.d (cD r.1)), w6, w7]) s') :
    Wp E (exSs T (callA T (n + 2)) B__law_many_1 [some (.d R.parts), some (.d rc), some (.box cc), some (.d (oD t)), some (.box u), some (.d (cD r.1)), v6, v7] s) Q := by
  have hh : R.W r.1 := hg0.w r hr
  have h3 := hh.le
  have hnl : (R.nxt r.1).length ≤ 6 := by have := List.length_filter_le (fun p => R.may r.1 p) R.ps; have := R.h1; unfold Ru.nxt; omega
  unfold B__law_many_1
  refine wp_cons' ?_
  simp [exS, ev, evs, evI, wp_bnd, f_law_next n R r.1 hh.mem (by omega), freeze_d]
  rw [show itemsD (.lst ((R.nxt r.1).map fun p => Enc.d p.nm)) = some ((R.nxt r.1).map fun p => Enc.d p.nm) from items_lst (by simp; omega)]
  simp
  refine wp_forGo (fun rest φ s' => ∃ done rst rows' w6 w7, done ++ rst = R.nxt r.1 ∧ rest = rst.map (fun p => Enc.d p.nm) ∧
    φ = [some (.d R.parts), some (.d rc), some (.box cc), some (.d (oD t)), some (.box u), some (.d (cD r.1)), w6, w7] ∧ Good R rows' ∧ s'[u]? = some ⟨.dic true (rD .int rows'), true⟩ ∧ Only u s s' ∧
    (∀ g, tot g rows' = tot g rows + r.2 * ((done.filter (lets t)).map fun p => g (R.beh r.1 p)).sum)) ?_ ?_ _ _ _ ⟨[], R.nxt r.1, rows, v6, v7, rfl, rfl, rfl, hg, hu, .refl u s, fun g => by simp⟩
  · rintro x rest φ s' ⟨done, rst, rows', w6, w7, h1, h2, rfl, hg', hu', ho, htt⟩
    cases rst with
    | nil => cases h2
    | cons p rst =>
      obtain ⟨rfl, rfl⟩ := List.cons.inj h2
      have hp : p ∈ R.nxt r.1 := by rw [← h1]; simp
      have hW := hh.beh hp
      have hcc' := ho.get hcc hcu
      simp [wp_bnd, wp_noExc, setT]
      unfold B__law_many_0
      refine wp_cons' ?_
      have test : evT T (callA T (n + 2)) (.or (.isN (.var 3)) (.cmp .eq (.var 3) (.var 6))) [some (.d R.parts), some (.d rc), some (.box cc), some (.d (oD t)), some (.box u), some (.d (cD r.1)), some (.d (Enc.d p.nm)), w7] = ret (lets t p) := by
        rcases eq_oD ht (nxt_mem hp).1 with ⟨a1, a2⟩ | ⟨a1, a2⟩
        · simp [evT, ev, a1, a2]
        · simp [evT, ev, a1, a2]
      simp only [exS, test, bnd_ret]
      have e3 : getIx (.box cc) (cD r.1) s' = .ok (.int r.2) s' := ok_of_wp (by
        rw [wp_getIx_T hcc' (lookF hg0 hr)]
        exact ⟨rfl, rfl⟩)
      cases hlt : lets t p with
      | false =>
        simp [exSs_nil]
        refine ⟨done ++ [p], rst, by simpa using h1, rfl, rows', hg', hu', ho, fun g => ?_⟩
        rw [htt, pieces_if, hlt]; simp
      | true =>
        simp
        refine wp_cons' ?_
        simp [exS, ev, evs, wp_bnd, wp_noExc, setT, datasOf, small_of, add_cD r.1 p (show r.1.length ≤ 1000 by omega), f_law_window]
        rw [show R.win (r.1 ++ [p]) = R.beh r.1 p from rfl]
        refine wp_cons' ?_
        refine w_inc hg' hW rfl rfl hu' (m := r.2) ?_ ?_
        · refine ok_of_wp ?_
          simp [ev, wp_bnd]
          refine wp_of_ok e3 ?_
          simp
        · simp [exSs_nil]
          refine ⟨done ++ [p], rst, by simpa using h1, rfl, put (R.beh r.1 p) ((look (R.beh r.1 p) rows').getD 0 + r.2) rows', hg'.put hW _, ?_, ho.set _, fun g => ?_⟩
          · have := get_set_self hu' (y := ⟨.dic true (rD .int (put (R.beh r.1 p) ((look (R.beh r.1 p) rows').getD 0 + r.2) rows')), true⟩)
            simpa using this
          · rw [put_tot, htt, pieces_if, hlt, Int.mul_add, Int.add_assoc]; simp
  · rintro φ s' ⟨done, rst, rows', w6, w7, h1, h2, rfl, hg', hu', ho, htt⟩
    have : rst = [] := by cases rst with | nil => rfl | cons _ _ => cases h2
    subst this
    rw [List.append_nil] at h1
    subst h1
    simp [exSs_nil]
    exact q rows' w6 w7 s' hg' hu' ho htt
theorem w_lm_2 {n : Nat} {R : Ru} {cc : Nat} {t : Option Pc} {rc : D} {rows : List (List Pc × Int)} {v4 v5 v6 v7 : Option VV} {s0 s : Sto} {E : Exc → Sto → Prop} {Q : Fl × Sl → Sto → Prop} (ht : R.OkT t)
    (hU : Up s0 s) (hc0 : s0.length ≤ cc) (hg : Good R rows) (hc : s[cc]? = some ⟨.dic true (rD .int rows), true⟩)
    (q : ∀ rows' u w4 w5 w6 w7 s', Good R rows' → s'[u]? = some ⟨.dic true (rD .int rows'), true⟩ → Up s0 s' → s0.length ≤ u → (∀ g, tot g rows' = tot (R.SL t g) rows) →
      Q (.nxt, [some (.d R.parts), some (.d rc), some (.box u), some (.d (oD t)), w4, w5, w6, w7]) s') :
    Wp E (exSs T (callA T (n + 2)) B__law_many_2 [some (.d R.parts), some (.d rc), some (.box cc), some (.d (oD t)), v4, v5, v6, v7] s) Q := by
  have hl := hg.len
  have hcl := (List.getElem?_eq_some_iff.mp hc).1
  have hul := hU.len
  unfold B__law_many_2
  refine wp_cons' ?_
  simp [exS, ev, evF, wp_bnd, wp_newBox, wp_noExc, setT]
  refine wp_cons' ?_
  have hc1 : (s ++ [(⟨.dic true [], true⟩ : Bx)])[cc]? = some ⟨.dic true (rD .int rows), true⟩ := by rw [List.getElem?_append_left hcl]; exact hc
  have hil : itemsD (.lst (rows.map fun r => cD r.1)) = some (rows.map fun r => cD r.1) := items_lst (by simp; omega)
  simp only [exS]
  simp [evI, ev, evF, wp_bnd, wp_deref_dic hc1, lkeys_rD rows hl, ctZ, freeze_d, hil]
  refine wp_forGo (fun rest φ s' => ∃ done rst rows' w5 w6 w7, done ++ rst = rows ∧ rest = rst.map (fun r => cD r.1) ∧
    φ = [some (.d R.parts), some (.d rc), some (.box cc), some (.d (oD t)), some (.box s.length), w5, w6, w7] ∧ Good R rows' ∧ s'[s.length]? = some ⟨.dic true (rD .int rows'), true⟩ ∧ s'[cc]? = some ⟨.dic true (rD .int rows), true⟩ ∧ Up s0 s' ∧
    (∀ g, tot g rows' = tot (R.SL t g) done)) ?_ ?_ _ _ _ ⟨[], rows, [], v5, v6, v7, rfl, rfl, rfl, .nil R, by simp [rD], hc1, hU.trans (Up.add s _), fun g => rfl⟩
  · rintro x rest φ s' ⟨done, rst, rows', w5, w6, w7, h1, h2, rfl, hg', hu', hf', hU', htt⟩
    cases rst with
    | nil => cases h2
    | cons r rst =>
      obtain ⟨rfl, rfl⟩ := List.cons.inj h2
      have hr : r ∈ rows := by rw [← h1]; simp
      simp [wp_bnd, wp_noExc, setT]
      refine w_lm_1 (n := n) ht hg hr hf' (by omega) hg' hu' fun rows2 w6' w7' s2 hg2 hu2 ho ht2 => ?_
      refine ⟨done ++ [r], rst, by simpa using h1, rfl, ⟨_, _, _, rfl⟩, rows2, hg2, hu2, ho.get hf' (by omega), ho.up hU' hul, fun g => ?_⟩
      rw [ht2, htt, tot_snoc]
  · rintro φ s' ⟨done, rst, rows', w5, w6, w7, h1, h2, rfl, hg', hu', hf', hU', htt⟩
    have : rst = [] := by cases rst with | nil => rfl | cons _ _ => cases h2
    subst this
    rw [List.append_nil] at h1
    subst h1
    show Wp E (exSs T (callA T (n + 2)) _ _ s') Q
    refine wp_cons' ?_
    simp [exS, ev, wp_bnd, wp_noExc, setT, exSs_nil]
    exact q rows' _ _ _ _ _ s' hg' hu' hU' hul htt
theorem w_law_many {n : Nat} {R : Ru} {rec_ : List (Option Pc)} {s : Sto} {E : Exc → Sto → Prop} {Q : VV → Sto → Prop} (hr : R.OkR rec_) (hrl : rec_.length ≤ 60) (q : ∀ s', Up s s' → Q (.d (.int (R.fill rec_ []))) s') :
    Wp E (callA T (n + 3) (.f i__law_many) [.d R.parts, .d (recD rec_)] s) Q := by
  refine wp_callA T (n + 2) i__law_many _ rfl ?_
  simp only [runF, B__law_many]
  simp [wp_bnd, startS]
  refine wp_cons' ?_
  have kt : (keyT (.tup [])).isSome = true := rfl
  simp [exS, ev, evs, evF, wp_bnd, wp_newBox, wp_noExc, setT, noExc, datasOf, small_of, kt]
  refine wp_cons' ?_
  have hi : itemsD (recD rec_) = some (rec_.map oD) := items_tup (by simp; omega)
  simp [exS, evI, ev, wp_bnd, freeze_d, hi]
  refine wp_forGo (fun rest φ s' => ∃ done todo rows c v3 v4 v5 v6 v7, done ++ todo = rec_ ∧ rest = todo.map oD ∧ φ = [some (.d R.parts), some (.d (recD rec_)), some (.box c), v3, v4, v5, v6, v7] ∧ s'[c]? = some ⟨.dic true (rD .int rows), true⟩ ∧ s.length ≤ c ∧ Good R rows ∧ Up s s' ∧
    tot (R.fill todo) rows = R.fill rec_ []) ?_ ?_ _ _ _ ⟨[], rec_, [([], 1)], s.length, none, none, none, none, none, rfl, rfl, rfl, by simp [rD, cD], Nat.le_refl _, ⟨by simp, fun r hr => by rw [List.mem_singleton] at hr; rw [hr]; exact .nil R⟩, Up.add s _, by simp [tot]⟩
  · rintro x rest φ s' ⟨done, todo, rows, c, v3, v4, v5, v6, v7, h1, h2, rfl, hc, hc0, hg, hU, ht⟩
    cases todo with
    | nil => cases h2
    | cons t todo =>
      obtain ⟨rfl, rfl⟩ := List.cons.inj h2
      have htm : R.OkT t := hr t (by rw [← h1]; simp)
      simp [wp_bnd, wp_noExc, setT]
      refine w_lm_2 htm hU hc0 hg hc fun rows' u w4 w5 w6 w7 s2 hg2 hu2 hU2 hu0 ht2 => ?_
      refine ⟨done ++ [t], todo, by simpa using h1, rfl, rows', u, ⟨_, _, _, _, _, rfl⟩, hu2, hu0, hg2, hU2, ?_⟩
      rw [ht2]; exact ht
  · rintro φ s' ⟨done, todo, rows, c, v3, v4, v5, v6, v7, h1, h2, rfl, hc, hc0, hg, hU, ht⟩
    have : todo = [] := by cases todo with | nil => rfl | cons _ _ => cases h2
    subst this
    refine wp_cons' ?_
    have hsum : (rows.map (·.2)).sum = R.fill rec_ [] := by rw [← tot_fill R]; exact ht
    simp [exS, ev, evs, evF, wp_bnd, wp_deref_dic hc, lvals_rD rows hg.len, ctZ, derefs]
    have hs2 := sum_ints (rows.map (·.2))
    rw [hsum, List.map_map] at hs2
    simp [hs2]
    exact q s' hU
end K
end VI

namespace VI
open PySem L2 M
/-! WE (wells): drawn records; same; a well. -/
theorem isNon_i (i : Int) : isNon (.d (.int i)) = false := rfl
theorem isD_it (i : Int) : isD (.int i) .tuple = false := rfl
theorem tuple_lst (xs : List D) : bltD .tuple [.lst xs] = some (.tup xs) := rfl
theorem len_lck (xs : List D) : bltD .len [.lck xs] = some (.int xs.length) := rfl
theorem ix_lck (xs : List D) (i : Int) : getIx (.d (.lck xs)) (.int i) = M.opt (atI xs i) := rfl
theorem sl_lck (xs : List D) (k : Nat) : slD (.lck xs) none (some (k : Int)) = some (.lst (xs.take k)) := by
  show some (D.lst _) = _
  rw [cutL_pre]
theorem blt_abs (i : Int) : bltD .abs [.int i] = some (.int (if i < 0 then -i else i)) := rfl
theorem binD_pow {i j : Int} (h : 0 ≤ j ∧ j ≤ 1000000 ∧ i.natAbs < 2 ^ 64) : binD .pow (.int i) (.int j) = some (.int (i ^ j.toNat)) := if_pos h
theorem pow_10 : binD .pow (.int 10) (.int 15) = some (.int 1000000000000000) := by
  have h : binD .pow (.int 10) (.int 15) = some (.int (10 ^ (15 : Int).toNat)) := binD_pow (by decide +kernel)
  rw [h, show (10 : Int) ^ (15 : Int).toNat = 1000000000000000 by decide +kernel]
namespace K
theorem f_same_int (n : Nat) (i : Int) : callA T (n + 1) (.f i__law_same) [.d (.int i), .d (.int i)] = ret (.d (.bl true)) := by
  rw [callA_f T n _ _ rfl]
  simp [runF, B__law_same, exSs, exS, ev, evs, evT, startS, isVV_d, isD_it, isD_ii, isD_ib, isNon_i, cmp_eq_int]
theorem f_same_tup (n : Nat) (xs : List D) (h : xs.length ≤ 1000) (hx : ∀ x ∈ xs, callA T n (.f i__law_same) [.d x, .d x] = ret (.d (.bl true))) : callA T (n + 1) (.f i__law_same) [.d (.tup xs), .d (.tup xs)] = ret (.d (.bl true)) := by
  rw [callA_f T n _ _ rfl]
  have hne : cmpD .ne (.int xs.length) (.int xs.length) = some false := by
    show (eqD (.int xs.length) (.int xs.length)).map (!·) = _
    have := cmp_eq_int (xs.length : Int) xs.length
    have h2 : eqD (.int xs.length) (.int xs.length) = some true := by rw [show eqD (.int xs.length) (.int xs.length) = cmpD .eq (.int xs.length) (.int xs.length) from rfl, this]; simp
    rw [h2]; rfl
  simp [runF, B__law_same, exSs, exS, ev, evs, evT, evF, evI, setT, startS, isVV_d, isD_tup, derefs, blt_len_tup, hne, wipeS, rngOk_of (show (-1000000 : Int) ≤ xs.length ∧ (xs.length : Int) ≤ 1000000 by omega), rng0]
  rw [compGo_map (g := fun _ => D.bl true)]
  · simp [ctZ, derefs, all_true]
  · intro k hk
    have hk' := List.mem_range.mp hk
    simp [getIx_tup, atI_nat, List.getElem?_eq_getElem hk', hx _ (List.getElem_mem hk')]
theorem f_same_2 (n : Nat) (i : Int) : callA T (n + 2) (.f i__law_same) [.d (.tup [.int i, .int i]), .d (.tup [.int i, .int i])] = ret (.d (.bl true)) :=
  f_same_tup (n + 1) _ (by simp) fun x hx => by
    simp at hx
    subst hx
    exact f_same_int n i
theorem w_well {n : Nat} {ns : List Int} {lap : Nat} {E : Exc → Sto → Prop} {Q : VV → Sto → Prop} {β : Sto} (hl : ns.length ≤ 63) (q : ∀ b, (∃ x y z : Int, b = ⟨.lst [.int x, .int y, .int z], true⟩) → Q (.box β.length) (β ++ [b])) :
    Wp E (callA T (n + 1) (.f i__law_well) [.d (.lck (ns.map .int)), .d (.int lap)] β) Q := by
  refine wp_callA T n i__law_well _ rfl ?_
  simp [runF, B__law_well, exSs, exS, ev, evs, evT, evF, evI, evO, wp_bnd, setT, startS, datasOf, small_of, derefs, len_lck, cmp_lt]
  have e16 : slD (.lck (ns.map .int)) none (some 16) = some (.lst ((ns.map .int).take 16)) := sl_lck _ 16
  simp [binD_mul, mulOk_l, binD_add, e16, items_lst (show ((ns.map D.int).take 16).length ≤ 100000 by simp; omega), -List.map_take]
  refine Wp.imp (Q := fun (a : Fl × Sl) s' => (∃ w : Int, ∃ v3, a = (.nxt, [some (.d (.lck (ns.map .int))), some (.d (.int lap)), some (.d (.int w)), v3, none])) ∧ s' = β) ?_ ?_
  · refine wp_forGo (fun rest φ s' => (∀ x ∈ rest, ∃ i : Int, x = .int i) ∧ (∃ w : Int, ∃ v3, φ = [some (.d (.lck (ns.map .int))), some (.d (.int lap)), some (.d (.int w)), v3, none]) ∧ s' = β) ?_ ?_ _ _ _ ⟨fun x hx => ?_, ⟨_, none, rfl⟩, rfl⟩
    · rintro x rest φ s' ⟨hx, ⟨w, v4, rfl⟩, rfl⟩
      obtain ⟨i, rfl⟩ := hx x (List.mem_cons_self ..)
      simp [wp_bnd, B__law_well_0, exSs, exS, ev, evs, setT, binD_mul, mulOk_r, binD_mod, binD_add, derefs, blt_int]
      exact fun x hx' => hx x (List.mem_cons_of_mem _ hx')
    · rintro φ s' ⟨hx, h, rfl⟩
      obtain ⟨w, v4, rfl⟩ := h
      exact ⟨⟨w, v4, rfl⟩, rfl⟩
    · obtain ⟨i, _, rfl⟩ := List.mem_map.mp (List.mem_of_mem_take hx)
      exact ⟨i, rfl⟩
  rintro _ s2 ⟨⟨w, v3, rfl⟩, rfl⟩
  simp [wp_bnd]
  refine Wp.imp (Q := fun (a : VV) s' => (∃ z : Int, a = .d (.int z)) ∧ s' = s2) ?_ ?_
  · by_cases h : lap < ns.length
    · simp [h, wp_bnd, ix_lck, atI_nat, blt_int, derefs]
    · simp [h, wp_bnd]
  rintro _ s ⟨⟨z, rfl⟩, rfl⟩
  simp [wp_bnd, binD_mul, mulOk_r, mulOk_l, binD_mod, binD_add, derefs, blt_int, pow_10, cmp_ge, cmp_lt, ite_ret]
  refine Wp.imp (Q := fun (a : VV) s' => (∃ z : Int, a = .d (.int z)) ∧ s' = s) ?_ ?_
  · by_cases h : z < 0
    · simp [h, wp_bnd, blt_abs, derefs]
    · by_cases h2 : 1000000000000000 ≤ z
      · simp [h, h2, wp_bnd, blt_abs, derefs]
      · simp [h, h2, wp_bnd, blt_abs, derefs]
  rintro _ s3 ⟨⟨y, rfl⟩, rfl⟩
  simp [wp_bnd, datasOf, small_of, wp_newBox]
  exact q _ ⟨_, _, _, rfl⟩
theorem w_record_0 {n p u : Nat} {R : Ru} {x : Pc} {rc : List (Option Pc)} {v2 v3 v6 : Option VV} {s : Sto} {E : Exc → Sto → Prop} {Q : Fl × Sl → Sto → Prop} (h : PoolAt s p) (hu : s[u]? = some ⟨.lst (rc.map oD), true⟩) (hup : u ≠ p)
    (hx : x ∈ R.ps) (hrl : rc.length ≤ 1000)
    (q : ∀ (t : Option Pc) w6 s', R.OkT t → Ch p s s' → Q (.nxt, [some (.box p), some (.d R.parts), v2, v3, some (.box u), some (.d (Enc.d x.nm)), w6]) (s'.set u ⟨.lst ((rc ++ [t]).map oD), true⟩)) :
    Wp E (exSs T (callA T (n + 2)) B__law_record_0 [some (.box p), some (.d R.parts), v2, v3, some (.box u), some (.d (Enc.d x.nm)), v6] s) Q := by
  unfold B__law_record_0
  refine wp_cons' ?_
  simp [exS, ev, evs, wp_bnd, datasOf, small_of]
  refine w_of_tup h (by simp) (by decide) fun y s1 hy c1 => ?_
  obtain ⟨m, rfl, hm1, hm2⟩ : ∃ m : Int, y = .int m ∧ 1 ≤ m ∧ m < 1073741824 := by
    simp at hy
    rcases hy with rfl | rfl
    · exact ⟨3, rfl, by decide, by decide⟩
    · exact ⟨6, rfl, by decide, by decide⟩
  refine w_draw (n := n + 1) c1.pool hm1 hm2 fun way s2 w1 w2 c2 => ?_
  have c2 := c1.trans c2
  simp [setT, wp_noExc, wp_bnd]
  have hs : small rc.length = true := small_of (by omega)
  have fin : ∀ (t : Option Pc) s', R.OkT t → Ch p s s' → Wp E (exSs T (callA T (n + 2)) .nil [some (.box p), some (.d R.parts), v2, v3, some (.box u), some (.d (Enc.d x.nm)), some (.d (.int way))] (s'.set u ⟨.lst (rc.map oD ++ [oD t]), true⟩)) Q := fun t s' ht c => by
    have := q t (some (.d (.int way))) s' ht c
    rw [List.map_append] at this
    exact this
  have get : ∀ s', Ch p s s' → s'[u]? = some ⟨.lst (rc.map oD), true⟩ := fun s' c => (c.oth u hup (List.getElem?_eq_some_iff.mp hu).1).trans hu
  refine wp_cons' ?_
  have hu2 := get _ c2
  simp [exS, ev, evs, evT, wp_bnd, wp_isLst_at hu2, cmp_eq_int]
  by_cases e0 : way = 0
  · simp [e0, wp_bnd, wp_getBox_at hu2, hs, wp_setBox_at hu2]
    have := fin none s2 (fun _ h => by cases h) c2
    rw [e0] at this
    exact this
  · by_cases e1 : way = 1
    · simp [e1, wp_bnd, f_name_list]
      refine w_of_lst (n := n) c2.pool (by have := R.h1; intro e; have e := congrArg List.length e; simp only [Ru.ns, List.length_map, List.length_nil] at e; omega) (by have := R.h1; simp [Ru.ns]; omega) fun y s3 hy c3 => ?_
      obtain ⟨nm, hnm, rfl⟩ := List.mem_map.mp hy
      obtain ⟨pc, hpc, rfl⟩ := List.mem_map.mp hnm
      have c3 := c2.trans c3
      have hu3 := get _ c3
      simp [wp_bnd, wp_getBox_at hu3, hs, wp_setBox_at hu3]
      have := fin (some pc) s3 (fun _ h => by cases h; exact hpc) c3
      rw [e1] at this
      exact this
    · simp [e0, e1, wp_bnd, wp_getBox_at hu2, hs, wp_setBox_at hu2]
      exact fin (some x) s2 (fun _ h => by cases h; exact hx) c2
theorem w_record {n p k : Nat} {R : Ru} {E : Exc → Sto → Prop} {Q : VV → Sto → Prop} {β : Sto} (h : PoolAt β p) (hk : 1 ≤ k ∧ k ≤ 20)
    (q : ∀ (rc : List (Option Pc)) β', R.OkR rc → 1 ≤ rc.length → rc.length ≤ 20 → Ch p β β' → Q (.d (recD rc)) β') : Wp E (callA T (n + 4) (.f i__law_record) [.box p, .d R.parts, .d (.int k)] β) Q := by
  refine wp_callA T (n + 3) i__law_record _ rfl ?_
  have hp := h.lt
  simp only [runF, B__law_record]
  simp [wp_bnd, startS]
  refine wp_cons' ?_
  simp [exS, ev, evs, evF, wp_bnd]
  refine w_course (n := n) h (by omega) fun c s1 hc hcl c1 => ?_
  simp [wp_bnd, wp_newBox, datasOf, small_of]
  have c2 : Ch p β (s1 ++ [⟨.lst [], true⟩]) := c1.trans (.new c1.pool _)
  have hge := c1.len
  have hup : s1.length ≠ p := by omega
  have hu2 : (s1 ++ [(⟨.lst [], true⟩ : Bx)])[s1.length]? = some ⟨.lst [], true⟩ := snoc_get s1 _
  obtain ⟨L, hL1, hL20, hLm, heq⟩ : ∃ L : List Pc, 1 ≤ L.length ∧ L.length ≤ 20 ∧ (∀ x ∈ L, x ∈ R.ps) ∧ evI T (callA T (n + 3)) (.seq (.ite (.cmp .ne (.var 3) (.tup .nil)) (.var 3) (.tup (.cons (.ix (.call 45 (.cons (.var 1) .nil)) (.cst (.int 0))) .nil))))
      [some (.box p), some (.d R.parts), some (.d (.int k)), some (.d (cD c)), some (.box s1.length), none, none] = ret (L.map fun p : Pc => Enc.d p.nm) := by
    by_cases e : c = []
    · have hr := R.h1
      cases eps : R.ps with
      | nil => rw [eps] at hr; simp at hr
      | cons p0 ps0 =>
        refine ⟨[p0], by simp, by simp, fun x hx => by rw [List.mem_singleton] at hx; subst hx; exact List.mem_cons_self .., ?_⟩
        have e0 : atI (R.ns.map (Enc.d (α := Nm))) 0 = some (Enc.d p0.nm) := by unfold Ru.ns; rw [eps]; exact atI_nat _ 0
        have ei : itemsD (.tup [Enc.d p0.nm]) = some [Enc.d p0.nm] := items_tup (by simp)
        simp [evI, ev, evs, evT, ne_cD_nil, e, datasOf, small_of, f_name_list, getIx_lstD, e0, freeze_d, ei]
    · have hi : itemsD (cD c) = some (c.map fun p : Pc => Enc.d p.nm) := items_tup (by simp; omega)
      refine ⟨c, by have := List.length_pos_iff.mpr e; omega, by omega, hc.mem, ?_⟩
      simp [evI, ev, evs, evT, ne_cD_nil, e, datasOf, small_of, freeze_d, hi]
  refine wp_cons' ?_
  simp only [exS, heq, bnd_ret]
  refine wp_forGo (fun rest φ s' => ∃ todo rc v5 v6, (∀ x ∈ todo, x ∈ R.ps) ∧ rest = todo.map (fun p : Pc => Enc.d p.nm) ∧ φ = [some (.box p), some (.d R.parts), some (.d (.int k)), some (.d (cD c)), some (.box s1.length), v5, v6] ∧ s'[s1.length]? = some ⟨.lst (rc.map oD), true⟩ ∧ R.OkR rc ∧ rc.length + todo.length = L.length ∧ Ch p β s') ?_ ?_ _ _ _ ⟨L, [], none, none, hLm, rfl, rfl, hu2, (fun _ h => by cases h), by simp, c2⟩
  · rintro x rest φ s' ⟨todo, rc, v5, v6, htm, h2, rfl, hu, hok, hlen, c⟩
    cases todo with
    | nil => cases h2
    | cons x todo =>
      obtain ⟨rfl, rfl⟩ := List.cons.inj h2
      rw [List.length_cons] at hlen
      simp [setT, wp_noExc, wp_bnd]
      refine w_record_0 (n := n + 1) c.pool hu hup (htm x (List.mem_cons_self ..)) (by omega) fun t w6 s6 ht c6 => ?_
      have hlt : s1.length < s'.length := (List.getElem?_eq_some_iff.mp hu).1
      refine ⟨todo, fun y hy => htm y (List.mem_cons_of_mem _ hy), rfl, ⟨_, _, rfl⟩, rc ++ [t], by rw [List.getElem?_set_self (Nat.lt_of_lt_of_le hlt c6.len)], fun y hy => ?_, by simp; omega, (c.trans c6).setO _ hge hp⟩
      rcases List.mem_append.mp hy with z | z
      · exact hok y z
      · rw [List.mem_singleton] at z; subst z; exact ht
  · rintro φ s' ⟨todo, rc, v5, v6, htm, h2, rfl, hu, hok, hlen, c⟩
    have : todo = [] := by cases todo with | nil => rfl | cons _ _ => cases h2
    subst this
    simp at hlen
    refine wp_cons' ?_
    simp [exS, ev, evs, wp_bnd, derefs, wp_deref_at hu, tuple_lst]
    exact q rc s' hok (by omega) (by omega) c
end K
end VI

namespace VI
open PySem L2 M
/-! WF (wells): the law k66. -/
theorem up_ch {p : Nat} {s s' : Sto} (h : PoolAt s p) (u : Up s s') : Ch p s s' := by
  obtain ⟨t, rfl⟩ := u
  exact .grow h t
theorem len_rec (rc : List (Option Pc)) : bltD .len [recD rc] = some (.int rc.length) := by
  have := blt_len_tup (rc.map oD)
  rw [List.length_map] at this
  exact this
theorem rep_oD : ∀ k : Nat, repD [D.non] k = (List.replicate k (none : Option Pc)).map oD
  | 0 => rfl
  | k + 1 => by
    rw [List.replicate_succ, List.map_cons, ← rep_oD k]; rfl
theorem mul_lost {k : Nat} (h : 1 ≤ k ∧ k ≤ 1000) : binD .mul (.tup [.non]) (.int k) = some (recD (List.replicate k none)) := by
  show (if (k : Int) = 1 then some (D.tup [.non]) else if 2 ≤ (k : Int) ∧ (k : Int) ≤ 1000 ∧ 1 ≤ [D.non].length ∧ [D.non].length ≤ 100 then some (.tup (repD [.non] (k : Int).toNat)) else none) = _
  by_cases e : k = 1
  · subst e; rfl
  · rw [if_neg (by omega), if_pos ⟨by omega, by omega, by decide, by decide⟩, Int.toNat_natCast, rep_oD]; rfl
theorem mul_2 (x : D) : binD .mul (.tup [x]) (.int 2) = some (.tup [x, x]) := by
  show (if (2 : Int) = 1 then some (D.tup [x]) else if 2 ≤ (2 : Int) ∧ (2 : Int) ≤ 1000 ∧ 1 ≤ [x].length ∧ [x].length ≤ 100 then some (.tup (repD [x] (2 : Int).toNat)) else none) = _
  rw [if_neg (by decide), if_pos ⟨by decide, by decide, by simp, by simp⟩]; rfl
def lessR (rc : List (Option Pc)) (k : Nat) : List (Option Pc) := rc.take k ++ none :: rc.drop (k + 1)
theorem less_eq (rc : List (Option Pc)) (k : Nat) : D.tup ((rc.map oD).take k ++ [D.non] ++ (rc.map oD).drop (k + 1)) = recD (lessR rc k) := by
  simp [lessR, recD, oD]
theorem less_le (R : Ru) (rc : List (Option Pc)) {k : Nat} (hk : k < rc.length) : R.fill rc [] ≤ R.fill (lessR rc k) [] := by
  have h := fill_lost R (rc.take k) rc[k] (rc.drop (k + 1)) []
  rw [← List.drop_eq_getElem_cons hk, List.take_append_drop] at h
  exact h
theorem less_ok {R : Ru} {rc : List (Option Pc)} (k : Nat) (h : R.OkR rc) : R.OkR (lessR rc k) := fun t ht => by
  rcases List.mem_append.mp ht with z | z
  · exact h t (List.mem_of_mem_take z)
  · rcases List.mem_cons.mp z with z | z
    · subst z; intro _ e; cases e
    · exact h t (List.mem_of_mem_drop z)
theorem less_len (rc : List (Option Pc)) {k : Nat} (hk : k < rc.length) : (lessR rc k).length = rc.length := by
  simp [lessR]; omega
namespace K
theorem w_right {n p : Nat} {E : Exc → Sto → Prop} {Q : VV → Sto → Prop} {s : Sto} (h : PoolAt s p) (q : ∀ s', Ch p s s' → Q (.d (.bl true)) s') :
    Wp E (callA T (n + 10) (.f i__law_right) [.box p] s) Q := by
  refine wp_callA T (n + 9) i__law_right _ rfl ?_
  simp only [runF, B__law_right]
  simp [wp_bnd, startS]
  refine wp_cons' ?_
  simp [exS, ev, evs, wp_bnd, datasOf, small_of]
  refine w_of_tup (n := n + 7) h (by simp) (by decide) fun y s1 hy c1 => ?_
  obtain ⟨r, rfl, hr⟩ : ∃ r : Int, y = .int r ∧ 0 ≤ r ∧ r ≤ 3 := by
    simp at hy
    rcases hy with rfl | rfl | rfl
    · exact ⟨1, rfl, by decide, by decide⟩
    · exact ⟨2, rfl, by decide, by decide⟩
    · exact ⟨3, rfl, by decide, by decide⟩
  refine w_rules (n := n + 5) c1.pool (by decide) hr fun R s2 c2 => ?_
  have c2 := c1.trans c2
  simp [setT, wp_noExc, wp_bnd]
  refine wp_cons' ?_
  simp only [exS, ev, evs, List.getElem?_cons_succ, List.getElem?_cons_zero, bnd_ret, wp_bnd]
  refine (g_made n R).wp fun t => ?_
  have c3 := c2.trans (.grow c2.pool t)
  generalize s2 ++ t = s3 at c3
  simp [wp_bnd, datasOf, small_of]
  refine w_of_tup (n := n + 7) c3.pool (by simp) (by decide) fun y s4 hy c4 => ?_
  obtain ⟨m, rfl, hm⟩ : ∃ m : Int, y = .int m ∧ 1 ≤ m ∧ m ≤ 20 := by
    simp at hy
    rcases hy with rfl | rfl
    · exact ⟨5, rfl, by decide, by decide⟩
    · exact ⟨20, rfl, by decide, by decide⟩
  refine w_draw (n := n + 8) c4.pool hm.1 (by omega) fun d s5 d1 d2 c5 => ?_
  obtain ⟨d, rfl⟩ := Int.eq_ofNat_of_zero_le d1
  simp [wp_bnd, binD_add]
  rw [show (1 : Int) + (d : Int) = ((d + 1 : Nat) : Int) by omega]
  refine w_record (n := n + 5) c5.pool (by omega) fun rc s6 hok h1 h20 c6 => ?_
  have c6 := ((c3.trans c4).trans c5).trans c6
  refine wp_cons' ?_
  simp only [exS, ev, evs, List.getElem?_cons_succ, List.getElem?_cons_zero, List.set, bnd_ret, wp_bnd]
  refine w_law_many (n := n + 6) hok (by omega) fun s7 u7 => ?_
  have c7 := c6.trans (up_ch c6.pool u7)
  simp [wp_bnd, derefs, len_rec]
  refine w_draw (n := n + 8) c7.pool (by omega) (by omega) fun a s8 a1 a2 c8 => ?_
  obtain ⟨a, rfl⟩ := Int.eq_ofNat_of_zero_le a1
  have hal : a < rc.length := by omega
  have c8 := c7.trans c8
  refine wp_cons' ?_
  simp only [exS, evT, ev, evs, List.getElem?_cons_succ, List.getElem?_cons_zero, List.set, bnd_ret, wp_bnd]
  refine w_how_many_fill (n := n + 1) hok h1 h20 fun s9 u9 => ?_
  have c9 := c8.trans (up_ch c8.pool u9)
  simp [wp_bnd, permV]
  refine w_how_many_fill (n := n + 1) hok h1 h20 fun s10 u10 => ?_
  have c10 := c9.trans (up_ch c9.pool u10)
  simp [wp_bnd, datasOf, small_of, f_same_2 (n + 7), asBool_d, exSs_nil]
  refine wp_cons' ?_
  have sl1 : slD (recD rc) none (some (a : Int)) = some (.tup ((rc.map oD).take a)) := by show some (D.tup _) = _; rw [cutL_pre]
  have sl2 : slD (recD rc) (some ((a : Int) + 1)) none = some (.tup ((rc.map oD).drop (a + 1))) := by
    rw [show (a : Int) + 1 = ((a + 1 : Nat) : Int) by omega]
    show some (D.tup _) = _; rw [cutL_suf]
  have b1 : binD .add (.tup ((rc.map oD).take a)) (.tup [.non]) = some (.tup ((rc.map oD).take a ++ [.non])) := binD_tup (by simp; omega)
  have b2 : binD .add (.tup ((rc.map oD).take a ++ [.non])) (.tup ((rc.map oD).drop (a + 1))) = some (recD (lessR rc a)) := (binD_tup (by simp; omega)).trans (by rw [less_eq])
  simp [exS, ev, evs, evO, wp_bnd, binD_add, sl1, sl2, datasOf, small_of, b1, b2, setT, wp_noExc, -List.map_take, -List.map_drop]
  have lok := less_ok a hok
  have lle := less_len rc hal
  refine wp_cons' ?_
  simp only [exS, evT, ev, evs, List.getElem?_cons_succ, List.getElem?_cons_zero, List.set, bnd_ret, wp_bnd]
  refine w_how_many_fill (n := n + 1) lok (by omega) (by omega) fun s11 u11 => ?_
  have c11 := c10.trans (up_ch c10.pool u11)
  have hlt : ¬ R.fill (lessR rc a) [] < R.fill rc [] := by have := less_le R rc hal; omega
  simp [wp_bnd, cmp_lt, hlt, asBool_d]
  refine w_how_many_fill (n := n + 1) lok (by omega) (by omega) fun s12 u12 => ?_
  have c12 := c11.trans (up_ch c11.pool u12)
  refine w_law_many (n := n + 6) lok (by omega) fun s13 u13 => ?_
  have c13 := c12.trans (up_ch c12.pool u13)
  simp [wp_bnd, f_same_int (n + 8), asBool_d, exSs_nil]
  refine wp_cons' ?_
  simp [exS, ev, evs, wp_bnd, datasOf, small_of, derefs, len_rec, mul_lost (show 1 ≤ rc.length ∧ rc.length ≤ 1000 by omega), setT, wp_noExc]
  have ook : R.OkR (List.replicate rc.length none) := fun t ht _ e => by rw [List.eq_of_mem_replicate ht] at e; cases e
  have ole : (List.replicate rc.length (none : Option Pc)).length = rc.length := List.length_replicate
  refine wp_cons' ?_
  simp only [exS, ev, evs, List.getElem?_cons_succ, List.getElem?_cons_zero, List.set, bnd_ret, wp_bnd]
  refine w_how_many_fill (n := n + 1) ook (by omega) (by omega) fun s14 u14 => ?_
  have c14 := c13.trans (up_ch c13.pool u14)
  simp [wp_bnd, datasOf, small_of, derefs, len_rec]
  refine (g_how_many (n + 2) R [] rc.length (.nil R) (by simp) (by omega)).wp fun t => ?_
  have c15 := c14.trans (.grow c14.pool t)
  generalize s14 ++ t = s15 at c15
  simp [wp_bnd, datasOf, small_of]
  refine w_law_many (n := n + 6) ook (by omega) fun s16 u16 => ?_
  have c16 := c15.trans (up_ch c15.pool u16)
  have ec : ((R.cnt rc.length [] : Nat) : Int) = R.fill (List.replicate rc.length none) [] := by rw [fill_none]; rfl
  simp [wp_bnd, datasOf, small_of, derefs, mul_2, ec, f_same_2 (n + 7)]
  exact q s16 c16
theorem wp_compGoB {body : D → M Nat} {E : Exc → Sto → Prop} {Q : List Nat → Sto → Prop} (Inv : List D → List Nat → Sto → Prop)
    (step : ∀ x rest acc s, Inv (x :: rest) acc s → Wp E (body x s) fun o s' => Inv rest (acc ++ [o]) s')
    (done : ∀ acc s, Inv [] acc s → Q acc s) : ∀ (xs : List D) (acc : List Nat) (s : Sto), Inv xs acc s → Wp E (compGoB body xs s) fun ys s' => Q (acc ++ ys) s'
  | [], acc, s, i => by
    show Q (acc ++ []) s
    rw [List.append_nil]; exact done acc s i
  | x :: xs, acc, s, i => by
    unfold compGoB
    rw [wp_bnd]
    refine (step x xs acc s i).imp fun o t h => ?_
    rw [wp_bnd]
    refine (wp_compGoB Inv step done xs _ t h).imp fun ys u h => ?_
    show Q (acc ++ (o :: ys)) u
    rw [show acc ++ (o :: ys) = (acc ++ [o]) ++ ys by simp]; exact h
def Wells (ws : List Nat) (s : Sto) : Prop := ∀ w ∈ ws, PoolAt s w
theorem Wells.ch {ws : List Nat} {s s' : Sto} {p : Nat} (h : Wells ws s) (c : Ch p s s') : Wells ws s' := fun w hw => by
  by_cases e : w = p
  · exact e ▸ c.pool
  · obtain ⟨a, b, z, hz⟩ := h w hw
    exact ⟨a, b, z, (c.oth w e (List.getElem?_eq_some_iff.mp hz).1).trans hz⟩
theorem w_law {n : Nat} {ns : List Int} {E : Exc → Sto → Prop} {Q : VV → Sto → Prop} {β : Sto} (hl : ns.length ≤ 63) (q : ∀ β', Q (.d (.bl true)) β') :
    Wp E (callA T (n + 11) (.f i_law) [.d (.lck (ns.map .int))] β) Q := by
  refine wp_callA T (n + 10) i_law _ rfl ?_
  simp only [runF, B_law]
  simp [wp_bnd, startS]
  refine wp_cons' ?_
  obtain ⟨m, hm, hm3⟩ : ∃ m : Nat, (bltD .min2 [.int ns.length, .int 3] = some (.int m)) ∧ m ≤ 3 := by
    refine ⟨min ns.length 3, ?_, by omega⟩
    show some (D.int (if (3 : Int) < ns.length then 3 else ns.length)) = _
    congr 2
    split <;> omega
  obtain ⟨k, hk, hk1, hk3⟩ : ∃ k : Nat, (bltD .max2 [.int 1, .int m] = some (.int k)) ∧ 1 ≤ k ∧ k ≤ 3 := by
    refine ⟨max m 1, ?_, by omega, by omega⟩
    show some (D.int (if (m : Int) > 1 then (m : Int) else 1)) = _
    congr 2
    split <;> omega
  simp [exS, ev, evs, evI, wp_bnd, derefs, len_lck, hm, hk, rngOk_of (show (-1000000 : Int) ≤ k ∧ (k : Int) ≤ 1000000 by omega), rng0, wipeS]
  refine Wp.imp (Q := fun ws s' => ws.length = k ∧ Wells ws s') ?_ ?_
  · refine wp_compGoB (Q := fun ws s' => ws.length = k ∧ Wells ws s') (fun rest acc s' => (∀ x ∈ rest, ∃ i : Nat, x = .int i) ∧ acc.length + rest.length = k ∧ Wells acc s') ?_ ?_ _ [] _ ⟨fun x hx => ?_, by simp, fun w h => by cases h⟩
    · rintro x rest acc s' ⟨hx, hlen, hw⟩
      obtain ⟨i, rfl⟩ := hx x (List.mem_cons_self ..)
      simp [wp_noExc, wp_bnd, setT]
      refine w_well (n := n + 9) hl fun b hb => ?_
      obtain ⟨x1, x2, x3, rfl⟩ := hb
      simp [boxOf]
      refine ⟨fun x hx' => hx x (List.mem_cons_of_mem _ hx'), by simp at hlen; omega, fun w hw' => ?_⟩
      rcases List.mem_append.mp hw' with z | z
      · obtain ⟨a, b, c, hz⟩ := hw w z
        exact ⟨a, b, c, by rw [List.getElem?_append_left (List.getElem?_eq_some_iff.mp hz).1]; exact hz⟩
      · rw [List.mem_singleton] at z
        subst z
        exact ⟨_, _, _, snoc_get s' _⟩
    · rintro acc s' ⟨_, hlen, hw⟩
      exact ⟨by simpa using hlen, hw⟩
    · obtain ⟨i, _, rfl⟩ := List.mem_map.mp hx
      exact ⟨i, rfl⟩
  rintro ws s1 ⟨hwl, hws⟩
  simp [setT, wp_noExc, wp_bnd]
  refine wp_cons' ?_
  simp [exS, ev, evs, evF, evI, evT, wp_bnd, derefs, rngOk_of, rng0, wipeS]
  refine Wp.imp (Q := fun acc s' => ∃ k : Nat, acc = (List.range k).map fun _ => D.bl true) ?_ ?_
  · refine wp_compGo (Q := fun acc s' => ∃ k : Nat, acc = (List.range k).map fun _ => D.bl true) (fun rest acc s' => (∀ x ∈ rest, ∃ i : Nat, x = .int i) ∧ (∃ k : Nat, acc = (List.range k).map fun _ => D.bl true) ∧ Wells ws s') ?_ (fun acc s3 h => h.2.1) _ [] _ ⟨fun x hx => ?_, ⟨0, rfl⟩, hws⟩
    · rintro x rest acc s3 ⟨hx, ⟨j, rfl⟩, hw⟩
      obtain ⟨i, rfl⟩ := hx x (List.mem_cons_self ..)
      obtain ⟨w, hw1, hw2⟩ := atI_pos (xs := ws) (r := (i : Int) % (ws.length : Int)) (Int.emod_nonneg _ (by omega)) (Int.emod_lt_of_pos _ (by omega))
      have hmod : binD .mod (.int i) (.int ws.length) = some (.int ((i : Int) % (ws.length : Int))) := binD_mod (by omega)
      simp [wp_noExc, wp_bnd, setT, derefs, blt_int, hmod, hw1]
      refine w_right (n := n) (hw w hw2) fun s4 c => ?_
      exact ⟨fun x hx' => hx x (List.mem_cons_of_mem _ hx'), ⟨j + 1, by rw [List.range_succ, List.map_append]; rfl⟩, hw.ch c⟩
    · simp at hx
      obtain ⟨i, _, rfl⟩ := hx
      exact ⟨i, rfl⟩
  · rintro acc s3 ⟨j, rfl⟩
    simp [ctZ, derefs, all_true, wp_bnd]
    exact q s3
theorem main (ns : List Int) (hl : ns.length ≤ 63) : ∃ β, callA T 40 (.f i_law) [.d (.lck (ns.map .int))] [] = .ok (.d (.bl true)) β := by
  have h := w_law (n := 29) (ns := ns) (E := noE) (Q := fun a s => a = .d (.bl true)) (β := []) hl fun _ => rfl
  obtain ⟨a, t, e, rfl⟩ := h.ok
  exact ⟨t, e⟩
end K
end VI

set_option maxHeartbeats 2000000
namespace VI
open PySem L2 M
open LamX (CodeO TabB ExtN)

theorem seqT {K : PySem.W.Frag} {H H' : Hp} {a : Addr} {xs : List V} (e : Same H H') (h : SqT K H a xs) : SqT K H' a xs := by
  rcases h with (h | ⟨o, h⟩) | h
  · exact .inl (.inl (e _ _ h))
  · exact .inl (.inr ⟨o, e _ _ h⟩)
  · exact .inr h
mutual
inductive Rep (K : PySem.W.Frag) (cl : Nat → Option Addr) (F : Hp) : V → D → Prop
  | non : Rep K cl F .non .non
  | bl (b : Bool) : Rep K cl F (.bl b) (.bl b)
  | int (i : Int) : Rep K cl F (.int i) (.int i)
  | str (s : Str) : Rep K cl F (.str s) (.str s)
  | tup {a : Addr} {vs : List V} {xs : List D} : F a = some (.tup vs) → Reps K cl F vs xs → Rep K cl F (.ref a) (.tup xs)
  | ktp {a : Addr} {vs : List V} {xs : List D} : SqT K F a vs → Reps K cl F vs xs → Rep K cl F (.ref a) (.ktp xs)
  | lst {a : Addr} {vs : List V} {xs : List D} : F a = some (.lst vs) → Reps K cl F vs xs → Rep K cl F (.ref a) (.lst xs)
  | lck {a : Addr} {vs : List V} {xs : List D} : SqL K F a vs → Reps K cl F vs xs → Rep K cl F (.ref a) (.lck xs)
  | dic {a : Addr} {kvs : List (Key × V)} {r : List (D × D)} : F a = some (.dK kvs) → RepK K cl F kvs r → Rep K cl F (.ref a) (.dic false r)
  | dicT {a : Addr} {kvs : List (List Key × V)} {r : List (D × D)} : F a = some (.dT kvs) → RepT K cl F kvs r → Rep K cl F (.ref a) (.dic true r)
  | fdic {a : Addr} {od : Obj} {kvs : List (Key × V)} {r : List (D × D)} : F a = some (.frz od (.dK kvs)) → RepK K cl F kvs r → Rep K cl F (.ref a) (.fdic false r)
  | fdicT {a : Addr} {od : Obj} {kvs : List (List Key × V)} {r : List (D × D)} : F a = some (.frz od (.dT kvs)) → RepT K cl F kvs r → Rep K cl F (.ref a) (.fdic true r)
  | ins {a dx C : Addr} {c : Nat} {fs : List (Str × V)} {r : List (Str × D)} : cl c = some C → F a = some (.ins C dx fs) → F dx = some (.own a) → RepF K cl F fs r → Rep K cl F (.ref a) (.ins c r)
inductive Reps (K : PySem.W.Frag) (cl : Nat → Option Addr) (F : Hp) : List V → List D → Prop
  | nil : Reps K cl F [] []
  | cons {v : V} {vs : List V} {x : D} {xs : List D} : Rep K cl F v x → Reps K cl F vs xs → Reps K cl F (v :: vs) (x :: xs)
inductive RepK (K : PySem.W.Frag) (cl : Nat → Option Addr) (F : Hp) : List (Key × V) → List (D × D) → Prop
  | nil : RepK K cl F [] []
  | cons {k : Key} {v : V} {kvs : List (Key × V)} {d x : D} {r : List (D × D)} : keyD d = some k → Rep K cl F v x → RepK K cl F kvs r → RepK K cl F ((k, v) :: kvs) ((d, x) :: r)
inductive RepT (K : PySem.W.Frag) (cl : Nat → Option Addr) (F : Hp) : List (List Key × V) → List (D × D) → Prop
  | nil : RepT K cl F [] []
  | cons {k : List Key} {v : V} {kvs : List (List Key × V)} {d x : D} {r : List (D × D)} : keyT d = some k → Rep K cl F v x → RepT K cl F kvs r → RepT K cl F ((k, v) :: kvs) ((d, x) :: r)
inductive RepF (K : PySem.W.Frag) (cl : Nat → Option Addr) (F : Hp) : List (Str × V) → List (Str × D) → Prop
  | nil : RepF K cl F [] []
  | cons {n : Str} {v : V} {fs : List (Str × V)} {x : D} {r : List (Str × D)} : Rep K cl F v x → RepF K cl F fs r → RepF K cl F ((n, v) :: fs) ((n, x) :: r)
end
section
variable {K : PySem.W.Frag} {cl : Nat → Option Addr} {F F' : Hp}
mutual
theorem Rep.mono (e : Same F F') : ∀ {v : V} {x : D}, Rep K cl F v x → Rep K cl F' v x
  | _, _, .non => .non
  | _, _, .bl b => .bl b
  | _, _, .int i => .int i
  | _, _, .str s => .str s
  | _, _, .tup h r => .tup (e _ _ h) (Reps.mono e r)
  | _, _, .ktp h r => .ktp (seqT e h) (Reps.mono e r)
  | _, _, .lst h r => .lst (e _ _ h) (Reps.mono e r)
  | _, _, .lck h r => .lck (e.seq h) (Reps.mono e r)
  | _, _, .dic h r => .dic (e _ _ h) (RepK.mono e r)
  | _, _, .dicT h r => .dicT (e _ _ h) (RepT.mono e r)
  | _, _, .fdic h r => .fdic (e _ _ h) (RepK.mono e r)
  | _, _, .fdicT h r => .fdicT (e _ _ h) (RepT.mono e r)
  | _, _, .ins hC h h' r => .ins hC (e _ _ h) (e _ _ h') (RepF.mono e r)
theorem Reps.mono (e : Same F F') : ∀ {v : List V} {x : List D}, Reps K cl F v x → Reps K cl F' v x
  | _, _, .nil => .nil
  | _, _, .cons h r => .cons (Rep.mono e h) (Reps.mono e r)
theorem RepK.mono (e : Same F F') : ∀ {v : List (Key × V)} {x : List (D × D)}, RepK K cl F v x → RepK K cl F' v x
  | _, _, .nil => .nil
  | _, _, .cons k h r => .cons k (Rep.mono e h) (RepK.mono e r)
theorem RepT.mono (e : Same F F') : ∀ {v : List (List Key × V)} {x : List (D × D)}, RepT K cl F v x → RepT K cl F' v x
  | _, _, .nil => .nil
  | _, _, .cons k h r => .cons k (Rep.mono e h) (RepT.mono e r)
theorem RepF.mono (e : Same F F') : ∀ {v : List (Str × V)} {x : List (Str × D)}, RepF K cl F v x → RepF K cl F' v x
  | _, _, .nil => .nil
  | _, _, .cons h r => .cons (Rep.mono e h) (RepF.mono e r)
end
theorem Reps.len : ∀ {vs : List V} {xs : List D}, Reps K cl F vs xs → vs.length = xs.length
  | _, _, .nil => rfl
  | _, _, .cons _ r => congrArg (· + 1) r.len
theorem Reps.get : ∀ {vs : List V} {xs : List D} {i : Nat} {v : V}, Reps K cl F vs xs → vs[i]? = some v → ∃ x, xs[i]? = some x ∧ Rep K cl F v x
  | _, _, _, _, .nil, e => by simp at e
  | _, _, 0, _, .cons h r, e => by simp at e; subst e; exact ⟨_, rfl, h⟩
  | _, _, i + 1, _, .cons h r, e => by simpa using r.get (i := i) (by simpa using e)
theorem Reps.get' : ∀ {vs : List V} {xs : List D} {i : Nat} {x : D}, Reps K cl F vs xs → xs[i]? = some x → ∃ v, vs[i]? = some v ∧ Rep K cl F v x
  | _, _, _, _, .nil, e => by simp at e
  | _, _, 0, _, .cons h r, e => by simp at e; subst e; exact ⟨_, rfl, h⟩
  | _, _, i + 1, _, .cons h r, e => by simpa using r.get' (i := i) (by simpa using e)
theorem Reps.append : ∀ {vs ws : List V} {xs ys : List D}, Reps K cl F vs xs → Reps K cl F ws ys → Reps K cl F (vs ++ ws) (xs ++ ys)
  | _, _, _, _, .nil, s => s
  | _, _, _, _, .cons h r, s => .cons h (r.append s)
theorem Reps.take : ∀ {vs : List V} {xs : List D} (n : Nat), Reps K cl F vs xs → Reps K cl F (vs.take n) (xs.take n)
  | _, _, 0, _ => .nil
  | _, _, _ + 1, .nil => .nil
  | _, _, n + 1, .cons h r => .cons h (r.take n)
theorem Reps.drop : ∀ {vs : List V} {xs : List D} (n : Nat), Reps K cl F vs xs → Reps K cl F (vs.drop n) (xs.drop n)
  | _, _, 0, r => r
  | _, _, _ + 1, .nil => .nil
  | _, _, n + 1, .cons h r => r.drop n
theorem Reps.set {v : V} {x : D} (h : Rep K cl F v x) : ∀ {vs : List V} {xs : List D} (i : Nat), Reps K cl F vs xs → Reps K cl F (vs.set i v) (xs.set i x)
  | _, _, _, .nil => .nil
  | _, _, 0, .cons _ t => .cons h t
  | _, _, i + 1, .cons q t => .cons q (Reps.set h i t)
theorem Reps.cut {vs : List V} {xs : List D} (r : Reps K cl F vs xs) (lo hi : Option Int) : Reps K cl F (cutV vs lo hi) (cutL xs lo hi) := by
  unfold cutV cutL
  rw [r.len]
  exact (r.drop _).take _
theorem Reps.rep {vs : List V} {xs : List D} (r : Reps K cl F vs xs) : ∀ k : Nat, Reps K cl F (List.replicate k vs).flatten (List.replicate k xs).flatten
  | 0 => .nil
  | k + 1 => by
    rw [List.replicate_succ, List.replicate_succ, List.flatten_cons, List.flatten_cons]
    exact r.append (r.rep k)
mutual
theorem Rep.dp {H : Hp} (e : Same F H) : ∀ {v : V} {x : D} {p : PyData}, Rep K cl F v x → x.toPy = some p → Dp K H v p
  | _, _, _, .non, h => by simp [D.toPy] at h; subst h; exact .non
  | _, _, _, .bl b, h => by simp [D.toPy] at h; subst h; exact .bl b
  | _, _, _, .int b, h => by simp [D.toPy] at h; subst h; exact .int b
  | _, _, _, .str b, h => by simp [D.toPy] at h; subst h; exact .str b
  | _, _, _, .tup s r, h => by
    simp only [D.toPy, Option.map_eq_some_iff] at h
    obtain ⟨ps, h1, rfl⟩ := h
    exact .tup (.inl (.inl (e _ _ s))) (Reps.dp e r h1)
  | _, _, _, .ktp s r, h => by
    simp only [D.toPy, Option.map_eq_some_iff] at h
    obtain ⟨ps, h1, rfl⟩ := h
    exact .tup (seqT e s) (Reps.dp e r h1)
  | _, _, _, .lst s r, h => by
    simp only [D.toPy, Option.map_eq_some_iff] at h
    obtain ⟨ps, h1, rfl⟩ := h
    exact .lst (SqL.of (e _ _ s)) (Reps.dp e r h1)
  | _, _, _, .lck s r, h => by
    simp only [D.toPy, Option.map_eq_some_iff] at h
    obtain ⟨ps, h1, rfl⟩ := h
    exact .lst (e.seq s) (Reps.dp e r h1)
  | _, _, _, .dic _ _, h => by simp [D.toPy] at h
  | _, _, _, .dicT _ _, h => by simp [D.toPy] at h
  | _, _, _, .fdic _ _, h => by simp [D.toPy] at h
  | _, _, _, .fdicT _ _, h => by simp [D.toPy] at h
  | _, _, _, .ins _ _ _ _, h => by simp [D.toPy] at h
theorem Reps.dp {H : Hp} (e : Same F H) : ∀ {vs : List V} {xs : List D} {ps : List PyData}, Reps K cl F vs xs → toPyL xs = some ps → DpAll K H vs ps
  | _, _, _, .nil, h => by simp [toPyL] at h; subst h; exact .nil
  | _, x :: xs, _, .cons h1 h2, h => by
    cases ha : x.toPy with
    | none => simp [toPyL, ha] at h
    | some p =>
      cases hb : toPyL xs with
      | none => simp [toPyL, ha, hb] at h
      | some ps' =>
        simp only [toPyL, ha, hb, Option.some.injEq] at h
        subst h
        exact .cons (Rep.dp e h1 ha) (Reps.dp e h2 hb)
end
end

/-! ### the world of a run -/
/-- what is fixed: the program, its written part, the tables of code objects, the classes by number -/
structure FI where
  nm : Str
  qual : Str
  st : Stmt
  ad : Addr
  cd : Value
  fd : FuncData
  ps : List Str
  N : List Str
/-- a lambda of the text -/
structure LI where
  qual : Str
  params : Arguments
  body : Expr
  scope : Scope
  ps : List Str
  fr : List Str
  N : List Str
/-- an object that stands as it is -/
abbrev pinO (a : Addr) (o : Obj) : HO := .frz o (.ext fun h => h.get? a = some o)
structure G where
  fi : Nat → FI
  P : Program
  w : World
  K : PySem.W.Frag
  mg : Str → Option Value
  bok : Heap → Prop
  T : Tbl
  NT : List (Addr × Str)
  cl : Nat → Option Addr
  lok : LDef → LI → Prop
/-- the boxes' addresses, what is data for good, all that is tracked -/
structure Sx where
  ι : List Addr
  F : Hp
  H : Hp
structure Le (S S' : Sx) : Prop where
  ι : ∃ r, S'.ι = S.ι ++ r
  F : Same S.F S'.F
  keep : ∀ b o, S.H b = some o → b ∉ S.ι → (∀ ps, o ≠ .tbl ps) → S'.H b = some o
  tbl : ∀ b ps, S.H b = some (.tbl ps) → ∃ qs, S'.H b = some (.tbl qs)
  there : ∀ b o, S.H b = some o → ∃ o', S'.H b = some o'
  fresh : ∀ b, S'.F b ≠ none → S.F b = none → S.H b = none ∨ b ∈ S.ι ∨ (∃ x, S.H b = some (.own x)) ∨ ∃ vs, S.H b = some (.tup vs)
  new : ∀ b ∈ S'.ι, b ∈ S.ι ∨ S.H b = none
theorem Le.refl (S : Sx) : Le S S := ⟨⟨[], by simp⟩, .refl _, fun _ _ h _ _ => h, fun _ ps h => ⟨ps, h⟩, fun _ o h => ⟨o, h⟩, fun _ h1 h2 => absurd h2 h1, fun _ h => .inl h⟩
theorem none_back {S S' : Sx} (a : Le S S') {b : Addr} (h : S'.H b = none) : S.H b = none := by
  cases q : S.H b with
  | none => rfl
  | some o => obtain ⟨o', e⟩ := a.there b o q; rw [h] at e; cases e
theorem Le.trans {S S' S'' : Sx} (a : Le S S') (b : Le S' S'') : Le S S'' := by
  have nin : ∀ c o, S.H c = some o → c ∉ S.ι → c ∉ S'.ι := fun c o h n z => (a.new c z).elim n fun e => by rw [h] at e; cases e
  refine ⟨?_, a.F.trans b.F, fun c o h n t => b.keep c o (a.keep c o h n t) (nin c o h n) t, fun c ps h => ?_, fun c o h => ?_, fun c h1 h2 => ?_, fun c h => ?_⟩
  · obtain ⟨r, e⟩ := a.ι
    obtain ⟨r', e'⟩ := b.ι
    exact ⟨r ++ r', by rw [e', e, List.append_assoc]⟩
  · obtain ⟨qs, e⟩ := a.tbl c ps h
    exact b.tbl c qs e
  · obtain ⟨o', e⟩ := a.there c o h
    exact b.there c o' e
  · cases q : S'.F c with
    | some o => exact a.fresh c (by rw [q]; simp) h2
    | none =>
      rcases b.fresh c h1 q with z | z | ⟨x, z⟩ | ⟨x, z⟩
      · exact .inl (none_back a z)
      · exact (a.new c z).elim (fun z => .inr (.inl z)) .inl
      · cases e : S.H c with
        | none => exact .inl rfl
        | some o =>
          by_cases hc : c ∈ S.ι
          · exact .inr (.inl hc)
          · by_cases ht : ∃ ps, o = .tbl ps
            · obtain ⟨ps, rfl⟩ := ht
              obtain ⟨qs, e'⟩ := a.tbl c ps e
              rw [z] at e'; cases e'
            · have e' := a.keep c o e hc fun ps y => ht ⟨ps, y⟩
              rw [z] at e'; cases e'
              exact .inr (.inr (.inl ⟨x, rfl⟩))
      · cases e : S.H c with
        | none => exact .inl rfl
        | some o =>
          by_cases hc : c ∈ S.ι
          · exact .inr (.inl hc)
          · by_cases ht : ∃ ps, o = .tbl ps
            · obtain ⟨ps, rfl⟩ := ht
              obtain ⟨qs, e'⟩ := a.tbl c ps e
              rw [z] at e'; cases e'
            · have e' := a.keep c o e hc fun ps y => ht ⟨ps, y⟩
              rw [z] at e'; cases e'
              exact .inr (.inr (.inr ⟨x, rfl⟩))
  · rcases b.new c h with z | z
    · exact a.new c z
    · exact .inr (none_back a z)
theorem Le.ιget {S S' : Sx} (a : Le S S') {n : Nat} {p : Addr} (h : S.ι[n]? = some p) : S'.ι[n]? = some p := by
  obtain ⟨r, e⟩ := a.ι
  rw [e, List.getElem?_append_left (List.getElem?_eq_some_iff.mp h).1]
  exact h
section
variable (g : G)
/-- what stands at p is the box's content -/
def CtOk (F H : Hp) (p : Addr) : Ct → Prop
  | .lst xs => ∃ vs, H p = some (.lst vs) ∧ Reps g.K g.cl F vs xs
  | .dic false kvs => ∃ r, H p = some (.dK r) ∧ RepK g.K g.cl F r kvs
  | .dic true kvs => ∃ r, H p = some (.dT r) ∧ RepT g.K g.cl F r kvs
  | .fdic false kvs => ∃ od r, H p = some (.frz od (.dK r)) ∧ RepK g.K g.cl F r kvs
  | .fdic true kvs => ∃ od r, H p = some (.frz od (.dT r)) ∧ RepT g.K g.cl F r kvs
  | .obj c fs => ∃ C dx r, g.cl c = some C ∧ H p = some (.ins C dx r) ∧ H dx = some (.own p) ∧ RepF g.K g.cl F r fs
def BxOk (S : Sx) (p : Addr) (b : Bx) : Prop := if b.live = true then S.F p = none ∧ CtOk g S.F S.H p b.ct else CtOk g S.F S.F p b.ct
structure OkS (β : Sto) (S : Sx) : Prop where
  sub : ∀ b o, S.F b = some o → S.H b = some o
  ntb : ∀ b ps, S.F b ≠ some (.tbl ps)
  len : S.ι.length = β.length
  bx : ∀ (n : Nat) (b : Bx), β[n]? = some b → ∃ p, S.ι[n]? = some p ∧ BxOk g S p b
  inj : ∀ (m n : Nat) (p : Addr), S.ι[m]? = some p → S.ι[n]? = some p → m = n
  tracked : ∀ p ∈ S.ι, S.H p ≠ none
  own : ∀ b x, S.H b = some (.own x) → b ∉ S.ι
  tabs : LamX.Tabs g.NT S.H
/-- a lambda that was made, at f; its captured names hold vs -/
structure CloAt (S : Sx) (f : Addr) (l : LDef) (vs : List V) : Prop where
  ex : ∃ (I : LI), g.lok l I ∧ ∃ (cl : List (Str × Addr)) (c' : Addr) (pm ctv : Value), S.H f = some (pinO f (PySem.W.kla_obj "<lambda>" I.qual I.params I.body I.scope cl pm c' ctv)) ∧ S.F f = none ∧ f ∉ S.ι ∧ S.H c' = some (CodeO c' I.qual) ∧ c' ∉ S.ι ∧
    (∀ y c, cl.lookup y = some c → S.F c = none ∧ c ∉ S.ι ∧ c ≠ f ∧ ∃ o v, S.H c = some (pinO c o) ∧ o.data = .cell v) ∧ ((∀ x y c, cl.lookup x = some c → cl.lookup y = some c → x = y) ∧ ∃ cells, cl = cloFrom cells I.scope.names []) ∧ vs.length = I.fr.length ∧
    ∀ (i : Nat) (y : Str) (v : V), I.fr[i]? = some y → vs[i]? = some v → ∃ c o w, cl.lookup y = some c ∧ S.H c = some (pinO c o) ∧ o.data = .cell (some w) ∧ RelV v w
/-- a list of boxes, its object locked -/
def BxsAt (S : Sx) (p : Addr) (ns : List Nat) : Prop := ∃ (od : Obj) (qs : List Addr), S.H p = some (.frz od (.lst (qs.map V.ref))) ∧ S.F p = none ∧ p ∉ S.ι ∧ qs.length = ns.length ∧ ∀ (i : Nat) (n : Nat), ns[i]? = some n → ∃ q, qs[i]? = some q ∧ S.ι[n]? = some q
mutual
inductive RepV (S : Sx) : V → VV → Prop
  | d {v : V} {x : D} : Rep g.K g.cl S.F v x → RepV S v (.d x)
  | box {n : Nat} {p : Addr} : S.ι[n]? = some p → RepV S (.ref p) (.box n)
  | clo {f : Addr} {l : LDef} {caps : List VV} {vs : List V} : CloAt g S f l vs → RepVs S vs caps → RepV S (.ref f) (.clo l caps)
  | bxs {p : Addr} {ns : List Nat} : BxsAt S p ns → RepV S (.ref p) (.bxs ns)
inductive RepVs (S : Sx) : List V → List VV → Prop
  | nil : RepVs S [] []
  | cons {v : V} {vs : List V} {x : VV} {xs : List VV} : RepV S v x → RepVs S vs xs → RepVs S (v :: vs) (x :: xs)
end
end
section
variable {g : G} {S S' : Sx} {β : Sto}
theorem Le.notι (e : Le S S') {b : Addr} {o : HO} (h : S.H b = some o) (n : b ∉ S.ι) : b ∉ S'.ι := fun z => (e.new b z).elim n fun y => by rw [h] at y; cases y
theorem Le.notF (e : Le S S') {b : Addr} {o : HO} (h : S.H b = some o) (hw : ∀ x, o ≠ .own x) (hw2 : ∀ x, o ≠ .tup x) (n : b ∉ S.ι) (hF : S.F b = none) : S'.F b = none := by
  cases q : S'.F b with
  | none => rfl
  | some u =>
    rcases e.fresh b (by rw [q]; simp) hF with z | z | ⟨x, z⟩ | ⟨x, z⟩
    · rw [h] at z; cases z
    · exact absurd z n
    · rw [h] at z; cases z; exact absurd rfl (hw x)
    · rw [h] at z; cases z; exact absurd rfl (hw2 x)
theorem CloAt.mono (e : Le S S') {f : Addr} {l : LDef} {vs : List V} (c : CloAt g S f l vs) : CloAt g S' f l vs := by
  obtain ⟨I, h0, cl, c', pm, ctv, h1, h2, h3, h4, h5, h6, h7, h8, h9⟩ := c.ex
  refine ⟨I, h0, cl, c', pm, ctv, e.keep _ _ h1 h3 (fun _ z => by cases z), e.notF h1 (fun _ z => by cases z) (fun _ z => by cases z) h3 h2, e.notι h1 h3, e.keep _ _ h4 h5 (fun ps z => LamX.codeO_ne ps z), e.notι h4 h5, fun y c q => ?_, h7, h8, fun i y v a b => ?_⟩
  · obtain ⟨n1, n2, n3, o, v, n4, n5⟩ := h6 y c q
    exact ⟨e.notF n4 (fun _ z => by cases z) (fun _ z => by cases z) n2 n1, e.notι n4 n2, n3, o, v, e.keep _ _ n4 n2 (fun _ z => by cases z), n5⟩
  · obtain ⟨c, o, w, q1, q2, q3, q4⟩ := h9 i y v a b
    obtain ⟨_, n2, _⟩ := h6 y c q1
    exact ⟨c, o, w, q1, e.keep _ _ q2 n2 (fun _ z => by cases z), q3, q4⟩
theorem BxsAt.mono (e : Le S S') {p : Addr} {ns : List Nat} (h : BxsAt S p ns) : BxsAt S' p ns := by
  obtain ⟨od, qs, h1, h2, h3, h4, h5⟩ := h
  refine ⟨od, qs, e.keep _ _ h1 h3 (fun _ z => by cases z), e.notF h1 (fun _ z => by cases z) (fun _ z => by cases z) h3 h2, e.notι h1 h3, h4, fun i n q => ?_⟩
  obtain ⟨a, b, c⟩ := h5 i n q
  exact ⟨a, b, e.ιget c⟩
mutual
theorem RepV.mono (e : Le S S') : ∀ {v : V} {x : VV}, RepV g S v x → RepV g S' v x
  | _, _, .d h => .d (h.mono e.F)
  | _, _, .box h => .box (e.ιget h)
  | _, _, .clo h1 h2 => .clo (h1.mono e) (RepVs.mono e h2)
  | _, _, .bxs h => .bxs (h.mono e)
theorem RepVs.mono (e : Le S S') : ∀ {v : List V} {x : List VV}, RepVs g S v x → RepVs g S' v x
  | _, _, .nil => .nil
  | _, _, .cons h r => .cons (RepV.mono e h) (RepVs.mono e r)
end
/-- the slots -/
structure SlOk (g : G) (S : Sx) (φ : Sl) (σ : L2.St) : Prop where
  len : σ.length = φ.length
  at_ : ∀ (i : Nat) (v : VV), φ[i]? = some (some v) → ∃ u, σ[i]? = some (some u) ∧ RepV g S u v
theorem SlOk.mono {φ : Sl} {σ : L2.St} (h : SlOk g S φ σ) (e : Le S S') : SlOk g S' φ σ := ⟨h.len, fun i v q => let ⟨u, a, b⟩ := h.at_ i v q; ⟨u, a, b.mono e⟩⟩
theorem SlOk.set {φ : Sl} {σ : L2.St} (h : SlOk g S φ σ) (i : Nat) {u : V} {v : VV} (r : RepV g S u v) : SlOk g S (φ.set i (some v)) (σ.set i (some u)) := by
  refine ⟨by simp [h.len], fun j w q => ?_⟩
  by_cases hj : i = j
  · subst hj
    rw [List.getElem?_set] at q
    simp only [if_true] at q
    split at q
    · rename_i hlt
      cases q
      exact ⟨u, by rw [List.getElem?_set_self (by rw [h.len]; exact hlt)], r⟩
    · cases q
  · rw [List.getElem?_set_ne hj] at q
    obtain ⟨u', a, b⟩ := h.at_ j w q
    exact ⟨u', by rw [List.getElem?_set_ne hj]; exact a, b⟩
theorem SlOk.wipe {φ : Sl} {σ : L2.St} (h : SlOk g S φ σ) : ∀ own : List Nat, SlOk g S (wipeS φ own) (L2.wipe σ own)
  | [] => h
  | i :: own => by
    have ih := SlOk.wipe h own
    refine ⟨by show ((L2.wipe σ own).set i none).length = ((wipeS φ own).set i none).length; simp [ih.len], fun j w q => ?_⟩
    have q : ((wipeS φ own).set i none)[j]? = some (some w) := q
    show ∃ u, ((L2.wipe σ own).set i none)[j]? = some (some u) ∧ _
    by_cases hj : i = j
    · subst hj
      rw [List.getElem?_set] at q
      simp only [if_true] at q
      split at q <;> cases q
    · rw [List.getElem?_set_ne hj] at q
      obtain ⟨u', a, b⟩ := ih.at_ j w q
      exact ⟨u', by rw [List.getElem?_set_ne hj]; exact a, b⟩
theorem OkS.boxAt (k : OkS g β S) {n : Nat} {p : Addr} (h : S.ι[n]? = some p) : ∃ b, β[n]? = some b ∧ BxOk g S p b := by
  have hl : n < β.length := by rw [← k.len]; exact (List.getElem?_eq_some_iff.mp h).1
  obtain ⟨q, e, b⟩ := k.bx n β[n] (List.getElem?_eq_getElem hl)
  rw [h] at e; cases e
  exact ⟨_, List.getElem?_eq_getElem hl, b⟩
end
end VI

set_option maxHeartbeats 4000000
/-! V2r: a tuple, once. -/
namespace L2
open PySem PySem.Spec PyProof.Rows
theorem once_mul (l : Addr) (items : Array Value) (n : Nat) (dd : Option Addr) (sl : Array (Option Value)) (u : Tok) :
    Meets (Builtin.«tuple.__mul__» ⟨[.ref l, .int 1 u], []⟩) (fun _ R s => s.heap.get? l = some { cls := .type "tuple", dict := dd, data := .seq items n, slots := sl } ∧ R (.ok (.ret (Value.ref l))) s) :=
  .of_wp fun prog w A R s h => by
    obtain ⟨hp, g, d, tk, os⟩ := s
    obtain ⟨hl, h⟩ := h
    have f1 := AutoSeq1.idx_int
    wp_walk using wpAny_loadPart' hl
    exact ⟨_, rfl, h⟩
def rOnceT (K : PySem.W.Frag) : R2 := fun x y H Q => ∃ l xs, x = .ref l ∧ y = .int 1 ∧ SqT K H l xs ∧ Q (.ref l) H
theorem op_onceT {X : Cx} : OpR X (binaryOp .Mult) (rOnceT X.K) := by
  intro pins s σ H x y v u Q I rx ry h
  obtain ⟨l, xs, rfl, rfl, hT, q⟩ := h
  cases rx
  obtain ⟨t, rfl⟩ := ry
  obtain ⟨its, r, ⟨⟨cls, dd, data, sl⟩, ho, hc, n, hd⟩, hs⟩ := I.tuple hT
  simp only at hc hd
  subst hc hd
  exact wpAny_binaryOp_repeat_ref (T := "tuple") (U := "int") (by decide) ⟨_, ho, rfl⟩ (fun s' => typeIs_int s' 1 t) noFill_tuple_mul F.fills_int_mul F.slot_int_rmul repeat_tuple F.slot_int_index.lookup
    (call_meets F.slot_int_rmul (typeIs_int s 1 t) F.entry_int_rmul (F.args_int_rmul_2 _ _) (int_rmul_tuple 1 t l its.toArray n dd sl)
      ⟨ho, rfl, ⟨_, ho, rfl⟩, call_meets F.slot_tuple_mul ⟨_, ho, rfl⟩ F.entry_tuple_mul (F.args_tuple_mul_2 _ _) (once_mul l its.toArray n dd sl t) ⟨ho, ⟨.ref l, H, I, rfl, q⟩⟩⟩)
end L2

set_option maxHeartbeats 2000000
namespace VI
open PySem L2 M
open LamX (CodeO TabB ExtN)

/-! ### ends -/
def Out {α : Type} (r : Res α) (Qk : α → Sto → Prop) (Qe : Exc → Sto → Prop) : Prop := match r with
  | .ok a s => Qk a s
  | .exc e s => Qe e s
  | .bad => False
theorem out_bnd {α β : Type} {m : M α} {f : α → M β} {s : Sto} {Qk : β → Sto → Prop} {Qe : Exc → Sto → Prop} (h : Out (bnd m f s) Qk Qe) : Out (m s) (fun a s' => Out (f a s') Qk Qe) Qe := by
  unfold bnd at h
  cases e : m s with
  | ok a s' => rw [e] at h; exact h
  | exc x s' => rw [e] at h; exact h
  | bad => rw [e] at h; exact h
theorem Out.imp {α : Type} {r : Res α} {Qk Qk' : α → Sto → Prop} {Qe Qe' : Exc → Sto → Prop} (h : Out r Qk Qe) (hk : ∀ a s, Qk a s → Qk' a s) (he : ∀ e s, Qe e s → Qe' e s) : Out r Qk' Qe' := by
  cases r with
  | ok a s => exact hk a s h
  | exc e s => exact he e s h
  | bad => exact h
theorem out_opt {α : Type} {o : Option α} {s : Sto} {Qk : α → Sto → Prop} {Qe : Exc → Sto → Prop} (h : Out (M.opt o s) Qk Qe) : ∃ a, o = some a ∧ Qk a s := by
  cases o with
  | some a => exact ⟨a, rfl, h⟩
  | none => exact h.elim
theorem out_deref {g : G} {S : Sx} {β : Sto} {v : VV} {Qk : D → Sto → Prop} {Qe : Exc → Sto → Prop} (h : Out (deref v β) Qk Qe) : ∃ x, Qk x β ∧ (v = .d x ∨ ∃ n b, v = .box n ∧ β[n]? = some b ∧ ctD b.ct = some x) := by
  cases v with
  | d x => exact ⟨x, h, .inl rfl⟩
  | box n =>
    unfold deref at h
    cases e : β[n]? with
    | none => simp only [e] at h; exact h.elim
    | some b =>
      simp only [e] at h
      cases e2 : ctD b.ct with
      | none => simp only [e2] at h; exact h.elim
      | some x => simp only [e2] at h; exact ⟨x, h, .inr ⟨n, b, rfl, e, e2⟩⟩
  | clo l c => exact h.elim
  | bxs _ => exact h.elim
/-! ### new things -/
theorem upd_mono {H : Hp} {p : Addr} {o : HO} (h : H p = none) : Same H (upd H p o) := fun b u e => by
  rw [upd_ne (ne_of_none e h)]; exact e
section
variable {g : G} {S S' : Sx} {β : Sto}
theorem CtOk.mono {F F' H H' : Hp} {p : Addr} {c : Ct} (h : CtOk g F H p c) (e : Same F F') (e' : Same H H') : CtOk g F' H' p c := by
  cases c with
  | lst xs => obtain ⟨vs, a, b⟩ := h; exact ⟨vs, e' _ _ a, b.mono e⟩
  | dic t kvs =>
    cases t with
    | false => obtain ⟨vs, a, b⟩ := h; exact ⟨vs, e' _ _ a, b.mono e⟩
    | true => obtain ⟨vs, a, b⟩ := h; exact ⟨vs, e' _ _ a, b.mono e⟩
  | fdic t kvs =>
    cases t with
    | false => obtain ⟨od, vs, a, b⟩ := h; exact ⟨od, vs, e' _ _ a, b.mono e⟩
    | true => obtain ⟨od, vs, a, b⟩ := h; exact ⟨od, vs, e' _ _ a, b.mono e⟩
  | obj c fs => obtain ⟨C, dx, r, hC, a, b, c⟩ := h; exact ⟨C, dx, r, hC, e' _ _ a, e' _ _ b, c.mono e⟩
/-- data that is new at p -/
abbrev Sx.add (S : Sx) (p : Addr) (o : HO) : Sx := ⟨S.ι, upd S.F p o, upd S.H p o⟩
theorem Le.add {p : Addr} {o : HO} (k : OkS g β S) (hp : S.H p = none) : Le S (S.add p o) := by
  have hF : S.F p = none := by
    cases e : S.F p with
    | none => rfl
    | some u => rw [k.sub p u e] at hp; cases hp
  refine ⟨⟨[], by simp⟩, upd_mono hF, fun b u e _ _ => upd_mono hp b u e, fun b ps e => ⟨ps, upd_mono hp b _ e⟩, fun b u e => ⟨u, upd_mono hp b u e⟩, fun b h1 h2 => ?_, fun b h => .inl h⟩
  by_cases hb : b = p
  · subst hb; exact .inl hp
  · exact absurd h2 (by intro z; apply h1; show upd S.F p o b = none; rw [upd_ne hb]; exact z)
theorem OkS.add {p : Addr} {o : HO} (k : OkS g β S) (hp : S.H p = none) (ht : ∀ ps, o ≠ .tbl ps) (hw : ∀ x, o ≠ .own x) : OkS g β (S.add p o) := by
  have hF : S.F p = none := by
    cases e : S.F p with
    | none => rfl
    | some u => rw [k.sub p u e] at hp; cases hp
  have eF : Same S.F (upd S.F p o) := upd_mono hF
  have eH : Same S.H (upd S.H p o) := upd_mono hp
  refine ⟨fun b u e => ?_, fun b ps e => ?_, k.len, fun n b e => ?_, k.inj, fun q hq e => ?_, fun b x e => ?_, k.tabs.ext eH⟩
  · by_cases hb : b = p
    · subst hb
      have e : upd S.F b o b = some u := e
      rw [upd_same] at e
      show upd S.H b o b = some u
      rw [upd_same]; exact e
    · have e : upd S.F p o b = some u := e
      rw [upd_ne hb] at e
      show upd S.H p o b = some u
      rw [upd_ne hb]; exact k.sub b u e
  · by_cases hb : b = p
    · subst hb
      have e : upd S.F b o b = some (.tbl ps) := e
      rw [upd_same] at e; cases e; exact ht ps rfl
    · have e : upd S.F p o b = some (.tbl ps) := e
      rw [upd_ne hb] at e; exact k.ntb b ps e
  · obtain ⟨q, e1, e2⟩ := k.bx n b e
    refine ⟨q, e1, ?_⟩
    unfold BxOk at e2 ⊢
    split
    · rename_i hl
      rw [if_pos hl] at e2
      refine ⟨?_, e2.2.mono eF eH⟩
      have hq : q ≠ p := fun z => by
        subst z
        exact k.tracked q (List.mem_of_getElem? e1) hp
      show upd S.F p o q = none
      rw [upd_ne hq]; exact e2.1
    · rename_i hl
      rw [if_neg hl] at e2
      exact e2.mono eF eF
  · have e : upd S.H p o q = none := e
    by_cases hb : q = p
    · subst hb; rw [upd_same] at e; cases e
    · rw [upd_ne hb] at e; exact k.tracked q hq e
  · have e : upd S.H p o b = some (.own x) := e
    by_cases hb : b = p
    · subst hb; rw [upd_same] at e; cases e; exact absurd rfl (hw x)
    · rw [upd_ne hb] at e; exact k.own b x e
theorem rep_tup {p : Addr} {vs : List V} {xs : List D} (k : OkS g β S) (hp : S.H p = none) (r : Reps g.K g.cl S.F vs xs) : Rep g.K g.cl (S.add p (.tup vs)).F (.ref p) (.tup xs) :=
  .tup upd_same (r.mono (Le.add (o := .tup vs) k hp).F)
theorem rep_lst {p : Addr} {vs : List V} {xs : List D} (k : OkS g β S) (hp : S.H p = none) (r : Reps g.K g.cl S.F vs xs) : Rep g.K g.cl (S.add p (.lst vs)).F (.ref p) (.lst xs) :=
  .lst upd_same (r.mono (Le.add (o := .lst vs) k hp).F)
/-! ### what is wanted -/
/-- of a value -/
def Kv (g : G) (S : Sx) (Q : VK) (z : VV) (β' : Sto) : Prop := ∀ w S', Le S S' → OkS g β' S' → RepV g S' w z → Q w S'.H
theorem Kv.d {Q : VK} {x : D} {v : V} (q : Kv g S Q (.d x) β) (k : OkS g β S) (r : Rep g.K g.cl S.F v x) : Q v S.H := q v S (.refl S) k (.d r)
theorem Kv.tup {Q : VK} {p : Addr} {vs : List V} {xs : List D} (q : Kv g S Q (.d (.tup xs)) β) (k : OkS g β S) (hp : S.H p = none) (r : Reps g.K g.cl S.F vs xs) : Q (.ref p) (upd S.H p (.tup vs)) :=
  q (.ref p) (S.add p (.tup vs)) (Le.add k hp) (k.add hp (fun _ z => by cases z) (fun _ z => by cases z)) (.d (rep_tup k hp r))
theorem Kv.lst {Q : VK} {p : Addr} {vs : List V} {xs : List D} (q : Kv g S Q (.d (.lst xs)) β) (k : OkS g β S) (hp : S.H p = none) (r : Reps g.K g.cl S.F vs xs) : Q (.ref p) (upd S.H p (.lst vs)) :=
  q (.ref p) (S.add p (.lst vs)) (Le.add k hp) (k.add hp (fun _ z => by cases z) (fun _ z => by cases z)) (.d (rep_lst k hp r))
theorem small_line {n : Nat} (h : small n = true) : n ≤ sizeLine := Nat.le_trans (of_decide_eq_true h) (by decide)
theorem small_lt {n : Nat} (h : small n = true) : n < sizeLine := Nat.lt_of_le_of_lt (of_decide_eq_true h) (by decide)
end

/-! ### values read through -/
inductive DR (g : G) (S : Sx) : V → D → Prop
  | of {u : V} {x : D} : Rep g.K g.cl S.F u x → DR g S u x
  | lst {p : Addr} {vs : List V} {xs : List D} : S.H p = some (.lst vs) → Reps g.K g.cl S.F vs xs → DR g S (.ref p) (.lst xs)
  | dic {p : Addr} {r : List (Key × V)} {kvs : List (D × D)} : S.H p = some (.dK r) → RepK g.K g.cl S.F r kvs → DR g S (.ref p) (.dic false kvs)
  | dicT {p : Addr} {r : List (List Key × V)} {kvs : List (D × D)} : S.H p = some (.dT r) → RepT g.K g.cl S.F r kvs → DR g S (.ref p) (.dic true kvs)
  | fdic {p : Addr} {od : Obj} {r : List (Key × V)} {kvs : List (D × D)} : S.H p = some (.frz od (.dK r)) → RepK g.K g.cl S.F r kvs → DR g S (.ref p) (.fdic false kvs)
  | fdicT {p : Addr} {od : Obj} {r : List (List Key × V)} {kvs : List (D × D)} : S.H p = some (.frz od (.dT r)) → RepT g.K g.cl S.F r kvs → DR g S (.ref p) (.fdic true kvs)
section
variable {g : G} {S S' : Sx} {β : Sto} {u v : V} {x y z : D}
theorem DR.lst' (k : OkS g β S) {xs : List D} (h : DR g S u (.lst xs)) : ∃ p vs, u = .ref p ∧ S.H p = some (.lst vs) ∧ Reps g.K g.cl S.F vs xs := by
  cases h with
  | of h => cases h with | lst a b => exact ⟨_, _, rfl, k.sub _ _ a, b⟩
  | lst a b => exact ⟨_, _, rfl, a, b⟩
theorem DR.dic' (k : OkS g β S) {kvs : List (D × D)} (h : DR g S u (.dic false kvs)) : ∃ p r, u = .ref p ∧ S.H p = some (.dK r) ∧ RepK g.K g.cl S.F r kvs := by
  cases h with
  | of h => cases h with | dic a b => exact ⟨_, _, rfl, k.sub _ _ a, b⟩
  | dic a b => exact ⟨_, _, rfl, a, b⟩
theorem DR.tup' {xs : List D} (h : DR g S u (.tup xs)) : ∃ p vs, u = .ref p ∧ SqT g.K S.F p vs ∧ Reps g.K g.cl S.F vs xs := by
  cases h with
  | of h => cases h with | tup a b => exact ⟨_, _, rfl, .inl (.inl a), b⟩
theorem DR.tupF {xs : List D} (h : DR g S u (.tup xs)) : ∃ p vs, u = .ref p ∧ S.F p = some (.tup vs) ∧ Reps g.K g.cl S.F vs xs := by
  cases h with
  | of h => cases h with | tup a b => exact ⟨_, _, rfl, a, b⟩
theorem DR.repT {xs : List D} (h : DR g S u (.tup xs)) : Rep g.K g.cl S.F u (.tup xs) := by
  cases h with
  | of h => exact h
theorem DR.ktp' {xs : List D} (h : DR g S u (.ktp xs)) : ∃ p vs, u = .ref p ∧ SqT g.K S.F p vs ∧ Reps g.K g.cl S.F vs xs := by
  cases h with
  | of h => cases h with | ktp a b => exact ⟨_, _, rfl, a, b⟩
theorem DR.dicT' (k : OkS g β S) {kvs : List (D × D)} (h : DR g S u (.dic true kvs)) : ∃ p r, u = .ref p ∧ S.H p = some (.dT r) ∧ RepT g.K g.cl S.F r kvs := by
  cases h with
  | of h => cases h with | dicT a b => exact ⟨_, _, rfl, k.sub _ _ a, b⟩
  | dicT a b => exact ⟨_, _, rfl, a, b⟩
theorem DR.fdic' (k : OkS g β S) {kvs : List (D × D)} (h : DR g S u (.fdic false kvs)) : ∃ p od r, u = .ref p ∧ S.H p = some (.frz od (.dK r)) ∧ RepK g.K g.cl S.F r kvs := by
  cases h with
  | of h => cases h with | fdic a b => exact ⟨_, _, _, rfl, k.sub _ _ a, b⟩
  | fdic a b => exact ⟨_, _, _, rfl, a, b⟩
theorem DR.fdicT' (k : OkS g β S) {kvs : List (D × D)} (h : DR g S u (.fdic true kvs)) : ∃ p od r, u = .ref p ∧ S.H p = some (.frz od (.dT r)) ∧ RepT g.K g.cl S.F r kvs := by
  cases h with
  | of h => cases h with | fdicT a b => exact ⟨_, _, _, rfl, k.sub _ _ a, b⟩
  | fdicT a b => exact ⟨_, _, _, rfl, a, b⟩
theorem DR.lck' {xs : List D} (h : DR g S u (.lck xs)) : ∃ p vs, u = .ref p ∧ SqL g.K S.F p vs ∧ Reps g.K g.cl S.F vs xs := by
  cases h with
  | of h => cases h with | lck a b => exact ⟨_, _, rfl, a, b⟩
theorem DR.int' {i : Int} (h : DR g S u (.int i)) : u = .int i := by
  cases h with | of h => cases h; rfl
theorem DR.str' {i : Str} (h : DR g S u (.str i)) : u = .str i := by
  cases h with | of h => cases h; rfl
theorem DR.bl' {i : Bool} (h : DR g S u (.bl i)) : u = .bl i := by
  cases h with | of h => cases h; rfl
theorem DR.non' (h : DR g S u .non) : u = .non := by
  cases h with | of h => cases h; rfl
theorem OkS.same (k : OkS g β S) : Same S.F S.H := k.sub
theorem DR.dp (k : OkS g β S) {p : PyData} (h : DR g S u x) (e : x.toPy = some p) : Dp g.K S.H u p := by
  cases h with
  | of h => exact h.dp k.same e
  | lst a b =>
    simp only [D.toPy, Option.map_eq_some_iff] at e
    obtain ⟨ps, h1, rfl⟩ := e
    exact .lst (SqL.of a) (Reps.dp k.same b h1)
  | dic a b => simp [D.toPy] at e
  | dicT a b => simp [D.toPy] at e
  | fdic a b => simp [D.toPy] at e
  | fdicT a b => simp [D.toPy] at e
/-- a value that is read through -/
theorem DR.get (k : OkS g β S) {v : VV} {Qk : D → Sto → Prop} {Qe : Exc → Sto → Prop} (r : RepV g S u v) (h : Out (deref v β) Qk Qe) : ∃ x, Qk x β ∧ DR g S u x := by
  obtain ⟨x, q, e⟩ := out_deref (g := g) (S := S) h
  refine ⟨x, q, ?_⟩
  rcases e with rfl | ⟨n, b, rfl, e1, e2⟩
  · cases r with | d r => exact .of r
  · cases r with
    | @box _ p e3 =>
      obtain ⟨b', e4, hb⟩ := k.boxAt e3
      rw [e1] at e4; cases e4
      have c : CtOk g S.F S.H p b.ct := by
        unfold BxOk at hb
        split at hb
        · exact hb.2
        · exact hb.mono (.refl _) k.same
      obtain ⟨ct, lv⟩ := b
      cases ct with
      | lst xs => cases e2; obtain ⟨vs, a, b⟩ := c; exact .lst a b
      | dic t kvs =>
        cases t with
        | false => cases e2; obtain ⟨vs, a, b⟩ := c; exact .dic a b
        | true => cases e2; obtain ⟨vs, a, b⟩ := c; exact .dicT a b
      | fdic t kvs =>
        cases t with
        | false => cases e2; obtain ⟨od, vs, a, b⟩ := c; exact .fdic a b
        | true => cases e2; obtain ⟨od, vs, a, b⟩ := c; exact .fdicT a b
      | obj c fs => cases e2
end
/-! ### operators -/
def opOf : Bop → Operator
  | .add => .Add | .sub => .Sub | .mul => .Mult | .mod => .Mod | .fdiv => .FloorDiv | .pow => .Pow
def rAddStr : R2 := fun x y H Q => ∃ i j, x = .str i ∧ y = .str j ∧ i.length + j.length ≤ sizeLine ∧ Q (.str (i ++ j)) H
def rMulStr : R2 := fun x y H Q => ∃ i j, x = .str i ∧ y = .int j ∧ 2 ≤ j ∧ j ≤ 1000 ∧ 1 ≤ i.length ∧ i.length * j.toNat ≤ 100000 ∧ (repStr i j.toNat).length ≤ 100000 ∧ Q (.str (repStr i j.toNat)) H
theorem op_mulStr {X : Cx} : OpR X (binaryOp .Mult) rMulStr := by
  intro pins s σ H x y v u Q I rx ry h
  obtain ⟨i, j, rfl, rfl, h1, h2, h3, h4, h5, q⟩ := h
  obtain ⟨t, rfl⟩ := rx
  obtain ⟨t', rfl⟩ := ry
  have hn : ¬ j < 1 := by omega
  have hx : (j == 1 || i.length == 0) = false := by
    rw [Bool.or_eq_false_iff]; exact ⟨by simp; omega, by simp; omega⟩
  refine PySem.P.mul_str ?_ (fun _ _ => ?_) (fun _ _ => ?_) ?_
  · rw [Bool.or_eq_false_iff]; exact ⟨decide_eq_false (by omega), decide_eq_false (by omega)⟩
  · have h6 : i.length ≤ 100000 := Nat.le_trans (Nat.le_mul_of_pos_right _ (by omega)) h4
    have h7 : (1000000 : Int) ≤ (2 ^ 63 - 1) / j := by
      rw [Int.le_ediv_iff_mul_le (by omega)]; omega
    omega
  · unfold Builtin.Str.tooLong
    exact decide_eq_false (Nat.not_lt.mpr (Nat.le_trans h4 (by decide)))
  · rw [if_neg hn, hx, if_neg (by decide)]
    exact ⟨Nat.le_trans h5 (by decide), .str (repStr i j.toNat), H, I.tok _, ⟨_, rfl⟩, q⟩
def rB (K : PySem.W.Frag) : Bop → R2
  | .add => fun x y H Q => rI0 (fun i j => .int (i + j)) x y H Q ∨ rAddStr x y H Q ∨ rCatA K x y H Q ∨ rCat x y H Q
  | .sub => rI0 fun i j => .int (i - j)
  | .mul => fun x y H Q => rI CMul (fun i j => .int (i * j)) x y H Q ∨ rRep x y H Q ∨ rMulStr x y H Q ∨ rRepT K x y H Q ∨ rOnceT K x y H Q
  | .mod => rI (fun _ j => 0 < j) fun i j => .int (i % j)
  | .fdiv => rI CDiv fun i j => .int (i / j)
  | .pow => rI CPow fun i j => .int (i ^ j.toNat)
theorem op_rB {X : Cx} : ∀ o : Bop, OpR X (binaryOp (opOf o)) (rB X.K o)
  | .add => op_add.or (op_add_str.or (op_catA.or op_cat))
  | .sub => op_sub
  | .mul => op_mul.or (op_rep.or (op_mulStr.or (op_repT.or op_onceT)))
  | .mod => op_mod
  | .fdiv => op_fdiv
  | .pow => op_pow
theorem bin_ok {g : G} {S : Sx} {β : Sto} {u v : V} {x y z : D} {Q : VK} (o : Bop) (k : OkS g β S) (hx : DR g S u x) (hy : DR g S v y) (e : binD o x y = some z) (q : Kv g S Q (.d z) β) : rB g.K o u v S.H Q := by
  unfold binD at e
  split at e
  case h_1 i j => cases e; rw [hx.int', hy.int']; exact .inl ⟨_, _, rfl, rfl, q.d k (.int _)⟩
  case h_2 i j =>
    split at e <;> cases e
    rename_i hs
    rw [hx.str', hy.str']; exact .inr (.inl ⟨_, _, rfl, rfl, small_line hs, q.d k (.str _)⟩)
  case h_3 xs ys =>
    split at e <;> cases e
    rename_i hs
    have px := hx.repT
    have py := hy.repT
    obtain ⟨a, vs, rfl, h1, r1⟩ := hx.tup'
    obtain ⟨b, ws, rfl, h2, r2⟩ := hy.tup'
    refine .inr (.inr (.inl ⟨a, b, vs, ws, rfl, rfl, seqT k.same h1, seqT k.same h2, by rw [r1.len, r2.len]; exact small_line hs, fun e => ?_, fun _ e => ?_, fun _ _ p hp => ?_⟩))
    · subst e; cases r1; exact q.d k py
    · subst e; cases r2; rw [List.append_nil] at q; exact q.d k px
    · exact q.tup k hp (r1.append r2)
  case h_4 xs ys =>
    split at e <;> cases e
    rename_i hs
    obtain ⟨a, vs, rfl, h1, r1⟩ := hx.lst' k
    obtain ⟨b, ws, rfl, h2, r2⟩ := hy.lst' k
    exact .inr (.inr (.inr ⟨a, b, vs, ws, rfl, rfl, h1, h2, by rw [r1.len, r2.len]; exact small_line hs, fun p hp => q.lst k hp (r1.append r2)⟩))
  case h_5 i j => cases e; rw [hx.int', hy.int']; exact ⟨_, _, rfl, rfl, q.d k (.int _)⟩
  case h_6 i j =>
    split at e <;> cases e
    rename_i hm
    rw [hx.int', hy.int']
    refine .inl ⟨_, _, rfl, rfl, ?_, q.d k (.int _)⟩
    unfold mulOk at hm
    simp only [Bool.or_eq_true, decide_eq_true_eq] at hm
    rcases hm with hm | hm
    · exact .inl ⟨by omega, by omega⟩
    · exact .inr ⟨by omega, by omega⟩
  case h_7 xs j =>
    split at e <;> cases e
    rename_i hm
    simp only [Bool.and_eq_true, decide_eq_true_eq] at hm
    obtain ⟨⟨h1, h2⟩, h3⟩ := hm
    obtain ⟨a, vs, rfl, ha, r1⟩ := hx.lst' k
    rw [hy.int']
    exact .inr (.inl ⟨a, j, vs, rfl, rfl, ha, by omega, by omega, by rw [r1.len]; exact small_line h3, fun p hp => q.lst k hp (r1.rep _)⟩)
  case h_8 i j =>
    split at e <;> cases e
    rename_i hm
    rw [hx.str', hy.int']; exact .inr (.inr (.inl ⟨_, _, rfl, rfl, hm.1, hm.2.1, hm.2.2.1, hm.2.2.2.1, hm.2.2.2.2, q.d k (.str _)⟩))
  case h_9 xs j =>
    by_cases one : j = 1
    · rw [if_pos one] at e
      cases e
      have px := hx.repT
      obtain ⟨a, vs, rfl, h1, r1⟩ := hx.tup'
      rw [hy.int']
      subst one
      exact .inr (.inr (.inr (.inr ⟨a, vs, rfl, rfl, seqT k.same h1, q.d k px⟩)))
    rw [if_neg one] at e
    split at e <;> cases e
    rename_i hm
    obtain ⟨a, vs, rfl, h1, r1⟩ := hx.tup'
    rw [hy.int']
    have hl := r1.len
    exact .inr (.inr (.inr (.inl ⟨a, j, vs, rfl, rfl, seqT k.same h1, fun e => by rw [e] at hl; simp at hl; omega, hm.1, hm.2.1, by omega, fun p hp => q.tup k hp (r1.rep _)⟩)))
  case h_10 i j =>
    split at e <;> cases e
    rename_i hm
    rw [hx.int', hy.int']; exact ⟨_, _, rfl, rfl, hm, q.d k (.int _)⟩
  case h_11 i j =>
    split at e <;> cases e
    rename_i hm
    rw [hx.int', hy.int']; exact ⟨_, _, rfl, rfl, ⟨hm.1, by omega⟩, q.d k (.int _)⟩
  case h_12 i j =>
    split at e <;> cases e
    rename_i hm
    rw [hx.int', hy.int']; exact ⟨_, _, rfl, rfl, hm, q.d k (.int _)⟩
  case h_13 => cases e
/-! ### comparisons -/
def copOf : Cop → CmpOp
  | .lt => .Lt | .le => .LtE | .gt => .Gt | .ge => .GtE | .eq => .Eq | .ne => .NotEq | .isin => .In | .notin => .NotIn | .is => .Is | .isnot => .IsNot
/-- two that are alike -/
def rLtD (K : PySem.W.Frag) : R2 := fun x y H Q => ∃ d e, Dp K H x d ∧ Dp K H y e ∧ PySem.W.alike d e = true ∧ d ≠ .none ∧ d.depth ≤ 64 ∧ Q (.bl (PySem.W.dataLt d e)) H
theorem op_ltD {X : Cx} (hu : X.A.units + 64 < cLine) : OpR X (compareOp .Lt) (rLtD X.K) := by
  intro pins s σ H x y v u Q I rx ry h
  obtain ⟨d, e, hd, he, al, hn, hdp, q⟩ := h
  obtain ⟨as, r1⟩ := Dp.reads I d x v hd rx
  obtain ⟨bs, r2⟩ := Dp.reads I e y u he ry
  exact PySem.W.rcLt_alike d e X.A s v u as bs r1 r2 al hn (by have := Nat.min_le_left d.depth e.depth; omega) _ _ _ _ ⟨.bl _, H, I, rfl, q⟩
/-- x in a tuple, a list, each item read as data -/
theorem op_inT {X : Cx} (hu : X.A.units + 65 < cLine) : OpR X (compareOp .In) (fun x y H Q => ∃ d ds, Dp X.K H x d ∧ Dp X.K H y (.tuple ds) ∧ SeqAt.shaped d = true ∧ SeqAt.shaped (.tuple ds) = true ∧ Q (.bl (ds.any fun z => PyData.eqv z d)) H) := by
  intro pins s σ H x y v u Q I rx ry h
  obtain ⟨d, ds, hd, he, sd, se, q⟩ := h
  obtain ⟨as, r1⟩ := Dp.reads I d x v hd rx
  obtain ⟨bs, r2⟩ := Dp.reads I (.tuple ds) y u he ry
  exact SeqAt.in_tuple_reads r2 r1 (SeqAt.canLay_of_shaped se) (SeqAt.canLay_of_shaped sd) (PyProof.Rows.room_in_shaped sd hu) ⟨.bl _, H, I, rfl, q⟩
theorem op_notInT {X : Cx} (hu : X.A.units + 65 < cLine) : OpR X (compareOp .NotIn) (fun x y H Q => ∃ d ds, Dp X.K H x d ∧ Dp X.K H y (.tuple ds) ∧ SeqAt.shaped d = true ∧ SeqAt.shaped (.tuple ds) = true ∧ Q (.bl (!ds.any fun z => PyData.eqv z d)) H) := by
  intro pins s σ H x y v u Q I rx ry h
  obtain ⟨d, ds, hd, he, sd, se, q⟩ := h
  obtain ⟨as, r1⟩ := Dp.reads I d x v hd rx
  obtain ⟨bs, r2⟩ := Dp.reads I (.tuple ds) y u he ry
  exact SeqAt.notIn_tuple_reads r2 r1 (SeqAt.canLay_of_shaped se) (SeqAt.canLay_of_shaped sd) (PyProof.Rows.room_in_shaped sd hu) ⟨.bl _, H, I, rfl, q⟩

/-- x in a dict -/
theorem op_inDic {X : Cx} (hu : X.A.units + 1 < cLine) : OpR X (compareOp .In) (fun x y H Q => ∃ a o, y = .ref a ∧ DGet H a x o ∧ Q (.bl o.isSome) H) := by
  intro pins s σ H x y v u Q I rx ry h
  obtain ⟨a, o, rfl, g, q⟩ := h
  cases ry
  exact d_in hu I g rx fun s3 I3 => ⟨.bl o.isSome, H, I3, rfl, q⟩
theorem op_notInDic {X : Cx} (hu : X.A.units + 1 < cLine) : OpR X (compareOp .NotIn) (fun x y H Q => ∃ a o, y = .ref a ∧ DGet H a x o ∧ Q (.bl (!o.isSome)) H) := by
  intro pins s σ H x y v u Q I rx ry h
  obtain ⟨a, o, rfl, g, q⟩ := h
  cases ry
  exact d_notIn hu I g rx fun s3 I3 => ⟨.bl (!o.isSome), H, I3, rfl, q⟩
def rInT (K : PySem.W.Frag) (neg : Bool) : R2 := fun x y H Q => ∃ d ds, Dp K H x d ∧ Dp K H y (.tuple ds) ∧ SeqAt.shaped d = true ∧ SeqAt.shaped (.tuple ds) = true ∧ Q (.bl (if neg then !ds.any fun z => PyData.eqv z d else ds.any fun z => PyData.eqv z d)) H
def rInL (K : PySem.W.Frag) (neg : Bool) : R2 := fun x y H Q => ∃ d ds, Dp K H x d ∧ Dp K H y (.list ds) ∧ SeqAt.shaped d = true ∧ SeqAt.shaped (.list ds) = true ∧ Q (.bl (if neg then !ds.any fun z => PyData.eqv z d else ds.any fun z => PyData.eqv z d)) H
def rInDic (neg : Bool) : R2 := fun x y H Q => ∃ a o, y = .ref a ∧ DGet H a x o ∧ Q (.bl (if neg then !o.isSome else o.isSome)) H
def rInStr (neg : Bool) : R2 := fun x y H Q => ∃ i j, x = .str i ∧ y = .str j ∧ Q (.bl (if neg then !(!(Builtin.Str.occurrences j i 0 j.length 1).isEmpty) else !(Builtin.Str.occurrences j i 0 j.length 1).isEmpty)) H
def rInA (K : PySem.W.Frag) (neg : Bool) : R2 := fun x y H Q => rInT K neg x y H Q ∨ rInL K neg x y H Q ∨ rInDic neg x y H Q ∨ rInStr neg x y H Q
/-- lists that are not as long -/
def rLen (b : Bool) : R2 := fun x y H Q => ∃ p q us vs, x = .ref p ∧ y = .ref q ∧ H p = some (.lst us) ∧ H q = some (.lst vs) ∧ us.length ≠ vs.length ∧ Q (.bl b) H
theorem op_eqLen {X : Cx} (hu : X.A.units < cLine) : OpR X (compareOp .Eq) (rLen false) := by
  intro pins s σ H x y v u Q I rx ry h
  obtain ⟨p, q', us, vs, rfl, rfl, h1, h2, hne, q⟩ := h
  cases rx
  cases ry
  obtain ⟨its, r, hl, _⟩ := I.list (SqL.of (K := X.K) h1)
  obtain ⟨its2, r2, hl2, _⟩ := I.list (SqL.of (K := X.K) h2)
  have l1 := r.length
  have l2 := r2.length
  exact SeqAt.RcAt.lists_lengths hl.isList hl2.isList (by simp only [List.size_toArray, bne_iff_ne]; omega) hu X.prog X.w _ _ ⟨.bl false, H, I, rfl, q⟩
theorem op_neLen {X : Cx} (hu : X.A.units < cLine) : OpR X (compareOp .NotEq) (rLen true) := by
  intro pins s σ H x y v u Q I rx ry h
  obtain ⟨p, q', us, vs, rfl, rfl, h1, h2, hne, q⟩ := h
  cases rx
  cases ry
  obtain ⟨its, r, hl, _⟩ := I.list (SqL.of (K := X.K) h1)
  obtain ⟨its2, r2, hl2, _⟩ := I.list (SqL.of (K := X.K) h2)
  have l1 := r.length
  have l2 := r2.length
  exact SeqAt.RcNeAt.lists_lengths hl.isList hl2.isList (by simp only [List.size_toArray, bne_iff_ne]; omega) hu X.prog X.w _ _ ⟨.bl true, H, I, rfl, q⟩
def rCmp (K : PySem.W.Frag) : Cop → R2
  | .eq => fun x y H Q => rEqD K x y H Q ∨ rLen false x y H Q
  | .ne => fun x y H Q => rNeD K x y H Q ∨ rLen true x y H Q
  | .lt => fun x y H Q => rI0 (fun i j => .bl (decide (i < j))) x y H Q ∨ (∃ i j, x = .str i ∧ y = .str j ∧ Q (.bl (decide (i.cps.toList < j.cps.toList))) H) ∨ rLtD K x y H Q
  | .le => rI0 fun i j => .bl (decide (i ≤ j))
  | .gt => rI0 fun i j => .bl (decide (j < i))
  | .ge => rI0 fun i j => .bl (decide (j ≤ i))
  | .isin => rInA K false
  | .notin => rInA K true
  | .is => rIsB
  | .isnot => rNotB
theorem op_rCmp {X : Cx} (hu : X.A.units + 65 < cLine) : ∀ o : Cop, OpR X (compareOp (copOf o)) (rCmp X.K o)
  | .eq => (op_eqD (by omega)).or (op_eqLen (by omega))
  | .ne => (op_neD (by omega)).or (op_neLen (by omega))
  | .lt => op_lt.or (op_lt_str.or (op_ltD (by omega)))
  | .le => op_le
  | .gt => op_gt
  | .ge => op_ge
  | .isin => (op_inT hu).or ((op_inD hu).or ((op_inDic (by omega)).or op_in_str))
  | .notin => (op_notInT hu).or ((op_notInD hu).or ((op_notInDic (by omega)).or op_notin_str))
  | .is => op_isBl
  | .isnot => op_notBl
theorem shapedD_some {x : D} {p : PyData} (h : shapedD x = some p) : x.toPy = some p ∧ SeqAt.shaped p = true := by
  unfold shapedD at h
  split at h
  · rename_i q e
    split at h <;> cases h
    rename_i hs
    exact ⟨e, hs⟩
  · cases h
theorem keyD_V {g : G} {S : Sx} {u : V} {x : D} {k : Key} (h : DR g S u x) (e : keyD x = some k) : u = kV k := by
  cases x <;> simp only [keyD] at e <;> cases e
  · exact h.int'
  · exact h.str'
theorem keysD_V {g : G} {S : Sx} : ∀ {us : List V} {xs : List D} {k : List Key}, Reps g.K g.cl S.F us xs → keysD xs = some k → us = k.map kV
  | _, _, k, .nil, e => by simp [keysD] at e; subst e; rfl
  | _, x :: xs, k, .cons h t, e => by
    simp only [keysD] at e
    split at e
    · rename_i a b h1 h2
      cases e
      rw [keyD_V (.of h) h1, keysD_V t h2]; rfl
    · cases e
theorem keyT_V {g : G} {S : Sx} {β : Sto} {u : V} {x : D} {k : List Key} (ok : OkS g β S) (h : DR g S u x) (e : keyT x = some k) : ∃ b, u = .ref b ∧ S.H b = some (.tup (k.map kV)) := by
  cases x <;> simp only [keyT] at e <;> try cases e
  obtain ⟨p, vs, rfl, a, r⟩ := h.tupF
  have := keysD_V r e
  subst this
  exact ⟨p, rfl, ok.sub _ _ a⟩
theorem RepT.look {K : PySem.W.Frag} {cl : Nat → Option Addr} {F : Hp} (k : List Key) : ∀ {kvs : List (List Key × V)} {r : List (D × D)}, RepT K cl F kvs r →
    (valV kvs k = none ∧ lookT k r = none) ∨ ∃ v x, valV kvs k = some v ∧ lookT k r = some x ∧ Rep K cl F v x
  | _, _, .nil => .inl ⟨rfl, rfl⟩
  | _, _, .cons (k := k') (kvs := kvs) (r := r) e h t => by
    have ih := RepT.look k t
    unfold valV lookT
    rw [List.find?_cons, e]
    by_cases hk : k' = k
    · subst hk
      right
      refine ⟨_, _, ?_, if_pos rfl, h⟩
      simp
    · have h1 : ¬ (some k' = some k) := fun z => hk (Option.some.inj z)
      rw [if_neg h1]
      simp only [hk, decide_false]
      exact ih
theorem RepK.look {K : PySem.W.Frag} {cl : Nat → Option Addr} {F : Hp} (k : Key) : ∀ {kvs : List (Key × V)} {r : List (D × D)}, RepK K cl F kvs r →
    (valV kvs k = none ∧ lookD k r = none) ∨ ∃ v x, valV kvs k = some v ∧ lookD k r = some x ∧ Rep K cl F v x
  | _, _, .nil => .inl ⟨rfl, rfl⟩
  | _, _, .cons (k := k') (kvs := kvs) (r := r) e h t => by
    have ih := RepK.look k t
    unfold valV lookD
    rw [List.find?_cons, e]
    by_cases hk : k' = k
    · subst hk
      right
      refine ⟨_, _, ?_, if_pos rfl, h⟩
      simp
    · have h1 : ¬ (some k' = some k) := fun z => hk (Option.some.inj z)
      rw [if_neg h1]
      simp only [hk, decide_false]
      exact ih
theorem cmp_ok {g : G} {S : Sx} {β : Sto} {u v : V} {x y : D} {z : Bool} {Q : VK} (o : Cop) (k : OkS g β S) (hx : DR g S u x) (hy : DR g S v y) (e : cmpD o x y = some z) (q : Q (.bl z) S.H) : rCmp g.K o u v S.H Q := by
  have hin : ∀ {b : Bool}, inD x y = some b → ∀ neg : Bool, Q (.bl (if neg then !b else b)) S.H → rInA g.K neg u v S.H Q := by
    intro b e neg q
    unfold inD at e
    split at e
    · split at e
      · cases e
        rw [hx.str', hy.str']
        exact .inr (.inr (.inr ⟨_, _, rfl, rfl, q⟩))
      · cases e
    · split at e
      · rename_i kk hk
        cases e
        obtain ⟨p, r, rfl, hp, rk⟩ := hy.dic' k
        rw [keyD_V hx hk]
        refine .inr (.inr (.inl ⟨p, _, rfl, DGet.k hp, ?_⟩))
        rcases rk.look kk with ⟨e1, e2⟩ | ⟨v', x', e1, e2, _⟩
        · rw [e1]; rw [e2] at q; exact q
        · rw [e1]; rw [e2] at q; exact q
      · cases e
    · split at e
      · rename_i kk hk
        cases e
        obtain ⟨p, r, rfl, hp, rk⟩ := hy.dicT' k
        obtain ⟨b, rfl, hb⟩ := keyT_V k hx hk
        refine .inr (.inr (.inl ⟨p, _, rfl, DGet.t hp hb, ?_⟩))
        rcases rk.look kk with ⟨e1, e2⟩ | ⟨v', x', e1, e2, _⟩
        · rw [e1]; rw [e2] at q; exact q
        · rw [e1]; rw [e2] at q; exact q
      · cases e
    · split at e
      · rename_i kk hk
        cases e
        obtain ⟨p, od, r, rfl, hp, rk⟩ := hy.fdic' k
        rw [keyD_V hx hk]
        refine .inr (.inr (.inl ⟨p, _, rfl, .inl ⟨r, kk, .inr ⟨od, hp⟩, rfl, rfl⟩, ?_⟩))
        rcases rk.look kk with ⟨e1, e2⟩ | ⟨v', x', e1, e2, _⟩
        · rw [e1]; rw [e2] at q; exact q
        · rw [e1]; rw [e2] at q; exact q
      · cases e
    · split at e
      · rename_i kk hk
        cases e
        obtain ⟨p, od, r, rfl, hp, rk⟩ := hy.fdicT' k
        obtain ⟨b, rfl, hb⟩ := keyT_V k hx hk
        refine .inr (.inr (.inl ⟨p, _, rfl, .inr ⟨r, kk, b, .inr ⟨od, hp⟩, rfl, hb, rfl⟩, ?_⟩))
        rcases rk.look kk with ⟨e1, e2⟩ | ⟨v', x', e1, e2, _⟩
        · rw [e1]; rw [e2] at q; exact q
        · rw [e1]; rw [e2] at q; exact q
      · cases e
    · split at e
      · rename_i a ds ha hd
        cases e
        obtain ⟨h1, h2⟩ := shapedD_some ha
        obtain ⟨h3, h4⟩ := shapedD_some hd
        exact .inl ⟨_, _, hx.dp k h1, hy.dp k h3, h2, h4, q⟩
      · rename_i a ds ha hd
        cases e
        obtain ⟨h1, h2⟩ := shapedD_some ha
        obtain ⟨h3, h4⟩ := shapedD_some hd
        exact .inr (.inl ⟨_, _, hx.dp k h1, hy.dp k h3, h2, h4, q⟩)
      · cases e
  have heq : ∀ {b : Bool}, eqD x y = some b → (∃ d e, Dp g.K S.H u d ∧ Dp g.K S.H v e ∧ SeqAt.shaped d = true ∧ SeqAt.shaped e = true ∧ b = PyData.eqv d e) ∨ (b = false ∧ ∃ p q us vs, u = .ref p ∧ v = .ref q ∧ S.H p = some (.lst us) ∧ S.H q = some (.lst vs) ∧ us.length ≠ vs.length) := by
    intro b e
    unfold eqD at e
    split at e
    · rename_i a c ha hc
      cases e
      obtain ⟨h1, h2⟩ := shapedD_some ha
      obtain ⟨h3, h4⟩ := shapedD_some hc
      exact .inl ⟨_, _, hx.dp k h1, hy.dp k h3, h2, h4, rfl⟩
    · unfold lenNe at e
      split at e
      · split at e <;> cases e
        rename_i hne
        obtain ⟨p, us, rfl, h1, r1⟩ := hx.lst' k
        obtain ⟨q, vs, rfl, h2, r2⟩ := hy.lst' k
        exact .inr ⟨rfl, p, q, us, vs, rfl, rfl, h1, h2, by rw [r1.len, r2.len]; exact hne⟩
      · cases e
  cases o with
  | eq =>
    rcases heq (show eqD x y = some z from e) with ⟨d, e', h1, h2, h3, h4, rfl⟩ | ⟨rfl, z⟩
    · exact .inl ⟨d, e', h1, h2, h3, h4, q⟩
    · obtain ⟨p, q', us, vs, h⟩ := z
      exact .inr ⟨p, q', us, vs, h.1, h.2.1, h.2.2.1, h.2.2.2.1, h.2.2.2.2, q⟩
  | ne =>
    have e : (eqD x y).map (!·) = some z := e
    obtain ⟨b, hb, rfl⟩ := Option.map_eq_some_iff.mp e
    rcases heq hb with ⟨d, e', h1, h2, h3, h4, rfl⟩ | ⟨rfl, z⟩
    · exact .inl ⟨d, e', h1, h2, h3, h4, q⟩
    · obtain ⟨p, q', us, vs, h⟩ := z
      exact .inr ⟨p, q', us, vs, h.1, h.2.1, h.2.2.1, h.2.2.2.1, h.2.2.2.2, q⟩
  | lt =>
    have e : ltD x y = some z := e
    unfold ltD at e
    split at e
    · cases e; rw [hx.int', hy.int']; exact .inl ⟨_, _, rfl, rfl, q⟩
    · cases e; rw [hx.str', hy.str']; exact .inr (.inl ⟨_, _, rfl, rfl, q⟩)
    · split at e
      · rename_i a c ha hc
        split at e <;> cases e
        rename_i hal
        simp only [Bool.and_eq_true] at hal
        obtain ⟨h1, h2⟩ := shapedD_some ha
        obtain ⟨h3, h4⟩ := shapedD_some hc
        refine .inr (.inr ⟨_, _, hx.dp k h1, hy.dp k h3, hal.1, fun z => ?_, SeqAt.depth_of_shaped h2, q⟩)
        rw [z] at hal
        exact absurd hal.2 (by simp [isSeqP])
      · cases e
  | le =>
    cases x with
    | int i =>
      cases y with
      | int j =>
        simp only [cmpD, Option.some.injEq] at e
        subst e
        rw [hx.int', hy.int']
        exact ⟨_, _, rfl, rfl, q⟩
      | _ => simp [cmpD] at e
    | _ => simp [cmpD] at e
  | gt =>
    cases x with
    | int i =>
      cases y with
      | int j =>
        simp only [cmpD, Option.some.injEq] at e
        subst e
        rw [hx.int', hy.int']
        exact ⟨_, _, rfl, rfl, q⟩
      | _ => simp [cmpD] at e
    | _ => simp [cmpD] at e
  | ge =>
    cases x with
    | int i =>
      cases y with
      | int j =>
        simp only [cmpD, Option.some.injEq] at e
        subst e
        rw [hx.int', hy.int']
        exact ⟨_, _, rfl, rfl, q⟩
      | _ => simp [cmpD] at e
    | _ => simp [cmpD] at e
  | isin => exact hin (show inD x y = some z from e) false q
  | notin =>
    have e : (inD x y).map (!·) = some z := e
    obtain ⟨b, hb, rfl⟩ := Option.map_eq_some_iff.mp e
    exact hin hb true q
  | is =>
    cases x with
    | bl i =>
      cases y with
      | bl j =>
        simp only [cmpD, Option.some.injEq] at e
        subst e
        rw [hx.bl', hy.bl']
        exact ⟨_, _, rfl, rfl, q⟩
      | _ => simp [cmpD] at e
    | _ => simp [cmpD] at e
  | isnot =>
    cases x with
    | bl i =>
      cases y with
      | bl j =>
        simp only [cmpD, Option.some.injEq] at e
        subst e
        rw [hx.bl', hy.bl']
        exact ⟨_, _, rfl, rfl, q⟩
      | _ => simp [cmpD] at e
    | _ => simp [cmpD] at e
end VI

set_option maxHeartbeats 2000000
namespace VI
open PySem L2 M
open LamX (CodeO TabB ExtN)

/-- an exception, its class, its own dict -/
def RepE (g : G) (ecl : Nat → Addr) (efs : Nat → List Str) (S : Sx) (c : Value) (d : Option Addr) (e : Exc) : Prop :=
  c = .ref (ecl e.cls) ∧ ((e.args = [] ∧ d = none) ∨ ∃ dx r n x, d = some dx ∧ S.H dx = some (.xd r) ∧ e.args = [x] ∧ efs e.cls = [n] ∧ RepF g.K g.cl S.F r [(n, x)])
/-- what the exceptions are -/
structure GE where
  cl : Nat → Addr
  fs : Nat → List Str
section
variable (g : G) (ge : GE)
def Ke (S : Sx) (W : WX) (σ : L2.St) (e : Exc) (β' : Sto) : Prop := ∀ c d S', Le S S' → OkS g β' S' → RepE g ge.cl ge.fs S' c d e → W c d σ S'.H
def Kb (S : Sx) (Q : Bool → Hp → Prop) (b : Bool) (β' : Sto) : Prop := ∀ S', Le S S' → OkS g β' S' → Q b S'.H
def Ka (S : Sx) (Q : List V → Hp → Prop) (vs : List VV) (β' : Sto) : Prop := ∀ us S', Le S S' → OkS g β' S' → RepVs g S' us vs → Q us S'.H
def tEv (W : WX) (m : Sl → M VV) : TE := fun σ H Q => ∃ S φ β, S.H = H ∧ OkS g β S ∧ SlOk g S φ σ ∧ Out (m φ β) (Kv g S Q) (Ke g ge S W σ)
def tEvT (W : WX) (m : Sl → M Bool) : TT := fun σ H Q => ∃ S φ β, S.H = H ∧ OkS g β S ∧ SlOk g S φ σ ∧ Out (m φ β) (Kb g S Q) (Ke g ge S W σ)
def tEvA (W : WX) (m : Sl → M (List VV)) : TA := fun σ H Q => ∃ S φ β, S.H = H ∧ OkS g β S ∧ SlOk g S φ σ ∧ Out (m φ β) (Ka g S Q) (Ke g ge S W σ)
def tEvO (W : WX) (m : Sl → M (Option Int)) : TO := fun σ H Q => ∃ S φ β, S.H = H ∧ OkS g β S ∧ SlOk g S φ σ ∧ Out (m φ β) (fun o β' => ∀ S', Le S S' → OkS g β' S' → Q o S'.H) (Ke g ge S W σ)
end
section
variable {g : G} {ge : GE} {S S1 : Sx} {β β1 : Sto} {W : WX} {σ : L2.St} {φ : Sl}
theorem Kv.mono {Q : VK} {z : VV} {β' : Sto} (q : Kv g S Q z β') (e : Le S S1) : Kv g S1 Q z β' := fun w S' l k r => q w S' (e.trans l) k r
theorem Ke.mono {e : Exc} {β' : Sto} (q : Ke g ge S W σ e β') (l : Le S S1) : Ke g ge S1 W σ e β' := fun c d S' l' k r => q c d S' (l.trans l') k r
theorem Kb.mono {Q : Bool → Hp → Prop} {b : Bool} {β' : Sto} (q : Kb g S Q b β') (l : Le S S1) : Kb g S1 Q b β' := fun S' l' k => q S' (l.trans l') k
theorem Ka.mono {Q : List V → Hp → Prop} {vs : List VV} {β' : Sto} (q : Ka g S Q vs β') (l : Le S S1) : Ka g S1 Q vs β' := fun us S' l' k r => q us S' (l.trans l') k r
/-- what may follow a step: anything that grows with the state -/
def Grow {α : Type} (Qk : Sx → α → Sto → Prop) : Prop := ∀ {S S1 : Sx} {a : α} {b : Sto}, Le S S1 → Qk S a b → Qk S1 a b
theorem grow_v {Q : VK} : Grow (fun S => Kv g S Q) := fun l q => q.mono l
theorem grow_b {Q : Bool → Hp → Prop} : Grow (fun S => Kb g S Q) := fun l q => q.mono l
theorem grow_a {Q : List V → Hp → Prop} : Grow (fun S => Ka g S Q) := fun l q => q.mono l
theorem grow_e : Grow (fun S => Ke g ge S W σ) := fun l q => q.mono l
/-- an expression, then the rest -/
theorem step_v {α : Type} {m : Sl → M VV} {f : VV → M α} {Qk : Sx → α → Sto → Prop} {R : VK} (gk : Grow Qk) (k : OkS g β S) (sl : SlOk g S φ σ)
    (h : Out (bnd (m φ) f β) (Qk S) (Ke g ge S W σ))
    (hR : ∀ u x β1 S1, Le S S1 → OkS g β1 S1 → RepV g S1 u x → SlOk g S1 φ σ → Out (f x β1) (Qk S1) (Ke g ge S1 W σ) → R u S1.H) : tEv g ge W m σ S.H R :=
  ⟨S, φ, β, rfl, k, sl, (out_bnd h).imp (fun x β1 hx u S1 l k1 r => hR u x β1 S1 l k1 r (sl.mono l) (hx.imp (fun _ _ => gk l) fun _ _ z => z.mono l)) fun _ _ z => z⟩
theorem step_t {α : Type} {m : Sl → M Bool} {f : Bool → M α} {Qk : Sx → α → Sto → Prop} {R : Bool → Hp → Prop} (gk : Grow Qk) (k : OkS g β S) (sl : SlOk g S φ σ)
    (h : Out (bnd (m φ) f β) (Qk S) (Ke g ge S W σ))
    (hR : ∀ x β1 S1, Le S S1 → OkS g β1 S1 → SlOk g S1 φ σ → Out (f x β1) (Qk S1) (Ke g ge S1 W σ) → R x S1.H) : tEvT g ge W m σ S.H R :=
  ⟨S, φ, β, rfl, k, sl, (out_bnd h).imp (fun x β1 hx S1 l k1 => hR x β1 S1 l k1 (sl.mono l) (hx.imp (fun _ _ => gk l) fun _ _ z => z.mono l)) fun _ _ z => z⟩
theorem step_a {α : Type} {m : Sl → M (List VV)} {f : List VV → M α} {Qk : Sx → α → Sto → Prop} {R : List V → Hp → Prop} (gk : Grow Qk) (k : OkS g β S) (sl : SlOk g S φ σ)
    (h : Out (bnd (m φ) f β) (Qk S) (Ke g ge S W σ))
    (hR : ∀ us xs β1 S1, Le S S1 → OkS g β1 S1 → RepVs g S1 us xs → SlOk g S1 φ σ → Out (f xs β1) (Qk S1) (Ke g ge S1 W σ) → R us S1.H) : tEvA g ge W m σ S.H R :=
  ⟨S, φ, β, rfl, k, sl, (out_bnd h).imp (fun x β1 hx u S1 l k1 r => hR u x β1 S1 l k1 r (sl.mono l) (hx.imp (fun _ _ => gk l) fun _ _ z => z.mono l)) fun _ _ z => z⟩
theorem out_data {v : VV} {Qk : D → Sto → Prop} {Qe : Exc → Sto → Prop} (h : Out (dataOf v β) Qk Qe) : ∃ x, v = .d x ∧ Qk x β := by
  cases v with
  | d x => exact ⟨x, rfl, h⟩
  | box n => exact h.elim
  | clo l c => exact h.elim
  | bxs _ => exact h.elim
theorem RepV.d' {u : V} {x : D} (r : RepV g S u (.d x)) : Rep g.K g.cl S.F u x := by cases r; assumption
theorem out_datas : ∀ {vs : List VV} {us : List V} {Qk : List D → Sto → Prop} {Qe : Exc → Sto → Prop}, RepVs g S us vs → Out (datasOf vs β) Qk Qe → ∃ xs, Reps g.K g.cl S.F us xs ∧ Qk xs β
  | _, _, _, _, .nil, h => ⟨[], .nil, h⟩
  | _, _, _, _, .cons (v := u) (x := v) r rs, h => by
    obtain ⟨x, rfl, h⟩ := out_data (out_bnd h)
    obtain ⟨xs, hs, q⟩ := out_datas rs (out_bnd h)
    exact ⟨x :: xs, .cons r.d' hs, q⟩
theorem out_if {α : Type} {c : Bool} {m : M α} {Qk : α → Sto → Prop} {Qe : Exc → Sto → Prop} (h : Out ((if c = true then m else bad) β) Qk Qe) : c = true ∧ Out (m β) Qk Qe := by
  cases c with
  | true => exact ⟨rfl, h⟩
  | false => exact h.elim
end
/-! ### the context -/
structure XOk (g : G) (X : Cx) (n : Nat) (W : WX) : Prop where
  P : X.prog = g.P
  w : X.w = g.w
  K : X.K = g.K
  mg : X.mg = g.mg
  base : g.bok X.base
  calm : X.calm = true
  room : Room (2 * n + 1) X.A
  nd : X.N.Nodup
  takes : Takes X W
end VI
namespace L2
open PySem PySem.Spec PyProof.Rows
theorem PE.weak {X : Cx} {e : Expr} {t u : TE} (h : PE X e t) (w : ∀ σ H Q, u σ H Q → t σ H Q) : PE X e u := ⟨fun pins s σ H Q I q => h.run pins s σ H Q I (w σ H Q q)⟩
theorem PT.weak {X : Cx} {e : Expr} {t u : TT} (h : PT X e t) (w : ∀ σ H Q, u σ H Q → t σ H Q) : PT X e u := ⟨fun pins s σ H Q I q => h.run pins s σ H Q I (w σ H Q q)⟩
theorem PW.weak {X : Cx} {e : Expr} {t u : TT} (h : PW X e t) (w : ∀ σ H Q, u σ H Q → t σ H Q) : PW X e u := ⟨fun wh pins s σ H Q I q => h.run wh pins s σ H Q I (w σ H Q q)⟩
theorem PA.weak {X : Cx} {e : List Expr} {t u : TA} (h : PA X e t) (w : ∀ σ H Q, u σ H Q → t σ H Q) : PA X e u := ⟨fun pos pins s σ H Q I q => h.run pos pins s σ H Q I (w σ H Q q)⟩
theorem PE.or {X : Cx} {e : Expr} {t u : TE} (h : PE X e t) (h' : PE X e u) : PE X e (fun σ H Q => t σ H Q ∨ u σ H Q) := ⟨fun pins s σ H Q I q => q.elim (h.run pins s σ H Q I) (h'.run pins s σ H Q I)⟩
end L2
namespace VI
open PySem L2 M
open LamX (CodeO TabB ExtN)
section
variable {g : G} {ge : GE} {X : Cx} {n : Nat} {W : WX} {a b c : Expr} {pos : Pos}
theorem se_var {i : Nat} {x : Str} (h : PE X (.Name x pos) (tVar i)) : PE X (.Name x pos) (tEv g ge W fun φ => match φ[i]? with | some (some v) => ret v | _ => bad) := by
  refine h.weak fun σ H Q ⟨S, φ, β, e, k, sl, q⟩ => ?_
  subst e
  cases e : φ[i]? with
  | none => simp only [e] at q; exact q.elim
  | some o =>
    cases o with
    | none => simp only [e] at q; exact q.elim
    | some v =>
      simp only [e] at q
      obtain ⟨u, e1, r⟩ := sl.at_ i v e
      exact ⟨u, e1, q u S (.refl S) k r⟩
theorem se_const {v : V} {x : D} (h : PE X a (tC v)) (r : ∀ F, Rep g.K g.cl F v x) : PE X a (tEv g ge W fun _ => ret (.d x)) := by
  refine h.weak fun σ H Q ⟨S, φ, β, e, k, sl, q⟩ => ?_
  subst e
  exact q v S (.refl S) k (.d (r _))
theorem sa_nil : PA X [] (tEvA g ge W fun _ => ret []) := by
  refine pa_nil.weak fun σ H Q ⟨S, φ, β, e, k, sl, q⟩ => ?_
  subst e
  exact q [] S (.refl S) k .nil
theorem sa_cons {es : List Expr} {m : Sl → M VV} {ms : Sl → M (List VV)} (ha : PE X a (tEv g ge W m)) (hr : PA X es (tEvA g ge W ms)) (hs : starEach (a :: es) X.env = (false, eval a X.env) :: starEach es X.env) :
    PA X (a :: es) (tEvA g ge W fun φ => bnd (m φ) fun v => bnd (ms φ) fun vs => ret (v :: vs)) := by
  refine (pa_cons ha hr hs).weak fun σ H Q ⟨S, φ, β, e, k, sl, q⟩ => ?_
  subst e
  refine step_v (Qk := fun S => Ka g S Q) grow_a k sl q fun u x β1 S1 l1 k1 r1 sl1 q1 => ?_
  refine step_a (Qk := fun S => Ka g S Q) (S := S1) grow_a k1 sl1 q1 fun us xs β2 S2 l2 k2 r2 sl2 q2 => ?_
  exact q2 (u :: us) S2 (.refl S2) k2 (.cons (r1.mono l2) r2)
theorem se_tup {es : List Expr} {ms : Sl → M (List VV)} {x1 : Nat} (h : PA X es (tEvA g ge W ms)) : PE X (.Tuple es x1 pos) (tEv g ge W fun φ => bnd (ms φ) fun vs => bnd (datasOf vs) fun xs => if small xs.length then ret (.d (.tup xs)) else bad) := by
  refine (pe_tup h).weak fun σ H Q ⟨S, φ, β, e, k, sl, q⟩ => ?_
  subst e
  refine step_a (Qk := fun S => Kv g S Q) grow_v k sl q fun us vs β1 S1 l1 k1 r1 sl1 q1 => ?_
  obtain ⟨xs, rs, q2⟩ := out_datas r1 (out_bnd q1)
  obtain ⟨hs, q3⟩ := out_if q2
  have q3 : Kv g S1 Q (.d (.tup xs)) β1 := q3
  exact ⟨by rw [rs.len]; exact small_line hs, fun p hp => q3.tup k1 hp rs⟩
theorem se_bin {o : Bop} {ma mb : Sl → M VV} (hx : XOk g X n W) (ha : PE X a (tEv g ge W ma)) (hb : PE X b (tEv g ge W mb)) :
    PE X (.BinOp a (opOf o) b pos) (tEv g ge W fun φ => bnd (ma φ) fun u => bnd (mb φ) fun v => bnd (deref u) fun x => bnd (deref v) fun y => bnd (M.opt (binD o x y)) fun z => ret (.d z)) := by
  have op : OpR X (binaryOp (opOf o)) (rB g.K o) := hx.K ▸ op_rB o
  refine (pe_op op ha hb).weak fun σ H Q ⟨S, φ, β, e, k, sl, q⟩ => ?_
  subst e
  refine step_v (Qk := fun S => Kv g S Q) grow_v k sl q fun u x β1 S1 l1 k1 r1 sl1 q1 => ?_
  refine step_v (Qk := fun S => Kv g S Q) (S := S1) grow_v k1 sl1 q1 fun v y β2 S2 l2 k2 r2 sl2 q2 => ?_
  obtain ⟨x', q3, d1⟩ := DR.get k2 (r1.mono l2) (out_bnd q2)
  obtain ⟨y', q4, d2⟩ := DR.get k2 r2 (out_bnd q3)
  obtain ⟨z, e, q5⟩ := out_opt (out_bnd q4)
  exact bin_ok o k2 d1 d2 e q5
theorem se_neg {ma : Sl → M VV} (ha : PE X a (tEv g ge W ma)) : PE X (.UnaryOp .USub a pos) (tEv g ge W fun φ => bnd (ma φ) fun u => bnd (deref u) fun x => bnd (asInt x) fun i => ret (.d (.int (-i)))) := by
  refine (pe_un un_neg ha).weak fun σ H Q ⟨S, φ, β, e, k, sl, q⟩ => ?_
  subst e
  refine step_v (Qk := fun S => Kv g S Q) grow_v k sl q fun u x β1 S1 l1 k1 r1 sl1 q1 => ?_
  obtain ⟨x', q3, d1⟩ := DR.get k1 r1 (out_bnd q1)
  cases x' with
  | int i =>
    rw [d1.int']
    exact ⟨i, rfl, q3 (.int (-i)) S1 (.refl S1) k1 (.d (.int _))⟩
  | _ => exact q3.elim
theorem se_cmp {o : Cop} {ma mb : Sl → M VV} (hx : XOk g X n W) (ha : PE X a (tEv g ge W ma)) (hb : PE X b (tEv g ge W mb)) (hm : behindInMarks (copOf o) b = false) :
    PE X (.Compare a [copOf o] [b] pos) (tEv g ge W fun φ => bnd (ma φ) fun u => bnd (mb φ) fun v => bnd (deref u) fun x => bnd (deref v) fun y => bnd (M.opt (cmpD o x y)) fun z => ret (.d (.bl z))) := by
  have op : OpR X (compareOp (copOf o)) (rCmp g.K o) := hx.K ▸ op_rCmp (by have := hx.room.un; omega) o
  refine (pe_cmpR op ha hb hm).weak fun σ H Q ⟨S, φ, β, e, k, sl, q⟩ => ?_
  subst e
  refine step_v (Qk := fun S => Kv g S Q) grow_v k sl q fun u x β1 S1 l1 k1 r1 sl1 q1 => ?_
  refine step_v (Qk := fun S => Kv g S Q) (S := S1) grow_v k1 sl1 q1 fun v y β2 S2 l2 k2 r2 sl2 q2 => ?_
  obtain ⟨x', q3, d1⟩ := DR.get k2 (r1.mono l2) (out_bnd q2)
  obtain ⟨y', q4, d2⟩ := DR.get k2 r2 (out_bnd q3)
  obtain ⟨z, e, q5⟩ := out_opt (out_bnd q4)
  exact cmp_ok o k2 d1 d2 e (q5 (.bl z) S2 (.refl S2) k2 (.d (.bl z)))
theorem st_cmp {o : Cop} {ma mb : Sl → M VV} (hx : XOk g X n W) (ha : PE X a (tEv g ge W ma)) (hb : PE X b (tEv g ge W mb)) (hm : behindInMarks (copOf o) b = false) :
    PT X (.Compare a [copOf o] [b] pos) (tEvT g ge W fun φ => bnd (ma φ) fun u => bnd (mb φ) fun v => bnd (deref u) fun x => bnd (deref v) fun y => M.opt (cmpD o x y)) := by
  have op : OpR X (compareOp (copOf o)) (rCmp g.K o) := hx.K ▸ op_rCmp (by have := hx.room.un; omega) o
  refine (pt_cmpR op ha hb hm).weak fun σ H Q ⟨S, φ, β, e, k, sl, q⟩ => ?_
  subst e
  refine step_v (Qk := fun S => Kb g S Q) grow_b k sl q fun u x β1 S1 l1 k1 r1 sl1 q1 => ?_
  refine step_v (S := S1) (Qk := fun S => Kb g S Q) grow_b k1 sl1 q1 fun v y β2 S2 l2 k2 r2 sl2 q2 => ?_
  obtain ⟨x', q3, d1⟩ := DR.get k2 (r1.mono l2) (out_bnd q2)
  obtain ⟨y', q4, d2⟩ := DR.get k2 r2 (out_bnd q3)
  obtain ⟨z, e, q5⟩ := out_opt q4
  exact cmp_ok (Q := fun x H' => ∃ k, x = .bl k ∧ Q k H') o k2 d1 d2 e ⟨z, rfl, q5 S2 (.refl S2) k2⟩
end
end VI

set_option maxHeartbeats 2000000
namespace VI
open PySem L2 M
open LamX (CodeO TabB ExtN)
theorem out_noExc {α : Type} {m : M α} {s : Sto} {Qk : α → Sto → Prop} {Qe Qe' : Exc → Sto → Prop} (h : Out (noExc m s) Qk Qe) : Out (m s) Qk Qe' := by
  unfold noExc at h
  cases e : m s with
  | ok a s' => rw [e] at h; exact h
  | exc x s' => rw [e] at h; exact h.elim
  | bad => rw [e] at h; exact h
section
variable {g : G} {ge : GE} {X : Cx} {n : Nat} {W : WX} {a b c : Expr} {pos : Pos}
theorem chn_spec {o o' : Cop} {ma mb mc : Sl → M VV} {σ : L2.St} {H : Hp} {Q : VK} (h : tEv g ge W (fun φ => bnd (ma φ) fun u => bnd (mb φ) fun v => bnd (deref u) fun x => bnd (deref v) fun y => bnd (M.opt (cmpD o x y)) fun z =>
      if z then bnd (mc φ) fun t => bnd (deref v) fun y' => bnd (deref t) fun w => bnd (M.opt (cmpD o' y' w)) fun z' => ret (.d (.bl z')) else ret (.d (.bl false))) σ H Q) :
    tChain (rCmp g.K o) (rCmp g.K o') (tEv g ge W ma) (tEv g ge W mb) (tEv g ge W mc) σ H Q := by
  obtain ⟨S, φ, β, e, k, sl, q⟩ := h
  subst e
  refine step_v (Qk := fun S => Kv g S Q) grow_v k sl q fun u x β1 S1 l1 k1 r1 sl1 q1 => ?_
  refine step_v (S := S1) (Qk := fun S => Kv g S Q) grow_v k1 sl1 q1 fun v y β2 S2 l2 k2 r2 sl2 q2 => ?_
  obtain ⟨x', q3, d1⟩ := DR.get k2 (r1.mono l2) (out_bnd q2)
  obtain ⟨y', q4, d2⟩ := DR.get k2 r2 (out_bnd q3)
  obtain ⟨z, e, q5⟩ := out_opt (out_bnd q4)
  refine cmp_ok (Q := fun z' H3 => ∃ k, z' = .bl k ∧ _) o k2 d1 d2 e ⟨z, rfl, ?_⟩
  cases z with
  | false => exact q5 (.bl false) S2 (.refl S2) k2 (.d (.bl false))
  | true =>
    refine step_v (S := S2) (Qk := fun S => Kv g S Q) grow_v k2 sl2 q5 fun t w β3 S3 l3 k3 r3 sl3 q6 => ?_
    obtain ⟨y'', q7, d3⟩ := DR.get k3 (r2.mono l3) (out_bnd q6)
    obtain ⟨w', q8, d4⟩ := DR.get k3 r3 (out_bnd q7)
    obtain ⟨z', e', q9⟩ := out_opt (out_bnd q8)
    exact cmp_ok o' k3 d3 d4 e' (q9 (.bl z') S3 (.refl S3) k3 (.d (.bl z')))
theorem se_chn {o o' : Cop} {ma mb mc : Sl → M VV} (hx : XOk g X n W) (ha : PE X a (tEv g ge W ma)) (hb : PE X b (tEv g ge W mb)) (hc : PE X c (tEv g ge W mc)) (hm : lastMarks [copOf o, copOf o'] [b, c] = false) :
    PE X (.Compare a [copOf o, copOf o'] [b, c] pos) (tEv g ge W fun φ => bnd (ma φ) fun u => bnd (mb φ) fun v => bnd (deref u) fun x => bnd (deref v) fun y => bnd (M.opt (cmpD o x y)) fun z =>
      if z then bnd (mc φ) fun t => bnd (deref v) fun y' => bnd (deref t) fun w => bnd (M.opt (cmpD o' y' w)) fun z' => ret (.d (.bl z')) else ret (.d (.bl false))) := by
  have hu : X.A.units + 65 < cLine := by have := hx.room.un; omega
  have o1 : OpR X (compareOp (copOf o)) (rCmp g.K o) := hx.K ▸ op_rCmp hu o
  have o2 : OpR X (compareOp (copOf o')) (rCmp g.K o') := hx.K ▸ op_rCmp hu o'
  exact (pe_chain o1 o2 ha hb hc hm).weak fun σ H Q h => chn_spec h
theorem isN_of {S : Sx} {u : V} {v : VV} (r : RepV g S u v) : decide (u = .non) = isNon v := by
  cases r with
  | d r => cases r <;> simp [isNon]
  | box _ => simp [isNon]
  | clo _ _ => simp [isNon]
  | bxs _ => simp [isNon]
theorem notN_of {S : Sx} {u : V} {v : VV} (r : RepV g S u v) : (!decide (u = .non)) = !isNon v := by
  cases r with
  | d r => cases r <;> simp [isNon]
  | box _ => simp [isNon]
  | clo _ _ => simp [isNon]
  | bxs _ => simp [isNon]
theorem se_isN {ma : Sl → M VV} {j : Nat} {pos' : Pos} (ha : PE X a (tEv g ge W ma)) : PE X (.Compare a [.Is] [.Constant .none j pos'] pos) (tEv g ge W fun φ => bnd (ma φ) fun u => ret (.d (.bl (isNon u)))) := by
  refine (pe_cmp (pc_isN ha) (nobehind _ (by decide) (by decide))).weak fun σ H Q ⟨S, φ, β, e, k, sl, q⟩ => ?_
  subst e
  refine step_v (Qk := fun S => Kv g S Q) grow_v k sl q fun u x β1 S1 l1 k1 r1 sl1 q1 => ?_
  rw [isN_of r1]
  exact q1 _ S1 (.refl S1) k1 (.d (.bl _))
theorem se_notN {ma : Sl → M VV} {j : Nat} {pos' : Pos} (ha : PE X a (tEv g ge W ma)) : PE X (.Compare a [.IsNot] [.Constant .none j pos'] pos) (tEv g ge W fun φ => bnd (ma φ) fun u => ret (.d (.bl (!isNon u)))) := by
  refine (pe_cmp (pc_notN ha) (nobehind _ (by decide) (by decide))).weak fun σ H Q ⟨S, φ, β, e, k, sl, q⟩ => ?_
  subst e
  refine step_v (Qk := fun S => Kv g S Q) grow_v k sl q fun u x β1 S1 l1 k1 r1 sl1 q1 => ?_
  rw [notN_of r1]
  exact q1 _ S1 (.refl S1) k1 (.d (.bl _))
theorem st_isN {ma : Sl → M VV} {j : Nat} {pos' : Pos} (ha : PE X a (tEv g ge W ma)) : PT X (.Compare a [.Is] [.Constant .none j pos'] pos) (tEvT g ge W fun φ => bnd (ma φ) fun u => ret (isNon u)) := by
  refine (pt_cmp (pc_isN ha) (nobehind _ (by decide) (by decide))).weak fun σ H Q ⟨S, φ, β, e, k, sl, q⟩ => ?_
  subst e
  refine step_v (Qk := fun S => Kb g S Q) grow_b k sl q fun u x β1 S1 l1 k1 r1 sl1 q1 => ?_
  refine ⟨_, rfl, ?_⟩
  rw [isN_of r1]
  exact q1 S1 (.refl S1) k1
theorem st_notN {ma : Sl → M VV} {j : Nat} {pos' : Pos} (ha : PE X a (tEv g ge W ma)) : PT X (.Compare a [.IsNot] [.Constant .none j pos'] pos) (tEvT g ge W fun φ => bnd (ma φ) fun u => ret (!isNon u)) := by
  refine (pt_cmp (pc_notN ha) (nobehind _ (by decide) (by decide))).weak fun σ H Q ⟨S, φ, β, e, k, sl, q⟩ => ?_
  subst e
  refine step_v (Qk := fun S => Kb g S Q) grow_b k sl q fun u x β1 S1 l1 k1 r1 sl1 q1 => ?_
  refine ⟨_, rfl, ?_⟩
  rw [notN_of r1]
  exact q1 S1 (.refl S1) k1
theorem out_bool {S : Sx} {β : Sto} {v : VV} {u : V} {Qk : Bool → Sto → Prop} {Qe : Exc → Sto → Prop} (r : RepV g S u v) (h : Out (asBool v β) Qk Qe) : ∃ k, u = .bl k ∧ v = .d (.bl k) ∧ Qk k β := by
  cases r with
  | d r => cases r <;> first | exact h.elim | exact ⟨_, rfl, rfl, h⟩
  | box _ => exact h.elim
  | clo _ _ => exact h.elim
  | bxs _ => exact h.elim
theorem se_and {ma mb : Sl → M VV} {rest : List Expr} (ha : PE X a (tEv g ge W ma)) (hb : PE X (.BoolOp .And (b :: rest) pos) (tEv g ge W mb)) :
    PE X (.BoolOp .And (a :: b :: rest) pos) (tEv g ge W fun φ => bnd (ma φ) fun u => bnd (asBool u) fun k => if k then mb φ else ret (.d (.bl false))) := by
  refine (pe_and ha hb).weak fun σ H Q ⟨S, φ, β, e, k, sl, q⟩ => ?_
  subst e
  refine step_v (Qk := fun S => Kv g S Q) grow_v k sl q fun u x β1 S1 l1 k1 r1 sl1 q1 => ?_
  obtain ⟨kk, rfl, rfl, q2⟩ := out_bool r1 (out_bnd q1)
  refine ⟨kk, rfl, ?_⟩
  cases kk with
  | true => exact ⟨S1, φ, β1, rfl, k1, sl1, q2⟩
  | false => exact q2 (.bl false) S1 (.refl S1) k1 (.d (.bl false))
theorem se_or {ma mb : Sl → M VV} {rest : List Expr} (ha : PE X a (tEv g ge W ma)) (hb : PE X (.BoolOp .Or (b :: rest) pos) (tEv g ge W mb)) :
    PE X (.BoolOp .Or (a :: b :: rest) pos) (tEv g ge W fun φ => bnd (ma φ) fun u => bnd (asBool u) fun k => if k then ret (.d (.bl true)) else mb φ) := by
  refine (pe_or ha hb).weak fun σ H Q ⟨S, φ, β, e, k, sl, q⟩ => ?_
  subst e
  refine step_v (Qk := fun S => Kv g S Q) grow_v k sl q fun u x β1 S1 l1 k1 r1 sl1 q1 => ?_
  obtain ⟨kk, rfl, rfl, q2⟩ := out_bool r1 (out_bnd q1)
  refine ⟨kk, rfl, ?_⟩
  cases kk with
  | false => exact ⟨S1, φ, β1, rfl, k1, sl1, q2⟩
  | true => exact q2 (.bl true) S1 (.refl S1) k1 (.d (.bl true))
theorem se_not {ma : Sl → M VV} (ha : PE X a (tEv g ge W ma)) : PE X (.UnaryOp .Not a pos) (tEv g ge W fun φ => bnd (ma φ) fun u => bnd (asBool u) fun k => ret (.d (.bl (!k)))) := by
  refine (pe_not ha).weak fun σ H Q ⟨S, φ, β, e, k, sl, q⟩ => ?_
  subst e
  refine step_v (Qk := fun S => Kv g S Q) grow_v k sl q fun u x β1 S1 l1 k1 r1 sl1 q1 => ?_
  obtain ⟨kk, rfl, rfl, q2⟩ := out_bool r1 (out_bnd q1)
  exact ⟨kk, rfl, q2 (.bl (!kk)) S1 (.refl S1) k1 (.d (.bl _))⟩
theorem st_chn {o o' : Cop} {ma mb mc : Sl → M VV} (hx : XOk g X n W) (ha : PE X a (tEv g ge W ma)) (hb : PE X b (tEv g ge W mb)) (hc : PE X c (tEv g ge W mc)) (hm : lastMarks [copOf o, copOf o'] [b, c] = false) :
    PT X (.Compare a [copOf o, copOf o'] [b, c] pos) (tEvT g ge W fun φ => bnd (bnd (ma φ) fun u => bnd (mb φ) fun v => bnd (deref u) fun x => bnd (deref v) fun y => bnd (M.opt (cmpD o x y)) fun z =>
      if z then bnd (mc φ) fun t => bnd (deref v) fun y' => bnd (deref t) fun w => bnd (M.opt (cmpD o' y' w)) fun z' => ret (.d (.bl z')) else ret (.d (.bl false))) asBool) := by
  have hu : X.A.units + 65 < cLine := by have := hx.room.un; omega
  have o1 : OpR X (compareOp (copOf o)) (rCmp g.K o) := hx.K ▸ op_rCmp hu o
  have o2 : OpR X (compareOp (copOf o')) (rCmp g.K o') := hx.K ▸ op_rCmp hu o'
  refine (pt_chain o1 o2 ha hb hc hm).weak fun σ H Q ⟨S, φ, β, e, k, sl, q⟩ => ?_
  subst e
  refine chn_spec ⟨S, φ, β, rfl, k, sl, (out_bnd q).imp (fun x β1 q1 u S1 l1 k1 r1 => ?_) fun _ _ z => z⟩
  obtain ⟨kk, rfl, rfl, q2⟩ := out_bool r1 q1
  exact ⟨kk, rfl, q2 S1 l1 k1⟩
theorem st_val {ma : Sl → M VV} (ha : PE X a (tEv g ge W ma)) (he : ∀ whole, isTrue a X.env whole = (do let v ← whole; standAt a.pos; holding [v] (truthy v))) : PT X a (tEvT g ge W fun φ => bnd (ma φ) asBool) := by
  refine (pt_val ha he).weak fun σ H Q ⟨S, φ, β, e, k, sl, q⟩ => ?_
  subst e
  refine step_v (Qk := fun S => Kb g S Q) grow_b k sl q fun u x β1 S1 l1 k1 r1 sl1 q1 => ?_
  obtain ⟨kk, rfl, rfl, q2⟩ := out_bool r1 q1
  exact ⟨kk, rfl, q2 S1 (.refl S1) k1⟩
theorem st_and {ma mb : Sl → M Bool} {rest : List Expr} (ha : PT X a (tEvT g ge W ma)) (hb : PW X (.BoolOp .And (b :: rest) pos) (tEvT g ge W mb)) :
    PW X (.BoolOp .And (a :: b :: rest) pos) (tEvT g ge W fun φ => bnd (ma φ) fun k => if k then mb φ else ret false) := by
  refine (pw_and ha hb).weak fun σ H Q ⟨S, φ, β, e, k, sl, q⟩ => ?_
  subst e
  refine step_t (Qk := fun S => Kb g S Q) grow_b k sl q fun x β1 S1 l1 k1 sl1 q1 => ?_
  cases x with
  | true => exact ⟨S1, φ, β1, rfl, k1, sl1, q1⟩
  | false => exact q1 S1 (.refl S1) k1
theorem st_or {ma mb : Sl → M Bool} {rest : List Expr} (ha : PT X a (tEvT g ge W ma)) (hb : PW X (.BoolOp .Or (b :: rest) pos) (tEvT g ge W mb)) :
    PW X (.BoolOp .Or (a :: b :: rest) pos) (tEvT g ge W fun φ => bnd (ma φ) fun k => if k then ret true else mb φ) := by
  refine (pw_or ha hb).weak fun σ H Q ⟨S, φ, β, e, k, sl, q⟩ => ?_
  subst e
  refine step_t (Qk := fun S => Kb g S Q) grow_b k sl q fun x β1 S1 l1 k1 sl1 q1 => ?_
  cases x with
  | false => exact ⟨S1, φ, β1, rfl, k1, sl1, q1⟩
  | true => exact q1 S1 (.refl S1) k1
theorem st_not {ma : Sl → M Bool} (ha : PT X a (tEvT g ge W ma)) : PT X (.UnaryOp .Not a pos) (tEvT g ge W fun φ => bnd (ma φ) fun k => ret (!k)) := by
  refine (pt_not ha).weak fun σ H Q ⟨S, φ, β, e, k, sl, q⟩ => ?_
  subst e
  refine step_t (Qk := fun S => Kb g S Q) grow_b k sl q fun x β1 S1 l1 k1 sl1 q1 => ?_
  exact q1 S1 (.refl S1) k1
theorem se_ite {mt : Sl → M Bool} {ma mb : Sl → M VV} (hc : PT X c (tEvT g ge W mt)) (ha : PE X a (tEv g ge W ma)) (hb : PE X b (tEv g ge W mb)) :
    PE X (.IfExp c a b pos) (tEv g ge W fun φ => bnd (mt φ) fun k => if k then ma φ else mb φ) := by
  refine (pe_ifExp hc ha hb).weak fun σ H Q ⟨S, φ, β, e, k, sl, q⟩ => ?_
  subst e
  refine step_t (Qk := fun S => Kv g S Q) grow_v k sl q fun x β1 S1 l1 k1 sl1 q1 => ?_
  cases x with
  | true => exact ⟨S1, φ, β1, rfl, k1, sl1, q1⟩
  | false => exact ⟨S1, φ, β1, rfl, k1, sl1, q1⟩
end
/-! ### what is new: a list, a dict -/
def NewCt (g : G) (S : Sx) (o : HO) : Ct → Prop
  | .lst xs => ∃ vs, o = .lst vs ∧ Reps g.K g.cl S.F vs xs
  | .dic false kvs => ∃ r, o = .dK r ∧ RepK g.K g.cl S.F r kvs
  | .dic true kvs => ∃ r, o = .dT r ∧ RepT g.K g.cl S.F r kvs
  | _ => False
def Kf (g : G) (S : Sx) (Q : VK) (c : Ct) (β' : Sto) : Prop := ∀ p o S', Le S S' → OkS g β' S' → S'.H p = none → NewCt g S' o c → Q (.ref p) (upd S'.H p o)
theorem Kf.mono {g : G} {S S1 : Sx} {Q : VK} {c : Ct} {β' : Sto} (q : Kf g S Q c β') (e : Le S S1) : Kf g S1 Q c β' := fun p o S' l k hp r => q p o S' (e.trans l) k hp r
theorem grow_f {g : G} {Q : VK} : Grow (fun S => Kf g S Q) := fun l q => q.mono l
def tFr (g : G) (ge : GE) (W : WX) (m : Sl → M Ct) : TE := fun σ H Q => ∃ S φ β, S.H = H ∧ OkS g β S ∧ SlOk g S φ σ ∧ Out (m φ β) (Kf g S Q) (Ke g ge S W σ)
section
variable {g : G} {S : Sx} {β : Sto} {p : Addr} {o : HO} {c : Ct}
theorem NewCt.notbl (h : NewCt g S o c) : (∀ ps, o ≠ .tbl ps) ∧ ∀ x, o ≠ .own x := by
  cases c with
  | lst xs => obtain ⟨vs, rfl, _⟩ := h; exact ⟨(fun _ z => by cases z), (fun _ z => by cases z)⟩
  | dic t kvs =>
    cases t with
    | false => obtain ⟨vs, rfl, _⟩ := h; exact ⟨(fun _ z => by cases z), (fun _ z => by cases z)⟩
    | true => obtain ⟨vs, rfl, _⟩ := h; exact ⟨(fun _ z => by cases z), (fun _ z => by cases z)⟩
  | fdic t kvs => exact h.elim
  | obj c fs => exact h.elim
theorem NewCt.rep (k : OkS g β S) (hp : S.H p = none) (h : NewCt g S o c) : Rep g.K g.cl (S.add p o).F (.ref p) (ctZ c) := by
  have e : Same S.F (S.add p o).F := (Le.add (o := o) k hp).F
  cases c with
  | lst xs => obtain ⟨vs, rfl, r⟩ := h; exact .lst upd_same (r.mono e)
  | dic t kvs =>
    cases t with
    | false => obtain ⟨vs, rfl, r⟩ := h; exact .dic upd_same (r.mono e)
    | true => obtain ⟨vs, rfl, r⟩ := h; exact .dicT upd_same (r.mono e)
  | fdic t kvs => exact h.elim
  | obj c fs => exact h.elim
/-- a new box at p -/
abbrev Sx.box (S : Sx) (p : Addr) (o : HO) : Sx := ⟨S.ι ++ [p], S.F, upd S.H p o⟩
theorem OkS.noF (k : OkS g β S) (hp : S.H p = none) : S.F p = none := by
  cases e : S.F p with
  | none => rfl
  | some u => rw [k.sub p u e] at hp; cases hp
theorem Le.box (hp : S.H p = none) : Le S (S.box p o) := by
  refine ⟨⟨[p], rfl⟩, .refl _, fun b u e _ _ => upd_mono hp b u e, fun b ps e => ⟨ps, upd_mono hp b _ e⟩, fun b u e => ⟨u, upd_mono hp b u e⟩, fun b h1 h2 => absurd h2 h1, fun b h => ?_⟩
  rcases List.mem_append.mp h with z | z
  · exact .inl z
  · simp at z; subst z; exact .inr hp
theorem OkS.box (k : OkS g β S) (hp : S.H p = none) (ht : (∀ ps, o ≠ .tbl ps) ∧ ∀ x, o ≠ .own x) (hc : CtOk g S.F (upd S.H p o) p c) : OkS g (β ++ [⟨c, true⟩]) (S.box p o) := by
  have hF := k.noF hp
  have eH : Same S.H (upd S.H p o) := upd_mono hp
  have nin : p ∉ S.ι := fun z => k.tracked p z hp
  refine ⟨fun b u e => eH b u (k.sub b u e), k.ntb, by simp [k.len], fun n b e => ?_, fun m n q h1 h2 => ?_, fun q hq e => ?_, fun b x e => ?_, k.tabs.ext eH⟩
  · by_cases hn : n < β.length
    · rw [List.getElem?_append_left hn] at e
      obtain ⟨q, e1, e2⟩ := k.bx n b e
      refine ⟨q, by rw [List.getElem?_append_left (by rw [k.len]; exact hn)]; exact e1, ?_⟩
      unfold BxOk at e2 ⊢
      split
      · rename_i hl
        rw [if_pos hl] at e2
        exact ⟨e2.1, e2.2.mono (.refl _) eH⟩
      · rename_i hl
        rw [if_neg hl] at e2
        exact e2
    · rw [List.getElem?_append_right (by omega)] at e
      have hn0 : n - β.length = 0 := by
        cases hh : n - β.length with
        | zero => rfl
        | succ j => rw [hh] at e; simp at e
      rw [hn0] at e
      simp at e
      subst e
      refine ⟨p, ?_, ?_⟩
      · rw [List.getElem?_append_right (by rw [k.len]; omega), k.len, hn0]; rfl
      · unfold BxOk
        rw [if_pos rfl]
        exact ⟨hF, hc⟩
  · by_cases hm : m < S.ι.length
    · rw [List.getElem?_append_left hm] at h1
      by_cases hn : n < S.ι.length
      · rw [List.getElem?_append_left hn] at h2
        exact k.inj m n q h1 h2
      · rw [List.getElem?_append_right (by omega)] at h2
        have h2 := List.mem_of_getElem? h2
        simp at h2
        subst h2
        exact absurd (List.mem_of_getElem? h1) nin
    · rw [List.getElem?_append_right (by omega)] at h1
      have h1' := List.mem_of_getElem? h1
      simp at h1'
      subst h1'
      by_cases hn : n < S.ι.length
      · rw [List.getElem?_append_left hn] at h2
        exact absurd (List.mem_of_getElem? h2) nin
      · rw [List.getElem?_append_right (by omega)] at h2
        have a1 := (List.getElem?_eq_some_iff.mp h1).1
        have a2 := (List.getElem?_eq_some_iff.mp h2).1
        simp at a1 a2
        omega
  · have e : upd S.H p o q = none := e
    rcases List.mem_append.mp hq with z | z
    · have hne : q ≠ p := fun y => nin (y ▸ z)
      rw [upd_ne hne] at e
      exact k.tracked q z e
    · simp at z; subst z; rw [upd_same] at e; cases e
  · have e : upd S.H p o b = some (.own x) := e
    by_cases hb : b = p
    · subst hb; rw [upd_same] at e; cases e; exact absurd rfl (ht.2 x)
    · rw [upd_ne hb] at e
      intro z
      rcases List.mem_append.mp z with z | z
      · exact k.own b x e z
      · simp at z; exact hb z
theorem NewCt.ct (k : OkS g β S) (h : NewCt g S o c) : CtOk g S.F (upd S.H p o) p c := by
  cases c with
  | lst xs => obtain ⟨vs, rfl, r⟩ := h; exact ⟨vs, upd_same, r⟩
  | dic t kvs =>
    cases t with
    | false => obtain ⟨vs, rfl, r⟩ := h; exact ⟨vs, upd_same, r⟩
    | true => obtain ⟨vs, rfl, r⟩ := h; exact ⟨vs, upd_same, r⟩
  | fdic t kvs => exact h.elim
  | obj c fs => exact h.elim
end
section
variable {g : G} {ge : GE} {X : Cx} {n : Nat} {W : WX} {a b c : Expr} {pos : Pos}
/-- what is new is data -/
theorem se_fz {m : Sl → M Ct} (h : PE X a (tFr g ge W m)) : PE X a (tEv g ge W fun φ => bnd (m φ) fun c => ret (.d (ctZ c))) := by
  refine h.weak fun σ H Q ⟨S, φ, β, e, k, sl, q⟩ => ?_
  refine ⟨S, φ, β, e, k, sl, (out_bnd q).imp (fun c β' (q : Kv g S Q (.d (ctZ c)) β') p o S' l k' hp r => ?_) fun _ _ z => z⟩
  exact q (.ref p) (S'.add p o) (l.trans (Le.add k' hp)) (k'.add hp r.notbl.1 r.notbl.2) (.d (r.rep k' hp))
/-- what is new is a box -/
theorem se_bx {m : Sl → M Ct} (h : PE X a (tFr g ge W m)) : PE X a (tEv g ge W fun φ => bnd (m φ) fun c => newBox c) := by
  refine h.weak fun σ H Q ⟨S, φ, β, e, k, sl, q⟩ => ?_
  refine ⟨S, φ, β, e, k, sl, (out_bnd q).imp (fun c β' q p o S' l k' hp r => ?_) fun _ _ z => z⟩
  have q : Kv g S Q (.box β'.length) (β' ++ [⟨c, true⟩]) := q
  refine q (.ref p) (S'.box p o) (l.trans (Le.box hp)) (k'.box hp r.notbl (r.ct k')) (.box ?_)
  show (S'.ι ++ [p])[β'.length]? = some p
  rw [← k'.len, List.getElem?_append_right (Nat.le_refl _), Nat.sub_self]
  rfl
theorem fr_disp {es : List Expr} {ms : Sl → M (List VV)} (h : PA X es (tEvA g ge W ms)) : PE X (.List es pos) (tFr g ge W fun φ => bnd (ms φ) fun vs => bnd (datasOf vs) fun xs => if small xs.length then ret (Ct.lst xs) else bad) := by
  refine (pe_lst h).weak fun σ H Q ⟨S, φ, β, e, k, sl, q⟩ => ?_
  subst e
  refine step_a (Qk := fun S => Kf g S Q) grow_f k sl q fun us vs β1 S1 l1 k1 r1 sl1 q1 => ?_
  obtain ⟨xs, rs, q2⟩ := out_datas r1 (out_bnd q1)
  obtain ⟨hs, q3⟩ := out_if q2
  have q3 : Kf g S1 Q (.lst xs) β1 := q3
  exact ⟨by rw [rs.len]; exact small_line hs, fun p hp => q3 p (.lst us) S1 (.refl S1) k1 hp ⟨us, rfl, rs⟩⟩
theorem fr_dnew : PE X (.Dict [] [] pos) (tFr g ge W fun _ => ret (.dic false [])) := by
  refine pe_dnewK.weak fun σ H Q ⟨S, φ, β, e, k, sl, q⟩ => ?_
  subst e
  have q : Kf g S Q (.dic false []) β := q
  intro p hp
  exact q p (.dK []) S (.refl S) k hp ⟨[], rfl, .nil⟩
theorem fr_dnewT : PE X (.Dict [] [] pos) (tFr g ge W fun _ => ret (.dic true [])) := by
  refine pe_dnewT.weak fun σ H Q ⟨S, φ, β, e, k, sl, q⟩ => ?_
  subst e
  have q : Kf g S Q (.dic true []) β := q
  intro p hp
  exact q p (.dT []) S (.refl S) k hp ⟨[], rfl, .nil⟩
end
end VI

set_option maxHeartbeats 2000000
namespace VI
open PySem L2 M
open LamX (CodeO TabB ExtN)
/-! ### what a def promises -/
def spF (g : G) (ge : GE) (n f : Nat) : Sp := fun vs H Q E => vs.length = (g.fi f).ps.length ∧ ∃ S β xs, S.H = H ∧ OkS g β S ∧ RepVs g S vs xs ∧
  Out (callA g.T n (.f f) xs β) (Kv g S Q) (fun e β' => ∀ c d S', Le S S' → OkS g β' S' → RepE g ge.cl ge.fs S' c d e → E c d S'.H)
/-- a def of the text, its code object known -/
def FunV (K : PySem.W.Frag) (x qual : Str) (st : Stmt) (f : Addr) (cd : Value) (fd : FuncData) : Prop := ∃ (oc : Value) (od : Option Addr) (dV kV doc pm : Value) (an : Option Addr) (ct : Value) (osl : Array (Option Value)),
  fd = PySem.W.fnOf x qual (defArgs st) (defBody st) (defScope st) dV kV doc pm an cd ct ∧ K.lookup f = some ⟨oc, od, .func fd, osl⟩ ∧ PySem.W.codeIn K cd qual = true
/-- a def as it stands behind the top -/
structure FOk (g : G) (f : Nat) (F : FDef) : Prop where
  len : (g.fi f).ps.length = F.np
  nl : (g.fi f).N.length = F.nl
  binds : Binds g.K (g.fi f).fd (g.fi f).ps []
  keep : PySem.W.keepIn g.K (.ref (g.fi f).ad) = true
  fun_ : FunV g.K (g.fi f).nm (g.fi f).qual (g.fi f).st (g.fi f).ad (g.fi f).cd (g.fi f).fd
  sc : FnScope (g.fi f).N (g.fi f).ps (defScope (g.fi f).st)
abbrev FnG (g : G) (ge : GE) (n f : Nat) : Prop := ∀ base, g.bok base → FnOk g.P g.w g.K g.mg base (L2.CX g.P g.w) (2 * n) (g.fi f).ad (g.fi f).fd (g.fi f).ps (spF g ge n f)
theorem RepVs.len {g : G} {S : Sx} : ∀ {vs : List V} {xs : List VV}, RepVs g S vs xs → vs.length = xs.length
  | _, _, .nil => rfl
  | _, _, .cons _ r => congrArg (· + 1) r.len
theorem RepVs.append {g : G} {S : Sx} : ∀ {vs ws : List V} {xs ys : List VV}, RepVs g S vs xs → RepVs g S ws ys → RepVs g S (vs ++ ws) (xs ++ ys)
  | _, _, _, _, .nil, s => s
  | _, _, _, _, .cons h r, s => .cons h (r.append s)
theorem RepVs.get' {g : G} {S : Sx} : ∀ {vs : List V} {xs : List VV} {i : Nat} {x : VV}, RepVs g S vs xs → xs[i]? = some x → ∃ v, vs[i]? = some v ∧ RepV g S v x
  | _, _, _, _, .nil, e => by simp at e
  | _, _, 0, _, .cons h r, e => by simp at e; subst e; exact ⟨_, rfl, h⟩
  | _, _, i + 1, _, .cons h r, e => by simpa using r.get' (i := i) (by simpa using e)
theorem callA_len {T : Tbl} {n f : Nat} {xs : List VV} {β : Sto} {Qk : VV → Sto → Prop} {Qe : Exc → Sto → Prop} {F : FDef} (hF : T.fs[f]? = some F) (h : Out (callA T n (.f f) xs β) Qk Qe) : xs.length = F.np := by
  cases n with
  | zero => exact h.elim
  | succ n =>
    simp only [callA, hF, runF] at h
    by_cases hl : xs.length = F.np
    · exact hl
    · rw [if_neg hl] at h; exact h.elim
section
variable {g : G} {ge : GE} {X : Cx} {n : Nat} {W : WX} {a b c : Expr} {pos p : Pos}
theorem XOk.fn (hx : XOk g X n W) {f : Nat} (F : FnG g ge n f) : FnOk X.prog X.w X.K X.mg X.base (L2.CX X.prog X.w) (2 * n) (g.fi f).ad (g.fi f).fd (g.fi f).ps (spF g ge n f) := by
  rw [hx.P, hx.w, hx.K, hx.mg]; exact F X.base hx.base
/-- what a call asks -/
theorem call_sp {S : Sx} {β : Sto} {σ : L2.St} {f : Nat} {F : FDef} {vs : List V} {xs : List VV} {Q : VK} (hF : g.T.fs[f]? = some F) (o : FOk g f F) (k : OkS g β S) (r : RepVs g S vs xs) (q : Out (callA g.T n (.f f) xs β) (Kv g S Q) (Ke g ge S W σ)) :
    spF g ge n f vs S.H Q (WE W σ) := by
  refine ⟨?_, S, β, xs, rfl, k, r, q⟩
  rw [r.len, callA_len hF q, o.len]
theorem se_call {f : Nat} {F : FDef} {x : Str} {es : List Expr} {ms : Sl → M (List VV)} (hx : XOk g X n W) (hF : g.T.fs[f]? = some F) (o : FOk g f F) (Fn : FnG g ge n f) (hg : Gl X x) (hm : g.mg x = some (.ref (g.fi f).ad)) (ha : PA X (a :: es) (tEvA g ge W ms))
    (hd : (x == ("__debug__" : Str)) = false) (he : starEach (a :: es) X.env = (false, eval a X.env) :: starEach es X.env) (hpl : (backTo pos (starEach es X.env)).any (·.1) = false) :
    PE X (.Call (.Name x p) (a :: es) [] pos) (tEv g ge W fun φ => bnd (ms φ) fun vs => callA g.T n (.f f) vs) := by
  refine (pe_callS (E := WE W) (hx.fn Fn) (hx.room.mono (by omega)) hg (by rw [hx.mg]; exact hm) (by rw [hx.K]; exact o.keep) (by rw [hx.K]; exact o.binds) (passAt hx.takes) ha hd he hpl).weak fun σ H Q ⟨S, φ, β, e, k, sl, q⟩ => ?_
  subst e
  refine step_a (Qk := fun S => Kv g S Q) grow_v k sl q fun us xs β1 S1 l1 k1 r1 sl1 q1 => ?_
  exact call_sp hF o k1 r1 q1
/-! #### by keywords -/
def permL {α : Type} (vs : List α) (pm : List Nat) : List α := pm.filterMap fun i => vs[i]?
theorem perm_vals {pm : List Nat} {vs : List V} {us : List Value} (r : Vals vs us) : Vals (permL vs pm) (permL us pm) := by
  induction pm with
  | nil => exact .nil
  | cons i pm ih =>
    unfold permL at ih ⊢
    rw [List.filterMap_cons, List.filterMap_cons]
    cases e : vs[i]? with
    | none => rw [r.none_of e]; exact ih
    | some v =>
      obtain ⟨u, e2, ru⟩ := r.get e
      rw [e2]
      exact .cons ru ih
theorem RepVs.none_of {S : Sx} {vs : List V} {xs : List VV} {i : Nat} (r : RepVs g S vs xs) (e : vs[i]? = none) : xs[i]? = none := by
  have h1 := r.len
  have h2 : vs.length ≤ i := List.getElem?_eq_none_iff.mp e
  exact List.getElem?_eq_none_iff.mpr (by omega)
theorem RepVs.get {S : Sx} : ∀ {vs : List V} {xs : List VV} {i : Nat} {v : V}, RepVs g S vs xs → vs[i]? = some v → ∃ x, xs[i]? = some x ∧ RepV g S v x
  | _, _, _, _, .nil, e => by simp at e
  | _, _, 0, _, .cons h r, e => by simp at e; subst e; exact ⟨_, rfl, h⟩
  | _, _, i + 1, _, .cons h r, e => by simpa using RepVs.get (i := i) r (by simpa using e)
theorem perm_reps {S : Sx} {pm : List Nat} {vs : List V} {xs : List VV} (r : RepVs g S vs xs) : RepVs g S (permL vs pm) (permV xs pm) := by
  induction pm with
  | nil => exact .nil
  | cons i pm ih =>
    unfold permL permV at ih ⊢
    rw [List.filterMap_cons, List.filterMap_cons]
    cases e : vs[i]? with
    | none => rw [r.none_of e]; exact ih
    | some v =>
      obtain ⟨u, e2, ru⟩ := RepVs.get r e
      rw [e2]
      exact .cons ru ih
/-- how a call with keywords binds -/
def KB (K : PySem.W.Frag) (fd : FuncData) (ps ks : List Str) (m : Nat) (pm : List Nat) : Prop := ∀ (s : Shared) (us ws : List Value), K.In s.heap → us.length = m → ws.length = ks.length → BindsTo s fd ⟨us, ks.zip ws⟩ (ps.zip (permL (us ++ ws) pm))
theorem run_fnKS {f : Nat} {ks : List Str} {pm : List Nat} {pins : List (Addr × Obj)} {σ : L2.St} {H : Hp} {s : Shared} {Q : VK} {us ws : List Value} {vs zs : List V} (hx : XOk g X n W) (Fn : FnG g ge n f)
    (hb : KB g.K (g.fi f).fd (g.fi f).ps ks us.length pm) (I : Inv X pins σ H s) (r : Vals vs us) (rz : Vals zs ws) (hl : ws.length = ks.length) (h : spF g ge n f (permL (vs ++ zs) pm) H Q (WE W σ)) :
    wpAny (model X.prog X.w) X.A (PySem.call (.ref (g.fi f).ad) us (ks.zip ws)) (EP X pins σ Q) X.xe s := by
  refine wpAny_call (codeAny_mono ((hx.fn Fn).run X.A X.stack s H ⟨us, ks.zip ws⟩ (permL (us ++ ws) pm) (permL (vs ++ zs) pm) Q (WE W σ) (hx.room.mono (by omega)) I.env0 (hb s us ws (hx.K ▸ I.kIn) rfl hl) (perm_vals (r.append rz)) h) fun r s' hq => ?_)
  cases r with
  | error e => exact passAt hx.takes σ pins H s e s' I hq
  | ok fl =>
    cases fl with
    | ret u => exact I.after hq
    | next => exact False.elim hq
    | brk => exact False.elim hq
    | cont => exact False.elim hq
theorem sk_nil : PK X [] (tEvA g ge W fun _ => ret []) := ⟨fun pos pins s σ H Q I ⟨S, φ, β, e, k, sl, q⟩ => by
  subst e
  exact pk_nil.run pos pins s σ S.H Q I (q [] S (.refl S) k .nil)⟩
theorem sk_cons {kws : List Keyword} {nm : Option Str} {kpos : Pos} {m : Sl → M VV} {ms : Sl → M (List VV)} (ha : PE X a (tEv g ge W m)) (hr : PK X kws (tEvA g ge W ms)) :
    PK X (⟨nm, a, kpos⟩ :: kws) (tEvA g ge W fun φ => bnd (m φ) fun v => bnd (ms φ) fun vs => ret (v :: vs)) := ⟨fun pos pins s σ H Q I ⟨S, φ, β, e, k, sl, q⟩ => by
  subst e
  refine (pk_cons ha hr).run pos pins s σ S.H Q I ?_
  refine step_v (Qk := fun S => Ka g S Q) grow_a k sl q fun u x β1 S1 l1 k1 r1 sl1 q1 => ?_
  refine step_a (S := S1) (Qk := fun S => Ka g S Q) grow_a k1 sl1 q1 fun us xs β2 S2 l2 k2 r2 sl2 q2 => ?_
  exact q2 (u :: us) S2 (.refl S2) k2 (.cons (r1.mono l2) r2)⟩
theorem go_kw {f : Nat} {F : FDef} {kws : List Keyword} {ks : List Str} {pm : List Nat} {m : Nat} {ns : Sl → M (List VV)} {pins : List (Addr × Obj)} {σ : L2.St} {Q : VK} {φ : Sl} (hx : XOk g X n W) (hF : g.T.fs[f]? = some F) (o : FOk g f F) (Fn : FnG g ge n f)
    (hb : KB g.K (g.fi f).fd (g.fi f).ps ks m pm) (hnl : ∀ φ β xs β', ns φ β = .ok xs β' → xs.length = ks.length) (hk : PK X kws (tEvA g ge W ns)) (hks : (backToKw pos (keywordEach kws X.env)).filterMap (·.1) = ks)
    {us : List Value} {s1 : Shared} {vs : List V} {xs : List VV} {β1 : Sto} {S1 : Sx} (k1 : OkS g β1 S1) (r1 : RepVs g S1 vs xs) (sl1 : SlOk g S1 φ σ) (hlen : us.length = m) (I1 : Inv X pins σ S1.H s1) (rv : Vals vs us)
    (q1 : Out (bnd (ns φ) (fun ws => callA g.T n (.f f) (permV (xs ++ ws) pm)) β1) (Kv g S1 Q) (Ke g ge S1 W σ)) :
    wpAny (model X.prog X.w) X.A (evalAll ((backToKw pos (keywordEach kws X.env)).map (·.2))) (fun ks' s₂ => X.K.In s₂.heap ∧ wpAny (model X.prog X.w) X.A (PySem.call (.ref (g.fi f).ad) ([] ++ us) (((backToKw pos (keywordEach kws X.env)).filterMap (·.1)).zip ks')) (EP X pins σ Q) X.xe s₂) X.xe s1 := by
  have hk' := hk.run pos pins s1 σ S1.H (fun zs H2 => zs.length = ks.length ∧ spF g ge n f (permL (vs ++ zs) pm) H2 Q (WE W σ)) I1 ⟨S1, φ, β1, rfl, k1, sl1, ?_⟩
  · refine thn hk' fun ws s2 ⟨zs, H2, I2, rz, hzl, q2⟩ => ⟨I2.kIn, ?_⟩
    rw [hks]
    refine run_fnKS (us := us) hx Fn ?_ I2 rv rz ?_ q2
    · rw [hlen]; exact hb
    · rw [← rz.length]; exact hzl
  · have q1' := out_bnd q1
    cases en : ns φ β1 with
    | bad => rw [en] at q1'; exact q1'.elim
    | exc e b => rw [en] at q1'; exact q1'
    | ok ys b =>
      rw [en] at q1'
      intro zs S2 l2 k2 r2
      refine ⟨by rw [r2.len]; exact hnl _ _ _ _ en, ?_⟩
      have rr : RepVs g S2 (vs ++ zs) (xs ++ ys) := (r1.mono l2).append r2
      exact call_sp hF o k2 (perm_reps rr) (Out.imp q1' (fun _ _ z => z.mono l2) fun _ _ z => z.mono l2)
theorem se_callK {f : Nat} {F : FDef} {x : Str} {es : List Expr} {kws : List Keyword} {ks : List Str} {pm : List Nat} {m : Nat} {ms ns : Sl → M (List VV)} (hx : XOk g X n W) (hF : g.T.fs[f]? = some F) (o : FOk g f F) (Fn : FnG g ge n f) (hg : Gl X x) (hm : g.mg x = some (.ref (g.fi f).ad))
    (hb : KB g.K (g.fi f).fd (g.fi f).ps ks m pm) (hml : ∀ φ β xs β', ms φ β = .ok xs β' → xs.length = m) (hnl : ∀ φ β xs β', ns φ β = .ok xs β' → xs.length = ks.length) (ha : PA X (a :: es) (tEvA g ge W ms)) (hk : PK X kws (tEvA g ge W ns))
    (hall : (backToKw pos (keywordEach kws X.env)).all (·.1.isSome) = true) (hks : (backToKw pos (keywordEach kws X.env)).filterMap (·.1) = ks)
    (hd : (x == ("__debug__" : Str)) = false) (he : starEach (a :: es) X.env = (false, eval a X.env) :: starEach es X.env)
    (hpl : ((backTo pos (starEach (a :: es) X.env)).any (·.1) || (backToKw pos (keywordEach kws X.env)).any (·.1.isNone)) = false) :
    PE X (.Call (.Name x p) (a :: es) kws pos) (tEv g ge W fun φ => bnd (ms φ) fun vs => bnd (ns φ) fun ws => callA g.T n (.f f) (permV (vs ++ ws) pm)) := by
  refine ⟨fun pins s σ H Q I ⟨S, φ, β, e, k, sl, q⟩ => ?_⟩
  subst e
  refine wpAny_Call_Name_kw (ld_glob I hg (by rw [hx.mg]; exact hm) ?_ hd)
  refine PySem.W.callWith_KW (h₀ := X.base) I.ok.mod.kin (by rw [hx.K]; exact o.keep) hall ?_ hpl he
  have ha' := ha.run pos pins s σ S.H (fun vs H1 => ∃ (xs : List VV) (β1 : Sto) (S1 : Sx), S1.H = H1 ∧ OkS g β1 S1 ∧ RepVs g S1 vs xs ∧ SlOk g S1 φ σ ∧ xs.length = m ∧
    Out (bnd (ns φ) (fun ws => callA g.T n (.f f) (permV (xs ++ ws) pm)) β1) (Kv g S1 Q) (Ke g ge S1 W σ)) I ⟨S, φ, β, rfl, k, sl, ?_⟩
  · refine thn ha' fun us s1 ⟨vs, H1, I1, rv, xs, β1, S1, e1, k1, r1, sl1, hl, q2⟩ => ?_
    subst e1
    exact go_kw hx hF o Fn hb hnl hk hks k1 r1 sl1 (by rw [← rv.length, r1.len, hl]) I1 rv q2
  · have q1' := out_bnd q
    cases en : ms φ β with
    | bad => rw [en] at q1'; exact q1'.elim
    | exc e b => rw [en] at q1'; exact q1'
    | ok ys b =>
      rw [en] at q1'
      intro zs S2 l2 k2 r2
      exact ⟨ys, b, S2, rfl, k2, r2, sl.mono l2, hml _ _ _ _ en, Out.imp q1' (fun _ _ z => z.mono l2) fun _ _ z => z.mono l2⟩
theorem se_callK0 {f : Nat} {F : FDef} {x : Str} {kws : List Keyword} {ks : List Str} {pm : List Nat} {ns : Sl → M (List VV)} (hx : XOk g X n W) (hF : g.T.fs[f]? = some F) (o : FOk g f F) (Fn : FnG g ge n f) (hg : Gl X x) (hm : g.mg x = some (.ref (g.fi f).ad))
    (hb : KB g.K (g.fi f).fd (g.fi f).ps ks 0 pm) (hnl : ∀ φ β xs β', ns φ β = .ok xs β' → xs.length = ks.length) (hk : PK X kws (tEvA g ge W ns))
    (hall : (backToKw pos (keywordEach kws X.env)).all (·.1.isSome) = true) (hks : (backToKw pos (keywordEach kws X.env)).filterMap (·.1) = ks)
    (hd : (x == ("__debug__" : Str)) = false) (hpl : ((backTo pos (starEach [] X.env)).any (·.1) || (backToKw pos (keywordEach kws X.env)).any (·.1.isNone)) = false) :
    PE X (.Call (.Name x p) [] kws pos) (tEv g ge W fun φ => bnd (ret []) fun vs => bnd (ns φ) fun ws => callA g.T n (.f f) (permV (vs ++ ws) pm)) := by
  refine ⟨fun pins s σ H Q I ⟨S, φ, β, e, k, sl, q⟩ => ?_⟩
  subst e
  refine wpAny_Call_Name_kw (ld_glob I hg (by rw [hx.mg]; exact hm) ?_ hd)
  refine PySem.W.callWith_KW0 (h₀ := X.base) I.ok.mod.kin (by rw [hx.K]; exact o.keep) hall ?_ hpl
  exact go_kw (xs := []) (vs := []) (us := []) hx hF o Fn hb hnl hk hks k .nil sl rfl I .nil q
end
end VI

set_option maxHeartbeats 2000000
/-! V6t: tuple(text). -/
namespace VI
open PySem L2 M
theorem vals_signs {x : Str} {acc : Array Value} (h : ItemsOf (SignAt x) acc x.cps.size) : Vals ((x.cps.toList.map fun c => (⟨#[c]⟩ : Str)).map V.str) acc.toList := by
  obtain ⟨h1, h2⟩ := h
  have : ∀ (l : List Nat) (vs : List Value), vs.length = l.length → (∀ (j : Nat) (v : Value) (c : Nat), vs[j]? = some v → l[j]? = some c → ∃ u, v = Value.str ⟨#[c]⟩ u) → Vals ((l.map fun c => (⟨#[c]⟩ : Str)).map V.str) vs := by
    intro l
    induction l with
    | nil => intro vs hl _; cases vs with | nil => exact .nil | cons _ _ => cases hl
    | cons c l ih =>
      intro vs hl hv
      cases vs with
      | nil => cases hl
      | cons v vs =>
        refine .cons ?_ (ih vs (by simpa using hl) fun j v c h3 h4 => hv (j + 1) v c (by simpa using h3) (by simpa using h4))
        obtain ⟨u, e⟩ := hv 0 v c rfl rfl
        exact ⟨u, e⟩
  refine this _ _ (by simp [h1]) fun j v c h3 h4 => ?_
  have h3 : acc[j]? = some v := by rw [← Array.getElem?_toList]; exact h3
  have h4 : x.cps[j]? = some c := by rw [← Array.getElem?_toList]; exact h4
  obtain ⟨c', u, e1, e2⟩ := h2 j v h3
  rw [h4] at e1; cases e1
  exact ⟨u, e2⟩
def rTupS : List V → Hp → VK → Prop := fun xs H Q => ∃ z : Str, xs = [.str z] ∧ z.length ≤ sizeLine ∧ ∀ l, H l = none → Q (.ref l) (upd H l (.tup ((z.cps.toList.map fun c => (⟨#[c]⟩ : Str)).map V.str)))
theorem call_tuple_text {X : Cx} (hc : X.calm = true) : CallR X (.type "tuple") rTupS := by
  intro pins s σ H xs us Q I r h
  obtain ⟨z, rfl, hz, q⟩ := h
  obtain ⟨u, rfl, t, rfl⟩ := vals1 r
  refine call_tuple_str (I.ok.hd hc) z t (fun h' tk acc hk hi => ?_) hz
  have I1 : Inv X pins σ H { s with heap := h', toks := tk } := I.kept (t' := tk) hk
  have I2 : Inv X pins σ (upd H h'.objs.size (.tup ((z.cps.toList.map fun c => (⟨#[c]⟩ : Str)).map V.str))) { s with heap := h'.push { cls := .type "tuple", data := .seq acc }, toks := tk } :=
    I1.laid (t' := tk) (fun b o e => Heap.get?_push_of_some _ e) (Nat.le_refl _) (show ObjOk X.prog X.w _ _ _ (.tup _) from ⟨by rw [List.length_map, List.length_map, Array.length_toList]; exact hz, acc.toList, vals_signs hi, by rw [Array.toArray_toList]; exact PyProof.Rows.IsTup.new _ _⟩)
  exact ⟨.ref h'.objs.size, _, I2, rfl, q _ (I1.hok.fresh (Nat.le_refl _))⟩
end VI

set_option maxHeartbeats 2000000
namespace VI
open PySem L2 M
open LamX (CodeO TabB ExtN)
/-! ### sorted -/
theorem each_of {α β : Type} {R : α → β → Prop} : ∀ {l₁ : List α} {l₂ : List β}, Paired R l₁ l₂ → PySem.W.EachIs R l₁ l₂
  | _, _, .nil => .nil
  | _, _, .cons h r => .cons h (each_of r)
theorem paired_of {α β : Type} {R : α → β → Prop} : ∀ {l₁ : List α} {l₂ : List β}, PySem.W.EachIs R l₁ l₂ → Paired R l₁ l₂
  | _, _, .nil => .nil
  | _, _, .cons h r => .cons h (paired_of r)
theorem paired_swap {β : Type} : ∀ {bs : List (V × β)} {us : List Value}, Vals (bs.map (·.1)) us → Paired (fun (u : Value) (b : V × β) => RelV b.1 u) us bs
  | [], _, .nil => .nil
  | _ :: _, _, .cons h r => .cons h (paired_swap r)
theorem vals_swap {β : Type} : ∀ {bs : List (V × β)} {us : List Value}, Paired (fun (u : Value) (b : V × β) => RelV b.1 u) us bs → Vals (bs.map (·.1)) us
  | [], _, .nil => .nil
  | _ :: _, _, .cons h r => .cons h (vals_swap r)
theorem paired_imp {α β : Type} {R R' : α → β → Prop} : ∀ {l₁ : List α} {l₂ : List β}, Paired R l₁ l₂ → (∀ a b, b ∈ l₂ → R a b → R' a b) → Paired R' l₁ l₂
  | _, _, .nil, _ => .nil
  | _, _, .cons h r, f => .cons (f _ _ (List.mem_cons_self ..) h) (paired_imp r fun a b hb => f a b (List.mem_cons_of_mem _ hb))
/-- items that can be compared with each other; each with its datum -/
def rSortP (K : PySem.W.Frag) : List V → Hp → VK → Prop := fun vs H Q => ∃ (a : Addr) (bs : List (V × D)), vs = [.ref a] ∧ SqL K H a (bs.map (·.1)) ∧ (∀ b ∈ bs, Dp K H b.1 (pyOf b.2)) ∧ PySem.W.AllAlike (bs.map fun b => pyOf b.2) ∧ PySem.W.Sortable (bs.map fun b => pyOf b.2) ∧
  (∀ b ∈ bs, (pyOf b.2).depth ≤ 64) ∧ ∀ p, H p = none → Q (.ref p) (upd H p (.lst ((bs.mergeSort (PySem.W.dataLe false fun b => pyOf b.2)).map (·.1))))
theorem cr_sortP {X : Cx} (hu : X.A.units + 70 < cLine) : CallR X (.builtin "sorted") (rSortP X.K) := by
  intro pins s σ H xs us Q I r h
  obtain ⟨a, bs, rfl, hs, hd, hal, hk, hdp, q⟩ := h
  obtain ⟨u, rfl, ru⟩ := vals1 r
  cases ru
  obtain ⟨its, rv, hl, hz⟩ := I.list hs
  have pr := paired_swap (β := D) rv
  have er : PySem.W.EachIs (fun (u : Value) (b : V × D) => RelV b.1 u) its bs := each_of pr
  have er2 : PySem.W.EachIs (fun (u : Value) (b : V × D) => ∃ as, Reads s.heap u (pyOf b.2) as) its bs := each_of (paired_imp pr fun u b hb ru => Dp.reads I _ _ _ (hd b hb) ru)
  refine PySem.W.sorted_data (enc := fun b : V × D => pyOf b.2) hl.isList er er2 hal hk (by simpa using hz) (fun b hb => by have := hdp b hb; omega) fun out hlen ho => ?_
  have rv' := vals_swap (paired_of ho)
  obtain ⟨ep, he'⟩ := PyProof.Rows.sortedAll_at s.heap its out.toArray
  have hsz : ((bs.mergeSort (PySem.W.dataLe false fun b => pyOf b.2)).map (·.1)).length ≤ sizeLine := by
    rw [List.length_map, List.length_mergeSort]; simpa using hz
  exact ⟨.ref _, upd H (s.heap.objs.size + 1) (.lst _), I.laid (t' := s.toks) (fun _ _ => PyProof.Rows.sortedAll_old) (Nat.le_succ _) ⟨hsz, _, ep, rv', he'⟩, rfl, q _ (I.hok.fresh (Nat.le_succ _))⟩
/-! ### the first of the least rows of texts -/
open PySem PySem.SeqAt in
theorem readsAll_row {h : Heap} : ∀ {r r' : List Str} {vs : List Value} {as as' : List Addr}, ReadsAll h vs (r.map .str) as → ReadsAll h vs (r'.map .str) as' → r = r'
  | [], [], _, _, _, _, _ => rfl
  | [], _ :: _, _, _, _, a, b => by cases a; cases b
  | _ :: _, [], _, _, _, a, b => by cases b; cases a
  | x :: r, y :: r', vs, as, as', a, b => by
    cases a with
    | cons a1 a2 =>
      cases b with
      | cons b1 b2 =>
        cases a1; cases b1
        rw [readsAll_row a2 b2]
open PySem PySem.SeqAt in
theorem reads_row {h : Heap} {r r' : List Str} {v : Value} {as as' : List Addr} (a : Reads h v (pyRow r) as) (b : Reads h v (pyRow r') as') : r = r' := by
  cases a with
  | tuple a1 a2 a3 a4 =>
    cases b with
    | tuple b1 b2 b3 b4 =>
      rw [a1] at b1; cases b1
      rw [a3] at b3; cases b3
      exact readsAll_row a4 b4
theorem alike_rows : ∀ r r' : List Str, PySem.W.alikeAll (r.map .str) (r'.map .str) = true
  | [], _ => by simp [PySem.W.alikeAll]
  | _ :: _, [] => by simp [PySem.W.alikeAll]
  | _ :: r, _ :: r' => by simp [PySem.W.alikeAll, PySem.W.alike, alike_rows r r']
theorem depth_strs : ∀ r : List Str, PyData.depthAll (r.map .str) = 0
  | [] => by simp [PyData.depthAll]
  | _ :: r => by simp [PyData.depthAll, PyData.depth, depth_strs r]
theorem depth_rows : ∀ rs : List (List Str), PyData.depthAll (rs.map pyRow) ≤ 1
  | [] => by simp [PyData.depthAll]
  | r :: rs => by
    have := depth_rows rs
    simp only [List.map_cons, PyData.depthAll, pyRow, PyData.depth, depth_strs]
    omega
theorem alikeAll_rows (rs : List (List Str)) : PySem.W.AlikeAll (rs.map pyRow) := by
  refine ⟨fun x hx y hy => ?_, fun x hx => ?_⟩
  · obtain ⟨a, _, rfl⟩ := List.mem_map.mp hx
    obtain ⟨b, _, rfl⟩ := List.mem_map.mp hy
    show PySem.W.alike (.tuple _) (.tuple _) = true
    rw [PySem.W.alike]; exact alike_rows a b
  · obtain ⟨a, _, rfl⟩ := List.mem_map.mp hx
    intro z; cases z
theorem minD_rows (r : List Str) : ∀ rs : List (List Str), PySem.W.minD (pyRow r) (rs.map pyRow) = pyRow (minR r rs) := by
  intro rs
  unfold PySem.W.minD minR
  induction rs generalizing r with
  | nil => rfl
  | cons y rs ih =>
    simp only [List.map_cons, List.foldl_cons]
    rw [← ih]
    congr 1
    split <;> rfl
def rMinR (K : PySem.W.Frag) : List V → Hp → VK → Prop := fun vs H Q => ∃ (a : Addr) (us : List V) (r : List Str) (rs : List (List Str)), vs = [.ref a] ∧ SqL K H a us ∧ Paired (fun u row => ∃ p, u = V.ref p ∧ SqT K H p (row.map V.str)) us (r :: rs) ∧
  ∀ (i : Nat) p, us[i]? = some (V.ref p) → (r :: rs)[i]? = some (minR r rs) → Q (.ref p) H
theorem dp_strs {K : PySem.W.Frag} {H : Hp} : ∀ r : List Str, DpAll K H (r.map V.str) (r.map .str)
  | [] => .nil
  | x :: r => .cons (.str x) (dp_strs r)
theorem reads_rows {X : Cx} {pins : List (Addr × Obj)} {σ : L2.St} {H : Hp} {s : Shared} (I : L2.Inv X pins σ H s) : ∀ {us : List V} {its : List Value} {rs : List (List Str)}, Vals us its → Paired (fun u row => ∃ p, u = V.ref p ∧ SqT X.K H p (row.map V.str)) us rs → ∃ as, ReadsAll s.heap its (rs.map pyRow) as
  | _, _, _, .nil, .nil => ⟨_, .nil⟩
  | _, _, _, .cons h t, .cons ⟨p, e, hp⟩ ps => by
    subst e
    obtain ⟨as, r1⟩ := Dp.reads I _ _ _ (.tup hp (dp_strs _)) h
    obtain ⟨bs, r2⟩ := reads_rows I t ps
    exact ⟨_, .cons r1 r2⟩
theorem vals_at : ∀ {us : List V} {its : List Value} {i : Nat} {v : Value}, Vals us its → its[i]? = some v → ∃ u, us[i]? = some u ∧ RelV u v
  | [], [], _, _, _, e => by simp at e
  | _ :: _, _ :: _, 0, _, .cons h t, e => by simp at e; subst e; exact ⟨_, rfl, h⟩
  | _ :: us, _ :: its, i + 1, _, .cons h t, e => vals_at (us := us) (its := its) (i := i) t (by simpa using e)
theorem paired_at {α β : Type} {R : α → β → Prop} : ∀ {us : List α} {rs : List β} {i : Nat} {u : α}, Paired R us rs → us[i]? = some u → ∃ r, rs[i]? = some r ∧ R u r
  | [], [], _, _, _, e => by simp at e
  | _ :: _, _ :: _, 0, _, .cons h t, e => by simp at e; subst e; exact ⟨_, rfl, h⟩
  | _ :: us, _ :: rs, i + 1, _, .cons h t, e => paired_at (us := us) (rs := rs) (i := i) t (by simpa using e)
theorem cr_minR {X : Cx} (hc : X.calm = true) (hu : X.A.units + 70 < cLine) : CallR X (.builtin "min") (rMinR X.K) := by
  intro pins s σ H vs us Q I r h
  obtain ⟨a, ws, row, rows, rfl, hs, hp, q⟩ := h
  obtain ⟨its, rv, hl, _⟩ := I.list hs
  rw [Vals.ref1 r]
  obtain ⟨as, hr⟩ := reads_rows I rv hp
  have hd := depth_rows (row :: rows)
  refine PySem.W.min_list_data (x := pyRow row) (xs := rows.map pyRow) (I.ok.hd hc) hl.isList (by simpa using hr) (alikeAll_rows (row :: rows)) (by rw [← List.map_cons]; omega) fun i v h' tk bs hv rd hk => ?_
  rw [minD_rows] at rd
  obtain ⟨u, e1, ru⟩ := vals_at rv (by simpa using hv)
  obtain ⟨rw', e2, p, e3, hT⟩ := paired_at hp e1
  subst e3
  have I' : L2.Inv X pins σ H { s with heap := h', toks := tk } := I.kept hk
  obtain ⟨cs, rd2⟩ := Dp.reads I' _ _ _ (.tup hT (dp_strs _)) ru
  have e4 : rw' = minR row rows := reads_row rd2 rd
  subst e4
  exact ⟨.ref p, H, I', ru, q i p e1 e2⟩
theorem minD_strs (r : Str) : ∀ rs : List Str, PySem.W.minD (.str r) (rs.map .str) = .str (minS r rs) := by
  intro rs
  unfold PySem.W.minD minS
  induction rs generalizing r with
  | nil => rfl
  | cons y rs ih =>
    simp only [List.map_cons, List.foldl_cons]
    rw [← ih]
    congr 1
    split <;> rfl
theorem alikeAll_strs (rs : List Str) : PySem.W.AlikeAll (rs.map .str) := by
  refine ⟨fun x hx y hy => ?_, fun x hx => ?_⟩
  · obtain ⟨a, _, rfl⟩ := List.mem_map.mp hx
    obtain ⟨b, _, rfl⟩ := List.mem_map.mp hy
    simp [PySem.W.alike]
  · obtain ⟨a, _, rfl⟩ := List.mem_map.mp hx
    intro z; cases z
theorem reads_strsL {X : Cx} {pins : List (Addr × Obj)} {σ : L2.St} {H : Hp} {s : Shared} (I : L2.Inv X pins σ H s) : ∀ {its : List Value} {rs : List Str}, Vals (rs.map V.str) its → ∃ as, ReadsAll s.heap its (rs.map .str) as
  | [], [], .nil => ⟨_, .nil⟩
  | _ :: _, _ :: _, .cons h t => by
    obtain ⟨as, r1⟩ := Dp.reads I _ _ _ (.str _) h
    obtain ⟨bs, r2⟩ := reads_strsL I t
    exact ⟨_, .cons r1 r2⟩
def rMinS (K : PySem.W.Frag) : List V → Hp → VK → Prop := fun vs H Q => ∃ (a : Addr) (r : Str) (rs : List Str), vs = [.ref a] ∧ SqL K H a ((r :: rs).map V.str) ∧ Q (.str (minS r rs)) H
theorem cr_minS {X : Cx} (hc : X.calm = true) (hu : X.A.units + 70 < cLine) : CallR X (.builtin "min") (rMinS X.K) := by
  intro pins s σ H vs us Q I r h
  obtain ⟨a, row, rows, rfl, hs, q⟩ := h
  obtain ⟨its, rv, hl, _⟩ := I.list hs
  rw [Vals.ref1 r]
  obtain ⟨as, hr⟩ := reads_strsL I rv
  have hd := depth_strs (row :: rows)
  refine PySem.W.min_list_data (x := .str row) (xs := rows.map .str) (I.ok.hd hc) hl.isList (by simpa using hr) (alikeAll_strs (row :: rows)) (by rw [← List.map_cons]; omega) fun i v h' tk bs hv rd hk => ?_
  rw [minD_strs] at rd
  have I' : L2.Inv X pins σ H { s with heap := h', toks := tk } := I.kept hk
  cases rd
  exact ⟨.str (minS row rows), H, I', ⟨_, rfl⟩, q⟩
/-! ### built-in functions -/
inductive BK where
  | fn (id : String) | ty (T : String)
def bltN : Blt → Str
  | .len => "len" | .int => "int" | .abs => "abs" | .maxL => "max" | .minL => "min" | .max2 => "max" | .min2 => "min" | .sum => "sum" | .any => "any" | .all => "all" | .tuple => "tuple" | .sorted => "sorted" | .divmod => "divmod"
def bltK : Blt → BK
  | .len => .fn "len" | .int => .ty "int" | .abs => .fn "abs" | .maxL => .fn "max" | .minL => .fn "min" | .max2 => .fn "max" | .min2 => .fn "min" | .sum => .fn "sum" | .any => .fn "any" | .all => .fn "all" | .tuple => .ty "tuple" | .sorted => .fn "sorted" | .divmod => .fn "divmod"
def rBlt (K : PySem.W.Frag) : Blt → List V → Hp → VK → Prop
  | .len => fun xs H Q => (∃ p ys, xs = [.ref p] ∧ (SqL K H p ys ∨ SqT K H p ys) ∧ Q (.int ys.length) H) ∨ (∃ z, xs = [.str z] ∧ z.length ≤ sizeLine ∧ Q (.int z.length) H) ∨ (∃ a kvs, xs = [V.ref a] ∧ H a = some (.dK kvs) ∧ Q (.int kvs.length) H) ∨ rLenT xs H Q
  | .int => fun xs H Q => (∃ i, xs = [.int i] ∧ Q (.int i) H) ∨ ∃ k, xs = [.bl k] ∧ Q (.int (if k then 1 else 0)) H
  | .abs => fun xs H Q => ∃ i, xs = [.int i] ∧ Q (.int (if i < 0 then -i else i)) H
  | .maxL => rMax K
  | .minL => fun vs H Q => rMin K vs H Q ∨ rMinR K vs H Q ∨ rMinS K vs H Q
  | .max2 => fun xs H Q => ∃ i j, xs = [.int i, .int j] ∧ Q (.int (if j > i then j else i)) H
  | .min2 => fun xs H Q => ∃ i j, xs = [.int i, .int j] ∧ Q (.int (if j < i then j else i)) H
  | .sum => rSum K
  | .any => rAny K
  | .all => rAll K
  | .tuple => fun xs H Q => (∃ p ys, xs = [.ref p] ∧ ((SqL K H p ys ∧ ∀ l, H l = none → Q (.ref l) (upd H l (.tup ys))) ∨ (SqT K H p ys ∧ Q (.ref p) H))) ∨ rTupS xs H Q
  | .sorted => rSortP K
  | .divmod => fun xs H Q => ∃ i j, xs = [.int i, .int j] ∧ CDiv i j ∧ ∀ p, H p = none → Q (.ref p) (upd H p (.tup [.int (i / j), .int (i % j)]))
def bltV (b : Blt) : Value := match bltK b with
  | .fn id => .builtin id
  | .ty T => .type T
theorem cr_blt {X : Cx} (hc : X.calm = true) (hu : X.A.units + 70 < cLine) : ∀ b : Blt, CallR X (bltV b) (rBlt X.K b)
  | .len => call_len_seq.or (call_len_str.or (call_lenD.or call_len_dT))
  | .int => call_int1
  | .abs => call_abs
  | .maxL => cr_max hc
  | .minL => (cr_min hc).or ((cr_minR hc hu).or (cr_minS hc hu))
  | .max2 => call_max2 hc
  | .min2 => call_min2 hc
  | .sum => cr_sum hc
  | .any => cr_any hc
  | .all => cr_all hc
  | .tuple => call_tuple_of.or (call_tuple_text hc)
  | .sorted => cr_sortP hu
  | .divmod => call_divmod
inductive DRs (g : G) (S : Sx) : List V → List D → Prop
  | nil : DRs g S [] []
  | cons {u : V} {us : List V} {x : D} {xs : List D} : DR g S u x → DRs g S us xs → DRs g S (u :: us) (x :: xs)
section
variable {g : G} {S : Sx} {β : Sto}
theorem DRs.get (k : OkS g β S) : ∀ {us : List V} {vs : List VV} {Qk : List D → Sto → Prop} {Qe : Exc → Sto → Prop}, RepVs g S us vs → Out (derefs vs β) Qk Qe → ∃ xs, Qk xs β ∧ DRs g S us xs
  | _, _, _, _, .nil, h => ⟨[], h, .nil⟩
  | _, _, _, _, .cons r rs, h => by
    obtain ⟨x, h, d⟩ := DR.get k r (out_bnd h)
    obtain ⟨xs, q, ds⟩ := DRs.get k rs (out_bnd h)
    exact ⟨x :: xs, q, .cons d ds⟩
theorem ints_of {us : List V} {xs : List D} {is : List Int} (r : Reps g.K g.cl S.F us xs) (h : intsD xs = some is) : us = is.map V.int := by
  induction xs generalizing us is with
  | nil => cases r; simp [intsD] at h; subst h; rfl
  | cons x xs ih =>
    cases x <;> simp only [intsD] at h <;> try cases h
    obtain ⟨js, e, rfl⟩ := Option.map_eq_some_iff.mp h
    cases r with
    | cons r rs => cases r; rw [ih rs e]; rfl
theorem bls_of {us : List V} {xs : List D} {is : List Bool} (r : Reps g.K g.cl S.F us xs) (h : blsD xs = some is) : us = is.map V.bl := by
  induction xs generalizing us is with
  | nil => cases r; simp [blsD] at h; subst h; rfl
  | cons x xs ih =>
    cases x <;> simp only [blsD] at h <;> try cases h
    obtain ⟨js, e, rfl⟩ := Option.map_eq_some_iff.mp h
    cases r with
    | cons r rs => cases r; rw [ih rs e]; rfl
theorem strs_of {us : List V} {xs : List D} {is : List Str} (r : Reps g.K g.cl S.F us xs) (h : strsD xs = some is) : us = is.map V.str ∧ xs = is.map D.str := by
  induction xs generalizing us is with
  | nil => cases r; simp [strsD] at h; subst h; exact ⟨rfl, rfl⟩
  | cons x xs ih =>
    cases x <;> simp only [strsD] at h <;> try cases h
    obtain ⟨js, e, rfl⟩ := Option.map_eq_some_iff.mp h
    cases r with
    | cons r rs => cases r; obtain ⟨h1, h2⟩ := ih rs e; rw [h1, h2]; exact ⟨rfl, rfl⟩
theorem rows_of {us : List V} {xs : List D} {rs : List (List Str)} (k : OkS g β S) (r : Reps g.K g.cl S.F us xs) (h : rowsS xs = some rs) :
    Paired (fun u row => ∃ p, u = V.ref p ∧ SqT g.K S.H p (row.map V.str)) us rs ∧ ∀ (i : Nat) p (row : List Str), us[i]? = some (V.ref p) → rs[i]? = some row → Rep g.K g.cl S.F (.ref p) (.tup (row.map .str)) := by
  induction xs generalizing us rs with
  | nil => cases r; simp [rowsS] at h; subst h; exact ⟨.nil, fun i p row e => by simp at e⟩
  | cons x xs ih =>
    cases x <;> simp only [rowsS] at h <;> try cases h
    rename_i ys
    split at h <;> cases h
    rename_i ro ros h1 h2
    cases r with
    | cons r rs' =>
      cases r with
      | tup a b =>
        rename_i p vs
        obtain ⟨e1, e2⟩ := strs_of b h1
        subst e1 e2
        obtain ⟨i1, i2⟩ := ih rs' h2
        refine ⟨.cons ⟨p, rfl, .inl (.inl (k.sub _ _ a))⟩ i1, fun i q row e e' => ?_⟩
        cases i with
        | zero =>
          simp at e e'
          subst e e'
          exact .tup a b
        | succ i => exact i2 i q row (by simpa using e) (by simpa using e')
theorem reps_strs {S : Sx} : ∀ (l : List Nat), Reps g.K g.cl S.F (l.map (V.str ∘ fun c => (⟨#[c]⟩ : Str))) (l.map fun c => D.str ⟨#[c]⟩)
  | [] => .nil
  | c :: l => .cons (Rep.str _) (reps_strs l)
theorem foldMax_spec : ∀ (is : List Int) (m : Int), foldMax m is ∈ m :: is ∧ ∀ y ∈ m :: is, y ≤ foldMax m is
  | [], m => ⟨List.mem_cons_self .., fun y hy => by simp at hy; subst hy; exact Int.le_refl _⟩
  | x :: xs, m => by
    unfold foldMax
    obtain ⟨h1, h2⟩ := foldMax_spec xs (if x > m then x else m)
    refine ⟨?_, fun y hy => ?_⟩
    · rcases List.mem_cons.mp h1 with e | e
      · rw [e]; split <;> simp
      · exact List.mem_cons_of_mem _ (List.mem_cons_of_mem _ e)
    · have hm := h2 _ (List.mem_cons_self ..)
      have hc : (if x > m then x else m) ≥ m ∧ (if x > m then x else m) ≥ x := by split <;> omega
      rcases List.mem_cons.mp hy with e | e
      · rw [e]; exact Int.le_trans hc.1 hm
      · rcases List.mem_cons.mp e with e | e
        · rw [e]; exact Int.le_trans hc.2 hm
        · exact h2 y (List.mem_cons_of_mem _ e)
theorem foldMin_spec : ∀ (is : List Int) (m : Int), foldMin m is ∈ m :: is ∧ ∀ y ∈ m :: is, foldMin m is ≤ y
  | [], m => ⟨List.mem_cons_self .., fun y hy => by simp at hy; subst hy; exact Int.le_refl _⟩
  | x :: xs, m => by
    unfold foldMin
    obtain ⟨h1, h2⟩ := foldMin_spec xs (if x < m then x else m)
    refine ⟨?_, fun y hy => ?_⟩
    · rcases List.mem_cons.mp h1 with e | e
      · rw [e]; split <;> simp
      · exact List.mem_cons_of_mem _ (List.mem_cons_of_mem _ e)
    · have hm := h2 _ (List.mem_cons_self ..)
      have hc : (if x < m then x else m) ≤ m ∧ (if x < m then x else m) ≤ x := by split <;> omega
      rcases List.mem_cons.mp hy with e | e
      · rw [e]; exact Int.le_trans hm hc.1
      · rcases List.mem_cons.mp e with e | e
        · rw [e]; exact Int.le_trans hm hc.2
        · exact h2 y (List.mem_cons_of_mem _ e)
theorem Reps.pairs {us : List V} {xs : List D} (r : Reps g.K g.cl S.F us xs) : ∃ bs : List (V × D), bs.map (·.1) = us ∧ bs.map (·.2) = xs ∧ ∀ b ∈ bs, Rep g.K g.cl S.F b.1 b.2 := by
  induction xs generalizing us with
  | nil => cases r; exact ⟨[], rfl, rfl, fun b hb => absurd hb (by simp)⟩
  | cons x xs ih =>
    cases r with
    | @cons v vs _ _ h t =>
      obtain ⟨bs, e1, e2, hb⟩ := ih t
      refine ⟨(v, x) :: bs, by simp [e1], by simp [e2], fun b hm => ?_⟩
      rcases List.mem_cons.mp hm with e | e
      · subst e; exact h
      · exact hb b e
theorem Reps.ofPairs : ∀ {bs : List (V × D)}, (∀ b ∈ bs, Rep g.K g.cl S.F b.1 b.2) → Reps g.K g.cl S.F (bs.map (·.1)) (bs.map (·.2))
  | [], _ => .nil
  | b :: bs, h => .cons (h b (List.mem_cons_self ..)) (Reps.ofPairs fun c hc => h c (List.mem_cons_of_mem _ hc))
theorem shaped_py {x : D} (h : (shapedD x).isSome = true) : x.toPy = some (pyOf x) ∧ (pyOf x).depth ≤ 64 := by
  obtain ⟨p, e⟩ := Option.isSome_iff_exists.mp h
  obtain ⟨h1, h2⟩ := shapedD_some e
  have e2 : pyOf x = p := by unfold pyOf; rw [h1]; rfl
  exact ⟨by rw [e2]; exact h1, by rw [e2]; exact SeqAt.depth_of_shaped h2⟩
theorem blt_ok {us : List V} {xs : List D} {z : D} {Q : VK} (b : Blt) (k : OkS g β S) (r : DRs g S us xs) (e : bltD b xs = some z) (q : Kv g S Q (.d z) β) : rBlt g.K b us S.H Q := by
  unfold bltD at e
  split at e
  · -- sorted
    rename_i ys
    obtain ⟨zs, hz, rfl⟩ := Option.map_eq_some_iff.mp e
    cases r with
    | cons d t =>
      cases t
      obtain ⟨p, vs, rfl, hp, rr⟩ := d.lst' k
      unfold sortD at hz
      split at hz <;> cases hz
      rename_i hc
      simp only [Bool.and_eq_true, List.all_eq_true, Bool.or_eq_true] at hc
      obtain ⟨⟨⟨h1, h2⟩, h3⟩, h4⟩ := hc
      obtain ⟨bs, e1, e2, hb⟩ := rr.pairs
      subst e1 e2
      have mm : ∀ b ∈ bs, b.2 ∈ bs.map (·.2) := fun b hb' => List.mem_map.mpr ⟨b, hb', rfl⟩
      refine ⟨p, bs, rfl, SqL.of hp, fun b hb' => ?_, ?_, ?_, fun b hb' => (shaped_py (h2 _ (mm b hb'))).2, fun l hl => ?_⟩
      · exact (hb b hb').dp k.same (shaped_py (h2 _ (mm b hb'))).1
      · intro d hd d' hd'
        obtain ⟨b, hb', rfl⟩ := List.mem_map.mp hd
        obtain ⟨b2, hb2, rfl⟩ := List.mem_map.mp hd'
        exact h3 _ (mm b hb') _ (mm b2 hb2)
      · rcases h4 with h4 | h4
        · refine .inl fun d hd => ?_
          obtain ⟨b, hb', rfl⟩ := List.mem_map.mp hd
          have := h4 _ (mm b hb')
          revert this
          cases pyOf b.2 with
          | tuple l => cases l with
            | nil => intro z; simp [isTup1] at z
            | cons x r => intro _; exact ⟨x, r, rfl⟩
          | _ => intro z; simp [isTup1] at z
        · refine .inr fun d hd => ?_
          obtain ⟨b, hb', rfl⟩ := List.mem_map.mp hd
          have := h4 _ (mm b hb')
          refine ⟨fun z => ?_, fun l z => ?_⟩
          · rw [z] at this; simp [noTup] at this
          · rw [z] at this; simp [noTup] at this
      · have em : (bs.mergeSort (PySem.W.dataLe false fun b => pyOf b.2)).map (·.2) = (bs.map (·.2)).mergeSort (PySem.W.dataLe false pyOf) := by
          refine List.map_mergeSort fun a _ b _ => ?_
          rfl
        rw [← em] at q
        exact q.lst k hl (Reps.ofPairs fun b hb' => hb b ((List.mergeSort_perm ..).mem_iff.mp hb'))
  · -- len
    obtain ⟨m, hm, rfl⟩ := Option.map_eq_some_iff.mp e
    cases r with
    | cons d t =>
      cases t
      unfold lenD at hm
      split at hm
      · split at hm <;> cases hm
        rename_i hs
        rw [d.str']
        exact .inr (.inl ⟨_, rfl, small_line hs, q.d k (.int _)⟩)
      · cases hm
        obtain ⟨p, vs, rfl, h1, r1⟩ := d.tup'
        refine .inl ⟨p, vs, rfl, .inr (seqT k.same h1), ?_⟩
        rw [r1.len]; exact q.d k (.int _)
      · cases hm
        obtain ⟨p, vs, rfl, h1, r1⟩ := d.ktp'
        refine .inl ⟨p, vs, rfl, .inr (seqT k.same h1), ?_⟩
        rw [r1.len]; exact q.d k (.int _)
      · cases hm
        obtain ⟨p, vs, rfl, h1, r1⟩ := d.lst' k
        refine .inl ⟨p, vs, rfl, .inl (SqL.of h1), ?_⟩
        rw [r1.len]; exact q.d k (.int _)
      · cases hm
        obtain ⟨p, vs, rfl, h1, r1⟩ := d.lck'
        refine .inl ⟨p, vs, rfl, .inl (k.same.seq h1), ?_⟩
        rw [r1.len]; exact q.d k (.int _)
      · cases hm
        rename_i t kvs
        cases t with
        | false =>
          obtain ⟨p, r, rfl, h1, r1⟩ := d.dic' k
          refine .inr (.inr (.inl ⟨p, r, rfl, h1, ?_⟩))
          have : r.length = kvs.length := by
            clear h1 q d e
            induction kvs generalizing r with
            | nil => cases r1; rfl
            | cons x xs ih => cases r1 with | cons _ _ t => simp [ih _ t]
          rw [this]; exact q.d k (.int _)
        | true =>
          obtain ⟨p, r, rfl, h1, r1⟩ := d.dicT' k
          refine .inr (.inr (.inr ⟨p, r, rfl, h1, ?_⟩))
          have : r.length = kvs.length := by
            clear h1 q d e
            induction kvs generalizing r with
            | nil => cases r1; rfl
            | cons x xs ih => cases r1 with | cons _ _ t => simp [ih _ t]
          rw [this]; exact q.d k (.int _)
      · cases hm
  · cases e
    cases r with
    | cons d t => cases t; rw [d.int']; exact .inl ⟨_, rfl, q.d k (.int _)⟩
  · cases e
    cases r with
    | cons d t => cases t; rw [d.bl']; exact .inr ⟨_, rfl, q.d k (.int _)⟩
  · cases e
    cases r with
    | cons d t => cases t; rw [d.int']; exact ⟨_, rfl, q.d k (.int _)⟩
  · cases e
    cases r with
    | cons d t => cases t with | cons d2 t => cases t; rw [d.int', d2.int']; exact ⟨_, _, rfl, q.d k (.int _)⟩
  · cases e
    cases r with
    | cons d t => cases t with | cons d2 t => cases t; rw [d.int', d2.int']; exact ⟨_, _, rfl, q.d k (.int _)⟩
  · split at e
    · rename_i i is hi
      cases e
      cases r with
      | cons d t =>
        cases t
        obtain ⟨p, vs, rfl, h1, r1⟩ := d.lst' k
        refine ⟨p, i :: is, rfl, by rw [← ints_of r1 hi]; exact SqL.of h1, by simp, fun m hm hy => ?_⟩
        obtain ⟨s1, s2⟩ := foldMax_spec is i
        have a1 := hy _ s1
        have a2 := s2 _ hm
        have : m = foldMax i is := by omega
        subst this
        exact q.d k (.int _)
    · cases e
  · split at e
    · rename_i i is hi
      cases e
      cases r with
      | cons d t =>
        cases t
        obtain ⟨p, vs, rfl, h1, r1⟩ := d.lst' k
        refine .inl ⟨p, i :: is, rfl, by rw [← ints_of r1 hi]; exact SqL.of h1, by simp, fun m hm hy => ?_⟩
        obtain ⟨s1, s2⟩ := foldMin_spec is i
        have a1 := hy _ s1
        have a2 := s2 _ hm
        have : m = foldMin i is := by omega
        subst this
        exact q.d k (.int _)
    · split at e
      · rename_i ro ros hi
        cases e
        cases r with
        | cons d t =>
          cases t
          obtain ⟨p, vs, rfl, h1, r1⟩ := d.lst' k
          obtain ⟨hp, hq⟩ := rows_of k r1 hi
          exact .inr (.inl ⟨p, vs, ro, ros, rfl, SqL.of h1, hp, fun i b hb hm => q.d k (hq i b _ hb hm)⟩)
      · split at e
        · rename_i ro ros hi
          cases e
          cases r with
          | cons d t =>
            cases t
            obtain ⟨p, vs, rfl, h1, r1⟩ := d.lst' k
            obtain ⟨e1, _⟩ := strs_of r1 hi
            subst e1
            exact .inr (.inr ⟨p, ro, ros, rfl, SqL.of h1, q.d k (.str _)⟩)
        · cases e
  · obtain ⟨is, hi, rfl⟩ := Option.map_eq_some_iff.mp e
    cases r with
    | cons d t =>
      cases t
      obtain ⟨p, vs, rfl, h1, r1⟩ := d.lst' k
      exact ⟨p, is, rfl, by rw [← ints_of r1 hi]; exact SqL.of h1, q.d k (.int _)⟩
  · obtain ⟨is, hi, rfl⟩ := Option.map_eq_some_iff.mp e
    cases r with
    | cons d t =>
      cases t
      obtain ⟨p, vs, rfl, h1, r1⟩ := d.lst' k
      exact ⟨p, is, rfl, by rw [← bls_of r1 hi]; exact SqL.of h1, q.d k (.bl _)⟩
  · obtain ⟨is, hi, rfl⟩ := Option.map_eq_some_iff.mp e
    cases r with
    | cons d t =>
      cases t
      obtain ⟨p, vs, rfl, h1, r1⟩ := d.lst' k
      exact ⟨p, is, rfl, by rw [← bls_of r1 hi]; exact SqL.of h1, q.d k (.bl _)⟩
  · cases e
    cases r with
    | cons d t =>
      cases t
      obtain ⟨p, vs, rfl, h1, r1⟩ := d.lst' k
      exact .inl ⟨p, vs, rfl, .inl ⟨SqL.of h1, fun l hl => q.tup k hl r1⟩⟩
  · cases e
    cases r with
    | cons d t =>
      cases t
      have pd := d.repT
      obtain ⟨p, vs, rfl, h1, r1⟩ := d.tup'
      exact .inl ⟨p, vs, rfl, .inr ⟨seqT k.same h1, q.d k pd⟩⟩
  · split at e <;> cases e
    rename_i hs
    cases r with
    | cons d t =>
      cases t
      rw [d.str']
      refine .inr ⟨_, rfl, small_line hs, fun l hl => q.tup k hl ?_⟩
      unfold chrsD
      rw [List.map_map]
      exact reps_strs _
  · split at e <;> cases e
    rename_i hc
    cases r with
    | cons d t =>
      cases t with
      | cons d2 t =>
        cases t
        rw [d.int', d2.int']
        exact ⟨_, _, rfl, ⟨hc.1, by omega⟩, fun p hp => q.tup k hp (.cons (.int _) (.cons (.int _) .nil))⟩
  · cases e
end
end VI

set_option maxHeartbeats 2000000
/-! V7s: sets of tuples of ints and texts, and what sorted gives of them. -/
namespace VI
open PySem PySem.Spec PyProof.Rows L2
abbrev KM (P : Program) (w : World) : HeapKind P w (List Key) := tupleKind (mixKind P w)
abbrev TupIs (P : Program) (w : World) (h : Heap) (k : List Key) (b : Addr) : Prop := IsTupleKey (mixKind P w) h k b
abbrev hOf (P : Program) (w : World) (k : List Key) : Int := tupleKeyHash (mixKind P w) k
section
variable {P : Program} {w : World} {A : Around} {E : Value → Shared → Prop} {s : Shared}
theorem flat_item {k : Key} {v : Value} (h : (mixKind P w).is k v = true) : (∃ i t, v = .int i t) ∨ ∃ x t, v = .str x t := by
  cases v <;> first | exact .inl ⟨_, _, rfl⟩ | exact .inr ⟨_, _, rfl⟩ | (cases k <;> cases h)
theorem flat_items {ks : List Key} {vs : List Value} (h : ItemsAre (mixKind P w) ks vs) : ∀ v ∈ vs, (∃ i t, v = Value.int i t) ∨ ∃ x t, v = Value.str x t := by
  induction h with
  | nil => simp
  | cons a _ ih =>
    intro v hv
    cases hv with
    | head => exact flat_item a
    | tail _ hv => exact ih v hv
/-! #### what the search asks of a tuple -/
theorem flat_noClass {v : Value} (n : Nat) (h : (∃ i t, v = Value.int i t) ∨ ∃ x t, v = Value.str x t) : ofAClassStatement n v = pure false := by
  rcases h with ⟨i, t, rfl⟩ | ⟨x, t, rfl⟩ <;> cases n <;> rfl
theorem flat_hash {v : Value} (n : Nat) (h : (∃ i t, v = Value.int i t) ∨ ∃ x t, v = Value.str x t) : ∃ b, hashByValue n v = pure b := by
  rcases h with ⟨i, t, rfl⟩ | ⟨x, t, rfl⟩
  · exact ⟨true, by cases n <;> rfl⟩
  · exact ⟨false, by cases n <;> rfl⟩
theorem tup_noClass {k : List Key} {b : Addr} {Q : Bool → Shared → Prop} (g : TupIs P w s.heap k b) (q : Q false s) : wpAny (model P w) A (ofAClassStatement 8 (.ref b)) Q E s := by
  have ty := g.typeIs
  obtain ⟨ob, vs, c, hob, _, hdat, hit⟩ := g
  unfold ofAClassStatement
  refine wpAny_bind (wpAny_typeOf ty ?_)
  simp only [beq_self_eq_true, if_true]
  refine wpAny_bind (wpAny_pure ?_)
  simp only [Bool.not_true, Bool.false_eq_true, if_false]
  show wpAny _ _ (seqItems? (.ref b) >>= _) _ _ s
  refine wpAny_bind (wpAny_seqItems hob hdat (wpAny_bind ?_))
  show wpAny _ _ (forIn vs _ _) _ _ s
  rw [← Array.forIn_toList]
  refine wpAny_forIn_list _ (fun l r z => r.1 = none ∧ z = s ∧ ∀ v ∈ l, (∃ i t, v = Value.int i t) ∨ ∃ x t, v = Value.str x t) _ ?_ ?_ _ _ ⟨rfl, rfl, flat_items hit⟩
  · rintro v l r z ⟨e, rfl, al⟩
    rw [flat_noClass 7 (al v (List.mem_cons_self ..))]
    exact wpAny_bind (wpAny_pure (wpAny_pure ⟨rfl, rfl, fun u hu => al u (List.mem_cons_of_mem _ hu)⟩))
  · rintro ⟨r1, r2⟩ z ⟨e, rfl, _⟩
    obtain rfl : r1 = none := e
    exact wpAny_pure q
theorem tup_hash {k : List Key} {b : Addr} {Q : Bool → Shared → Prop} (g : TupIs P w s.heap k b) (q : ∀ r, Q r s) : wpAny (model P w) A (hashByValue 8 (.ref b)) Q E s := by
  have ty := g.typeIs
  obtain ⟨ob, vs, c, hob, _, hdat, hit⟩ := g
  unfold hashByValue
  refine wpAny_bind (wpAny_specialOf ty F.slot_tuple_hash.lookup ?_)
  show wpAny _ _ (seqItems? (.ref b) >>= _) _ _ s
  refine wpAny_bind (wpAny_seqItems hob hdat (wpAny_bind ?_))
  show wpAny _ _ (forIn vs _ _) _ _ s
  rw [← Array.forIn_toList]
  refine wpAny_forIn_list _ (fun l r z => r.1 = none ∧ z = s ∧ ∀ v ∈ l, (∃ i t, v = Value.int i t) ∨ ∃ x t, v = Value.str x t) _ ?_ ?_ _ _ ⟨rfl, rfl, flat_items hit⟩
  · rintro v l r z ⟨e, rfl, al⟩
    obtain ⟨b, hb⟩ := flat_hash 7 (al v (List.mem_cons_self ..))
    rw [hb]
    refine wpAny_bind (wpAny_pure ?_)
    cases b with
    | true => exact wpAny_pure ⟨rfl, rfl, fun u hu => al u (List.mem_cons_of_mem _ hu)⟩
    | false => exact wpAny_pure (wpAny_pure (q false))
  · rintro ⟨r1, r2⟩ z ⟨e, rfl, _⟩
    obtain rfl : r1 = none := e
    exact wpAny_pure (q true)
theorem tup_unseen {k : List Key} {b : Addr} {Q : Bool → Shared → Prop} (g : TupIs P w s.heap k b) {ys : List Value} (al : ∀ y ∈ ys, ∃ k' c, y = Value.ref c ∧ TupIs P w s.heap k' c) (q : Q false s) :
    wpAny (model P w) A (searchCouldBeSeen (.ref b) ys) Q E s := by
  unfold searchCouldBeSeen
  refine wpAny_bind (wpAny_forIn_list _ (fun l r z => r.1 = none ∧ z = s ∧ ∀ y ∈ l, ∃ k' c, y = Value.ref c ∧ TupIs P w s.heap k' c) _ ?_ ?_ _ _ ⟨rfl, rfl, al⟩)
  · rintro v l r z ⟨e, rfl, all⟩
    obtain ⟨k', c, rfl, gc⟩ := all v (List.mem_cons_self ..)
    have tl : ∀ y ∈ l, ∃ k' c, y = Value.ref c ∧ TupIs P w z.heap k' c := fun u hu => all u (List.mem_cons_of_mem _ hu)
    dsimp only
    by_cases same : (b == c || (carriedByValue (.ref b) && carriedByValue (.ref c))) = true
    · exact wp_if_pos same (wpAny_pure ⟨rfl, rfl, tl⟩)
    · refine wp_if_neg same (wpAny_bind (wpAny_eqIsQuiet_tuple g ?_))
      rw [if_neg (by decide)]
      refine wpAny_bind (wpAny_eqIsQuiet_tuple gc ?_)
      rw [if_neg (by decide)]
      refine wpAny_bind (tup_noClass g ?_)
      rw [if_neg (by decide)]
      refine wpAny_bind (tup_noClass gc ?_)
      rw [if_neg (by decide)]
      exact wpAny_pure ⟨rfl, rfl, tl⟩
  · rintro ⟨r1, r2⟩ z ⟨e, rfl, _⟩
    obtain rfl : r1 = none := e
    exact wpAny_pure q
/-! #### the set -/
structure SetM (P : Program) (w : World) (h : Heap) (S : Addr) (M : List (List Key × Addr)) (es : Array (Int × Value)) (ep : Nat) (t : SetTable) : Prop where
  obj : ∃ o, h.get? S = some o ∧ o.ExactSet ∧ o.data = .set es ep t
  row : es.toList = M.map fun p => (hOf P w p.1, Value.ref p.2)
  tab : TabOk t (M.map fun p => hOf P w p.1)
  dis : (M.map (·.1)).Nodup
  key : ∀ p ∈ M, TupIs P w h p.1 p.2
  ord : w.params.followText "set-order" = true ∨ t.led = true
  spc : M.length * 5 < t.mask * 3
  cnt : M.length < 64
def pr0 (t : SetTable) (h : Int) : SetTable.Probe := runAt t.mask (SetTable.bits h % (t.mask + 1)) (SetTable.bits h)
theorem nth_dum {m : Nat} : ∀ (n : Nat) (p : SetTable.Probe), p.dummy = none → (nth m p n).dummy = none
  | 0, _, h => h
  | n + 1, p, h => nth_dum n (adv m p) (by unfold adv; split <;> exact h)
variable {S : Addr} {M : List (List Key × Addr)} {es : Array (Int × Value)} {ep : Nat} {t : SetTable}
theorem SetM.len (R : SetM P w s.heap S M es ep t) : es.size = M.length := by
  have := congrArg List.length R.row
  simpa using this
theorem SetM.fit (R : SetM P w s.heap S M es ep t) : t.fits es.size = true := by
  have a := R.tab.sz
  have b := R.len
  have c := R.spc
  simp only [List.length_map] at a
  simp only [SetTable.fits, SetTable.fill, R.tab.dm, Bool.and_eq_true, beq_iff_eq, decide_eq_true_eq]
  have z : (#[] : Array Nat).size = 0 := rfl
  omega
theorem SetM.at_ (R : SetM P w s.heap S M es ep t) {i : Nat} {p : List Key × Addr} (h : M[i]? = some p) : es[i]? = some (hOf P w p.1, Value.ref p.2) := by
  rw [← Array.getElem?_toList, R.row, List.getElem?_map, h]; rfl
theorem SetM.odd (R : SetM P w s.heap S M es ep t) : ¬ t.gaveWay = true := by
  unfold SetTable.gaveWay
  rw [mask_odd R.tab.mok]; decide
theorem SetM.look (R : SetM P w s.heap S M es ep t) {x : Addr} {k : List Key} (g : TupIs P w s.heap k x) (hu : A.units < cLine) {N : Nat} (hN : N < 10 * SetTable.turns t.mask)
    (free : way t.mask (hOf P w k) N ∉ t.place.toList) (busy : ∀ c, c < N → way t.mask (hOf P w k) c ∈ t.place.toList) {Q : SetFound → Shared → Prop}
    (yes : k ∈ M.map (·.1) → Q (.there none) s) (no : k ∉ M.map (·.1) → Q (.free (way t.mask (hOf P w k) N) false) s) :
    ∀ (f c : Nat) (stand : Option SetTable.Probe), stand.getD (t.probeStart (hOf P w k)) = nth t.mask (pr0 t (hOf P w k)) c → c ≤ N → N - c < f →
      (∀ (i : Nat) p, M[i]? = some p → p.1 = k → ∃ d, c ≤ d ∧ d < N ∧ t.place.toList[i]? = some (way t.mask (hOf P w k) d)) →
      wpAny (model P w) A (setSearchFrom S (.ref x) (hOf P w k) true f stand) Q E s
  | 0, _, _, _, _, lt, _ => absurd lt (Nat.not_lt_zero _)
  | f + 1, c, stand, hs, hc, lt, back => by
    obtain ⟨o, h1, h2, h3⟩ := R.obj
    rw [setSearchFrom_succ]
    refine wpAny_bind (wpAny_setState_of h1 h3 R.fit ?_)
    dsimp only
    refine wp_if_neg R.odd ?_
    have mv : ∀ q, nth t.mask (nth t.mask (pr0 t (hOf P w k)) c) q = nth t.mask (pr0 t (hOf P w k)) (c + q) := fun q => (nth_add _ c _ q).symm
    have jw : ∀ q, (nth t.mask (nth t.mask (pr0 t (hOf P w k)) c) q).j = way t.mask (hOf P w k) (c + q) := fun q => congrArg SetTable.Probe.j (mv q)
    have cN : c + (N - c) = N := by omega
    have hat : ∀ (i : Nat) p, M[i]? = some p → (es[i]?.map (·.1)).getD 0 = hOf P w p.1 := fun i p e => by rw [R.at_ e]; rfl
    rcases go_spec t R.tab.ris R.tab.dm (fun i => (es[i]?.map (·.1)).getD 0) (hOf P w k) (10 * SetTable.turns t.mask) (N - c) (nth t.mask (pr0 t (hOf P w k)) c) (nth_dum c _ rfl) (by omega)
      (fun q hq => by rw [jw]; exact busy _ (by omega)) (by rw [jw, cN]; exact free) with ⟨q, i, lq, hi, _, fst, pe⟩ | ⟨fst, pe⟩
    · rw [jw] at hi
      have pe' : t.probe (fun i => (es[i]?.map (·.1)).getD 0) (hOf P w k) (stand.getD (t.probeStart (hOf P w k))) = some (.candidate (way t.mask (hOf P w k) (c + q)) i (nth t.mask (pr0 t (hOf P w k)) (c + (q + 1)))) := by
        rw [hs, ← jw, ← mv]; exact pe
      rw [pe']
      dsimp only
      have il : i < M.length := by
        have a := (List.getElem?_eq_some_iff.mp hi).1
        have b := R.tab.sz
        simp only [List.length_map, Array.length_toList] at a b
        omega
      obtain ⟨p, hp⟩ : ∃ p, M[i]? = some p := ⟨_, List.getElem?_eq_getElem il⟩
      have pm : p ∈ M := List.mem_of_getElem? hp
      have live : t.slot (way t.mask (hOf P w k) (c + q)) = .live i := slot_live R.tab.ris hi
      have go : wpAny (model P w) A (searchRest S (.ref x) (hOf P w k) true f es t (way t.mask (hOf P w k) (c + q)) i (nth t.mask (pr0 t (hOf P w k)) (c + (q + 1)))) Q E s := by
        unfold searchRest
        rw [R.at_ hp]
        refine wpAny_bind (wpAny_holding (wpAny_eqBool_tuple hu (R.key p pm) g (wpAny_bind (wpAny_setState_of h1 h3 R.fit ?_))))
        dsimp only
        by_cases eq : p.1 = k
        · exact wp_if_pos (by simp [eq]) (wpAny_pure (yes (List.mem_map.mpr ⟨p, pm, eq⟩)))
        · refine wp_if_neg (by simp [eq]) ?_
          rw [sameMem]
          simp only [if_true, live, R.at_ hp]
          refine wpAny_bind (wpAny_isSame_ref_self (wpAny_bind (wpAny_pure ?_)))
          rw [if_pos rfl]
          refine wp_if_neg (by simp [eq]) (R.look g hu hN free busy yes no f (c + (q + 1)) (some _) rfl (by omega) (by omega) fun i0 p0 e0 k0 => ?_)
          obtain ⟨d, d1, d2, d3⟩ := back i0 p0 e0 k0
          refine ⟨d, ?_, d2, d3⟩
          rcases Nat.lt_trichotomy d (c + q) with lo | mid | hi'
          · exact absurd ((hat i0 p0 e0).trans (congrArg (hOf P w) k0)) (fst (d - c) i0 (by omega) (by rw [jw, show c + (d - c) = d by omega]; exact d3))
          · exfalso
            rw [mid] at d3
            have two := slot_live R.tab.ris d3
            rw [live] at two
            injection two with two
            rw [← two, hp] at e0
            cases e0
            exact eq k0
          · omega
      by_cases led : t.led = true
      · exact wp_if_neg (by simp [led]) go
      · refine wp_if_pos (by simp [led]) (wpAny_bind (tup_unseen g (fun y hy => ?_) ?_))
        · obtain ⟨e, e1, rfl⟩ := List.mem_map.mp hy
          have e2 : e ∈ es.toList := by
            have : e ∈ es.filter (fun z => z.1 == hOf P w k) := by simpa using e1
            exact Array.mem_toList_iff.mpr (Array.mem_filter.mp this).1
          rw [R.row] at e2
          obtain ⟨p2, p3, rfl⟩ := List.mem_map.mp e2
          exact ⟨p2.1, p2.2, rfl, R.key p2 p3⟩
        · exact wp_if_neg (by decide) go
    · have pe' : t.probe (fun i => (es[i]?.map (·.1)).getD 0) (hOf P w k) (stand.getD (t.probeStart (hOf P w k))) = some (.empty (way t.mask (hOf P w k) N) none) := by
        rw [hs, show way t.mask (hOf P w k) N = (nth t.mask (nth t.mask (pr0 t (hOf P w k)) c) (N - c)).j by rw [jw, cN]]
        exact pe
      rw [pe']
      refine wpAny_pure (no fun hm => ?_)
      obtain ⟨p0, m0, k0⟩ := List.mem_map.mp hm
      obtain ⟨i0, l0, e0⟩ := List.getElem_of_mem m0
      have e0 : M[i0]? = some p0 := by rw [List.getElem?_eq_getElem l0, e0]
      obtain ⟨d, d1, d2, d3⟩ := back i0 p0 e0 k0
      exact fst (d - c) i0 (by omega) (by rw [jw, show c + (d - c) = d by omega]; exact d3) ((hat i0 p0 e0).trans (congrArg (hOf P w) k0))
theorem SetM.search (R : SetM P w s.heap S M es ep t) {x : Addr} {k : List Key} (g : TupIs P w s.heap k x) (hu : A.units < cLine) {Q : SetFound → Shared → Prop} (yes : k ∈ M.map (·.1) → Q (.there none) s)
    (no : ∀ N, k ∉ M.map (·.1) → way t.mask (hOf P w k) N ∉ t.place.toList → (∀ c, c < N → way t.mask (hOf P w k) c ∈ t.place.toList) → Q (.free (way t.mask (hOf P w k) N) false) s) :
    wpAny (model P w) A (setSearch S (.ref x) (hOf P w k) true) Q E s := by
  have sp := R.spc
  obtain ⟨N, hN, free, busy⟩ := R.tab.first (by rw [List.length_map]; omega) (hOf P w k)
  have big : N < 100000 := by
    have : 10 * SetTable.turns t.mask ≤ 5000 := by
      unfold SetTable.turns
      rcases R.tab.mok with e | e | e <;> rw [e] <;> decide
    omega
  refine R.look g hu hN free busy yes (fun h => no N h free busy) 100000 0 none rfl (Nat.zero_le _) (by omega) fun i p hp hk => ?_
  have hi : (M.map fun p => hOf P w p.1)[i]? = some (hOf P w k) := by rw [List.getElem?_map, hp, ← hk]; rfl
  have il : i < t.place.toList.length := by
    have a := (List.getElem?_eq_some_iff.mp hp).1
    have b := R.tab.sz
    simp only [List.length_map, Array.length_toList] at b ⊢
    omega
  obtain ⟨d, d1, d2⟩ := R.tab.before free hi (List.getElem?_eq_getElem il)
  exact ⟨d, Nat.zero_le _, d1, by rw [List.getElem?_eq_getElem il, d2]⟩
end
end VI

set_option maxHeartbeats 2000000
/-! V7t: a tuple put into a set. -/
namespace VI
open PySem PySem.Spec PyProof.Rows L2
theorem range_pick {α : Type} : ∀ (M : List α), (List.range M.length).filterMap (fun i => M[i]?) = M
  | [] => rfl
  | a :: M => by
    rw [List.length_cons, List.range_succ_eq_map, List.filterMap_cons, List.filterMap_map]
    have := range_pick M
    simp only [List.getElem?_cons_zero]
    congr 1
section
variable {P : Program} {w : World} {A : Around} {E : Value → Shared → Prop} {s : Shared} {S : Addr} {M : List (List Key × Addr)} {es : Array (Int × Value)} {ep : Nat} {t : SetTable}
/-- the members in another order -/
theorem rearr {order : Array Nat} (hr : es.toList = M.map fun p => (hOf P w p.1, Value.ref p.2)) (hp : order.toList.Perm (List.range M.length)) :
    ∃ M2 : List (List Key × Addr), (order.filterMap (es[·]?)).toList = M2.map (fun p => (hOf P w p.1, Value.ref p.2)) ∧ M2.Perm M ∧ (M2.map fun p => hOf P w p.1) = order.toList.map fun i => (es.map (·.1)).getD i 0 := by
  have ent : ∀ i : Nat, es[i]? = (M[i]?).map fun p => (hOf P w p.1, Value.ref p.2) := fun i => by
    rw [← Array.getElem?_toList, hr, List.getElem?_map]
  refine ⟨order.toList.filterMap fun i => M[i]?, ?_, ?_, ?_⟩
  · rw [Array.toList_filterMap, List.map_filterMap]
    congr 1
    funext i
    exact ent i
  · have := hp.filterMap fun i => M[i]?
    rwa [range_pick] at this
  · have lt : ∀ i ∈ order.toList, i < M.length := fun i hi => List.mem_range.mp (hp.mem_iff.mp hi)
    generalize order.toList = l at lt
    induction l with
    | nil => rfl
    | cons i l ih =>
      have il := lt i (List.mem_cons_self ..)
      rw [List.filterMap_cons, List.getElem?_eq_getElem il, List.map_cons, List.map_cons, ih fun j hj => lt j (List.mem_cons_of_mem _ hj)]
      congr 1
      have e := ent i
      rw [List.getElem?_eq_getElem il] at e
      have e2 : (es.map (·.1))[i]? = some (hOf P w (M[i]).1) := by rw [Array.getElem?_map, e]; rfl
      rw [Array.getD_eq_getD_getElem?, e2]; rfl
theorem tup_same {h h' : Heap} {k : List Key} {b : Addr} {o : Obj} (g : TupIs P w h k b) (ho : h.get? S = some o) (hd : o.data = .set es ep t) (sb : Heap.SameBut S h h') : TupIs P w h' k b := by
  obtain ⟨ob, vs, c, hob, hc, hdat, hit⟩ := g
  have ne : b ≠ S := fun z => by
    rw [z, ho] at hob
    cases hob
    rw [hd] at hdat
    cases hdat
  exact ⟨ob, vs, c, (sb.2 b ne).trans hob, hc, hdat, hit⟩
theorem tup_kept {h h' : Heap} {k : List Key} {b : Addr} (g : TupIs P w h k b) (kp : ∀ c o, h.get? c = some o → h'.get? c = some o) : TupIs P w h' k b := by
  obtain ⟨ob, vs, c, hob, r⟩ := g
  exact ⟨ob, vs, c, kp _ _ hob, r⟩
/-- laid anew -/
theorem SetM.relay {o : Obj} (h1 : s.heap.get? S = some o) (h2 : o.ExactSet) (h3 : o.data = .set es ep t) (hr : es.toList = M.map fun p => (hOf P w p.1, Value.ref p.2)) (hf : t.fits es.size = true)
    (dis : (M.map (·.1)).Nodup) (key : ∀ p ∈ M, TupIs P w s.heap p.1 p.2) (ord : w.params.followText "set-order" = true ∨ t.led = true) (cnt : M.length < 64) {wanted m : Nat} (hw : SetTable.sizeAbove wanted - 1 = m) (hm : MaskOk m)
    (small : SetTable.sizeAbove wanted ≤ 128) (spc : M.length * 5 < m * 3) {Q : Unit → Shared → Prop} (q : ∀ h' M' es' ep' t', Heap.SameBut S s.heap h' → SetM P w h' S M' es' ep' t' → M'.Perm M → Q () { s with heap := h' }) :
    wpAny (model P w) A (setRelay S wanted) Q E s := by
  have el : es.size = M.length := by
    have := congrArg List.length hr
    simpa using this
  obtain ⟨t', order, rl, pm, T, tm, tl, _, _⟩ := relaid_ok t (hs := es.map (·.1)) (wanted := wanted) hw hm (by rw [Array.size_map, el]; omega)
  rw [Array.size_map, el] at pm
  obtain ⟨M2, m1, m2, m3⟩ := rearr hr pm
  rw [← m3] at T
  have e2 : (order.filterMap (es[·]?)).size = M.length := by
    have := congrArg List.length m1
    rw [List.length_map, m2.length_eq, Array.length_toList] at this
    exact this
  rw [setRelay_eq]
  refine wpAny_bind (wpAny_setState_of h1 h3 hf ?_)
  dsimp only
  refine wp_if_neg (by rw [sizeLine_eq]; omega) ?_
  rw [rl]
  refine wpAny_bind (wp_if_neg (by rw [e2, el]; simp) (wpAny_pure ?_))
  dsimp only
  refine wpAny_storeSet_of h1 h3 (q _ M2 _ (ep + 1) t' (Heap.SameBut.update ..) ⟨⟨_, store_at h1 h3, ⟨h2.1, h2.2.1, h2.2.2⟩, rfl⟩, m1, T, (m2.map _).nodup_iff.mpr dis, fun p hp => tup_same (key p (m2.mem_iff.mp hp)) h1 h3 (Heap.SameBut.update ..), by rw [tl]; exact ord, by rw [m2.length_eq, tm]; exact spc, by rw [m2.length_eq]; exact cnt⟩ m2) (by rw [e2, sizeLine_eq]; omega)
theorem SetM.add (R : SetM P w s.heap S M es ep t) {x : Addr} {k : List Key} (g : TupIs P w s.heap k x) (hu : A.units < cLine) (few : M.length + 1 < 64) {Q : Bool → Shared → Prop}
    (q : ∀ b h' M' es' ep' t', Heap.SameBut S s.heap h' → SetM P w h' S M' es' ep' t' → (k ∈ M.map (·.1) ∧ M' = M) ∨ (k ∉ M.map (·.1) ∧ M'.Perm ((k, x) :: M)) → Q b { s with heap := h' }) :
    wpAny (model P w) A (setAddHashed S (.ref x) (hOf P w k)) Q E s := by
  obtain ⟨o, h1, h2, h3⟩ := R.obj
  have el := R.len
  have spc := R.spc
  unfold setAddHashed
  refine wpAny_holding ?_
  show wpAny _ _ (setAddHashedIn S (.ref x) (hOf P w k) (99999 + 1)) _ _ _
  rw [setAddHashedIn_succ]
  refine wpAny_bind (wpAny_setState_of h1 h3 R.fit ?_)
  dsimp only
  refine wp_if_neg (by simp [byScan, Value.scannable]) (wpAny_bind (R.search g hu (fun hm => ?_) fun N hm free busy => ?_))
  · exact wpAny_pure (q false s.heap M es ep t (Heap.SameBut.refl S s.heap) R (.inl ⟨hm, rfl⟩))
  · dsimp only
    refine wpAny_bind (wpAny_setState_of h1 h3 R.fit ?_)
    dsimp only
    obtain ⟨q1, q2, q3, q4, q5, _, _, _, q9⟩ := R.tab.put free busy
    generalize hpt : t.put (way t.mask (hOf P w k) N) = pt at q1 q3 q4 q5 q9 ⊢
    obtain ⟨t1, at1⟩ := pt
    dsimp only at q1 q3 q4 q5 q9 ⊢
    subst q1
    generalize hpp : SetTable.below t.place (way t.mask (hOf P w k) N) = p at q2 q3 ⊢
    have rows : (SetTable.insertAt es p (hOf P w k, Value.ref x)).toList = (M.take p ++ (k, x) :: M.drop p).map fun p => (hOf P w p.1, Value.ref p.2) := by
      rw [SetTable.toList_insertAt, R.row, List.map_append, List.map_cons, List.map_take, List.map_drop]
    have hashes : (M.take p ++ (k, x) :: M.drop p).map (fun p => hOf P w p.1) = (M.map fun p => hOf P w p.1).take p ++ hOf P w k :: (M.map fun p => hOf P w p.1).drop p := by
      rw [List.map_append, List.map_cons, List.map_take, List.map_drop]
    rw [← hashes] at q3
    have pm : (M.take p ++ (k, x) :: M.drop p).Perm ((k, x) :: M) := put_perm M p (k, x)
    generalize M.take p ++ (k, x) :: M.drop p = M1 at pm rows q3
    generalize SetTable.insertAt es p (hOf P w k, Value.ref x) = es1 at rows
    have ml : M1.length = M.length + 1 := pm.length_eq
    have e1 : es1.size = M.length + 1 := by
      have := congrArg List.length rows
      rw [List.length_map, ml, Array.length_toList] at this
      exact this
    have dis1 : (M1.map (·.1)).Nodup := by
      rw [(pm.map (·.1)).nodup_iff, List.map_cons]
      exact List.nodup_cons.mpr ⟨hm, R.dis⟩
    -- the table with its mark
    have fin : ∀ t2 : SetTable, TabOk t2 (M1.map fun p => hOf P w p.1) → t2.mask = t.mask → t2.led = t.led → t2.fill = M.length + 1 → wpAny (model P w) A (do
        storeSet S es1 t2
        if !false && t2.tooFull then setRelay S (SetTable.grown (es.size + 1))
        return true) Q E s := fun t2 T tm tl tf => by
      refine wpAny_bind (wpAny_storeSet_of h1 h3 ?_ (by rw [e1, sizeLine_eq]; omega))
      have sb : Heap.SameBut S s.heap (s.heap.update S (Obj.putSet es1 t2)) := Heap.SameBut.update ..
      have g1 := store_at (es' := es1) (t' := t2) h1 h3
      generalize s.heap.update S (Obj.putSet es1 t2) = hh at sb g1 ⊢
      have key1 : ∀ p ∈ M1, TupIs P w hh p.1 p.2 := fun p hp => by
        rcases List.mem_cons.mp (pm.mem_iff.mp hp) with z | z
        · rw [z]; exact tup_same g h1 h3 sb
        · exact tup_same (R.key p z) h1 h3 sb
      have ord1 : w.params.followText "set-order" = true ∨ t2.led = true := by rw [tl]; exact R.ord
      have full : t2.tooFull = true ↔ (M.length + 1) * 5 ≥ t.mask * 3 := by
        unfold SetTable.tooFull
        rw [decide_eq_true_eq, tf, tm]
      have fit2 : t2.fits es1.size = true := by
        have a := T.sz
        simp only [List.length_map] at a
        simp only [SetTable.fits, SetTable.fill, T.dm, Bool.and_eq_true, beq_iff_eq, decide_eq_true_eq]
        have z : (#[] : Array Nat).size = 0 := rfl
        rcases R.tab.mok with e | e | e <;> rw [e] at spc tm <;> omega
      by_cases tf2 : t2.tooFull = true
      · have ge := full.mp tf2
        rw [el]
        have which : (t.mask = 7 ∧ M.length = 4) ∨ (t.mask = 31 ∧ M.length = 18) := by
          rcases R.tab.mok with e | e | e <;> rw [e] at ge spc
          · exact .inl ⟨e, by omega⟩
          · exact .inr ⟨e, by omega⟩
          · omega
        have grow : ∀ m, SetTable.sizeAbove (SetTable.grown (M.length + 1)) - 1 = m → MaskOk m → SetTable.sizeAbove (SetTable.grown (M.length + 1)) ≤ 128 → (M.length + 1) * 5 < m * 3 → wpAny (model P w) A (do
            if !false && t2.tooFull then setRelay S (SetTable.grown (M.length + 1))
            return true) Q E { s with heap := hh } := fun m a b c d => by
          refine wp_if_pos (by simp [tf2]) (wpAny_bind (SetM.relay (s := { s with heap := hh }) g1 ⟨h2.1, h2.2.1, h2.2.2⟩ rfl rows fit2 dis1 key1 ord1 (by rw [ml]; exact few) a b c (by rw [ml]; exact d) fun h' M' es' ep' t' sb' R' pm' => ?_))
          exact wpAny_pure (q true h' M' es' ep' t' (sb.trans sb') R' (.inr ⟨hm, pm'.trans pm⟩))
        rcases which with ⟨_, z⟩ | ⟨_, z⟩
        · exact grow 31 (by rw [z, size_20]) (.inr (.inl rfl)) (by rw [z, size_20]; decide) (by rw [z]; decide)
        · exact grow 127 (by rw [z, size_76]) (.inr (.inr rfl)) (by rw [z, size_76]; decide) (by rw [z]; decide)
      · refine wp_if_neg (by simp [tf2]) ?_
        refine wpAny_pure (q true hh M1 es1 (ep + 1) t2 sb ⟨⟨_, g1, ⟨h2.1, h2.2.1, h2.2.2⟩, rfl⟩, rows, T, dis1, key1, ord1, ?_, by rw [ml]; exact few⟩ (.inr ⟨hm, pm⟩))
        have : ¬ (M.length + 1) * 5 ≥ t.mask * 3 := fun z => tf2 (full.mpr z)
        rw [ml, tm]; omega
    have fl : t1.fill = M.length + 1 := by rw [q9, List.length_map]
    by_cases pl : t1.plain = true
    · refine wp_if_pos pl (wpAny_bind (tup_hash g fun r => ?_))
      cases r with
      | true => exact fin t1 q3 q4 q5 fl
      | false => exact fin { t1 with plain := false } ⟨q3.ris, q3.dm, q3.sz, q3.mok, q3.bd, q3.reach⟩ q4 q5 fl
    · exact wp_if_neg pl (wpAny_bind (wpAny_pure (fin t1 q3 q4 q5 fl)))
end
end VI

set_option maxHeartbeats 4000000
/-! V7u: set(list), sorted(set). -/
namespace VI
open PySem PySem.Spec PyProof.Rows L2
section
variable {P : Program} {w : World} {A : Around} {E : Value → Shared → Prop} {s : Shared}
/-- what stands in the set behind the first i of ks -/
structure Fed (ks : List (List Key × Addr)) (i : Nat) (M : List (List Key × Addr)) : Prop where
  from_ : ∀ p ∈ M, p ∈ ks.take i
  each : ∀ p ∈ ks.take i, p.1 ∈ M.map (·.1)
  len : M.length ≤ i
theorem Fed.next {ks M M' : List (List Key × Addr)} {i : Nat} {p : List Key × Addr} (F : Fed ks i M) (hp : ks[i]? = some p) (h : (p.1 ∈ M.map (·.1) ∧ M' = M) ∨ (p.1 ∉ M.map (·.1) ∧ M'.Perm ((p.1, p.2) :: M))) : Fed ks (i + 1) M' := by
  have tk : ks.take (i + 1) = ks.take i ++ [p] := by rw [List.take_succ, hp]; rfl
  rcases h with ⟨h1, rfl⟩ | ⟨_, pm⟩
  · refine ⟨fun q hq => by rw [tk]; exact List.mem_append_left _ (F.from_ q hq), fun q hq => ?_, Nat.le_succ_of_le F.len⟩
    rw [tk, List.mem_append, List.mem_singleton] at hq
    rcases hq with hq | rfl
    · exact F.each q hq
    · exact h1
  · refine ⟨fun q hq => ?_, fun q hq => ?_, by rw [pm.length_eq]; exact Nat.succ_le_succ F.len⟩
    · rw [tk, List.mem_append, List.mem_singleton]
      rcases List.mem_cons.mp (pm.mem_iff.mp hq) with rfl | z
      · exact .inr rfl
      · exact .inl (F.from_ q z)
    · rw [(pm.map (·.1)).mem_iff, List.map_cons, List.mem_cons]
      rw [tk, List.mem_append, List.mem_singleton] at hq
      rcases hq with hq | rfl
      · exact .inr (F.each q hq)
      · exact .inl rfl
abbrev Kept (h h' : Heap) : Prop := ∀ b o, h.get? b = some o → h'.get? b = some o
theorem SetM.kept {h h' : Heap} {S : Addr} {M : List (List Key × Addr)} {es : Array (Int × Value)} {ep : Nat} {t : SetTable} (R : SetM P w h S M es ep t) (hS : ∀ o, h.get? S = some o → h'.get? S = some o) (hk : ∀ p ∈ M, TupIs P w h' p.1 p.2) : SetM P w h' S M es ep t :=
  ⟨let ⟨o, a, b⟩ := R.obj; ⟨o, hS o a, b⟩, R.row, R.tab, R.dis, hk, R.ord, R.spc, R.cnt⟩
abbrev newS (w : World) : Obj := { cls := .type "set", dict := none, data := .set #[] 0 (.fresh 0 0 (!w.params.followText "set-order")) }
theorem setM_new {h : Heap} {S : Addr} (g : h.get? S = some (newS w)) : SetM P w h S [] #[] 0 (.fresh 0 0 (!w.params.followText "set-order")) := by
  refine ⟨⟨_, g, ⟨rfl, rfl, rfl⟩, rfl⟩, rfl, ⟨List.Pairwise.nil, rfl, rfl, .inl rfl, fun x hx => (by cases hx), fun i h j hi => (by simp at hi)⟩, List.nodup_nil, fun p hp => (by cases hp), ?_, (by show 0 * 5 < 7 * 3; decide), (by show 0 < 64; decide)⟩
  cases e : w.params.followText "set-order" with
  | true => exact .inl rfl
  | false => exact .inr rfl
/-- the loop that feeds the set -/
theorem feed {I : Addr} {fp wr : List Addr} {G : Array GenState → Array GenState → Prop} {Pv : Nat → Value → Prop} {St : Nat → Shared → Prop} {R : Result → Shared → Prop} {ks : List (List Key × Addr)}
    (W : WalksS P w A.in1 I fp wr G ks.length Pv St) {S : Addr} (nS : S ∉ fp) (few : ks.length < 64) (val : ∀ i v, Pv i v → ∃ p, ks[i]? = some p ∧ v = .ref p.2)
    {h0 : Heap} (key : ∀ p ∈ ks, TupIs P w h0 p.1 p.2) (freeS : h0.get? S = none) (freeW : ∀ b ∈ wr, h0.get? b = none) (hu : A.in1.units < cLine) :
    ∀ (m i : Nat) (s : Shared), i + m = ks.length → St i s → Kept h0 s.heap → (∃ M es ep t, SetM P w s.heap S M es ep t ∧ Fed ks i M) →
      (∀ s' M es ep t, Moved (S :: wr) G s s' → SetM P w s'.heap S M es ep t → Fed ks ks.length M → Kept h0 s'.heap → R (.ok (.ret .none)) s') →
      codeAny (model P w) A (.builtin "set.update.loop" ⟨[.ref S, .ref I], []⟩) R s := by
  have nSw : S ∉ wr := fun z => nS (W.sub _ z)
  have inS : ∀ b ∈ wr, b ∈ S :: wr := fun b hb => List.mem_cons_of_mem _ hb
  have kp : ∀ {a b : Shared}, Moved wr G a b → Kept h0 a.heap → Kept h0 b.heap := fun mv k c o e => mv.heap c o (fun z => by rw [freeW c z] at e; cases e) (k c o e)
  intro m
  induction m with
  | zero =>
    rintro i s hi st k ⟨M, es, ep, t, T, D⟩ fin
    obtain rfl : i = ks.length := hi
    refine codeAny_builtin F.entry_set_update_loop ?_
    rw [Around.under_plainId F.plain_set_update_loop _]
    show wpAny _ A.in1 (pyNext (.ref I) >>= _) _ _ s
    refine wpAny_bind (W.done s _ _ st fun s' mv => ?_)
    have k' := kp mv k
    exact wpAny_pure (fin s' M es ep t (mv.mono inS) (T.kept (fun o e => mv.heap S o nSw e) fun p hp => tup_kept (key p (List.mem_of_mem_take (D.from_ p hp))) k') D k')
  | succ m ih =>
    rintro i s hi st k ⟨M, es, ep, t, T, D⟩ fin
    have lt : i < ks.length := by omega
    refine codeAny_builtin F.entry_set_update_loop ?_
    rw [Around.under_plainId F.plain_set_update_loop _]
    show wpAny _ A.in1 (pyNext (.ref I) >>= _) _ _ s
    refine wpAny_bind (W.item i s _ _ lt st fun v s' pv st' mv => ?_)
    obtain ⟨p, hp, rfl⟩ := val i v pv
    have k' := kp mv k
    have T' : SetM P w s'.heap S M es ep t := T.kept (fun o e => mv.heap S o nSw e) fun q hq => tup_kept (key q (List.mem_of_mem_take (D.from_ q hq))) k'
    have g : TupIs P w s'.heap p.1 p.2 := tup_kept (key p (List.mem_of_getElem? hp)) k'
    show wpAny _ A.in1 (holding [Value.ref p.2] (setAdd S (.ref p.2)) >>= _) _ _ s'
    refine wpAny_bind (wpAny_holding ?_)
    unfold setAdd
    refine wpAny_holding (wpAny_bind (wpAny_pyHash_tuple hu g ?_))
    refine SetM.add (s := { s' with toks := s'.toks + (p.1.length + 1) }) T' g hu (by have := D.len; omega) fun b h' M' es' ep' t' sb T2 alt => ?_
    have k2 : Kept h0 h' := fun c o e => (sb.2 c (fun z => by rw [z, freeS] at e; cases e)).trans (k' c o e)
    refine wpAny_pure ⟨plainId_quiet F.plain_set_update_loop _, ih (i + 1) _ (by omega) (W.frame _ s' _ _ st' (Nat.le_add_right _ _) fun c hc o e => ?_) k2 ⟨M', es', ep', t', T2, D.next hp alt⟩ fun s'' M2 es2 ep2 t2 mv2 T3 F3 k3 => ?_⟩
    · rw [sb.2 c (fun z => nS (z ▸ hc))]; exact e
    · refine fin s'' M2 es2 ep2 t2 (Moved.trans W.gtrans ((mv.mono inS).then_heap (Nat.le_add_right _ _) fun c o hc e => ?_) mv2) T3 F3 k3
      rw [sb.2 c (fun z => hc (z ▸ List.mem_cons_self ..))]; exact e
set_option maxHeartbeats 8000000 in
/-- set(l), l a list of tuples -/
theorem call_setM {l : Addr} {items : Array Value} {ks : List (List Key × Addr)} {Q : Value → Shared → Prop} (hh : A.handled = none) (hl : s.heap.IsList l items) (hi : items.toList = ks.map fun p => Value.ref p.2)
    (key : ∀ p ∈ ks, TupIs P w s.heap p.1 p.2) (few : ks.length < 64) (hu : A.units + 3 < cLine)
    (q : ∀ (h' : Heap) (tk : Nat) M es ep t, SetM P w h' s.heap.objs.size M es ep t → Fed ks ks.length M → Kept s.heap h' → Q (.ref s.heap.objs.size) { s with heap := h', toks := tk }) :
    wpAny (model P w) A (call (.type "set") [.ref l]) Q E s := by
  have il : items.size = ks.length := by
    have := congrArg List.length hi
    simpa using this
  obtain ⟨c, tl, hmro⟩ := F.called_set.mro
  have hmade := F.called_set.made
  have hsub := F.called_set.sub
  have h1 := F.called_set.notType
  have h2 := F.called_set.canCreate
  have hct := F.typeCall_set_1 (.ref l)
  refine wpAny_call (codeAny_of_tree ?_)
  show wpAny _ _ (callAny (.type "set") _) _ _ _
  refine wpAny_pure ⟨Code.quiet_builtin _ (by decide +kernel), codeAny_builtin F.entry_type_call ?_⟩
  rw [Around.under_plain (weight_type_call_type "set" [.ref l] []) rfl]
  repeat (any_goals (first | assumption | wp_step))
  refine codeAny_mono (code_set_led1 (.ref l) (E := E) (Q₁ := fun v z => v = .ref s.heap.objs.size ∧ z = { s with heap := s.heap.push (newS w) }) ⟨rfl, rfl⟩) fun r z hr => ?_
  match r, hr with
  | .error e, hr => exact hr
  | .ok .next, hr => exact hr.elim
  | .ok .brk, hr => exact hr.elim
  | .ok .cont, hr => exact hr.elim
  | .ok (.ret v), hr =>
    obtain ⟨rfl, rfl⟩ := hr
    have g0 : (s.heap.push (newS w)).get? s.heap.objs.size = some (newS w) := Heap.get?_push_size _ rfl
    have hT : Shared.TypeIs { s with heap := s.heap.push (newS w) } (.ref s.heap.objs.size) "set" := ⟨_, g0, rfl⟩
    have hli := F.called_set.init.lookup
    have hbi := F.called_set.init.bind (.ref s.heap.objs.size)
    repeat (any_goals (first | assumption | wp_step))
    refine codeAny_mono (codeAny_call_builtin (R := wants (fun r z => r = .none ∧ ∃ h' tk M es ep t, z = { s with heap := h', toks := tk } ∧ SetM P w h' s.heap.objs.size M es ep t ∧ Fed ks ks.length M ∧ Kept s.heap h') E) F.called_set.init.plain F.entry_set_init (check_set_init_1 hT ?_)) fun r2 z2 hr2 => ?_
    · obtain ⟨ol, gl, cl, nl, dl⟩ := hl
      obtain ⟨oc, od, oda, osl⟩ := ol
      simp only at cl dl
      subst cl dl
      have lS : l < s.heap.objs.size := Heap.lt_size gl
      have gl' : (s.heap.push (newS w)).get? l = some { cls := .type "list", dict := od, data := .seq items nl, slots := osl } := Heap.get?_push_of_some _ gl
      have isl : (s.heap.push (newS w)).IsList l items := ⟨_, gl', rfl, nl, rfl⟩
      have s1 := F.sub_list_set
      have s2 := F.sub_list_frozenset
      have ne : (Value.type "list" == Value.type "dict") = false := by decide
      unfold Builtin.«set.__init__» noKeywords Builtin.Frozenset.updateFrom
      generalize hPI : pyIter = PI
      wp_walk
      subst hPI
      refine wpAny_pyIter_list isl (wpAny_bind (wpAny_runValue ?_))
      have sz1 : (s.heap.push (newS w)).objs.size = s.heap.objs.size + 1 := Heap.size_push ..
      have none_of : ∀ b, s.heap.objs.size ≤ b → s.heap.get? b = none := fun b hb => by
        cases e : s.heap.get? b with
        | none => rfl
        | some o => exact absurd (Heap.lt_size e) (Nat.not_lt.mpr hb)
      have W := (Walks.list (prog := P) (w := w) (A := A.in1.in1.in1) (by simp [hh]) (s.heap.push (newS w)).objs.size l (Nat.ne_of_lt (by rw [sz1]; exact Nat.lt_succ_of_lt lS)) items).toS
      rw [il] at W
      refine feed W (S := s.heap.objs.size) (by rw [sz1]; simp only [List.mem_cons, List.not_mem_nil, or_false, not_or]; exact ⟨Nat.ne_of_lt (Nat.lt_succ_self _), Nat.ne_of_gt lS⟩) few (fun i v hv => ?_) key (none_of _ (Nat.le_refl _)) (fun b hb => none_of b (by rw [List.mem_singleton.mp hb, sz1]; omega)) hu ks.length 0 _ (by omega)
        ⟨⟨_, Heap.get?_push_size _ rfl, rfl, rfl⟩, isl.push _⟩ (fun b o e => Heap.get?_push_of_some _ (Heap.get?_push_of_some _ e)) ⟨[], #[], 0, _, setM_new (Heap.get?_push_of_some _ g0), ⟨fun p hp => (by cases hp), fun p hp => (by simp at hp), Nat.le_refl _⟩⟩ fun s' M es ep t mv T Fd k => ?_
      · have e : items.toList[i]? = some v := by rw [Array.getElem?_toList]; exact hv
        rw [hi, List.getElem?_map] at e
        cases hp : ks[i]? with
        | none => rw [hp] at e; cases e
        | some p => rw [hp] at e; cases e; exact ⟨p, rfl, rfl⟩
      · obtain ⟨h', g', d', tk', os'⟩ := s'
        obtain rfl : g' = s.gens := mv.gens
        obtain rfl : d' = s.drawn := mv.drawn
        obtain rfl : os' = s.os := mv.os
        exact wpAny_pure (wpAny_pure ⟨rfl, h', tk', M, es, ep, t, rfl, T, Fd, k⟩)
    · match r2, hr2 with
      | .error e, hr => exact hr
      | .ok .next, hr => exact hr.elim
      | .ok .brk, hr => exact hr.elim
      | .ok .cont, hr => exact hr.elim
      | .ok (.ret v), hr =>
        obtain ⟨rfl, h', tk, M, es, ep, t, rfl, T, Fd, k⟩ := hr
        repeat (any_goals (first | assumption | wp_step))
        exact q _ _ _ _ _ _ T Fd k
end
end VI

set_option maxHeartbeats 4000000
/-! V7v: set(list) and sorted(set) as rules. -/
namespace VI
open PySem PySem.Spec PyProof.Rows L2
/-- the set at a, its members aside -/
def SetN (P : Program) (w : World) (S : Addr) (M : List (List Key × Addr)) (h : Heap) : Prop := ∃ (es : Array (Int × Value)) (ep : Nat) (t : SetTable), (∃ o, h.get? S = some o ∧ o.ExactSet ∧ o.data = .set es ep t) ∧ es.toList = (M.map fun p => (hOf P w p.1, Value.ref p.2)) ∧
  TabOk t (M.map fun p => hOf P w p.1) ∧ (M.map (·.1)).Nodup ∧ (w.params.followText "set-order" = true ∨ t.led = true) ∧ M.length * 5 < t.mask * 3 ∧ M.length < 64
def setHO (P : Program) (w : World) (S : Addr) (M : List (List Key × Addr)) : HO := .ext (SetN P w S M)
theorem setHO_new {P : Program} {w : World} {H : Hp} {h : Heap} {S : Addr} {M : List (List Key × Addr)} {es : Array (Int × Value)} {ep : Nat} {t : SetTable} (R : SetM P w h S M es ep t) : ObjOk P w H h S (setHO P w S M) := by
  have n : SetN P w S M h := ⟨es, ep, t, R.obj, R.row, R.tab, R.dis, R.ord, R.spc, R.cnt⟩
  obtain ⟨o, ho, r⟩ := R.obj
  refine ⟨n, ⟨o, ho⟩, fun h1 h2 p k => ?_⟩
  obtain ⟨es', ep', t', ⟨o', a, b⟩, q⟩ := p
  exact ⟨es', ep', t', ⟨o', k o' a, b⟩, q⟩
section
variable {X : Cx} {pins : List (Addr × Obj)} {σ : L2.St} {H : Hp} {s : Shared}
theorem inv_tup (I : Inv X pins σ H s) {b : Addr} {k : List Key} (h : SqT X.K H b (k.map kV)) : TupIs X.prog X.w s.heap k b := by
  obtain ⟨its, r, ⟨o, ho, hc, n, hd⟩, _⟩ := I.tuple h
  exact ⟨o, its.toArray, n, ho, hc, hd, by simpa using items_are r⟩
theorem refs_eq {β : Type} {f : β → Addr} : ∀ {ks : List β} {us : List Value}, Vals (ks.map fun p => V.ref (f p)) us → us = ks.map fun p => Value.ref (f p)
  | [], _, .nil => rfl
  | p :: ks, _, .cons r t => by
    cases r
    rw [refs_eq t]; rfl
theorem eq_refs {β : Type} (f : β → Addr) : ∀ (ks : List β), Vals (ks.map fun p => V.ref (f p)) (ks.map fun p => Value.ref (f p))
  | [] => .nil
  | p :: ks => .cons rfl (eq_refs f ks)
def rSetM (K : PySem.W.Frag) (P : Program) (w : World) : List V → Hp → VK → Prop := fun xs H Q => ∃ (l : Addr) (ks : List (List Key × Addr)), xs = [V.ref l] ∧ SqL K H l (ks.map fun p => V.ref p.2) ∧ (∀ p ∈ ks, SqT K H p.2 (p.1.map kV)) ∧ ks.length < 64 ∧
  ∀ S M, H S = none → (∀ p ∈ M, p ∈ ks) → (∀ p ∈ ks, p.1 ∈ M.map (·.1)) → (M.map (·.1)).Nodup → Q (.ref S) (upd H S (setHO P w S M))
theorem cr_setM (hc : X.calm = true) (hu : X.A.units + 3 < cLine) : CallR X (.type "set") (rSetM X.K X.prog X.w) := by
  intro pins s σ H xs us Q I r h
  obtain ⟨l, ks, rfl, hl, hk, hf, q⟩ := h
  obtain ⟨u, rfl, ru⟩ := vals1 r
  cases ru
  obtain ⟨its, rv, pl, hz⟩ := I.list hl
  refine call_setM (P := X.prog) (w := X.w) (ks := ks) (I.ok.hd hc) pl.isList (by simpa using refs_eq (f := fun p : List Key × Addr => p.2) rv) (fun p hp => inv_tup I (hk p hp)) hf hu fun h' tk M es ep t R F k => ?_
  refine ⟨.ref s.heap.objs.size, upd H s.heap.objs.size (setHO X.prog X.w s.heap.objs.size M), I.laid (t' := tk) k (Nat.le_refl _) (setHO_new R), rfl, q _ M (I.hok.fresh (Nat.le_refl _)) (fun p hp => ?_) (fun p hp => ?_) R.dis⟩
  · exact List.mem_of_mem_take (F.from_ p hp)
  · exact F.each p (by rw [List.take_length]; exact hp)
theorem perm_lift {α β : Type} {f : α → β} : ∀ {l : List β} {bs : List α}, l.Perm (bs.map f) → ∃ bs' : List α, bs'.Perm bs ∧ bs'.map f = l
  | [], bs, h => by
    have := h.length_eq
    cases bs with
    | nil => exact ⟨[], .refl _, rfl⟩
    | cons _ _ => simp at this
  | v :: l, bs, h => by
    obtain ⟨b, hb, e⟩ := List.mem_map.mp (h.mem_iff.mp (List.mem_cons_self ..))
    obtain ⟨x, y, rfl⟩ := List.append_of_mem hb
    have p : (x ++ b :: y).Perm (b :: (x ++ y)) := List.perm_middle
    have h2 : (v :: l).Perm (v :: (x ++ y).map f) := by
      refine h.trans ?_
      have := p.map f
      rw [List.map_cons, e] at this
      exact this
    obtain ⟨bs', p1, p2⟩ := perm_lift (List.Perm.cons_inv h2)
    exact ⟨b :: bs', (p1.cons b).trans p.symm, by rw [List.map_cons, e, p2]⟩
theorem reads_strs {P : Program} {w : World} {h : Heap} : ∀ {r : List Str} {vs : List Value}, ItemsAre (mixKind P w) (r.map Sum.inr) vs → ReadsAll h vs (r.map .str) []
  | [], _, .nil => .nil
  | x :: r, _, .cons (v := v) (vs := vs) a b => by
    have hv : ∃ t, v = .str x t := by
      rcases flat_item a with ⟨i, t, rfl⟩ | ⟨y, t, rfl⟩
      · cases a
      · refine ⟨t, ?_⟩
        have : y = x := by
          have a : (y == x) = true := a
          exact beq_iff_eq.mp a
        rw [this]
    obtain ⟨t, rfl⟩ := hv
    exact ReadsAll.cons (as := []) (bs := []) (.str x t) (reads_strs b)
theorem reads_key {P : Program} {w : World} {h : Heap} {r : List Str} {b : Addr} (g : TupIs P w h (r.map Sum.inr) b) : Reads h (.ref b) (pyRow r) [] := by
  obtain ⟨o, vs, n, ho, hc, hd, hi⟩ := g
  exact .tuple ho hc hd (reads_strs hi)
def rSortM (K : PySem.W.Frag) (P : Program) (w : World) : List V → Hp → VK → Prop := fun vs H Q => ∃ (S : Addr) (bs : List (Addr × List Str)), vs = [V.ref S] ∧ H S = some (setHO P w S (bs.map fun b => (b.2.map Sum.inr, b.1))) ∧ (∀ b ∈ bs, SqT K H b.1 (b.2.map V.str)) ∧ (∀ b ∈ bs, b.2 ≠ []) ∧
  ∀ (bs' : List (Addr × List Str)) (p : Addr), bs'.Perm bs → H p = none → Q (.ref p) (upd H p (.lst ((bs'.mergeSort (PySem.W.dataLe false fun b => pyRow b.2)).map fun b => V.ref b.1)))
theorem cr_sortM (hc : X.calm = true) (hu : X.A.units + 70 < cLine) : CallR X (.builtin "sorted") (rSortM X.K X.prog X.w) := by
  intro pins s σ H vs us Q I r h
  obtain ⟨S, bs, rfl, hS, hb, hne, q⟩ := h
  obtain ⟨u, rfl, ru⟩ := vals1 r
  cases ru
  have n0 : SetN X.prog X.w S (bs.map fun b => (b.2.map Sum.inr, b.1)) s.heap := (I.hok S _ hS).1
  obtain ⟨es, ep, t, ⟨o, o1, o2, o3⟩, rw1, tb, dis, ord, spc, cnt⟩ := n0
  have tup : ∀ b ∈ bs, TupIs X.prog X.w s.heap (b.2.map Sum.inr) b.1 := fun b hm => inv_tup I (by have := hb b hm; rw [List.map_map]; exact this)
  have el : es.size = bs.length := by
    have := congrArg List.length rw1
    simpa using this
  rw [List.length_map] at spc cnt
  have fit : t.fits es.size = true := by
    have a := tb.sz
    simp only [List.length_map] at a
    simp only [SetTable.fits, SetTable.fill, tb.dm, Bool.and_eq_true, beq_iff_eq, decide_eq_true_eq]
    have z : (#[] : Array Nat).size = 0 := rfl
    omega
  refine Calls.call_function_entry kind_sorted plain_sorted entry_sorted (args_sorted1 _) ?_
  unfold Builtin.«sorted»
  refine wpAny_bind (m := checkCount "sorted" 1 1 _) (wpAny_pure (wpAny_bind (collect_set (A := X.A.in1) (I.ok.hd hc) ⟨o, o1, o2.1, o3⟩ fit (by unfold scanBound; omega) tb.ris ord fun s1 out k1 _ g1 o1' pm => ?_)))
  have pm2 : out.Perm (bs.map fun b => Value.ref b.1) := by
    rw [rw1, List.map_map, List.map_map] at pm
    exact pm
  obtain ⟨bs', p1, rfl⟩ := perm_lift pm2
  have l1 : bs'.length < 64 := by rw [p1.length_eq]; exact cnt
  refine wpAny_bind (wpAny_newList ?_ (by rw [List.length_map, sizeLine_eq]; omega))
  have gL : (s1.heap.push (seqObj "list" (bs'.map fun b => Value.ref b.1).toArray 0)).get? s1.heap.objs.size = some (seqObj "list" (bs'.map fun b => Value.ref b.1).toArray 0) := Heap.get?_push_size _ rfl
  have kk : Kept s.heap (s1.heap.push (seqObj "list" (bs'.map fun b => Value.ref b.1).toArray 0)) := fun b o e => Heap.get?_push_of_some _ (k1 b o e)
  have al : ∀ b ∈ bs', TupIs X.prog X.w s.heap (b.2.map Sum.inr) b.1 := fun b hm => tup b (p1.mem_iff.mp hm)
  have er : PySem.W.EachIs (fun v (b : Addr × List Str) => ∃ as, Reads (s1.heap.push (seqObj "list" (bs'.map fun b => Value.ref b.1).toArray 0)) v (pyRow b.2) as ∧ s1.heap.objs.size ∉ as) (bs'.map fun b => Value.ref b.1) bs' := by
    have key : ∀ {hh : Heap} {a : Addr} (l : List (Addr × List Str)), Kept s.heap hh → (∀ b ∈ l, b ∈ bs') → PySem.W.EachIs (fun v (b : Addr × List Str) => ∃ as, Reads hh v (pyRow b.2) as ∧ a ∉ as) (l.map fun b => Value.ref b.1) l := fun {hh a} l hk => by
      induction l with
      | nil => intro _; exact .nil
      | cons b l ih => intro hl; exact .cons ⟨[], reads_key (tup_kept (al b (hl b (List.mem_cons_self ..))) hk), by simp⟩ (ih fun c hc => hl c (List.mem_cons_of_mem _ hc))
    exact key bs' kk fun b h => h
  have e0 : PySem.W.EachIs (fun v (b : Addr × List Str) => v = Value.ref b.1) (bs'.map fun b => Value.ref b.1) bs' := by
    clear er al kk gL l1 p1 pm2 pm
    induction bs' with
    | nil => exact .nil
    | cons b l ih => exact .cons rfl ih
  have hu2 : ∀ b ∈ bs', X.A.in1.units + 1 + (pyRow b.2).depth < cLine := fun b _ => by
    show X.A.in1.units + 1 + (PyData.tuple (b.2.map .str)).depth < cLine
    rw [PyData.depth, depth_strs]
    show X.A.units + 1 + 1 + (0 + 1) < cLine
    omega
  refine wpAny_bind (wpAny_holding (PySem.W.list_sort_data (R := fun v (b : Addr × List Str) => v = Value.ref b.1) (enc := fun b : Addr × List Str => pyRow b.2) gL e0 er (PySem.W.AllAlike.of fun b b' => ?_) ?_ (by rw [sizeLine_eq]; omega) hu2 fun out ol oe => ?_))
  · show PySem.W.alike (.tuple _) (.tuple _) = true
    rw [PySem.W.alike]; exact alike_rows _ _
  · refine .inl fun d hd => ?_
    obtain ⟨b, hm, rfl⟩ := List.mem_map.mp hd
    have := hne b (p1.mem_iff.mp hm)
    cases e : b.2 with
    | nil => exact absurd e this
    | cons x r => exact ⟨.str x, r.map .str, rfl⟩
  · obtain ⟨c, gc⟩ := sortedHeap_at (vs := bs'.map fun b => Value.ref b.1) (out := out.toArray) gL
    have oute : out = (bs'.mergeSort (PySem.W.dataLe false fun b => pyRow b.2)).map fun b => Value.ref b.1 := by
      have key : ∀ {l : List (Addr × List Str)} {o : List Value}, PySem.W.EachIs (fun v (b : Addr × List Str) => v = Value.ref b.1) o l → o = l.map fun b => Value.ref b.1 := fun {l o} h => by
        induction h with
        | nil => rfl
        | cons a _ ih => rw [a, ih]; rfl
      exact key oe
    have hz : s.heap.objs.size ≤ s1.heap.objs.size := by assumption
    have hn : H s1.heap.objs.size = none := I.hok.fresh hz
    have kp : Kept s.heap (sortedHeap (s1.heap.push (seqObj "list" (bs'.map fun b => Value.ref b.1).toArray 0)) s1.heap.objs.size (bs'.map fun b => Value.ref b.1) out.toArray) := fun b o e => by
      have q1 := k1 b o e
      have lt := Heap.lt_size q1
      rw [sortedHeap_old (Nat.ne_of_lt lt) (by rw [size_push']; exact Nat.lt_succ_of_lt lt)]
      exact Heap.get?_push_of_some _ q1
    have J : Inv X pins σ (upd H s1.heap.objs.size (.lst ((bs'.mergeSort (PySem.W.dataLe false fun b => pyRow b.2)).map fun b => V.ref b.1))) { s with heap := sortedHeap (s1.heap.push (seqObj "list" (bs'.map fun b => Value.ref b.1).toArray 0)) s1.heap.objs.size (bs'.map fun b => Value.ref b.1) out.toArray, gens := s1.gens, drawn := s1.drawn, toks := s1.toks } :=
      I.call (ch := []) (Un.laid kp hz hn) (I.hok.laid kp hz ⟨by rw [List.length_map, List.length_mergeSort, sizeLine_eq]; omega, out, c, by rw [oute]; exact eq_refs (fun b : Addr × List Str => b.1) _, gc⟩) (by rw [g1]; exact I.bare) (fun _ z => nomatch z)
    obtain ⟨hp, gn, dr, tk, os⟩ := s1
    obtain rfl : os = s.os := o1'
    exact wpAny_pure ⟨_, rfl, .ref _, _, J, rfl, q bs' _ p1 hn⟩
end
end VI

set_option maxHeartbeats 2000000
namespace VI
open PySem L2 M
open LamX (CodeO TabB ExtN)
/-! ### classes -/
def clN : Cl → String
  | .int => "int" | .str => "str" | .bool => "bool" | .tuple => "tuple" | .list => "list" | .dict => "dict" | .own _ => ""
/-- the built-in type of data that is no instance -/
def tyN : D → Option String
  | .non => some "NoneType" | .bl _ => some "bool" | .int _ => some "int" | .str _ => some "str" | .tup _ => some "tuple" | .ktp _ => some "tuple" | .lst _ => some "list" | .lck _ => some "list" | .dic _ _ => some "dict" | .fdic _ _ => some "dict" | .ins _ _ => none
/-- what is known of an own class -/
structure COk (g : G) (C : Addr) : Prop where
  ins : C8.InsC g.K C
  no : ∀ T : Cl, (∀ e, T ≠ .own e) → PySem.W.kitOne g.K (.ref C) (.type (clN T)) = some false
  on : ∀ x : D, ∀ T, tyN x = some T → PySem.W.kitOne g.K (.type T) (.ref C) = some false
def clU (g : G) : Cl → Value
  | .own e => .ref ((g.cl e).getD 0)
  | .int => .type "int" | .str => .type "str" | .bool => .type "bool" | .tuple => .type "tuple" | .list => .type "list" | .dict => .type "dict"
def clV (g : G) : Cl → V
  | .own e => .ref ((g.cl e).getD 0)
  | .int => .ty "int" | .str => .ty "str" | .bool => .ty "bool" | .tuple => .ty "tuple" | .list => .ty "list" | .dict => .ty "dict"
theorem clsV (g : G) : ∀ c : Cl, ClsV (clV g c) (clU g c)
  | .own e => .own _
  | .int => .ty _ | .str => .ty _ | .bool => .ty _ | .tuple => .ty _ | .list => .ty _ | .dict => .ty _
section
variable {g : G} {ge : GE} {X : Cx} {n : Nat} {W : WX} {a b c : Expr} {pos p : Pos}
theorem se_blt {bl : Blt} {x : Str} {es : List Expr} {ms : Sl → M (List VV)} (hx : XOk g X n W) (hxn : x = bltN bl) (hg : Gl X x) (hm : g.mg x = none) (ha : PA X (a :: es) (tEvA g ge W ms))
    (he : starEach (a :: es) X.env = (false, eval a X.env) :: starEach es X.env) (hpl : (backTo pos (starEach es X.env)).any (·.1) = false) :
    PE X (.Call (.Name x p) (a :: es) [] pos) (tEv g ge W fun φ => bnd (ms φ) fun vs => bnd (derefs vs) fun xs => bnd (M.opt (bltD bl xs)) fun z => ret (.d z)) := by
  have cr : CallR X (bltV bl) (rBlt g.K bl) := hx.K ▸ cr_blt hx.calm (by have := hx.room.un; omega) bl
  have hm' : X.mg x = none := by rw [hx.mg]; exact hm
  have base : PE X (.Call (.Name x p) (a :: es) [] pos) (tCB (rBlt g.K bl) (tEvA g ge W ms)) := by
    subst hxn
    cases bl <;> first
      | exact pe_callB cr hg hm' (by decide +kernel) ha (by decide) (by decide) he hpl
      | exact pe_callTy cr hg hm' (by decide +kernel) ha (by decide) (by decide) he hpl
  refine base.weak fun σ H Q ⟨S, φ, β, e, k, sl, q⟩ => ?_
  subst e
  refine step_a (Qk := fun S => Kv g S Q) grow_v k sl q fun us xs β1 S1 l1 k1 r1 sl1 q1 => ?_
  obtain ⟨ys, q2, ds⟩ := DRs.get k1 r1 (out_bnd q1)
  obtain ⟨z, e, q3⟩ := out_opt (out_bnd q2)
  exact blt_ok bl k1 ds e q3
theorem fr_lst {x : Str} {es : List Expr} {ms : Sl → M (List VV)} (hx : XOk g X n W) (hxn : x = "list") (hg : Gl X x) (hm : g.mg x = none) (ha : PA X (a :: es) (tEvA g ge W ms))
    (he : starEach (a :: es) X.env = (false, eval a X.env) :: starEach es X.env) (hpl : (backTo pos (starEach es X.env)).any (·.1) = false) :
    PE X (.Call (.Name x p) (a :: es) [] pos) (tFr g ge W fun φ => bnd (ms φ) fun vs => bnd (derefs vs) fun ds => bnd (M.opt (listD ds)) fun xs => ret (Ct.lst xs)) := by
  have hm' : X.mg x = none := by rw [hx.mg]; exact hm
  subst hxn
  refine (pe_callTy call_list_of hg hm' (by decide +kernel) ha (by decide) (by decide) he hpl).weak fun σ H Q ⟨S, φ, β, e, k, sl, q⟩ => ?_
  subst e
  refine step_a (Qk := fun S => Kf g S Q) grow_f k sl q fun us xs β1 S1 l1 k1 r1 sl1 q1 => ?_
  obtain ⟨ys, q2, ds⟩ := DRs.get k1 r1 (out_bnd q1)
  obtain ⟨zs, e, q3⟩ := out_opt (out_bnd q2)
  have q3 : Kf g S1 Q (.lst zs) β1 := q3
  unfold listD at e
  split at e
  · split at e <;> cases e
    cases ds with
    | cons d t =>
      cases t
      obtain ⟨p, vs, rfl, h1, rr⟩ := d.tup'
      exact ⟨p, vs, rfl, .inr (hx.K ▸ seqT k1.same h1), fun l hl => q3 l (.lst vs) S1 (.refl S1) k1 hl ⟨vs, rfl, rr⟩⟩
  · split at e <;> cases e
    cases ds with
    | cons d t =>
      cases t
      obtain ⟨p, vs, rfl, h1, rr⟩ := d.lst' k1
      exact ⟨p, vs, rfl, .inl (SqL.of h1), fun l hl => q3 l (.lst vs) S1 (.refl S1) k1 hl ⟨vs, rfl, rr⟩⟩
  · split at e <;> cases e
    cases ds with
    | cons d t =>
      cases t
      obtain ⟨p, vs, rfl, h1, rr⟩ := d.lck'
      exact ⟨p, vs, rfl, .inl (hx.K ▸ k1.same.seq h1), fun l hl => q3 l (.lst vs) S1 (.refl S1) k1 hl ⟨vs, rfl, rr⟩⟩
  · cases e
/-! ### isinstance -/
theorem tyX_of {S : Sx} {β : Sto} {u : V} {x : D} (hnf : isF x = false) (k : OkS g β S) (hc : ∀ c C, g.cl c = some C → COk g C) (r : Rep g.K g.cl S.F u x) : ∃ t, TyX g.K S.H u t ∧ ((∃ T, tyN x = some T ∧ t = .type T) ∨ ∃ c fs C, x = .ins c fs ∧ g.cl c = some C ∧ t = .ref C) := by
  cases r with
  | non => exact ⟨_, .base .non, .inl ⟨_, rfl, rfl⟩⟩
  | bl b => exact ⟨_, .base (.bl b), .inl ⟨_, rfl, rfl⟩⟩
  | int b => exact ⟨_, .base (.int b), .inl ⟨_, rfl, rfl⟩⟩
  | str b => exact ⟨_, .base (.str b), .inl ⟨_, rfl, rfl⟩⟩
  | tup h _ => exact ⟨_, .base (.tup (k.sub _ _ h)), .inl ⟨_, rfl, rfl⟩⟩
  | ktp h _ =>
    refine ⟨.type "tuple", ?_, .inl ⟨_, rfl, rfl⟩⟩
    rcases h with (h | ⟨o, h⟩) | ⟨o, its, n, hk, ht, _⟩
    · exact .base (.tup (k.sub _ _ h))
    · exact .fTuple (k.sub _ _ h)
    · exact .kTuple hk ht
  | lst h _ => exact ⟨_, .base (.lst (k.sub _ _ h)), .inl ⟨_, rfl, rfl⟩⟩
  | lck h _ =>
    refine ⟨.type "list", ?_, .inl ⟨_, rfl, rfl⟩⟩
    rcases h with (h | ⟨o, h⟩) | ⟨o, its, n, hk, ht, _⟩
    · exact .base (.lst (k.sub _ _ h))
    · exact .base (.frz (k.sub _ _ h))
    · exact .kList hk ht
  | dic h _ => exact ⟨_, .base (.dK (k.sub _ _ h)), .inl ⟨_, rfl, rfl⟩⟩
  | dicT h _ => exact ⟨_, .base (.dT (k.sub _ _ h)), .inl ⟨_, rfl, rfl⟩⟩
  | fdic h _ => cases hnf
  | fdicT h _ => cases hnf
  | @ins a dx C c fs r hC h _ _ =>
    have ic := (hc c C hC).ins
    exact ⟨_, .base (.ins (k.sub _ _ h) ic.cl ic.ha ic.hn ic.htk ic.hm), .inr ⟨c, _, C, rfl, hC, rfl⟩⟩
theorem kit_bb (x : D) (c : Cl) (hc : ∀ e, c ≠ .own e) (K : PySem.W.Frag) {T : String} (h : tyN x = some T) : PySem.W.kitOne K (.type T) (.type (clN c)) = some (isD x c) := by
  cases x <;> simp only [tyN, Option.some.injEq] at h <;> first | cases h | subst h
  all_goals (cases c <;> first | exact absurd rfl (hc _) | exact kit_ty (r := true) (by decide +kernel) | exact kit_ty (r := false) (by decide +kernel))
theorem kit_all {x : D} (cok : ∀ c C, g.cl c = some C → COk g C) (hoo : ∀ c e C E, g.cl c = some C → g.cl e = some E → c ≠ e → PySem.W.kitOne g.K (.ref C) (.ref E) = some false) (c : Cl) (hcl : ∀ e, c = .own e → (g.cl e).isSome = true) {t : Value} (h : (∃ T, tyN x = some T ∧ t = .type T) ∨ ∃ c fs C, x = .ins c fs ∧ g.cl c = some C ∧ t = .ref C) :
    PySem.W.kitOne g.K t (clU g c) = some (isD x c) := by
  rcases h with ⟨T, h1, rfl⟩ | ⟨c', fs, C, rfl, hC, rfl⟩
  · cases c with
    | own e =>
      obtain ⟨E, hE⟩ := Option.isSome_iff_exists.mp (hcl e rfl)
      have := (cok e E hE).on x T h1
      have hu : clU g (.own e) = .ref E := by show Value.ref ((g.cl e).getD 0) = _; rw [hE]; rfl
      rw [hu]
      have : isD x (.own e) = false := by cases x <;> first | rfl | (simp [tyN] at h1)
      rw [this]; assumption
    | int => exact kit_bb x .int (by intro e z; cases z) g.K h1
    | str => exact kit_bb x .str (by intro e z; cases z) g.K h1
    | bool => exact kit_bb x .bool (by intro e z; cases z) g.K h1
    | tuple => exact kit_bb x .tuple (by intro e z; cases z) g.K h1
    | list => exact kit_bb x .list (by intro e z; cases z) g.K h1
    | dict => exact kit_bb x .dict (by intro e z; cases z) g.K h1
  · cases c with
    | own e =>
      obtain ⟨E, hE⟩ := Option.isSome_iff_exists.mp (hcl e rfl)
      have hu : clU g (.own e) = .ref E := by show Value.ref ((g.cl e).getD 0) = _; rw [hE]; rfl
      rw [hu]
      by_cases hce : c' = e
      · subst hce
        rw [hC] at hE; cases hE
        have : isD (.ins c' fs) (.own c') = true := by simp [isD]
        rw [this]; exact (cok c' C hC).ins.me
      · have : isD (.ins c' fs) (.own e) = false := by simp [isD, hce]
        rw [this]; exact hoo c' e C E hC hE hce
    | int => exact (cok c' C hC).no .int (by intro e z; cases z)
    | str => exact (cok c' C hC).no .str (by intro e z; cases z)
    | bool => exact (cok c' C hC).no .bool (by intro e z; cases z)
    | tuple => exact (cok c' C hC).no .tuple (by intro e z; cases z)
    | list => exact (cok c' C hC).no .list (by intro e z; cases z)
    | dict => exact (cok c' C hC).no .dict (by intro e z; cases z)
/-- what is known of all own classes -/
structure ClsOk (g : G) : Prop where
  c : ∀ c C, g.cl c = some C → COk g C
  oo : ∀ c e C E, g.cl c = some C → g.cl e = some E → c ≠ e → PySem.W.kitOne g.K (.ref C) (.ref E) = some false
theorem se_isi {cl : Cl} {x : Str} {ce : Expr} {ma : Sl → M VV} (hx : XOk g X n W) (co : ClsOk g) (hcl : ∀ e, cl = .own e → (g.cl e).isSome = true) (hxn : x = "isinstance") (hg : Gl X x) (hm : g.mg x = none) (ha : PE X a (tEv g ge W ma)) (hce : PE X ce (tC (clV g cl)))
    (he : starEach [a, ce] X.env = (false, eval a X.env) :: starEach [ce] X.env) (he2 : starEach [ce] X.env = (false, eval ce X.env) :: starEach [] X.env) (hpl : (backTo pos (starEach [ce] X.env)).any (·.1) = false) :
    PE X (.Call (.Name x p) [a, ce] [] pos) (tEv g ge W fun φ => bnd (ma φ) fun u => bnd (isVV u cl) fun k => ret (.d (.bl k))) := by
  have cr : CallR X (.builtin "isinstance") (rIsi g.K) := hx.K ▸ call_isi
  have hm' : X.mg x = none := by rw [hx.mg]; exact hm
  subst hxn
  refine (pe_callB cr hg hm' (by decide +kernel) (pa_cons ha (pa_cons hce pa_nil he2) he) (by decide) (by decide) he hpl).weak fun σ H Q ⟨S, φ, β, e, k, sl, q⟩ => ?_
  subst e
  refine step_v (Qk := fun S => Kv g S Q) grow_v k sl q fun u x β1 S1 l1 k1 r1 sl1 q1 => ?_
  show rIsi g.K [u, clV g cl] S1.H Q
  have fin : ∀ {t : Value} {y : D}, TyX g.K S1.H u t → ((∃ T, tyN y = some T ∧ t = .type T) ∨ ∃ c fs C, y = .ins c fs ∧ g.cl c = some C ∧ t = .ref C) → Q (.bl (isD y cl)) S1.H → rIsi g.K [u, clV g cl] S1.H Q := fun {t y} ty h q => by
    exact ⟨u, _, t, _, isD y cl, rfl, clsV g cl, ty, kit_all co.c co.oo cl hcl h, q⟩
  cases x with
  | d y =>
    have q2 := out_bnd q1
    simp only [isVV] at q2
    cases hf : isF y with
    | true => rw [hf, if_pos rfl] at q2; exact q2.elim
    | false =>
      rw [hf, if_neg (by decide)] at q2
      obtain ⟨t, ty, h⟩ := tyX_of hf k1 co.c r1.d'
      exact fin ty h (q2 (.bl (isD y cl)) S1 (.refl S1) k1 (.d (.bl _)))
  | box m =>
    cases r1 with
    | @box _ p' e3 =>
      obtain ⟨bx, e4, hb⟩ := k1.boxAt e3
      have q2 := out_bnd q1
      simp only [isVV, e4] at q2
      have c0 : CtOk g S1.F S1.H p' bx.ct := by
        unfold BxOk at hb
        split at hb
        · exact hb.2
        · exact hb.mono (.refl _) k1.same
      have hf : isF (ctZ bx.ct) = false := by
        cases hf : isF (ctZ bx.ct) with
        | false => rfl
        | true => rw [hf, if_pos rfl] at q2; exact q2.elim
      rw [hf, if_neg (by decide)] at q2
      have q3 : Q (.bl (isD (ctZ bx.ct) cl)) S1.H := q2 (.bl (isD (ctZ bx.ct) cl)) S1 (.refl S1) k1 (.d (.bl _))
      obtain ⟨ct, lv⟩ := bx
      cases ct with
      | fdic t kvs => cases hf
      | lst xs => obtain ⟨vs, h1, h2⟩ := c0; exact fin (.base (.lst h1)) (.inl ⟨_, rfl, rfl⟩) q3
      | dic t kvs =>
        cases t with
        | false => obtain ⟨vs, h1, h2⟩ := c0; exact fin (.base (.dK h1)) (.inl ⟨_, rfl, rfl⟩) q3
        | true => obtain ⟨vs, h1, h2⟩ := c0; exact fin (.base (.dT h1)) (.inl ⟨_, rfl, rfl⟩) q3
      | obj c fs =>
        obtain ⟨C, dx, r, hC, h1, h2, h3⟩ := c0
        have ic := (co.c c C hC).ins
        exact fin (.base (.ins h1 ic.cl ic.ha ic.hn ic.htk ic.hm)) (.inr ⟨c, _, C, rfl, hC, rfl⟩) q3
  | clo l cs => exact (out_bnd q1).elim
  | bxs _ => exact (out_bnd q1).elim
/-! ### places, slices -/
theorem atI_of {S : Sx} {us : List V} {xs : List D} {i : Int} {z : D} (r : Reps g.K g.cl S.F us xs) (h : atI xs i = some z) : ∃ v, atI us i = some v ∧ Rep g.K g.cl S.F v z := by
  unfold atI at h ⊢
  rw [r.len]
  cases e : ixN xs.length i with
  | none => rw [e] at h; cases h
  | some j =>
    rw [e] at h
    exact r.get' h
/-- a dict's value at a key -/
def getD (t : Bool) (kvs : List (D × D)) (y : D) : M D := match t with
  | false => match keyD y with
    | some k => M.opt (lookD k kvs)
    | none => bad
  | true => match keyT y with
    | some k => M.opt (lookT k kvs)
    | none => bad
theorem se_ix {ma mi : Sl → M VV} (hx : XOk g X n W) (ha : PE X a (tEv g ge W ma)) (hb : PE X b (tEv g ge W mi)) (hs : PlainIx b) :
    PE X (.Subscript a b pos) (tEv g ge W fun φ => bnd (ma φ) fun u => bnd (mi φ) fun w => bnd (dataOf w) fun y => bnd (getIx u y) fun z => ret (.d z)) := by
  have h1 : PE X (.Subscript a b pos) (tOp (rIx g.K) (tEv g ge W ma) (tEv g ge W mi)) := hx.K ▸ pe_ix ix_seq ha hb hs
  have h2 : PE X (.Subscript a b pos) (tDGet (tEv g ge W ma) (tEv g ge W mi)) := pe_dget (by have := hx.room.un; omega) ha hb hs
  refine (h1.or h2).weak fun σ H Q ⟨S, φ, β, e, k, sl, q⟩ => ?_
  subst e
  -- which of the two: by what is had
  have main : ∀ (R1 R2 : V → V → Hp → Prop), (∀ u v x y β2 S2, OkS g β2 S2 → DR g S2 u x → Rep g.K g.cl S2.F v y → (∀ t kvs, x ≠ .dic t kvs ∧ x ≠ .fdic t kvs) → Out (bnd (M.opt (ixD x y)) (fun z => ret (VV.d z)) β2) (Kv g S2 Q) (Ke g ge S2 W σ) → R1 u v S2.H) →
      (∀ u v t kvs y β2 S2, OkS g β2 S2 → (DR g S2 u (.dic t kvs) ∨ DR g S2 u (.fdic t kvs)) → Rep g.K g.cl S2.F v y → Out (bnd (getD t kvs y) (fun z => ret (VV.d z)) β2) (Kv g S2 Q) (Ke g ge S2 W σ) → R2 u v S2.H) →
      (tEv g ge W ma σ S.H fun u H1 => tEv g ge W mi σ H1 fun v H2 => R1 u v H2) ∨ (tEv g ge W ma σ S.H fun u H1 => tEv g ge W mi σ H1 fun v H2 => R2 u v H2) := by
    intro R1 R2 hr1 hr2
    have q0 := q
    -- the values themselves
    cases em : ma φ β with
    | bad => have := out_bnd q0; rw [em] at this; exact this.elim
    | exc e s => exact .inl ⟨S, φ, β, rfl, k, sl, by have := out_bnd q0; rw [em] at this ⊢; exact this⟩
    | ok x β1 =>
      have q1 := out_bnd q0
      rw [em] at q1
      cases ei : mi φ β1 with
      | bad => have := out_bnd q1; rw [ei] at this; exact this.elim
      | exc e s =>
        refine .inl ⟨S, φ, β, rfl, k, sl, ?_⟩
        rw [em]
        intro u S1 l1 k1 r1
        refine ⟨S1, φ, β1, rfl, k1, sl.mono l1, ?_⟩
        have := out_bnd q1
        rw [ei] at this ⊢
        exact Ke.mono this l1
      | ok y β2 =>
        have q2 := out_bnd q1
        rw [ei] at q2
        obtain ⟨y', rfl, q3⟩ := out_data (out_bnd q2)
        have q4 := out_bnd q3
        unfold getIx at q4
        obtain ⟨x', q5, hxx⟩ := out_deref (g := g) (S := S) (out_bnd q4)
        have dr : ∀ {S2 : Sx} {u : V}, OkS g β2 S2 → RepV g S2 u x → DR g S2 u x' := fun {S2 u} k2 r2 => by
          rcases hxx with rfl | ⟨m, bx, rfl, e1, e2⟩
          · exact .of r2.d'
          · have hd : Out (deref (.box m) β2) (fun z _ => z = x') (fun _ _ => False) := by
              unfold deref; simp only [e1, e2]; rfl
            obtain ⟨z, hz, d⟩ := DR.get k2 r2 hd
            rw [hz] at d; exact d
        have st : ∀ (R : V → V → Hp → Prop), (∀ u v S2, OkS g β2 S2 → Le S S2 → DR g S2 u x' → Rep g.K g.cl S2.F v y' → R u v S2.H) → tEv g ge W ma σ S.H fun u H1 => tEv g ge W mi σ H1 fun v H2 => R u v H2 := fun R hR => by
          refine ⟨S, φ, β, rfl, k, sl, ?_⟩
          rw [em]
          intro u S1 l1 k1 r1
          refine ⟨S1, φ, β1, rfl, k1, sl.mono l1, ?_⟩
          rw [ei]
          intro v S2 l2 k2 r2
          exact hR u v S2 k2 (l1.trans l2) (dr k2 (r1.mono l2)) r2.d'
        by_cases hdic : ∃ t kvs, x' = .dic t kvs ∨ x' = .fdic t kvs
        · obtain ⟨t, kvs, hdk⟩ := hdic
          refine .inr (st R2 fun u v S2 k2 l d r => hr2 u v t kvs y' β2 S2 k2 (hdk.elim (fun z => .inl (z ▸ d)) fun z => .inr (z ▸ d)) r ?_)
          have q6 : Out (getD t kvs y' β2) (fun a s' => Out (ret (VV.d a) s') (Kv g S Q) (Ke g ge S W σ)) (Ke g ge S W σ) := by
            rcases hdk with rfl | rfl
            · cases t with
              | false => exact q5
              | true => exact q5
            · cases t with
              | false => exact q5
              | true => exact q5
          have q7 : Out (bnd (getD t kvs y') (fun z => ret (VV.d z)) β2) (Kv g S Q) (Ke g ge S W σ) := by
            unfold bnd
            revert q6
            generalize getD t kvs y' β2 = rr
            intro q6
            cases rr <;> exact q6
          exact q7.imp (fun _ _ z => z.mono l) fun _ _ z => z.mono l
        · refine .inl (st R1 fun u v S2 k2 l d r => hr1 u v x' y' β2 S2 k2 d r (fun t kvs => ⟨fun z => hdic ⟨t, kvs, .inl z⟩, fun z => hdic ⟨t, kvs, .inr z⟩⟩) ?_)
          have q6 : Out (M.opt (ixD x' y') β2) (fun a s' => Out (ret (VV.d a) s') (Kv g S Q) (Ke g ge S W σ)) (Ke g ge S W σ) := by
            cases x' with
            | dic t kvs => exact absurd ⟨t, kvs, .inl rfl⟩ hdic
            | fdic t kvs => exact absurd ⟨t, kvs, .inr rfl⟩ hdic
            | _ => exact q5
          have q7 : Out (bnd (M.opt (ixD x' y')) (fun z => ret (VV.d z)) β2) (Kv g S Q) (Ke g ge S W σ) := by
            unfold bnd
            cases e : M.opt (ixD x' y') β2 <;> rw [e] at q6 <;> exact q6
          exact q7.imp (fun _ _ z => z.mono l) fun _ _ z => z.mono l
  refine main (fun u v H2 => rIx g.K u v H2 Q) (fun u v H2 => ∃ a v', u = .ref a ∧ DGet H2 a v (some v') ∧ Q v' H2) ?_ ?_
  · intro u v x y β2 S2 k2 d r hn q
    obtain ⟨z, e, q'⟩ := out_opt (out_bnd q)
    have q' : Kv g S2 Q (.d z) β2 := q'
    unfold ixD at e
    split at e
    · cases r
      obtain ⟨pp, vs, rfl, h1, rr⟩ := d.tup'
      obtain ⟨v', e1, rv⟩ := atI_of rr e
      exact .inr (.inl ⟨pp, vs, _, v', rfl, rfl, seqT k2.same h1, e1, q'.d k2 rv⟩)
    · cases r
      obtain ⟨pp, vs, rfl, h1, rr⟩ := d.lst' k2
      obtain ⟨v', e1, rv⟩ := atI_of rr e
      exact .inl ⟨pp, vs, _, v', rfl, rfl, SqL.of h1, e1, q'.d k2 rv⟩
    · cases r
      obtain ⟨pp, vs, rfl, h1, rr⟩ := d.lck'
      obtain ⟨v', e1, rv⟩ := atI_of rr e
      exact .inl ⟨pp, vs, _, v', rfl, rfl, k2.same.seq h1, e1, q'.d k2 rv⟩
    · cases r
      split at e
      · rename_i hs
        obtain ⟨ch, ec, rfl⟩ := Option.map_eq_some_iff.mp e
        rw [d.str']
        exact .inr (.inr ⟨_, _, ch, rfl, rfl, small_line hs, ec, q'.d k2 (.str _)⟩)
      · cases e
    · cases e
  · intro u v t kvs y β2 S2 k2 d r q
    have q1 := out_bnd q
    cases t with
    | false =>
      have q1 : Out ((match keyD y with | some k => M.opt (lookD k kvs) | none => bad) β2) _ _ := q1
      cases hk : keyD y with
      | none => rw [hk] at q1; exact q1.elim
      | some kk =>
        rw [hk] at q1
        obtain ⟨z, e, q2⟩ := out_opt q1
        have q2 : Kv g S2 Q (.d z) β2 := q2
        obtain ⟨pp, rr, rfl, h1, rk⟩ : ∃ pp rr, u = .ref pp ∧ Rd S2.H pp (.dK rr) ∧ RepK g.K g.cl S2.F rr kvs := by
          rcases d with d | d
          · obtain ⟨pp, rr, e1, h1, rk⟩ := d.dic' k2; exact ⟨pp, rr, e1, .inl h1, rk⟩
          · obtain ⟨pp, od, rr, e1, h1, rk⟩ := d.fdic' k2; exact ⟨pp, rr, e1, .inr ⟨od, h1⟩, rk⟩
        rcases rk.look kk with ⟨e1, e2⟩ | ⟨v', x', e1, e2, rv⟩
        · rw [e2] at e; cases e
        · rw [e2] at e; cases e
          refine ⟨pp, v', rfl, ?_, q2.d k2 rv⟩
          rw [keyD_V (.of r) hk, ← e1]
          exact .inl ⟨rr, kk, h1, rfl, rfl⟩
    | true =>
      have q1 : Out ((match keyT y with | some k => M.opt (lookT k kvs) | none => bad) β2) _ _ := q1
      cases hk : keyT y with
      | none => rw [hk] at q1; exact q1.elim
      | some kk =>
        rw [hk] at q1
        obtain ⟨z, e, q2⟩ := out_opt q1
        have q2 : Kv g S2 Q (.d z) β2 := q2
        obtain ⟨pp, rr, rfl, h1, rk⟩ : ∃ pp rr, u = .ref pp ∧ Rd S2.H pp (.dT rr) ∧ RepT g.K g.cl S2.F rr kvs := by
          rcases d with d | d
          · obtain ⟨pp, rr, e1, h1, rk⟩ := d.dicT' k2; exact ⟨pp, rr, e1, .inl h1, rk⟩
          · obtain ⟨pp, od, rr, e1, h1, rk⟩ := d.fdicT' k2; exact ⟨pp, rr, e1, .inr ⟨od, h1⟩, rk⟩
        rcases rk.look kk with ⟨e1, e2⟩ | ⟨v', x', e1, e2, rv⟩
        · rw [e2] at e; cases e
        · rw [e2] at e; cases e
          obtain ⟨b, rfl, hb⟩ := keyT_V k2 (.of r) hk
          refine ⟨pp, v', rfl, ?_, q2.d k2 rv⟩
          rw [← e1]
          exact .inr ⟨rr, kk, b, h1, rfl, hb, rfl⟩
theorem so_no : PO X none (tEvO g ge W fun _ => ret none) := by
  refine ⟨fun pins s σ H Q I ⟨S, φ, β, e, k, sl, q⟩ => ?_⟩
  subst e
  exact po_none.run pins s σ S.H Q I (q S (.refl S) k)
end
end VI

set_option maxHeartbeats 2000000
namespace VI
section
open PySem PySem.Spec PyProof.Rows HT
variable {prog : Program} {w : World} {A : Around} {E : Value → Shared → Prop} {s : Shared}
theorem fm_some {α β : Type} {f : α → Option β} {g : α → β} : ∀ {l : List α}, (∀ a ∈ l, f a = some (g a)) → l.filterMap f = l.map g
  | [], _ => rfl
  | a :: l, h => by
    rw [List.filterMap_cons, h a (List.mem_cons_self ..), List.map_cons, fm_some fun b hb => h b (List.mem_cons_of_mem _ hb)]
theorem rev_pick (xs : Array Value) : ((List.range xs.size).filterMap fun (m : Nat) => xs[((xs.size : Int) - 1 + (m : Int) * (-1)).toNat]?).toArray = xs.toList.reverse.toArray := by
  congr 1
  apply List.ext_getElem?
  intro i
  have e : ∀ m ∈ List.range xs.size, xs[((xs.size : Int) - 1 + (m : Int) * (-1)).toNat]? = some (xs.toList.reverse[m]?.getD .none) := by
    intro m hm
    have hm' := List.mem_range.mp hm
    have e1 : ((xs.size : Int) - 1 + (m : Int) * (-1)).toNat = xs.size - 1 - m := by omega
    have h2 : m < xs.toList.reverse.length := by simpa using hm'
    rw [e1, List.getElem?_eq_getElem h2, List.getElem_reverse]
    rw [Array.getElem?_eq_getElem (by omega)]
    simp
  have e2 : (List.range xs.size).filterMap (fun (m : Nat) => xs[((xs.size : Int) - 1 + (m : Int) * (-1)).toNat]?) = (List.range xs.size).map fun m => xs.toList.reverse[m]?.getD .none := by
    exact fm_some e
  rw [e2, List.getElem?_map]
  by_cases h : i < xs.size
  · rw [List.getElem?_range h]
    have h2 : i < xs.toList.reverse.length := by simpa using h
    rw [Option.map_some, List.getElem?_eq_getElem h2]; rfl
  · rw [List.getElem?_eq_none (by simpa using h), List.getElem?_eq_none (by simpa using h)]; rfl
theorem sliceApplied_rev {sl : Addr} {vl vu vs : Value} {n : Nat} {Q : Int × Int × Nat → Shared → Prop} (hs : s.heap.IsSliceOf sl vl vu vs) (pl : IsPart vl none) (pu : IsPart vu none) (ps : IsPart vs (some (-1)))
    (h : Q ((n : Int) - 1, -1, n) s) : wpAny (model prog w) A (Builtin.Slice.sliceApplied (.ref sl) (pure (n : Int))) Q E s := by
  obtain ⟨os, hos, hcs, hds⟩ := id hs
  unfold Builtin.Slice.sliceApplied Builtin.Slice.sliceFields
  refine wpAny_bind (wpAny_bind (wpAny_field hos hds (x := vl) rfl (wpAny_bind (wpAny_field hos hds (x := vu) rfl (wpAny_bind (wpAny_field hos hds (x := vs) rfl (wpAny_pure ?_)))))))
  refine wpAny_bind (slicePart_ ps ?_)
  show wpAny _ _ (if ((-1 : Int) == 0) = true then _ else _) _ _ s
  rw [if_neg (by decide)]
  refine wpAny_bind (slicePart_ pl (wpAny_bind (slicePart_ pu (wpAny_bind (wpAny_pure ?_)))))
  have e1 : Builtin.Slice.sliceAdjust none none (-1) (n : Int) = ((n : Int) - 1, -1) := rfl
  have e2 : Builtin.Slice.slicePlaces ((n : Int) - 1) (-1) (-1) = n := by
    unfold Builtin.Slice.slicePlaces
    have h1 : ¬ ((-1 : Int) > 0) := by decide
    simp only [h1, if_false]
    have h3 : ((n : Int) - 1 - -1 - 1) / (- -1) = (n : Int) - 1 := by
      rw [show (- -1 : Int) = 1 by decide, Int.ediv_one]; omega
    rw [h3]
    split <;> omega
  show wpAny _ _ (match Builtin.Slice.sliceAdjust none none (-1) (n : Int) with | (lo, hi) => pure (lo, (-1 : Int), Builtin.Slice.slicePlaces lo hi (-1))) _ _ s
  rw [e1]
  show wpAny _ _ (pure ((n : Int) - 1, (-1 : Int), Builtin.Slice.slicePlaces ((n : Int) - 1) (-1) (-1))) _ _ s
  rw [e2]
  exact wpAny_pure h
theorem getItem_tuple_rev {t sl : Addr} {items : Array Value} {vl vu vs : Value} {Q : Value → Shared → Prop} (ht : IsTup s.heap t items) (hs : s.heap.IsSliceOf sl vl vu vs) (pl : IsPart vl none) (pu : IsPart vu none) (ps : IsPart vs (some (-1)))
    (h : Q (.ref s.heap.objs.size) { s with heap := s.heap.push { cls := .type "tuple", data := .seq items.toList.reverse.toArray } })
    (hsz : items.size ≤ sizeLine) : wpAny (model prog w) A (getItem (.ref t) (.ref sl)) Q E s := by
  have hok : sizeOk (.seq items.toList.reverse.toArray) := by
    show items.toList.reverse.toArray.size ≤ sizeLine
    simpa using hsz
  obtain ⟨os, hos, hcs, hds⟩ := id hs
  have hTs : s.TypeIs (.ref sl) "slice" := ⟨os, hos, hcs⟩
  unfold getItem
  try with_reducible refine wpAny_holding ?_
  first | refine wpAny_bind (wpAny_pure ?_) | skip
  refine wpAny_bind (wpAny_sequenceKey ht.typeIs (by decide) ?_)
  refine wpAny_bind (wpAny_callSpecial?_slot (name := Str.ofString "__getitem__") ht.typeIs PyProof.Rows.slot_tuple_getitem
    (wpAny_call_entry PyProof.Rows.slot_tuple_getitem ht.typeIs entry_tuple_getitem ?_ (args_tuple_getitem _ _)))
  show wpAny _ _ (Builtin.Tuple.tupleItemsOf (.ref t) >>= _) _ _ s
  refine wpAny_bind (tupleItemsOf_ ht ?_)
  refine wpAny_bind (wpAny_typeOf hTs ?_)
  rw [if_pos (by decide)]
  refine wpAny_bind (sliceApplied_rev hs pl pu ps ?_)
  have hno : ¬ (((items.size : Int) - 1 == 0 && (-1 : Int) == 1 && items.size == items.size) = true) := by
    rw [show ((-1 : Int) == 1) = false by decide, Bool.and_false, Bool.false_and]; decide
  show wpAny _ _ (if ((items.size : Int) - 1 == 0 && (-1 : Int) == 1 && items.size == items.size) = true then _ else _) _ _ s
  rw [if_neg hno, rev_pick]
  first
    | exact wpAny_bind (m := Builtin.Tuple.tupleExact _) (wpAny_newObj_type (wpAny_pure ⟨_, rfl, wpAny_pure h⟩) hok)
    | exact wpAny_bind (m := Builtin.Tuple.tupleExact _) (wpAny_newObj_type (wpAny_bind (wpAny_pure (wpAny_pure ⟨_, rfl, wpAny_pure h⟩))) hok)
    | exact wpAny_bind (wpAny_bind (m := Builtin.Tuple.tupleExact _) (wpAny_newObj_type (wpAny_pure (wpAny_pure ⟨_, rfl, wpAny_pure h⟩)) hok))
    | exact wpAny_bind (wpAny_bind (m := Builtin.Tuple.tupleExact _) (wpAny_newObj_type (wpAny_pure ⟨_, rfl, wpAny_pure h⟩) hok))
end
open PySem L2 M PySem.Spec PyProof.Rows
section
variable {g : G} {ge : GE} {X : Cx} {n : Nat} {W : WX} {a : Expr} {pos : Pos}
def tRevT (K : PySem.W.Frag) (te : TE) : TE := fun σ H Q => te σ H fun x H1 => ∃ a xs, x = .ref a ∧ SqT K H1 a xs ∧ ∀ p, H1 p = none → Q (.ref p) (upd H1 p (.tup xs.reverse))
theorem pe_revT {te : TE} {k : Nat} {p1 p2 p3 : Pos} (he : PE X a te) : PE X (.Subscript a (.Slice none none (some (.UnaryOp .USub (.Constant (.int 1) k p1) p2)) p3) pos) (tRevT X.K te) := by
  refine ⟨fun pins s σ H Q I h => ?_⟩
  refine Subscript_ (thn (he.run pins s σ H _ I h) fun v s1 ⟨x, H1, I1, r1, q1⟩ => ?_)
  obtain ⟨b, xs, ex, hx, q⟩ := q1
  subst ex
  cases r1
  have hst : PO X (some (.UnaryOp .USub (.Constant (.int 1) k p1) p2)) (tPart (tUn (rU fun i => .int (-i)) (tC (.int 1)))) := po_some (pe_un un_neg pe_int)
  refine wpAny_Slice (thn (po_none.run pins s1 σ H1 (fun o H2 => o = none ∧ H2 = H1) I1 ⟨rfl, rfl⟩) fun vl s2 ⟨l, H2, I2, pl, el, e2⟩ => ?_)
  subst el e2
  refine thn (po_none.run pins s2 σ H2 (fun o H3 => o = none ∧ H3 = H2) I2 ⟨rfl, rfl⟩) fun vu s3 ⟨u, H3, I3, pu, eu, e3⟩ => ?_
  subst eu e3
  refine thn (hst.run pins s3 σ H3 (fun o H4 => o = some (-1) ∧ H4 = H3) I3 ⟨1, rfl, -1, rfl, rfl, rfl⟩) fun vs s4 ⟨o, H4, I4, ps, eo, e4⟩ => ?_
  subst eo e4
  have I5 : L2.Inv X pins σ H4 { s4 with heap := s4.heap.push { cls := .type "slice", data := .fields #[vl, vu, vs] } } := I4.kept (t' := s4.toks) fun b ob q => Heap.get?_push_of_some _ q
  obtain ⟨its, r, ht, hz⟩ := I5.tuple hx
  have hlen := r.length
  show wpAny (model X.prog X.w) X.A (subscriptTail a (.Slice none none (some (.UnaryOp .USub (.Constant (.int 1) k p1) p2)) p3) (.ref b) (.ref s4.heap.objs.size)) (EP X pins σ Q) X.xe { s4 with heap := s4.heap.push { cls := .type "slice", data := .fields #[vl, vu, vs] } }
  refine tail_any (ops := [.ref b, .ref s4.heap.objs.size]) ht.typeIs (PyProof.Rows.slot_tuple_getitem.lookup) ?_ (by with_unfolding_all rfl)
  refine getItem_tuple_rev ht (Heap.IsSliceOf.new _ vl vu vs) pl pu ps ?_ (by rw [List.size_toArray]; omega)
  refine ⟨.ref _, _, I5.laid (t' := s4.toks) (o := .tup xs.reverse) (fun b ob q => Heap.get?_push_of_some _ q) (Nat.le_refl _) ?_, rfl, q _ (I5.hok.fresh (Nat.le_refl _))⟩
  exact ⟨by rw [List.length_reverse]; exact hz, _, by simpa using r.reverse, IsTup.new _ _⟩
theorem Reps.rev {K : PySem.W.Frag} {cl : Nat → Option Addr} {F : Hp} : ∀ {vs : List V} {xs : List D}, Reps K cl F vs xs → Reps K cl F vs.reverse xs.reverse
  | _, _, .nil => .nil
  | _ :: vs, _ :: xs, .cons h t => by
    rw [List.reverse_cons, List.reverse_cons]
    exact t.rev.append (.cons h .nil)
theorem se_rev {ma : Sl → M VV} {k : Nat} {p1 p2 p3 : Pos} (hx : XOk g X n W) (ha : PE X a (tEv g ge W ma)) : PE X (.Subscript a (.Slice none none (some (.UnaryOp .USub (.Constant (.int 1) k p1) p2)) p3) pos) (tEv g ge W fun φ => bnd (ma φ) fun u => bnd (deref u) fun x => bnd (M.opt (revD x)) fun z => ret (.d z)) := by
  refine (pe_revT ha).weak fun σ H Q ⟨S, φ, β, e, k, sl, q⟩ => ?_
  subst e
  refine step_v (Qk := fun S => Kv g S Q) grow_v k sl q fun u x β1 S1 l1 k1 r1 sl1 q1 => ?_
  obtain ⟨y, q2, d⟩ := DR.get k1 r1 (out_bnd q1)
  obtain ⟨z, e, q3⟩ := out_opt (out_bnd q2)
  cases y with
  | tup xs =>
    cases e
    obtain ⟨p, vs, rfl, h1, rr⟩ := d.tup'
    exact ⟨p, vs, rfl, hx.K ▸ seqT k1.same h1, fun l hl => Kv.tup q3 k1 hl rr.rev⟩
  | _ => cases e
theorem se_tupS {ma : Sl → M VV} {es : List Expr} {ms : Sl → M (List VV)} {x1 : Nat} {sp : Pos} (hx : XOk g X n W) (ha : PE X a (tEv g ge W ma)) (h : PA X es (tEvA g ge W ms)) (hs : starEach (.Starred a sp :: es) X.env = (true, eval a X.env) :: starEach es X.env) :
    PE X (.Tuple (.Starred a sp :: es) x1 pos) (tEv g ge W fun φ => bnd (ma φ) fun u => bnd (deref u) fun x => bnd (M.opt (seqD x)) fun xs => bnd (ms φ) fun vs => bnd (datasOf vs) fun ys => if small (xs.length + ys.length) then ret (.d (.tup (xs ++ ys))) else bad) := by
  refine (pe_tup (StX.pa_star ha h hs)).weak fun σ H Q ⟨S, φ, β, e, k, sl, q⟩ => ?_
  subst e
  refine step_v (Qk := fun S => Kv g S Q) grow_v k sl q fun u x β1 S1 l1 k1 r1 sl1 q1 => ?_
  obtain ⟨y, q2, d⟩ := DR.get k1 r1 (out_bnd q1)
  obtain ⟨xs, e, q3⟩ := out_opt (out_bnd q2)
  have key : ∃ p vs, u = .ref p ∧ (SqT X.K S1.H p vs ∨ SqL X.K S1.H p vs) ∧ Reps g.K g.cl S1.F vs xs ∧ small xs.length = true := by
    cases y with
    | tup zs =>
      have e : (if small zs.length = true then some zs else none) = some xs := e
      split at e <;> cases e
      rename_i hz
      obtain ⟨p, vs, rfl, h1, rr⟩ := d.tup'
      exact ⟨p, vs, rfl, .inl (hx.K ▸ seqT k1.same h1), rr, hz⟩
    | lst zs =>
      have e : (if small zs.length = true then some zs else none) = some xs := e
      split at e <;> cases e
      rename_i hz
      obtain ⟨p, vs, rfl, h1, rr⟩ := d.lst' k1
      exact ⟨p, vs, rfl, .inr (SqL.of h1), rr, hz⟩
    | lck zs =>
      have e : (if small zs.length = true then some zs else none) = some xs := e
      split at e <;> cases e
      rename_i hz
      obtain ⟨p, vs, rfl, h1, rr⟩ := d.lck'
      exact ⟨p, vs, rfl, .inr (hx.K ▸ k1.same.seq h1), rr, hz⟩
    | _ => cases e
  obtain ⟨p, vs, rfl, hq, rr, hz⟩ := key
  refine ⟨p, vs, rfl, hq, ?_⟩
  refine step_a (Qk := fun S => Kv g S Q) (S := S1) grow_v k1 sl1 q3 fun us ws β2 S2 l2 k2 r2 sl2 q4 => ?_
  obtain ⟨ys, rs, q5⟩ := out_datas r2 (out_bnd q4)
  obtain ⟨hsm, q6⟩ := out_if q5
  have q6 : Kv g S2 Q (.d (.tup (xs ++ ys))) β2 := q6
  have rall := (rr.mono l2.F).append rs
  exact ⟨by rw [rall.len, List.length_append]; exact small_line hsm, fun p hp => q6.tup k2 hp rall⟩
theorem seq_at {S : Sx} {β : Sto} {u : V} {y : D} {xs : List D} (hx : XOk g X n W) (k : OkS g β S) (d : DR g S u y) (e : seqD y = some xs) : ∃ p vs, u = .ref p ∧ (SqT X.K S.H p vs ∨ SqL X.K S.H p vs) ∧ Reps g.K g.cl S.F vs xs := by
  cases y with
  | tup zs =>
    have e : (if small zs.length = true then some zs else none) = some xs := e
    split at e <;> cases e
    obtain ⟨p, vs, rfl, h1, rr⟩ := d.tup'
    exact ⟨p, vs, rfl, .inl (hx.K ▸ seqT k.same h1), rr⟩
  | lst zs =>
    have e : (if small zs.length = true then some zs else none) = some xs := e
    split at e <;> cases e
    obtain ⟨p, vs, rfl, h1, rr⟩ := d.lst' k
    exact ⟨p, vs, rfl, .inr (SqL.of h1), rr⟩
  | lck zs =>
    have e : (if small zs.length = true then some zs else none) = some xs := e
    split at e <;> cases e
    obtain ⟨p, vs, rfl, h1, rr⟩ := d.lck'
    exact ⟨p, vs, rfl, .inr (hx.K ▸ k.same.seq h1), rr⟩
  | _ => cases e
theorem se_tup2S {b : Expr} {ma mb : Sl → M VV} {x1 : Nat} {sp sp2 : Pos} (hx : XOk g X n W) (ha : PE X a (tEv g ge W ma)) (hb : PE X b (tEv g ge W mb)) (hs : starEach [.Starred a sp, .Starred b sp2] X.env = (true, eval a X.env) :: starEach [.Starred b sp2] X.env) (hs2 : starEach [.Starred b sp2] X.env = (true, eval b X.env) :: starEach [] X.env) :
    PE X (.Tuple [.Starred a sp, .Starred b sp2] x1 pos) (tEv g ge W fun φ => bnd (ma φ) fun u => bnd (deref u) fun x => bnd (M.opt (seqD x)) fun xs => bnd (mb φ) fun v => bnd (deref v) fun y => bnd (M.opt (seqD y)) fun ys => if small (xs.length + ys.length) then ret (.d (.tup (xs ++ ys))) else bad) := by
  refine (pe_tup (StX.pa_star ha (StX.pa_star hb pa_nil hs2) hs)).weak fun σ H Q ⟨S, φ, β, e, k, sl, q⟩ => ?_
  subst e
  refine step_v (Qk := fun S => Kv g S Q) grow_v k sl q fun u x β1 S1 l1 k1 r1 sl1 q1 => ?_
  obtain ⟨y, q2, d⟩ := DR.get k1 r1 (out_bnd q1)
  obtain ⟨xs, e, q3⟩ := out_opt (out_bnd q2)
  obtain ⟨p, vs, rfl, hq, rr⟩ := seq_at hx k1 d e
  refine ⟨p, vs, rfl, hq, ?_⟩
  refine step_v (Qk := fun S => Kv g S Q) (S := S1) grow_v k1 sl1 q3 fun u2 x2 β2 S2 l2 k2 r2 sl2 q4 => ?_
  obtain ⟨y2, q5, d2⟩ := DR.get k2 r2 (out_bnd q4)
  obtain ⟨ys, e2, q6⟩ := out_opt (out_bnd q5)
  obtain ⟨p2, vs2, rfl, hq2, rr2⟩ := seq_at hx k2 d2 e2
  refine ⟨p2, vs2, rfl, hq2, ?_⟩
  obtain ⟨hsm, q7⟩ := out_if q6
  have q7 : Kv g S2 Q (.d (.tup (xs ++ ys))) β2 := q7
  have rall := (rr.mono l2.F).append rr2
  show (vs ++ (vs2 ++ [])).length ≤ sizeLine ∧ ∀ (p : Addr), S2.H p = none → Q (V.ref p) (upd S2.H p (HO.tup (vs ++ (vs2 ++ []))))
  rw [List.append_nil]
  exact ⟨by rw [rall.len, List.length_append]; exact small_line hsm, fun p hp => q7.tup k2 hp rall⟩
end
end VI

set_option maxHeartbeats 2000000
/-! V8d: dicts with tuple keys: values summed, items walked, a display of one pair, locked behind the evaluation. -/
namespace L2
open PySem PySem.Spec PyProof.Rows PySem.W
/-- the values of the dict at d -/
def ValsAt (H : Hp) (d : Addr) (vs : List V) : Prop := (∃ kvs, Rd H d (.dK kvs) ∧ kvs.map (·.2) = vs) ∨ ∃ kvs, Rd H d (.dT kvs) ∧ kvs.map (·.2) = vs
theorem ValsAt.isD {H : Hp} {d : Addr} {vs : List V} (h : ValsAt H d vs) : IsD H d := h.elim (fun ⟨kvs, a, _⟩ => .inl ⟨kvs, a⟩) fun ⟨kvs, a, _⟩ => .inr ⟨kvs, a⟩
section
variable {X : Cx} {pins : List (Addr × Obj)} {σ : St} {H : Hp} {s : Shared} {d : Addr}
theorem vals_raw {vs : List V} (I : Inv X pins σ H s) (h : ValsAt H d vs) : ∃ es ep, s.heap.DictRaw d es ep ∧ es.size = vs.length ∧ ∀ i (hi : i < es.size) v, vs[i]? = some v → RelV v es[i].val := by
  rcases h with ⟨kvs, e, rfl⟩ | ⟨kvs, e, rfl⟩
  · obtain ⟨z, hd, ws, rel, dd⟩ := dk_rd I.hok e
    obtain ⟨es, ep, hr, hsz, hg⟩ := dd.raw
    have l : kvs.length = ws.length := Paired.length rel
    refine ⟨es, ep, hr, by rw [List.length_map]; omega, fun i hi v hv => ?_⟩
    rw [List.getElem?_map] at hv
    cases hk : kvs[i]? with
    | none => rw [hk] at hv; cases hv
    | some kv =>
      rw [hk] at hv
      cases hv
      obtain ⟨u, hu, ru⟩ := kv_get rel (i := i) (k := kv.1) (v := kv.2) hk
      rw [(hg i hi _ _ hu).2]; exact ru
  · obtain ⟨z, hd, xs, rel, dd⟩ := dt_rd I.hok e
    obtain ⟨es, ep, hr, hsz, hg⟩ := dd.raw
    have l : kvs.length = xs.length := Paired.length rel
    refine ⟨es, ep, hr, by rw [List.length_map]; omega, fun i hi v hv => ?_⟩
    rw [List.getElem?_map] at hv
    cases hk : kvs[i]? with
    | none => rw [hk] at hv; cases hv
    | some kv =>
      rw [hk] at hv
      cases hv
      obtain ⟨b, hb, _, _, ru⟩ := paired_get rel hk
      obtain ⟨y, hy, _, h2, _⟩ := hg i hi
      rw [hb] at hy; cases hy
      rw [h2]; exact ru
end
/-- sum(d.values()) -/
def tSumV (td : TE) : TE := fun σ H Q => td σ H fun x H1 => ∃ (d : Addr) (ns : List Int), x = .ref d ∧ ValsAt H1 d (ns.map V.int) ∧ Q (.int ns.sum) H1
section
variable {X : Cx} {e : Expr} {td : TE} {p0 pos apos cpos : Pos}
theorem pe_sumV (hc : X.calm = true) (hgs : Gl X "sum") (hms : X.mg "sum" = none) (he : PE X e td)
    (hbase : attributeBase e "values" X.env (eval e X.env) = eval e X.env) (hline : (apos.endLine == cpos.line) = true)
    (hs1 : starEach [.Call (.Attribute e "values" apos) [] [] cpos] X.env = (false, eval (.Call (.Attribute e "values" apos) [] [] cpos) X.env) :: starEach [] X.env := by rfl)
    (hp1 : (backTo pos (starEach [] X.env)).any (·.1) = false := by rfl) :
    PE X (.Call (.Name "sum" p0) [.Call (.Attribute e "values" apos) [] [] cpos] [] pos) (tSumV td) := by
  refine ⟨fun pins s σ H Q I h => ?_⟩
  refine wpAny_Call_Name_kw (ld_blt I hgs hms boot_sum ?_)
  refine PyProof.Rows.callWith_builtin1 ?_ hs1 hp1
  rw [hs1]
  show wpAny _ _ (spliced ((false, eval (.Call (.Attribute e "values" apos) [] [] cpos) X.env) :: backTo pos (starEach [] X.env))) _ _ s
  refine Calls.spliced_cons ?_
  refine wpAny_Call_method (T := "dict") (id := "dict.values") hbase rfl hline F.plainAttrs_dict F.slot_dict_values F.type_dict_values (thn (he.run pins s σ H _ I h) fun u s1 ⟨x, H1, I1, rx, d, ns, ex, hv, q⟩ => ?_)
  subst ex
  obtain rfl : u = Value.ref d := rx
  obtain ⟨t1, t2, hs⟩ := isD_at I1 hv.isD
  obtain ⟨es, ep, hm, hsz, hval⟩ := vals_raw I1 hv
  refine ⟨t1, t2, ?_⟩
  have I2 : Inv X pins σ H1 { s1 with heap := s1.heap.push { cls := .type "dict_values", data := .fields #[.ref d] } } := I1.kept (t' := s1.toks) fun b ob q => Heap.get?_push_of_some _ q
  show wpAny _ _ (callWith cpos (.builtin "dict.values") [.ref d] [] []) _ X.xe s1
  refine method_meetsIn F.slot_dict_values F.entry_dict_values rfl (PySem.evalArgs_none ⟨rfl, t1, F.args_dict_values_1 _, _, meets_dict_values_raw d hs, ⟨es, ep, hm⟩, ?_⟩)
  refine Calls.spliced_nil ?_
  have hm2 := hm.push { cls := .type "dict_values", data := .fields #[.ref d] }
  have hview : (s1.heap.push { cls := .type "dict_values", data := .fields #[.ref d] }).IsValuesView s1.heap.objs.size d := ⟨_, Heap.get?_push_size _ rfl, rfl, rfl⟩
  refine call_sum_walkAnyS ?_
  obtain ⟨oI, St, hit, W, st⟩ := (KdlSrc.rawValues (prog := X.prog) (w := X.w)).iter X.A.in1 { s1 with heap := s1.heap.push { cls := .type "dict_values", data := .fields #[.ref d] } } (I1.ok.hd hc) ⟨hview, hm2⟩
  let val : Nat → Int := fun i => (ns[i]?).getD 0
  have hval' : ∀ i (hi : i < es.size), ∃ t, es[i].val = Value.int (val i) t := fun i hi => by
    have hl : i < ns.length := by rw [hsz, List.length_map] at hi; exact hi
    have e1 : (ns.map V.int)[i]? = some (.int ns[i]) := by rw [List.getElem?_map, List.getElem?_eq_getElem hl]; rfl
    obtain ⟨t, ht⟩ := hval i hi _ e1
    refine ⟨t, ?_⟩
    show _ = Value.int ((ns[i]?).getD 0) t
    rw [List.getElem?_eq_getElem hl]
    exact ht
  refine hit _ _ ⟨_, _, _, _, es.size, _, _, val, rfl, W.toS, st, fun b hb => ?_, fun i v ⟨hi, hv⟩ => hv ▸ hval' i hi, fun s' t' hmv => ?_⟩
  · rw [size_push']
    rcases List.mem_cons.mp hb with e | hb
    · rw [e]; exact Nat.lt_succ_self _
    · rw [List.mem_singleton.mp hb]; exact Nat.lt_succ_of_lt hm2.lt_size
  · have hk : ∀ b o, (s1.heap.push { cls := .type "dict_values", data := .fields #[.ref d] }).get? b = some o → s'.heap.get? b = some o := fun b o e =>
      hmv.heap b o (fun hI => absurd (Heap.lt_size e) (by rw [List.mem_singleton.mp hI]; exact Nat.lt_irrefl _)) (Heap.get?_push_of_some _ e)
    rw [Moved.eq_with hmv]
    have hsum : preSum val es.size = ns.sum := by
      have e1 : es.size = (ns.map V.int).length := hsz
      have := preSum_list (h := fun x => match x with | .int i => i | _ => 0) (ns.map V.int) val (fun i x hx => by
        rw [List.getElem?_map] at hx
        show (ns[i]?).getD 0 = _
        cases hn : ns[i]? with
        | none => rw [hn] at hx; cases hx
        | some m => rw [hn] at hx; cases hx; rfl) (ns.map V.int).length (Nat.le_refl _)
      rw [e1, this, List.take_length, List.map_map]
      congr 1
      exact List.map_id _
    rw [hsum]
    exact ⟨.int ns.sum, H1, I2.kept (t' := s'.toks) hk, ⟨t', rfl⟩, q⟩
end
/-- locked, behind the evaluation, or not -/
def tPost (td : TE) : TE := fun σ H Q => td σ H fun x H1 => (∃ d u, x = V.ref d ∧ H1 d = some u ∧ Mut (some u) ∧ ∀ od, Q x (upd H1 d (.frz od u))) ∨ Q x H1
theorem pe_post {X : Cx} {e : Expr} {td : TE} (he : PE X e td) : PE X e (tPost td) := by
  refine ⟨fun pins s σ H Q I h => ?_⟩
  refine thn (he.run pins s σ H _ I h) fun u s1 ⟨x, H1, I1, rx, q⟩ => ?_
  rcases q with ⟨d, o, rfl, ho, mu, q⟩ | q
  · obtain ⟨od, I2⟩ := I1.lock ho mu
    exact ⟨_, _, I2, rx, q od⟩
  · exact ⟨x, H1, I1, rx, q⟩
/-! ### items of a locked dict with tuple keys -/
def Itit (d : Addr) (o : Obj) (kvs : List (List Key × V)) : It :=
  ⟨fun i H => H d = some (.frz o (.dT kvs)) ∧ i < kvs.length, fun i H x H' => ∃ (T : Addr) (k : List Key) (v : V) (q : Addr), kvs[i]? = some (k, v) ∧ x = .ref T ∧ H T = none ∧ H q = some (.tup (k.map kV)) ∧ H' = upd H T (.tup [.ref q, v]), fun i H => H d = some (.frz o (.dT kvs)) ∧ kvs.length ≤ i⟩
theorem Inv.frzT' {X : Cx} {pins : List (Addr × Obj)} {σ : St} {H : Hp} {s : Shared} {d : Addr} {o : Obj} {kvs : List (List Key × V)} (I : Inv X pins σ H s) (h : H d = some (.frz o (.dT kvs))) :
    (d == sysModules) = false ∧ s.heap.get? d = some o ∧ o.ExactDict ∧ ∃ (es : Array DictEntry) (ep : Nat), o.data = .dict es ep ∧ es.size = kvs.length ∧
      ∀ (i : Nat) (k : List Key) (v : V), kvs[i]? = some (k, v) → ∃ (hi : i < es.size) (q : Addr), es[i].key = .ref q ∧ H q = some (.tup (k.map kV)) ∧ RelV v es[i].val := by
  obtain ⟨hd, z, hs, xs, pr, o', es, ep, ho, hx, hdt, he, _⟩ := I.hok d _ h
  rw [hd] at ho
  cases ho
  have l1 : es.size = xs.length := size_of_entries he
  have l2 : kvs.length = xs.length := Paired.length pr
  refine ⟨hs, hd, hx, es, ep, hdt, by omega, fun i k v e => ?_⟩
  obtain ⟨b, hb, e1, e2, e3⟩ := paired_get pr e
  have q := entry_at he i
  rw [hb] at q
  have hi : i < es.size := by
    have := (List.getElem?_eq_some_iff.mp hb).1
    omega
  rw [Array.getElem?_eq_getElem hi] at q
  have q' := Option.some.inj q
  exact ⟨hi, b.2.1, by rw [q']; rfl, e2, by rw [q']; exact e3⟩
section
variable {P : Program} {w : World} {K : PySem.W.Frag} {tg : Expr} {d : Addr} {o : Obj} {es : Array DictEntry} {ep : Nat}
theorem turn_itemsT {kvs : List (List Key × V)} {elts : List Expr} {kk : Nat} {tpos : Pos} (it : Addr) (hod : o.data = .dict es ep) :
    Turn P w K (.Tuple elts kk tpos) (Itit d o kvs) [it] it (fun i h => ∃ ok ov, IsItemIter h it d i kvs.length ep ok ov) where
  mem := by simp
  obj := fun i h st b hb => by
    have e : b = it := by simpa using hb
    subst e
    obtain ⟨ok, ov, e⟩ := st
    exact ⟨_, e, fun v z => nomatch z⟩
  keep := fun i h h' st k => let ⟨ok, ov, e⟩ := st; ⟨ok, ov, k it (by simp) _ e⟩
  item := by
    intro X hP hw hK hc i pins s σ H E I hf st hg
    subst hP hw hK
    obtain ⟨hd, hi⟩ := hg
    obtain ⟨hs, hgd, hx, es', ep', hdt, hsz, ent⟩ := I.frzT' hd
    obtain ⟨rfl, rfl⟩ := dict_ep hod hdt
    obtain ⟨⟨k, v⟩, hkv⟩ : ∃ p, kvs[i]? = some p := ⟨kvs[i], List.getElem?_eq_getElem hi⟩
    obtain ⟨hi', q, hkey, hq, ru⟩ := ent i k v hkv
    obtain ⟨ok, ov, he⟩ := st
    rw [← hsz] at he
    have hlt : it < s.heap.objs.size := Heap.lt_size he
    refine wpAny_pyNext_items_item_raw he ⟨o, hgd, hx, hdt⟩ hi' fun h' ho hT hz hk => ?_
    refine ⟨_, rfl, wpAny_letOwnedTupleGo_items (s := { s with heap := h' }) ho fun h'' he' sb => ?_⟩
    have hT2 : h''.get? s.heap.objs.size = some { cls := .type "tuple", data := .seq #[es'[i].key, es'[i].val] } := (sb.2 _ (Nat.ne_of_gt hlt)).trans hT
    have new : ObjOk X.prog X.w (upd H s.heap.objs.size (.tup [.ref q, v])) h'' s.heap.objs.size (.tup [.ref q, v]) :=
      ⟨by show 2 ≤ sizeLine; decide, [es'[i].key, es'[i].val], .cons (show RelV (.ref q) es'[i].key from hkey) (.cons ru .nil), ⟨_, hT2, rfl, _, rfl⟩⟩
    have I1 : Inv X pins σ (upd H s.heap.objs.size (.tup [.ref q, v])) { s with heap := h'' } :=
      I.turnedNew (t' := s.toks) (ch := [it]) (fun b ob hb e => (sb.2 b (by simpa using hb)).trans (hk b ob (by simpa using hb) e)) hf (Nat.le_refl _) new
    refine ⟨.ref s.heap.objs.size, _, I1, rfl, ⟨_, k, v, q, hkv, rfl, I.hok.fresh (Nat.le_refl _), hq, rfl⟩, ⟨es'[i].key, es'[i].val, ?_⟩, fun b hb => ?_⟩
    · rw [← hsz]; exact he'
    · have e : b = it := by simpa using hb
      rw [e, upd_ne (Nat.ne_of_lt hlt)]
      exact (hf it (by simp)).1
  done := by
    intro X hP hw hK hc i pins s σ H E I hf st hg
    subst hP hw hK
    obtain ⟨hd, hi⟩ := hg
    obtain ⟨f0, f1, f2, f3, f4, f5⟩ := hf it (by simp)
    obtain ⟨hs, hgd, hx, es', ep', hdt, hsz, ent⟩ := I.frzT' hd
    obtain ⟨rfl, rfl⟩ := dict_ep hod hdt
    obtain ⟨ok, ov, he⟩ := st
    rw [← hsz] at he
    exact wpAny_pyNext_items_end_raw (I.ok.hd hc) he ⟨o, hgd, hx, hdt⟩ (by omega) fun h' eb => ⟨rfl, I.turned (t' := s.toks) (fun b ob hb e => eb b ob hb e) f0 f1 f3 f4 f5⟩
  self := fun A i s Q E st h => let ⟨_, _, e⟩ := st; PySem.W.kcp_self e h
end
def iItemsB (td : TE) : TI := fun σ H R => td σ H fun x H1 => ∃ d o, x = .ref d ∧ ((∃ kvs, H1 d = some (.frz o (.dK kvs)) ∧ R (Iti d o kvs) H1) ∨ ∃ kvs, H1 d = some (.frz o (.dT kvs)) ∧ R (Itit d o kvs) H1)
section
variable {X : Cx} {e : Expr} {td : TE} {apos cpos : Pos}
theorem pi_itemsB {elts : List Expr} {kk : Nat} {tpos : Pos} (he : PE X e td) (hbase : attributeBase e "items" X.env (eval e X.env) = eval e X.env) (hline : (apos.endLine == cpos.line) = true) :
    PI X (.Tuple elts kk tpos) (.Call (.Attribute e "items" apos) [] [] cpos) (iItemsB td) := by
  refine ⟨fun pins s σ H R I h => ?_⟩
  refine wpAny_Call_method (T := "dict") (id := "dict.items") hbase rfl hline F.plainAttrs_dict F.slot_dict_items F.type_dict_items (thn (he.run pins s σ H _ I h) fun u s1 ⟨x, H1, I1, rx, d, o, ex, q⟩ => ?_)
  subst ex
  obtain rfl : u = Value.ref d := rx
  rcases q with ⟨kvs, hd, q⟩ | ⟨kvs, hd, q⟩
  · obtain ⟨hs, hgd, hx, es, ep, vs, hdt, hsz, kv, hm⟩ := I1.frzK hd
    have hl : kvs.length = vs.length := Paired.length kv
    refine ⟨hm.dictOf.typeIs, hm.dictOf.mapOf.noDict, ?_⟩
    have I2 : Inv X pins σ H1 { s1 with heap := s1.heap.push { cls := .type "dict_items", data := .fields #[.ref d] } } := I1.kept (t' := s1.toks) fun b ob q => Heap.get?_push_of_some _ q
    have fin : wpAny (model X.prog X.w) X.A (pyIter (.ref s1.heap.objs.size)) (PIE X pins σ (.Tuple elts kk tpos) R) X.xe { s1 with heap := s1.heap.push { cls := .type "dict_items", data := .fields #[.ref d] } } := by
      refine wpAny_pyIter_items (d := d) (knd := mixKind X.prog X.w) ⟨_, Heap.get?_push_size _ rfl, rfl, rfl⟩ (hm.push _) (pi_one (tk := s1.toks) I2 _ (turn_items _ hdt) ⟨.none, .none, ?_⟩ q)
      rw [hl]
      exact Heap.get?_push_size _ rfl
    show wpAny _ _ (callWith cpos (.builtin "dict.items") [.ref d] [] []) _ X.xe s1
    exact method_meetsIn F.slot_dict_items F.entry_dict_items rfl (PySem.evalArgs_none ⟨rfl, hm.dictOf.typeIs, F.args_dict_items_1 _, _, meets_dict_items (mixKind X.prog X.w) d hs, ⟨vs, hm.dictOf⟩, fin⟩)
  · obtain ⟨t1, t2, _⟩ := isD_at I1 (.inr ⟨kvs, .inr ⟨o, hd⟩⟩)
    obtain ⟨hs, hgd, hx, es, ep, hdt, hsz, ent⟩ := I1.frzT' hd
    refine ⟨t1, t2, ?_⟩
    have hm : s1.heap.DictRaw d es ep := ⟨o, hgd, hx, hdt⟩
    have I2 : Inv X pins σ H1 { s1 with heap := s1.heap.push { cls := .type "dict_items", data := .fields #[.ref d] } } := I1.kept (t' := s1.toks) fun b ob q => Heap.get?_push_of_some _ q
    have fin : wpAny (model X.prog X.w) X.A (pyIter (.ref s1.heap.objs.size)) (PIE X pins σ (.Tuple elts kk tpos) R) X.xe { s1 with heap := s1.heap.push { cls := .type "dict_items", data := .fields #[.ref d] } } := by
      refine wpAny_pyIter_items_raw (d := d) ⟨_, Heap.get?_push_size _ rfl, rfl, rfl⟩ (hm.push _) (pi_one (tk := s1.toks) I2 _ (turn_itemsT _ hdt) ⟨.none, .none, ?_⟩ q)
      rw [← hsz]
      exact Heap.get?_push_size _ rfl
    show wpAny _ _ (callWith cpos (.builtin "dict.items") [.ref d] [] []) _ X.xe s1
    exact method_meetsIn F.slot_dict_items F.entry_dict_items rfl (PySem.evalArgs_none ⟨rfl, t1, F.args_dict_items_1 _, _, meets_dict_items_raw d hs, ⟨es, ep, hm⟩, fin⟩)
end
/-- {k: v} with a tuple as the key -/
def tDispT (tk tv : TE) : TE := fun σ H Q => ∀ p, H p = none → tk σ (upd H p (.dT [])) fun x H1 => tv σ H1 fun y H2 => ∃ (ks : List Key) (b : Addr), x = .ref b ∧ H2 p = some (.dT []) ∧ H2 b = some (.tup (ks.map kV)) ∧ Q (.ref p) (upd H2 p (.dT [(ks, y)]))
theorem pe_dispT {X : Cx} {pos : Pos} {k v : Expr} {tk tv : TE} (hu : X.A.units + 1 < cLine) (hk : PE X k tk) (hv : PE X v tv) : PE X (.Dict [some k] [v] pos) (tDispT tk tv) := by
  refine ⟨fun pins s σ H Q I h => ?_⟩
  have hn := I.hok.fresh (Nat.le_refl s.heap.objs.size)
  have I1 := I.laid (a := s.heap.objs.size) (o := .dT []) (h' := s.heap.push { cls := .type "dict", data := .dict #[] }) (t' := s.toks) (fun _ _ q => Heap.get?_push_of_some _ q) (Nat.le_refl _) (dt_empty s.heap I.big)
  rw [arm_eval_Dict, zip_pairTrees [some k] [v] X.env pos rfl rfl, dictDisplay_pairs _ (by simp [pairTrees]) (by simp [pairTrees])]
  refine wpAny_bind (wpAny_standAt (wpAny_bind (wpAny_subDictH (knd := tupleKind (mixKind X.prog X.w)) (Nat.lt_of_succ_lt hu) (by simp [pairTrees]) ?_)))
  refine pairTrees_cons_walk (thn (hk.run pins _ σ _ _ I1 (h _ hn)) fun u s1 ⟨x, H1, I2, rx, q1⟩ => thn (hv.run pins s1 σ H1 _ I2 q1) fun w2 s2 ⟨y, H2, I3, ry, ks, b, ex, ep, eb, q2⟩ => pairTrees_nil_walk ?_)
  subst ex
  obtain rfl : u = Value.ref b := rx
  obtain ⟨z, hd, xs, rel, dd⟩ := dt_of I3.hok ep
  cases rel
  refine ⟨[(ks, b, w2)], ⟨rfl, rfl, key_of I3.hok eb, trivial⟩, dd, fun h' tk dd' hs => wpAny_pure ⟨.ref s.heap.objs.size, _, ?_, rfl, q2⟩⟩
  obtain ⟨q, es, ep', hq, h2, h3, h4, _, h5⟩ := dd'
  refine d_write I3 (by rw [ep]; exact True.intro) hs ⟨q, hq⟩ ⟨by show 1 ≤ sizeLine; decide, hd, _, ?_, q, es, ep', hq, h2, h3, h4, h5⟩
  have r0 : KT (upd H2 s.heap.objs.size (.dT [(ks, y)])) [] [] := .nil
  refine KT.put (kvs := []) (xs := []) r0 ks (b := b) ?_ ry
  rw [upd_ne (ne_of eb ep (fun z => nomatch z))]
  exact eb
end L2

set_option maxHeartbeats 2000000
/-! V8e: values of a locked dict walked; list(d). -/
namespace L2
open PySem PySem.Spec PyProof.Rows PySem.W
/-- the values, with tuple keys -/
def Itvt (d : Addr) (o : Obj) (kvs : List (List Key × V)) : It :=
  ⟨fun i H => H d = some (.frz o (.dT kvs)) ∧ i < kvs.length, fun i H x H' => H' = H ∧ ∃ k, kvs[i]? = some (k, x), fun i H => H d = some (.frz o (.dT kvs)) ∧ kvs.length ≤ i⟩
section
variable {P : Program} {w : World} {K : PySem.W.Frag} {tg : Expr} {d : Addr} {o : Obj} {es : Array DictEntry} {ep : Nat}
theorem turn_valsT {kvs : List (List Key × V)} (it : Addr) (hod : o.data = .dict es ep) : Turn P w K tg (Itvt d o kvs) [it] it (fun i h => h.IsValIter it d i kvs.length ep) where
  mem := by simp
  obj := fun i h st b hb => by
    have e : b = it := by simpa using hb
    subst e
    obtain ⟨oi, e, c, dd⟩ := st
    exact ⟨oi, e, fun v z => by rw [dd] at z; cases z⟩
  keep := fun i h h' st k => st.at fun oi e => k it (by simp) oi e
  item := by
    intro X hP hw hK hc i pins s σ H E I hf st hg
    subst hP hw hK
    obtain ⟨hd, hi⟩ := hg
    obtain ⟨f0, f1, f2, f3, f4, f5⟩ := hf it (by simp)
    obtain ⟨hs, hgd, hx, es', ep', hdt, hsz, ent⟩ := I.frzT' hd
    obtain ⟨rfl, rfl⟩ := dict_ep hod hdt
    obtain ⟨⟨k, v⟩, hkv⟩ : ∃ p, kvs[i]? = some p := ⟨kvs[i], List.getElem?_eq_getElem hi⟩
    obtain ⟨hi', q, hkey, hq, ru⟩ := ent i k v hkv
    rw [← hsz] at st
    refine wpAny_pyNext_values_item_raw st ⟨o, hgd, hx, hdt⟩ hi' fun h' st' sb => ?_
    have I1 : Inv X pins σ H { s with heap := h' } := I.turned (t' := s.toks) (fun b ob hb e => (sb.2 b hb).trans e) f0 f1 f3 f4 f5
    obtain ⟨oi, e, c, dd⟩ := id st'
    refine ⟨es'[i].val, rfl, go_of (s := { s with heap := h' }) e c dd (by decide) ⟨v, H, I1, ru, ⟨rfl, k, hkv⟩, ?_, fun b hb => (hf b hb).1⟩⟩
    show h'.IsValIter it d (i + 1) kvs.length _
    rw [← hsz]
    exact st'
  done := by
    intro X hP hw hK hc i pins s σ H E I hf st hg
    subst hP hw hK
    obtain ⟨hd, hi⟩ := hg
    obtain ⟨f0, f1, f2, f3, f4, f5⟩ := hf it (by simp)
    obtain ⟨hs, hgd, hx, es', ep', hdt, hsz, ent⟩ := I.frzT' hd
    obtain ⟨rfl, rfl⟩ := dict_ep hod hdt
    rw [← hsz] at st
    exact wpAny_pyNext_values_end_raw (I.ok.hd hc) st ⟨o, hgd, hx, hdt⟩ (by omega) fun h' eb => ⟨rfl, I.turned (t' := s.toks) (fun b ob hb e => eb b ob hb e) f0 f1 f3 f4 f5⟩
  self := fun A i s Q E st h => wpAny_pyIter_valiter st h
end
def iValsB (td : TE) : TI := fun σ H R => td σ H fun x H1 => ∃ d o, x = .ref d ∧ ((∃ kvs, H1 d = some (.frz o (.dK kvs)) ∧ R (Itd d o kvs) H1) ∨ ∃ kvs, H1 d = some (.frz o (.dT kvs)) ∧ R (Itvt d o kvs) H1)
section
variable {X : Cx} {tg e : Expr} {td : TE} {apos cpos : Pos}
theorem pi_valsB (he : PE X e td) (hbase : attributeBase e "values" X.env (eval e X.env) = eval e X.env) (hline : (apos.endLine == cpos.line) = true) :
    PI X tg (.Call (.Attribute e "values" apos) [] [] cpos) (iValsB td) := by
  refine ⟨fun pins s σ H R I h => ?_⟩
  refine wpAny_Call_method (T := "dict") (id := "dict.values") hbase rfl hline F.plainAttrs_dict F.slot_dict_values F.type_dict_values (thn (he.run pins s σ H _ I h) fun u s1 ⟨x, H1, I1, rx, d, o, ex, q⟩ => ?_)
  subst ex
  obtain rfl : u = Value.ref d := rx
  rcases q with ⟨kvs, hd, q⟩ | ⟨kvs, hd, q⟩
  · obtain ⟨hs, hgd, hx, es, ep, vs, hdt, hsz, kv, hm⟩ := I1.frzK hd
    have hl : kvs.length = vs.length := Paired.length kv
    refine ⟨hm.dictOf.typeIs, hm.dictOf.mapOf.noDict, ?_⟩
    have I2 : Inv X pins σ H1 { s1 with heap := s1.heap.push { cls := .type "dict_values", data := .fields #[.ref d] } } := I1.kept (t' := s1.toks) fun b ob q => Heap.get?_push_of_some _ q
    have fin : wpAny (model X.prog X.w) X.A (pyIter (.ref s1.heap.objs.size)) (PIE X pins σ tg R) X.xe { s1 with heap := s1.heap.push { cls := .type "dict_values", data := .fields #[.ref d] } } := by
      refine wpAny_pyIter_values (d := d) (knd := mixKind X.prog X.w) ⟨_, Heap.get?_push_size _ rfl, rfl, rfl⟩ (hm.push _) (pi_one (tk := s1.toks) I2 _ (turn_vals _ hdt) ⟨_, Heap.get?_push_size _ rfl, rfl, ?_⟩ q)
      rw [hl] <;> rfl
    show wpAny _ _ (callWith cpos (.builtin "dict.values") [.ref d] [] []) _ X.xe s1
    exact method_meetsIn F.slot_dict_values F.entry_dict_values rfl (PySem.evalArgs_none ⟨rfl, hm.dictOf.typeIs, F.args_dict_values_1 _, _, meets_dict_values (mixKind X.prog X.w) d hs, ⟨vs, hm.dictOf⟩, fin⟩)
  · obtain ⟨t1, t2, _⟩ := isD_at I1 (.inr ⟨kvs, .inr ⟨o, hd⟩⟩)
    obtain ⟨hs, hgd, hx, es, ep, hdt, hsz, ent⟩ := I1.frzT' hd
    refine ⟨t1, t2, ?_⟩
    have hm : s1.heap.DictRaw d es ep := ⟨o, hgd, hx, hdt⟩
    have I2 : Inv X pins σ H1 { s1 with heap := s1.heap.push { cls := .type "dict_values", data := .fields #[.ref d] } } := I1.kept (t' := s1.toks) fun b ob q => Heap.get?_push_of_some _ q
    have fin : wpAny (model X.prog X.w) X.A (pyIter (.ref s1.heap.objs.size)) (PIE X pins σ tg R) X.xe { s1 with heap := s1.heap.push { cls := .type "dict_values", data := .fields #[.ref d] } } := by
      refine wpAny_pyIter_values_raw (d := d) ⟨_, Heap.get?_push_size _ rfl, rfl, rfl⟩ (hm.push _) (pi_one (tk := s1.toks) I2 _ (turn_valsT _ hdt) ⟨_, Heap.get?_push_size _ rfl, rfl, ?_⟩ q)
      rw [hsz] <;> rfl
    show wpAny _ _ (callWith cpos (.builtin "dict.values") [.ref d] [] []) _ X.xe s1
    exact method_meetsIn F.slot_dict_values F.entry_dict_values rfl (PySem.evalArgs_none ⟨rfl, t1, F.args_dict_values_1 _, _, meets_dict_values_raw d hs, ⟨es, ep, hm⟩, fin⟩)
end
/-! ### list(d) -/
/-- the keys as they stand -/
def KeysAt (H : Hp) (a : Addr) (qs : List V) : Prop := (∃ kvs : List (Key × V), Rd H a (.dK kvs) ∧ qs = kvs.map fun kv => kV kv.1) ∨
  ∃ kvs : List (List Key × V), Rd H a (.dT kvs) ∧ qs.length = kvs.length ∧ ∀ (i : Nat) (k : List Key) (v : V), kvs[i]? = some (k, v) → ∃ q, qs[i]? = some (.ref q) ∧ H q = some (.tup (k.map kV))
def rListB : List V → Hp → VK → Prop := fun xs H Q => ∃ a, xs = [.ref a] ∧ IsD H a ∧ ∀ p qs, H p = none → KeysAt H a qs → Q (.ref p) (upd H p (.lst qs))
theorem vals_ix : ∀ {xs : List V} {us : List Value}, xs.length = us.length → (∀ (i : Nat) x y, xs[i]? = some x → us[i]? = some y → RelV x y) → Vals xs us
  | [], [], _, _ => .nil
  | [], _ :: _, h, _ => by cases h
  | _ :: _, [], h, _ => by cases h
  | x :: xs, u :: us, h, k => .cons (k 0 x u rfl rfl) (vals_ix (by simpa using h) fun i a b ha hb => k (i + 1) a b (by simpa using ha) (by simpa using hb))
section
variable {X : Cx}
theorem call_listB (hcalm : X.calm = true) : CallR X (.type "list") rListB := by
  intro pins s σ H xs us Q I r q
  obtain ⟨a, ex, hd, q⟩ := q
  rcases hd with ⟨kvs, hd⟩ | ⟨kvs, hd⟩
  · exact call_listD hcalm pins s σ H xs us Q I r ⟨a, kvs, ex, hd, fun p hp => q p _ hp (.inl ⟨kvs, hd, rfl⟩)⟩
  · subst ex
    obtain ⟨u, eu, rx⟩ := vals1 r
    subst eu
    cases rx
    obtain ⟨z, lo, ys, rel, dd⟩ := dt_rd I.hok hd
    obtain ⟨es, ep, hr, hsz, hg⟩ := dd.raw
    have l : kvs.length = ys.length := Paired.length rel
    refine PySem.W.kdl_call (KdlSrc.rawDict (es := es) (ep := ep) lo) (I.ok.hd hcalm) hr (by rw [hsz, ← l]; exact z) fun h' tk acc c' hk hD hacc => ?_
    have hlen : acc.toList.length = ys.length := by rw [Array.length_toList, hacc.1, hsz]
    have hv : Vals (ys.map fun y => V.ref y.2.1) acc.toList := by
      refine vals_ix (by rw [List.length_map, hlen]) fun i x y hx hy => ?_
      rw [List.getElem?_map] at hx
      obtain ⟨hi, ey⟩ := hacc.2 i y (by rw [← Array.getElem?_toList]; exact hy)
      obtain ⟨y', hy', h1, _⟩ := hg i hi
      rw [hy'] at hx
      cases hx
      rw [ey, h1]
      exact (rfl : Value.ref y'.2.1 = Value.ref y'.2.1)
    have hks : KeysAt H a (ys.map fun y => V.ref y.2.1) := by
      refine .inr ⟨kvs, hd, by rw [List.length_map]; exact l.symm, fun i k v e => ?_⟩
      obtain ⟨b, hb, h1, h2, _⟩ := paired_get rel e
      refine ⟨b.2.1, by rw [List.getElem?_map, hb]; rfl, h2⟩
    refine ⟨.ref s.heap.objs.size, upd H s.heap.objs.size (.lst (ys.map fun y => V.ref y.2.1)), I.laid (t' := tk) hk (Nat.le_refl _)
      (show ObjOk X.prog X.w _ _ _ (.lst (ys.map fun y => V.ref y.2.1)) from ⟨by rw [List.length_map, ← l]; exact z, acc.toList, c', hv, by rw [Array.toArray_toList]; exact hD⟩), rfl, q _ _ (I.hok.fresh (Nat.le_refl _)) hks⟩
end
end L2

set_option maxHeartbeats 2000000
/-! V8f: d.setdefault(k, x), the keys tuples. -/
namespace L2
open PySem PySem.Spec PyProof.Rows PySem.W
def rSetdT : V → List V → Hp → VK → Prop := fun x xs H Q => ∃ (a : Addr) (kvs : List (List Key × V)) (k : List Key) (b : Addr) (d : V), x = .ref a ∧ xs = [.ref b, d] ∧ H a = some (.dT kvs) ∧ H b = some (.tup (k.map kV)) ∧ kvs.length < sizeLine ∧
  (∀ v, valV kvs k = some v → Q v H) ∧ (valV kvs k = none → Q d (upd H a (.dT (putK kvs k d))))
section
variable {X : Cx}
theorem mt_setdT (hu : X.A.units + 1 < cLine) : MtR X "dict.setdefault" rSetdT := by
  intro pins s σ H x xs v us Q I rx rxs h
  obtain ⟨a, kvs, k, b, d, rfl, rfl, ha, hb, hlt, q1, q2⟩ := h
  cases rx
  obtain ⟨u1, u2, rfl, r1, r2⟩ := vals2 rxs
  cases r1
  obtain ⟨z, hd, xs', rel, dd⟩ := dt_of I.hok ha
  have hz : xs'.length ≤ sizeLine := by rw [← Paired.length rel]; exact z
  refine call_setdefault_heap (knd := tupleKind (mixKind X.prog X.w)) (hsz := hz) (tupleKind_room_in1 hu) (key_of I.hok hb) hd dd (fun p hp => ?_) fun hn h' dd' hs => ?_
  · have r := rel.val k
    rw [hp] at r
    obtain ⟨v0, ev, rv⟩ : ∃ v0, valV kvs k = some v0 ∧ RelV v0 p.2 := by
      cases ev : valV kvs k with
      | none =>
        rw [ev] at r
        exact (show False from r).elim
      | some v0 =>
        rw [ev] at r
        exact ⟨v0, rfl, r⟩
    exact ⟨v0, H, I.tok _, rv, q1 v0 ev⟩
  · have r := rel.val k
    rw [hn] at r
    have e : valV kvs k = none := by
      cases ev : valV kvs k with
      | none => rfl
      | some v0 =>
        rw [ev] at r
        exact (show False from r).elim
    obtain ⟨o, es, ep, hq, h2, h3, h4, _, h5⟩ := dd'
    have hl : (putK kvs k d).length ≤ sizeLine := by have := length_putK kvs k d; omega
    have kk : KT (upd H a (.dT (putK kvs k d))) kvs xs' := rel.keeps (fun c ys ec => (by rw [upd_ne (ne_of ec ha (fun z => nomatch z))]; exact ec))
    have hb' : upd H a (.dT (putK kvs k d)) b = some (.tup (k.map kV)) := by rw [upd_ne (ne_of hb ha (fun z => nomatch z))]; exact hb
    have I2 : Inv X pins σ (upd H a (.dT (putK kvs k d))) { s with heap := h', toks := s.toks + (tupleKind (mixKind X.prog X.w)).draws k } :=
      d_write I (by rw [ha]; exact True.intro) hs ⟨o, hq⟩ ⟨hl, hd, _, KT.put kk k hb' r2, o, es, ep, hq, h2, h3, h4, h5⟩
    exact ⟨d, _, I2, r2, q2 e⟩
end
end L2

set_option maxHeartbeats 2000000
/-! V8g: sorted([], key=f): f is asked nothing. -/
namespace L2
open PySem PySem.Spec PyProof.Rows PySem.W
def rSortE (K : PySem.W.Frag) : List V → List V → Hp → VK → Prop := fun vs zs H Q => ∃ (a f : Addr), vs = [V.ref a] ∧ zs = [V.ref f] ∧ SqL K H a [] ∧ ∀ p, H p = none → Q (.ref p) (upd H p (.lst []))
section
variable {X : Cx}
theorem cr_sortE (hu : X.A.units + 70 < cLine) : CallRK X (.builtin "sorted") [Str.ofString "key"] (rSortE X.K) := by
  intro pins s σ H vs zs us ws Q I r rz h
  obtain ⟨a, f, rfl, rfl, hs, q⟩ := h
  obtain rfl := Vals.ref1 r
  obtain ⟨w1, rfl, e1⟩ := vals1 rz
  obtain rfl : w1 = Value.ref f := e1
  obtain ⟨its, rv, hl, hz⟩ := I.list hs
  cases rv
  refine sorted_key_data (β := Unit) (R := fun _ _ => True) (bs := []) (f := .ref f) (b := false) (fun _ => .none) hl.isList .nil ?_ ?_ (Nat.zero_le _) (fun x hx => by cases hx) (ksk_s1 _ _) (fun _ => ksk_l1 _ _) (fun x => ksk_t1 f x) (fun v x _ hx => by cases hx) fun out c h' tk hk fr hD ho _ => ?_
  · first | exact fun x hx => by cases hx | trivial | simp [AllAlike]
  · first | exact fun x hx => by cases hx | trivial | simp [Sortable]
  · have eo : out = [] := List.length_eq_zero_iff.mp ho
    subst eo
    exact ⟨.ref (s.heap.objs.size + 1), upd H (s.heap.objs.size + 1) (.lst []), I.laid (t' := tk) hk (Nat.le_succ _) ⟨Nat.zero_le _, [], c, .nil, hD⟩, rfl, q _ (I.hok.fresh (Nat.le_succ _))⟩
end
end L2

set_option maxHeartbeats 2000000
/-! V8h: {k: v for ..}, the keys tuples. -/
namespace L2
open PySem PySem.Spec PyProof.Rows PySem.W
section
variable {X : Cx}
/-- D[b] = r within a comprehension, b a tuple of keys -/
theorem dcPut {pins : List (Addr × Obj)} {σ : St} {H : Hp} {s : Shared} {E : Value → Shared → Prop} {D b : Addr} {kvs : List (List Key × V)} {k : List Key} {d : V} {r : Value} {Q : Unit → Shared → Prop} (hu : X.A.units < cLine) (I : Inv X pins σ H s)
    (ha : H D = some (.dT kvs)) (hb : H b = some (.tup (k.map kV))) (hz : kvs.length < sizeLine) (r2 : RelV d r) (q : ∀ s', Inv X pins σ (upd H D (.dT (putK kvs k d))) s' → Q () s') : wpAny (model X.prog X.w) X.A (dictSet D (.ref b) r) Q E s := by
  obtain ⟨z, hd, xs', rel, dd⟩ := dt_of I.hok ha
  have hz' : xs'.length ≤ sizeLine := by rw [← Paired.length rel]; exact z
  refine wpAny_dictSet_heap (knd := tupleKind (mixKind X.prog X.w)) (hsz := hz') hu (key_of I.hok hb) dd fun h' dd' hs => q _ ?_
  obtain ⟨o, es, ep, hq, h2, h3, h4, _, h5⟩ := dd'
  have hl : (putK kvs k d).length ≤ sizeLine := by have := length_putK kvs k d; omega
  have kk : KT (upd H D (.dT (putK kvs k d))) kvs xs' := rel.keeps (fun c ys ec => (by rw [upd_ne (ne_of ec ha (fun z => nomatch z))]; exact ec))
  have hb' : upd H D (.dT (putK kvs k d)) b = some (.tup (k.map kV)) := by rw [upd_ne (ne_of hb ha (fun z => nomatch z))]; exact hb
  exact d_write I (by rw [ha]; exact True.intro) hs ⟨o, hq⟩ ⟨hl, hd, _, KT.put kk k hb' r2, o, es, ep, hq, h2, h3, h4, h5⟩
/-- {k: v for target in iter if ..}, the keys tuples; N: what holds behind a turn -/
def tDcT (wi : TI) (g : TG) (tt : TT) (tk tv : TE) (own : List Nat) : TE := fun σ H Q => wi σ H fun J H1 => ∀ D, H1 D = none →
  ∃ W : Nat → Nat → Hp → Prop, (∃ m, W 0 m (upd H1 D (.dT []))) ∧ ∀ i m K, W i m K → (J.stop i K ∧ Q (.ref D) K) ∨ (J.go i K ∧ ∃ N : Hp → Prop, (∀ L, N L → ∃ m', m' < m ∧ W (i + 1) m' L) ∧
    ∀ x L, J.yld i K x L → g x (wipe σ own) L fun σ' K1 => wipe σ' own = wipe σ own ∧ tt σ' K1 fun t K2 => if t = true then tk σ' K2 fun y K3 => tv σ' K3 fun z K4 =>
      ∃ kvs k b, y = .ref b ∧ K4 b = some (.tup (k.map kV)) ∧ K4 D = some (.dT kvs) ∧ kvs.length < sizeLine ∧ N (upd K4 D (.dT (putK kvs k z))) else N K2)
/-- the address of a block's names, its cells -/
abbrev blkEnv (X : Cx) (scope : Scope) (n : Nat) : Env := compEnvC scope (cellsFrom (n + 1) scope.names (cloFrom X.env.cells scope.names [])) n X.env
theorem pe_dcT {kx vx tg iter : Expr} {ifs : List Expr} {scope : Scope} {own : List (Str × Nat)} {pos : Pos} {wi : TI} {g : TG} {tt : TT} {tk tv : TE} (hu : X.A.units < cLine) (hc : X.calm = true) (hN : X.N.Nodup) (hi : PI X tg iter wi) (ok : BlkOk X.N X.env.scope scope own)
    (hg : ∀ s H C cl fp, PG (X.blk s H scope (compEnvC scope cl C X.env) fp) tg g)
    (ht : ∀ s H C cl fp, PTs (X.blk s H scope (compEnvC scope cl C X.env) fp) ifs tt)
    (hk : ∀ s H C cl fp, PE (X.blk s H scope (compEnvC scope cl C X.env) fp) kx tk)
    (hv : ∀ s H C cl fp, PE (X.blk s H scope (compEnvC scope cl C X.env) fp) vx tv) (hs : ∀ x, foldedSetIterable iter X.env x = pure x) :
    PE X (.DictComp kx vx [⟨tg, iter, ifs, 0⟩] scope pos) (tDcT wi g tt tk tv (own.map (·.2))) := by
  refine ⟨fun pins s σ H Q I h => ?_⟩
  rw [arm_eval_DictComp]
  have hfr : ∀ y ∈ scope.names, y.2 = .free → ∃ c, X.env.cells.lookup y.1 = some c := fun y hy e => (ok.free y hy e).elim (fun z => I.ok.has _ (.inl z)) fun z => I.ok.has _ (.inr z)
  refine wpAny_comprehension_free rfl hs (closure_ok hfr) ok.kind (fun y hy e => by rw [ok.uniq y hy, e]) (thn (hi.run pins s σ H _ I h) fun xv s1 hx => thn hx fun itv s2 h2 => ?_)
  obtain ⟨it, fp, tn, J, H2, rfl, I2, T, st2, f2, q⟩ := h2
  refine wpAny_newObj_type (newEnv_comp ?_)
  generalize hn : s2.heap.objs.size = D
  have hDn : H2 D = none := I2.hok.fresh (Nat.le_of_eq hn)
  obtain ⟨W, ⟨m0, w0⟩, turn⟩ := q D hDn
  -- the state with the new dict, a
  obtain ⟨a, ha⟩ : ∃ a : Shared, a = { s2 with heap := s2.heap.push { cls := .type "dict", data := .dict #[] } } := ⟨_, rfl⟩
  have hp : a.heap = s2.heap.push { cls := .type "dict", data := .dict #[] } := by rw [ha]
  have Ia : Inv X pins σ (upd H2 D (.dT [])) a := by
    rw [ha]
    exact I2.laid (t' := s2.toks) (fun b o e => Heap.get?_push_of_some _ e) (Nat.le_of_eq hn) (by rw [← hn]; exact dt_empty s2.heap I2.big)
  have fa : ∀ b ∈ fp, FpOk X pins (upd H2 D (.dT [])) b ∧ b < a.heap.objs.size := fun b hb => by
    obtain ⟨o, e, _⟩ := T.obj _ _ st2 b hb
    have lt := Heap.lt_size e
    exact ⟨⟨(upd_ne (by rw [← hn]; exact Nat.ne_of_lt lt)).trans (f2 b hb).1, (f2 b hb).2⟩, (by rw [hp, Heap.size_push]; exact Nat.lt_succ_of_lt lt)⟩
  have sta : tn 0 a.heap := T.keep _ _ _ st2 fun b _ o e => (by rw [hp]; exact Heap.get?_push_of_some _ e)
  obtain ⟨Ha, hHa⟩ : ∃ Ha : Hp, Ha = upd H2 D (.dT []) := ⟨_, rfl⟩
  rw [← hHa] at Ia fa w0
  have Ib := block_start Ia ok hN fa
  obtain ⟨ce, hce⟩ : ∃ ce : Env, ce = blkEnv X scope a.heap.objs.size := ⟨_, rfl⟩
  have pg := hg a Ha a.heap.objs.size (cellsFrom (a.heap.objs.size + 1) scope.names (cloFrom X.env.cells scope.names [])) fp
  have pt := ht a Ha a.heap.objs.size (cellsFrom (a.heap.objs.size + 1) scope.names (cloFrom X.env.cells scope.names [])) fp
  have pk := hk a Ha a.heap.objs.size (cellsFrom (a.heap.objs.size + 1) scope.names (cloFrom X.env.cells scope.names [])) fp
  have pv := hv a Ha a.heap.objs.size (cellsFrom (a.heap.objs.size + 1) scope.names (cloFrom X.env.cells scope.names [])) fp
  rw [show compEnvC scope (cellsFrom (a.heap.objs.size + 1) scope.names (cloFrom X.env.cells scope.names [])) a.heap.objs.size X.env = ce from hce.symm] at Ib pg pt pk pv
  have cL : ce.locals = a.heap.objs.size := by rw [hce]; rfl
  obtain ⟨z, hz⟩ : ∃ z : Shared, z = { a with heap := pushCells (a.heap.push { cls := .type "dict", data := .dict #[] }) scope.names } := ⟨_, rfl⟩
  rw [← hz] at Ib
  have stz : tn 0 z.heap := T.keep _ _ _ sta fun b _ o e => (by rw [hz]; exact pushCells_keeps _ _ _ _ (Heap.get?_push_of_some _ e))
  have fpo : ∀ {σ' : St} {K : Hp} {s' : Shared}, Inv (X.blk a Ha scope ce fp) [] σ' K s' → (∀ b ∈ fp, K b = none) → ∀ b ∈ fp, FpOk (X.blk a Ha scope ce fp) [] K b := fun {σ' K s'} I' hn b hb =>
    ⟨hn b hb, (I'.ok.exf b hb).1, I'.ok.exfs b hb, .inl hb, fun x c e => (I'.ok.exf b hb).2 x c e, fun p hp => (by cases (show p ∈ ([] : List (Addr × Obj)) from hp))⟩
  have walk : codeAny (model X.prog X.w) X.A (.compLoop (.DictComp kx vx [⟨tg, iter, ifs, 0⟩] scope pos) 0 (.ref it) (.ref D) ce) (compPost (model X.prog X.w) X.A X.xe none (fun r s' => ∃ v H', Inv X pins σ H' s' ∧ RelV v r ∧ Q v H') (.ref D) a.heap.objs.size) z := by
    refine compLoop_anyD (fun n s' => ∃ i K, Inv (X.blk a Ha scope ce fp) [] (wipe σ (own.map (·.2))) K s' ∧ tn i s'.heap ∧ (∀ b ∈ fp, K b = none) ∧ W i n K) ?_ m0 ⟨0, Ha, Ib, stz, fun b hb => (fa b hb).1.1, w0⟩
    rintro m b5 ⟨i, K5, J5, t5, n5, w5⟩
    rcases turn i m K5 w5 with ⟨hstop, hq⟩ | ⟨hgo, N, hN', step⟩
    · refine thnF (T.done (X.blk a Ha scope ce fp) rfl rfl rfl hc i [] b5 _ K5 (fun _ _ => False) J5 (fpo J5 n5) t5 hstop) fun r b6 hr => ?_
      obtain ⟨rfl, J6⟩ := hr
      have J7 : Inv X pins σ K5 b6 := Ia.call' (ch := fp) J6.os J6.base J6.hok J6.bare fun b hb => (let f := (fa b hb).1; ⟨f.2.2.2.1, f.2.1, f.2.2.2.2.1, f.2.2.2.2.2⟩)
      have e0 : K5 a.heap.objs.size = none := cL ▸ (show K5 ce.locals = none from J6.free)
      obtain ⟨c, hcn, _⟩ := J6.loc
      obtain ⟨g0, g1, _, g3, g4, g5⟩ := Ia.fpOk (Nat.le_refl _) e0
      exact ⟨c, cL ▸ (show b6.heap.Ns ce.locals c from hcn), fun h'' sb => ⟨.ref D, K5, J7.turned (t' := b6.toks) (fun b o hb e => (sb.2 b hb).trans e) g0 g1 g3 g4 g5, rfl, hq⟩⟩
    · refine thnF (T.item (X.blk a Ha scope ce fp) rfl rfl rfl hc i [] b5 _ K5 (fun _ _ => False) J5 (fpo J5 n5) t5 hgo) fun r b6 hr => ?_
      obtain ⟨u, rfl, h6⟩ := hr
      refine thnF h6 fun _ b7 h7 => ?_
      obtain ⟨x, K7, J7, r7, y7, t7, n7⟩ := h7
      refine thnF (pg.run _ b7 _ K7 x u _ (J7.pinned (fpo J7 n7) (T.obj _ _ t7)) r7 (step x K7 y7)) fun _ b8 h8 => ?_
      obtain ⟨σ8, K8, J8, w8, q8⟩ := h8
      refine thnF (pt.run _ b8 σ8 K8 _ J8 q8) fun t b9 h9 => ?_
      obtain ⟨K9, J9, q9⟩ := h9
      -- behind a turn
      have back : ∀ {s' : Shared} {L : Hp}, Inv (X.blk a Ha scope ce fp) ([] ++ pinsAt fp b7.heap) σ8 L s' → N L → ∃ m', m' < m ∧ ∃ i K, Inv (X.blk a Ha scope ce fp) [] (wipe σ (own.map (·.2))) K s' ∧ tn i s'.heap ∧ (∀ b ∈ fp, K b = none) ∧ W i m' K := fun {s' L} J' nx => by
        obtain ⟨m', lt, w'⟩ := hN' L nx
        have stay : ∀ b ∈ fp, ∀ o, b7.heap.get? b = some o → s'.heap.get? b = some o ∧ L b = none := fun b hb o e => by
          obtain ⟨p1, p2, _⟩ := J'.pin (b, o) (List.mem_append_right _ (List.mem_append_right _ (mem_pinsAt hb e)))
          exact ⟨p1, p2⟩
        refine ⟨m', lt, i + 1, L, (J'.unpinned (pins := [])).weak (by rw [← w8, wipe_length]) (fun j v e => (wipe_some (vs := own.map (·.2)) (w8 ▸ e)).1), T.keep _ _ _ t7 fun b hb o e => (stay b hb o e).1, fun b hb => ?_, w'⟩
        obtain ⟨o, e, _⟩ := T.obj _ _ t7 b hb
        exact (stay b hb o e).2
      cases t with
      | false => exact back J9 q9
      | true =>
        refine thnF (pk.run _ b9 σ8 K9 _ J9 q9) fun u1 b10 h10 => ?_
        obtain ⟨y1, K10, J10, r10, q10⟩ := h10
        refine thnF (pv.run _ b10 σ8 K10 _ J10 q10) fun u2 b11 h11 => ?_
        obtain ⟨y2, K11, J11, r11, kvs, k, b, rfl, hb11, hD11, hz11, nx⟩ := h11
        cases r10
        exact dcPut (X := X.blk a Ha scope ce fp) hu J11 hD11 hb11 hz11 r11 fun s12 J12 => back J12 nx
  have key := codeAny_compStart_dict walk (T.self X.A 0 _ _ _ stz walk)
  subst hz ha hce
  exact key
end
end L2

set_option maxHeartbeats 2000000
/-! V8i: list(d.values()). -/
namespace L2
open PySem PySem.Spec PyProof.Rows PySem.W
def tListV (td : TE) : TE := fun σ H Q => td σ H fun x H1 => ∃ (d : Addr) (vs : List V), x = .ref d ∧ ValsAt H1 d vs ∧ vs.length ≤ sizeLine ∧ ∀ p, H1 p = none → Q (.ref p) (upd H1 p (.lst vs))
section
variable {X : Cx} {e : Expr} {td : TE} {p0 pos apos cpos : Pos}
theorem pe_listV (hc : X.calm = true) (hgs : Gl X "list") (hms : X.mg "list" = none) (he : PE X e td)
    (hbase : attributeBase e "values" X.env (eval e X.env) = eval e X.env) (hline : (apos.endLine == cpos.line) = true)
    (hs1 : starEach [.Call (.Attribute e "values" apos) [] [] cpos] X.env = (false, eval (.Call (.Attribute e "values" apos) [] [] cpos) X.env) :: starEach [] X.env := by rfl)
    (hp1 : (backTo pos (starEach [] X.env)).any (·.1) = false := by rfl) :
    PE X (.Call (.Name "list" p0) [.Call (.Attribute e "values" apos) [] [] cpos] [] pos) (tListV td) := by
  refine ⟨fun pins s σ H Q I h => ?_⟩
  refine wpAny_Call_Name_kw (ld_blt I hgs hms (u := .type "list") (by decide +kernel) ?_)
  refine PyProof.Rows.callWith_type1 ?_ hs1 hp1
  rw [hs1]
  show wpAny _ _ (spliced ((false, eval (.Call (.Attribute e "values" apos) [] [] cpos) X.env) :: backTo pos (starEach [] X.env))) _ _ s
  refine Calls.spliced_cons ?_
  refine wpAny_Call_method (T := "dict") (id := "dict.values") hbase rfl hline F.plainAttrs_dict F.slot_dict_values F.type_dict_values (thn (he.run pins s σ H _ I h) fun u s1 ⟨x, H1, I1, rx, d, vs, ex, hv, hz, q⟩ => ?_)
  subst ex
  obtain rfl : u = Value.ref d := rx
  obtain ⟨t1, t2, hs⟩ := isD_at I1 hv.isD
  obtain ⟨es, ep, hm, hsz, hval⟩ := vals_raw I1 hv
  refine ⟨t1, t2, ?_⟩
  have I2 : Inv X pins σ H1 { s1 with heap := s1.heap.push { cls := .type "dict_values", data := .fields #[.ref d] } } := I1.kept (t' := s1.toks) fun b ob q => Heap.get?_push_of_some _ q
  show wpAny _ _ (callWith cpos (.builtin "dict.values") [.ref d] [] []) _ X.xe s1
  refine method_meetsIn F.slot_dict_values F.entry_dict_values rfl (PySem.evalArgs_none ⟨rfl, t1, F.args_dict_values_1 _, _, meets_dict_values_raw d hs, ⟨es, ep, hm⟩, ?_⟩)
  refine Calls.spliced_nil ?_
  have hm2 := hm.push { cls := .type "dict_values", data := .fields #[.ref d] }
  have hview : (s1.heap.push { cls := .type "dict_values", data := .fields #[.ref d] }).IsValuesView s1.heap.objs.size d := ⟨_, Heap.get?_push_size _ rfl, rfl, rfl⟩
  refine PySem.W.kdl_call (KdlSrc.rawValues (prog := X.prog) (w := X.w) (es := es) (ep := ep)) (I1.ok.hd hc) ⟨hview, hm2⟩ (by rw [hsz]; exact hz) fun h' tk acc c' hk hD hacc => ?_
  have hlen : acc.toList.length = vs.length := by rw [Array.length_toList, hacc.1, hsz]
  have hv' : Vals vs acc.toList := vals_ix hlen.symm fun i x y hx hy => by
    obtain ⟨hi, ey⟩ := hacc.2 i y (by rw [← Array.getElem?_toList]; exact hy)
    rw [ey]
    exact hval i hi x hx
  exact ⟨.ref (s1.heap.push { cls := .type "dict_values", data := .fields #[.ref d] }).objs.size, upd H1 (s1.heap.push { cls := .type "dict_values", data := .fields #[.ref d] }).objs.size (.lst vs), I2.laid (t' := tk) hk (Nat.le_refl _) (show ObjOk X.prog X.w _ _ _ (.lst vs) from ⟨hz, acc.toList, c', hv', by rw [Array.toArray_toList]; exact hD⟩), rfl, q _ (I2.hok.fresh (Nat.le_refl _))⟩
end
end L2

set_option maxHeartbeats 2000000
namespace VI
open PySem L2 M
open LamX (CodeO TabB ExtN)
/-! ### freezing a box -/
section
variable {g : G} {S : Sx} {β : Sto} {p : Addr} {u : V}
/-- what is frozen at p: the object and, for an instance, its dict -/
def frzF (S : Sx) (p : Addr) : Ct → Hp
  | .obj _ _ => match S.H p with
    | some (.ins c dx r) => upd (upd S.F dx (.own p)) p (.ins c dx r)
    | _ => S.F
  | _ => match S.H p with
    | some o => upd S.F p o
    | none => S.F
theorem freeze_live {n : Nat} {ct : Ct} (k : OkS g β S) (h : S.ι[n]? = some p) (hb : β[n]? = some ⟨ct, true⟩) :
    Le S ⟨S.ι, frzF S p ct, S.H⟩ ∧ OkS g (β.set n ⟨ct, false⟩) ⟨S.ι, frzF S p ct, S.H⟩ ∧ Rep g.K g.cl (frzF S p ct) (.ref p) (ctZ ct) := by
  obtain ⟨p', e1, e2⟩ := k.bx n _ hb
  rw [h] at e1; cases e1
  unfold BxOk at e2
  rw [if_pos rfl] at e2
  obtain ⟨hF, hc⟩ := e2
  have hmem : p ∈ S.ι := List.mem_of_getElem? h
  -- the new frozen part
  have key : ∃ F', F' = frzF S p ct ∧ Same S.F F' ∧ (∀ b o, F' b = some o → S.H b = some o) ∧ (∀ b o, F' b = some o → S.F b = none → b = p ∨ ∃ x, S.H b = some (.own x)) ∧ (∀ b, b ≠ p → S.F b = none → F' b ≠ none → ∃ x, S.H b = some (.own x)) ∧ (∀ b ps, F' b ≠ some (.tbl ps)) ∧ CtOk g F' F' p ct ∧ Rep g.K g.cl F' (.ref p) (ctZ ct) := by
    have one : ∀ o, S.H p = some o → (∀ ps, o ≠ .tbl ps) → Same S.F (upd S.F p o) ∧ (∀ b o', upd S.F p o b = some o' → S.H b = some o') ∧ (∀ b o', upd S.F p o b = some o' → S.F b = none → b = p) ∧ (∀ b, b ≠ p → S.F b = none → upd S.F p o b = none) ∧ (∀ b ps, upd S.F p o b ≠ some (.tbl ps)) := fun o ho ht => by
      refine ⟨upd_mono hF, fun b o' e => ?_, fun b o' e hn => ?_, fun b hb hn => by rw [upd_ne hb]; exact hn, fun b ps e => ?_⟩
      · by_cases hb : b = p
        · subst hb; rw [upd_same] at e; rw [ho]; exact e
        · rw [upd_ne hb] at e; exact k.sub b o' e
      · by_cases hb : b = p
        · exact hb
        · rw [upd_ne hb, hn] at e; cases e
      · by_cases hb : b = p
        · subst hb; rw [upd_same] at e; cases e; exact ht ps rfl
        · rw [upd_ne hb] at e; exact k.ntb b ps e
    cases ct with
    | lst xs =>
      obtain ⟨vs, a, b⟩ := hc
      obtain ⟨s1, s2, s3, s4, s5⟩ := one _ a (fun _ z => by cases z)
      have eq : frzF S p (.lst xs) = upd S.F p (.lst vs) := by unfold frzF; simp only [a]
      refine ⟨upd S.F p (.lst vs), eq.symm, s1, s2, fun b o e hn => .inl (s3 b o e hn), fun b hb hn z => absurd (s4 b hb hn) z, s5, ⟨vs, upd_same, b.mono s1⟩, .lst upd_same (b.mono s1)⟩
    | dic t kvs =>
      cases t with
      | true =>
        obtain ⟨vs, a, b⟩ := hc
        obtain ⟨s1, s2, s3, s4, s5⟩ := one _ a (fun _ z => by cases z)
        have eq : frzF S p (.dic true kvs) = upd S.F p (.dT vs) := by unfold frzF; simp only [a]
        refine ⟨upd S.F p (.dT vs), eq.symm, s1, s2, fun b o e hn => .inl (s3 b o e hn), fun b hb hn z => absurd (s4 b hb hn) z, s5, ⟨vs, upd_same, b.mono s1⟩, .dicT upd_same (b.mono s1)⟩
      | false =>
        obtain ⟨vs, a, b⟩ := hc
        obtain ⟨s1, s2, s3, s4, s5⟩ := one _ a (fun _ z => by cases z)
        have eq : frzF S p (.dic false kvs) = upd S.F p (.dK vs) := by unfold frzF; simp only [a]
        refine ⟨upd S.F p (.dK vs), eq.symm, s1, s2, fun b o e hn => .inl (s3 b o e hn), fun b hb hn z => absurd (s4 b hb hn) z, s5, ⟨vs, upd_same, b.mono s1⟩, .dic upd_same (b.mono s1)⟩
    | fdic t kvs =>
      cases t with
      | true =>
        obtain ⟨od, vs, a, b⟩ := hc
        obtain ⟨s1, s2, s3, s4, s5⟩ := one _ a (fun _ z => by cases z)
        have eq : frzF S p (.fdic true kvs) = upd S.F p (.frz od (.dT vs)) := by unfold frzF; simp only [a]
        refine ⟨upd S.F p (.frz od (.dT vs)), eq.symm, s1, s2, fun b o e hn => .inl (s3 b o e hn), fun b hb hn z => absurd (s4 b hb hn) z, s5, ⟨od, vs, upd_same, b.mono s1⟩, .fdicT upd_same (b.mono s1)⟩
      | false =>
        obtain ⟨od, vs, a, b⟩ := hc
        obtain ⟨s1, s2, s3, s4, s5⟩ := one _ a (fun _ z => by cases z)
        have eq : frzF S p (.fdic false kvs) = upd S.F p (.frz od (.dK vs)) := by unfold frzF; simp only [a]
        refine ⟨upd S.F p (.frz od (.dK vs)), eq.symm, s1, s2, fun b o e hn => .inl (s3 b o e hn), fun b hb hn z => absurd (s4 b hb hn) z, s5, ⟨od, vs, upd_same, b.mono s1⟩, .fdic upd_same (b.mono s1)⟩
    | obj c fs =>
      obtain ⟨C, dx, r, hC, a, a2, b⟩ := hc
      have hne : dx ≠ p := fun z => k.own dx p a2 (z ▸ hmem)
      have eq : frzF S p (.obj c fs) = upd (upd S.F dx (.own p)) p (.ins C dx r) := by unfold frzF; simp only [a]
      have s1 : Same S.F (upd (upd S.F dx (.own p)) p (.ins C dx r)) := fun b o e => by
        by_cases hb : b = p
        · subst hb; rw [hF] at e; cases e
        · rw [upd_ne hb]
          by_cases hd : b = dx
          · subst hd
            have := k.sub _ _ e
            rw [a2] at this; cases this
            exact upd_same
          · rw [upd_ne hd]; exact e
      have ep : (upd (upd S.F dx (.own p)) p (.ins C dx r)) p = some (.ins C dx r) := upd_same
      have ed : (upd (upd S.F dx (.own p)) p (.ins C dx r)) dx = some (.own p) := by rw [upd_ne hne]; exact upd_same
      refine ⟨_, eq.symm, s1, fun b o e => ?_, fun b o e hn => ?_, fun b hb hn hz => ?_, fun b ps e => ?_, ⟨C, dx, r, hC, ep, ed, b.mono s1⟩, .ins hC ep ed (b.mono s1)⟩
      · by_cases hb : b = p
        · subst hb; rw [upd_same] at e; rw [a]; exact e
        · rw [upd_ne hb] at e
          by_cases hd : b = dx
          · subst hd; rw [upd_same] at e; rw [a2]; exact e
          · rw [upd_ne hd] at e; exact k.sub b o e
      · by_cases hb : b = p
        · exact .inl hb
        · rw [upd_ne hb] at e
          by_cases hd : b = dx
          · subst hd; exact .inr ⟨p, a2⟩
          · rw [upd_ne hd, hn] at e; cases e
      · rw [upd_ne hb] at hz
        by_cases hd : b = dx
        · subst hd; exact ⟨p, a2⟩
        · rw [upd_ne hd] at hz; exact absurd hn hz
      · by_cases hb : b = p
        · subst hb; rw [upd_same] at e; cases e
        · rw [upd_ne hb] at e
          by_cases hd : b = dx
          · subst hd; rw [upd_same] at e; cases e
          · rw [upd_ne hd] at e; exact k.ntb b ps e
  obtain ⟨F', eF, s1, s2, s3, s4, s5, c1, c2⟩ := key
  rw [← eF]
  refine ⟨⟨⟨[], by simp⟩, s1, fun b o e _ _ => e, fun b ps e => ⟨ps, e⟩, fun b o e => ⟨o, e⟩, fun b h1 h2 => ?_, fun b h => .inl h⟩, ⟨s2, s5, by simp [k.len], fun m b e => ?_, k.inj, k.tracked, k.own, k.tabs⟩, c2⟩
  · cases e : F' b with
    | none => exact absurd e h1
    | some o =>
      rcases s3 b o e h2 with z | z
      · subst z; exact .inr (.inl hmem)
      · exact .inr (.inr (.inl z))
  · by_cases hm : n = m
    · subst hm
      rw [List.getElem?_set] at e
      simp only [if_true] at e
      split at e <;> cases e
      refine ⟨p, h, ?_⟩
      unfold BxOk
      rw [if_neg (by simp)]
      exact c1
    · rw [List.getElem?_set_ne hm] at e
      obtain ⟨q, e1, e2⟩ := k.bx m b e
      refine ⟨q, e1, ?_⟩
      unfold BxOk at e2 ⊢
      split
      · rename_i hl
        rw [if_pos hl] at e2
        refine ⟨?_, e2.2.mono s1 (.refl _)⟩
        have hq : q ≠ p := fun z => hm (k.inj n m p h (z ▸ e1))
        cases z : F' q with
        | none => exact z
        | some o =>
          obtain ⟨x, hx⟩ := s4 q hq e2.1 (by rw [z]; simp)
          exact absurd (List.mem_of_getElem? e1) (k.own q x hx)
      · rename_i hl
        rw [if_neg hl] at e2
        exact e2.mono s1 s1
theorem freeze_ok {v : VV} {Qk : D → Sto → Prop} {Qe : Exc → Sto → Prop} (k : OkS g β S) (r : RepV g S u v) (h : Out (freeze v β) Qk Qe) :
    ∃ x S' β', Qk x β' ∧ Le S S' ∧ OkS g β' S' ∧ S'.H = S.H ∧ Rep g.K g.cl S'.F u x := by
  cases r with
  | d r => exact ⟨_, S, β, h, .refl S, k, rfl, r⟩
  | @box n p e =>
    obtain ⟨b, e1, hb⟩ := k.boxAt e
    unfold freeze at h
    simp only [e1] at h
    obtain ⟨ct, lv⟩ := b
    cases lv with
    | true =>
      obtain ⟨h1, h2, h3⟩ := freeze_live k e e1
      exact ⟨_, _, _, h, h1, h2, rfl, h3⟩
    | false =>
      unfold BxOk at hb
      rw [if_neg (by simp)] at hb
      refine ⟨_, S, β.set n ⟨ct, false⟩, h, .refl S, ?_, rfl, ?_⟩
      · have : β.set n ⟨ct, false⟩ = β := by
          apply List.ext_getElem?
          intro m
          by_cases hm : n = m
          · subst hm
            rw [List.getElem?_set, if_pos rfl, if_pos (List.getElem?_eq_some_iff.mp e1).1, e1]
          · rw [List.getElem?_set_ne hm]
        rw [this]; exact k
      · cases ct with
        | lst xs => obtain ⟨vs, a, b⟩ := hb; exact .lst a b
        | dic t kvs =>
          cases t with
          | false => obtain ⟨vs, a, b⟩ := hb; exact .dic a b
          | true => obtain ⟨vs, a, b⟩ := hb; exact .dicT a b
        | fdic t kvs =>
          cases t with
          | false => obtain ⟨od, vs, a, b⟩ := hb; exact .fdic a b
          | true => obtain ⟨od, vs, a, b⟩ := hb; exact .fdicT a b
        | obj c fs => obtain ⟨C, dx, r, hC, a, b, c⟩ := hb; exact .ins hC a b c
  | clo _ _ => exact h.elim
  | bxs _ => exact h.elim
end
section
variable {g : G} {ge : GE} {X : Cx} {n : Nat} {W : WX} {a b c : Expr} {pos p : Pos}
theorem se_frz {i : Nat} {x : Str} (h : PE X (.Name x pos) (tVar i)) : PE X (.Name x pos) (tEv g ge W fun φ => match φ[i]? with | some (some v) => bnd (freeze v) fun x => ret (.d x) | _ => bad) := by
  refine h.weak fun σ H Q ⟨S, φ, β, e, k, sl, q⟩ => ?_
  subst e
  cases e : φ[i]? with
  | none => simp only [e] at q; exact q.elim
  | some o =>
    cases o with
    | none => simp only [e] at q; exact q.elim
    | some v =>
      simp only [e] at q
      obtain ⟨u, e1, r⟩ := sl.at_ i v e
      obtain ⟨x, S', β', q2, l, k', eH, r'⟩ := freeze_ok k r (out_bnd q)
      have q2 : Kv g S Q (.d x) β' := q2
      exact ⟨u, e1, by rw [← eH]; exact q2 u S' l k' (.d r')⟩
theorem so_so {ma : Sl → M VV} (ha : PE X a (tEv g ge W ma)) : PO X (some a) (tEvO g ge W fun φ => bnd (ma φ) fun v => bnd (dataOf v) fun x => bnd (asInt x) fun i => ret (some i)) := by
  refine ⟨fun pins s σ H Q I ⟨S, φ, β, e, k, sl, q⟩ => ?_⟩
  subst e
  refine (po_some ha).run pins s σ S.H Q I ?_
  refine step_v (Qk := fun S o β' => ∀ S', Le S S' → OkS g β' S' → Q o S'.H) (fun l q S' l' k' => q S' (l.trans l') k') k sl q fun u x β1 S1 l1 k1 r1 sl1 q1 => ?_
  obtain ⟨y, rfl, q2⟩ := out_data (out_bnd q1)
  have q3 := out_bnd q2
  cases y with
  | int i =>
    have := r1.d'
    cases this
    exact ⟨i, rfl, q3 S1 (.refl S1) k1⟩
  | _ => exact q3.elim
theorem step_o {S : Sx} {β : Sto} {φ : Sl} {σ : L2.St} {α : Type} {m : Sl → M (Option Int)} {f : Option Int → M α} {Qk : Sx → α → Sto → Prop} {R : Option Int → Hp → Prop} (gk : Grow Qk) (k : OkS g β S) (sl : SlOk g S φ σ)
    (h : Out (bnd (m φ) f β) (Qk S) (Ke g ge S W σ))
    (hR : ∀ x β1 S1, Le S S1 → OkS g β1 S1 → SlOk g S1 φ σ → Out (f x β1) (Qk S1) (Ke g ge S1 W σ) → R x S1.H) : tEvO g ge W m σ S.H R :=
  ⟨S, φ, β, rfl, k, sl, (out_bnd h).imp (fun x β1 hx S1 l k1 => hR x β1 S1 l k1 (sl.mono l) (hx.imp (fun _ _ => gk l) fun _ _ z => z.mono l)) fun _ _ z => z⟩
theorem se_sl {lo hi : Option Expr} {p2 : Pos} {ma : Sl → M VV} {ml mh : Sl → M (Option Int)} (hx : XOk g X n W) (ha : PE X a (tEv g ge W ma)) (hl : PO X lo (tEvO g ge W ml)) (hh : PO X hi (tEvO g ge W mh)) :
    PE X (.Subscript a (.Slice lo hi none p2) pos) (tEv g ge W fun φ => bnd (ma φ) fun u => bnd (ml φ) fun l => bnd (mh φ) fun h => bnd (deref u) fun x => bnd (M.opt (slD x l h)) fun z => ret (.d z)) := by
  have base := pe_slice (p2 := p2) (pos := pos) ((sl_tupA (X := X)).or ((sl_list (X := X)).or (sl_str (X := X)))) ha hl hh
  rw [hx.K] at base
  refine base.weak fun σ H Q ⟨S, φ, β, e, k, sl, q⟩ => ?_
  subst e
  refine step_v (Qk := fun S => Kv g S Q) grow_v k sl q fun u x β1 S1 l1 k1 r1 sl1 q1 => ?_
  refine step_o (S := S1) (Qk := fun S => Kv g S Q) grow_v k1 sl1 q1 fun l β2 S2 l2 k2 sl2 q2 => ?_
  refine step_o (S := S2) (Qk := fun S => Kv g S Q) grow_v k2 sl2 q2 fun h β3 S3 l3 k3 sl3 q3 => ?_
  obtain ⟨x', q4, d⟩ := DR.get k3 ((r1.mono l2).mono l3) (out_bnd q3)
  obtain ⟨z, e, q5⟩ := out_opt (out_bnd q4)
  have q5 : Kv g S3 Q (.d z) β3 := q5
  cases x' with
  | tup xs =>
    cases e
    have pd := d.repT
    obtain ⟨pp, vs, rfl, h1, rr⟩ := d.tup'
    refine .inl ⟨pp, vs, rfl, seqT k3.same h1, fun hw => ?_, fun _ l hl => q5.tup k3 hl (rr.cut _ _)⟩
    have : cutL xs l h = xs := by
      unfold cutL
      rw [← rr.len, hw.1, hw.2, List.drop_zero, Nat.sub_zero, rr.len, List.take_length]
    rw [this] at q5
    exact q5.d k3 pd
  | lst xs =>
    cases e
    obtain ⟨pp, vs, rfl, h1, rr⟩ := d.lst' k3
    exact .inr (.inl ⟨pp, vs, rfl, SqL.of h1, fun l hl => q5.lst k3 hl (rr.cut _ _)⟩)
  | lck xs =>
    cases e
    obtain ⟨pp, vs, rfl, h1, rr⟩ := d.lck'
    exact .inr (.inl ⟨pp, vs, rfl, k3.same.seq h1, fun l hl => q5.lst k3 hl (rr.cut _ _)⟩)
  | str s =>
    cases hs : small s.length with
    | false => simp [slD, hs] at e
    | true =>
    simp only [slD, hs, if_true, Option.some.injEq] at e
    subst e
    rw [d.str']
    exact .inr (.inr ⟨_, rfl, small_line hs, q5.d k3 (.str _)⟩)
  | _ => cases e
/-! ### instances -/
theorem RepF.look {K : PySem.W.Frag} {cl : Nat → Option Addr} {F : Hp} {n : Str} : ∀ {fs : List (Str × V)} {r : List (Str × D)} {x : D}, RepF K cl F fs r → r.lookup n = some x → ∃ v, fs.lookup n = some v ∧ Rep K cl F v x
  | _, _, _, .nil, e => by simp at e
  | _, _, x, .cons (n := m) (v := v) (x := y) h t, e => by
    rw [List.lookup_cons] at e ⊢
    split
    · rename_i hm
      rw [hm] at e
      cases e
      exact ⟨v, rfl, h⟩
    · rename_i hm
      rw [hm] at e
      exact t.look e
theorem getBox_at {s : Sto} {m : Nat} {b : Bx} (h : s[m]? = some b) : getBox (.box m) s = .ok b.ct s := by
  show (match s[m]? with | some b => Res.ok b.ct s | none => Res.bad) = _
  rw [h]
theorem out_getFld {S : Sx} {β : Sto} {f : Str} {u : V} {v : VV} {Qk : D → Sto → Prop} {Qe : Exc → Sto → Prop} (k : OkS g β S) (r : RepV g S u v) (h : Out (getFld f v β) Qk Qe) :
    ∃ x, Qk x β ∧ ∃ a c C dx fs w, u = .ref a ∧ g.cl c = some C ∧ S.H a = some (.ins C dx fs) ∧ fs.lookup f = some w ∧ Rep g.K g.cl S.F w x := by
  cases r with
  | @d _ y r =>
    cases y with
    | ins c fs =>
      have h : Out (M.opt (fs.lookup f) β) Qk Qe := h
      obtain ⟨z, e, q⟩ := out_opt h
      cases r with
      | ins hC h1 h2 h3 =>
        obtain ⟨w, e2, rv⟩ := h3.look e
        exact ⟨z, q, _, _, _, _, _, w, rfl, hC, k.sub _ _ h1, e2, rv⟩
    | _ => exact h.elim
  | @box m p' e3 =>
    obtain ⟨bx, e4, hb'⟩ := k.boxAt e3
    have c0 : CtOk g S.F S.H p' bx.ct := by
      unfold BxOk at hb'
      split at hb'
      · exact hb'.2
      · exact hb'.mono (.refl _) k.same
    have h2 : Out (bnd (getBox (.box m)) (fun c => match c with
      | .obj _ fs => M.opt (fs.lookup f)
      | _ => bad) β) Qk Qe := h
    rw [bnd_ok (getBox_at e4)] at h2
    obtain ⟨ct, lv⟩ := bx
    cases ct with
    | obj c fs =>
      obtain ⟨z, e, q⟩ := out_opt h2
      obtain ⟨C, dx, r, hC, h1, h2, h3⟩ := c0
      obtain ⟨w, e2, rv⟩ := h3.look e
      exact ⟨z, q, _, _, _, _, _, w, rfl, hC, h1, e2, rv⟩
    | _ => exact h2.elim
  | clo _ _ => exact h.elim
  | bxs _ => exact h.elim
/-- a name as an attribute of all own classes: a property or none -/
structure FldG (g : G) (x : Str) : Prop where
  p : ∀ c C f, g.cl c = some C → propOf g.T c x = some f → ∃ pa F, PropOf g.K C x pa (g.fi f).ad ∧ g.T.fs[f]? = some F ∧ FOk g f F
  q : ∀ c C, g.cl c = some C → propOf g.T c x = none → NoAttr g.K C x
theorem out_cls {S : Sx} {β : Sto} {u : V} {v : VV} {Qk : Nat → Sto → Prop} {Qe : Exc → Sto → Prop} (k : OkS g β S) (r : RepV g S u v) (h : Out (clsVV v β) Qk Qe) :
    ∃ c, Qk c β ∧ ∃ a C dx fs, u = .ref a ∧ g.cl c = some C ∧ S.H a = some (.ins C dx fs) := by
  cases r with
  | @d _ y r =>
    cases y with
    | ins c fs =>
      cases r with
      | ins hC h1 h2 h3 => exact ⟨c, h, _, _, _, _, rfl, hC, k.sub _ _ h1⟩
    | _ => exact h.elim
  | @box m p' e3 =>
    obtain ⟨bx, e4, hb'⟩ := k.boxAt e3
    have c0 : CtOk g S.F S.H p' bx.ct := by
      unfold BxOk at hb'
      split at hb'
      · exact hb'.2
      · exact hb'.mono (.refl _) k.same
    have h2 : Out (bnd (getBox (.box m)) (fun c => match c with
      | .obj c _ => ret c
      | _ => bad) β) Qk Qe := h
    rw [bnd_ok (getBox_at e4)] at h2
    obtain ⟨ct, lv⟩ := bx
    cases ct with
    | obj c fs =>
      obtain ⟨C, dx, r, hC, h1, _, h3⟩ := c0
      exact ⟨c, h2, _, C, dx, r, rfl, hC, h1⟩
    | _ => exact h2.elim
  | clo _ _ => exact h.elim
  | bxs _ => exact h.elim
theorem se_fld {f : Str} {ma : Sl → M VV} (hx : XOk g X n W) (co : ClsOk g) (hf : FldG g f) (hfn : ∀ i F, g.T.fs[i]? = some F → FnG g ge n i) (ha : PE X a (tEv g ge W ma)) (hb : attributeBase a f X.env (eval a X.env) = eval a X.env) :
    PE X (.Attribute a f pos) (tEv g ge W fun φ => bnd (ma φ) fun u => bnd (clsVV u) fun c => match propOf g.T c f with
    | some i => noExc (callA g.T n (.f i) [u])
    | none => bnd (getFld f u) fun x => ret (.d x)) := by
  refine ⟨fun pins s σ H Q I ⟨S, φ, β, e, k, sl, q⟩ => ?_⟩
  subst e
  have ha' := ha.run pins s σ S.H (fun u H1 => ∃ p' C dx fs, u = .ref p' ∧ H1 p' = some (.ins C dx fs) ∧ Cls X.K C ∧
    ((∃ v, NoAttr X.K C f ∧ fs.lookup f = some v ∧ Q v H1) ∨ ∃ pa i F, PropOf X.K C f pa (g.fi i).ad ∧ g.T.fs[i]? = some F ∧ FOk g i F ∧ spF g ge n i [.ref p'] H1 Q (fun _ _ _ => False))) I ?_
  · refine attr_of hb (thn ha' fun u s1 ⟨x, H1, I1, rx, p', C, dx, fs, ex, ea, hc, q1⟩ => ?_)
    subst ex
    cases rx
    rcases q1 with ⟨v, hn, hl, q1⟩ | ⟨pa, i, F, hp, hF, o, q1⟩
    · exact getattr_ok I1 ea hc hn hl fun u' s2 I2 ru => ⟨v, H1, I2, ru, q1⟩
    · exact getprop_ok (dvs := []) (ds := []) I1 ea hc hp (hx.fn (hfn i F hF)) (hx.room.mono (by omega)) (by rw [hx.K]; exact o.binds) .nil passL q1
  · refine step_v (Qk := fun S => Kv g S Q) grow_v k sl q fun u x β1 S1 l1 k1 r1 sl1 q1 => ?_
    obtain ⟨c, q2, p', C, dx, fs, rfl, hC, h1⟩ := out_cls k1 r1 (out_bnd q1)
    rw [hx.K]
    refine ⟨p', C, dx, fs, rfl, h1, (co.c c C hC).ins.cl, ?_⟩
    cases hpr : propOf g.T c f with
    | some i =>
      simp only [hpr] at q2
      obtain ⟨pa, F, hp, hF, o⟩ := hf.p c C i hC hpr
      have q3 : Out (callA g.T n (.f i) [x] β1) (Kv g S1 Q) (fun _ _ => False) := out_noExc q2
      refine .inr ⟨pa, i, F, hp, hF, o, ?_, S1, β1, [x], rfl, k1, .cons r1 .nil, q3.imp (fun _ _ z => z) fun _ _ z => z.elim⟩
      have := callA_len hF q3
      rw [o.len, ← this]; rfl
    | none =>
      simp only [hpr] at q2
      have hn := hf.q c C hC hpr
      obtain ⟨z, q4, p2, c2, C2, dx2, fs2, w, e5, hC2, h2, hl, rv⟩ := out_getFld k1 r1 (out_bnd q2)
      cases e5
      rw [h1] at h2; cases h2
      have q4 : Kv g S1 Q (.d z) β1 := q4
      exact .inl ⟨w, hn, hl, q4.d k1 rv⟩
/-! ### making an instance -/
/-- a thing that no value leads to -/
abbrev Sx.hid (S : Sx) (p : Addr) (o : HO) : Sx := ⟨S.ι, S.F, upd S.H p o⟩
theorem Le.hid {S : Sx} {p : Addr} {o : HO} (hp : S.H p = none) : Le S (S.hid p o) :=
  ⟨⟨[], by simp⟩, .refl _, fun b u e _ _ => upd_mono hp b u e, fun b ps e => ⟨ps, upd_mono hp b _ e⟩, fun b u e => ⟨u, upd_mono hp b u e⟩, fun b h1 h2 => absurd h2 h1, fun b h => .inl h⟩
theorem OkS.hid {S : Sx} {β : Sto} {p : Addr} {o : HO} (k : OkS g β S) (hp : S.H p = none) : OkS g β (S.hid p o) := by
  have eH : Same S.H (upd S.H p o) := upd_mono hp
  have nin : p ∉ S.ι := fun z => k.tracked p z hp
  refine ⟨fun b u e => eH b u (k.sub b u e), k.ntb, k.len, fun n b e => ?_, k.inj, fun q hq e => ?_, fun b x e => ?_, k.tabs.ext eH⟩
  · obtain ⟨q, e1, e2⟩ := k.bx n b e
    refine ⟨q, e1, ?_⟩
    unfold BxOk at e2 ⊢
    split
    · rename_i hl
      rw [if_pos hl] at e2
      exact ⟨e2.1, e2.2.mono (.refl _) eH⟩
    · rename_i hl
      rw [if_neg hl] at e2
      exact e2
  · have e : upd S.H p o q = none := e
    have hne : q ≠ p := fun y => nin (y ▸ hq)
    rw [upd_ne hne] at e
    exact k.tracked q hq e
  · have e : upd S.H p o b = some (.own x) := e
    by_cases hb : b = p
    · subst hb; exact nin
    · rw [upd_ne hb] at e; exact k.own b x e
/-- C(..): with what its __init__ lets out -/
theorem mk_run {C f : Addr} {fd : FuncData} {ps : List Str} {sp : Sp} {E : XK} {k : Nat} {pins : List (Addr × Obj)} {σ : L2.St} {H : Hp} {s : Shared} {Q : VK} {as : List Value} {vs : List V} (m : Mk X.K C f)
    (fo : FnOk X.prog X.w X.K X.mg X.base (L2.CX X.prog X.w) k f fd ps sp) (room : Room (k + 1) X.A) (bi : Binds X.K fd ps []) (pa : PassesAt (L2.CX X.prog X.w) X σ E) (iv : Inv X pins σ H s) (rs : Vals vs as)
    (q : ∀ x dx, H x = none → H dx = none → dx ≠ x → sp (.ref x :: vs) (upd (upd H dx (.own x)) x (.ins C dx [])) (fun v H2 => v = .non ∧ Q (.ref x) H2) E) :
    wpAny (model X.prog X.w) X.A (PySem.call (.ref C) as) (EP X pins σ Q) X.xe s := by
  have q1 := q (s.heap.objs.size + 1) s.heap.objs.size (iv.hok.fresh (Nat.le_add_right _ _)) (iv.hok.fresh Nat.le.refl) (Nat.ne_of_lt (Nat.lt_add_one _))
  have iv2 := Inv.made (C := C) iv
  have rs2 : Vals (V.ref (s.heap.objs.size + 1) :: vs) (Value.ref (s.heap.objs.size + 1) :: as) := .cons rfl rs
  have hlen : (Value.ref (s.heap.objs.size + 1) :: as).length = ps.length := by
    rw [← rs2.length]; exact fo.len _ _ _ _ q1
  have bi2 := bi _ (Value.ref (s.heap.objs.size + 1) :: as) iv2.kIn (by rw [List.append_nil]; exact hlen)
  rw [List.append_nil] at bi2
  refine wpAny_call (make_map (f := f) iv.kIn m.makes m.init (beq_iff_eq.mp m.fn) (codeAny_mono (fo.run _ X.stack _ _ ⟨Value.ref (s.heap.objs.size + 1) :: as, []⟩ (Value.ref (s.heap.objs.size + 1) :: as) _ _ E (room.make C as [])
    (iv2.env0.make C as []) bi2 rs2 q1) fun res s' hq' => ?_))
  cases res with
  | error e => exact pa pins _ _ e s' iv2 hq'
  | ok fl =>
    cases fl with
    | ret u =>
      obtain ⟨v, H', iv3, rv, ev, q3⟩ := iv2.after hq'
      subst ev
      exact ⟨rv, ⟨V.ref (s.heap.objs.size + 1), H', iv3, rfl, q3⟩⟩
    | next => exact hq'.elim
    | brk => exact hq'.elim
    | cont => exact hq'.elim
/-- the class with its __init__ -/
structure MkOk (g : G) (c f : Nat) (F : FDef) : Prop where
  made : ∀ C, g.cl c = some C → Mk g.K C (g.fi f).ad
  fs : g.T.fs[f]? = some F
  ok : FOk g f F
  cl : ∃ C, g.cl c = some C
theorem se_mk {cn f : Nat} {F : FDef} {x : Str} {C : Addr} {es : List Expr} {ms : Sl → M (List VV)} (hx : XOk g X n W) (o : MkOk g cn f F) (Fn : FnG g ge n f) (hg : Gl X x) (hC : g.cl cn = some C) (hm : g.mg x = some (.ref C)) (ha : PA X (a :: es) (tEvA g ge W ms))
    (hd : (x == ("__debug__" : Str)) = false) (he : starEach (a :: es) X.env = (false, eval a X.env) :: starEach es X.env) (hpl : (backTo pos (starEach es X.env)).any (·.1) = false) :
    PE X (.Call (.Name x p) (a :: es) [] pos) (tEv g ge W fun φ => bnd (ms φ) fun vs => bnd (newBox (.obj cn [])) fun ob => bnd (callA g.T n (.f f) (ob :: vs)) fun r => match r with
    | .d .non => bnd (freeze ob) fun x => ret (.d x)
    | _ => bad) := by
  have mk := o.made C hC
  rw [← hx.K] at mk
  refine ⟨fun pins s σ H Q I ⟨S, φ, β, e, k, sl, q⟩ => ?_⟩
  subst e
  refine wpAny_Call_Name_kw (ld_glob I hg (by rw [hx.mg]; exact hm) ?_ hd)
  refine PySem.W.callWith_K (h₀ := X.base) I.ok.mod.kin mk.kp (thn (ha.run pos pins s σ S.H (fun vs H1 => ∀ x dx, H1 x = none → H1 dx = none → dx ≠ x →
    spF g ge n f (.ref x :: vs) (upd (upd H1 dx (.own x)) x (.ins C dx [])) (fun v H2 => v = .non ∧ Q (.ref x) H2) (WE W σ)) I ?_) fun us s1 ⟨vs, H1, I1, r, q1⟩ => ⟨I1.kIn, ?_⟩) he hpl
  · refine step_a (Qk := fun S => Kv g S Q) grow_v k sl q fun us xs β1 S1 l1 k1 r1 sl1 q1 => ?_
    intro x dx hxn hdn hne
    have k2 : OkS g β1 (S1.hid dx (.own x)) := k1.hid hdn
    have hxn2 : (S1.hid dx (.own x)).H x = none := by
      show upd S1.H dx (.own x) x = none
      rw [upd_ne (Ne.symm hne)]; exact hxn
    have l2 : Le S1 ((S1.hid dx (.own x)).box x (.ins C dx [])) := (Le.hid hdn).trans (Le.box hxn2)
    have k3 : OkS g (β1 ++ [⟨.obj cn [], true⟩]) ((S1.hid dx (.own x)).box x (.ins C dx [])) := by
      refine k2.box hxn2 ⟨(fun _ z => by cases z), (fun _ z => by cases z)⟩ ?_
      refine ⟨C, dx, [], hC, upd_same, ?_, .nil⟩
      show upd (upd S1.H dx (.own x)) x (.ins C dx []) dx = some (.own x)
      rw [upd_ne hne, upd_same]
    have q2 : Out (bnd (callA g.T n (.f f) (.box β1.length :: xs)) (fun r => match r with
        | .d .non => bnd (freeze (.box β1.length)) fun x => ret (.d x)
        | _ => bad) (β1 ++ [⟨.obj cn [], true⟩])) (Kv g S1 Q) (Ke g ge S1 W σ) := q1
    have hι : ((S1.hid dx (.own x)).box x (.ins C dx [])).ι[β1.length]? = some x := by
      show (S1.ι ++ [x])[β1.length]? = some x
      rw [← k1.len, List.getElem?_append_right Nat.le.refl, Nat.sub_self]
      rfl
    have rr : RepVs g ((S1.hid dx (.own x)).box x (.ins C dx [])) (.ref x :: us) (.box β1.length :: xs) := .cons (.box hι) (r1.mono l2)
    have q3 := out_bnd q2
    refine ⟨?_, _, _, _, rfl, k3, rr, q3.imp (fun r β4 q4 => ?_) fun _ _ z => z.mono l2⟩
    · rw [rr.len, callA_len o.fs q3, o.ok.len]
    · intro w S4 l4 k4 r4
      cases r with
      | d y =>
        cases y with
        | non =>
          have := r4.d'
          cases this
          refine ⟨rfl, ?_⟩
          have q5 : Out (bnd (freeze (.box β1.length)) (fun x => ret (VV.d x)) β4) (Kv g S1 Q) (Ke g ge S1 W σ) := q4
          obtain ⟨z, S5, β5, q6, l5, k5, eH, rz⟩ := freeze_ok k4 (RepV.box (l4.ιget hι)) (out_bnd q5)
          have q6 : Kv g S1 Q (.d z) β5 := q6
          rw [← eH]
          exact q6 _ S5 ((l2.trans l4).trans l5) k5 (.d rz)
        | _ => exact q4.elim
      | box _ => exact q4.elim
      | clo _ _ => exact q4.elim
      | bxs _ => exact q4.elim
  · exact mk_run mk (hx.fn Fn) (hx.room.mono (by omega)) (by rw [hx.K]; exact o.ok.binds) (passAt hx.takes σ) I1 r q1
end
end VI

set_option maxHeartbeats 2000000
/-! V10: enumerate of a tuple, iteration. -/
namespace VI
open PySem L2 M
open PyProof.Rows
open LamX (CodeO TabB ExtN)
set_option maxHeartbeats 1000000 in
theorem enum_new1 {v : Value} {o : Obj} {H : Heap → Prop} (B : Begins v o H) :
    Meets (Builtin.«enumerate.__new__» ⟨[.type "enumerate", v], []⟩) (fun _ R s => H s.heap ∧
      R (.ok (.ret (.ref (s.heap.push o).objs.size))) { s with heap := (s.heap.push o).push { cls := .type "enumerate", data := .fields #[.none, .bool false, .ref s.heap.objs.size, rawInt 0, .none, .none] } }) :=
  .of_wp fun prog w A R s h => by
    obtain ⟨hh, g1, d1, t1, os1⟩ := s; obtain ⟨hb, hr⟩ := h
    have hsub := sub_enumerate
    have q1 : ∀ {A' : Around} {E : Value → Shared → Prop} {Q : Value → Shared → Prop}, Q (.ref hh.objs.size) ⟨hh.push o, g1, d1, t1, os1⟩ → wpAny (model prog w) A' (pyIter v) Q E ⟨hh, g1, d1, t1, os1⟩ :=
      fun q => B.iter prog w _ _ ⟨hh, g1, d1, t1, os1⟩ _ hb q
    wp_walk using q1
    refine wpAny_stack_any fun st => wpAny_pure ?_
    split
    · rename_i c _ _ _ _ _
      cases (c == Value.type "enumerate")
      · wp_walk using q1
        exact ⟨_, rfl, hr⟩
      · wp_walk using q1
        exact ⟨_, rfl, hr⟩
    · wp_walk using q1
      exact ⟨_, rfl, hr⟩
theorem enum_one {prog : Program} {w : World} {A : Around} {E : Value → Shared → Prop} {s : Shared} {v : Value} {o : Obj} {H : Heap → Prop} {Q : Value → Shared → Prop} (B : Begins v o H) (h1 : H s.heap)
    (h : ∀ h', IsEnum h' (s.heap.objs.size + 1) s.heap.objs.size 0 .none → h'.get? s.heap.objs.size = some o → h'.objs.size = s.heap.objs.size + 2 →
      (∀ b o, s.heap.get? b = some o → h'.get? b = some o) → Q (.ref (s.heap.objs.size + 1)) { s with heap := h' }) :
    wpAny (model prog w) A (PySem.call (.type "enumerate") [v]) Q E s := by
  refine callType_new PySem.F.called_enumerate (by decide) (PySem.F.typeCall_enumerate_1 _) (PySem.F.newCall_enumerate_1 _) (fun obj => PySem.F.args_object_init_2 obj _) PySem.F.entry_enumerate_new
    (enum_new1 B) ⟨h1, ?_⟩
  have hz : (s.heap.push o).objs.size = s.heap.objs.size + 1 := Heap.size_push ..
  show _ ∧ _
  rw [hz]
  have he : IsEnum ((s.heap.push o).push { cls := .type "enumerate", data := .fields #[.none, .bool false, .ref s.heap.objs.size, rawInt 0, .none, .none] }) (s.heap.objs.size + 1) s.heap.objs.size 0 .none := by
    have := Heap.get?_push_size (s.heap.push o) (o := { cls := .type "enumerate", data := .fields #[.none, .bool false, .ref s.heap.objs.size, rawInt 0, .none, .none] }) rfl
    rw [hz] at this; exact this
  exact ⟨⟨_, he, rfl⟩, h _ he (Heap.get?_push_of_some _ (Heap.get?_push_size _ B.free)) (by rw [Heap.size_push, hz]) fun b o x => Heap.get?_push_of_some _ (Heap.get?_push_of_some _ x)⟩
/-- the tuple at a, each item in a new pair with its number -/
def IteT (K : PySem.W.Frag) (a : Addr) : L2.It where
  go i H := ∃ (ys : List V) (y : V), SqT K H a ys ∧ ys[i]? = some y
  yld i H v H' := ∃ t y, v = .ref t ∧ H t = none ∧ H' = upd H t (.tup [.int (i : Nat), y]) ∧ ∀ ys, SqT K H a ys → ys[i]? = some y
  stop i H := ∃ ys : List V, SqT K H a ys ∧ ys.length ≤ i
theorem turn_enumT {P : Program} {w : World} {K : PySem.W.Frag} {elts : List Expr} {kk : Nat} {tpos : Pos} (a e it : Addr) (items : Array Value) (hai : a ≠ it) (hei : e ≠ it) (hea : e ≠ a) :
    Turn P w K (.Tuple elts kk tpos) (IteT K a) [e, it] e (fun i h => (∃ old, IsEnum h e it ((i : Nat) : Int) old) ∧ h.IsTupleIter it a i) where
  mem := List.mem_cons_self ..
  obj := fun i h st b hb => by
    obtain ⟨⟨old, he⟩, ⟨o, ho, hc, hd⟩⟩ := st
    have e' : b = e ∨ b = it := by simpa using hb
    rcases e' with rfl | rfl
    · exact ⟨_, he, fun v q => nomatch q⟩
    · exact ⟨o, ho, fun v q => by rw [hd] at q; cases q⟩
  keep := fun i h h' st k => ⟨st.1.elim fun old he => ⟨old, k e (by simp) _ he⟩, st.2.at fun o q => k it (by simp) o q⟩
  item := by
    intro X hP hw hK hc i pins s σ H E I hf st hg
    subst hP hw hK
    obtain ⟨⟨old, he⟩, hit⟩ := st
    obtain ⟨ys, y, hq, hy⟩ := hg
    obtain ⟨its, rv, pt, hz⟩ := I.tuple hq
    obtain ⟨u, hu, ru⟩ := rv.get hy
    have ht : s.heap.IsTuple a its.toArray := pt
    have el : e < s.heap.objs.size := Heap.lt_size he
    have il : it < s.heap.objs.size := by obtain ⟨_, q, _⟩ := hit; exact Heap.lt_size q
    have lt : i < its.toArray.size := by
      have := (List.getElem?_eq_some_iff.mp hu).1
      simpa using this
    refine wpAny_pyNext_enum_itemD (Draws.tuple (prog := X.prog) (w := X.w) (A := X.A.in1) (I.ok.hd hc) it a hai its.toArray) he ⟨hit, ht⟩ lt hei (by simp [hei, hea]) fun x h' tk hx ho hs hT hsz hk => ?_
    have hxu : x = u := by
      have hx : its.toArray[i]? = some x := hx
      rw [List.getElem?_toArray, hu] at hx
      exact (Option.some.inj hx).symm
    subst hxu
    refine ⟨_, rfl, wpAny_letOwnedTupleGo_enum (s := { s with heap := h', toks := tk + 1 }) ho fun h2 he2 sb => ?_⟩
    have hT2 : h2.get? s.heap.objs.size = some { cls := .type "tuple", data := .seq #[.int i tk, x] } := (sb.2 _ (Nat.ne_of_gt el)).trans hT
    have new : ObjOk X.prog X.w (upd H s.heap.objs.size (.tup [.int (i : Nat), y])) h2 s.heap.objs.size (.tup [.int (i : Nat), y]) :=
      ⟨by show 2 ≤ sizeLine; decide, [.int i tk, x], .cons ⟨tk, rfl⟩ (.cons ru .nil), ⟨_, hT2, rfl, _, rfl⟩⟩
    have I2 : Inv X pins σ (upd H s.heap.objs.size (.tup [.int (i : Nat), y])) { s with heap := h2, toks := tk + 1 } :=
      I.turnedNew (ch := [e, it]) (fun b ob hb q => (sb.2 b (fun z => hb (by simp [z]))).trans (hk b ob (fun z => hb (by simp [z])) (fun z => hb (by simp [z])) q)) hf (Nat.le_refl _) new
    refine ⟨.ref s.heap.objs.size, _, I2, rfl, ⟨_, y, rfl, I.hok.fresh (Nat.le_refl _), rfl, fun zs hzs => by rw [I.tuple_inj hzs hq]; exact hy⟩, ⟨⟨x, ?_⟩, hs.1.at fun o q => (sb.2 it (Ne.symm hei)).trans q⟩, fun b hb => ?_⟩
    · rw [show ((i + 1 : Nat) : Int) = (i : Int) + 1 by omega]; exact he2
    · have hlt : b < s.heap.objs.size := by
        have e' : b = e ∨ b = it := by simpa using hb
        rcases e' with rfl | rfl <;> assumption
      rw [upd_ne (Nat.ne_of_lt hlt)]
      exact (hf b hb).1
  done := by
    intro X hP hw hK hc i pins s σ H E I hf st hg
    subst hP hw hK
    obtain ⟨⟨old, he⟩, hit⟩ := st
    obtain ⟨ys, hq, hy⟩ := hg
    obtain ⟨its, rv, pt, hz⟩ := I.tuple hq
    have ht : s.heap.IsTuple a its.toArray := pt
    obtain ⟨f0, f1, f2, f3, f4, f5⟩ := hf it (by simp)
    have hl := rv.length
    have D : Draws X.prog X.w X.A.in1 it [it, a] i (fun _ _ => True) (fun j h => (h.IsTupleIter it a j ∧ h.IsTuple a its.toArray) ∧ j = i) := {
      live := fun _ _ z => let ⟨o, ho, _⟩ := z.1.1; ⟨o, ho⟩
      frame := fun _ _ _ z hk => ⟨⟨z.1.1.at fun o e => hk it (by simp) o e, z.1.2.at fun o e => hk a (by simp) o e⟩, z.2⟩
      item := fun j s' Q' E' hj z _ => absurd z.2 (Nat.ne_of_lt hj)
      done := fun s' Q' E' z hE => wpAny_nextOf_tuple_end (I.ok.hd hc) z.1.1 z.1.2 (by simp; omega) hE }
    exact wpAny_pyNext_enum_endD D he ⟨⟨hit, ht⟩, rfl⟩ fun h' eb => ⟨rfl, I.turned (t' := s.toks) (fun b o hb q => eb b o hb q) f0 f1 f3 f4 f5⟩
  self := fun A i s Q E st h => st.1.elim fun old he => wpAny_pyIter_enum he h
end VI

set_option maxHeartbeats 2000000
/-! V10s: enumerate of a text. -/
namespace VI
open PySem L2 M
open PyProof.Rows
open LamX (CodeO TabB ExtN)
/-- the text's signs, each in a new pair with its number -/
def IteS (x : Str) : L2.It where
  go i H := i < x.cps.size
  yld i H v H' := ∃ t c, v = .ref t ∧ H t = none ∧ x.cps[i]? = some c ∧ H' = upd H t (.tup [.int (i : Nat), .str ⟨#[c]⟩])
  stop i H := x.cps.size ≤ i
theorem turn_enumS {P : Program} {w : World} {K : PySem.W.Frag} {elts : List Expr} {kk : Nat} {tpos : Pos} (x : Str) (t : Tok) (e it : Addr) (hei : e ≠ it) :
    Turn P w K (.Tuple elts kk tpos) (IteS x) [e, it] e (fun i h => (∃ old, IsEnum h e it ((i : Nat) : Int) old) ∧ h.IsStrIter it (strIterType x) x t i) where
  mem := List.mem_cons_self ..
  obj := fun i h st b hb => by
    obtain ⟨⟨old, he⟩, ⟨o, ho, hc, hd⟩⟩ := st
    have e' : b = e ∨ b = it := by simpa using hb
    rcases e' with rfl | rfl
    · exact ⟨_, he, fun v q => nomatch q⟩
    · exact ⟨o, ho, fun v q => by rw [hd] at q; cases q⟩
  keep := fun i h h' st k => ⟨st.1.elim fun old he => ⟨old, k e (by simp) _ he⟩, let ⟨o, ho, r⟩ := st.2; ⟨o, k it (by simp) o ho, r⟩⟩
  item := by
    intro X hP hw hK hc i pins s σ H E I hf st hg
    subst hP hw hK
    obtain ⟨⟨old, he⟩, hit⟩ := st
    have el : e < s.heap.objs.size := Heap.lt_size he
    have il : it < s.heap.objs.size := by obtain ⟨_, q, _⟩ := hit; exact Heap.lt_size q
    refine wpAny_pyNext_enum_itemD (Draws.text (prog := X.prog) (w := X.w) (A := X.A.in1) (I.ok.hd hc) it x t) he hit hg hei (by simp [hei]) fun y h' tk hx ho hs hT hsz hk => ?_
    obtain ⟨c, u, hxc, rfl⟩ := hx
    refine ⟨_, rfl, wpAny_letOwnedTupleGo_enum (s := { s with heap := h', toks := tk + 1 }) ho fun h2 he2 sb => ?_⟩
    have hT2 : h2.get? s.heap.objs.size = some { cls := .type "tuple", data := .seq #[.int i tk, .str ⟨#[c]⟩ u] } := (sb.2 _ (Nat.ne_of_gt el)).trans hT
    have new : ObjOk X.prog X.w (upd H s.heap.objs.size (.tup [.int (i : Nat), .str ⟨#[c]⟩])) h2 s.heap.objs.size (.tup [.int (i : Nat), .str ⟨#[c]⟩]) :=
      ⟨by show 2 ≤ sizeLine; decide, [.int i tk, .str ⟨#[c]⟩ u], .cons ⟨tk, rfl⟩ (.cons ⟨u, rfl⟩ .nil), ⟨_, hT2, rfl, _, rfl⟩⟩
    have I2 : Inv X pins σ (upd H s.heap.objs.size (.tup [.int (i : Nat), .str ⟨#[c]⟩])) { s with heap := h2, toks := tk + 1 } :=
      I.turnedNew (ch := [e, it]) (fun b ob hb q => (sb.2 b (fun z => hb (by simp [z]))).trans (hk b ob (fun z => hb (by simp [z])) (fun z => hb (by simp [z])) q)) hf (Nat.le_refl _) new
    refine ⟨.ref s.heap.objs.size, _, I2, rfl, ⟨_, c, rfl, I.hok.fresh (Nat.le_refl _), hxc, rfl⟩, ⟨⟨.str ⟨#[c]⟩ u, ?_⟩, let ⟨o, ho, r⟩ := hs; ⟨o, (sb.2 it (Ne.symm hei)).trans ho, r⟩⟩, fun b hb => ?_⟩
    · rw [show ((i + 1 : Nat) : Int) = (i : Int) + 1 by omega]; exact he2
    · have hlt : b < s.heap.objs.size := by
        have e' : b = e ∨ b = it := by simpa using hb
        rcases e' with rfl | rfl <;> assumption
      rw [upd_ne (Nat.ne_of_lt hlt)]
      exact (hf b hb).1
  done := by
    intro X hP hw hK hc i pins s σ H E I hf st hg
    subst hP hw hK
    obtain ⟨⟨old, he⟩, hit⟩ := st
    obtain ⟨f0, f1, f2, f3, f4, f5⟩ := hf it (by simp)
    have D : Draws X.prog X.w X.A.in1 it [it] i (fun _ _ => True) (fun j h => h.IsStrIter it (strIterType x) x t j ∧ j = i) := {
      live := fun _ _ z => let ⟨o, ho, _⟩ := z.1; ⟨o, ho⟩
      frame := fun _ _ _ z hk => ⟨let ⟨o, ho, r⟩ := z.1; ⟨o, hk it (by simp) o ho, r⟩, z.2⟩
      item := fun j s' Q' E' hj z _ => absurd z.2 (Nat.ne_of_lt hj)
      done := fun s' Q' E' z hE => by
        have hz := z.1
        unfold strIterType at hz
        have hn : x.cps[i]? = none := Array.getElem?_eq_none hg
        cases ha : x.cps.all (· < 128)
        · rw [ha] at hz
          exact wpAny_nextOf_wide_end (I.ok.hd hc) hz hn hE
        · rw [ha] at hz
          exact wpAny_nextOf_ascii_end (I.ok.hd hc) hz hn hE }
    exact wpAny_pyNext_enum_endD D he ⟨hit, rfl⟩ fun h' eb => ⟨rfl, I.turned (t' := s.toks) (fun b o hb q => eb b o hb q) f0 f1 f3 f4 f5⟩
  self := fun A i s Q E st h => st.1.elim fun old he => wpAny_pyIter_enum he h
def iEnumS (ta : TA) : TI := fun σ H R => ta σ H fun vs H1 => ∃ x, vs = [.str x] ∧ R (IteS x) H1
theorem pi_enumS {X : Cx} {e : Expr} {ta : TA} {p pos tpos : Pos} {elts : List Expr} {kk : Nat} (hg : Gl X "enumerate") (hm : X.mg "enumerate" = none) (ha : PA X [e] ta) (hs : starEach [e] X.env = [(false, eval e X.env)]) :
    PI X (.Tuple elts kk tpos) (.Call (.Name "enumerate" p) [e] [] pos) (iEnumS ta) := by
  refine ⟨fun pins s σ H R I h => ?_⟩
  refine Call_ (ld_blt I hg hm boot_enumerate (PyProof.Rows.callWith_type1 (thn (ha.run pos pins s σ H _ I h) fun us s1 ⟨vs, H1, I1, r1, x, ex, q⟩ => ?_) hs rfl))
  subst ex
  cases r1 with
  | cons r rr =>
    cases rr
    obtain ⟨t, rfl⟩ := r
    refine enum_one (begins_text x t) trivial fun h' he hit hsz hk => wpAny_pyIter_enum he ?_
    have I2 : Inv X pins σ H1 { s1 with heap := h' } := I1.kept (t' := s1.toks) hk
    refine ⟨s1.heap.objs.size + 1, [s1.heap.objs.size + 1, s1.heap.objs.size], _, _, H1, rfl, I2, turn_enumS x t (s1.heap.objs.size + 1) s1.heap.objs.size (Nat.succ_ne_self _), ⟨⟨.none, he⟩, ⟨_, hit, rfl, rfl⟩⟩, fun b hb => ?_, q⟩
    have e' : b = s1.heap.objs.size + 1 ∨ b = s1.heap.objs.size := by simpa using hb
    have hle : s1.heap.objs.size ≤ b := e'.elim (fun z => z ▸ Nat.le_add_right _ _) fun z => z ▸ Nat.le.refl
    exact I1.fpOk hle (I1.hok.fresh hle)
end VI

set_option maxHeartbeats 2000000
/-! V11: iteration as data. -/
namespace VI
open PySem L2 M
open PyProof.Rows
open LamX (CodeO TabB ExtN)
def iEnumT (K : PySem.W.Frag) (ta : TA) : TI := fun σ H R => ta σ H fun vs H1 => ∃ a ys, vs = [.ref a] ∧ SqT K H1 a ys ∧ R (IteT K a) H1
theorem pi_enumT {X : Cx} {e : Expr} {ta : TA} {p pos tpos : Pos} {elts : List Expr} {kk : Nat} (hg : Gl X "enumerate") (hm : X.mg "enumerate" = none) (ha : PA X [e] ta) (hs : starEach [e] X.env = [(false, eval e X.env)]) :
    PI X (.Tuple elts kk tpos) (.Call (.Name "enumerate" p) [e] [] pos) (iEnumT X.K ta) := by
  refine ⟨fun pins s σ H R I h => ?_⟩
  refine Call_ (ld_blt I hg hm boot_enumerate (PyProof.Rows.callWith_type1 (thn (ha.run pos pins s σ H _ I h) fun us s1 ⟨vs, H1, I1, r1, a, ys, ex, hq, q⟩ => ?_) hs rfl))
  subst ex
  cases r1 with
  | cons r rr =>
    cases rr
    cases r
    obtain ⟨its, rv, pt, hz⟩ := I1.tuple hq
    have ht : s1.heap.IsTuple a its.toArray := pt
    have al : a < s1.heap.objs.size := by obtain ⟨_, q, _⟩ := ht; exact Heap.lt_size q
    refine enum_one (begins_tuple a its.toArray) ht fun h' he hit hsz hk => wpAny_pyIter_enum he ?_
    have I2 : Inv X pins σ H1 { s1 with heap := h' } := I1.kept (t' := s1.toks) hk
    refine ⟨s1.heap.objs.size + 1, [s1.heap.objs.size + 1, s1.heap.objs.size], _, _, H1, rfl, I2, turn_enumT a (s1.heap.objs.size + 1) s1.heap.objs.size its.toArray (Nat.ne_of_lt al) (Nat.succ_ne_self _) (Nat.ne_of_gt (Nat.lt_succ_of_lt al)), ⟨⟨.none, he⟩, ⟨_, hit, rfl, rfl⟩⟩, fun b hb => ?_, q⟩
    have e' : b = s1.heap.objs.size + 1 ∨ b = s1.heap.objs.size := by simpa using hb
    have hle : s1.heap.objs.size ≤ b := e'.elim (fun z => z ▸ Nat.le_add_right _ _) fun z => z ▸ Nat.le.refl
    exact I1.fpOk hle (I1.hok.fresh hle)
theorem _root_.L2.PI.or {X : Cx} {tg e : Expr} {v w : TI} (h : PI X tg e v) (k : PI X tg e w) : PI X tg e (fun σ H R => v σ H R ∨ w σ H R) := ⟨fun pins s σ H R I q => q.elim (h.run pins s σ H R I) (k.run pins s σ H R I)⟩
theorem _root_.L2.PI.weak {X : Cx} {tg e : Expr} {t u : TI} (h : PI X tg e t) (w : ∀ σ H R, u σ H R → t σ H R) : PI X tg e u := ⟨fun pins s σ H R I q => h.run pins s σ H R I (w σ H R q)⟩
/-- an iterator that gives the items xs -/
def WalkJ (g : G) (S : Sx) (J : L2.It) (xs : List D) : Prop := xs.length < sizeLine ∧ ∀ S' β, Same S.F S'.F → OkS g β S' → J.stop xs.length S'.H ∧ ∀ (i : Nat) x, xs[i]? = some x → J.go i S'.H ∧
  ∀ v H', J.yld i S'.H v H' → ∃ S'', Le S' S'' ∧ OkS g β S'' ∧ S''.H = H' ∧ Rep g.K g.cl S''.F v x
def Kw (g : G) (S : Sx) (R : L2.It → Hp → Prop) (xs : List D) (β' : Sto) : Prop := ∀ S' J, Le S S' → OkS g β' S' → WalkJ g S' J xs → R J S'.H
def tEvI (g : G) (ge : GE) (W : WX) (m : Sl → M (List D)) : TI := fun σ H R => ∃ S φ β, S.H = H ∧ OkS g β S ∧ SlOk g S φ σ ∧ Out (m φ β) (Kw g S R) (Ke g ge S W σ)
section
variable {g : G} {ge : GE} {S : Sx} {β : Sto}
theorem walk_lst {p : Addr} {vs : List V} {xs : List D} (hz : xs.length < sizeLine) (h : SqL g.K S.F p vs) (r : Reps g.K g.cl S.F vs xs) : WalkJ g S (Itl g.K p) xs := by
  refine ⟨hz, fun S' β l k => ?_⟩
  have hq : SqL g.K S'.H p vs := k.same.seq (l.seq h)
  refine ⟨⟨vs, hq, by rw [r.len]; exact Nat.le.refl⟩, fun i x hx => ?_⟩
  obtain ⟨v, hv, rv⟩ := r.get' hx
  refine ⟨⟨vs, v, hq, hv⟩, fun w H' ⟨e, y⟩ => ⟨S', .refl S', k, e.symm, ?_⟩⟩
  have := y vs hq
  rw [hv] at this; cases this
  exact rv.mono l
theorem walk_tup {p : Addr} {vs : List V} {xs : List D} (hz : xs.length < sizeLine) (h : SqT g.K S.F p vs) (r : Reps g.K g.cl S.F vs xs) : WalkJ g S (Itt g.K p) xs := by
  refine ⟨hz, fun S' β l k => ?_⟩
  have hq : SqT g.K S'.H p vs := seqT k.same (seqT l h)
  refine ⟨⟨vs, hq, by rw [r.len]; exact Nat.le.refl⟩, fun i x hx => ?_⟩
  obtain ⟨v, hv, rv⟩ := r.get' hx
  refine ⟨⟨vs, v, hq, hv⟩, fun w H' ⟨e, y⟩ => ⟨S', .refl S', k, e.symm, ?_⟩⟩
  have := y vs hq
  rw [hv] at this; cases this
  exact rv.mono l
theorem enumD_get : ∀ {xs : List D} {c : Int} {i : Nat} {x : D}, (enumD c xs)[i]? = some x → ∃ y, xs[i]? = some y ∧ x = .tup [.int (c + i), y]
  | [], _, _, _, e => by simp [enumD] at e
  | y :: xs, c, 0, x, e => by simp [enumD] at e; exact ⟨y, rfl, by simp [← e]⟩
  | y :: xs, c, i + 1, x, e => by
    obtain ⟨z, h1, h2⟩ := enumD_get (xs := xs) (c := c + 1) (i := i) (x := x) (by simpa [enumD] using e)
    refine ⟨z, by simpa using h1, ?_⟩
    rw [h2]
    have : c + 1 + (i : Int) = c + ((i + 1 : Nat) : Int) := by omega
    rw [this]
theorem enumD_len : ∀ (xs : List D) (c : Int), (enumD c xs).length = xs.length
  | [], _ => rfl
  | _ :: xs, c => by simp [enumD, enumD_len xs]
theorem walk_pair {S' : Sx} {β : Sto} {i : Nat} {w y : V} {z : D} {H' : Hp} {t : Addr} (k : OkS g β S') (hn : S'.H t = none) (hw : w = .ref t) (hH : H' = upd S'.H t (.tup [.int (i : Nat), y])) (ry : Rep g.K g.cl S'.F y z) :
    ∃ S'', Le S' S'' ∧ OkS g β S'' ∧ S''.H = H' ∧ Rep g.K g.cl S''.F w (.tup [.int ((0 : Int) + i), z]) := by
  subst hw hH
  refine ⟨S'.add t (.tup [.int (i : Nat), y]), Le.add k hn, k.add hn (fun _ z => by cases z) (fun _ z => by cases z), rfl, rep_tup k hn (.cons ?_ (.cons ry .nil))⟩
  rw [Int.zero_add]
  exact .int _
theorem walk_enum {p : Addr} {vs : List V} {xs : List D} (hz : xs.length < sizeLine) (h : SqL g.K S.F p vs) (r : Reps g.K g.cl S.F vs xs) : WalkJ g S (Ite g.K p) (enumD 0 xs) := by
  refine ⟨by rw [enumD_len]; exact hz, fun S' β l k => ?_⟩
  have hq : SqL g.K S'.H p vs := k.same.seq (l.seq h)
  refine ⟨⟨vs, hq, by rw [r.len, enumD_len]; exact Nat.le.refl⟩, fun i x hx => ?_⟩
  obtain ⟨y, hy, rfl⟩ := enumD_get hx
  obtain ⟨v, hv, rv⟩ := r.get' hy
  refine ⟨⟨vs, v, hq, hv⟩, fun w H' ⟨t, v', e1, e2, e3, e4⟩ => ?_⟩
  have := e4 vs hq
  rw [hv] at this; cases this
  exact walk_pair k e2 e1 e3 (rv.mono l)
theorem walk_enumT {p : Addr} {vs : List V} {xs : List D} (hz : xs.length < sizeLine) (h : SqT g.K S.F p vs) (r : Reps g.K g.cl S.F vs xs) : WalkJ g S (IteT g.K p) (enumD 0 xs) := by
  refine ⟨by rw [enumD_len]; exact hz, fun S' β l k => ?_⟩
  have hq : SqT g.K S'.H p vs := seqT k.same (seqT l h)
  refine ⟨⟨vs, hq, by rw [r.len, enumD_len]; exact Nat.le.refl⟩, fun i x hx => ?_⟩
  obtain ⟨y, hy, rfl⟩ := enumD_get hx
  obtain ⟨v, hv, rv⟩ := r.get' hy
  refine ⟨⟨vs, v, hq, hv⟩, fun w H' ⟨t, v', e1, e2, e3, e4⟩ => ?_⟩
  have := e4 vs hq
  rw [hv] at this; cases this
  exact walk_pair k e2 e1 e3 (rv.mono l)
theorem walk_str (x : Str) (hz : (chrsD x).length < sizeLine) : WalkJ g S (Its x) (chrsD x) := by
  refine ⟨hz, fun S' β l k => ?_⟩
  refine ⟨?_, fun i y hy => ?_⟩
  · show x.cps.size ≤ (chrsD x).length
    simp [chrsD]
  · unfold chrsD at hy
    rw [List.getElem?_map] at hy
    cases e : x.cps.toList[i]? with
    | none => rw [e] at hy; simp at hy
    | some c =>
      rw [e] at hy; simp at hy
      subst hy
      have hc : x.cps[i]? = some c := by rw [← Array.getElem?_toList]; exact e
      refine ⟨?_, fun w H' z => ?_⟩
      · show i < x.cps.size
        exact (Array.getElem?_eq_some_iff.mp hc).1
      · obtain ⟨e1, c', e2, e3⟩ := z
        rw [hc] at e2; cases e2
        subst e1 e3
        exact ⟨S', .refl S', k, rfl, .str _⟩
theorem rngD_get : ∀ {n : Nat} {c : Int} {i : Nat} {x : D}, (rngD c n)[i]? = some x → i < n ∧ x = .int (c + i)
  | 0, _, _, _, e => by simp [rngD] at e
  | n + 1, c, 0, x, e => by simp [rngD] at e; exact ⟨by omega, by simp [← e]⟩
  | n + 1, c, i + 1, x, e => by
    obtain ⟨h1, h2⟩ := rngD_get (n := n) (c := c + 1) (i := i) (x := x) (by simpa [rngD] using e)
    refine ⟨by omega, ?_⟩
    rw [h2]
    have : c + 1 + (i : Int) = c + ((i + 1 : Nat) : Int) := by omega
    rw [this]
theorem rngD_len : ∀ (n : Nat) (c : Int), (rngD c n).length = n
  | 0, _ => rfl
  | n + 1, c => by simp [rngD, rngD_len n]
theorem walk_rng (c : Int) (n : Nat) (hz : n < sizeLine) : WalkJ g S (Itr c n) (rngD c n) := by
  refine ⟨by rw [rngD_len]; exact hz, fun S' β l k => ?_⟩
  refine ⟨by show n ≤ _; rw [rngD_len]; exact Nat.le.refl, fun i y hy => ?_⟩
  obtain ⟨h1, rfl⟩ := rngD_get hy
  refine ⟨h1, fun w H' ⟨e1, e2⟩ => ?_⟩
  subst e1 e2
  exact ⟨S', .refl S', k, rfl, .int _⟩
theorem seq_lt {x : D} {xs : List D} (h : itemsD x = some xs) : xs.length < sizeLine := by
  cases x <;> unfold itemsD at h <;> dsimp only at h <;> try cases h
  all_goals
    split at h <;> cases h
    rename_i hs
    have hs := small_lt hs
    first
    | exact hs
    | (unfold chrsD; rw [List.length_map, Array.length_toList]; exact hs)
theorem seq_lt' {x : D} {xs : List D} (h : seqD x = some xs) : xs.length < sizeLine := by
  cases x <;> unfold seqD at h <;> dsimp only at h <;> try cases h
  all_goals
    split at h <;> cases h
    rename_i hs
    exact small_lt hs
theorem out_back {α γ : Type} {m : M α} {f : α → M γ} {s : Sto} {Qk : γ → Sto → Prop} {Qe : Exc → Sto → Prop} (h : Out (m s) (fun a s' => Out (f a s') Qk Qe) Qe) : Out (bnd m f s) Qk Qe := by
  unfold bnd
  cases e : m s <;> rw [e] at h <;> exact h
end
section
variable {g : G} {ge : GE} {X : Cx} {n : Nat} {W : WX} {a b c tg : Expr} {pos p : Pos}
/-- what the value of an iterable is, before anything is run -/
inductive ItKind where
  | l | t | s
def kindOf : D → ItKind
  | .tup _ => .t
  | .str _ => .s
  | _ => .l
theorem si_seq {ma : Sl → M VV} (hx : XOk g X n W) (ha : PE X a (tEv g ge W ma)) :
    PI X tg a (tEvI g ge W fun φ => bnd (ma φ) fun v => bnd (freeze v) fun x => M.opt (itemsD x)) := by
  have h1 : PI X tg a (iList g.K (tEv g ge W ma)) := hx.K ▸ pi_list ha
  have h2 : PI X tg a (iTup g.K (tEv g ge W ma)) := hx.K ▸ pi_tup ha
  refine (h1.or (h2.or (pi_str ha))).weak fun σ H R ⟨S, φ, β, e, k, sl, q⟩ => ?_
  subst e
  have st : ∀ (P : V → Hp → Prop), (∀ v β1 u S1, ma φ β = .ok v β1 → Le S S1 → OkS g β1 S1 → RepV g S1 u v → Out (bnd (freeze v) (fun x => M.opt (itemsD x)) β1) (Kw g S R) (Ke g ge S W σ) → P u S1.H) → tEv g ge W ma σ S.H P := fun P hP => by
    refine ⟨S, φ, β, rfl, k, sl, ?_⟩
    have q1 := out_bnd q
    cases em : ma φ β with
    | bad => rw [em] at q1; exact q1.elim
    | exc e s => rw [em] at q1; exact q1
    | ok v β1 =>
      rw [em] at q1
      intro u S1 l1 k1 r1
      exact hP v β1 u S1 em l1 k1 r1 q1
  -- the kind, if a value comes
  have kd : ∃ kk : ItKind, ∀ v β1 x β2, ma φ β = .ok v β1 → freeze v β1 = .ok x β2 → kindOf x = kk := by
    cases em : ma φ β with
    | ok v β1 =>
      cases ef : freeze v β1 with
      | ok x β2 => exact ⟨kindOf x, fun v' β1' x' β2' e1 e2 => by cases e1; rw [ef] at e2; cases e2; rfl⟩
      | exc e s => exact ⟨.l, fun v' β1' x' β2' e1 e2 => by cases e1; rw [ef] at e2; cases e2⟩
      | bad => exact ⟨.l, fun v' β1' x' β2' e1 e2 => by cases e1; rw [ef] at e2; cases e2⟩
    | exc e s => exact ⟨.l, fun v' β1' x' β2' e1 e2 => by cases e1⟩
    | bad => exact ⟨.l, fun v' β1' x' β2' e1 e2 => by cases e1⟩
  obtain ⟨kk, hkk⟩ := kd
  have main : ∀ {v : VV} {β1 : Sto} {u : V} {S1 : Sx}, ma φ β = .ok v β1 → Le S S1 → OkS g β1 S1 → RepV g S1 u v → Out (bnd (freeze v) (fun x => M.opt (itemsD x)) β1) (Kw g S R) (Ke g ge S W σ) →
      ∃ x S2 β2 xs, kindOf x = kk ∧ Le S S2 ∧ S2.H = S1.H ∧ OkS g β2 S2 ∧ Rep g.K g.cl S2.F u x ∧ itemsD x = some xs ∧ Kw g S R xs β2 := fun {v β1 u S1} em l1 k1 r1 q1 => by
    have q2 := out_bnd q1
    cases ef : freeze v β1 with
    | bad => rw [ef] at q2; exact q2.elim
    | exc e s =>
      cases v with
      | d x => cases ef
      | box m =>
        unfold freeze at ef
        dsimp only at ef
        split at ef <;> cases ef
      | clo _ _ => cases ef
      | bxs _ => cases ef
    | ok x β2 =>
      have fr : Out (freeze v β1) (fun x' β' => x' = x ∧ β' = β2) (fun _ _ => False) := by rw [ef]; exact ⟨rfl, rfl⟩
      obtain ⟨x', S2, β', ⟨rfl, rfl⟩, l2, k2, eH, rx⟩ := freeze_ok k1 r1 fr
      rw [ef] at q2
      obtain ⟨xs, e, q3⟩ := out_opt q2
      exact ⟨x', S2, β', xs, hkk _ _ _ _ em ef, l1.trans l2, eH, k2, rx, e, q3⟩
  cases kk with
  | l =>
    refine .inl (st _ fun v β1 u S1 em l1 k1 r1 q1 => ?_)
    obtain ⟨x, S2, β2, xs, hk, l, eH, k2, rx, ei, q2⟩ := main em l1 k1 r1 q1
    rw [← eH]
    cases x with
    | lst ys =>
      have : ys = xs := by unfold itemsD at ei; dsimp only at ei; split at ei <;> cases ei; rfl
      subst this
      cases rx with
      | lst h r => exact ⟨_, rfl, ⟨_, SqL.of (k2.sub _ _ h)⟩, q2 S2 _ l k2 (walk_lst (seq_lt ei) (SqL.of h) r)⟩
    | lck ys =>
      have : ys = xs := by unfold itemsD at ei; dsimp only at ei; split at ei <;> cases ei; rfl
      subst this
      cases rx with
      | lck h r => exact ⟨_, rfl, ⟨_, k2.same.seq h⟩, q2 S2 _ l k2 (walk_lst (seq_lt ei) h r)⟩
    | tup ys => cases hk
    | str ys => cases hk
    | _ => cases ei
  | t =>
    refine .inr (.inl (st _ fun v β1 u S1 em l1 k1 r1 q1 => ?_))
    obtain ⟨x, S2, β2, xs, hk, l, eH, k2, rx, ei, q2⟩ := main em l1 k1 r1 q1
    rw [← eH]
    cases x with
    | tup ys =>
      have : ys = xs := by unfold itemsD at ei; dsimp only at ei; split at ei <;> cases ei; rfl
      subst this
      cases rx with
      | tup h r => exact ⟨_, rfl, ⟨_, (SqT.of (k2.sub _ _ h))⟩, q2 S2 _ l k2 (walk_tup (seq_lt ei) (SqT.of h) r)⟩
    | _ => cases hk
  | s =>
    refine .inr (.inr (st _ fun v β1 u S1 em l1 k1 r1 q1 => ?_))
    obtain ⟨x, S2, β2, xs, hk, l, eH, k2, rx, ei, q2⟩ := main em l1 k1 r1 q1
    rw [← eH]
    cases x with
    | str ys =>
      have : chrsD ys = xs := by unfold itemsD at ei; dsimp only at ei; split at ei <;> cases ei; rfl
      subst this
      cases rx
      exact ⟨_, rfl, q2 S2 _ l k2 (walk_str ys (seq_lt ei))⟩
    | _ => cases hk
theorem si_enum {elts : List Expr} {kk : Nat} {tpos : Pos} {x : Str} {ma : Sl → M VV} (hx : XOk g X n W) (hxn : x = "enumerate") (hg : Gl X x) (hm : g.mg x = none) (ha : PE X a (tEv g ge W ma)) (hs : starEach [a] X.env = (false, eval a X.env) :: starEach [] X.env) :
    PI X (.Tuple elts kk tpos) (.Call (.Name x p) [a] [] pos) (tEvI g ge W fun φ => bnd (ma φ) fun v => bnd (freeze v) fun x => bnd (M.opt (seqD x)) fun xs => ret (enumD 0 xs)) := by
  subst hxn
  have hm' : X.mg "enumerate" = none := by rw [hx.mg]; exact hm
  have hs' : starEach [a] X.env = [(false, eval a X.env)] := hs
  have pa : PA X [a] (tCons (tEv g ge W ma) tNil) := pa_cons ha pa_nil hs
  have h1 : PI X (.Tuple elts kk tpos) (.Call (.Name "enumerate" p) [a] [] pos) (iEnum g.K (tCons (tEv g ge W ma) tNil)) := hx.K ▸ pi_enum hg hm' pa hs'
  have h2 : PI X (.Tuple elts kk tpos) (.Call (.Name "enumerate" p) [a] [] pos) (iEnumT g.K (tCons (tEv g ge W ma) tNil)) := hx.K ▸ pi_enumT hg hm' pa hs'
  refine (h1.or h2).weak fun σ H R ⟨S, φ, β, e, k, sl, q⟩ => ?_
  subst e
  have st : ∀ (P : V → Hp → Prop), (∀ v β1 u S1, ma φ β = .ok v β1 → Le S S1 → OkS g β1 S1 → RepV g S1 u v → Out (bnd (freeze v) (fun x => bnd (M.opt (seqD x)) fun xs => ret (enumD 0 xs)) β1) (Kw g S R) (Ke g ge S W σ) → P u S1.H) → tEv g ge W ma σ S.H P := fun P hP => by
    refine ⟨S, φ, β, rfl, k, sl, ?_⟩
    have q1 := out_bnd q
    cases em : ma φ β with
    | bad => rw [em] at q1; exact q1.elim
    | exc e s => rw [em] at q1; exact q1
    | ok v β1 =>
      rw [em] at q1
      intro u S1 l1 k1 r1
      exact hP v β1 u S1 em l1 k1 r1 q1
  have kd : ∃ kk : ItKind, ∀ v β1 x β2, ma φ β = .ok v β1 → freeze v β1 = .ok x β2 → kindOf x = kk := by
    cases em : ma φ β with
    | ok v β1 =>
      cases ef : freeze v β1 with
      | ok x β2 => exact ⟨kindOf x, fun v' β1' x' β2' e1 e2 => by cases e1; rw [ef] at e2; cases e2; rfl⟩
      | exc e s => exact ⟨.l, fun v' β1' x' β2' e1 e2 => by cases e1; rw [ef] at e2; cases e2⟩
      | bad => exact ⟨.l, fun v' β1' x' β2' e1 e2 => by cases e1; rw [ef] at e2; cases e2⟩
    | exc e s => exact ⟨.l, fun v' β1' x' β2' e1 e2 => by cases e1⟩
    | bad => exact ⟨.l, fun v' β1' x' β2' e1 e2 => by cases e1⟩
  obtain ⟨kk, hkk⟩ := kd
  have main : ∀ {v : VV} {β1 : Sto} {u : V} {S1 : Sx}, ma φ β = .ok v β1 → Le S S1 → OkS g β1 S1 → RepV g S1 u v → Out (bnd (freeze v) (fun x => bnd (M.opt (seqD x)) fun xs => ret (enumD 0 xs)) β1) (Kw g S R) (Ke g ge S W σ) →
      ∃ x S2 β2 xs, kindOf x = kk ∧ Le S S2 ∧ S2.H = S1.H ∧ OkS g β2 S2 ∧ Rep g.K g.cl S2.F u x ∧ seqD x = some xs ∧ Kw g S R (enumD 0 xs) β2 := fun {v β1 u S1} em l1 k1 r1 q1 => by
    have q2 := out_bnd q1
    cases ef : freeze v β1 with
    | bad => rw [ef] at q2; exact q2.elim
    | exc e s =>
      cases v with
      | d x => cases ef
      | box m =>
        unfold freeze at ef
        dsimp only at ef
        split at ef <;> cases ef
      | clo _ _ => cases ef
      | bxs _ => cases ef
    | ok x β2 =>
      have fr : Out (freeze v β1) (fun x' β' => x' = x ∧ β' = β2) (fun _ _ => False) := by rw [ef]; exact ⟨rfl, rfl⟩
      obtain ⟨x', S2, β', ⟨rfl, rfl⟩, l2, k2, eH, rx⟩ := freeze_ok k1 r1 fr
      rw [ef] at q2
      obtain ⟨xs, e, q3⟩ := out_opt (out_bnd q2)
      exact ⟨x', S2, β', xs, hkk _ _ _ _ em ef, l1.trans l2, eH, k2, rx, e, q3⟩
  have lists : kk ≠ .t → tEv g ge W ma σ S.H (fun u H1 => ∃ p' ys, [u] = [V.ref p'] ∧ SqL g.K H1 p' ys ∧ R (Ite g.K p') H1) := fun hne => by
    refine st _ fun v β1 u S1 em l1 k1 r1 q1 => ?_
    obtain ⟨x, S2, β2, xs, hk, l, eH, k2, rx, ei, q2⟩ := main em l1 k1 r1 q1
    rw [← eH]
    cases x with
    | lst ys =>
      have : ys = xs := by unfold seqD at ei; dsimp only at ei; split at ei <;> cases ei; rfl
      subst this
      cases rx with
      | lst h r => exact ⟨_, _, rfl, SqL.of (k2.sub _ _ h), q2 S2 _ l k2 (walk_enum (seq_lt' ei) (SqL.of h) r)⟩
    | lck ys =>
      have : ys = xs := by unfold seqD at ei; dsimp only at ei; split at ei <;> cases ei; rfl
      subst this
      cases rx with
      | lck h r => exact ⟨_, _, rfl, k2.same.seq h, q2 S2 _ l k2 (walk_enum (seq_lt' ei) h r)⟩
    | tup ys => exact absurd hk.symm hne
    | _ => cases ei
  cases kk with
  | l => exact .inl (lists (by intro z; cases z))
  | s => exact .inl (lists (by intro z; cases z))
  | t =>
    refine .inr (st _ fun v β1 u S1 em l1 k1 r1 q1 => ?_)
    obtain ⟨x, S2, β2, xs, hk, l, eH, k2, rx, ei, q2⟩ := main em l1 k1 r1 q1
    rw [← eH]
    cases x with
    | tup ys =>
      have : ys = xs := by unfold seqD at ei; dsimp only at ei; split at ei <;> cases ei; rfl
      subst this
      cases rx with
      | tup h r => exact ⟨_, _, rfl, (SqT.of (k2.sub _ _ h)), q2 S2 _ l k2 (walk_enumT (seq_lt' ei) (SqT.of h) r)⟩
    | _ => cases hk
theorem walk_enumS {S : Sx} (x : Str) (hz : (chrsD x).length < sizeLine) : WalkJ g S (IteS x) (enumD 0 (chrsD x)) := by
  refine ⟨by rw [enumD_len]; exact hz, fun S' β l k => ?_⟩
  refine ⟨?_, fun i y hy => ?_⟩
  · show x.cps.size ≤ _
    rw [enumD_len]; simp [chrsD]
  · obtain ⟨z, hz', rfl⟩ := enumD_get hy
    unfold chrsD at hz'
    rw [List.getElem?_map] at hz'
    cases e : x.cps.toList[i]? with
    | none => rw [e] at hz'; simp at hz'
    | some c =>
      rw [e] at hz'; simp at hz'
      subst hz'
      have hc : x.cps[i]? = some c := by rw [← Array.getElem?_toList]; exact e
      refine ⟨(Array.getElem?_eq_some_iff.mp hc).1, fun w H' ⟨t, c', e1, e2, e3, e4⟩ => ?_⟩
      rw [hc] at e3; cases e3
      exact walk_pair k e2 e1 e4 (.str _)
theorem si_enumS {elts : List Expr} {kk : Nat} {tpos : Pos} {x : Str} {ma : Sl → M VV} (hx : XOk g X n W) (hxn : x = "enumerate") (hg : Gl X x) (hm : g.mg x = none) (ha : PE X a (tEv g ge W ma)) (hs : starEach [a] X.env = (false, eval a X.env) :: starEach [] X.env) :
    PI X (.Tuple elts kk tpos) (.Call (.Name x p) [a] [] pos) (tEvI g ge W fun φ => bnd (ma φ) fun v => bnd (dataOf v) fun x => match x with
      | .str s => if small s.length then ret (enumD 0 (chrsD s)) else bad
      | _ => bad) := by
  subst hxn
  have hm' : X.mg "enumerate" = none := by rw [hx.mg]; exact hm
  refine (pi_enumS hg hm' (pa_cons ha pa_nil hs) hs).weak fun σ H R ⟨S, φ, β, e, k, sl, q⟩ => ?_
  subst e
  refine ⟨S, φ, β, rfl, k, sl, (out_bnd q).imp (fun v β1 q1 u S1 l1 k1 r1 => ?_) fun _ _ z => z⟩
  obtain ⟨y, rfl, q2⟩ := out_data (out_bnd q1)
  have r := r1.d'
  cases y with
  | str s =>
    cases r
    obtain ⟨hs, q3⟩ := out_if q2
    have q3 : Kw g S R (enumD 0 (chrsD s)) β1 := q3
    exact ⟨s, rfl, q3 S1 _ l1 k1 (walk_enumS s (by unfold chrsD; rw [List.length_map, Array.length_toList]; exact small_lt hs))⟩
  | _ => exact q2.elim
theorem si_rng1 {x : Str} {ma : Sl → M VV} (hx : XOk g X n W) (hxn : x = "range") (hg : Gl X x) (hm : g.mg x = none) (ha : PE X a (tEv g ge W ma)) (hs : starEach [a] X.env = (false, eval a X.env) :: starEach [] X.env) :
    PI X tg (.Call (.Name x p) [a] [] pos) (tEvI g ge W fun φ => bnd (ma φ) fun v => bnd (dataOf v) fun x => bnd (asInt x) fun n => if rngOk n then ret (rngD 0 n.toNat) else bad) := by
  subst hxn
  have hm' : X.mg "range" = none := by rw [hx.mg]; exact hm
  refine (pi_range1 hg hm' (pa_cons ha pa_nil hs) hs).weak fun σ H R ⟨S, φ, β, e, k, sl, q⟩ => ?_
  subst e
  refine ⟨S, φ, β, rfl, k, sl, (out_bnd q).imp (fun v β1 q1 u S1 l1 k1 r1 => ?_) fun _ _ z => z⟩
  obtain ⟨y, rfl, q2⟩ := out_data (out_bnd q1)
  have r := r1.d'
  cases y with
  | int i =>
    cases r
    have q3 : Out ((if rngOk i = true then ret (rngD 0 i.toNat) else bad) β1) (Kw g S R) (Ke g ge S W σ) := out_bnd q2
    obtain ⟨ho, q4⟩ := out_if q3
    have ho := of_decide_eq_true ho
    exact ⟨i, rfl, by omega, by omega, q4 S1 _ l1 k1 (walk_rng 0 _ (by rw [sizeLine_eq]; omega))⟩
  | _ => exact (out_bnd q2).elim
theorem si_rng2 {x : Str} {ma mb : Sl → M VV} (hx : XOk g X n W) (hxn : x = "range") (hg : Gl X x) (hm : g.mg x = none) (ha : PE X a (tEv g ge W ma)) (hb : PE X b (tEv g ge W mb)) (hs : starEach [a, b] X.env = (false, eval a X.env) :: starEach [b] X.env) (hs2 : starEach [b] X.env = (false, eval b X.env) :: starEach [] X.env) :
    PI X tg (.Call (.Name x p) [a, b] [] pos) (tEvI g ge W fun φ => bnd (ma φ) fun v => bnd (mb φ) fun w => bnd (dataOf v) fun x => bnd (dataOf w) fun y => bnd (asInt x) fun i => bnd (asInt y) fun j => if rngOk i && rngOk j then ret (rngD i (j - i).toNat) else bad) := by
  subst hxn
  have hm' : X.mg "range" = none := by rw [hx.mg]; exact hm
  refine (pi_range2 hg hm' (pa_cons ha (pa_cons hb pa_nil hs2) hs) (by rw [hs, hs2]; rfl) hs2).weak fun σ H R ⟨S, φ, β, e, k, sl, q⟩ => ?_
  subst e
  refine ⟨S, φ, β, rfl, k, sl, (out_bnd q).imp (fun v β1 q1 u S1 l1 k1 r1 => ?_) fun _ _ z => z⟩
  refine ⟨S1, φ, β1, rfl, k1, sl.mono l1, (out_bnd q1).imp (fun w β2 q2 u2 S2 l2 k2 r2 => ?_) fun _ _ z => z.mono l1⟩
  obtain ⟨y, rfl, q3⟩ := out_data (out_bnd q2)
  obtain ⟨y2, rfl, q4⟩ := out_data (out_bnd q3)
  have r := r1.d'
  have r' := r2.d'
  cases y with
  | int i =>
    cases r
    have q5 : Out (bnd (asInt y2) (fun j => if (rngOk i && rngOk j) = true then ret (rngD i (j - i).toNat) else bad) β2) (Kw g S R) (Ke g ge S W σ) := out_bnd q4
    cases y2 with
    | int j =>
      cases r'
      have q6 : Out ((if (rngOk i && rngOk j) = true then ret (rngD i (j - i).toNat) else bad) β2) (Kw g S R) (Ke g ge S W σ) := out_bnd q5
      obtain ⟨ho, q7⟩ := out_if q6
      rw [Bool.and_eq_true] at ho
      have h1 := of_decide_eq_true ho.1
      have h2 := of_decide_eq_true ho.2
      exact ⟨i, j, rfl, by omega, q7 S2 _ (l1.trans l2) k2 (walk_rng i _ (by rw [sizeLine_eq]; omega))⟩
    | _ => exact (out_bnd q5).elim
  | _ => exact (out_bnd q4).elim
end
end VI

set_option maxHeartbeats 2000000
/-! V11z: zip. -/
namespace VI
open PySem L2 M
open PyProof.Rows
open LamX (CodeO TabB ExtN)
section
variable {g : G} {ge : GE} {S : Sx} {β : Sto}
theorem zipW_get {xs ys : List D} {i : Nat} {x : D} (h : (List.zipWith (fun a b => D.tup [a, b]) xs ys)[i]? = some x) : ∃ a b, xs[i]? = some a ∧ ys[i]? = some b ∧ x = .tup [a, b] := by
  rw [List.getElem?_zipWith] at h
  cases ea : xs[i]? with
  | none => rw [ea] at h; cases h
  | some a =>
    cases eb : ys[i]? with
    | none => rw [ea, eb] at h; cases h
    | some b => rw [ea, eb] at h; cases h; exact ⟨a, b, rfl, rfl, rfl⟩
theorem walk_two {S' : Sx} {β : Sto} {w y y' : V} {z z' : D} {H' : Hp} {t : Addr} (k : OkS g β S') (hn : S'.H t = none) (hw : w = .ref t) (hH : H' = upd S'.H t (.tup [y, y'])) (r : Rep g.K g.cl S'.F y z) (r' : Rep g.K g.cl S'.F y' z') :
    ∃ S'', Le S' S'' ∧ OkS g β S'' ∧ S''.H = H' ∧ Rep g.K g.cl S''.F w (.tup [z, z']) := by
  subst hw hH
  exact ⟨S'.add t (.tup [y, y']), Le.add k hn, k.add hn (fun _ z => by cases z) (fun _ z => by cases z), rfl, rep_tup k hn (.cons r (.cons r' .nil))⟩
theorem walk_zipT {p q : Addr} {vs ws : List V} {xs ys : List D} (hz : xs.length < sizeLine) (h : SqT g.K S.F p vs) (h' : SqT g.K S.F q ws) (r : Reps g.K g.cl S.F vs xs) (r' : Reps g.K g.cl S.F ws ys) : WalkJ g S (RZ.ItzT g.K p q) (List.zipWith (fun a b => .tup [a, b]) xs ys) := by
  refine ⟨by rw [List.length_zipWith]; omega, fun S' β l k => ?_⟩
  have h1 : SqT g.K S'.H p vs := seqT k.same (seqT l h)
  have h2 : SqT g.K S'.H q ws := seqT k.same (seqT l h')
  refine ⟨⟨vs, ws, h1, h2, by rw [r.len, r'.len, List.length_zipWith]; omega⟩, fun i x hx => ?_⟩
  obtain ⟨a, b, ea, eb, rfl⟩ := zipW_get hx
  obtain ⟨v, hv, rv⟩ := r.get' ea
  obtain ⟨v', hv', rv'⟩ := r'.get' eb
  refine ⟨⟨vs, ws, v, v', h1, h2, hv, hv'⟩, fun w H' ⟨t, y, y', e1, e2, e3, e4, e5⟩ => ?_⟩
  have a1 := e4 vs h1
  rw [hv] at a1; cases a1
  have a2 := e5 ws h2
  rw [hv'] at a2; cases a2
  exact walk_two k e2 e1 e3 (rv.mono l) (rv'.mono l)
theorem walk_zipL {p q : Addr} {vs ws : List V} {xs ys : List D} (hz : xs.length < sizeLine) (h : SqL g.K S.F p vs) (h' : SqL g.K S.F q ws) (r : Reps g.K g.cl S.F vs xs) (r' : Reps g.K g.cl S.F ws ys) : WalkJ g S (Itz g.K p q) (List.zipWith (fun a b => .tup [a, b]) xs ys) := by
  refine ⟨by rw [List.length_zipWith]; omega, fun S' β l k => ?_⟩
  have h1 : SqL g.K S'.H p vs := k.same.seq (l.seq h)
  have h2 : SqL g.K S'.H q ws := k.same.seq (l.seq h')
  refine ⟨⟨vs, ws, h1, h2, by rw [r.len, r'.len, List.length_zipWith]; omega⟩, fun i x hx => ?_⟩
  obtain ⟨a, b, ea, eb, rfl⟩ := zipW_get hx
  obtain ⟨v, hv, rv⟩ := r.get' ea
  obtain ⟨v', hv', rv'⟩ := r'.get' eb
  refine ⟨⟨vs, ws, v, v', h1, h2, hv, hv'⟩, fun w H' ⟨t, y, y', e1, e2, e3, e4, e5⟩ => ?_⟩
  have a1 := e4 vs h1
  rw [hv] at a1; cases a1
  have a2 := e5 ws h2
  rw [hv'] at a2; cases a2
  exact walk_two k e2 e1 e3 (rv.mono l) (rv'.mono l)
end
section
variable {g : G} {ge : GE} {X : Cx} {n : Nat} {W : WX} {a b c tg : Expr} {pos p : Pos}
theorem si_zip {elts : List Expr} {kk : Nat} {tpos : Pos} {x : Str} {ma mb : Sl → M VV} (hx : XOk g X n W) (hxn : x = "zip") (hg : Gl X x) (hm : g.mg x = none) (ha : PE X a (tEv g ge W ma)) (hb : PE X b (tEv g ge W mb))
    (hs : starEach [a, b] X.env = (false, eval a X.env) :: starEach [b] X.env) (hs2 : starEach [b] X.env = (false, eval b X.env) :: starEach [] X.env) :
    PI X (.Tuple elts kk tpos) (.Call (.Name x p) [a, b] [] pos) (tEvI g ge W fun φ => bnd (ma φ) fun u => bnd (mb φ) fun v => bnd (dataOf u) fun x => bnd (dataOf v) fun y => M.opt (zipD x y)) := by
  subst hxn
  have hm' : X.mg "zip" = none := by rw [hx.mg]; exact hm
  refine (RZ.pi_zipA hg hm' (pa_cons ha (pa_cons hb pa_nil hs2) hs) hs (by rw [hs2]; rfl)).weak fun σ H R ⟨S, φ, β, e, k, sl, q⟩ => ?_
  subst e
  refine ⟨S, φ, β, rfl, k, sl, (out_bnd q).imp (fun v β1 q1 u S1 l1 k1 r1 => ?_) fun _ _ z => z⟩
  refine ⟨S1, φ, β1, rfl, k1, sl.mono l1, (out_bnd q1).imp (fun w β2 q2 u2 S2 l2 k2 r2 => ?_) fun _ _ z => z.mono l1⟩
  obtain ⟨y, rfl, q3⟩ := out_data (out_bnd q2)
  obtain ⟨y2, rfl, q4⟩ := out_data (out_bnd q3)
  obtain ⟨xs, e, q5⟩ := out_opt q4
  have r := r1.d'.mono l2.F
  have r' := r2.d'
  unfold zipD at e
  split at e
  · split at e <;> cases e
    rename_i hsm
    cases r with
    | tup h rr =>
      cases r' with
      | tup h' rr' =>
        rw [hx.K]
        exact ⟨_, _, _, _, rfl, .inr ⟨SqT.of (k2.sub _ _ h), SqT.of (k2.sub _ _ h'), q5 S2 _ (l1.trans l2) k2 (walk_zipT (small_lt hsm) (SqT.of h) (SqT.of h') rr rr')⟩⟩
  · split at e <;> cases e
    rename_i hsm
    cases r with
    | lst h rr =>
      cases r' with
      | lst h' rr' =>
        rw [hx.K]
        exact ⟨_, _, _, _, rfl, .inl ⟨SqL.of (k2.sub _ _ h), SqL.of (k2.sub _ _ h'), q5 S2 _ (l1.trans l2) k2 (walk_zipL (small_lt hsm) (SqL.of h) (SqL.of h') rr rr')⟩⟩
  · cases e
end
end VI

set_option maxHeartbeats 2000000
/-! V12: boxes changed; targets. -/
namespace VI
open PySem L2 M
open LamX (CodeO TabB ExtN)
section
variable {g : G} {S S' : Sx} {β : Sto} {p : Addr} {o : HO}
/-- neither a table nor a code object -/
def NotTab : HO → Prop
  | .tbl _ => False
  | .ext _ => False
  | _ => True
theorem tabs_upd {T : List (Addr × Str)} {H H' : Hp} {o : HO} (t : LamX.Tabs T H) (h : H p = some o) (n : NotTab o) (e : ∀ b, b ≠ p → H' b = H b) : LamX.Tabs T H' := fun q hq => by
  obtain ⟨ps, h1, h2, h3⟩ := t q hq
  refine ⟨ps, ?_, h2, fun pos cv hc => ?_⟩
  · rw [e _ (fun z => by rw [z, h] at h1; cases h1; exact n)]; exact h1
  · obtain ⟨c, e1, e2⟩ := h3 pos cv hc
    refine ⟨c, e1, ?_⟩
    rw [e _ (fun z => by rw [z, h] at e2; cases e2; exact n)]; exact e2
theorem ctok_upd {ct : Ct} {F H : Hp} {q : Addr} {o' : HO} (h : CtOk g F H q ct) (hq : q ≠ p) (ho : ∀ x, H p ≠ some (.own x)) : CtOk g F (upd H p o') q ct := by
  cases ct with
  | lst xs => obtain ⟨vs, a, b⟩ := h; exact ⟨vs, by rw [upd_ne hq]; exact a, b⟩
  | dic t kvs =>
    cases t with
    | false => obtain ⟨vs, a, b⟩ := h; exact ⟨vs, by rw [upd_ne hq]; exact a, b⟩
    | true => obtain ⟨vs, a, b⟩ := h; exact ⟨vs, by rw [upd_ne hq]; exact a, b⟩
  | fdic t kvs =>
    cases t with
    | false => obtain ⟨od, vs, a, b⟩ := h; exact ⟨od, vs, by rw [upd_ne hq]; exact a, b⟩
    | true => obtain ⟨od, vs, a, b⟩ := h; exact ⟨od, vs, by rw [upd_ne hq]; exact a, b⟩
  | obj c fs =>
    obtain ⟨C, dx, r, hC, a, b, c⟩ := h
    refine ⟨C, dx, r, hC, by rw [upd_ne hq]; exact a, ?_, c⟩
    rw [upd_ne (fun z : dx = p => ho q (by rw [← z]; exact b))]; exact b
/-- the box at p gets a new content -/
theorem OkS.put {n : Nat} {ct ct' : Ct} (k : OkS g β S) (h : S.ι[n]? = some p) (hb : β[n]? = some ⟨ct, true⟩) {o0 : HO} (h0 : S.H p = some o0) (n0 : NotTab o0) (n1 : NotTab o) (hw0 : ∀ x, o0 ≠ .own x) (hw : ∀ x, o ≠ .own x) (hc : CtOk g S.F (upd S.H p o) p ct') :
    OkS g (β.set n ⟨ct', true⟩) ⟨S.ι, S.F, upd S.H p o⟩ ∧ Le S ⟨S.ι, S.F, upd S.H p o⟩ := by
  have hmem : p ∈ S.ι := List.mem_of_getElem? h
  obtain ⟨p', e1, e2⟩ := k.bx n _ hb
  rw [h] at e1; cases e1
  unfold BxOk at e2
  rw [if_pos rfl] at e2
  obtain ⟨hF, _⟩ := e2
  have hno : ∀ x, S.H p ≠ some (.own x) := fun x z => hw0 x (by rw [h0] at z; exact Option.some.inj z)
  refine ⟨⟨fun b u e => ?_, k.ntb, by simp [k.len], fun m b e => ?_, k.inj, fun q hq e => ?_, fun b x e => ?_, tabs_upd k.tabs h0 n0 fun b hb => upd_ne hb⟩, ⟨⟨[], by simp⟩, .refl _, fun b u e hn _ => ?_, fun b ps e => ?_, fun b u e => ?_, fun b h1 h2 => absurd h2 h1, fun b h => .inl h⟩⟩
  · have hne : b ≠ p := fun z => by rw [z, hF] at e; cases e
    show upd S.H p o b = _
    rw [upd_ne hne]; exact k.sub b u e
  · by_cases hm : n = m
    · subst hm
      rw [List.getElem?_set] at e
      simp only [if_true] at e
      split at e <;> cases e
      refine ⟨p, h, ?_⟩
      unfold BxOk
      rw [if_pos rfl]
      exact ⟨hF, hc⟩
    · rw [List.getElem?_set_ne hm] at e
      obtain ⟨q, e1, e2⟩ := k.bx m b e
      refine ⟨q, e1, ?_⟩
      unfold BxOk at e2 ⊢
      split
      · rename_i hl
        rw [if_pos hl] at e2
        exact ⟨e2.1, ctok_upd e2.2 (fun z => hm (k.inj n m p h (z ▸ e1))) hno⟩
      · rename_i hl
        rw [if_neg hl] at e2
        exact e2
  · have e : upd S.H p o q = none := e
    by_cases hb : q = p
    · subst hb; rw [upd_same] at e; cases e
    · rw [upd_ne hb] at e; exact k.tracked q hq e
  · have e : upd S.H p o b = some (.own x) := e
    by_cases hb : b = p
    · subst hb; rw [upd_same] at e; cases e; exact absurd rfl (hw x)
    · rw [upd_ne hb] at e; exact k.own b x e
  · show upd S.H p o b = _
    rw [upd_ne (fun z : b = p => hn (by rw [z]; exact hmem))]; exact e
  · have hne : b ≠ p := fun z => by rw [z, h0] at e; cases e; exact n0
    exact ⟨ps, by show upd S.H p o b = _; rw [upd_ne hne]; exact e⟩
  · by_cases hb : b = p
    · exact ⟨o, by show upd S.H p o b = _; rw [hb]; exact upd_same⟩
    · exact ⟨u, by show upd S.H p o b = _; rw [upd_ne hb]; exact e⟩
/-- an untracked thing is taken out of what is known -/
abbrev Sx.era (S : Sx) (p : Addr) : Sx := ⟨S.ι, S.F, fun b => if b = p then none else S.H b⟩
theorem OkS.eraO (k : OkS g β S) (hF : S.F p = none) (hp : p ∉ S.ι) {oo : HO} (h : S.H p = some oo) (n0 : NotTab oo) (hw : ∀ x, oo ≠ .own x) : OkS g β (S.era p) := by
  have ne : ∀ b, b ≠ p → (if b = p then none else S.H b) = S.H b := fun b hb => if_neg hb
  have cx : ∀ {ct : Ct} {q : Addr}, q ≠ p → CtOk g S.F S.H q ct → CtOk g S.F (S.era p).H q ct := fun {ct q} hq h' => by
    cases ct with
    | lst xs => obtain ⟨vs, a, b⟩ := h'; exact ⟨vs, by show (if q = p then none else S.H q) = _; rw [ne q hq]; exact a, b⟩
    | dic t kvs =>
      cases t with
      | false => obtain ⟨vs, a, b⟩ := h'; exact ⟨vs, by show (if q = p then none else S.H q) = _; rw [ne q hq]; exact a, b⟩
      | true => obtain ⟨vs, a, b⟩ := h'; exact ⟨vs, by show (if q = p then none else S.H q) = _; rw [ne q hq]; exact a, b⟩
    | fdic t kvs =>
      cases t with
      | false => obtain ⟨od, vs, a, b⟩ := h'; exact ⟨od, vs, by show (if q = p then none else S.H q) = _; rw [ne q hq]; exact a, b⟩
      | true => obtain ⟨od, vs, a, b⟩ := h'; exact ⟨od, vs, by show (if q = p then none else S.H q) = _; rw [ne q hq]; exact a, b⟩
    | obj c fs =>
      obtain ⟨C, dx, r, hC, a, b, c⟩ := h'
      refine ⟨C, dx, r, hC, by show (if q = p then none else S.H q) = _; rw [ne q hq]; exact a, ?_, c⟩
      show (if dx = p then none else S.H dx) = _
      rw [ne dx (fun z => by rw [z, h] at b; cases b; exact hw _ rfl)]; exact b
  refine ⟨fun b u e => ?_, k.ntb, k.len, fun m b e => ?_, k.inj, fun q hq e => ?_, fun b x e => ?_, tabs_upd k.tabs h n0 ne⟩
  · show (if b = p then none else S.H b) = _
    rw [ne b (fun z => by rw [z, hF] at e; cases e)]; exact k.sub b u e
  · obtain ⟨q, e1, e2⟩ := k.bx m b e
    refine ⟨q, e1, ?_⟩
    unfold BxOk at e2 ⊢
    split
    · rename_i hl
      rw [if_pos hl] at e2
      exact ⟨e2.1, cx (fun z => hp (z ▸ List.mem_of_getElem? e1)) e2.2⟩
    · rename_i hl
      rw [if_neg hl] at e2
      exact e2
  · have e : (if q = p then none else S.H q) = none := e
    rw [ne q (fun z => hp (z ▸ hq))] at e
    exact k.tracked q hq e
  · have e : (if b = p then none else S.H b) = some (.own x) := e
    by_cases hb : b = p
    · rw [if_pos hb] at e; cases e
    · rw [if_neg hb] at e; exact k.own b x e
theorem OkS.era (k : OkS g β S) (hF : S.F p = none) (hp : p ∉ S.ι) {l : List V} (h : S.H p = some (.lst l)) : OkS g β (S.era p) := k.eraO hF hp h trivial (fun _ z => by cases z)
theorem Le.era {S2 : Sx} (l : Le S2 S) (h : S2.H p = none) : Le S2 (S.era p) := by
  have ne : ∀ b o, S2.H b = some o → b ≠ p := fun b o e z => by rw [z, h] at e; cases e
  refine ⟨l.ι, l.F, fun b o e hn ht => ?_, fun b ps e => ?_, fun b o e => ?_, l.fresh, l.new⟩
  · show (if b = p then none else S.H b) = _
    rw [if_neg (ne b o e)]; exact l.keep b o e hn ht
  · obtain ⟨qs, z⟩ := l.tbl b ps e
    refine ⟨qs, ?_⟩
    show (if b = p then none else S.H b) = _
    rw [if_neg (ne b _ e)]; exact z
  · obtain ⟨o', z⟩ := l.there b o e
    refine ⟨o', ?_⟩
    show (if b = p then none else S.H b) = _
    rw [if_neg (ne b _ e)]; exact z
theorem era_upd {H : Hp} : upd (fun b => if b = p then none else H b) p o = upd H p o := by
  funext b
  by_cases hb : b = p
  · subst hb; rw [upd_same, upd_same]
  · rw [upd_ne hb, upd_ne hb, if_neg hb]
/-! ### o[i] = v -/
theorem RepK.any {K : PySem.W.Frag} {cl : Nat → Option Addr} {F : Hp} (k : Key) : ∀ {kvs : List (Key × V)} {r : List (D × D)}, RepK K cl F kvs r → (kvs.any fun kv => decide (kv.1 = k)) = (r.any fun p => decide (keyD p.1 = some k))
  | _, _, .nil => rfl
  | _, _, .cons e h t => by
    rw [List.any_cons, List.any_cons, RepK.any k t, e]
    simp
theorem RepK.map {K : PySem.W.Frag} {cl : Nat → Option Addr} {F : Hp} (k : Key) {v : V} {x : D} (rv : Rep K cl F v x) : ∀ {kvs : List (Key × V)} {r : List (D × D)}, RepK K cl F kvs r →
    RepK K cl F (kvs.map (fun kv => if kv.1 = k then (kv.1, v) else kv)) (r.map (fun p => if keyD p.1 = some k then (p.1, x) else p))
  | _, _, .nil => .nil
  | _, _, .cons (k := k') (d := d) e h t => by
    rw [List.map_cons, List.map_cons]
    by_cases hk : k' = k
    · subst hk
      rw [if_pos rfl, if_pos e]
      exact .cons e rv (RepK.map _ rv t)
    · rw [if_neg hk, if_neg (fun z => hk (by rw [e] at z; exact Option.some.inj z))]
      exact .cons e h (RepK.map _ rv t)
theorem RepK.snoc {K : PySem.W.Frag} {cl : Nat → Option Addr} {F : Hp} {k : Key} {d : D} {v : V} {x : D} (hd : keyD d = some k) (rv : Rep K cl F v x) : ∀ {kvs : List (Key × V)} {r : List (D × D)}, RepK K cl F kvs r → RepK K cl F (kvs ++ [(k, v)]) (r ++ [(d, x)])
  | _, _, .nil => .cons hd rv .nil
  | _, _, .cons e h t => .cons e h (RepK.snoc hd rv t)
theorem RepK.put {K : PySem.W.Frag} {cl : Nat → Option Addr} {F : Hp} {k : Key} {d : D} {v : V} {x : D} (hd : keyD d = some k) (rv : Rep K cl F v x) {kvs : List (Key × V)} {r : List (D × D)} (h : RepK K cl F kvs r) : RepK K cl F (putK kvs k v) (putD k d x r) := by
  unfold putK putD
  rw [← h.any k]
  split
  · exact h.map k rv
  · exact h.snoc hd rv
theorem RepK.len {K : PySem.W.Frag} {cl : Nat → Option Addr} {F : Hp} : ∀ {kvs : List (Key × V)} {r : List (D × D)}, RepK K cl F kvs r → kvs.length = r.length
  | _, _, .nil => rfl
  | _, _, .cons _ _ t => congrArg (· + 1) t.len
theorem RepT.any {K : PySem.W.Frag} {cl : Nat → Option Addr} {F : Hp} (k : List Key) : ∀ {kvs : List (List Key × V)} {r : List (D × D)}, RepT K cl F kvs r → (kvs.any fun kv => decide (kv.1 = k)) = (r.any fun p => decide (keyT p.1 = some k))
  | _, _, .nil => rfl
  | _, _, .cons e h t => by
    rw [List.any_cons, List.any_cons, RepT.any k t, e]
    simp
theorem RepT.map {K : PySem.W.Frag} {cl : Nat → Option Addr} {F : Hp} (k : List Key) {v : V} {x : D} (rv : Rep K cl F v x) : ∀ {kvs : List (List Key × V)} {r : List (D × D)}, RepT K cl F kvs r →
    RepT K cl F (kvs.map (fun kv => if kv.1 = k then (kv.1, v) else kv)) (r.map (fun p => if keyT p.1 = some k then (p.1, x) else p))
  | _, _, .nil => .nil
  | _, _, .cons (k := k') (d := d) e h t => by
    rw [List.map_cons, List.map_cons]
    by_cases hk : k' = k
    · subst hk
      rw [if_pos rfl, if_pos e]
      exact .cons e rv (RepT.map _ rv t)
    · rw [if_neg hk, if_neg (fun z => hk (by rw [e] at z; exact Option.some.inj z))]
      exact .cons e h (RepT.map _ rv t)
theorem RepT.snoc {K : PySem.W.Frag} {cl : Nat → Option Addr} {F : Hp} {k : List Key} {d : D} {v : V} {x : D} (hd : keyT d = some k) (rv : Rep K cl F v x) : ∀ {kvs : List (List Key × V)} {r : List (D × D)}, RepT K cl F kvs r → RepT K cl F (kvs ++ [(k, v)]) (r ++ [(d, x)])
  | _, _, .nil => .cons hd rv .nil
  | _, _, .cons e h t => .cons e h (RepT.snoc hd rv t)
theorem RepT.put {K : PySem.W.Frag} {cl : Nat → Option Addr} {F : Hp} {k : List Key} {d : D} {v : V} {x : D} (hd : keyT d = some k) (rv : Rep K cl F v x) {kvs : List (List Key × V)} {r : List (D × D)} (h : RepT K cl F kvs r) : RepT K cl F (putK kvs k v) (putT k d x r) := by
  unfold putK putT
  rw [← h.any k]
  split
  · exact h.map k rv
  · exact h.snoc hd rv
theorem RepT.len {K : PySem.W.Frag} {cl : Nat → Option Addr} {F : Hp} : ∀ {kvs : List (List Key × V)} {r : List (D × D)}, RepT K cl F kvs r → kvs.length = r.length
  | _, _, .nil => rfl
  | _, _, .cons _ _ t => congrArg (· + 1) t.len
theorem out_setBox {ob : VV} {c : Ct} {Qk : Unit → Sto → Prop} {Qe : Exc → Sto → Prop} (h : Out (setBox ob c β) Qk Qe) : ∃ n ct, ob = .box n ∧ β[n]? = some ⟨ct, true⟩ ∧ Qk () (β.set n ⟨c, true⟩) := by
  cases ob with
  | box n =>
    have h : Out (match β[n]? with | some ⟨_, true⟩ => Res.ok () (β.set n ⟨c, true⟩) | _ => Res.bad) Qk Qe := h
    cases e : β[n]? with
    | none => rw [e] at h; exact h.elim
    | some b =>
      rw [e] at h
      obtain ⟨ct, lv⟩ := b
      cases lv with
      | true => exact ⟨n, ct, rfl, e, h⟩
      | false => exact h.elim
  | d x => exact h.elim
  | clo l cs => exact h.elim
  | bxs _ => exact h.elim
theorem out_getBox {ob : VV} {Qk : Ct → Sto → Prop} {Qe : Exc → Sto → Prop} (h : Out (getBox ob β) Qk Qe) : ∃ n b, ob = .box n ∧ β[n]? = some b ∧ Qk b.ct β := by
  cases ob with
  | box n =>
    have h : Out (match β[n]? with | some b => Res.ok b.ct β | none => Res.bad) Qk Qe := h
    cases e : β[n]? with
    | none => rw [e] at h; exact h.elim
    | some b => rw [e] at h; exact ⟨n, b, rfl, e, h⟩
  | d x => exact h.elim
  | clo l cs => exact h.elim
  | bxs _ => exact h.elim
theorem putIx_ok {X : Cx} {u i v : V} {ob : VV} {y x : D} {Qk : Unit → Sto → Prop} {Qe : Exc → Sto → Prop} {Q : Hp → Prop} (k : OkS g β S) (ru : RepV g S u ob) (ri : Rep g.K g.cl S.F i y) (rv : Rep g.K g.cl S.F v x)
    (h : Out (putIx ob y x β) Qk Qe) (q : ∀ β' S', Le S S' → OkS g β' S' → Qk () β' → Q S'.H) : rSetL u i v S.H Q ∨ rSetD u i v S.H Q := by
  obtain ⟨n, b, rfl, e1, h1⟩ := out_getBox (out_bnd h)
  cases ru with
  | @box _ p e3 =>
    obtain ⟨ct, lv⟩ := b
    cases ct with
    | lst xs =>
      cases y with
      | int kk =>
        have h2 : Out ((match ixN xs.length kk with | some j => setBox (.box n) (.lst (xs.set j x)) | none => bad) β) Qk Qe := h1
        cases e : ixN xs.length kk with
        | none => rw [e] at h2; exact h2.elim
        | some j =>
          rw [e] at h2
          obtain ⟨m, ct, em, eb, q2⟩ := out_setBox h2
          cases em
          rw [e1] at eb; cases eb
          obtain ⟨b', e4, hb⟩ := k.boxAt e3
          rw [e1] at e4; cases e4
          unfold BxOk at hb
          rw [if_pos rfl] at hb
          obtain ⟨_, vs, a, rr⟩ := hb
          cases ri
          refine .inl ⟨p, vs, kk, j, rfl, rfl, a, by rw [rr.len]; exact e, ?_⟩
          obtain ⟨k2, l2⟩ := k.put (ct' := .lst (xs.set j x)) (o := .lst (vs.set j v)) e3 e1 a trivial trivial (fun _ z => by cases z) (fun _ z => by cases z) ⟨_, upd_same, Reps.set rv j rr⟩
          exact q _ _ l2 k2 q2
      | _ => exact h1.elim
    | dic t kvs =>
      cases t with
      | true =>
        have h2 : Out ((match keyT y with | some k => if small kvs.length then setBox (.box n) (.dic true (putT k y x kvs)) else bad | none => bad) β) Qk Qe := h1
        cases e : keyT y with
        | none => rw [e] at h2; exact h2.elim
        | some kk =>
          rw [e] at h2
          obtain ⟨hs, h3⟩ := out_if h2
          obtain ⟨m, ct, em, eb, q2⟩ := out_setBox h3
          cases em
          rw [e1] at eb; cases eb
          obtain ⟨b', e4, hb⟩ := k.boxAt e3
          rw [e1] at e4; cases e4
          unfold BxOk at hb
          rw [if_pos rfl] at hb
          obtain ⟨_, r, a, rr⟩ := hb
          obtain ⟨b, rfl, hb2⟩ := keyT_V k (.of ri) e
          refine .inr ⟨p, upd S.H p (.dT (putK r kk v)), rfl, ?_, ?_⟩
          · exact DPut.t a hb2 (by rw [rr.len]; exact small_lt hs)
          · obtain ⟨k2, l2⟩ := k.put (ct' := .dic true (putT kk y x kvs)) (o := .dT (putK r kk v)) e3 e1 a trivial trivial (fun _ z => by cases z) (fun _ z => by cases z) ⟨_, upd_same, rr.put e rv⟩
            exact q _ _ l2 k2 q2
      | false =>
        have h2 : Out ((match keyD y with | some k => if small kvs.length then setBox (.box n) (.dic false (putD k y x kvs)) else bad | none => bad) β) Qk Qe := h1
        cases e : keyD y with
        | none => rw [e] at h2; exact h2.elim
        | some kk =>
          rw [e] at h2
          obtain ⟨hs, h3⟩ := out_if h2
          obtain ⟨m, ct, em, eb, q2⟩ := out_setBox h3
          cases em
          rw [e1] at eb; cases eb
          obtain ⟨b', e4, hb⟩ := k.boxAt e3
          rw [e1] at e4; cases e4
          unfold BxOk at hb
          rw [if_pos rfl] at hb
          obtain ⟨_, r, a, rr⟩ := hb
          have ei := keyD_V (.of ri) e
          refine .inr ⟨p, upd S.H p (.dK (putK r kk v)), rfl, ?_, ?_⟩
          · rw [ei]; exact DPut.k a (by rw [rr.len]; exact small_lt hs)
          · obtain ⟨k2, l2⟩ := k.put (ct' := .dic false (putD kk y x kvs)) (o := .dK (putK r kk v)) e3 e1 a trivial trivial (fun _ z => by cases z) (fun _ z => by cases z) ⟨_, upd_same, rr.put e rv⟩
            exact q _ _ l2 k2 q2
    | fdic t kvs => exact h1.elim
    | obj c fs => exact h1.elim
end
end VI

set_option maxHeartbeats 2000000
/-! V13: targets, comprehensions. -/
namespace VI
open PySem L2 M
open LamX (CodeO TabB ExtN)
theorem wipe_get (σ : L2.St) (j : Nat) : ∀ vs : List Nat, (L2.wipe σ vs)[j]? = if j ∈ vs then (σ[j]?).map fun _ => none else σ[j]?
  | [] => by simp [L2.wipe]
  | v :: vs => by
    have ih := wipe_get σ j vs
    unfold L2.wipe
    by_cases hj : v = j
    · subst hj
      rw [List.getElem?_set]
      simp only [if_true, List.mem_cons, true_or]
      rw [L2.wipe_length]
      split
      · rename_i hl
        rw [List.getElem?_eq_getElem hl]; rfl
      · rename_i hl
        rw [List.getElem?_eq_none (by omega)]; rfl
    · rw [List.getElem?_set_ne hj, ih]
      have : (j ∈ v :: vs) = (j ∈ vs) := by simp [List.mem_cons, Ne.symm hj]
      simp only [this]
theorem wipe_set {σ : L2.St} {i : Nat} {v : Option V} {vs : List Nat} (h : i ∈ vs) : L2.wipe (σ.set i v) vs = L2.wipe σ vs := by
  apply List.ext_getElem?
  intro j
  rw [wipe_get, wipe_get]
  by_cases hj : i = j
  · subst hj
    rw [if_pos h, if_pos h, List.getElem?_set]
    simp only [if_true]
    split
    · rename_i hl; rw [List.getElem?_eq_getElem hl]; rfl
    · rename_i hl; rw [List.getElem?_eq_none (by omega)]
  · rw [List.getElem?_set_ne hj]
theorem _root_.L2.PG.weak {X : Cx} {e : Expr} {t u : TG} (h : PG X e t) (w : ∀ v σ H Q, u v σ H Q → t v σ H Q) : PG X e u := ⟨fun pins s σ H v x Q I r q => h.run pins s σ H v x Q I r (w v σ H Q q)⟩
theorem _root_.L2.PGs.weak {X : Cx} {e : List Expr} {t u : TGs} (h : PGs X e t) (w : ∀ v σ H Q, u v σ H Q → t v σ H Q) : PGs X e u := ⟨fun pins s σ H v x Q I r q => h.run pins s σ H v x Q I r (w v σ H Q q)⟩
/-- all but these slots stay -/
def Off (ts : List Nat) (σ σ' : L2.St) : Prop := σ'.length = σ.length ∧ ∀ j, j ∉ ts → σ'[j]? = σ[j]?
theorem Off.refl (ts : List Nat) (σ : L2.St) : Off ts σ σ := ⟨rfl, fun _ _ => rfl⟩
theorem Off.trans {ts : List Nat} {σ σ1 σ2 : L2.St} (a : Off ts σ σ1) (b : Off ts σ1 σ2) : Off ts σ σ2 := ⟨b.1.trans a.1, fun j h => (b.2 j h).trans (a.2 j h)⟩
theorem Off.mono {ts us : List Nat} {σ σ1 : L2.St} (a : Off ts σ σ1) (h : ∀ i ∈ ts, i ∈ us) : Off us σ σ1 := ⟨a.1, fun j hj => a.2 j fun z => hj (h j z)⟩
theorem Off.set (σ : L2.St) (i : Nat) (v : Option V) {ts : List Nat} (h : i ∈ ts) : Off ts σ (σ.set i v) := ⟨by simp, fun j hj => List.getElem?_set_ne (fun z : i = j => hj (by rw [← z]; exact h))⟩
theorem Off.wipe {ts vs : List Nat} {σ σ' : L2.St} (a : Off ts σ σ') (h : ∀ i ∈ ts, i ∈ vs) : L2.wipe σ' vs = L2.wipe σ vs := by
  apply List.ext_getElem?
  intro j
  rw [wipe_get, wipe_get]
  by_cases hj : j ∈ vs
  · rw [if_pos hj, if_pos hj]
    by_cases hl : j < σ.length
    · rw [List.getElem?_eq_getElem hl, List.getElem?_eq_getElem (by rw [a.1]; exact hl)]; rfl
    · have e1 : σ[j]? = none := List.getElem?_eq_none (by omega)
      have e2 : σ'[j]? = none := List.getElem?_eq_none (by have := a.1; omega)
      rw [e1, e2]
  · rw [if_neg hj, if_neg hj]
    exact a.2 j fun z => hj (h j z)
def Kg (g : G) (S : Sx) (σ : L2.St) (ts : List Nat) (Q : L2.St → Hp → Prop) (φ' : Sl) (β' : Sto) : Prop := ∀ S' σ', Le S S' → OkS g β' S' → SlOk g S' φ' σ' → Off ts σ σ' → Q σ' S'.H
def gEv (g : G) (ts : List Nat) (m : VV → Sl → M Sl) : TG := fun v σ H Q => ∃ S φ β x, S.H = H ∧ OkS g β S ∧ SlOk g S φ σ ∧ RepV g S v x ∧ Out (m x φ β) (Kg g S σ ts Q) (fun _ _ => False)
def gEvs (g : G) (ts : List Nat) (m : List D → Sl → M Sl) : TGs := fun vs σ H Q => ∃ S φ β xs, S.H = H ∧ OkS g β S ∧ SlOk g S φ σ ∧ Reps g.K g.cl S.F vs xs ∧ Out (m xs φ β) (Kg g S σ ts Q) (fun _ _ => False)
section
variable {g : G} {ge : GE} {X : Cx} {n : Nat} {W : WX} {a b c tg : Expr} {pos p : Pos}
theorem sg_nm {i : Nat} {x : Str} (h : PG X (.Name x pos) (gName i)) : PG X (.Name x pos) (gEv g [i] fun v φ => ret (φ.set i (some v))) := by
  refine h.weak fun v σ H Q ⟨S, φ, β, x, e, k, sl, r, q⟩ => ?_
  subst e
  have q : Kg g S σ [i] Q (φ.set i (some x)) β := q
  exact q S _ (.refl S) k (sl.set i r) (Off.set σ i _ (List.mem_singleton.mpr rfl))
theorem sgs_nil : PGs X [] (gEvs g [] fun xs φ => match xs with | [] => ret φ | _ => bad) := by
  refine pgs_nil.weak fun vs σ H Q ⟨S, φ, β, xs, e, k, sl, r, q⟩ => ?_
  subst e
  cases r with
  | nil =>
    have q : Kg g S σ [] Q φ β := q
    exact ⟨rfl, q S _ (.refl S) k sl (.refl _ _)⟩
  | cons _ _ => exact q.elim
theorem sgs_cons {es : List Expr} {t1 t2 : List Nat} {m : VV → Sl → M Sl} {ms : List D → Sl → M Sl} (h1 : PG X a (gEv g t1 m)) (h2 : PGs X es (gEvs g t2 ms))
    (hs : (assignEach (a :: es) X.env).map (·.2) = assign a X.env :: (assignEach es X.env).map (·.2)) :
    PGs X (a :: es) (gEvs g (t1 ++ t2) fun xs φ => match xs with | x :: xs => bnd (m (.d x) φ) fun φ' => ms xs φ' | _ => bad) := by
  refine (pgs_cons h1 h2 hs).weak fun vs σ H Q ⟨S, φ, β, xs, e, k, sl, r, q⟩ => ?_
  subst e
  cases r with
  | nil => exact q.elim
  | @cons v vs x xs rv rr =>
    refine ⟨v, vs, rfl, S, φ, β, .d x, rfl, k, sl, .d rv, (out_bnd q).imp (fun φ' β' q1 S1 σ1 l1 k1 sl1 w1 => ?_) fun _ _ z => z⟩
    refine ⟨S1, φ', β', xs, rfl, k1, sl1, rr.mono l1.F, q1.imp (fun φ2 β2 q2 S2 σ2 l2 k2 sl2 w2 => ?_) fun _ _ z => z⟩
    exact q2 S2 σ2 (l1.trans l2) k2 sl2 ((w1.mono fun i hi => List.mem_append_left _ hi).trans (w2.mono fun i hi => List.mem_append_right _ hi))
theorem setTs_len {T : Tbl} {cf : CF} : ∀ {gs : Tgs} {xs : List D} {φ φ' : Sl} {β β' : Sto}, setTs T cf gs xs φ β = .ok φ' β' → xs.length = gs.len
  | .nil, [], _, _, _, _, _ => rfl
  | .nil, _ :: _, _, _, _, _, h => by simp [setTs] at h
  | .cons _ _, [], _, _, _, _, h => by simp [setTs] at h
  | .cons _ gs, x :: xs, φ, φ', β, β', h => by
    simp only [setTs] at h
    unfold bnd at h
    split at h
    · rw [List.length_cons, setTs_len h]; rfl
    · cases h
    · cases h
theorem sg_tup {es : List Expr} {kk : Nat} {ts : List Nat} {ms : List D → Sl → M Sl} {len : Nat} (hx : XOk g X n W) (h : PGs X es (gEvs g ts ms)) (hlen : ∀ xs φ β φ' β', ms xs φ β = .ok φ' β' → xs.length = len)
    (hn : (assignEach es X.env).length = len) (hst : (assignEach es X.env).findIdx? (·.1) = none) :
    PG X (.Tuple es kk pos) (gEv g ts fun v φ => bnd (deref v) fun x => match x with | .tup xs => ms xs φ | _ => bad) := by
  refine (pg_tup hx.calm h hn hst).weak fun v σ H Q ⟨S, φ, β, x, e, k, sl, r, q⟩ => ?_
  subst e
  obtain ⟨y, q1, d⟩ := DR.get k r (out_bnd q)
  cases y with
  | tup xs =>
    obtain ⟨p', vs, rfl, h1, rr⟩ := d.tup'
    rw [hx.K]
    have q1 : Out (ms xs φ β) (Kg g S σ ts Q) (fun _ _ => False) := q1
    have hl : xs.length = len := by
      cases em : ms xs φ β with
      | ok φ' β' => exact hlen _ _ _ _ _ em
      | exc e s => rw [em] at q1; exact q1.elim
      | bad => rw [em] at q1; exact q1.elim
    exact ⟨p', vs, rfl, seqT k.same h1, by rw [rr.len]; exact hl, S, φ, β, xs, rfl, k, sl, rr, q1⟩
  | _ => exact q1.elim
theorem _root_.L2.PSet.or {X : Cx} {t u : TSet} (h : PSet X t) (k : PSet X u) : PSet X (fun o i v H Q => t o i v H Q ∨ u o i v H Q) := fun pins s σ H o i v ov iv uu Q I r1 r2 r3 q => q.elim (h pins s σ H o i v ov iv uu Q I r1 r2 r3) (k pins s σ H o i v ov iv uu Q I r1 r2 r3)
theorem sg_sub {o i : Expr} {mo mi : Sl → M VV} (hx : XOk g X n W) (ho : PE X o (tEv g ge W mo)) (hi : PE X i (tEv g ge W mi))
    (ha : ∀ v, assign (.Subscript o i pos) X.env v = (do
      let ov ← holding [v] (eval o X.env)
      let iv ← holding [v, ov] (eval i X.env)
      standAt pos
      holding [v, ov, iv] (setItem ov iv v)
      release [v, ov, iv] [])) :
    PG X (.Subscript o i pos) (gEv g [] fun v φ => bnd (mo φ) fun u => bnd (mi φ) fun w => bnd (dataOf w) fun y => bnd (dataOf v) fun x => bnd (putIx u y x) fun _ => ret φ) := by
  refine (pg_sub ho hi ((set_list (X := X)).or (set_dict (by have := hx.room.un; omega))) ha).weak fun v σ H Q ⟨S, φ, β, x, e, k, sl, r, q⟩ => ?_
  subst e
  refine ⟨S, φ, β, rfl, k, sl, (out_bnd q).imp (fun ob β1 q1 u S1 l1 k1 r1 => ?_) fun _ _ z => z.elim⟩
  refine ⟨S1, φ, β1, rfl, k1, sl.mono l1, (out_bnd q1).imp (fun w β2 q2 i S2 l2 k2 r2 => ?_) fun _ _ z => z.elim⟩
  obtain ⟨y, rfl, q3⟩ := out_data (out_bnd q2)
  obtain ⟨z, rfl, q4⟩ := out_data (out_bnd q3)
  have l12 := l1.trans l2
  refine putIx_ok (X := X) (Q := fun H => Q σ H) k2 (r1.mono l2) r2.d' (r.d'.mono l12.F) (out_bnd q4) fun β' S' l' k' q5 => ?_
  have q5 : Kg g S σ [] Q φ β' := q5
  exact q5 S' σ (l12.trans l') k' (sl.mono (l12.trans l')) (.refl _ _)
end
/-! ### comprehensions -/
abbrev WF : WX := fun _ _ _ _ => False
def tEvTs := tEvT
section
variable {g : G} {ge : GE} {X : Cx} {n : Nat} {W : WX} {a b c tg : Expr} {pos p : Pos}
theorem _root_.L2.PTs.weak {X : Cx} {e : List Expr} {t u : TT} (h : PTs X e t) (w : ∀ σ H Q, u σ H Q → t σ H Q) : PTs X e u := ⟨fun pins s σ H Q I q => h.run pins s σ H Q I (w σ H Q q)⟩
theorem st_tt : PTs X [] (tEvT g ge W fun _ => ret true) := by
  refine pts_nil.weak fun σ H Q ⟨S, φ, β, e, k, sl, q⟩ => ?_
  subst e
  have q : Kb g S Q true β := q
  exact q S (.refl S) k
theorem st_one {c : Expr} {m : Sl → M Bool} (h : PT X c (tEvT g ge W m)) : PTs X [c] (tEvT g ge W m) := pts_one h
def compF (mg : VV → Sl → M Sl) (mt : Sl → M Bool) (me : Sl → M VV) (φ0 : Sl) (x : D) : M (Option D) :=
  noExc (bnd (mg (.d x) φ0) fun φ' => bnd (mt φ') fun k => if k then bnd (me φ') fun v => bnd (dataOf v) fun y => ret (some y) else ret none)
theorem comp_spec {ts own : List Nat} {mi : Sl → M (List D)} {mg : VV → Sl → M Sl} {mt : Sl → M Bool} {me : Sl → M VV} (hts : ∀ i ∈ ts, i ∈ own) {σ : L2.St} {H : Hp} {Q : VK}
    (h : tFr g ge W (fun φ => bnd (mi φ) fun xs => bnd (compGo (compF mg mt me (wipeS φ own)) xs) fun ys => ret (.lst ys)) σ H Q) :
    tLc (tEvI g ge W mi) (gEv g ts mg) (tEvT g ge WF mt) (tEv g ge WF me) own σ H Q := by
  obtain ⟨S, φ, β, e, k, sl, q⟩ := h
  subst e
  refine ⟨S, φ, β, rfl, k, sl, (out_bnd q).imp (fun xs β1 q1 S2 J l k2 wj => ?_) fun _ _ z => z⟩
  intro D hD
  have sl2 : SlOk g S2 (wipeS φ own) (L2.wipe σ own) := (sl.mono l).wipe own
  -- the state ahead of turn i
  let Inv1 : Nat → Hp → Prop := fun i H => ∃ (T : Sx) (β' : Sto) (vs : List V) (acc : List VI.D), H = upd T.H D (.lst vs) ∧ T.H D = none ∧ OkS g β' T ∧ Le S2 T ∧ Reps g.K g.cl T.F vs acc ∧ vs.length ≤ i ∧ i ≤ xs.length ∧
    Out (compGo (compF mg mt me (wipeS φ own)) (xs.drop i) β') (fun ys β'' => Kf g S Q (.lst (acc ++ ys)) β'') (fun _ _ => True)
  have start : Inv1 0 (upd S2.H D (.lst [])) := ⟨S2, β1, [], [], rfl, hD, k2, .refl S2, .nil, Nat.le.refl, Nat.zero_le _, by
    rw [List.drop_zero]
    exact (out_bnd q1).imp (fun ys β'' z => z) fun _ _ _ => trivial⟩
  refine ⟨fun i m H => m = xs.length - i ∧ Inv1 i H, ⟨xs.length, by simp, start⟩, ?_⟩
  rintro i m H ⟨rfl, T, β', vs, acc, rfl, hT, kT, lT, ra, hlen, hle, qT⟩
  -- the state with the list as a hidden thing
  have kh : OkS g β' (T.hid D (.lst vs)) := kT.hid hT
  have lh : Le S2 (T.hid D (.lst vs)) := lT.trans (Le.hid hT)
  have wj' := wj.2 _ _ lh.F kh
  by_cases hi : i = xs.length
  · subst hi
    refine .inl ⟨wj'.1, ?_⟩
    rw [List.drop_length] at qT
    have qT : Kf g S Q (.lst (acc ++ [])) β' := qT
    rw [List.append_nil] at qT
    exact qT D (.lst vs) T (l.trans lT) kT hT ⟨vs, rfl, ra⟩
  · have hi : i < xs.length := by omega
    have hx : xs[i]? = some xs[i] := List.getElem?_eq_getElem hi
    obtain ⟨hgo, hy⟩ := wj'.2 i _ hx
    refine .inr ⟨hgo, Inv1 (i + 1), fun H' z => ⟨xs.length - (i + 1), by omega, rfl, z⟩, fun x H' y => ?_⟩
    obtain ⟨S4, l4, k4, eH4, rx⟩ := hy x H' y
    subst eH4
    rw [List.drop_eq_getElem_cons hi] at qT
    simp only [compGo] at qT
    have qb := out_bnd qT
    have qb2 : Out ((bnd (mg (.d xs[i]) (wipeS φ own)) fun φ' => bnd (mt φ') fun k => if k = true then bnd (me φ') fun v => bnd (dataOf v) fun y => ret (some y) else ret none) β') (fun o s' => Out (bnd (compGo (compF mg mt me (wipeS φ own)) (xs.drop (i + 1))) (fun r => ret (o.toList ++ r)) s') (fun ys β'' => Kf g S Q (.lst (acc ++ ys)) β'') (fun _ _ => True)) (fun _ _ => False) := out_noExc qb
    have l24 : Le S2 S4 := lh.trans l4
    -- what holds of D from now on
    have nD : D ∉ (T.hid D (.lst vs)).ι := fun z => kT.tracked D z hT
    have hFD : (T.hid D (.lst vs)).F D = none := kT.noF hT
    have keepD : ∀ {S5 : Sx} {β5 : Sto}, Le (T.hid D (.lst vs)) S5 → OkS g β5 S5 → S5.H D = some (.lst vs) ∧ S5.F D = none ∧ D ∉ S5.ι := fun {S5 β5} l5 k5 => by
      have e0 : (T.hid D (.lst vs)).H D = some (.lst vs) := upd_same
      refine ⟨l5.keep D _ e0 nD (fun _ z => by cases z), ?_, fun z => ?_⟩
      · cases e : S5.F D with
        | none => rfl
        | some o =>
          rcases l5.fresh D (by rw [e]; simp) hFD with z | z | ⟨x, z⟩ | ⟨x, z⟩
          · rw [e0] at z; cases z
          · exact absurd z nD
          · rw [e0] at z; cases z
          · rw [e0] at z; cases z
      · rcases l5.new D z with w | w
        · exact nD w
        · rw [e0] at w; cases w
    refine ⟨S4, wipeS φ own, β', .d xs[i], rfl, k4, sl2.mono l24, .d rx, (out_bnd qb2).imp (fun φ' β5 q5 S5 σ5 l5 k5 sl5 w5 => ?_) fun _ _ z => z⟩
    refine ⟨?_, ?_⟩
    · have h1 := w5.wipe hts
      have h2 : L2.wipe (L2.wipe σ own) own = L2.wipe σ own := by
        apply List.ext_getElem?
        intro j
        rw [wipe_get, wipe_get]
        split
        · cases σ[j]? <;> rfl
        · rfl
      rw [h1, h2]
    refine ⟨S5, φ', β5, rfl, k5, sl5, (out_bnd q5).imp (fun kk β6 q6 S6 l6 k6 => ?_) fun _ _ z => z.elim⟩
    have l46 : Le (T.hid D (.lst vs)) S6 := (l4.trans l5).trans l6
    have l26 : Le S2 S6 := lh.trans l46
    -- the end of a turn
    have fin : ∀ {S7 : Sx} {β7 : Sto} {o : Option VI.D} {add : List V}, Le (T.hid D (.lst vs)) S7 → OkS g β7 S7 → Reps g.K g.cl S7.F add o.toList →
        Out (bnd (compGo (compF mg mt me (wipeS φ own)) (xs.drop (i + 1))) (fun r => ret (o.toList ++ r)) β7) (fun ys β'' => Kf g S Q (.lst (acc ++ ys)) β'') (fun _ _ => True) → Inv1 (i + 1) (upd S7.H D (.lst (vs ++ add))) := fun {S7 β7 o add} l7 k7 ro q7 => by
      obtain ⟨d1, d2, d3⟩ := keepD l7 k7
      refine ⟨S7.era D, β7, vs ++ add, acc ++ o.toList, era_upd.symm, if_pos rfl, k7.era d2 d3 d1, (lh.trans l7).era hD, (ra.mono l7.F).append ro, ?_, hi, (out_bnd q7).imp (fun r β8 q8 => ?_) fun _ _ _ => trivial⟩
      · have h3 := ro.len
        have h4 : o.toList.length ≤ 1 := by cases o <;> simp
        rw [List.length_append]; omega
      · rw [List.append_assoc]; exact q8
    cases kk with
    | false =>
      have := fin (o := none) (add := []) l46 k6 .nil q6
      rw [List.append_nil] at this
      obtain ⟨d1, _, _⟩ := keepD l46 k6
      have e : upd S6.H D (.lst vs) = S6.H := by
        funext b
        by_cases hb : b = D
        · subst hb; rw [upd_same, d1]
        · rw [upd_ne hb]
      rw [e] at this
      exact this
    | true =>
      have q6 : Out ((bnd (me φ') fun v => bnd (dataOf v) fun y => ret (some y)) β6) (fun o s' => Out (bnd (compGo (compF mg mt me (wipeS φ own)) (xs.drop (i + 1))) (fun r => ret (o.toList ++ r)) s') (fun ys β'' => Kf g S Q (.lst (acc ++ ys)) β'') (fun _ _ => True)) (fun _ _ => False) := q6
      refine ⟨S6, φ', β6, rfl, k6, sl5.mono l6, (out_bnd q6).imp (fun v β7 q7 u S7 l7 k7 r7 => ?_) fun _ _ z => z.elim⟩
      obtain ⟨y, rfl, q8⟩ := out_data (out_bnd q7)
      obtain ⟨d1, _, _⟩ := keepD (l46.trans l7) k7
      refine ⟨vs, d1, ?_, fin (o := some y) (add := [u]) (l46.trans l7) k7 (.cons r7.d' .nil) q8⟩
      have := wj.1
      omega
theorem fr_comp {tg iter elt : Expr} {ifs : List Expr} {scope : Scope} {own : List (Str × Nat)} {ts : List Nat} {mi : Sl → M (List D)} {mg : VV → Sl → M Sl} {mt : Sl → M Bool} {me : Sl → M VV} (hx : XOk g X n W) (hts : ∀ i ∈ ts, i ∈ own.map (·.2))
    (hi : PI X tg iter (tEvI g ge W mi)) (ok : BlkOk X.N X.env.scope scope own)
    (hg : ∀ (s : Shared) (H : Hp) (C : Addr) (cl : List (Str × Addr)) (fp : List Addr), PG (X.blk s H scope (compEnvC scope cl C X.env) fp) tg (gEv g ts mg))
    (ht : ∀ (s : Shared) (H : Hp) (C : Addr) (cl : List (Str × Addr)) (fp : List Addr), PTs (X.blk s H scope (compEnvC scope cl C X.env) fp) ifs (tEvT g ge WF mt))
    (he : ∀ (s : Shared) (H : Hp) (C : Addr) (cl : List (Str × Addr)) (fp : List Addr), PE (X.blk s H scope (compEnvC scope cl C X.env) fp) elt (tEv g ge WF me)) (hs : ∀ x, foldedSetIterable iter X.env x = pure x) :
    PE X (.ListComp elt [⟨tg, iter, ifs, 0⟩] scope pos) (tFr g ge W fun φ => bnd (mi φ) fun xs => bnd (compGo (compF mg mt me (wipeS φ (own.map (·.2)))) xs) fun ys => ret (.lst ys)) :=
  (pe_lc hx.calm hx.nd hi ok hg ht he hs).weak fun σ H Q h => comp_spec hts h
/-- the context within a block -/
theorem XOk.blk (hx : XOk g X n W) (s : Shared) (H : Hp) (scope : Scope) (C : Addr) (cl : List (Str × Addr)) (fp : List Addr) : XOk g (X.blk s H scope (compEnvC scope cl C X.env) fp) n WF :=
  ⟨hx.P, hx.w, hx.K, hx.mg, hx.base, hx.calm, hx.room, hx.nd, takes0⟩
end
end VI

set_option maxHeartbeats 2000000
/-! V13d: dicts: locked and walked, get, values summed, a display of one pair. -/
namespace VI
open PySem L2 M
open LamX (CodeO TabB ExtN)
section
variable {g : G} {S : Sx} {β : Sto} {p q : Addr} {u : V}
/-- a tuple that stands is data -/
theorem know_tup (k : OkS g β S) {vs : List V} {xs : List D} (h : S.H q = some (.tup vs)) (r : Reps g.K g.cl S.F vs xs) : ∃ S', Le S S' ∧ OkS g β S' ∧ S'.H = S.H ∧ Rep g.K g.cl S'.F (.ref q) (.tup xs) := by
  cases hF : S.F q with
  | some o =>
    have := k.sub q o hF
    rw [h] at this; cases this
    exact ⟨S, .refl S, k, rfl, .tup hF r⟩
  | none =>
    have mo : Same S.F (upd S.F q (.tup vs)) := upd_mono hF
    refine ⟨⟨S.ι, upd S.F q (.tup vs), S.H⟩, ⟨⟨[], by simp⟩, mo, fun b o e _ _ => e, fun b ps e => ⟨ps, e⟩, fun b o e => ⟨o, e⟩, fun b h1 h2 => ?_, fun b h => .inl h⟩, ⟨fun b o e => ?_, fun b ps e => ?_, k.len, fun n b e => ?_, k.inj, k.tracked, k.own, k.tabs⟩, rfl, .tup upd_same (r.mono mo)⟩
    · by_cases hb : b = q
      · subst hb; exact .inr (.inr (.inr ⟨vs, h⟩))
      · have h1 : upd S.F q (.tup vs) b ≠ none := h1
        rw [upd_ne hb] at h1; exact absurd h2 h1
    · have e : upd S.F q (.tup vs) b = some o := e
      by_cases hb : b = q
      · subst hb; rw [upd_same] at e; rw [← e]; exact h
      · rw [upd_ne hb] at e; exact k.sub b o e
    · by_cases hb : b = q
      · subst hb
        have e : upd S.F b (.tup vs) b = some (.tbl ps) := e
        rw [upd_same] at e; cases e
      · have e : upd S.F q (.tup vs) b = some (.tbl ps) := e
        rw [upd_ne hb] at e; exact k.ntb b ps e
    · obtain ⟨p, e1, e2⟩ := k.bx n b e
      refine ⟨p, e1, ?_⟩
      unfold BxOk at e2 ⊢
      split
      · rename_i hl
        rw [if_pos hl] at e2
        have hne : p ≠ q := fun z => by
          subst z
          obtain ⟨_, c⟩ := e2
          cases hc : b.ct with
          | lst xs => rw [hc] at c; obtain ⟨_, y, _⟩ := c; rw [h] at y; cases y
          | dic t kvs =>
            rw [hc] at c
            cases t with
            | false => obtain ⟨_, y, _⟩ := c; rw [h] at y; cases y
            | true => obtain ⟨_, y, _⟩ := c; rw [h] at y; cases y
          | fdic t kvs =>
            rw [hc] at c
            cases t with
            | false => obtain ⟨_, _, y, _⟩ := c; rw [h] at y; cases y
            | true => obtain ⟨_, _, y, _⟩ := c; rw [h] at y; cases y
          | obj c' fs => rw [hc] at c; obtain ⟨_, _, _, _, y, _⟩ := c; rw [h] at y; cases y
        exact ⟨by show upd S.F q (.tup vs) p = none; rw [upd_ne hne]; exact e2.1, e2.2.mono mo (.refl _)⟩
      · rename_i hl
        rw [if_neg hl] at e2
        exact e2.mono mo mo
theorem freezeL_ok {v : VV} {Qk : D → Sto → Prop} {Qe : Exc → Sto → Prop} (k : OkS g β S) (r : RepV g S u v) (h : Out (freezeL v β) Qk Qe) :
    ∃ t kvs, (∃ β', Qk (.fdic t kvs) β' ∧ OkS g β' S ∧ Rep g.K g.cl S.F u (.fdic t kvs)) ∨
      ∃ p o, u = .ref p ∧ S.H p = some o ∧ Mut (some o) ∧ ∀ od, ∃ S' β', Qk (.fdic t kvs) β' ∧ Le S S' ∧ OkS g β' S' ∧ S'.H = upd S.H p (.frz od o) ∧ Rep g.K g.cl S'.F u (.fdic t kvs) := by
  cases r with
  | d r =>
    rename_i x
    cases x with
    | fdic t kvs => exact ⟨t, kvs, .inl ⟨β, h, k, r⟩⟩
    | _ => exact h.elim
  | @box n p e =>
    obtain ⟨b, e1, hb⟩ := k.boxAt e
    unfold freezeL at h
    simp only [e1] at h
    obtain ⟨ct, lv⟩ := b
    cases ct with
    | dic t kvs =>
      cases lv with
      | false => exact h.elim
      | true =>
        have h : Qk (.fdic t kvs) (β.set n ⟨.fdic t kvs, false⟩) := h
        unfold BxOk at hb
        rw [if_pos rfl] at hb
        obtain ⟨hF, c⟩ := hb
        cases t with
        | false =>
          obtain ⟨vs, a, rr⟩ := c
          refine ⟨false, kvs, .inr ⟨p, _, rfl, a, trivial, fun od => ?_⟩⟩
          obtain ⟨k2, l2⟩ := k.put (ct' := .fdic false kvs) (o := .frz od (.dK vs)) e e1 a trivial trivial (fun _ z => by cases z) (fun _ z => by cases z) ⟨od, vs, upd_same, rr⟩
          have hn : (β.set n ⟨.fdic false kvs, true⟩)[n]? = some ⟨.fdic false kvs, true⟩ := by
            rw [List.getElem?_set, if_pos rfl, if_pos (List.getElem?_eq_some_iff.mp e1).1]
          obtain ⟨l3, k3, r3⟩ := freeze_live k2 e hn
          rw [List.set_set] at k3
          exact ⟨_, _, h, l2.trans l3, k3, rfl, r3⟩
        | true =>
          obtain ⟨vs, a, rr⟩ := c
          refine ⟨true, kvs, .inr ⟨p, _, rfl, a, trivial, fun od => ?_⟩⟩
          obtain ⟨k2, l2⟩ := k.put (ct' := .fdic true kvs) (o := .frz od (.dT vs)) e e1 a trivial trivial (fun _ z => by cases z) (fun _ z => by cases z) ⟨od, vs, upd_same, rr⟩
          have hn : (β.set n ⟨.fdic true kvs, true⟩)[n]? = some ⟨.fdic true kvs, true⟩ := by
            rw [List.getElem?_set, if_pos rfl, if_pos (List.getElem?_eq_some_iff.mp e1).1]
          obtain ⟨l3, k3, r3⟩ := freeze_live k2 e hn
          rw [List.set_set] at k3
          exact ⟨_, _, h, l2.trans l3, k3, rfl, r3⟩
    | fdic t kvs =>
      cases lv with
      | true => exact h.elim
      | false =>
        have h : Qk (.fdic t kvs) β := h
        unfold BxOk at hb
        rw [if_neg (by simp)] at hb
        cases t with
        | false => obtain ⟨od, vs, a, b⟩ := hb; exact ⟨false, kvs, .inl ⟨β, h, k, .fdic a b⟩⟩
        | true => obtain ⟨od, vs, a, b⟩ := hb; exact ⟨true, kvs, .inl ⟨β, h, k, .fdicT a b⟩⟩
    | lst xs => exact h.elim
    | obj c fs => exact h.elim
  | clo _ _ => exact h.elim
  | bxs _ => exact h.elim
theorem Reps.keys {K : PySem.W.Frag} {cl : Nat → Option Addr} {F : Hp} : ∀ {xs : List D} {ks : List Key}, keysD xs = some ks → Reps K cl F (ks.map kV) xs
  | [], ks, e => by simp [keysD] at e; subst e; exact .nil
  | x :: xs, ks, e => by
    unfold keysD at e
    cases h1 : keyD x with
    | none => rw [h1] at e; cases e
    | some k =>
      rw [h1] at e
      cases h2 : keysD xs with
      | none => rw [h2] at e; cases e
      | some r =>
        rw [h2] at e
        cases e
        refine .cons ?_ (Reps.keys h2)
        cases x <;> simp only [keyD] at h1 <;> cases h1
        · exact .int _
        · exact .str _
theorem rep_key {K : PySem.W.Frag} {cl : Nat → Option Addr} {F : Hp} {x : D} {k : Key} (h : keyD x = some k) : Rep K cl F (kV k) x := by
  cases x <;> simp only [keyD] at h <;> cases h
  · exact .int _
  · exact .str _
theorem RepK.get {K : PySem.W.Frag} {cl : Nat → Option Addr} {F : Hp} : ∀ {vs : List (Key × V)} {kvs : List (D × D)} {i : Nat} {a b : D}, RepK K cl F vs kvs → kvs[i]? = some (a, b) → ∃ k v, vs[i]? = some (k, v) ∧ keyD a = some k ∧ Rep K cl F v b
  | _, _, i, _, _, .nil, e => by simp at e
  | _, _, 0, _, _, .cons e h t, e' => by simp at e'; obtain ⟨rfl, rfl⟩ := e'; exact ⟨_, _, rfl, e, h⟩
  | _, _, i + 1, _, _, .cons e h t, e' => by
    obtain ⟨k, v, a, b, c⟩ := RepK.get t (i := i) (by simpa using e')
    exact ⟨k, v, by simpa using a, b, c⟩
theorem RepT.get {K : PySem.W.Frag} {cl : Nat → Option Addr} {F : Hp} : ∀ {vs : List (List Key × V)} {kvs : List (D × D)} {i : Nat} {a b : D}, RepT K cl F vs kvs → kvs[i]? = some (a, b) → ∃ k v, vs[i]? = some (k, v) ∧ keyT a = some k ∧ Rep K cl F v b
  | _, _, i, _, _, .nil, e => by simp at e
  | _, _, 0, _, _, .cons e h t, e' => by simp at e'; obtain ⟨rfl, rfl⟩ := e'; exact ⟨_, _, rfl, e, h⟩
  | _, _, i + 1, _, _, .cons e h t, e' => by
    obtain ⟨k, v, a, b, c⟩ := RepT.get t (i := i) (by simpa using e')
    exact ⟨k, v, by simpa using a, b, c⟩
theorem keyT_tup {x : D} {k : List Key} (h : keyT x = some k) : ∃ xs, x = .tup xs ∧ keysD xs = some k := by
  cases x <;> simp only [keyT] at h <;> try cases h
  exact ⟨_, rfl, h⟩
theorem walk_keysK {od : Obj} {vs : List (Key × V)} {kvs : List (D × D)} (hz : kvs.length < sizeLine) (h : S.F p = some (.frz od (.dK vs))) (r : RepK g.K g.cl S.F vs kvs) : WalkJ g S (Itk p od vs) (kvs.map (·.1)) := by
  refine ⟨by rw [List.length_map]; exact hz, fun S' β l k => ?_⟩
  have hq := k.sub _ _ (l _ _ h)
  refine ⟨⟨hq, by rw [List.length_map, r.len]; exact Nat.le.refl⟩, fun i x hx => ?_⟩
  rw [List.getElem?_map] at hx
  cases e : kvs[i]? with
  | none => rw [e] at hx; cases hx
  | some kv =>
    rw [e] at hx; cases hx
    obtain ⟨kk, v, h1, h2, h3⟩ := r.get (a := kv.1) (b := kv.2) e
    refine ⟨⟨hq, (List.getElem?_eq_some_iff.mp h1).1⟩, fun w H' ⟨e1, k', v', e2, e3⟩ => ⟨S', .refl S', k, e1.symm, ?_⟩⟩
    rw [h1] at e2; cases e2
    subst e3
    exact rep_key h2
theorem walk_keysT {od : Obj} {vs : List (List Key × V)} {kvs : List (D × D)} (hz : kvs.length < sizeLine) (h : S.F p = some (.frz od (.dT vs))) (r : RepT g.K g.cl S.F vs kvs) : WalkJ g S (Itkt p od vs) (kvs.map (·.1)) := by
  refine ⟨by rw [List.length_map]; exact hz, fun S' β l k => ?_⟩
  have hq := k.sub _ _ (l _ _ h)
  refine ⟨⟨hq, by rw [List.length_map, r.len]; exact Nat.le.refl⟩, fun i x hx => ?_⟩
  rw [List.getElem?_map] at hx
  cases e : kvs[i]? with
  | none => rw [e] at hx; cases hx
  | some kv =>
    rw [e] at hx; cases hx
    obtain ⟨kk, v, h1, h2, h3⟩ := r.get (a := kv.1) (b := kv.2) e
    refine ⟨⟨hq, (List.getElem?_eq_some_iff.mp h1).1⟩, fun w H' ⟨e1, k', v', b, e2, e3, e4⟩ => ?_⟩
    rw [h1] at e2; cases e2
    subst e3 e1
    obtain ⟨xs, ex, ek⟩ := keyT_tup h2
    show ∃ S'', Le S' S'' ∧ OkS g β S'' ∧ S''.H = S'.H ∧ Rep g.K g.cl S''.F (V.ref b) kv.1
    rw [ex]
    exact know_tup k e4 (Reps.keys ek)
theorem walk_itemsK {od : Obj} {vs : List (Key × V)} {kvs : List (D × D)} (hz : kvs.length < sizeLine) (h : S.F p = some (.frz od (.dK vs))) (r : RepK g.K g.cl S.F vs kvs) : WalkJ g S (Iti p od vs) (kvs.map fun p => .tup [p.1, p.2]) := by
  refine ⟨by rw [List.length_map]; exact hz, fun S' β l k => ?_⟩
  have hq := k.sub _ _ (l _ _ h)
  refine ⟨⟨hq, by rw [List.length_map, r.len]; exact Nat.le.refl⟩, fun i x hx => ?_⟩
  rw [List.getElem?_map] at hx
  cases e : kvs[i]? with
  | none => rw [e] at hx; cases hx
  | some kv =>
    rw [e] at hx; cases hx
    obtain ⟨kk, v, h1, h2, h3⟩ := r.get (a := kv.1) (b := kv.2) e
    refine ⟨⟨hq, (List.getElem?_eq_some_iff.mp h1).1⟩, fun w H' ⟨t, k', v', e1, e2, e3, e4⟩ => ?_⟩
    rw [h1] at e1; cases e1
    subst e2 e4
    exact ⟨S'.add t (.tup [kV kk, v]), Le.add k e3, k.add e3 (fun _ z => by cases z) (fun _ z => by cases z), rfl, rep_tup k e3 (.cons (rep_key h2) (.cons (h3.mono l) .nil))⟩
theorem walk_itemsT {od : Obj} {vs : List (List Key × V)} {kvs : List (D × D)} (hz : kvs.length < sizeLine) (h : S.F p = some (.frz od (.dT vs))) (r : RepT g.K g.cl S.F vs kvs) : WalkJ g S (Itit p od vs) (kvs.map fun p => .tup [p.1, p.2]) := by
  refine ⟨by rw [List.length_map]; exact hz, fun S' β l k => ?_⟩
  have hq := k.sub _ _ (l _ _ h)
  refine ⟨⟨hq, by rw [List.length_map, r.len]; exact Nat.le.refl⟩, fun i x hx => ?_⟩
  rw [List.getElem?_map] at hx
  cases e : kvs[i]? with
  | none => rw [e] at hx; cases hx
  | some kv =>
    rw [e] at hx; cases hx
    obtain ⟨kk, v, h1, h2, h3⟩ := r.get (a := kv.1) (b := kv.2) e
    refine ⟨⟨hq, (List.getElem?_eq_some_iff.mp h1).1⟩, fun w H' ⟨t, k', v', b, e1, e2, e3, e4, e5⟩ => ?_⟩
    rw [h1] at e1; cases e1
    subst e2 e5
    obtain ⟨xs, ex, ek⟩ := keyT_tup h2
    obtain ⟨S1, l1, k1, eH, rb⟩ := know_tup (g := g) k e4 (Reps.keys ek)
    have e3' : S1.H t = none := by rw [eH]; exact e3
    refine ⟨S1.add t (.tup [.ref b, v]), l1.trans (Le.add k1 e3'), k1.add e3' (fun _ z => by cases z) (fun _ z => by cases z), ?_, rep_tup k1 e3' (.cons (by rw [ex]; exact rb) (.cons ((h3.mono l).mono l1.F) .nil))⟩
    show upd S1.H t _ = _
    rw [eH]
end
section
variable {g : G} {ge : GE} {X : Cx} {n : Nat} {W : WX} {a b c tg : Expr} {pos p : Pos}
theorem grow_w {R : L2.It → Hp → Prop} : Grow (fun S => Kw g S R) := fun l q S' J l' k' w => q S' J (l.trans l') k' w
theorem keys_lt {t : Bool} {kvs : List (D × D)} {xs : List D} (h : keysOf (.fdic t kvs) = some xs) : xs = kvs.map (·.1) ∧ kvs.length < sizeLine := by
  have h : (if small kvs.length then some (kvs.map (·.1)) else none) = some xs := h
  split at h
  · rename_i hs
    exact ⟨(Option.some.inj h).symm, Nat.lt_of_le_of_lt (of_decide_eq_true hs) (by rw [sizeLine_eq]; decide)⟩
  · cases h
theorem pairs_lt {t : Bool} {kvs : List (D × D)} {xs : List D} (h : pairsOf (.fdic t kvs) = some xs) : xs = (kvs.map fun p => .tup [p.1, p.2]) ∧ kvs.length < sizeLine := by
  have h : (if small kvs.length then some (kvs.map fun p => D.tup [p.1, p.2]) else none) = some xs := h
  split at h
  · rename_i hs
    exact ⟨(Option.some.inj h).symm, Nat.lt_of_le_of_lt (of_decide_eq_true hs) (by rw [sizeLine_eq]; decide)⟩
  · cases h
theorem si_keys {ma : Sl → M VV} (ha : PE X a (tEv g ge W ma)) :
    PI X tg a (tEvI g ge W fun φ => bnd (ma φ) fun v => bnd (freezeL v) fun x => M.opt (keysOf x)) := by
  refine (pi_keys (pe_post ha)).weak fun σ H R ⟨S, φ, β, e, k, sl, q⟩ => ?_
  subst e
  refine step_v (Qk := fun S => Kw g S R) grow_w k sl q fun u v β1 S1 l1 k1 r1 sl1 q1 => ?_
  have fin : ∀ {S2 : Sx} {β2 : Sto} {t : Bool} {kvs : List (D × D)}, Le S1 S2 → OkS g β2 S2 → Rep g.K g.cl S2.F u (.fdic t kvs) → Out (M.opt (keysOf (.fdic t kvs)) β2) (Kw g S1 R) (Ke g ge S1 W σ) →
      ∃ d o, u = .ref d ∧ ((∃ kvs, S2.H d = some (.frz o (.dK kvs)) ∧ R (Itk d o kvs) S2.H) ∨ ∃ kvs, S2.H d = some (.frz o (.dT kvs)) ∧ R (Itkt d o kvs) S2.H) := fun {S2 β2 t kvs} l2 k2 r2 q2 => by
    obtain ⟨xs, ex, q3⟩ := out_opt q2
    obtain ⟨rfl, hz⟩ := keys_lt ex
    cases r2 with
    | fdic h r => exact ⟨_, _, rfl, .inl ⟨_, k2.sub _ _ h, q3 S2 _ l2 k2 (walk_keysK hz h r)⟩⟩
    | fdicT h r => exact ⟨_, _, rfl, .inr ⟨_, k2.sub _ _ h, q3 S2 _ l2 k2 (walk_keysT hz h r)⟩⟩
  obtain ⟨t, kvs, z⟩ := freezeL_ok k1 r1 (out_bnd q1)
  rcases z with ⟨β2, q2, k2, r2⟩ | ⟨pp, o, rfl, ho, mu, q2⟩
  · exact .inr (fin (.refl S1) k2 r2 q2)
  · refine .inl ⟨pp, o, rfl, ho, mu, fun od => ?_⟩
    obtain ⟨S2, β2, q3, l2, k2, eH, r2⟩ := q2 od
    rw [← eH]
    exact fin l2 k2 r2 q3
theorem si_items {elts : List Expr} {kk : Nat} {tpos apos cpos : Pos} {ma : Sl → M VV} (ha : PE X a (tEv g ge W ma)) (hbase : attributeBase a "items" X.env (eval a X.env) = eval a X.env) (hline : (apos.endLine == cpos.line) = true) :
    PI X (.Tuple elts kk tpos) (.Call (.Attribute a "items" apos) [] [] cpos) (tEvI g ge W fun φ => bnd (ma φ) fun v => bnd (freezeL v) fun x => M.opt (pairsOf x)) := by
  refine (pi_itemsB (pe_post ha) hbase hline).weak fun σ H R ⟨S, φ, β, e, k, sl, q⟩ => ?_
  subst e
  refine step_v (Qk := fun S => Kw g S R) grow_w k sl q fun u v β1 S1 l1 k1 r1 sl1 q1 => ?_
  have fin : ∀ {S2 : Sx} {β2 : Sto} {t : Bool} {kvs : List (D × D)}, Le S1 S2 → OkS g β2 S2 → Rep g.K g.cl S2.F u (.fdic t kvs) → Out (M.opt (pairsOf (.fdic t kvs)) β2) (Kw g S1 R) (Ke g ge S1 W σ) →
      ∃ d o, u = .ref d ∧ ((∃ kvs, S2.H d = some (.frz o (.dK kvs)) ∧ R (Iti d o kvs) S2.H) ∨ ∃ kvs, S2.H d = some (.frz o (.dT kvs)) ∧ R (Itit d o kvs) S2.H) := fun {S2 β2 t kvs} l2 k2 r2 q2 => by
    obtain ⟨xs, ex, q3⟩ := out_opt q2
    obtain ⟨rfl, hz⟩ := pairs_lt ex
    cases r2 with
    | fdic h r => exact ⟨_, _, rfl, .inl ⟨_, k2.sub _ _ h, q3 S2 _ l2 k2 (walk_itemsK hz h r)⟩⟩
    | fdicT h r => exact ⟨_, _, rfl, .inr ⟨_, k2.sub _ _ h, q3 S2 _ l2 k2 (walk_itemsT hz h r)⟩⟩
  obtain ⟨t, kvs, z⟩ := freezeL_ok k1 r1 (out_bnd q1)
  rcases z with ⟨β2, q2, k2, r2⟩ | ⟨pp, o, rfl, ho, mu, q2⟩
  · exact .inr (fin (.refl S1) k2 r2 q2)
  · refine .inl ⟨pp, o, rfl, ho, mu, fun od => ?_⟩
    obtain ⟨S2, β2, q3, l2, k2, eH, r2⟩ := q2 od
    rw [← eH]
    exact fin l2 k2 r2 q3
/-! ### get -/
theorem out_isDic {S : Sx} {β : Sto} {u : V} {v : VV} {Qk : Unit → Sto → Prop} {Qe : Exc → Sto → Prop} (k : OkS g β S) (r : RepV g S u v) (h : Out (isDic v β) Qk Qe) : ∃ a, u = .ref a ∧ IsD S.H a ∧ Qk () β := by
  unfold isDic at h
  obtain ⟨x, q, d⟩ := DR.get k r (out_bnd h)
  cases x with
  | dic t kvs =>
    cases t with
    | false => obtain ⟨pp, rr, rfl, h1, _⟩ := d.dic' k; exact ⟨pp, rfl, .inl ⟨_, .inl h1⟩, q⟩
    | true => obtain ⟨pp, rr, rfl, h1, _⟩ := d.dicT' k; exact ⟨pp, rfl, .inr ⟨_, .inl h1⟩, q⟩
  | fdic t kvs =>
    cases t with
    | false => obtain ⟨pp, od, rr, rfl, h1, _⟩ := d.fdic' k; exact ⟨pp, rfl, .inl ⟨_, .inr ⟨od, h1⟩⟩, q⟩
    | true => obtain ⟨pp, od, rr, rfl, h1, _⟩ := d.fdicT' k; exact ⟨pp, rfl, .inr ⟨_, .inr ⟨od, h1⟩⟩, q⟩
  | _ => exact q.elim
theorem getOr_ok {S : Sx} {β : Sto} {u i z : V} {c y x r : D} (k : OkS g β S) (d : DR g S u c) (ry : Rep g.K g.cl S.F i y) (rx : Rep g.K g.cl S.F z x) (h : getOr c y x = some r) : ∃ a o, u = .ref a ∧ DGet S.H a i o ∧ Rep g.K g.cl S.F (o.getD z) r := by
  have K1 : ∀ {kvs : List (D × D)} {pp : Addr} {rr : List (Key × V)}, Rd S.H pp (.dK rr) → RepK g.K g.cl S.F rr kvs → ((keyD y).map fun k => (lookD k kvs).getD x) = some r → u = .ref pp → ∃ a o, u = .ref a ∧ DGet S.H a i o ∧ Rep g.K g.cl S.F (o.getD z) r := fun {kvs pp rr} h1 rk h eu => by
    cases hk : keyD y with
    | none => rw [hk] at h; cases h
    | some kk =>
      rw [hk] at h
      have h : (lookD kk kvs).getD x = r := Option.some.inj h
      subst h
      refine ⟨pp, valV rr kk, eu, .inl ⟨rr, kk, h1, keyD_V (.of ry) hk, rfl⟩, ?_⟩
      rcases rk.look kk with ⟨e1, e2⟩ | ⟨v', x', e1, e2, rv⟩
      · rw [e1, e2]; exact rx
      · rw [e1, e2]; exact rv
  have T1 : ∀ {kvs : List (D × D)} {pp : Addr} {rr : List (List Key × V)}, Rd S.H pp (.dT rr) → RepT g.K g.cl S.F rr kvs → ((keyT y).map fun k => (lookT k kvs).getD x) = some r → u = .ref pp → ∃ a o, u = .ref a ∧ DGet S.H a i o ∧ Rep g.K g.cl S.F (o.getD z) r := fun {kvs pp rr} h1 rk h eu => by
    cases hk : keyT y with
    | none => rw [hk] at h; cases h
    | some kk =>
      rw [hk] at h
      have h : (lookT kk kvs).getD x = r := Option.some.inj h
      subst h
      obtain ⟨b, eb, hb⟩ := keyT_V k (.of ry) hk
      refine ⟨pp, valV rr kk, eu, .inr ⟨rr, kk, b, h1, eb, hb, rfl⟩, ?_⟩
      rcases rk.look kk with ⟨e1, e2⟩ | ⟨v', x', e1, e2, rv⟩
      · rw [e1, e2]; exact rx
      · rw [e1, e2]; exact rv
  cases c with
  | dic t kvs =>
    cases t with
    | false => obtain ⟨pp, rr, e1, h1, rk⟩ := d.dic' k; exact K1 (.inl h1) rk h e1
    | true => obtain ⟨pp, rr, e1, h1, rk⟩ := d.dicT' k; exact T1 (.inl h1) rk h e1
  | fdic t kvs =>
    cases t with
    | false => obtain ⟨pp, od, rr, e1, h1, rk⟩ := d.fdic' k; exact K1 (.inr ⟨od, h1⟩) rk h e1
    | true => obtain ⟨pp, od, rr, e1, h1, rk⟩ := d.fdicT' k; exact T1 (.inr ⟨od, h1⟩) rk h e1
  | _ => cases h
theorem se_get1 {o e : Expr} {apos cpos : Pos} {mo mk : Sl → M VV} (hx : XOk g X n W) (ho : PE X o (tEv g ge W mo)) (hk : PE X e (tEv g ge W mk)) (m : M1 X o "get" apos e cpos) :
    PE X (.Call (.Attribute o "get" apos) [e] [] cpos) (tEv g ge W fun φ => bnd (mo φ) fun u => bnd (isDic u) fun _ => bnd (mk φ) fun w => bnd (dataOf w) fun y => bnd (deref u) fun c => bnd (M.opt (getOr c y .non)) fun r => ret (.d r)) := by
  refine (pe_dget1 (by have := hx.room.un; omega) ho hk m).weak fun σ H Q ⟨S, φ, β, e, k, sl, q⟩ => ?_
  subst e
  refine step_v (Qk := fun S => Kv g S Q) grow_v k sl q fun u v β1 S1 l1 k1 r1 sl1 q1 => ?_
  obtain ⟨a, rfl, d, q2⟩ := out_isDic k1 r1 (out_bnd q1)
  refine ⟨a, rfl, d, ?_⟩
  refine step_v (Qk := fun S => Kv g S Q) grow_v k1 sl1 q2 fun i w β2 S2 l2 k2 r2 sl2 q3 => ?_
  obtain ⟨y, rfl, q4⟩ := out_data (out_bnd q3)
  obtain ⟨c, q5, dr⟩ := DR.get k2 (r1.mono l2) (out_bnd q4)
  obtain ⟨r, er, q6⟩ := out_opt (out_bnd q5)
  obtain ⟨a', o, ea, g1, rr⟩ := getOr_ok (z := .non) k2 dr r2.d' .non er
  cases ea
  have q6 : Kv g S2 Q (.d r) β2 := q6
  exact ⟨o, g1, q6 _ S2 (.refl S2) k2 (.d rr)⟩
theorem se_get2 {o e f : Expr} {apos cpos : Pos} {mo mk md : Sl → M VV} (hx : XOk g X n W) (ho : PE X o (tEv g ge W mo)) (hk : PE X e (tEv g ge W mk)) (hd : PE X f (tEv g ge W md)) (m : M2 X o "get" apos e f cpos) :
    PE X (.Call (.Attribute o "get" apos) [e, f] [] cpos) (tEv g ge W fun φ => bnd (mo φ) fun u => bnd (isDic u) fun _ => bnd (mk φ) fun w => bnd (md φ) fun z => bnd (dataOf w) fun y => bnd (dataOf z) fun x => bnd (deref u) fun c => bnd (M.opt (getOr c y x)) fun r => ret (.d r)) := by
  refine (pe_dget2 (by have := hx.room.un; omega) ho hk hd m).weak fun σ H Q ⟨S, φ, β, e, k, sl, q⟩ => ?_
  subst e
  refine step_v (Qk := fun S => Kv g S Q) grow_v k sl q fun u v β1 S1 l1 k1 r1 sl1 q1 => ?_
  obtain ⟨a, rfl, d, q2⟩ := out_isDic k1 r1 (out_bnd q1)
  refine ⟨a, rfl, d, ?_⟩
  refine step_v (Qk := fun S => Kv g S Q) grow_v k1 sl1 q2 fun i w β2 S2 l2 k2 r2 sl2 q3 => ?_
  refine step_v (Qk := fun S => Kv g S Q) grow_v k2 sl2 q3 fun z w2 β3 S3 l3 k3 r3 sl3 q4 => ?_
  obtain ⟨y, rfl, q5⟩ := out_data (out_bnd q4)
  obtain ⟨x, rfl, q6⟩ := out_data (out_bnd q5)
  obtain ⟨c, q7, dr⟩ := DR.get k3 ((r1.mono l2).mono l3) (out_bnd q6)
  obtain ⟨r, er, q8⟩ := out_opt (out_bnd q7)
  obtain ⟨a', o, ea, g1, rr⟩ := getOr_ok k3 dr ((r2.mono l3).d') r3.d' er
  cases ea
  have q8 : Kv g S3 Q (.d r) β3 := q8
  exact ⟨o, g1, q8 _ S3 (.refl S3) k3 (.d rr)⟩
/-! ### values summed -/
theorem intsD_vals {K : PySem.W.Frag} {cl : Nat → Option Addr} {F : Hp} : ∀ {vs : List V} {xs : List D} {ns : List Int}, Reps K cl F vs xs → intsD xs = some ns → vs = ns.map V.int
  | _, _, ns, .nil, e => by simp [intsD] at e; subst e; rfl
  | _, x :: xs, ns, .cons h t, e => by
    cases x <;> simp only [intsD] at e <;> try cases e
    rename_i i
    cases h2 : intsD xs with
    | none => rw [h2] at e; cases e
    | some r =>
      rw [h2] at e
      cases e
      cases h
      rw [intsD_vals t h2]
      rfl
theorem RepK.vals {K : PySem.W.Frag} {cl : Nat → Option Addr} {F : Hp} : ∀ {vs : List (Key × V)} {kvs : List (D × D)}, RepK K cl F vs kvs → Reps K cl F (vs.map (·.2)) (kvs.map (·.2))
  | _, _, .nil => .nil
  | _, _, .cons _ h t => .cons h t.vals
theorem RepT.vals {K : PySem.W.Frag} {cl : Nat → Option Addr} {F : Hp} : ∀ {vs : List (List Key × V)} {kvs : List (D × D)}, RepT K cl F vs kvs → Reps K cl F (vs.map (·.2)) (kvs.map (·.2))
  | _, _, .nil => .nil
  | _, _, .cons _ h t => .cons h t.vals
theorem vals_ok {S : Sx} {β : Sto} {u : V} {c : D} {ns : List Int} (k : OkS g β S) (d : DR g S u c) (h : valsI c = some ns) : ∃ a, u = .ref a ∧ ValsAt S.H a (ns.map V.int) := by
  unfold valsI at h
  cases c with
  | dic t kvs =>
    have h : intsD (kvs.map (·.2)) = some ns := h
    cases t with
    | false => obtain ⟨pp, rr, e1, h1, rk⟩ := d.dic' k; exact ⟨pp, e1, .inl ⟨rr, .inl h1, intsD_vals rk.vals h⟩⟩
    | true => obtain ⟨pp, rr, e1, h1, rk⟩ := d.dicT' k; exact ⟨pp, e1, .inr ⟨rr, .inl h1, intsD_vals rk.vals h⟩⟩
  | fdic t kvs =>
    have h : intsD (kvs.map (·.2)) = some ns := h
    cases t with
    | false => obtain ⟨pp, od, rr, e1, h1, rk⟩ := d.fdic' k; exact ⟨pp, e1, .inl ⟨rr, .inr ⟨od, h1⟩, intsD_vals rk.vals h⟩⟩
    | true => obtain ⟨pp, od, rr, e1, h1, rk⟩ := d.fdicT' k; exact ⟨pp, e1, .inr ⟨rr, .inr ⟨od, h1⟩, intsD_vals rk.vals h⟩⟩
  | _ => cases h
theorem se_sumV {x : Str} {e : Expr} {apos cpos : Pos} {me : Sl → M VV} (hx : XOk g X n W) (hxn : x = "sum") (hg : Gl X x) (hm : g.mg x = none) (he : PE X e (tEv g ge W me)) (hbase : attributeBase e "values" X.env (eval e X.env) = eval e X.env) (hline : (apos.endLine == cpos.line) = true) :
    PE X (.Call (.Name x p) [.Call (.Attribute e "values" apos) [] [] cpos] [] pos) (tEv g ge W fun φ => bnd (me φ) fun u => bnd (deref u) fun c => bnd (M.opt (valsI c)) fun ns => ret (.d (.int ns.sum))) := by
  subst hxn
  refine (pe_sumV hx.calm hg (by rw [hx.mg]; exact hm) he hbase hline).weak fun σ H Q ⟨S, φ, β, e, k, sl, q⟩ => ?_
  subst e
  refine step_v (Qk := fun S => Kv g S Q) grow_v k sl q fun u v β1 S1 l1 k1 r1 sl1 q1 => ?_
  obtain ⟨c, q2, d⟩ := DR.get k1 r1 (out_bnd q1)
  obtain ⟨ns, en, q3⟩ := out_opt (out_bnd q2)
  obtain ⟨a, rfl, va⟩ := vals_ok k1 d en
  have q3 : Kv g S1 Q (.d (.int ns.sum)) β1 := q3
  exact ⟨a, ns, rfl, va, q3 _ S1 (.refl S1) k1 (.d (.int _))⟩
/-! ### a display of one pair -/
theorem Le.hidKeep {T S5 : Sx} {D : Addr} {o : HO} {β' : Sto} (kT : OkS g β' T) (hT : T.H D = none) (n1 : ∀ ps, o ≠ .tbl ps) (n2 : ∀ x, o ≠ .own x) (n3 : ∀ x, o ≠ .tup x) (l5 : Le (T.hid D o) S5) : S5.H D = some o ∧ S5.F D = none ∧ D ∉ S5.ι := by
  have e0 : (T.hid D o).H D = some o := upd_same
  have nD : D ∉ (T.hid D o).ι := fun z => kT.tracked D z hT
  have hFD : (T.hid D o).F D = none := kT.noF hT
  refine ⟨l5.keep D _ e0 nD n1, ?_, fun z => ?_⟩
  · cases e : S5.F D with
    | none => rfl
    | some o' =>
      rcases l5.fresh D (by rw [e]; simp) hFD with z | z | ⟨x, z⟩ | ⟨x, z⟩
      · rw [e0] at z; cases z
      · exact absurd z nD
      · rw [e0] at z; cases z; exact absurd rfl (n2 x)
      · rw [e0] at z; cases z; exact absurd rfl (n3 x)
  · rcases l5.new D z with w | w
    · exact nD w
    · rw [e0] at w; cases w
theorem fr_dd1 {e f : Expr} {mk mv : Sl → M VV} (hx : XOk g X n W) (hk : PE X e (tEv g ge W mk)) (hv : PE X f (tEv g ge W mv)) :
    PE X (.Dict [some e] [f] pos) (tFr g ge W fun φ => bnd (noExc (mk φ)) fun u => bnd (noExc (mv φ)) fun w => bnd (dataOf u) fun y => bnd (dataOf w) fun x => if (keyT y).isSome then ret (Ct.dic true [(y, x)]) else bad) := by
  refine (pe_dispT (by have := hx.room.un; omega) hk hv).weak fun σ H Q ⟨S, φ, β, e, k, sl, q⟩ => ?_
  subst e
  intro D hD
  have n1 : ∀ ps, HO.dT [] ≠ .tbl ps := fun _ z => by cases z
  have n2 : ∀ x, HO.dT [] ≠ .own x := fun _ z => by cases z
  have n3 : ∀ x, HO.dT [] ≠ .tup x := fun _ z => by cases z
  have kh : OkS g β (S.hid D (.dT [])) := k.hid hD
  have lh : Le S (S.hid D (.dT [])) := Le.hid hD
  refine ⟨S.hid D (.dT []), φ, β, rfl, kh, sl.mono lh, (out_noExc (out_bnd q)).imp (fun v β1 q1 u S1 l1 k1 r1 => ?_) fun _ _ z => False.elim z⟩
  refine ⟨S1, φ, β1, rfl, k1, (sl.mono lh).mono l1, (out_noExc (out_bnd q1)).imp (fun w β2 q2 i S2 l2 k2 r2 => ?_) fun _ _ z => False.elim z⟩
  obtain ⟨y, rfl, q3⟩ := out_data (out_bnd q2)
  obtain ⟨x, rfl, q4⟩ := out_data (out_bnd q3)
  obtain ⟨hk, q5⟩ := out_if q4
  obtain ⟨ks, hks⟩ := Option.isSome_iff_exists.mp hk
  obtain ⟨b, rfl, hb⟩ := keyT_V k2 (.of (r1.mono l2).d') hks
  obtain ⟨d1, d2, d3⟩ := Le.hidKeep k hD n1 n2 n3 (l1.trans l2)
  refine ⟨ks, b, rfl, d1, hb, ?_⟩
  have q5 : Kf g S Q (.dic true [(y, x)]) β2 := q5
  have := q5 D (.dT [(ks, i)]) (S2.era D) ((lh.trans (l1.trans l2)).era hD) (k2.eraO d2 d3 d1 trivial n2) (if_pos rfl) ⟨[(ks, i)], rfl, .cons hks r2.d' .nil⟩
  rw [era_upd] at this
  exact this
end
end VI

set_option maxHeartbeats 2000000
/-! V13e: comprehensions of two clauses; dict(pairs). -/
namespace VI
open PySem L2 M
open LamX (CodeO TabB ExtN)
section
variable {g : G} {S : Sx} {p : Addr} {oo : HO}
theorem CloAt.era {f : Addr} {l : LDef} {vs : List V} (h : S.H p = some oo) (n0 : NotTab oo) (n1 : ∀ a b, oo ≠ .frz a b) (c : CloAt g S f l vs) : CloAt g (S.era p) f l vs := by
  obtain ⟨I, h0, cl, c', pm, ctv, h1, h2, h3, h4, h5, h6, h7, h8, h9⟩ := c.ex
  have ne : ∀ b o, S.H b = some o → (o = oo → False) → (S.era p).H b = some o := fun b o e z => by
    show (if b = p then none else S.H b) = _
    rw [if_neg (fun y => z (by rw [y, h] at e; exact (Option.some.inj e).symm))]; exact e
  refine ⟨I, h0, cl, c', pm, ctv, ne _ _ h1 (fun z => n1 _ _ z.symm), h2, h3, ne _ _ h4 (fun z => ?_), h5, fun y c q => ?_, h7, h8, fun i y v a b => ?_⟩
  · rw [← z] at n0; exact n0
  · obtain ⟨m1, m2, m3, o, v, m4, m5⟩ := h6 y c q
    exact ⟨m1, m2, m3, o, v, ne _ _ m4 (fun z => n1 _ _ z.symm), m5⟩
  · obtain ⟨c, o, w, q1, q2, q3, q4⟩ := h9 i y v a b
    exact ⟨c, o, w, q1, ne _ _ q2 (fun z => n1 _ _ z.symm), q3, q4⟩
mutual
theorem RepV.era (h : S.H p = some oo) (n0 : NotTab oo) (n1 : ∀ a b, oo ≠ .frz a b) : ∀ {v : V} {x : VV}, RepV g S v x → RepV g (S.era p) v x
  | _, _, .d r => .d r
  | _, _, .box e => .box e
  | _, _, .clo h1 h2 => .clo (h1.era h n0 n1) (RepVs.era h n0 n1 h2)
  | _, _, .bxs q => .bxs (by
    obtain ⟨od, qs, h1, h2⟩ := q
    refine ⟨od, qs, ?_, h2⟩
    show (if _ = p then none else S.H _) = _
    rw [if_neg (fun z => by rw [z, h] at h1; exact n1 _ _ (Option.some.inj h1))]
    exact h1)
theorem RepVs.era (h : S.H p = some oo) (n0 : NotTab oo) (n1 : ∀ a b, oo ≠ .frz a b) : ∀ {v : List V} {x : List VV}, RepVs g S v x → RepVs g (S.era p) v x
  | _, _, .nil => .nil
  | _, _, .cons r rs => .cons (RepV.era h n0 n1 r) (RepVs.era h n0 n1 rs)
end
theorem SlOk.era {φ : Sl} {σ : L2.St} (h : S.H p = some oo) (n0 : NotTab oo) (n1 : ∀ a b, oo ≠ .frz a b) (s : SlOk g S φ σ) : SlOk g (S.era p) φ σ := ⟨s.len, fun i v q => let ⟨u, a, b⟩ := s.at_ i v q; ⟨u, a, b.era h n0 n1⟩⟩
theorem upd_back {H : Hp} {D : Addr} {o : HO} (h : H D = some o) : upd (fun b => if b = D then none else H b) D o = H := by
  rw [era_upd]
  funext b
  by_cases hb : b = D
  · subst hb; rw [upd_same, h]
  · rw [upd_ne hb]
theorem upd_id {H : Hp} {D : Addr} {o : HO} (h : H D = some o) : upd H D o = H := by
  funext b
  by_cases hb : b = D
  · subst hb; rw [upd_same, h]
  · rw [upd_ne hb]
end
section
variable {g : G} {ge : GE} {X : Cx} {n : Nat} {W : WX} {a b c tg : Expr} {pos p : Pos}
/-- the inner walk: items made and put behind the list at D -/
theorem inner_spec {ts own : List Nat} {mg : VV → Sl → M Sl} {mt : Sl → M Bool} {me : Sl → M VV} (hts : ∀ i ∈ ts, i ∈ own) {S2 : Sx} {D : Addr} {β1 : Sto} {φ0 : Sl} {σ0 : L2.St} {ys : List VI.D} {J : L2.It} {Nx : Hp → Prop} {Qk : List VI.D → Sto → Prop} {vs0 : List V} {acc0 : List VI.D}
    (hD : S2.H D = none) (k2 : OkS g β1 S2) (sl2 : SlOk g S2 φ0 σ0) (r0 : Reps g.K g.cl S2.F vs0 acc0) (wj : WalkJ g S2 J ys) (hb : vs0.length + ys.length < sizeLine)
    (q : Out (compGo (compF mg mt me (wipeS φ0 own)) ys β1) Qk (fun _ _ => True))
    (hN : ∀ T β vs r, T.H D = none → OkS g β T → Le S2 T → Reps g.K g.cl T.F vs (acc0 ++ r) → vs.length ≤ vs0.length + ys.length → Qk r β → Nx (upd T.H D (.lst vs))) :
    ∃ W1 : Nat → Nat → Hp → Prop, (∃ m, W1 0 m (upd S2.H D (.lst vs0))) ∧ ∀ j k H, W1 j k H →
      (J.stop j H ∧ Nx H) ∨ (J.go j H ∧ ∃ Nx1 : Hp → Prop, (∀ H', Nx1 H' → ∃ k', k' < k ∧ W1 (j + 1) k' H') ∧ ∀ x H', J.yld j H x H' → gEv g ts mg x (L2.wipe σ0 own) H' fun σ3 H5 => L2.wipe σ3 own = L2.wipe σ0 own ∧ tEvT g ge WF mt σ3 H5 fun b H6 =>
        if b = true then tEv g ge WF me σ3 H6 fun y H7 => ∃ acc, H7 D = some (.lst acc) ∧ acc.length < sizeLine ∧ Nx1 (upd H7 D (.lst (acc ++ [y]))) else Nx1 H6) := by
  have sl3 : SlOk g S2 (wipeS φ0 own) (L2.wipe σ0 own) := sl2.wipe own
  let Inv1 : Nat → Hp → Prop := fun i H => ∃ (T : Sx) (β' : Sto) (vs : List V) (acc : List VI.D), H = upd T.H D (.lst vs) ∧ T.H D = none ∧ OkS g β' T ∧ Le S2 T ∧ Reps g.K g.cl T.F vs (acc0 ++ acc) ∧ vs.length ≤ vs0.length + i ∧ i ≤ ys.length ∧
    Out (compGo (compF mg mt me (wipeS φ0 own)) (ys.drop i) β') (fun zs β'' => Qk (acc ++ zs) β'') (fun _ _ => True)
  have start : Inv1 0 (upd S2.H D (.lst vs0)) := ⟨S2, β1, vs0, [], rfl, hD, k2, .refl S2, by rw [List.append_nil]; exact r0, Nat.le.refl, Nat.zero_le _, by
    rw [List.drop_zero]
    exact q⟩
  refine ⟨fun i m H => m = ys.length - i ∧ Inv1 i H, ⟨ys.length, by simp, start⟩, ?_⟩
  rintro i m H ⟨rfl, T, β', vs, acc, rfl, hT, kT, lT, ra, hlen, hle, qT⟩
  have kh : OkS g β' (T.hid D (.lst vs)) := kT.hid hT
  have lh : Le S2 (T.hid D (.lst vs)) := lT.trans (Le.hid hT)
  have wj' := wj.2 _ _ lh.F kh
  by_cases hi : i = ys.length
  · subst hi
    refine .inl ⟨wj'.1, ?_⟩
    rw [List.drop_length] at qT
    have qT : Qk (acc ++ []) β' := qT
    rw [List.append_nil] at qT
    exact hN T β' vs acc hT kT lT ra hlen qT
  · have hi : i < ys.length := by omega
    have hx : ys[i]? = some ys[i] := List.getElem?_eq_getElem hi
    obtain ⟨hgo, hy⟩ := wj'.2 i _ hx
    refine .inr ⟨hgo, Inv1 (i + 1), fun H' z => ⟨ys.length - (i + 1), by omega, rfl, z⟩, fun x H' y => ?_⟩
    obtain ⟨S4, l4, k4, eH4, rx⟩ := hy x H' y
    subst eH4
    rw [List.drop_eq_getElem_cons hi] at qT
    simp only [compGo] at qT
    have qb := out_bnd qT
    have qb2 : Out ((bnd (mg (.d ys[i]) (wipeS φ0 own)) fun φ' => bnd (mt φ') fun k => if k = true then bnd (me φ') fun v => bnd (dataOf v) fun y => ret (some y) else ret none) β') (fun o s' => Out (bnd (compGo (compF mg mt me (wipeS φ0 own)) (ys.drop (i + 1))) (fun r => ret (o.toList ++ r)) s') (fun zs β'' => Qk (acc ++ zs) β'') (fun _ _ => True)) (fun _ _ => False) := out_noExc qb
    have l24 : Le S2 S4 := lh.trans l4
    have n1 : ∀ ps, HO.lst vs ≠ .tbl ps := fun _ z => by cases z
    have n2 : ∀ x, HO.lst vs ≠ .own x := fun _ z => by cases z
    have n3 : ∀ x, HO.lst vs ≠ .tup x := fun _ z => by cases z
    have keepD : ∀ {S5 : Sx}, Le (T.hid D (.lst vs)) S5 → S5.H D = some (.lst vs) ∧ S5.F D = none ∧ D ∉ S5.ι := fun {S5} l5 => Le.hidKeep kT hT n1 n2 n3 l5
    refine ⟨S4, wipeS φ0 own, β', .d ys[i], rfl, k4, sl3.mono l24, .d rx, (out_bnd qb2).imp (fun φ' β5 q5 S5 σ5 l5 k5 sl5 w5 => ?_) fun _ _ z => z⟩
    refine ⟨?_, ?_⟩
    · have h1 := w5.wipe hts
      have h2 : L2.wipe (L2.wipe σ0 own) own = L2.wipe σ0 own := by
        apply List.ext_getElem?
        intro j
        rw [wipe_get, wipe_get]
        split
        · cases σ0[j]? <;> rfl
        · rfl
      rw [h1, h2]
    refine ⟨S5, φ', β5, rfl, k5, sl5, (out_bnd q5).imp (fun kk β6 q6 S6 l6 k6 => ?_) fun _ _ z => z.elim⟩
    have l46 : Le (T.hid D (.lst vs)) S6 := (l4.trans l5).trans l6
    have fin : ∀ {S7 : Sx} {β7 : Sto} {o : Option VI.D} {add : List V}, Le (T.hid D (.lst vs)) S7 → OkS g β7 S7 → Reps g.K g.cl S7.F add o.toList →
        Out (bnd (compGo (compF mg mt me (wipeS φ0 own)) (ys.drop (i + 1))) (fun r => ret (o.toList ++ r)) β7) (fun zs β'' => Qk (acc ++ zs) β'') (fun _ _ => True) → Inv1 (i + 1) (upd S7.H D (.lst (vs ++ add))) := fun {S7 β7 o add} l7 k7 ro q7 => by
      obtain ⟨d1, d2, d3⟩ := keepD l7
      refine ⟨S7.era D, β7, vs ++ add, acc ++ o.toList, era_upd.symm, if_pos rfl, k7.era d2 d3 d1, (lh.trans l7).era hD, by rw [← List.append_assoc]; exact (ra.mono l7.F).append ro, ?_, hi, (out_bnd q7).imp (fun r β8 q8 => ?_) fun _ _ _ => trivial⟩
      · have h3 := ro.len
        have h4 : o.toList.length ≤ 1 := by cases o <;> simp
        rw [List.length_append]; omega
      · rw [List.append_assoc]; exact q8
    cases kk with
    | false =>
      have := fin (o := none) (add := []) l46 k6 .nil q6
      rw [List.append_nil] at this
      obtain ⟨d1, _, _⟩ := keepD l46
      rw [upd_id d1] at this
      exact this
    | true =>
      have q6 : Out ((bnd (me φ') fun v => bnd (dataOf v) fun y => ret (some y)) β6) (fun o s' => Out (bnd (compGo (compF mg mt me (wipeS φ0 own)) (ys.drop (i + 1))) (fun r => ret (o.toList ++ r)) s') (fun zs β'' => Qk (acc ++ zs) β'') (fun _ _ => True)) (fun _ _ => False) := q6
      refine ⟨S6, φ', β6, rfl, k6, sl5.mono l6, (out_bnd q6).imp (fun v β7 q7 u S7 l7 k7 r7 => ?_) fun _ _ z => z.elim⟩
      obtain ⟨y, rfl, q8⟩ := out_data (out_bnd q7)
      obtain ⟨d1, _, _⟩ := keepD (l46.trans l7)
      refine ⟨vs, d1, by omega, fin (o := some y) (add := [u]) (l46.trans l7) k7 (.cons r7.d' .nil) q8⟩
def compF2 (mg : VV → Sl → M Sl) (mt : Sl → M Bool) (mi1 : Sl → M (List D)) (mg1 : VV → Sl → M Sl) (mt1 : Sl → M Bool) (me : Sl → M VV) (own1 : List Nat) (φ0 : Sl) (x : D) : M (List D) :=
  noExc (bnd (mg (.d x) φ0) fun φ' => bnd (mt φ') fun k => if k then bnd (mi1 φ') fun ys => if decide (ys.length ≤ 60) then compGo (compF mg1 mt1 me (wipeS φ' own1)) ys else bad else ret [])
theorem out_if' {α : Type} {c : Bool} {m m' : M α} {β : Sto} {Qk : α → Sto → Prop} {Qe : Exc → Sto → Prop} (hc : c = true) (h : Out ((if c = true then m else m') β) Qk Qe) : Out (m β) Qk Qe := by
  subst hc; exact h
theorem comp2_spec {ts own ts1 own1 : List Nat} {mi mi1 : Sl → M (List D)} {mg mg1 : VV → Sl → M Sl} {mt mt1 : Sl → M Bool} {me : Sl → M VV} (hts : ∀ i ∈ ts, i ∈ own) (hts1 : ∀ i ∈ ts1, i ∈ own1) {σ : L2.St} {H : Hp} {Q : VK}
    (h : tFr g ge W (fun φ => bnd (mi φ) fun xs => if decide (xs.length ≤ 10000) then bnd (compGoL (compF2 mg mt mi1 mg1 mt1 me own1 (wipeS φ own)) xs) fun zs => ret (.lst zs) else bad) σ H Q) :
    tLc2 (tEvI g ge W mi) (gEv g ts mg) (tEvT g ge WF mt) (tEvI g ge WF mi1) (gEv g ts1 mg1) (tEvT g ge WF mt1) (tEv g ge WF me) own own1 σ H Q := by
  obtain ⟨S, φ, β, e, k, sl, q⟩ := h
  subst e
  refine ⟨S, φ, β, rfl, k, sl, (out_bnd q).imp (fun xs β1 q1 S2 J l k2 wj => ?_) fun _ _ z => z⟩
  intro D hD
  obtain ⟨hxs, q1⟩ := out_if q1
  have hxs := of_decide_eq_true hxs
  have sl2 : SlOk g S2 (wipeS φ own) (L2.wipe σ own) := (sl.mono l).wipe own
  let Inv1 : Nat → Hp → Prop := fun i H => ∃ (T : Sx) (β' : Sto) (vs : List V) (acc : List VI.D), H = upd T.H D (.lst vs) ∧ T.H D = none ∧ OkS g β' T ∧ Le S2 T ∧ Reps g.K g.cl T.F vs acc ∧ vs.length ≤ 60 * i ∧ i ≤ xs.length ∧
    Out (compGoL (compF2 mg mt mi1 mg1 mt1 me own1 (wipeS φ own)) (xs.drop i) β') (fun ys β'' => Kf g S Q (.lst (acc ++ ys)) β'') (fun _ _ => True)
  have start : Inv1 0 (upd S2.H D (.lst [])) := ⟨S2, β1, [], [], rfl, hD, k2, .refl S2, .nil, Nat.le.refl, Nat.zero_le _, by
    rw [List.drop_zero]
    exact (out_bnd q1).imp (fun ys β'' z => z) fun _ _ _ => trivial⟩
  refine ⟨fun i m H => m = xs.length - i ∧ Inv1 i H, ⟨xs.length, by simp, start⟩, ?_⟩
  rintro i m H ⟨rfl, T, β', vs, acc, rfl, hT, kT, lT, ra, hlen, hle, qT⟩
  have kh : OkS g β' (T.hid D (.lst vs)) := kT.hid hT
  have lh : Le S2 (T.hid D (.lst vs)) := lT.trans (Le.hid hT)
  have wj' := wj.2 _ _ lh.F kh
  by_cases hi : i = xs.length
  · subst hi
    refine .inl ⟨wj'.1, ?_⟩
    rw [List.drop_length] at qT
    have qT : Kf g S Q (.lst (acc ++ [])) β' := qT
    rw [List.append_nil] at qT
    exact qT D (.lst vs) T (l.trans lT) kT hT ⟨vs, rfl, ra⟩
  · have hi : i < xs.length := by omega
    have hx : xs[i]? = some xs[i] := List.getElem?_eq_getElem hi
    obtain ⟨hgo, hy⟩ := wj'.2 i _ hx
    refine .inr ⟨hgo, Inv1 (i + 1), fun H' z => ⟨xs.length - (i + 1), by omega, rfl, z⟩, fun x H' y => ?_⟩
    obtain ⟨S4, l4, k4, eH4, rx⟩ := hy x H' y
    subst eH4
    rw [List.drop_eq_getElem_cons hi] at qT
    simp only [compGoL] at qT
    have qb := out_bnd qT
    have qb2 : Out ((bnd (mg (.d xs[i]) (wipeS φ own)) fun φ' => bnd (mt φ') fun k => if k = true then bnd (mi1 φ') fun ys => if decide (ys.length ≤ 60) then compGo (compF mg1 mt1 me (wipeS φ' own1)) ys else bad else ret []) β') (fun o s' => Out (bnd (compGoL (compF2 mg mt mi1 mg1 mt1 me own1 (wipeS φ own)) (xs.drop (i + 1))) (fun r => ret (o ++ r)) s') (fun ys β'' => Kf g S Q (.lst (acc ++ ys)) β'') (fun _ _ => True)) (fun _ _ => False) := out_noExc qb
    have l24 : Le S2 S4 := lh.trans l4
    have n1 : ∀ ps, HO.lst vs ≠ .tbl ps := fun _ z => by cases z
    have n2 : ∀ x, HO.lst vs ≠ .own x := fun _ z => by cases z
    have n3 : ∀ x, HO.lst vs ≠ .tup x := fun _ z => by cases z
    have n4 : ∀ a b, HO.lst vs ≠ .frz a b := fun _ _ z => by cases z
    have keepD : ∀ {S5 : Sx}, Le (T.hid D (.lst vs)) S5 → S5.H D = some (.lst vs) ∧ S5.F D = none ∧ D ∉ S5.ι := fun {S5} l5 => Le.hidKeep kT hT n1 n2 n3 l5
    refine ⟨S4, wipeS φ own, β', .d xs[i], rfl, k4, sl2.mono l24, .d rx, (out_bnd qb2).imp (fun φ' β5 q5 S5 σ5 l5 k5 sl5 w5 => ?_) fun _ _ z => z⟩
    refine ⟨?_, ?_⟩
    · have h1 := w5.wipe hts
      have h2 : L2.wipe (L2.wipe σ own) own = L2.wipe σ own := by
        apply List.ext_getElem?
        intro j
        rw [wipe_get, wipe_get]
        split
        · cases σ[j]? <;> rfl
        · rfl
      rw [h1, h2]
    refine ⟨S5, φ', β5, rfl, k5, sl5, (out_bnd q5).imp (fun kk β6 q6 S6 l6 k6 => ?_) fun _ _ z => z.elim⟩
    have l46 : Le (T.hid D (.lst vs)) S6 := (l4.trans l5).trans l6
    have l26 : Le S2 S6 := lh.trans l46
    cases kk with
    | false =>
      obtain ⟨d1, d2, d3⟩ := keepD l46
      have q6 : Out (bnd (compGoL (compF2 mg mt mi1 mg1 mt1 me own1 (wipeS φ own)) (xs.drop (i + 1))) (fun r => ret ([] ++ r)) β6) (fun ys β'' => Kf g S Q (.lst (acc ++ ys)) β'') (fun _ _ => True) := q6
      exact ⟨S6.era D, β6, vs, acc, (upd_back d1).symm, if_pos rfl, k6.era d2 d3 d1, l26.era hD, ra.mono l46.F, by omega, hi, (out_bnd q6).imp (fun r β8 q8 => q8) fun _ _ _ => trivial⟩
    | true =>
      have q6 := out_if' (c := true) rfl q6
      refine ⟨S6, φ', β6, rfl, k6, sl5.mono l6, (out_bnd q6).imp (fun ys β7 q7 S7 J1 l7 k7 wj1 => ?_) fun _ _ z => z.elim⟩
      obtain ⟨hys, q7⟩ := out_if q7
      have hys := of_decide_eq_true hys
      have l47 := l46.trans l7
      obtain ⟨d1, d2, d3⟩ := keepD l47
      have hs : (1000000 : Nat) < sizeLine := by rw [sizeLine_eq]; decide
      have := inner_spec (ge := ge) (mt := mt1) (me := me) hts1 (S2 := S7.era D) (D := D) (β1 := β7) (φ0 := φ') (σ0 := σ5) (ys := ys) (J := J1) (Nx := Inv1 (i + 1)) (Qk := fun r β8 => Out (bnd (compGoL (compF2 mg mt mi1 mg1 mt1 me own1 (wipeS φ own)) (xs.drop (i + 1))) (fun r' => ret (r ++ r')) β8) (fun ys β'' => Kf g S Q (.lst (acc ++ ys)) β'') (fun _ _ => True)) (vs0 := vs) (acc0 := acc)
        (if_pos rfl) (k7.era d2 d3 d1) (((sl5.mono l6).mono l7).era d1 trivial n4) (ra.mono l47.F) wj1 (by omega) (q7.imp (fun _ _ z => z) fun _ _ _ => trivial) fun T' β8 vs' r t1 t2 t3 t4 t5 t6 =>
          ⟨T', β8, vs', acc ++ r, rfl, t1, t2, ((lh.trans l47).era hD).trans t3, t4, by omega, hi, (out_bnd t6).imp (fun r' β9 q9 => by rw [List.append_assoc]; exact q9) fun _ _ _ => trivial⟩
      rw [show upd (S7.era D).H D (.lst vs) = S7.H from upd_back d1] at this
      exact this
theorem fr_comp2 {tg iter tg1 iter1 elt : Expr} {ifs ifs1 : List Expr} {scope : Scope} {own : List (Str × Nat)} {own1 ts ts1 : List Nat} {mi mi1 : Sl → M (List D)} {mg mg1 : VV → Sl → M Sl} {mt mt1 : Sl → M Bool} {me : Sl → M VV} (hx : XOk g X n W) (hts : ∀ i ∈ ts, i ∈ own.map (·.2)) (hts1 : ∀ i ∈ ts1, i ∈ own1) (hv : ∀ i ∈ own1, i ∈ own.map (·.2))
    (hi : PI X tg iter (tEvI g ge W mi)) (ok : BlkOk X.N X.env.scope scope own)
    (hg : ∀ (s : Shared) (H : Hp) (C : Addr) (cl : List (Str × Addr)) (fp : List Addr), PG (X.blk s H scope (compEnvC scope cl C X.env) fp) tg (gEv g ts mg))
    (ht : ∀ (s : Shared) (H : Hp) (C : Addr) (cl : List (Str × Addr)) (fp : List Addr), PTs (X.blk s H scope (compEnvC scope cl C X.env) fp) ifs (tEvT g ge WF mt))
    (hi1 : ∀ (s : Shared) (H : Hp) (C : Addr) (cl : List (Str × Addr)) (fp : List Addr), PI (X.blk s H scope (compEnvC scope cl C X.env) fp) tg1 iter1 (tEvI g ge WF mi1))
    (hg1 : ∀ (s : Shared) (H : Hp) (C : Addr) (cl : List (Str × Addr)) (fp : List Addr), PG (X.blk s H scope (compEnvC scope cl C X.env) fp) tg1 (gEv g ts1 mg1))
    (ht1 : ∀ (s : Shared) (H : Hp) (C : Addr) (cl : List (Str × Addr)) (fp : List Addr), PTs (X.blk s H scope (compEnvC scope cl C X.env) fp) ifs1 (tEvT g ge WF mt1))
    (he : ∀ (s : Shared) (H : Hp) (C : Addr) (cl : List (Str × Addr)) (fp : List Addr), PE (X.blk s H scope (compEnvC scope cl C X.env) fp) elt (tEv g ge WF me)) (hs : ∀ x, foldedSetIterable iter X.env x = pure x) (hs1 : ∀ env x, foldedSetIterable iter1 env x = pure x) :
    PE X (.ListComp elt [⟨tg, iter, ifs, 0⟩, ⟨tg1, iter1, ifs1, 0⟩] scope pos) (tFr g ge W fun φ => bnd (mi φ) fun xs => if decide (xs.length ≤ 10000) then bnd (compGoL (compF2 mg mt mi1 mg1 mt1 me own1 (wipeS φ (own.map (·.2)))) xs) fun zs => ret (.lst zs) else bad) :=
  (pe_lc2 (vs1 := own1) hx.calm hx.nd hi ok hv hg ht hi1 hg1 ht1 he hs hs1).weak fun σ H Q h => comp2_spec hts hts1 h
/-! ### dict(pairs) -/
theorem dprGo_spec {S : Sx} {β : Sto} (k : OkS g β S) : ∀ {xs : List D} {vs : List V} {acc : List (D × D)} {kvs : List (D × D)} {r0 : List (Key × V)}, Reps g.K g.cl S.F vs xs → RepK g.K g.cl S.F r0 acc → dprGo xs acc = some kvs →
    ∃ (ps : List Addr) (prs : List (Key × V)), vs = ps.map V.ref ∧ Paired (fun p kv => SqT g.K S.H p [kV kv.1, kv.2]) ps prs ∧ RepK g.K g.cl S.F (mergeK r0 prs) kvs
  | [], _, acc, kvs, r0, .nil, ra, h => by
    simp only [dprGo, Option.some.injEq] at h
    subst h
    exact ⟨[], [], rfl, .nil, ra⟩
  | x :: xs, _, acc, kvs, r0, .cons (v := v) (vs := vs) rv rr, ra, h => by
    unfold dprGo at h
    split at h
    · rename_i heq; cases heq
    · rename_i kd xd r acc' heq
      cases heq
      split at h
      · rename_i kk hk
        cases rv with
        | tup hF rr2 =>
          rename_i ad us
          cases rr2 with
          | cons r1 rr3 =>
            cases rr3 with
            | cons r2 rr4 =>
              cases rr4
              rename_i u1 u2
              have e1 : u1 = kV kk := keyD_V (.of r1) hk
              subst e1
              obtain ⟨ps, prs, e, pr, rk⟩ := dprGo_spec k rr (ra.put hk r2) h
              exact ⟨ad :: ps, (kk, u2) :: prs, by rw [e]; rfl, .cons (.inl (.inl (k.sub _ _ hF))) pr, rk⟩
      · cases h
    · cases h
theorem fr_dpr {x : Str} {ma : Sl → M VV} (hx : XOk g X n W) (hxn : x = "dict") (hg : Gl X x) (hm : g.mg x = none) (ha : PE X a (tEv g ge W ma)) (he : starEach [a] X.env = (false, eval a X.env) :: starEach [] X.env) :
    PE X (.Call (.Name x p) [a] [] pos) (tFr g ge W fun φ => bnd (ma φ) fun u => bnd (deref u) fun x => bnd (M.opt (dprD x)) fun kvs => ret (.dic false kvs)) := by
  have hm' : X.mg x = none := by rw [hx.mg]; exact hm
  subst hxn
  refine (pe_callTy (call_dictP hx.calm) hg hm' (by decide +kernel) (pa_cons ha pa_nil he) (by decide) (by decide) he rfl).weak fun σ H Q ⟨S, φ, β, e, k, sl, q⟩ => ?_
  subst e
  refine step_v (Qk := fun S => Kf g S Q) grow_f k sl q fun u x β1 S1 l1 k1 r1 sl1 q1 => ?_
  obtain ⟨y, q2, d⟩ := DR.get k1 r1 (out_bnd q1)
  obtain ⟨kvs, e, q3⟩ := out_opt (out_bnd q2)
  have q3 : Kf g S1 Q (.dic false kvs) β1 := q3
  unfold dprD at e
  split at e
  · obtain ⟨pa, vs, rfl, hp, rr⟩ := d.lst' k1
    obtain ⟨ps, prs, ev, pr, rk⟩ := dprGo_spec k1 rr .nil e
    subst ev
    exact ⟨pa, ps, prs, rfl, SqL.of hp, hx.K ▸ pr, fun l hl => q3 l (.dK (mergeK [] prs)) S1 (.refl S1) k1 hl ⟨_, rfl, rk⟩⟩
  · cases e
end
end VI

set_option maxHeartbeats 2000000
/-! V13f: values of a dict walked; list(d). -/
namespace VI
open PySem L2 M
open LamX (CodeO TabB ExtN)
section
variable {g : G} {S : Sx} {β : Sto} {p q : Addr} {u : V}
theorem walk_valsK {od : Obj} {vs : List (Key × V)} {kvs : List (D × D)} (hz : kvs.length < sizeLine) (h : S.F p = some (.frz od (.dK vs))) (r : RepK g.K g.cl S.F vs kvs) : WalkJ g S (Itd p od vs) (kvs.map (·.2)) := by
  refine ⟨by rw [List.length_map]; exact hz, fun S' β l k => ?_⟩
  have hq := k.sub _ _ (l _ _ h)
  refine ⟨⟨hq, by rw [List.length_map, r.len]; exact Nat.le.refl⟩, fun i x hx => ?_⟩
  rw [List.getElem?_map] at hx
  cases e : kvs[i]? with
  | none => rw [e] at hx; cases hx
  | some kv =>
    rw [e] at hx; cases hx
    obtain ⟨kk, v, h1, h2, h3⟩ := r.get (a := kv.1) (b := kv.2) e
    refine ⟨⟨hq, (List.getElem?_eq_some_iff.mp h1).1⟩, fun w H' ⟨e1, k', e2⟩ => ⟨S', .refl S', k, e1.symm, ?_⟩⟩
    rw [h1] at e2; cases e2
    exact h3.mono l
theorem walk_valsT {od : Obj} {vs : List (List Key × V)} {kvs : List (D × D)} (hz : kvs.length < sizeLine) (h : S.F p = some (.frz od (.dT vs))) (r : RepT g.K g.cl S.F vs kvs) : WalkJ g S (Itvt p od vs) (kvs.map (·.2)) := by
  refine ⟨by rw [List.length_map]; exact hz, fun S' β l k => ?_⟩
  have hq := k.sub _ _ (l _ _ h)
  refine ⟨⟨hq, by rw [List.length_map, r.len]; exact Nat.le.refl⟩, fun i x hx => ?_⟩
  rw [List.getElem?_map] at hx
  cases e : kvs[i]? with
  | none => rw [e] at hx; cases hx
  | some kv =>
    rw [e] at hx; cases hx
    obtain ⟨kk, v, h1, h2, h3⟩ := r.get (a := kv.1) (b := kv.2) e
    refine ⟨⟨hq, (List.getElem?_eq_some_iff.mp h1).1⟩, fun w H' ⟨e1, k', e2⟩ => ⟨S', .refl S', k, e1.symm, ?_⟩⟩
    rw [h1] at e2; cases e2
    exact h3.mono l
/-- tuples that stand are data, all of them -/
theorem know_keys (k : OkS g β S) : ∀ {ks : List (List Key)} {qs : List V} {xs : List D}, qs.length = ks.length → (∀ (i : Nat) (kk : List Key), ks[i]? = some kk → ∃ q, qs[i]? = some (.ref q) ∧ S.H q = some (.tup (kk.map kV))) → (xs.length = ks.length) →
    (∀ (i : Nat) (kk : List Key) (x : D), ks[i]? = some kk → xs[i]? = some x → keyT x = some kk) → ∃ S', Le S S' ∧ OkS g β S' ∧ S'.H = S.H ∧ Reps g.K g.cl S'.F qs xs
  | [], [], [], _, _, _, _ => ⟨S, .refl S, k, rfl, .nil⟩
  | [], _ :: _, _, h, _, _, _ => by cases h
  | [], [], _ :: _, _, _, h, _ => by cases h
  | _ :: _, [], _, h, _, _, _ => by cases h
  | _ :: _, _ :: _, [], _, _, h, _ => by cases h
  | kk :: ks, u :: qs, x :: xs, h1, h2, h3, h4 => by
    obtain ⟨S1, l1, k1, e1, r1⟩ := know_keys k (ks := ks) (qs := qs) (xs := xs) (by simpa using h1) (fun i a b => h2 (i + 1) a (by simpa using b)) (by simpa using h3) fun i a y b c => h4 (i + 1) a y (by simpa using b) (by simpa using c)
    obtain ⟨q, eq, hq⟩ := h2 0 kk rfl
    cases eq
    obtain ⟨ys, ey, ek⟩ := keyT_tup (h4 0 kk x rfl rfl)
    have hq1 : S1.H q = some (.tup (kk.map kV)) := by rw [e1]; exact hq
    obtain ⟨S2, l2, k2, e2, r2⟩ := know_tup (g := g) k1 hq1 (Reps.keys ek)
    exact ⟨S2, l1.trans l2, k2, e2.trans e1, .cons (by rw [ey]; exact r2) (r1.mono l2.F)⟩
theorem RepK.keysR {K : PySem.W.Frag} {cl : Nat → Option Addr} {F : Hp} : ∀ {vs : List (Key × V)} {kvs : List (D × D)}, RepK K cl F vs kvs → Reps K cl F (vs.map fun kv => kV kv.1) (kvs.map (·.1))
  | _, _, .nil => .nil
  | _, _, .cons e h t => .cons (rep_key e) (RepK.keysR t)
end
section
variable {g : G} {ge : GE} {X : Cx} {n : Nat} {W : WX} {a b c tg : Expr} {pos p : Pos}
theorem vals_lt {t : Bool} {kvs : List (D × D)} {xs : List D} (h : valsOf (.fdic t kvs) = some xs) : xs = kvs.map (·.2) ∧ kvs.length < sizeLine := by
  have h : (if small kvs.length then some (kvs.map (·.2)) else none) = some xs := h
  split at h
  · rename_i hs
    exact ⟨(Option.some.inj h).symm, Nat.lt_of_le_of_lt (of_decide_eq_true hs) (by rw [sizeLine_eq]; decide)⟩
  · cases h
theorem si_vals {apos cpos : Pos} {ma : Sl → M VV} (ha : PE X a (tEv g ge W ma)) (hbase : attributeBase a "values" X.env (eval a X.env) = eval a X.env) (hline : (apos.endLine == cpos.line) = true) :
    PI X tg (.Call (.Attribute a "values" apos) [] [] cpos) (tEvI g ge W fun φ => bnd (ma φ) fun v => bnd (freezeL v) fun x => M.opt (valsOf x)) := by
  refine (pi_valsB (pe_post ha) hbase hline).weak fun σ H R ⟨S, φ, β, e, k, sl, q⟩ => ?_
  subst e
  refine step_v (Qk := fun S => Kw g S R) grow_w k sl q fun u v β1 S1 l1 k1 r1 sl1 q1 => ?_
  have fin : ∀ {S2 : Sx} {β2 : Sto} {t : Bool} {kvs : List (D × D)}, Le S1 S2 → OkS g β2 S2 → Rep g.K g.cl S2.F u (.fdic t kvs) → Out (M.opt (valsOf (.fdic t kvs)) β2) (Kw g S1 R) (Ke g ge S1 W σ) →
      ∃ d o, u = .ref d ∧ ((∃ kvs, S2.H d = some (.frz o (.dK kvs)) ∧ R (Itd d o kvs) S2.H) ∨ ∃ kvs, S2.H d = some (.frz o (.dT kvs)) ∧ R (Itvt d o kvs) S2.H) := fun {S2 β2 t kvs} l2 k2 r2 q2 => by
    obtain ⟨xs, ex, q3⟩ := out_opt q2
    obtain ⟨rfl, hz⟩ := vals_lt ex
    cases r2 with
    | fdic h r => exact ⟨_, _, rfl, .inl ⟨_, k2.sub _ _ h, q3 S2 _ l2 k2 (walk_valsK hz h r)⟩⟩
    | fdicT h r => exact ⟨_, _, rfl, .inr ⟨_, k2.sub _ _ h, q3 S2 _ l2 k2 (walk_valsT hz h r)⟩⟩
  obtain ⟨t, kvs, z⟩ := freezeL_ok k1 r1 (out_bnd q1)
  rcases z with ⟨β2, q2, k2, r2⟩ | ⟨pp, o, rfl, ho, mu, q2⟩
  · exact .inr (fin (.refl S1) k2 r2 q2)
  · refine .inl ⟨pp, o, rfl, ho, mu, fun od => ?_⟩
    obtain ⟨S2, β2, q3, l2, k2, eH, r2⟩ := q2 od
    rw [← eH]
    exact fin l2 k2 r2 q3
theorem rd_K {H : Hp} {a : Addr} {r r' : List (Key × V)} (h : Rd H a (.dK r)) (h' : Rd H a (.dK r')) : r = r' := by
  rcases h with h | ⟨_, h⟩ <;> rcases h' with h' | ⟨_, h'⟩ <;> rw [h] at h' <;> cases h' <;> rfl
theorem rd_T {H : Hp} {a : Addr} {r r' : List (List Key × V)} (h : Rd H a (.dT r)) (h' : Rd H a (.dT r')) : r = r' := by
  rcases h with h | ⟨_, h⟩ <;> rcases h' with h' | ⟨_, h'⟩ <;> rw [h] at h' <;> cases h' <;> rfl
theorem rd_TK {H : Hp} {a : Addr} {r : List (List Key × V)} {r' : List (Key × V)} (h : Rd H a (.dT r)) (h' : Rd H a (.dK r')) : False := by
  rcases h with h | ⟨_, h⟩ <;> rcases h' with h' | ⟨_, h'⟩ <;> rw [h] at h' <;> cases h'
/-- the keys of a dict that stands, as data -/
theorem keysAt_rep {S : Sx} {β : Sto} {u : V} {c : D} {xs : List D} (k : OkS g β S) (d : DR g S u c) (h : keysL c = some xs) : ∃ a, u = .ref a ∧ IsD S.H a ∧ ∀ qs, KeysAt S.H a qs → ∃ S', Le S S' ∧ OkS g β S' ∧ S'.H = S.H ∧ Reps g.K g.cl S'.F qs xs := by
  have KK : ∀ {kvs : List (D × D)} {pp : Addr} {rr : List (Key × V)}, Rd S.H pp (.dK rr) → RepK g.K g.cl S.F rr kvs → ∀ qs, KeysAt S.H pp qs → ∃ S', Le S S' ∧ OkS g β S' ∧ S'.H = S.H ∧ Reps g.K g.cl S'.F qs (kvs.map (·.1)) := fun {kvs pp rr} h1 rk qs hq => by
    rcases hq with ⟨kv2, h2, rfl⟩ | ⟨kv2, h2, _⟩
    · have : kv2 = rr := rd_K h2 h1
      subst this
      exact ⟨S, .refl S, k, rfl, RepK.keysR rk⟩
    · exact (rd_TK h2 h1).elim
  have TT : ∀ {kvs : List (D × D)} {pp : Addr} {rr : List (List Key × V)}, Rd S.H pp (.dT rr) → RepT g.K g.cl S.F rr kvs → ∀ qs, KeysAt S.H pp qs → ∃ S', Le S S' ∧ OkS g β S' ∧ S'.H = S.H ∧ Reps g.K g.cl S'.F qs (kvs.map (·.1)) := fun {kvs pp rr} h1 rk qs hq => by
    rcases hq with ⟨kv2, h2, _⟩ | ⟨kv2, h2, hl, hi⟩
    · exact (rd_TK h1 h2).elim
    · have : kv2 = rr := rd_T h2 h1
      subst this
      refine know_keys k (ks := kv2.map (·.1)) (by rw [List.length_map]; exact hl) (fun i kk e => ?_) (by rw [List.length_map, List.length_map, rk.len]) fun i kk x e1 e2 => ?_
      · rw [List.getElem?_map] at e
        cases e3 : kv2[i]? with
        | none => rw [e3] at e; cases e
        | some kv => rw [e3] at e; cases e; exact hi i kv.1 kv.2 e3
      · rw [List.getElem?_map] at e1 e2
        cases e3 : kvs[i]? with
        | none => rw [e3] at e2; cases e2
        | some kv =>
          rw [e3] at e2; cases e2
          obtain ⟨kk', v, a1, a2, _⟩ := rk.get (a := kv.1) (b := kv.2) e3
          rw [a1] at e1; cases e1
          exact a2
  have sm : ∀ {kvs : List (D × D)}, (if small kvs.length then some (kvs.map (·.1)) else none) = some xs → xs = kvs.map (·.1) := fun {kvs} e => by
    split at e
    · exact (Option.some.inj e).symm
    · cases e
  cases c with
  | dic t kvs =>
    obtain rfl := sm (show (if small kvs.length then some (kvs.map (·.1)) else none) = some xs from h)
    cases t with
    | false => obtain ⟨pp, rr, rfl, h1, h2⟩ := d.dic' k; exact ⟨pp, rfl, .inl ⟨_, .inl h1⟩, KK (.inl h1) h2⟩
    | true => obtain ⟨pp, rr, rfl, h1, h2⟩ := d.dicT' k; exact ⟨pp, rfl, .inr ⟨_, .inl h1⟩, TT (.inl h1) h2⟩
  | fdic t kvs =>
    obtain rfl := sm (show (if small kvs.length then some (kvs.map (·.1)) else none) = some xs from h)
    cases t with
    | false => obtain ⟨pp, od, rr, rfl, h1, h2⟩ := d.fdic' k; exact ⟨pp, rfl, .inl ⟨_, .inr ⟨od, h1⟩⟩, KK (.inr ⟨od, h1⟩) h2⟩
    | true => obtain ⟨pp, od, rr, rfl, h1, h2⟩ := d.fdicT' k; exact ⟨pp, rfl, .inr ⟨_, .inr ⟨od, h1⟩⟩, TT (.inr ⟨od, h1⟩) h2⟩
  | _ => cases h
theorem fr_lkeys {x : Str} {ma : Sl → M VV} (hx : XOk g X n W) (hxn : x = "list") (hg : Gl X x) (hm : g.mg x = none) (ha : PE X a (tEv g ge W ma)) (he : starEach [a] X.env = (false, eval a X.env) :: starEach [] X.env) :
    PE X (.Call (.Name x p) [a] [] pos) (tFr g ge W fun φ => bnd (ma φ) fun u => bnd (deref u) fun c => bnd (M.opt (keysL c)) fun xs => ret (.lst xs)) := by
  have hm' : X.mg x = none := by rw [hx.mg]; exact hm
  subst hxn
  refine (pe_callTy (call_listB hx.calm) hg hm' (by decide +kernel) (pa_cons ha pa_nil he) (by decide) (by decide) he rfl).weak fun σ H Q ⟨S, φ, β, e, k, sl, q⟩ => ?_
  subst e
  refine step_v (Qk := fun S => Kf g S Q) grow_f k sl q fun u v β1 S1 l1 k1 r1 sl1 q1 => ?_
  obtain ⟨c, q2, d⟩ := DR.get k1 r1 (out_bnd q1)
  obtain ⟨xs, en, q3⟩ := out_opt (out_bnd q2)
  have q3 : Kf g S1 Q (.lst xs) β1 := q3
  obtain ⟨a', rfl, hd, hk⟩ := keysAt_rep k1 d en
  refine ⟨a', rfl, hd, fun l qs hl hq => ?_⟩
  obtain ⟨S2, l2, k2, e2, r2⟩ := hk qs hq
  have := q3 l (.lst qs) S2 l2 k2 (by rw [e2]; exact hl) ⟨_, rfl, r2⟩
  rw [e2] at this
  exact this
end
end VI

set_option maxHeartbeats 2000000
/-! V13s: sorted(set(list of rows of texts)). -/
namespace VI
open PySem L2 M
open LamX (CodeO TabB ExtN)
theorem row_eqv : ∀ {r r' : List Str}, PyData.eqvAll (r.map .str) (r'.map .str) = true → r = r'
  | [], [], _ => rfl
  | [], _ :: _, e => by simp [PyData.eqvAll] at e
  | _ :: _, [], e => by simp [PyData.eqvAll] at e
  | x :: r, y :: r', e => by
    rw [List.map_cons, List.map_cons, PyData.eqvAll, Bool.and_eq_true] at e
    have e1 : x = y := by
      have := e.1
      rw [PyData.eqv] at this
      exact beq_iff_eq.mp this
    rw [e1, row_eqv e.2]
theorem lex_row {r r' : List Str} (h : PySem.W.keyToks (pyRow r) = PySem.W.keyToks (pyRow r')) : r = r' := by
  apply Classical.byContradiction
  intro hne
  have al : PySem.W.alike (pyRow r) (pyRow r') = true := by
    show PySem.W.alike (.tuple _) (.tuple _) = true
    rw [PySem.W.alike]; exact alike_rows _ _
  have ne : PyData.eqv (pyRow r) (pyRow r') = false := by
    refine Bool.eq_false_iff.mpr fun e => hne (row_eqv ?_)
    have e : PyData.eqv (.tuple (r.map .str)) (.tuple (r'.map .str)) = true := e
    rw [PyData.eqv] at e; exact e
  have h1 := (PySem.W.toks_eqv _ _ al).2 ne [] [.inl 0]
  rw [h, PySem.W.lex_pre] at h1
  have h2 : PyProof.Rows.lexLt PyProof.Rows.itemOrd (PySem.W.keyToks (pyRow r')) (PySem.W.keyToks (pyRow r')) = false := PyProof.Rows.lex_irrefl _
  rw [h2] at h1
  exact absurd h1 (by decide)
theorem rowLe_not (a b : List Str) : rowLe a b = !PySem.W.dataLt (pyRow b) (pyRow a) := rfl
theorem rowLe_anti {a b : List Str} (h1 : rowLe a b = true) (h2 : rowLe b a = true) : a = b := by
  rw [rowLe_not, Bool.not_eq_true'] at h1 h2
  exact lex_row (PyProof.Rows.lex_total _ _ h2 h1)
theorem rowLe_trans (a b c : List Str) (h1 : rowLe a b = true) (h2 : rowLe b c = true) : rowLe a c = true := (PySem.W.sortLe_total (PyProof.Rows.listOrd PyProof.Rows.itemOrd) false (fun x : List Str => PySem.W.keyToks (pyRow x))).trans a b c h1 h2
theorem rowLe_total (a b : List Str) : (rowLe a b || rowLe b a) = true := by
  rw [rowLe_not, rowLe_not]
  cases h : PySem.W.dataLt (pyRow b) (pyRow a) with
  | false => rfl
  | true =>
    cases h' : PySem.W.dataLt (pyRow a) (pyRow b) with
    | false => rfl
    | true =>
      have := PyProof.Rows.lex_trans _ _ _ h h'
      have h2 : PyProof.Rows.lexLt PyProof.Rows.itemOrd (PySem.W.keyToks (pyRow b)) (PySem.W.keyToks (pyRow b)) = false := PyProof.Rows.lex_irrefl _
      rw [h2] at this
      cases this
theorem nubR_mem {r : List Str} : ∀ {rs : List (List Str)}, r ∈ nubR rs ↔ r ∈ rs
  | [] => by simp [nubR]
  | x :: rs => by
    unfold nubR
    split
    · rename_i h
      rw [nubR_mem, List.mem_cons]
      exact ⟨.inr, fun z => z.elim (fun e => e ▸ h) id⟩
    · rw [List.mem_cons, List.mem_cons, nubR_mem]
theorem nubR_nodup : ∀ (rs : List (List Str)), (nubR rs).Nodup
  | [] => List.nodup_nil
  | x :: rs => by
    unfold nubR
    split
    · exact nubR_nodup rs
    · rename_i h
      exact List.nodup_cons.mpr ⟨fun z => h (nubR_mem.mp z), nubR_nodup rs⟩
section
variable {g : G} {ge : GE} {X : Cx} {n : Nat} {W : WX} {a b c tg : Expr} {pos p : Pos}
theorem rowsS_rep {S : Sx} {β : Sto} (k : OkS g β S) : ∀ {xs : List D} {vs : List V} {rs : List (List Str)}, Reps g.K g.cl S.F vs xs → rowsS xs = some rs →
    ∃ ps : List (Addr × List Str), vs = ps.map (fun p => V.ref p.1) ∧ ps.map (·.2) = rs ∧ ∀ p ∈ ps, SqT g.K S.H p.1 (p.2.map V.str) ∧ Rep g.K g.cl S.F (.ref p.1) (.tup (p.2.map .str))
  | [], _, rs, .nil, h => by
    simp only [rowsS, Option.some.injEq] at h
    subst h
    exact ⟨[], rfl, rfl, by simp⟩
  | x :: xs, _, rs, .cons rv rr, h => by
    unfold rowsS at h
    split at h
    · rename_i heq; cases heq
    · rename_i ys r heq
      cases heq
      split at h
      · rename_i ro ros h1 h2
        cases h
        cases rv with
        | tup hF r2 =>
          rename_i ad us
          obtain ⟨e1, e2⟩ := strs_of r2 h1
          subst e1 e2
          obtain ⟨ps, q1, q2, q3⟩ := rowsS_rep k rr h2
          refine ⟨(ad, ro) :: ps, by rw [q1]; rfl, by rw [List.map_cons, q2], fun p hp => ?_⟩
          rcases List.mem_cons.mp hp with rfl | hp
          · exact ⟨.inl (.inl (k.sub _ _ hF)), .tup hF r2⟩
          · exact q3 p hp
      · cases h
    · cases h
theorem fr_ss {x y : Str} {q1 pos1 : Pos} {ma : Sl → M VV} (hx : XOk g X n W) (hxn : x = "sorted") (hyn : y = "set") (hg : Gl X x) (hm : g.mg x = none) (hg2 : Gl X y) (hm2 : g.mg y = none) (ha : PE X a (tEv g ge W ma)) (he : starEach [a] X.env = (false, eval a X.env) :: starEach [] X.env) :
    PE X (.Call (.Name x p) [.Call (.Name y q1) [a] [] pos1] [] pos) (tFr g ge W fun φ => bnd (ma φ) fun u => bnd (deref u) fun x => bnd (M.opt (ssD x)) fun xs => ret (.lst xs)) := by
  have hm' : X.mg x = none := by rw [hx.mg]; exact hm
  have hm2' : X.mg y = none := by rw [hx.mg]; exact hm2
  have hu : X.A.units + 70 < cLine := by have := hx.room.un; omega
  subst hxn hyn
  have inner : PE X (.Call (.Name "set" q1) [a] [] pos1) (tCB (rSetM X.K X.prog X.w) (tCons (tEv g ge W ma) tNil)) := pe_callTy (cr_setM hx.calm (by omega)) hg2 hm2' (by decide +kernel) (pa_cons ha pa_nil he) (by decide) (by decide) he rfl
  refine (pe_callB (cr_sortM hx.calm hu) hg hm' (by decide +kernel) (pa_cons inner pa_nil rfl) (by decide) (by decide) rfl rfl).weak fun σ H Q ⟨S, φ, β, e, k, sl, q⟩ => ?_
  subst e
  refine step_v (Qk := fun S => Kf g S Q) grow_f k sl q fun u x β1 S1 l1 k1 r1 sl1 q1 => ?_
  obtain ⟨y, q2, d⟩ := DR.get k1 r1 (out_bnd q1)
  obtain ⟨xs, e, q3⟩ := out_opt (out_bnd q2)
  have q3 : Kf g S1 Q (.lst xs) β1 := q3
  unfold ssD at e
  split at e
  · rename_i zs
    split at e
    · rename_i rs hrs
      split at e
      · rename_i hc
        cases e
        simp only [Bool.and_eq_true, decide_eq_true_eq, List.all_eq_true, Bool.not_eq_true', List.isEmpty_eq_false_iff] at hc
        obtain ⟨hlen, hne⟩ := hc
        obtain ⟨pa, vs, rfl, hp, rr⟩ := d.lst' k1
        obtain ⟨ps, ev, es, hps⟩ := rowsS_rep k1 rr hrs
        subst ev es
        rw [List.length_map] at hlen
        have hne' : ∀ p ∈ ps, p.2 ≠ [] := fun p hp => hne p.2 (List.mem_map.mpr ⟨p, hp, rfl⟩)
        refine ⟨pa, ps.map fun p => (p.2.map Sum.inr, p.1), rfl, by rw [List.map_map]; exact SqL.of hp, fun p hp => ?_, by rw [List.length_map]; exact hlen, fun St M hS m1 m2 m3 => ?_⟩
        · obtain ⟨z, hz, rfl⟩ := List.mem_map.mp hp
          have := (hps z hz).1
          rw [hx.K]
          show SqT g.K S1.H z.1 ((z.2.map Sum.inr).map kV)
          rw [List.map_map]; exact this
        · -- the members as pairs
          obtain ⟨bs, hbs, hsub⟩ : ∃ bs : List (Addr × List Str), M = bs.map (fun b => (b.2.map Sum.inr, b.1)) ∧ ∀ b ∈ bs, b ∈ ps := by
            clear m2 m3
            induction M with
            | nil => exact ⟨[], rfl, by simp⟩
            | cons m M ih =>
              obtain ⟨bs, e1, e2⟩ := ih fun p hp => m1 p (List.mem_cons_of_mem _ hp)
              obtain ⟨z, hz, rfl⟩ := List.mem_map.mp (m1 m (List.mem_cons_self ..))
              refine ⟨z :: bs, by rw [e1]; rfl, fun b hb => ?_⟩
              rcases List.mem_cons.mp hb with rfl | hb
              · exact hz
              · exact e2 b hb
          subst hbs
          have kh := k1.hid (o := setHO X.prog X.w St (bs.map fun b => (b.2.map Sum.inr, b.1))) hS
          have lh : Le S1 (S1.hid St (setHO X.prog X.w St (bs.map fun b => (b.2.map Sum.inr, b.1)))) := Le.hid hS
          have inj : ∀ {r r' : List Str}, r.map (Sum.inr (α := Int)) = r'.map Sum.inr → r = r' := fun {r r'} h => by
            have := congrArg (List.filterMap fun z : Sum Int Str => match z with | .inr x => some x | .inl _ => none) h
            simpa [List.filterMap_map, Function.comp_def] using this
          have nd : (bs.map (·.2)).Nodup := by
            rw [List.map_map] at m3
            refine List.Pairwise.of_map (S := (· ≠ ·)) (fun r : List Str => r.map (Sum.inr (α := Int))) (fun a b h e => h (by rw [e])) ?_
            rw [List.map_map]; exact m3
          have mem : ∀ r : List Str, r ∈ bs.map (·.2) ↔ r ∈ nubR (ps.map (·.2)) := fun r => by
            rw [nubR_mem]
            constructor
            · intro h
              obtain ⟨b, hb, rfl⟩ := List.mem_map.mp h
              exact List.mem_map.mpr ⟨b, hsub b hb, rfl⟩
            · intro h
              obtain ⟨b, hb, rfl⟩ := List.mem_map.mp h
              have := m2 _ (List.mem_map.mpr ⟨b, hb, rfl⟩)
              rw [List.map_map] at this
              obtain ⟨c, hc, e⟩ := List.mem_map.mp this
              exact List.mem_map.mpr ⟨c, hc, inj e⟩
          have pm : (bs.map (·.2)).Perm (nubR (ps.map (·.2))) := (List.perm_ext_iff_of_nodup nd (nubR_nodup _)).mpr mem
          refine ⟨St, bs, rfl, upd_same, fun b hb => ?_, fun b hb => hne' b (hsub b hb), fun bs' p' pm' hp' => ?_⟩
          · rw [hx.K]
            exact seqT (upd_mono hS) ((hps b (hsub b hb)).1)
          · have srt : (bs'.mergeSort (PySem.W.dataLe false fun b => pyRow b.2)).map (·.2) = (nubR (ps.map (·.2))).mergeSort rowLe := by
              have e1 : (bs'.mergeSort (PySem.W.dataLe false fun b => pyRow b.2)).map (·.2) = (bs'.map (·.2)).mergeSort rowLe := List.map_mergeSort fun a _ b _ => rfl
              rw [e1]
              refine List.Perm.eq_of_pairwise (le := fun a b => rowLe a b = true) (fun a b _ _ h1 h2 => rowLe_anti h1 h2) (List.pairwise_mergeSort rowLe_trans rowLe_total _) (List.pairwise_mergeSort rowLe_trans rowLe_total _) ?_
              exact (List.mergeSort_perm _ _).trans (((pm'.map _).trans pm).trans (List.mergeSort_perm _ _).symm)
            refine q3 p' _ (S1.hid St _) lh kh hp' ⟨_, rfl, ?_⟩
            rw [← srt, List.map_map]
            have all : ∀ b ∈ bs'.mergeSort (PySem.W.dataLe false fun b => pyRow b.2), Rep g.K g.cl S1.F (.ref b.1) (.tup (b.2.map .str)) := fun b hb => (hps b (hsub b (pm'.mem_iff.mp ((List.mergeSort_perm ..).mem_iff.mp hb)))).2
            generalize bs'.mergeSort (PySem.W.dataLe false fun b => pyRow b.2) = l at all
            clear srt
            induction l with
            | nil => exact .nil
            | cons b l ih => exact .cons (all b (List.mem_cons_self ..)) (ih fun c hc => all c (List.mem_cons_of_mem _ hc))
      · cases e
    · cases e
  · cases e
end
end VI

set_option maxHeartbeats 2000000
/-! V13t: x.split(sep). -/
namespace VI
open PySem L2 M
open LamX (CodeO TabB ExtN)
section
variable {g : G} {ge : GE} {X : Cx} {n : Nat} {W : WX} {a b c tg : Expr} {pos p : Pos}
theorem reps_texts {S : Sx} : ∀ (l : List Str), Reps g.K g.cl S.F (l.map V.str) (l.map D.str)
  | [] => .nil
  | c :: l => .cons (Rep.str _) (reps_texts l)
theorem fr_split {apos : Pos} {sep : Str} {kc : Nat} {cpos : Pos} {ma : Sl → M VV} (hx : XOk g X n W) (ha : PE X a (tEv g ge W ma)) (hbase : attributeBase a "split" X.env (eval a X.env) = eval a X.env) (hline : (apos.endLine == p.line) = true) :
    PE X (.Call (.Attribute a "split" apos) [.Constant (.str sep) kc cpos] [] p) (tFr g ge W fun φ => bnd (ma φ) fun u => bnd (dataOf u) fun x => bnd (M.opt (splitD x sep)) fun xs => ret (.lst xs)) := by
  refine (pe_bm PySem.F.plainAttrs_str PySem.F.slot_str_split PySem.F.type_str_split mt_split ha (pa_cons pe_str pa_nil rfl) hbase rfl hline rfl rfl).weak fun σ H Q ⟨S, φ, β, e, k, sl, q⟩ => ?_
  subst e
  refine step_v (Qk := fun S => Kf g S Q) grow_f k sl q fun u x β1 S1 l1 k1 r1 sl1 q1 => ?_
  obtain ⟨y, rfl, q2⟩ := out_data (out_bnd q1)
  obtain ⟨xs, e, q3⟩ := out_opt (out_bnd q2)
  have q3 : Kf g S1 Q (.lst xs) β1 := q3
  unfold splitD at e
  split at e
  · split at e
    case isFalse => cases e
    rename_i hc
    cases e
    rw [Bool.and_eq_true, decide_eq_true_eq, Bool.not_eq_true'] at hc
    have r := r1.d'
    cases r
    refine ⟨rfl, _, sep, rfl, rfl, hc.2, by rw [sizeLine_eq]; omega, fun l hl => ?_⟩
    exact q3 l (.lst ((Txt.split _ sep).map V.str)) S1 (.refl S1) k1 hl ⟨_, rfl, reps_texts _⟩
  · cases e
end
end VI

set_option maxHeartbeats 2000000
/-! V14: statements. -/
namespace VI
open PySem L2 M
open LamX (CodeO TabB ExtN)
def Ks (g : G) (S : Sx) (σ : L2.St) (ts : List Nat) (D : Ends) (r : Fl × Sl) (β' : Sto) : Prop := ∀ S' σ', Le S S' → OkS g β' S' → SlOk g S' r.2 σ' → Off ts σ σ' → match r.1 with
  | .nxt => D.nx σ' S'.H
  | .brk => D.bk σ' S'.H
  | .cnt => D.ct σ' S'.H
  | .ret v => ∀ u, RepV g S' u v → D.rt u S'.H
def Kx (g : G) (ge : GE) (S : Sx) (W : WX) (σ : L2.St) (ts : List Nat) (e : Exc) (β' : Sto) : Prop := ∀ c d S' σ', Le S S' → OkS g β' S' → Off ts σ σ' → RepE g ge.cl ge.fs S' c d e → W c d σ' S'.H
def tSt (g : G) (ge : GE) (W : WX) (ts : List Nat) (m : Sl → M (Fl × Sl)) : TS := fun D σ H => ∃ S φ β, S.H = H ∧ OkS g β S ∧ SlOk g S φ σ ∧ Out (m φ β) (Ks g S σ ts D) (Kx g ge S W σ ts)
theorem _root_.L2.PS.weak {X : Cx} {e : Stmt} {t u : TS} (h : PS X e t) (w : ∀ D σ H, u D σ H → t D σ H) : PS X e u := ⟨fun pins s σ H D I q => h.run pins s σ H D I (w D σ H q)⟩
theorem _root_.L2.PSs.weak {X : Cx} {e : List Stmt} {t u : TS} (h : PSs X e t) (w : ∀ D σ H, u D σ H → t D σ H) : PSs X e u := ⟨fun pins s σ H D I q => h.run pins s σ H D I (w D σ H q)⟩
section
variable {g : G} {ge : GE} {X : Cx} {n : Nat} {W : WX} {a b c tg : Expr} {pos p : Pos} {S S1 : Sx} {β β1 : Sto} {σ σ1 : L2.St} {φ : Sl} {ts us : List Nat} {D : Ends}
theorem Ks.mono {r : Fl × Sl} (q : Ks g S σ ts D r β) (l : Le S S1) (o : Off ts σ σ1) : Ks g S1 σ1 ts D r β := fun S' σ' l' k' sl o' => q S' σ' (l.trans l') k' sl (o.trans o')
theorem Kx.mono {e : Exc} (q : Kx g ge S W σ ts e β) (l : Le S S1) (o : Off ts σ σ1) : Kx g ge S1 W σ1 ts e β := fun c d S' σ' l' k' o' re => q c d S' σ' (l.trans l') k' (o.trans o') re
theorem Kx.sub {e : Exc} (q : Kx g ge S W σ ts e β) (h : ∀ i ∈ us, i ∈ ts) : Kx g ge S W σ us e β := fun c d S' σ' l' k' o' re => q c d S' σ' l' k' (o'.mono h) re
theorem Kx.ke {e : Exc} (q : Kx g ge S W σ ts e β) : Ke g ge S W σ e β := fun c d S' l' k' re => q c d S' σ l' k' (.refl _ _) re
/-- an expression ahead of the rest of a statement -/
theorem step_sv {α : Type} {m : Sl → M VV} {f : VV → M α} {Qk : Sx → α → Sto → Prop} {R : VK} (gk : Grow Qk) (k : OkS g β S) (sl : SlOk g S φ σ)
    (h : Out (bnd (m φ) f β) (Qk S) (Kx g ge S W σ ts))
    (hR : ∀ u x β1 S1, Le S S1 → OkS g β1 S1 → RepV g S1 u x → SlOk g S1 φ σ → Out (f x β1) (Qk S1) (Kx g ge S1 W σ ts) → R u S1.H) : tEv g ge W m σ S.H R :=
  ⟨S, φ, β, rfl, k, sl, (out_bnd h).imp (fun x β1 hx u S1 l k1 r => hR u x β1 S1 l k1 r (sl.mono l) (hx.imp (fun _ _ => gk l) fun _ _ z => z.mono l (.refl _ _))) fun _ _ z => z.ke⟩
theorem grow_s : Grow (fun S => Ks g S σ ts D) := fun l q => q.mono l (.refl _ _)
theorem ss_nil : PSs X [] (tSt g ge W [] fun φ => ret (.nxt, φ)) := by
  refine pss_nil.weak fun D σ H ⟨S, φ, β, e, k, sl, q⟩ => ?_
  subst e
  have q : Ks g S σ [] D (.nxt, φ) β := q
  exact q S σ (.refl S) k sl (.refl _ _)
theorem ss_cons {st : Stmt} {rest : List Stmt} {m1 m2 : Sl → M (Fl × Sl)} (h1 : PS X st (tSt g ge W ts m1)) (h2 : PSs X rest (tSt g ge W us m2)) :
    PSs X (st :: rest) (tSt g ge W (ts ++ us) fun φ => bnd (m1 φ) fun r => match r with | (.nxt, φ') => m2 φ' | r => ret r) := by
  refine (pss_cons h1 h2).weak fun D σ H ⟨S, φ, β, e, k, sl, q⟩ => ?_
  subst e
  refine ⟨S, φ, β, rfl, k, sl, (out_bnd q).imp (fun r β1 q1 S1 σ1 l1 k1 sl1 o1 => ?_) fun _ _ z => z.sub fun i hi => List.mem_append_left _ hi⟩
  have o1' := o1.mono (us := ts ++ us) fun i hi => List.mem_append_left _ hi
  obtain ⟨fl, φ'⟩ := r
  cases fl with
  | nxt =>
    have q1 : Out (m2 φ' β1) (Ks g S σ (ts ++ us) D) (Kx g ge S W σ (ts ++ us)) := q1
    exact ⟨S1, φ', β1, rfl, k1, sl1, q1.imp (fun r β2 q2 S2 σ2 l2 k2 sl2 o2 => q2 S2 σ2 (l1.trans l2) k2 sl2 (o1'.trans (o2.mono fun i hi => List.mem_append_right _ hi))) fun _ _ z => (z.mono l1 o1').sub fun i hi => List.mem_append_right _ hi⟩
  | brk =>
    have q1 : Ks g S σ (ts ++ us) D (.brk, φ') β1 := q1
    exact q1 S1 σ1 l1 k1 sl1 o1'
  | cnt =>
    have q1 : Ks g S σ (ts ++ us) D (.cnt, φ') β1 := q1
    exact q1 S1 σ1 l1 k1 sl1 o1'
  | ret v =>
    have q1 : Ks g S σ (ts ++ us) D (.ret v, φ') β1 := q1
    exact q1 S1 σ1 l1 k1 sl1 o1'
theorem ss_asg {e : Expr} {m : Sl → M VV} {mg : VV → Sl → M Sl} (he : PE X e (tEv g ge W m)) (hg : PG X tg (gEv g ts mg)) (hs : swapsWithSole [tg] e pos.line X.env = pure false) (hw : swappedStores [tg] e X.env = pure none)
    (h1 : (assignEach [tg] X.env).map (·.2) = [assign tg X.env]) : PS X (.Assign [tg] e pos) (tSt g ge W ts fun φ => bnd (m φ) fun v => bnd (noExc (mg v φ)) fun φ' => ret (.nxt, φ')) := by
  refine (ps_asg he hg hs hw h1).weak fun D σ H ⟨S, φ, β, e, k, sl, q⟩ => ?_
  subst e
  refine step_sv (Qk := fun S => Ks g S σ ts D) grow_s k sl q fun u x β1 S1 l1 k1 r1 sl1 q1 => ?_
  refine ⟨S1, φ, β1, x, rfl, k1, sl1, r1, (out_noExc (out_bnd q1)).imp (fun φ' β2 q2 S2 σ2 l2 k2 sl2 o2 => ?_) fun _ _ z => z⟩
  have q2 : Ks g S1 σ ts D (.nxt, φ') β2 := q2
  exact q2 S2 σ2 l2 k2 sl2 o2
/-- name = [..] on one line -/
theorem ss_setLc {i : Nat} {y : Str} {py spos : Pos} {iter elt : Expr} {ifs : List Expr} {scope : Scope} {own : List (Str × Nat)} {tt : List Nat} {mi : Sl → M (List VI.D)} {mg : VV → Sl → M Sl} {mt : Sl → M Bool} {me : Sl → M VV} {mc : Sl → M VV} (hx : XOk g X n W) (hy : X.N[i]? = some y) (hyl : X.env.scope.names.lookup y = some .local)
    (hsw : swapsWith (.ListComp elt [⟨tg, iter, ifs, 0⟩] scope pos) (some (.Name y py)) spos.line X.env = pure true) (hts : ∀ i ∈ tt, i ∈ own.map (·.2))
    (hi : PI X tg iter (tEvI g ge W mi)) (ok : BlkOk X.N X.env.scope scope own)
    (hg : ∀ (s : Shared) (H : Hp) (C : Addr) (cl : List (Str × Addr)) (fp : List Addr), PG (X.blk s H scope (compEnvC scope cl C X.env) fp) tg (gEv g tt mg))
    (ht : ∀ (s : Shared) (H : Hp) (C : Addr) (cl : List (Str × Addr)) (fp : List Addr), PTs (X.blk s H scope (compEnvC scope cl C X.env) fp) ifs (tEvT g ge WF mt))
    (he : ∀ (s : Shared) (H : Hp) (C : Addr) (cl : List (Str × Addr)) (fp : List Addr), PE (X.blk s H scope (compEnvC scope cl C X.env) fp) elt (tEv g ge WF me)) (hs : ∀ x, foldedSetIterable iter X.env x = pure x)
    (hmc : ∀ {σ H Q}, tEv g ge W mc σ H Q → tFr g ge W (fun φ => bnd (mi φ) fun xs => bnd (compGo (compF mg mt me (wipeS φ (own.map (·.2)))) xs) fun ys => ret (.lst ys)) σ H Q) :
    PS X (.Assign [.Name y py] (.ListComp elt [⟨tg, iter, ifs, 0⟩] scope pos) spos) (tSt g ge W [i] fun φ => bnd (mc φ) fun v => bnd (noExc (ret (φ.set i (some v)))) fun φ' => ret (.nxt, φ')) := by
  refine (ps_setLc hx.calm hx.nd hy hyl hsw hi ok hg ht he hs).weak fun D σ H ⟨S, φ, β, e, k, sl, q⟩ => ?_
  subst e
  refine comp_spec hts (hmc ?_)
  refine step_sv (Qk := fun S => Ks g S σ [i] D) grow_s k sl q fun u x β1 S1 l1 k1 r1 sl1 q1 => ?_
  have q1 : Ks g S1 σ [i] D (.nxt, φ.set i (some x)) β1 := q1
  exact q1 S1 _ (.refl S1) k1 (sl1.set i r1) (Off.set σ i _ (List.mem_singleton.mpr rfl))
theorem ss_setLc2 {i : Nat} {y : Str} {py spos : Pos} {iter elt tg1 iter1 : Expr} {ifs ifs1 : List Expr} {scope : Scope} {own : List (Str × Nat)} {own1 tt tt1 : List Nat} {mi mi1 : Sl → M (List VI.D)} {mg mg1 : VV → Sl → M Sl} {mt mt1 : Sl → M Bool} {me : Sl → M VV} {mc : Sl → M VV} (hx : XOk g X n W) (hy : X.N[i]? = some y) (hyl : X.env.scope.names.lookup y = some .local)
    (hsw : swapsWith (.ListComp elt [⟨tg, iter, ifs, 0⟩, ⟨tg1, iter1, ifs1, 0⟩] scope pos) (some (.Name y py)) spos.line X.env = pure true) (hts : ∀ i ∈ tt, i ∈ own.map (·.2)) (hts1 : ∀ i ∈ tt1, i ∈ own1) (hv : ∀ i ∈ own1, i ∈ own.map (·.2))
    (hi : PI X tg iter (tEvI g ge W mi)) (ok : BlkOk X.N X.env.scope scope own)
    (hg : ∀ (s : Shared) (H : Hp) (C : Addr) (cl : List (Str × Addr)) (fp : List Addr), PG (X.blk s H scope (compEnvC scope cl C X.env) fp) tg (gEv g tt mg))
    (ht : ∀ (s : Shared) (H : Hp) (C : Addr) (cl : List (Str × Addr)) (fp : List Addr), PTs (X.blk s H scope (compEnvC scope cl C X.env) fp) ifs (tEvT g ge WF mt))
    (hi1 : ∀ (s : Shared) (H : Hp) (C : Addr) (cl : List (Str × Addr)) (fp : List Addr), PI (X.blk s H scope (compEnvC scope cl C X.env) fp) tg1 iter1 (tEvI g ge WF mi1))
    (hg1 : ∀ (s : Shared) (H : Hp) (C : Addr) (cl : List (Str × Addr)) (fp : List Addr), PG (X.blk s H scope (compEnvC scope cl C X.env) fp) tg1 (gEv g tt1 mg1))
    (ht1 : ∀ (s : Shared) (H : Hp) (C : Addr) (cl : List (Str × Addr)) (fp : List Addr), PTs (X.blk s H scope (compEnvC scope cl C X.env) fp) ifs1 (tEvT g ge WF mt1))
    (he : ∀ (s : Shared) (H : Hp) (C : Addr) (cl : List (Str × Addr)) (fp : List Addr), PE (X.blk s H scope (compEnvC scope cl C X.env) fp) elt (tEv g ge WF me)) (hs : ∀ x, foldedSetIterable iter X.env x = pure x) (hs1 : ∀ env x, foldedSetIterable iter1 env x = pure x)
    (hmc : ∀ {σ H Q}, tEv g ge W mc σ H Q → tFr g ge W (fun φ => bnd (mi φ) fun xs => if decide (xs.length ≤ 10000) then bnd (compGoL (compF2 mg mt mi1 mg1 mt1 me own1 (wipeS φ (own.map (·.2)))) xs) fun zs => ret (.lst zs) else bad) σ H Q) :
    PS X (.Assign [.Name y py] (.ListComp elt [⟨tg, iter, ifs, 0⟩, ⟨tg1, iter1, ifs1, 0⟩] scope pos) spos) (tSt g ge W [i] fun φ => bnd (mc φ) fun v => bnd (noExc (ret (φ.set i (some v)))) fun φ' => ret (.nxt, φ')) := by
  refine (ps_setLc2 (vs1 := own1) hx.calm hx.nd hy hyl hsw hi ok hv hg ht hi1 hg1 ht1 he hs hs1).weak fun D σ H ⟨S, φ, β, e, k, sl, q⟩ => ?_
  subst e
  refine comp2_spec hts hts1 (hmc ?_)
  refine step_sv (Qk := fun S => Ks g S σ [i] D) grow_s k sl q fun u x β1 S1 l1 k1 r1 sl1 q1 => ?_
  have q1 : Ks g S1 σ [i] D (.nxt, φ.set i (some x)) β1 := q1
  exact q1 S1 _ (.refl S1) k1 (sl1.set i r1) (Off.set σ i _ (List.mem_singleton.mpr rfl))
/-- from a value that is new to its list -/
theorem fz_fr {m : Sl → M Ct} {σ : L2.St} {H : Hp} {Q : VK} (h : tEv g ge W (fun φ => bnd (m φ) fun c => ret (.d (ctZ c))) σ H Q) : tFr g ge W m σ H Q := by
  obtain ⟨S, φ, β, e, k, sl, q⟩ := h
  refine ⟨S, φ, β, e, k, sl, (out_bnd q).imp (fun c β' (q : Kv g S Q (.d (ctZ c)) β') p o S' l k' hp r => ?_) fun _ _ z => z⟩
  exact q (.ref p) (S'.add p o) (l.trans (Le.add k' hp)) (k'.add hp r.notbl.1 r.notbl.2) (.d (r.rep k' hp))
theorem bx_fr {m : Sl → M Ct} {σ : L2.St} {H : Hp} {Q : VK} (h : tEv g ge W (fun φ => bnd (m φ) fun c => newBox c) σ H Q) : tFr g ge W m σ H Q := by
  obtain ⟨S, φ, β, e, k, sl, q⟩ := h
  refine ⟨S, φ, β, e, k, sl, (out_bnd q).imp (fun c β' q p o S' l k' hp r => ?_) fun _ _ z => z⟩
  have q : Kv g S Q (.box β'.length) (β' ++ [⟨c, true⟩]) := q
  refine q (.ref p) (S'.box p o) (l.trans (Le.box hp)) (k'.box hp r.notbl (r.ct k')) (.box ?_)
  show (S'.ι ++ [p])[β'.length]? = some p
  rw [← k'.len, List.getElem?_append_right (Nat.le_refl _), Nat.sub_self]
  rfl
theorem ss_ret {e : Expr} {m : Sl → M VV} (he : PE X e (tEv g ge W m)) : PS X (.Return (some e) pos) (tSt g ge W [] fun φ => bnd (m φ) fun v => ret (.ret v, φ)) := by
  refine (ps_ret he).weak fun D σ H ⟨S, φ, β, e, k, sl, q⟩ => ?_
  subst e
  refine step_sv (Qk := fun S => Ks g S σ [] D) grow_s k sl q fun u x β1 S1 l1 k1 r1 sl1 q1 => ?_
  have q1 : Ks g S1 σ [] D (.ret x, φ) β1 := q1
  exact q1 S1 σ (.refl S1) k1 sl1 (.refl _ _) u r1
theorem ss_retN : PS X (.Return none pos) (tSt g ge W [] fun φ => ret (.ret (.d .non), φ)) := by
  refine ps_retN.weak fun D σ H ⟨S, φ, β, e, k, sl, q⟩ => ?_
  subst e
  have q : Ks g S σ [] D (.ret (.d .non), φ) β := q
  exact q S σ (.refl S) k sl (.refl _ _) .non (.d .non)
theorem ss_pass : PS X (.Pass pos) (tSt g ge W [] fun φ => ret (.nxt, φ)) := by
  refine ps_pass.weak fun D σ H ⟨S, φ, β, e, k, sl, q⟩ => ?_
  subst e
  have q : Ks g S σ [] D (.nxt, φ) β := q
  exact q S σ (.refl S) k sl (.refl _ _)
theorem ss_brk : PS X (.Break pos) (tSt g ge W [] fun φ => ret (.brk, φ)) := by
  refine ps_break.weak fun D σ H ⟨S, φ, β, e, k, sl, q⟩ => ?_
  subst e
  have q : Ks g S σ [] D (.brk, φ) β := q
  exact q S σ (.refl S) k sl (.refl _ _)
theorem ss_cnt : PS X (.Continue pos) (tSt g ge W [] fun φ => ret (.cnt, φ)) := by
  refine ps_continue.weak fun D σ H ⟨S, φ, β, e, k, sl, q⟩ => ?_
  subst e
  have q : Ks g S σ [] D (.cnt, φ) β := q
  exact q S σ (.refl S) k sl (.refl _ _)
theorem ss_drop {e : Expr} {m : Sl → M VV} (he : PE X e (tEv g ge W m)) (hs : swapsWith e none pos.line X.env = pure false) : PS X (.Expr e pos) (tSt g ge W [] fun φ => bnd (m φ) fun _ => ret (.nxt, φ)) := by
  refine (ps_expr he hs).weak fun D σ H ⟨S, φ, β, e, k, sl, q⟩ => ?_
  subst e
  refine step_sv (Qk := fun S => Ks g S σ [] D) grow_s k sl q fun u x β1 S1 l1 k1 r1 sl1 q1 => ?_
  have q1 : Ks g S1 σ [] D (.nxt, φ) β1 := q1
  exact q1 S1 σ (.refl S1) k1 sl1 (.refl _ _)
theorem ss_if {c : Expr} {as bs : List Stmt} {mc : Sl → M Bool} {ma mb : Sl → M (Fl × Sl)} (hc : PT X c (tEvT g ge W mc)) (ha : PSs X as (tSt g ge W ts ma)) (hb : PSs X bs (tSt g ge W us mb)) :
    PS X (.If c as bs pos) (tSt g ge W (ts ++ us) fun φ => bnd (mc φ) fun k => if k then ma φ else mb φ) := by
  refine (ps_if hc ha hb).weak fun D σ H ⟨S, φ, β, e, k, sl, q⟩ => ?_
  subst e
  refine ⟨S, φ, β, rfl, k, sl, (out_bnd q).imp (fun x β1 q1 S1 l1 k1 => ?_) fun _ _ z => z.ke⟩
  have inL : ∀ i ∈ ts, i ∈ ts ++ us := fun i hi => List.mem_append_left _ hi
  have inR : ∀ i ∈ us, i ∈ ts ++ us := fun i hi => List.mem_append_right _ hi
  cases x with
  | true => exact ⟨S1, φ, β1, rfl, k1, sl.mono l1, Out.imp (show Out (ma φ β1) _ _ from q1) (fun r β2 q2 S2 σ2 l2 k2 sl2 o2 => q2 S2 σ2 (l1.trans l2) k2 sl2 (o2.mono inL)) fun _ _ z => (z.mono l1 (.refl _ _)).sub inL⟩
  | false => exact ⟨S1, φ, β1, rfl, k1, sl.mono l1, Out.imp (show Out (mb φ β1) _ _ from q1) (fun r β2 q2 S2 σ2 l2 k2 sl2 o2 => q2 S2 σ2 (l1.trans l2) k2 sl2 (o2.mono inR)) fun _ _ z => (z.mono l1 (.refl _ _)).sub inR⟩
/-- what the proof never comes to -/
theorem ss_never {st : Stmt} : PS X st (tSt g ge W [] fun _ => bad) := ps_never.weak fun D σ H ⟨S, φ, β, e, k, sl, q⟩ => q
theorem ss_for {iter : Expr} {body : List Stmt} {mi : Sl → M (List VI.D)} {mg : VV → Sl → M Sl} {mb : Sl → M (Fl × Sl)} (hp : PassesOwn (model X.prog X.w) X.A X.env X.xe) (hx : XOk g X n W) (hi : PI X tg iter (tEvI g ge W mi)) (hg : PG X tg (gEv g ts mg)) (hb : PSs X body (tSt g ge W us mb))
    (hs : ∀ x, foldedSetIterable iter X.env x = pure x) : PS X (.For tg iter body [] pos) (tSt g ge W (ts ++ us) fun φ => bnd (mi φ) fun xs => forGo (fun x φ => bnd (noExc (mg (.d x) φ)) fun φ' => mb φ') xs φ) := by
  refine (ps_for hp hx.calm hi hg hb hs).weak fun D σ H ⟨S, φ, β, e, k, sl, q⟩ => ?_
  subst e
  have inL : ∀ i ∈ ts, i ∈ ts ++ us := fun i hi => List.mem_append_left _ hi
  have inR : ∀ i ∈ us, i ∈ ts ++ us := fun i hi => List.mem_append_right _ hi
  refine ⟨S, φ, β, rfl, k, sl, (out_bnd q).imp (fun xs β1 q1 S1 J l1 k1 wj => ?_) fun _ _ z => z.ke⟩
  let P : Nat → L2.St → Hp → Prop := fun i σ' H => ∃ T φ' β', T.H = H ∧ OkS g β' T ∧ Le S1 T ∧ SlOk g T φ' σ' ∧ Off (ts ++ us) σ σ' ∧ i ≤ xs.length ∧
    Out (forGo (fun x φ => bnd (noExc (mg (.d x) φ)) fun φ' => mb φ') (xs.drop i) φ' β') (Ks g S σ (ts ++ us) D) (Kx g ge S W σ (ts ++ us))
  refine ⟨fun i m σ' H => m = xs.length - i ∧ P i σ' H, ⟨xs.length, by simp, S1, φ, β1, rfl, k1, .refl S1, sl.mono l1, .refl _ _, Nat.zero_le _, by rw [List.drop_zero]; exact q1⟩, ?_⟩
  rintro i m σ' H ⟨rfl, T, φ', β', rfl, kT, lT, slT, oT, hle, qT⟩
  have wj' := wj.2 T β' lT.F kT
  by_cases hi : i = xs.length
  · subst hi
    rw [List.drop_length] at qT
    have qT : Ks g S σ (ts ++ us) D (.nxt, φ') β' := qT
    exact .inl ⟨wj'.1, qT T σ' (l1.trans lT) kT slT oT⟩
  · have hi : i < xs.length := by omega
    obtain ⟨hgo, hy⟩ := wj'.2 i _ (List.getElem?_eq_getElem hi)
    refine .inr ⟨hgo, P (i + 1), fun σ'' H' z => ⟨xs.length - (i + 1), by omega, rfl, z⟩, fun x H' y => ?_⟩
    obtain ⟨S4, l4, k4, eH4, rx⟩ := hy x H' y
    subst eH4
    rw [List.drop_eq_getElem_cons hi] at qT
    simp only [forGo] at qT
    have l04 : Le S S4 := (l1.trans lT).trans l4
    have qb := out_bnd (out_bnd qT)
    refine ⟨S4, φ', β', .d xs[i], rfl, k4, slT.mono l4, .d rx, (out_noExc qb).imp (fun φ2 β2 q2 S5 σ5 l5 k5 sl5 o5 => ?_) fun _ _ z => z⟩
    have o05 := oT.trans (o5.mono inL)
    have l05 := l04.trans l5
    refine ⟨S5, φ2, β2, rfl, k5, sl5, q2.imp (fun r β6 q6 S6 σ6 l6 k6 sl6 o6 => ?_) fun _ _ z => (z.mono l05 o05).sub inR⟩
    have o06 := o05.trans (o6.mono inR)
    have l06 := l05.trans l6
    obtain ⟨fl, φ6⟩ := r
    cases fl with
    | nxt => exact ⟨S6, φ6, β6, rfl, k6, ((lT.trans l4).trans l5).trans l6, sl6, o06, hi, q6⟩
    | cnt => exact ⟨S6, φ6, β6, rfl, k6, ((lT.trans l4).trans l5).trans l6, sl6, o06, hi, q6⟩
    | brk =>
      have q6 : Ks g S σ (ts ++ us) D (.nxt, φ6) β6 := q6
      exact q6 S6 σ6 l06 k6 sl6 o06
    | ret v =>
      have q6 : Ks g S σ (ts ++ us) D (.ret v, φ6) β6 := q6
      exact q6 S6 σ6 l06 k6 sl6 o06
end
end VI

set_option maxHeartbeats 2000000
/-! V15: statements II. -/
namespace VI
open PySem L2 M
open LamX (CodeO TabB ExtN)
section
variable {g : G} {ge : GE} {X : Cx} {n : Nat} {W : WX} {a b c tg : Expr} {pos p : Pos} {S S1 : Sx} {β β1 : Sto} {σ σ1 : L2.St} {φ : Sl} {ts us : List Nat} {D : Ends}
theorem ss_while {body : List Stmt} {mc : Sl → M Bool} {mb : Sl → M (Fl × Sl)} {fuel : Nat} (hp : PassesOwn (model X.prog X.w) X.A X.env X.xe) (hc : PT X c (tEvT g ge W mc)) (hb : PSs X body (tSt g ge W ts mb)) :
    PS X (.While c body [] pos) (tSt g ge W ts fun φ => whGo mc mb fuel φ) := by
  refine (ps_while hp hc hb).weak fun D σ H ⟨S, φ, β, e, k, sl, q⟩ => ?_
  subst e
  let P : Nat → L2.St → Hp → Prop := fun m σ' H => ∃ T φ' β', T.H = H ∧ OkS g β' T ∧ Le S T ∧ SlOk g T φ' σ' ∧ Off ts σ σ' ∧ Out (whGo mc mb m φ' β') (Ks g S σ ts D) (Kx g ge S W σ ts)
  refine ⟨P, ⟨fuel, S, φ, β, rfl, k, .refl S, sl, .refl _ _, q⟩, ?_⟩
  rintro m σ' H ⟨T, φ', β', rfl, kT, lT, slT, oT, qT⟩
  cases m with
  | zero => exact qT.elim
  | succ m =>
    simp only [whGo] at qT
    refine ⟨T, φ', β', rfl, kT, slT, (out_bnd qT).imp (fun x β2 q2 S2 l2 k2 => ?_) fun _ _ z => (z.mono lT oT).ke⟩
    have l02 := lT.trans l2
    cases x with
    | false =>
      have q2 : Ks g S σ ts D (.nxt, φ') β2 := q2
      exact q2 S2 σ' l02 k2 (slT.mono l2) oT
    | true =>
      refine ⟨P m, fun σ'' H' z => ⟨m, Nat.lt_succ_self _, z⟩, S2, φ', β2, rfl, k2, slT.mono l2, (out_bnd q2).imp (fun r β6 q6 S6 σ6 l6 k6 sl6 o6 => ?_) fun _ _ z => z.mono l02 oT⟩
      have o06 := oT.trans o6
      have l06 := l02.trans l6
      obtain ⟨fl, φ6⟩ := r
      cases fl with
      | nxt => exact ⟨S6, φ6, β6, rfl, k6, l06, sl6, o06, q6⟩
      | cnt => exact ⟨S6, φ6, β6, rfl, k6, l06, sl6, o06, q6⟩
      | brk =>
        have q6 : Ks g S σ ts D (.nxt, φ6) β6 := q6
        exact q6 S6 σ6 l06 k6 sl6 o06
      | ret v =>
        have q6 : Ks g S σ ts D (.ret v, φ6) β6 := q6
        exact q6 S6 σ6 l06 k6 sl6 o06
theorem ss_par {i j : Nat} {x y : Str} {px py pt : Pos} {kt k2 pt2} {ma mb : Sl → M VV} (hx : XOk g X n W) (hi : X.N[i]? = some x) (hj : X.N[j]? = some y) (hij : i ≠ j) (hlx : X.env.scope.names.lookup x = some .local) (hly : X.env.scope.names.lookup y = some .local)
    (ha : PE X a (tEv g ge W ma)) (hb : PE X b (tEv g ge W mb)) (he : starEach [a, b] X.env = (false, eval a X.env) :: starEach [b] X.env) (he2 : starEach [b] X.env = (false, eval b X.env) :: starEach [] X.env)
    (hw : swappedStores [.Tuple [.Name x px, .Name y py] kt pt] (.Tuple [a, b] k2 pt2) X.env = pure (some [x, y])) (hs : swapsWithSole [.Tuple [.Name x px, .Name y py] kt pt] (.Tuple [a, b] k2 pt2) pos.line X.env = pure false) :
    PS X (.Assign [.Tuple [.Name x px, .Name y py] kt pt] (.Tuple [a, b] k2 pt2) pos) (tSt g ge W [i, j] fun φ => bnd (ma φ) fun v => bnd (mb φ) fun w => ret (.nxt, (φ.set i (some v)).set j (some w))) := by
  refine (ps_par hx.calm hx.nd hi hj hij hlx hly (pa_cons ha (pa_cons hb pa_nil he2) he) hw hs).weak fun D σ H ⟨S, φ, β, e, k, sl, q⟩ => ?_
  subst e
  refine step_sv (Qk := fun S => Ks g S σ [i, j] D) grow_s k sl q fun u x β1 S1 l1 k1 r1 sl1 q1 => ?_
  refine step_sv (Qk := fun S => Ks g S σ [i, j] D) (S := S1) grow_s k1 sl1 q1 fun w y β2 S2 l2 k2 r2 sl2 q2 => ?_
  have q2 : Ks g S2 σ [i, j] D (.nxt, (φ.set i (some x)).set j (some y)) β2 := q2
  exact ⟨u, w, rfl, q2 S2 _ (.refl S2) k2 ((sl2.set i (r1.mono l2)).set j r2) ((Off.set σ i _ (by simp)).trans (Off.set _ j _ (by simp)))⟩
theorem ss_app {o e : Expr} {apos : Pos} {mo me : Sl → M VV} (hx : XOk g X n W) (ho : PE X o (tEv g ge W mo)) (he : PE X e (tEv g ge W me)) (hbase : attributeBase o "append" X.env (eval o X.env) = eval o X.env)
    (hfew : ((backTo p (starEach [e] X.env)).all (fun x => !x.1) && (backToKw p (keywordEach [] X.env)).all (fun x => x.1.isSome)
      && decide ([e].length + ([] : List Keyword).length + (if ([] : List Keyword).isEmpty then 0 else 1) < 30)) = true)
    (hline : (apos.endLine == p.line) = true) (hs : starEach [e] X.env = (false, eval e X.env) :: starEach [] X.env) (hsw : swapsWith (.Call (.Attribute o "append" apos) [e] [] p) none pos.line X.env = pure false) :
    PS X (.Expr (.Call (.Attribute o "append" apos) [e] [] p) pos) (tSt g ge W [] fun φ => bnd (mo φ) fun u => bnd (isLst u) fun _ => bnd (me φ) fun v => bnd (dataOf v) fun x => bnd (getBox u) fun c => match c with
      | .lst xs => if small xs.length then bnd (setBox u (.lst (xs ++ [x]))) fun _ => ret (.nxt, φ) else bad
      | _ => bad) := by
  refine (ps_expr (pe_bm PySem.F.plainAttrs_list PySem.F.slot_list_append PySem.F.type_list_append mt_append ho (pa_cons he pa_nil hs) hbase hfew hline hs rfl) hsw).weak fun D σ H ⟨S, φ, β, e, k, sl, q⟩ => ?_
  subst e
  refine step_sv (Qk := fun S => Ks g S σ [] D) grow_s k sl q fun u ob β1 S1 l1 k1 r1 sl1 q1 => ?_
  have qa := out_bnd q1
  have lstAt : ∀ {n : Nat} {bx : Bx} {S' : Sx} {β' : Sto} {u : V} {xs : List VI.D}, OkS g β' S' → RepV g S' u (.box n) → β'[n]? = some bx → bx.ct = .lst xs → ∃ p vs, u = .ref p ∧ S'.ι[n]? = some p ∧ S'.H p = some (.lst vs) ∧ Reps g.K g.cl S'.F vs xs := fun {n bx S' β' u xs} k' r' e ec => by
    cases r' with
    | @box _ p' e3 =>
      obtain ⟨b', e4, hb⟩ := k'.boxAt e3
      rw [e] at e4; cases e4
      have c0 : CtOk g S'.F S'.H p' bx.ct := by
        unfold BxOk at hb
        split at hb
        · exact hb.2
        · exact hb.mono (.refl _) k'.same
      rw [ec] at c0
      obtain ⟨vs, h1, h2⟩ := c0
      exact ⟨p', vs, rfl, e3, h1, h2⟩
  obtain ⟨nb, bx, rfl, eb, h1⟩ := out_getBox (out_bnd qa)
  rw [hx.K]
  cases hct : bx.ct with
  | lst xs0 =>
    rw [hct] at h1
    obtain ⟨p', vs, rfl, e3, hH, rr⟩ := lstAt k1 r1 eb hct
    refine ⟨.inl ⟨rfl, vs, SqL.of hH⟩, ?_⟩
    refine step_sv (Qk := fun S => Ks g S σ [] D) (S := S1) grow_s k1 sl1 h1 fun v x β2 S2 l2 k2 r2 sl2 q2 => ?_
    obtain ⟨y, rfl, q3⟩ := out_data (out_bnd q2)
    obtain ⟨nb', bx2, en, eb2, q4⟩ := out_getBox (out_bnd q3)
    cases en
    cases hct2 : bx2.ct with
    | lst xs =>
      rw [hct2] at q4
      obtain ⟨p2, vs2, ep, e32, hH2, rr2⟩ := lstAt k2 (r1.mono l2) eb2 hct2
      cases ep
      obtain ⟨hsm, q5⟩ := out_if q4
      obtain ⟨m, ct, em, eb3, q6⟩ := out_setBox (out_bnd q5)
      cases em
      obtain ⟨k3, l3⟩ := k2.put (ct' := .lst (xs ++ [y])) (o := .lst (vs2 ++ [v])) e32 eb3 hH2 trivial trivial (fun _ z => by cases z) (fun _ z => by cases z) ⟨_, upd_same, rr2.append (.cons r2.d' .nil)⟩
      refine ⟨_, vs2, v, rfl, rfl, hH2, by rw [rr2.len]; exact small_lt hsm, ?_⟩
      have q6 : Ks g S2 σ [] D (.nxt, φ) _ := q6
      exact q6 _ σ l3 k3 (sl2.mono l3) (.refl _ _)
    | _ => rw [hct2] at q4; exact q4.elim
  | _ => rw [hct] at h1; exact h1.elim
theorem RepF.put {K : PySem.W.Frag} {cl : Nat → Option Addr} {F : Hp} {f : Str} {v : V} {x : VI.D} (rv : Rep K cl F v x) : ∀ {fs : List (Str × V)} {r : List (Str × VI.D)}, RepF K cl F fs r → RepF K cl F (putF f v fs) (putFld f x r)
  | _, _, .nil => .cons rv .nil
  | _, _, .cons (n := m) h t => by
    unfold putF putFld
    by_cases hm : m = f
    · subst hm
      simp only [if_true]
      exact .cons rv t
    · simp only [hm, if_false]
      exact .cons h (RepF.put rv t)
theorem RepF.len {K : PySem.W.Frag} {cl : Nat → Option Addr} {F : Hp} : ∀ {fs : List (Str × V)} {r : List (Str × VI.D)}, RepF K cl F fs r → fs.length = r.length
  | _, _, .nil => rfl
  | _, _, .cons _ t => congrArg (· + 1) t.len
theorem ss_fld {o e : Expr} {f : Str} {pos' : Pos} {mo me : Sl → M VV} (hx : XOk g X n W) (co : ClsOk g) (hf : ∀ c C, g.cl c = some C → propOf g.T c f = none → NoAttr g.K C f) (ho : PE X o (tEv g ge W mo)) (he : PE X e (tEv g ge W me)) (hs : swapsWith e (some (.Attribute o f pos')) pos.line X.env = pure false) :
    PS X (.Assign [.Attribute o f pos'] e pos) (tSt g ge W [] fun φ => bnd (me φ) fun v => bnd (mo φ) fun u => bnd (dataOf v) fun x => bnd (getBox u) fun c => match c with
      | .obj k fs => if decide (fs.length ≤ 100) && (propOf g.T k f).isNone then bnd (setBox u (.obj k (putFld f x fs))) fun _ => ret (.nxt, φ) else bad
      | _ => bad) := by
  refine (ps_fld ho he hs).weak fun D σ H ⟨S, φ, β, e, k, sl, q⟩ => ?_
  subst e
  refine step_sv (Qk := fun S => Ks g S σ [] D) grow_s k sl q fun v x β1 S1 l1 k1 r1 sl1 q1 => ?_
  refine step_sv (Qk := fun S => Ks g S σ [] D) (S := S1) grow_s k1 sl1 q1 fun u ob β2 S2 l2 k2 r2 sl2 q2 => ?_
  obtain ⟨y, rfl, q3⟩ := out_data (out_bnd q2)
  obtain ⟨nb, bx, rfl, eb, q4⟩ := out_getBox (out_bnd q3)
  rw [hx.K]
  cases r2 with
  | @box _ p' e3 =>
    cases hct : bx.ct with
    | obj cn fs =>
      rw [hct] at q4
      obtain ⟨hsm, q5⟩ := out_if q4
      rw [Bool.and_eq_true] at hsm
      obtain ⟨hsm, hpn⟩ := hsm
      obtain ⟨m, ct, em, eb3, q6⟩ := out_setBox (out_bnd q5)
      cases em
      rw [eb] at eb3; cases eb3
      obtain ⟨b', e4, hb⟩ := k2.boxAt e3
      rw [eb] at e4; cases e4
      unfold BxOk at hb
      rw [if_pos rfl] at hb
      obtain ⟨hF, hc⟩ := hb
      have hct : ct = .obj cn fs := hct
      subst hct
      obtain ⟨C, dx, r, hC, hH, hH2, rr⟩ := hc
      have hne : dx ≠ p' := fun z => k2.own dx p' hH2 (z ▸ List.mem_of_getElem? e3)
      obtain ⟨k3, l3⟩ := k2.put (ct' := .obj cn (putFld f y fs)) (o := .ins C dx (putF f v r)) e3 eb hH trivial trivial (fun _ z => by cases z) (fun _ z => by cases z)
        ⟨C, dx, _, hC, upd_same, by rw [upd_ne hne]; exact hH2, rr.put (r1.mono l2).d'⟩
      refine ⟨p', C, dx, r, rfl, hH, (co.c cn C hC).ins.cl, hf cn C hC (by simpa using hpn), by rw [rr.len]; have := of_decide_eq_true hsm; omega, ?_⟩
      have q6 : Ks g S2 σ [] D (.nxt, φ) _ := q6
      exact q6 _ σ l3 k3 (sl2.mono l3) (.refl _ _)
    | _ => rw [hct] at q4; exact q4.elim
end
end VI

set_option maxHeartbeats 2000000
/-! V15p: several names at once, extend. -/
namespace VI
open PySem L2 M
open LamX (CodeO TabB ExtN)
def setAllV : L2.St → List Nat → List V → L2.St
  | σ, i :: js, v :: vs => setAllV (σ.set i (some v)) js vs
  | σ, _, _ => σ
def gNames (js : List Nat) : TGs := fun vs σ H Q => vs.length = js.length ∧ Q (setAllV σ js vs) H
section
variable {g : G} {ge : GE} {X : Cx} {n : Nat} {W : WX} {a b c : Expr} {pos p : Pos}
theorem pgs_names_nil : PGs X [] (gNames []) := pgs_nil.weak fun vs σ H Q h => by
  cases vs with
  | nil => exact ⟨rfl, h.2⟩
  | cons _ _ => exact absurd h.1 (by simp)
theorem pgs_names_cons {i : Nat} {js : List Nat} {es : List Expr} (h1 : PG X a (gName i)) (h2 : PGs X es (gNames js))
    (hs : (assignEach (a :: es) X.env).map (·.2) = assign a X.env :: (assignEach es X.env).map (·.2)) : PGs X (a :: es) (gNames (i :: js)) :=
  (pgs_cons h1 h2 hs).weak fun vs σ H Q h => by
    cases vs with
    | nil => exact absurd h.1 (by simp)
    | cons v vs => exact ⟨v, vs, rfl, by simpa using h.1, h.2⟩
theorem slOk_setN {S : Sx} : ∀ (js : List Nat) {us : List V} {vs : List VV} {φ : Sl} {σ : L2.St}, SlOk g S φ σ → RepVs g S us vs → SlOk g S (setN φ js vs) (setAllV σ js us)
  | [], _, _, φ, σ, sl, r => by cases r <;> exact sl
  | i :: js, _, _, φ, σ, sl, .nil => sl
  | i :: js, _, _, φ, σ, sl, .cons r rs => slOk_setN js (sl.set i r) rs
theorem Off.setN (σ : L2.St) : ∀ (js : List Nat) (us : List V) (σ' : L2.St), Off js σ (setAllV σ js us)
  | [], us, _ => by cases us <;> exact Off.refl _ _
  | i :: js, [], _ => Off.refl _ _
  | i :: js, u :: us, s' => by
    have h1 : Off (i :: js) σ (σ.set i (some u)) := Off.set σ i _ (List.mem_cons_self ..)
    have h2 := (Off.setN (σ.set i (some u)) js us s').mono (us := i :: js) fun k hk => List.mem_cons_of_mem _ hk
    exact h1.trans h2
variable {S S1 : Sx} {β β1 : Sto} {σ : L2.St} {φ : Sl} {ts : List Nat} {D : Ends}
theorem step_sva {α : Type} {m : Sl → M (List VV)} {f : List VV → M α} {Qk : Sx → α → Sto → Prop} {R : List V → Hp → Prop} (gk : Grow Qk) (k : OkS g β S) (sl : SlOk g S φ σ)
    (h : Out (bnd (m φ) f β) (Qk S) (Kx g ge S W σ ts))
    (hR : ∀ u x β1 S1, Le S S1 → OkS g β1 S1 → RepVs g S1 u x → SlOk g S1 φ σ → Out (f x β1) (Qk S1) (Kx g ge S1 W σ ts) → R u S1.H) : tEvA g ge W m σ S.H R :=
  ⟨S, φ, β, rfl, k, sl, (out_bnd h).imp (fun x β1 hx u S1 l k1 r => hR u x β1 S1 l k1 r (sl.mono l) (hx.imp (fun _ _ => gk l) fun _ _ z => z.mono l (.refl _ _))) fun _ _ z => z.ke⟩
theorem ss_par3 {i j l : Nat} {x y z : Str} {px py pz pt : Pos} {kt k2 pt2} {ma mb mc : Sl → M VV} (hx : XOk g X n W) (hi : X.N[i]? = some x) (hj : X.N[j]? = some y) (hl : X.N[l]? = some z) (hij : i ≠ j) (hil : i ≠ l) (hjl : j ≠ l)
    (hlx : X.env.scope.names.lookup x = some .local) (hly : X.env.scope.names.lookup y = some .local) (hlz : X.env.scope.names.lookup z = some .local)
    (ha : PE X a (tEv g ge W ma)) (hb : PE X b (tEv g ge W mb)) (hc : PE X c (tEv g ge W mc)) (he : starEach [a, b, c] X.env = (false, eval a X.env) :: starEach [b, c] X.env) (he2 : starEach [b, c] X.env = (false, eval b X.env) :: starEach [c] X.env) (he3 : starEach [c] X.env = (false, eval c X.env) :: starEach [] X.env)
    (hw : swappedStores [.Tuple [.Name x px, .Name y py, .Name z pz] kt pt] (.Tuple [a, b, c] k2 pt2) X.env = pure (some [x, y, z])) (hs : swapsWithSole [.Tuple [.Name x px, .Name y py, .Name z pz] kt pt] (.Tuple [a, b, c] k2 pt2) pos.line X.env = pure false) :
    PS X (.Assign [.Tuple [.Name x px, .Name y py, .Name z pz] kt pt] (.Tuple [a, b, c] k2 pt2) pos) (tSt g ge W [i, j, l] fun φ => bnd (ma φ) fun u => bnd (mb φ) fun v => bnd (mc φ) fun w => ret (.nxt, ((φ.set i (some u)).set j (some v)).set l (some w))) := by
  refine (ps_par3 hx.calm hx.nd hi hj hl hij hil hjl hlx hly hlz (pa_cons ha (pa_cons hb (pa_cons hc pa_nil he3) he2) he) hw hs).weak fun D σ H ⟨S, φ, β, e, k, sl, q⟩ => ?_
  subst e
  refine step_sv (Qk := fun S => Ks g S σ [i, j, l] D) grow_s k sl q fun u x β1 S1 l1 k1 r1 sl1 q1 => ?_
  refine step_sv (Qk := fun S => Ks g S σ [i, j, l] D) (S := S1) grow_s k1 sl1 q1 fun v y β2 S2 l2 k2 r2 sl2 q2 => ?_
  refine step_sv (Qk := fun S => Ks g S σ [i, j, l] D) (S := S2) grow_s k2 sl2 q2 fun w z β3 S3 l3 k3 r3 sl3 q3 => ?_
  have q3 : Ks g S3 σ [i, j, l] D (.nxt, ((φ.set i (some x)).set j (some y)).set l (some z)) β3 := q3
  exact ⟨u, v, w, rfl, q3 S3 _ (.refl S3) k3 (((sl3.set i (r1.mono (l2.trans l3))).set j (r2.mono l3)).set l r3) (((Off.set σ i _ (by simp)).trans (Off.set _ j _ (by simp))).trans (Off.set _ l _ (by simp)))⟩
theorem ss_parN {js : List Nat} {tgs es : List Expr} {kt k2 : Nat} {pt pt2 : Pos} {ms : Sl → M (List VV)} (hx : XOk g X n W) (hg : PGs X tgs (gNames js)) (ha : PA X es (tEvA g ge W ms))
    (hn : (assignEach tgs X.env).length = js.length) (hst : (assignEach tgs X.env).findIdx? (·.1) = none)
    (hs : swapsWithSole [.Tuple tgs kt pt] (.Tuple es k2 pt2) pos.line X.env = pure false) (hw : swappedStores [.Tuple tgs kt pt] (.Tuple es k2 pt2) X.env = pure none) (h1 : (assignEach [.Tuple tgs kt pt] X.env).map (·.2) = [assign (.Tuple tgs kt pt) X.env]) :
    PS X (.Assign [.Tuple tgs kt pt] (.Tuple es k2 pt2) pos) (tSt g ge W js fun φ => bnd (ms φ) fun vs => if decide (vs.length = js.length) && decide (vs.length ≤ 20) then ret (.nxt, setN φ js vs) else bad) := by
  refine (ps_asg (pe_tup ha) (pg_tup hx.calm hg hn hst) hs hw h1).weak fun D σ H ⟨S, φ, β, e, k, sl, q⟩ => ?_
  subst e
  refine step_sva (Qk := fun S => Ks g S σ js D) grow_s k sl q fun us vs β1 S1 l1 k1 r1 sl1 q1 => ?_
  obtain ⟨e0, q2⟩ := out_if q1
  rw [Bool.and_eq_true] at e0
  have e1 := of_decide_eq_true e0.1
  have e2 := of_decide_eq_true e0.2
  have q2 : Ks g S1 σ js D (.nxt, setN φ js vs) β1 := q2
  have hl := r1.len
  refine ⟨by rw [sizeLine_eq]; omega, fun p hp => ?_⟩
  have l2 : Le S1 (S1.hid p (.tup us)) := Le.hid hp
  have k2 := k1.hid (o := .tup us) hp
  exact ⟨p, us, rfl, .inl (.inl upd_same), by omega, by omega, q2 (S1.hid p (.tup us)) _ l2 k2 (slOk_setN js (sl1.mono l2) (r1.mono l2)) (Off.setN σ js us σ)⟩
theorem ss_ext {o e : Expr} {apos : Pos} {mo me : Sl → M VV} (hx : XOk g X n W) (ho : PE X o (tEv g ge W mo)) (he : PE X e (tEv g ge W me)) (hbase : attributeBase o "extend" X.env (eval o X.env) = eval o X.env)
    (hfew : ((backTo p (starEach [e] X.env)).all (fun x => !x.1) && (backToKw p (keywordEach [] X.env)).all (fun x => x.1.isSome)
      && decide ([e].length + ([] : List Keyword).length + (if ([] : List Keyword).isEmpty then 0 else 1) < 30)) = true)
    (hline : (apos.endLine == p.line) = true) (hs : starEach [e] X.env = (false, eval e X.env) :: starEach [] X.env) (hsw : swapsWith (.Call (.Attribute o "extend" apos) [e] [] p) none pos.line X.env = pure false) :
    PS X (.Expr (.Call (.Attribute o "extend" apos) [e] [] p) pos) (tSt g ge W [] fun φ => bnd (mo φ) fun u => bnd (isLst u) fun _ => bnd (me φ) fun v => bnd (deref v) fun y => match y with
      | .lst ys => bnd (getBox u) fun c => match c with
        | .lst xs => if small (xs.length + ys.length) then bnd (setBox u (.lst (xs ++ ys))) fun _ => ret (.nxt, φ) else bad
        | _ => bad
      | _ => bad) := by
  refine (ps_expr (pe_bm PySem.F.plainAttrs_list PySem.F.slot_list_extend PySem.F.type_list_extend mt_extend ho (pa_cons he pa_nil hs) hbase hfew hline hs rfl) hsw).weak fun D σ H ⟨S, φ, β, e, k, sl, q⟩ => ?_
  subst e
  refine step_sv (Qk := fun S => Ks g S σ [] D) grow_s k sl q fun u ob β1 S1 l1 k1 r1 sl1 q1 => ?_
  have qa := out_bnd q1
  have lstAt : ∀ {n : Nat} {bx : Bx} {S' : Sx} {β' : Sto} {u : V} {xs : List VI.D}, OkS g β' S' → RepV g S' u (.box n) → β'[n]? = some bx → bx.ct = .lst xs → ∃ p vs, u = .ref p ∧ S'.ι[n]? = some p ∧ S'.H p = some (.lst vs) ∧ Reps g.K g.cl S'.F vs xs := fun {n bx S' β' u xs} k' r' e ec => by
    cases r' with
    | @box _ p' e3 =>
      obtain ⟨b', e4, hb⟩ := k'.boxAt e3
      rw [e] at e4; cases e4
      have c0 : CtOk g S'.F S'.H p' bx.ct := by
        unfold BxOk at hb
        split at hb
        · exact hb.2
        · exact hb.mono (.refl _) k'.same
      rw [ec] at c0
      obtain ⟨vs, h1, h2⟩ := c0
      exact ⟨p', vs, rfl, e3, h1, h2⟩
  obtain ⟨nb, bx, rfl, eb, h1⟩ := out_getBox (out_bnd qa)
  rw [hx.K]
  cases hct : bx.ct with
  | lst xs0 =>
    rw [hct] at h1
    obtain ⟨p', vs, rfl, e3, hH, rr⟩ := lstAt k1 r1 eb hct
    refine ⟨.inl ⟨rfl, vs, SqL.of hH⟩, ?_⟩
    refine step_sv (Qk := fun S => Ks g S σ [] D) (S := S1) grow_s k1 sl1 h1 fun v x β2 S2 l2 k2 r2 sl2 q2 => ?_
    obtain ⟨y, q3, dv⟩ := DR.get k2 r2 (out_bnd q2)
    cases y with
    | lst ys =>
      obtain ⟨pb, zs, rfl, hB, rz⟩ := dv.lst' k2
      obtain ⟨nb', bx2, en, eb2, q4⟩ := out_getBox (out_bnd q3)
      cases en
      cases hct2 : bx2.ct with
      | lst xs =>
        rw [hct2] at q4
        obtain ⟨p2, vs2, ep, e32, hH2, rr2⟩ := lstAt k2 (r1.mono l2) eb2 hct2
        cases ep
        obtain ⟨hsm, q5⟩ := out_if q4
        obtain ⟨m, ct, em, eb3, q6⟩ := out_setBox (out_bnd q5)
        cases em
        obtain ⟨k3, l3⟩ := k2.put (ct' := .lst (xs ++ ys)) (o := .lst (vs2 ++ zs)) e32 eb3 hH2 trivial trivial (fun _ z => by cases z) (fun _ z => by cases z) ⟨_, upd_same, rr2.append rz⟩
        refine ⟨_, pb, vs2, zs, rfl, rfl, hH2, hB, by rw [rr2.len, rz.len]; exact small_line hsm, ?_⟩
        have q6 : Ks g S2 σ [] D (.nxt, φ) _ := q6
        exact q6 _ σ l3 k3 (sl2.mono l3) (.refl _ _)
      | _ => rw [hct2] at q4; exact q4.elim
    | _ => exact q3.elim
  | _ => rw [hct] at h1; exact h1.elim
end
end VI

set_option maxHeartbeats 2000000
/-! V15q: o.reverse(), o.pop(i). -/
namespace VI
open PySem L2 M
open LamX (CodeO TabB ExtN)
section
variable {g : G} {ge : GE} {X : Cx} {n : Nat} {W : WX} {a b c tg : Expr} {pos p : Pos}
theorem lst_at {nb : Nat} {bx : Bx} {S : Sx} {β : Sto} {u : V} {xs : List D} (k : OkS g β S) (r : RepV g S u (.box nb)) (e : β[nb]? = some bx) (ec : bx.ct = .lst xs) : ∃ p vs, u = .ref p ∧ S.ι[nb]? = some p ∧ S.H p = some (.lst vs) ∧ Reps g.K g.cl S.F vs xs := by
  cases r with
  | @box _ p' e3 =>
    obtain ⟨b', e4, hb⟩ := k.boxAt e3
    rw [e] at e4; cases e4
    have c0 : CtOk g S.F S.H p' bx.ct := by
      unfold BxOk at hb
      split at hb
      · exact hb.2
      · exact hb.mono (.refl _) k.same
    rw [ec] at c0
    obtain ⟨vs, h1, h2⟩ := c0
    exact ⟨p', vs, rfl, e3, h1, h2⟩
theorem reps_rev {S : Sx} {vs : List V} {xs : List D} (r : Reps g.K g.cl S.F vs xs) : Reps g.K g.cl S.F vs.reverse xs.reverse := by
  induction xs generalizing vs with
  | nil => cases r; exact .nil
  | cons x xs ih =>
    cases r with
    | cons h t =>
      rw [List.reverse_cons, List.reverse_cons]
      exact (ih t).append (.cons h .nil)
theorem reps_erase {S : Sx} : ∀ {vs : List V} {xs : List D} (i : Nat), Reps g.K g.cl S.F vs xs → Reps g.K g.cl S.F (vs.eraseIdx i) (xs.eraseIdx i)
  | _, _, _, .nil => .nil
  | _, _, 0, .cons _ t => t
  | _, _, i + 1, .cons h t => .cons h (reps_erase i t)
theorem ss_rev {o : Expr} {apos : Pos} {mo : Sl → M VV} (hx : XOk g X n W) (ho : PE X o (tEv g ge W mo)) (hbase : attributeBase o "reverse" X.env (eval o X.env) = eval o X.env)
    (hline : (apos.endLine == p.line) = true) (hsw : swapsWith (.Call (.Attribute o "reverse" apos) [] [] p) none pos.line X.env = pure false) :
    PS X (.Expr (.Call (.Attribute o "reverse" apos) [] [] p) pos) (tSt g ge W [] fun φ => bnd (mo φ) fun u => bnd (getBox u) fun c => match c with
      | .lst xs => bnd (setBox u (.lst xs.reverse)) fun _ => ret (.nxt, φ)
      | _ => bad) := by
  refine (ps_expr (pe_bm0 PySem.F.plainAttrs_list PySem.F.slot_list_reverse PySem.F.type_list_reverse mt_reverse ho hbase hline) hsw).weak fun D σ H ⟨S, φ, β, e, k, sl, q⟩ => ?_
  subst e
  refine step_sv (Qk := fun S => Ks g S σ [] D) grow_s k sl q fun u ob β1 S1 l1 k1 r1 sl1 q1 => ?_
  obtain ⟨nb, bx, rfl, eb, h1⟩ := out_getBox (out_bnd q1)
  rw [hx.K]
  cases hct : bx.ct with
  | lst xs =>
    rw [hct] at h1
    obtain ⟨p', vs, rfl, e3, hH, rr⟩ := lst_at k1 r1 eb hct
    obtain ⟨m, ct, em, eb3, q6⟩ := out_setBox (out_bnd h1)
    cases em
    obtain ⟨k3, l3⟩ := k1.put (ct' := .lst xs.reverse) (o := .lst vs.reverse) e3 eb3 hH trivial trivial (fun _ z => by cases z) (fun _ z => by cases z) ⟨_, upd_same, reps_rev rr⟩
    refine ⟨.inl ⟨rfl, vs, SqL.of hH⟩, _, vs, rfl, rfl, hH, ?_⟩
    have q6 : Ks g S1 σ [] D (.nxt, φ) _ := q6
    exact q6 _ σ l3 k3 (sl1.mono l3) (.refl _ _)
  | _ => rw [hct] at h1; exact h1.elim
theorem ss_pop {o i : Expr} {apos : Pos} {mo mi : Sl → M VV} (hx : XOk g X n W) (ho : PE X o (tEv g ge W mo)) (hi : PE X i (tEv g ge W mi)) (hbase : attributeBase o "pop" X.env (eval o X.env) = eval o X.env)
    (hfew : ((backTo p (starEach [i] X.env)).all (fun x => !x.1) && (backToKw p (keywordEach [] X.env)).all (fun x => x.1.isSome)
      && decide ([i].length + ([] : List Keyword).length + (if ([] : List Keyword).isEmpty then 0 else 1) < 30)) = true)
    (hline : (apos.endLine == p.line) = true) (hs : starEach [i] X.env = (false, eval i X.env) :: starEach [] X.env) (hsw : swapsWith (.Call (.Attribute o "pop" apos) [i] [] p) none pos.line X.env = pure false) :
    PS X (.Expr (.Call (.Attribute o "pop" apos) [i] [] p) pos) (tSt g ge W [] fun φ => bnd (mo φ) fun u => bnd (isLst u) fun _ => bnd (mi φ) fun w => bnd (dataOf w) fun y => bnd (asInt y) fun k => bnd (getBox u) fun c => match c with
      | .lst xs => if decide (0 ≤ k) && decide (k < xs.length) && small xs.length then bnd (setBox u (.lst (xs.eraseIdx k.toNat))) fun _ => ret (.nxt, φ) else bad
      | _ => bad) := by
  refine (ps_expr (pe_bm PySem.F.plainAttrs_list PySem.F.slot_list_pop PySem.F.type_list_pop mt_popAt ho (pa_cons hi pa_nil hs) hbase hfew hline hs rfl) hsw).weak fun D σ H ⟨S, φ, β, e, k, sl, q⟩ => ?_
  subst e
  refine step_sv (Qk := fun S => Ks g S σ [] D) grow_s k sl q fun u ob β1 S1 l1 k1 r1 sl1 q1 => ?_
  obtain ⟨nb, bx, rfl, eb, h1⟩ := out_getBox (out_bnd (out_bnd q1))
  rw [hx.K]
  cases hct : bx.ct with
  | lst xs0 =>
    rw [hct] at h1
    obtain ⟨p', vs, rfl, e3, hH, rr⟩ := lst_at k1 r1 eb hct
    refine ⟨.inl ⟨rfl, vs, SqL.of hH⟩, ?_⟩
    refine step_sv (Qk := fun S => Ks g S σ [] D) (S := S1) grow_s k1 sl1 h1 fun v x β2 S2 l2 k2 r2 sl2 q2 => ?_
    obtain ⟨y, rfl, q3⟩ := out_data (out_bnd q2)
    have ri := r2.d'
    cases y with
    | int kk =>
      cases ri
      obtain ⟨nb', bx2, en, eb2, q4⟩ := out_getBox (out_bnd (show Out (bnd (getBox (.box nb)) _ β2) _ _ from q3))
      cases en
      cases hct2 : bx2.ct with
      | lst xs =>
        rw [hct2] at q4
        obtain ⟨p2, vs2, ep, e32, hH2, rr2⟩ := lst_at k2 (r1.mono l2) eb2 hct2
        cases ep
        obtain ⟨hc, q5⟩ := out_if q4
        simp only [Bool.and_eq_true, decide_eq_true_eq] at hc
        obtain ⟨⟨c1, c2⟩, c3⟩ := hc
        obtain ⟨m, ct, em, eb3, q6⟩ := out_setBox (out_bnd q5)
        cases em
        obtain ⟨k3, l3⟩ := k2.put (ct' := .lst (xs.eraseIdx kk.toNat)) (o := .lst (vs2.eraseIdx kk.toNat)) e32 eb3 hH2 trivial trivial (fun _ z => by cases z) (fun _ z => by cases z) ⟨_, upd_same, reps_erase _ rr2⟩
        have c4 : xs.length ≤ 100000 := of_decide_eq_true c3
        have il : kk.toNat < vs2.length := by rw [rr2.len]; omega
        refine ⟨_, vs2, kk, kk.toNat, vs2[kk.toNat], rfl, rfl, hH2, by omega, by omega, ?_, List.getElem?_eq_getElem il, ?_⟩
        · unfold seqIndex?
          have h0 : ¬ kk < 0 := by omega
          simp only [if_neg h0]
          rw [if_pos]
          rw [Bool.and_eq_true, decide_eq_true_eq, decide_eq_true_eq, rr2.len]
          exact ⟨c1, c2⟩
        · have q6 : Ks g S2 σ [] D (.nxt, φ) _ := q6
          exact q6 _ σ l3 k3 (sl2.mono l3) (.refl _ _)
      | _ => rw [hct2] at q4; exact q4.elim
    | _ => exact (out_bnd q3).elim
  | _ => rw [hct] at h1; exact h1.elim
end
end VI

set_option maxHeartbeats 2000000
/-! V13g: d.setdefault(k, x). -/
namespace VI
open PySem L2 M
open LamX (CodeO TabB ExtN)
section
variable {g : G} {ge : GE} {X : Cx} {n : Nat} {W : WX} {a b c tg : Expr} {pos p : Pos}
theorem dict_at {nb : Nat} {bx : Bx} {S : Sx} {β : Sto} {u : V} {kvs : List (D × D)} (k : OkS g β S) (r : RepV g S u (.box nb)) (e : β[nb]? = some bx) (ec : bx.ct = .dic true kvs) : ∃ p vs, u = .ref p ∧ S.ι[nb]? = some p ∧ S.H p = some (.dT vs) ∧ RepT g.K g.cl S.F vs kvs := by
  cases r with
  | @box _ p' e3 =>
    obtain ⟨b', e4, hb⟩ := k.boxAt e3
    rw [e] at e4; cases e4
    have c0 : CtOk g S.F S.H p' bx.ct := by
      unfold BxOk at hb
      split at hb
      · exact hb.2
      · exact hb.mono (.refl _) k.same
    rw [ec] at c0
    obtain ⟨vs, h1, h2⟩ := c0
    exact ⟨p', vs, rfl, e3, h1, h2⟩
theorem se_setd {o e f : Expr} {apos cpos : Pos} {mo mk md : Sl → M VV} (hx : XOk g X n W) (ho : PE X o (tEv g ge W mo)) (hk : PE X e (tEv g ge W mk)) (hd : PE X f (tEv g ge W md)) (hbase : attributeBase o "setdefault" X.env (eval o X.env) = eval o X.env)
    (hfew : ((backTo cpos (starEach [e, f] X.env)).all (fun x => !x.1) && (backToKw cpos (keywordEach [] X.env)).all (fun x => x.1.isSome)
      && decide ([e, f].length + ([] : List Keyword).length + (if ([] : List Keyword).isEmpty then 0 else 1) < 30)) = true)
    (hline : (apos.endLine == cpos.line) = true) (hs : starEach [e, f] X.env = (false, eval e X.env) :: starEach [f] X.env) (hs2 : starEach [f] X.env = (false, eval f X.env) :: starEach [] X.env) (hp : (backTo cpos (starEach [f] X.env)).any (·.1) = false) :
    PE X (.Call (.Attribute o "setdefault" apos) [e, f] [] cpos) (tEv g ge W fun φ => bnd (mo φ) fun u => bnd (isDicT u) fun _ => bnd (mk φ) fun w => bnd (md φ) fun z => bnd (dataOf w) fun y => bnd (dataOf z) fun x => bnd (setdM u y x) fun r => ret (.d r)) := by
  refine (pe_bm PySem.F.plainAttrs_dict PySem.F.slot_dict_setdefault PySem.F.type_dict_setdefault (mt_setdT (by have := hx.room.un; omega)) ho (pa_cons hk (pa_cons hd pa_nil hs2) hs) hbase hfew hline hs hp).weak fun σ H Q ⟨S, φ, β, e, k, sl, q⟩ => ?_
  subst e
  refine step_v (Qk := fun S => Kv g S Q) grow_v k sl q fun u v β1 S1 l1 k1 r1 sl1 q1 => ?_
  obtain ⟨c, q2, dr⟩ := DR.get k1 r1 (out_bnd (out_bnd q1))
  cases c with
  | dic t kvs =>
    cases t with
    | false => exact q2.elim
    | true =>
      obtain ⟨pp, rr, rfl, h1, rk⟩ := dr.dicT' k1
      refine ⟨.inr (.inr (.inl ⟨rfl, .inr ⟨rr, h1⟩⟩)), ?_⟩
      refine step_v (Qk := fun S => Kv g S Q) (S := S1) grow_v k1 sl1 q2 fun i w β2 S2 l2 k2 r2 sl2 q3 => ?_
      refine step_v (Qk := fun S => Kv g S Q) (S := S2) grow_v k2 sl2 q3 fun z w2 β3 S3 l3 k3 r3 sl3 q4 => ?_
      obtain ⟨y, rfl, q5⟩ := out_data (out_bnd q4)
      obtain ⟨x, rfl, q6⟩ := out_data (out_bnd q5)
      obtain ⟨nb, bx, rfl, eb, q7⟩ := out_getBox (out_bnd (out_bnd q6))
      have ri := (r2.mono l3).d'
      have rx := r3.d'
      cases hct : bx.ct with
      | dic t kv3 =>
        cases t with
        | false => rw [hct] at q7; exact q7.elim
        | true =>
          rw [hct] at q7
          obtain ⟨p', vs, ep, e3, hH, rr3⟩ := dict_at k3 ((r1.mono l2).mono l3) eb hct
          cases ep
          cases hky : keyT y with
          | none =>
            have q7 : Out ((match keyT y with | some k => (if small kv3.length then (match lookT k kv3 with | some v => ret v | none => bnd (setBox (.box nb) (.dic true (putT k y x kv3))) fun _ => ret x) else bad) | none => bad : M D) β3) _ _ := q7
            rw [hky] at q7; exact q7.elim
          | some kk =>
            have q7 : Out ((match keyT y with | some k => (if small kv3.length then (match lookT k kv3 with | some v => ret v | none => bnd (setBox (.box nb) (.dic true (putT k y x kv3))) fun _ => ret x) else bad) | none => bad : M D) β3) _ _ := q7
            rw [hky] at q7
            obtain ⟨hsm, q8⟩ := out_if q7
            obtain ⟨b, rfl, hb2⟩ := keyT_V k3 (.of ri) hky
            refine ⟨pp, vs, kk, b, z, rfl, rfl, hH, hb2, by rw [rr3.len]; exact small_lt hsm, fun v0 hv => ?_, fun hn => ?_⟩
            · rcases rr3.look kk with ⟨e1, e2⟩ | ⟨v', x', e1, e2, rv⟩
              · rw [e1] at hv; cases hv
              · rw [e1] at hv; cases hv
                rw [e2] at q8
                have q8 : Kv g S3 Q (.d x') β3 := q8
                exact q8 _ S3 (.refl S3) k3 (.d rv)
            · rcases rr3.look kk with ⟨e1, e2⟩ | ⟨v', x', e1, e2, rv⟩
              · rw [e2] at q8
                obtain ⟨m, ct, em, eb3, q9⟩ := out_setBox (out_bnd q8)
                cases em
                rw [eb] at eb3
                cases eb3
                obtain ⟨k4, l4⟩ := k3.put (ct' := .dic true (putT kk y x kv3)) (o := .dT (putK vs kk z)) e3 eb hH trivial trivial (fun _ z => by cases z) (fun _ z => by cases z) ⟨_, upd_same, rr3.put hky rx⟩
                have q9 : Kv g S3 Q (.d x) _ := q9
                exact q9 _ _ l4 k4 (.d (rx.mono l4.F))
              · rw [e1] at hn; cases hn
      | _ => rw [hct] at q7; exact q7.elim
  | _ => exact q2.elim
end
end VI

set_option maxHeartbeats 2000000
/-! V13h: {k: v for ..}, the keys tuples. -/
namespace VI
open PySem L2 M
open LamX (CodeO TabB ExtN)
section
variable {g : G} {ge : GE} {X : Cx} {n : Nat} {W : WX} {pos p : Pos}
def dcF (mg : VV → Sl → M Sl) (mt : Sl → M Bool) (mk mv : Sl → M VV) (φ0 : Sl) (x : D) : M (Option (D × D)) :=
  noExc (bnd (mg (.d x) φ0) fun φ' => bnd (mt φ') fun k => if k then bnd (mk φ') fun u => bnd (mv φ') fun w => bnd (dataOf u) fun y => bnd (dataOf w) fun z => ret (some (y, z)) else ret none)
theorem dcomp_spec {ts own : List Nat} {mi : Sl → M (List D)} {mg : VV → Sl → M Sl} {mt : Sl → M Bool} {mk mv : Sl → M VV} (hts : ∀ i ∈ ts, i ∈ own) {σ : L2.St} {H : Hp} {Q : VK}
    (h : tFr g ge W (fun φ => bnd (mi φ) fun xs => bnd (dcGo (dcF mg mt mk mv (wipeS φ own)) xs []) fun kvs => ret (.dic true kvs)) σ H Q) :
    tDcT (tEvI g ge W mi) (gEv g ts mg) (tEvT g ge WF mt) (tEv g ge WF mk) (tEv g ge WF mv) own σ H Q := by
  obtain ⟨S, φ, β, e, k, sl, q⟩ := h
  subst e
  refine ⟨S, φ, β, rfl, k, sl, (out_bnd q).imp (fun xs β1 q1 S2 J l k2 wj => ?_) fun _ _ z => z⟩
  intro D hD
  have sl2 : SlOk g S2 (wipeS φ own) (L2.wipe σ own) := (sl.mono l).wipe own
  let Inv1 : Nat → Hp → Prop := fun i H => ∃ (T : Sx) (β' : Sto) (vs : List (List Key × V)) (acc : List (VI.D × VI.D)), H = upd T.H D (.dT vs) ∧ T.H D = none ∧ OkS g β' T ∧ Le S2 T ∧ RepT g.K g.cl T.F vs acc ∧ i ≤ xs.length ∧
    Out (dcGo (dcF mg mt mk mv (wipeS φ own)) (xs.drop i) acc β') (fun kvs β'' => Kf g S Q (.dic true kvs) β'') (fun _ _ => True)
  have start : Inv1 0 (upd S2.H D (.dT [])) := ⟨S2, β1, [], [], rfl, hD, k2, .refl S2, .nil, Nat.zero_le _, by
    rw [List.drop_zero]
    exact (out_bnd q1).imp (fun ys β'' z => z) fun _ _ _ => trivial⟩
  refine ⟨fun i m H => m = xs.length - i ∧ Inv1 i H, ⟨xs.length, by simp, start⟩, ?_⟩
  rintro i m H ⟨rfl, T, β', vs, acc, rfl, hT, kT, lT, ra, hle, qT⟩
  have kh : OkS g β' (T.hid D (.dT vs)) := kT.hid hT
  have lh : Le S2 (T.hid D (.dT vs)) := lT.trans (Le.hid hT)
  have wj' := wj.2 _ _ lh.F kh
  by_cases hi : i = xs.length
  · subst hi
    refine .inl ⟨wj'.1, ?_⟩
    rw [List.drop_length] at qT
    have qT : Kf g S Q (.dic true acc) β' := qT
    exact qT D (.dT vs) T (l.trans lT) kT hT ⟨vs, rfl, ra⟩
  · have hi : i < xs.length := by omega
    have hx : xs[i]? = some xs[i] := List.getElem?_eq_getElem hi
    obtain ⟨hgo, hy⟩ := wj'.2 i _ hx
    refine .inr ⟨hgo, Inv1 (i + 1), fun H' z => ⟨xs.length - (i + 1), by omega, rfl, z⟩, fun x H' y => ?_⟩
    obtain ⟨S4, l4, k4, eH4, rx⟩ := hy x H' y
    subst eH4
    rw [List.drop_eq_getElem_cons hi] at qT
    simp only [dcGo] at qT
    have l24 : Le S2 S4 := lh.trans l4
    have keepD : ∀ {S5 : Sx}, Le (T.hid D (.dT vs)) S5 → S5.H D = some (.dT vs) ∧ S5.F D = none ∧ D ∉ S5.ι := fun {S5} l5 => Le.hidKeep kT hT (fun _ z => by cases z) (fun _ z => by cases z) (fun _ z => by cases z) l5
    have qb := out_noExc (Qe' := fun _ _ => False) (out_bnd qT)
    refine ⟨S4, wipeS φ own, β', .d xs[i], rfl, k4, sl2.mono l24, .d rx, (out_bnd qb).imp (fun φ' β5 q5 S5 σ5 l5 k5 sl5 w5 => ?_) fun _ _ z => z⟩
    refine ⟨?_, ?_⟩
    · have h2 : L2.wipe (L2.wipe σ own) own = L2.wipe σ own := by
        apply List.ext_getElem?
        intro j
        rw [wipe_get, wipe_get]
        split
        · cases σ[j]? <;> rfl
        · rfl
      rw [w5.wipe hts, h2]
    refine ⟨S5, φ', β5, rfl, k5, sl5, (out_bnd q5).imp (fun kk β6 q6 S6 l6 k6 => ?_) fun _ _ z => z.elim⟩
    have l46 : Le (T.hid D (.dT vs)) S6 := (l4.trans l5).trans l6
    cases kk with
    | false =>
      obtain ⟨d1, d2, d3⟩ := keepD l46
      have e : upd (S6.era D).H D (.dT vs) = S6.H := upd_back d1
      show Inv1 (i + 1) S6.H
      rw [← e]
      exact ⟨S6.era D, β6, vs, acc, rfl, if_pos rfl, k6.eraO d2 d3 d1 trivial (fun _ z => by cases z), (lh.trans l46).era hD, ra.mono l46.F, hi, q6⟩
    | true =>
      have q6 := out_if' (c := true) rfl q6
      refine ⟨S6, φ', β6, rfl, k6, sl5.mono l6, (out_bnd q6).imp (fun v β7 q7 u S7 l7 k7 r7 => ?_) fun _ _ z => z.elim⟩
      refine ⟨S7, φ', β7, rfl, k7, (sl5.mono l6).mono l7, (out_bnd q7).imp (fun w β8 q8 u2 S8 l8 k8 r8 => ?_) fun _ _ z => z.elim⟩
      obtain ⟨y, rfl, q9⟩ := out_data (out_bnd q8)
      obtain ⟨z, rfl, q10⟩ := out_data (out_bnd q9)
      have l48 := (l46.trans l7).trans l8
      obtain ⟨d1, d2, d3⟩ := keepD l48
      cases hky : keyT y with
      | none =>
        have q10 : Out ((match keyT y with | some k => if small acc.length then dcGo (dcF mg mt mk mv (wipeS φ own)) (xs.drop (i + 1)) (putT k y z acc) else bad | none => bad : M (List (VI.D × VI.D))) β8) (fun kvs β'' => Kf g S Q (.dic true kvs) β'') (fun _ _ => True) := q10
        rw [hky] at q10; exact q10.elim
      | some kk =>
        have q10 : Out ((match keyT y with | some k => if small acc.length then dcGo (dcF mg mt mk mv (wipeS φ own)) (xs.drop (i + 1)) (putT k y z acc) else bad | none => bad : M (List (VI.D × VI.D))) β8) (fun kvs β'' => Kf g S Q (.dic true kvs) β'') (fun _ _ => True) := q10
        rw [hky] at q10
        obtain ⟨hsm, q11⟩ := out_if q10
        obtain ⟨b, rfl, hb2⟩ := keyT_V k8 (.of (r7.mono l8).d') hky
        exact ⟨vs, kk, b, rfl, hb2, d1, by rw [ra.len]; exact small_lt hsm, S8.era D, β8, putK vs kk u2, putT kk y z acc, era_upd.symm, if_pos rfl, k8.eraO d2 d3 d1 trivial (fun _ z => by cases z), (lh.trans l48).era hD, (ra.mono l48.F).put hky r8.d', hi, q11⟩
theorem fr_dcomp {tg iter kx vx : Expr} {ifs : List Expr} {scope : Scope} {own : List (Str × Nat)} {ts : List Nat} {mi : Sl → M (List D)} {mg : VV → Sl → M Sl} {mt : Sl → M Bool} {mk mv : Sl → M VV} (hx : XOk g X n W) (hts : ∀ i ∈ ts, i ∈ own.map (·.2))
    (hi : PI X tg iter (tEvI g ge W mi)) (ok : BlkOk X.N X.env.scope scope own)
    (hg : ∀ (s : Shared) (H : Hp) (C : Addr) (cl : List (Str × Addr)) (fp : List Addr), PG (X.blk s H scope (compEnvC scope cl C X.env) fp) tg (gEv g ts mg))
    (ht : ∀ (s : Shared) (H : Hp) (C : Addr) (cl : List (Str × Addr)) (fp : List Addr), PTs (X.blk s H scope (compEnvC scope cl C X.env) fp) ifs (tEvT g ge WF mt))
    (hk : ∀ (s : Shared) (H : Hp) (C : Addr) (cl : List (Str × Addr)) (fp : List Addr), PE (X.blk s H scope (compEnvC scope cl C X.env) fp) kx (tEv g ge WF mk))
    (hv : ∀ (s : Shared) (H : Hp) (C : Addr) (cl : List (Str × Addr)) (fp : List Addr), PE (X.blk s H scope (compEnvC scope cl C X.env) fp) vx (tEv g ge WF mv)) (hs : ∀ x, foldedSetIterable iter X.env x = pure x) :
    PE X (.DictComp kx vx [⟨tg, iter, ifs, 0⟩] scope pos) (tFr g ge W fun φ => bnd (mi φ) fun xs => bnd (dcGo (dcF mg mt mk mv (wipeS φ (own.map (·.2)))) xs []) fun kvs => ret (.dic true kvs)) :=
  (pe_dcT (by have := hx.room.un; omega) hx.calm hx.nd hi ok hg ht hk hv hs).weak fun σ H Q h => dcomp_spec hts h
end
end VI

set_option maxHeartbeats 2000000
/-! V13i: locked dicts as data; lists of boxes; list(d.values()). -/
namespace VI
open PySem L2 M
open LamX (CodeO TabB ExtN)
section
variable {g : G} {ge : GE} {X : Cx} {n : Nat} {W : WX} {a b c tg : Expr} {pos p : Pos}
theorem upd_upd {H : Hp} {p : Addr} {o u : HO} : upd (upd H p o) p u = upd H p u := by
  funext b
  by_cases hb : b = p
  · subst hb; rw [upd_same, upd_same]
  · rw [upd_ne hb, upd_ne hb, upd_ne hb]
/-- what is new is a locked dict, data -/
theorem se_fzL {m : Sl → M Ct} (h : PE X a (tFr g ge W m)) : PE X a (tEv g ge W fun φ => bnd (m φ) fun c => match c with | .dic t kvs => ret (.d (.fdic t kvs)) | _ => bad) := by
  refine (pe_post h).weak fun σ H Q ⟨S, φ, β, e, k, sl, q⟩ => ?_
  refine ⟨S, φ, β, e, k, sl, (out_bnd q).imp (fun c β' q p o S' l k' hp r => ?_) fun _ _ z => z⟩
  cases c with
  | dic t kvs =>
    have q : Kv g S Q (.d (.fdic t kvs)) β' := q
    refine .inl ⟨p, o, rfl, upd_same, ?_, fun od => ?_⟩
    · cases t with
      | false => obtain ⟨vs, rfl, _⟩ := r; trivial
      | true => obtain ⟨vs, rfl, _⟩ := r; trivial
    · rw [upd_upd]
      refine q (.ref p) (S'.add p (.frz od o)) (l.trans (Le.add k' hp)) (k'.add hp (fun _ z => by cases z) (fun _ z => by cases z)) (.d ?_)
      have e : Same S'.F (S'.add p (.frz od o)).F := (Le.add (o := .frz od o) k' hp).F
      cases t with
      | false => obtain ⟨vs, rfl, r⟩ := r; exact .fdic upd_same (r.mono e)
      | true => obtain ⟨vs, rfl, r⟩ := r; exact .fdicT upd_same (r.mono e)
  | _ => exact q.elim
/-- a dict that is a box becomes locked data -/
theorem se_frzL {i : Nat} {x : Str} (h : PE X (.Name x pos) (tVar i)) : PE X (.Name x pos) (tEv g ge W fun φ => match φ[i]? with | some (some v) => bnd (freezeL v) fun x => ret (.d x) | _ => bad) := by
  refine (pe_post h).weak fun σ H Q ⟨S, φ, β, e, k, sl, q⟩ => ?_
  subst e
  cases e : φ[i]? with
  | none => simp only [e] at q; exact q.elim
  | some o =>
    cases o with
    | none => simp only [e] at q; exact q.elim
    | some v =>
      simp only [e] at q
      obtain ⟨u, e1, r⟩ := sl.at_ i v e
      refine ⟨u, e1, ?_⟩
      obtain ⟨t, kvs, z⟩ := freezeL_ok k r (out_bnd q)
      rcases z with ⟨β2, q2, k2, r2⟩ | ⟨pp, o, rfl, ho, mu, q2⟩
      · have q2 : Kv g S Q (.d (.fdic t kvs)) β2 := q2
        exact .inr (q2 u S (.refl S) k2 (.d r2))
      · refine .inl ⟨pp, o, rfl, ho, mu, fun od => ?_⟩
        obtain ⟨S2, β2, q3, l2, k2, eH, r2⟩ := q2 od
        have q3 : Kv g S Q (.d (.fdic t kvs)) β2 := q3
        rw [← eH]
        exact q3 _ S2 l2 k2 (.d r2)
/-! ### list(d.values()) -/
theorem lvals_ok {S : Sx} {β : Sto} {u : V} {c : D} {xs : List D} (k : OkS g β S) (d : DR g S u c) (h : lvalsD c = some xs) : ∃ a vs, u = .ref a ∧ ValsAt S.H a vs ∧ vs.length ≤ sizeLine ∧ Reps g.K g.cl S.F vs xs := by
  have sm : ∀ {kvs : List (D × D)}, (if small kvs.length then some (kvs.map (·.2)) else none) = some xs → xs = kvs.map (·.2) ∧ kvs.length ≤ sizeLine := fun {kvs} e => by
    split at e
    · rename_i hs
      exact ⟨(Option.some.inj e).symm, Nat.le_of_lt (small_lt hs)⟩
    · cases e
  cases c with
  | dic t kvs =>
    obtain ⟨rfl, hz⟩ := sm (show (if small kvs.length then some (kvs.map (·.2)) else none) = some xs from h)
    cases t with
    | false => obtain ⟨pp, rr, e1, h1, rk⟩ := d.dic' k; exact ⟨pp, _, e1, .inl ⟨rr, .inl h1, rfl⟩, by rw [List.length_map, rk.len]; exact hz, rk.vals⟩
    | true => obtain ⟨pp, rr, e1, h1, rk⟩ := d.dicT' k; exact ⟨pp, _, e1, .inr ⟨rr, .inl h1, rfl⟩, by rw [List.length_map, rk.len]; exact hz, rk.vals⟩
  | fdic t kvs =>
    obtain ⟨rfl, hz⟩ := sm (show (if small kvs.length then some (kvs.map (·.2)) else none) = some xs from h)
    cases t with
    | false => obtain ⟨pp, od, rr, e1, h1, rk⟩ := d.fdic' k; exact ⟨pp, _, e1, .inl ⟨rr, .inr ⟨od, h1⟩, rfl⟩, by rw [List.length_map, rk.len]; exact hz, rk.vals⟩
    | true => obtain ⟨pp, od, rr, e1, h1, rk⟩ := d.fdicT' k; exact ⟨pp, _, e1, .inr ⟨rr, .inr ⟨od, h1⟩, rfl⟩, by rw [List.length_map, rk.len]; exact hz, rk.vals⟩
  | _ => cases h
theorem fr_lvals {x : Str} {e : Expr} {apos cpos : Pos} {me : Sl → M VV} (hx : XOk g X n W) (hxn : x = "list") (hg : Gl X x) (hm : g.mg x = none) (he : PE X e (tEv g ge W me)) (hbase : attributeBase e "values" X.env (eval e X.env) = eval e X.env) (hline : (apos.endLine == cpos.line) = true) :
    PE X (.Call (.Name x p) [.Call (.Attribute e "values" apos) [] [] cpos] [] pos) (tFr g ge W fun φ => bnd (me φ) fun u => bnd (deref u) fun c => bnd (M.opt (lvalsD c)) fun xs => ret (.lst xs)) := by
  subst hxn
  refine (pe_listV hx.calm hg (by rw [hx.mg]; exact hm) he hbase hline).weak fun σ H Q ⟨S, φ, β, e, k, sl, q⟩ => ?_
  subst e
  refine step_v (Qk := fun S => Kf g S Q) grow_f k sl q fun u v β1 S1 l1 k1 r1 sl1 q1 => ?_
  obtain ⟨c, q2, d⟩ := DR.get k1 r1 (out_bnd q1)
  obtain ⟨xs, en, q3⟩ := out_opt (out_bnd q2)
  obtain ⟨a, vs, rfl, va, hz, rr⟩ := lvals_ok k1 d en
  have q3 : Kf g S1 Q (.lst xs) β1 := q3
  exact ⟨a, vs, rfl, va, hz, fun p hp => q3 p (.lst vs) S1 (.refl S1) k1 hp ⟨vs, rfl, rr⟩⟩
/-! ### lists of boxes -/
def cbF (mg : VV → Sl → M Sl) (me : Sl → M VV) (φ0 : Sl) (x : D) : M Nat := noExc (bnd (mg (.d x) φ0) fun φ' => bnd (me φ') boxOf)
/-- addresses of boxes -/
def Bxs (ι : List Addr) (qs : List Addr) (ns : List Nat) : Prop := qs.length = ns.length ∧ ∀ (i n : Nat), ns[i]? = some n → ∃ q, qs[i]? = some q ∧ ι[n]? = some q
theorem Bxs.nil (ι : List Addr) : Bxs ι [] [] := ⟨rfl, fun i n h => by simp at h⟩
theorem Bxs.mono {S S' : Sx} (l : Le S S') {qs : List Addr} {ns : List Nat} (h : Bxs S.ι qs ns) : Bxs S'.ι qs ns := ⟨h.1, fun i n e => let ⟨q, a, b⟩ := h.2 i n e; ⟨q, a, l.ιget b⟩⟩
theorem Bxs.snoc {ι : List Addr} {qs : List Addr} {ns : List Nat} (h : Bxs ι qs ns) {q : Addr} {m : Nat} (e : ι[m]? = some q) : Bxs ι (qs ++ [q]) (ns ++ [m]) := by
  refine ⟨by simp [h.1], fun i n hn => ?_⟩
  by_cases hi : i < ns.length
  · rw [List.getElem?_append_left hi] at hn
    obtain ⟨p, a, b⟩ := h.2 i n hn
    exact ⟨p, by rw [List.getElem?_append_left (by rw [h.1]; exact hi)]; exact a, b⟩
  · rw [List.getElem?_append_right (by omega)] at hn
    have : i - ns.length = 0 := by
      have := (List.getElem?_eq_some_iff.mp hn).1
      simp at this; omega
    rw [this] at hn
    simp at hn
    subst hn
    exact ⟨q, by rw [List.getElem?_append_right (by rw [h.1]; omega), h.1, this]; rfl, e⟩
theorem out_box {S : Sx} {β : Sto} {v : VV} {u : V} {Qk : Nat → Sto → Prop} {Qe : Exc → Sto → Prop} (r : RepV g S u v) (h : Out (boxOf v β) Qk Qe) : ∃ n q, v = .box n ∧ u = .ref q ∧ S.ι[n]? = some q ∧ Qk n β := by
  cases r with
  | d _ => exact h.elim
  | @box n q e => exact ⟨n, q, rfl, rfl, e, h⟩
  | clo _ _ => exact h.elim
  | bxs _ => exact h.elim
theorem compB_spec {ts own : List Nat} {mi : Sl → M (List D)} {mg : VV → Sl → M Sl} {me : Sl → M VV} (hts : ∀ i ∈ ts, i ∈ own) {σ : L2.St} {H : Hp} {Q : VK}
    (h : tEv g ge W (fun φ => bnd (mi φ) fun xs => bnd (compGoB (cbF mg me (wipeS φ own)) xs) fun ns => ret (.bxs ns)) σ H Q) :
    tLc (tEvI g ge W mi) (gEv g ts mg) (tEvT g ge WF fun _ => ret true) (tEv g ge WF me) own σ H fun x H1 => (∃ d u, x = V.ref d ∧ H1 d = some u ∧ Mut (some u) ∧ ∀ od, Q x (upd H1 d (.frz od u))) ∨ Q x H1 := by
  obtain ⟨S, φ, β, e, k, sl, q⟩ := h
  subst e
  refine ⟨S, φ, β, rfl, k, sl, (out_bnd q).imp (fun xs β1 q1 S2 J l k2 wj => ?_) fun _ _ z => z⟩
  intro D hD
  have sl2 : SlOk g S2 (wipeS φ own) (L2.wipe σ own) := (sl.mono l).wipe own
  let Inv1 : Nat → Hp → Prop := fun i H => ∃ (T : Sx) (β' : Sto) (qs : List Addr) (acc : List Nat), H = upd T.H D (.lst (qs.map V.ref)) ∧ T.H D = none ∧ OkS g β' T ∧ Le S2 T ∧ Bxs T.ι qs acc ∧ qs.length ≤ i ∧ i ≤ xs.length ∧
    Out (compGoB (cbF mg me (wipeS φ own)) (xs.drop i) β') (fun ys β'' => Kv g S Q (.bxs (acc ++ ys)) β'') (fun _ _ => True)
  have start : Inv1 0 (upd S2.H D (.lst [])) := ⟨S2, β1, [], [], rfl, hD, k2, .refl S2, .nil _, Nat.le.refl, Nat.zero_le _, by
    rw [List.drop_zero]
    exact (out_bnd q1).imp (fun ys β'' z => z) fun _ _ _ => trivial⟩
  refine ⟨fun i m H => m = xs.length - i ∧ Inv1 i H, ⟨xs.length, by simp, start⟩, ?_⟩
  rintro i m H ⟨rfl, T, β', qs, acc, rfl, hT, kT, lT, ra, hlen, hle, qT⟩
  have kh : OkS g β' (T.hid D (.lst (qs.map V.ref))) := kT.hid hT
  have lh : Le S2 (T.hid D (.lst (qs.map V.ref))) := lT.trans (Le.hid hT)
  have wj' := wj.2 _ _ lh.F kh
  by_cases hi : i = xs.length
  · subst hi
    refine .inl ⟨wj'.1, ?_⟩
    rw [List.drop_length] at qT
    have qT : Kv g S Q (.bxs (acc ++ [])) β' := qT
    rw [List.append_nil] at qT
    refine .inl ⟨D, _, rfl, upd_same, trivial, fun od => ?_⟩
    rw [upd_upd]
    refine qT (.ref D) (T.hid D (.frz od (.lst (qs.map V.ref)))) ((l.trans lT).trans (Le.hid hT)) (kT.hid hT) (.bxs ⟨od, qs, upd_same, kT.noF hT, fun z => kT.tracked D z hT, ra.1, ra.2⟩)
  · have hi : i < xs.length := by omega
    have hx : xs[i]? = some xs[i] := List.getElem?_eq_getElem hi
    obtain ⟨hgo, hy⟩ := wj'.2 i _ hx
    refine .inr ⟨hgo, Inv1 (i + 1), fun H' z => ⟨xs.length - (i + 1), by omega, rfl, z⟩, fun x H' y => ?_⟩
    obtain ⟨S4, l4, k4, eH4, rx⟩ := hy x H' y
    subst eH4
    rw [List.drop_eq_getElem_cons hi] at qT
    simp only [compGoB] at qT
    have qb := out_noExc (Qe' := fun _ _ => False) (out_bnd qT)
    have l24 : Le S2 S4 := lh.trans l4
    have keepD : ∀ {S5 : Sx}, Le (T.hid D (.lst (qs.map V.ref))) S5 → S5.H D = some (.lst (qs.map V.ref)) ∧ S5.F D = none ∧ D ∉ S5.ι := fun {S5} l5 => Le.hidKeep kT hT (fun _ z => by cases z) (fun _ z => by cases z) (fun _ z => by cases z) l5
    refine ⟨S4, wipeS φ own, β', .d xs[i], rfl, k4, sl2.mono l24, .d rx, (out_bnd qb).imp (fun φ' β5 q5 S5 σ5 l5 k5 sl5 w5 => ?_) fun _ _ z => z⟩
    refine ⟨?_, ?_⟩
    · have h2 : L2.wipe (L2.wipe σ own) own = L2.wipe σ own := by
        apply List.ext_getElem?
        intro j
        rw [wipe_get, wipe_get]
        split
        · cases σ[j]? <;> rfl
        · rfl
      rw [w5.wipe hts, h2]
    refine ⟨S5, φ', β5, rfl, k5, sl5, ?_⟩
    intro S6 l6 k6
    refine ⟨S6, φ', β5, rfl, k6, sl5.mono l6, (out_bnd q5).imp (fun v β7 q7 u S7 l7 k7 r7 => ?_) fun _ _ z => z.elim⟩
    obtain ⟨m, q0, rfl, rfl, e0, q8⟩ := out_box r7 q7
    have l47 : Le (T.hid D (.lst (qs.map V.ref))) S7 := ((l4.trans l5).trans l6).trans l7
    obtain ⟨d1, d2, d3⟩ := keepD l47
    refine ⟨qs.map V.ref, d1, ?_, S7.era D, β7, qs ++ [q0], acc ++ [m], ?_, if_pos rfl, k7.eraO d2 d3 d1 trivial (fun _ z => by cases z), (lh.trans l47).era hD, ?_, by simp; omega, hi, (out_bnd q8).imp (fun r β8 q9 => ?_) fun _ _ _ => trivial⟩
    · rw [List.length_map]
      have := wj.1
      omega
    · rw [List.map_append]
      exact era_upd.symm
    · exact ((ra.mono (Le.hid hT)).mono l47).snoc e0
    · rw [List.append_assoc]
      exact q9
theorem se_compB {tg iter elt : Expr} {scope : Scope} {own : List (Str × Nat)} {ts : List Nat} {mi : Sl → M (List D)} {mg : VV → Sl → M Sl} {me : Sl → M VV} (hx : XOk g X n W) (hts : ∀ i ∈ ts, i ∈ own.map (·.2))
    (hi : PI X tg iter (tEvI g ge W mi)) (ok : BlkOk X.N X.env.scope scope own)
    (hg : ∀ (s : Shared) (H : Hp) (C : Addr) (cl : List (Str × Addr)) (fp : List Addr), PG (X.blk s H scope (compEnvC scope cl C X.env) fp) tg (gEv g ts mg))
    (he : ∀ (s : Shared) (H : Hp) (C : Addr) (cl : List (Str × Addr)) (fp : List Addr), PE (X.blk s H scope (compEnvC scope cl C X.env) fp) elt (tEv g ge WF me)) (hs : ∀ x, foldedSetIterable iter X.env x = pure x) :
    PE X (.ListComp elt [⟨tg, iter, [], 0⟩] scope pos) (tEv g ge W fun φ => bnd (mi φ) fun xs => bnd (compGoB (cbF mg me (wipeS φ (own.map (·.2)))) xs) fun ns => ret (.bxs ns)) :=
  (pe_post (pe_lc hx.calm hx.nd hi ok hg (fun _ _ _ _ _ => st_tt) he hs)).weak fun σ H Q h => compB_spec hts h
theorem bxs_at {S : Sx} {φ : Sl} {σ : L2.St} {i : Nat} {ns : List Nat} (sl : SlOk g S φ σ) (e : φ[i]? = some (some (.bxs ns))) : ∃ p, σ[i]? = some (some (.ref p)) ∧ BxsAt S p ns := by
  obtain ⟨u, e1, r⟩ := sl.at_ i _ e
  cases r with
  | bxs h => exact ⟨_, e1, h⟩
theorem bxs_ix {qs : List Addr} {ns : List Nat} {ι : List Addr} {k : Int} {m : Nat} (h1 : qs.length = ns.length) (h2 : ∀ (i n : Nat), ns[i]? = some n → ∃ q, qs[i]? = some q ∧ ι[n]? = some q) (e : atI ns k = some m) : ∃ q, atI (qs.map V.ref) k = some (.ref q) ∧ ι[m]? = some q := by
  unfold atI at e ⊢
  rw [List.length_map, h1]
  cases hj : ixN ns.length k with
  | none => rw [hj] at e; cases e
  | some j =>
    rw [hj] at e
    obtain ⟨q, a, b⟩ := h2 j m e
    refine ⟨q, ?_, b⟩
    show (qs.map V.ref)[j]? = _
    rw [List.getElem?_map, a]; rfl
theorem se_ixB {i : Nat} {x : Str} {me : Sl → M VV} (hx : XOk g X n W) (h : PE X (.Name x p) (tVar i)) (he : PE X b (tEv g ge W me)) (hs : PlainIx b) :
    PE X (.Subscript (.Name x p) b pos) (tEv g ge W fun φ => match φ[i]? with | some (some (.bxs ns)) => bnd (me φ) fun w => bnd (dataOf w) fun y => bnd (asInt y) fun k => bnd (M.opt (atI ns k)) fun n => ret (.box n) | _ => bad) := by
  refine (pe_ix ix_list h he hs).weak fun σ H Q ⟨S, φ, β, e, k, sl, q⟩ => ?_
  subst e
  cases e : φ[i]? with
  | none => simp only [e] at q; exact q.elim
  | some o =>
    cases o with
    | none => simp only [e] at q; exact q.elim
    | some v =>
      cases v with
      | bxs ns =>
        simp only [e] at q
        obtain ⟨pp, e1, hb⟩ := bxs_at sl e
        refine ⟨_, e1, ?_⟩
        refine step_v (Qk := fun S => Kv g S Q) grow_v k sl q fun u w β1 S1 l1 k1 r1 sl1 q1 => ?_
        obtain ⟨y, rfl, q2⟩ := out_data (out_bnd q1)
        have q3 := out_bnd q2
        cases y with
        | int kk =>
          have rr := r1.d'
          cases rr
          have q3 : Out (bnd (M.opt (atI ns kk)) (fun n => ret (VV.box n)) β1) (Kv g S1 Q) (Ke g ge S1 W σ) := q3
          obtain ⟨m, em, q4⟩ := out_opt (out_bnd q3)
          obtain ⟨od, qs, h1, _, _, h4, h5⟩ := hb.mono l1
          obtain ⟨q0, a1, a2⟩ := bxs_ix h4 h5 em
          have q4 : Kv g S1 Q (.box m) β1 := q4
          exact ⟨pp, _, kk, _, rfl, rfl, .inl (.inr ⟨od, h1⟩), a1, q4 _ S1 (.refl S1) k1 (.box a2)⟩
        | _ => exact q3.elim
      | _ => simp only [e] at q; exact q.elim
theorem se_lenB {i : Nat} {x y : Str} {p' : Pos} (hx : XOk g X n W) (hxn : x = "len") (hg : Gl X x) (hm : g.mg x = none) (h : PE X (.Name y p') (tVar i)) (he : starEach [.Name y p'] X.env = (false, eval (.Name y p') X.env) :: starEach [] X.env) :
    PE X (.Call (.Name x p) [.Name y p'] [] pos) (tEv g ge W fun φ => match φ[i]? with | some (some (.bxs ns)) => ret (.d (.int ns.length)) | _ => bad) := by
  have hm' : X.mg x = none := by rw [hx.mg]; exact hm
  subst hxn
  refine (pe_callB call_len_seq hg hm' (by decide +kernel) (pa_cons h pa_nil he) (by decide) (by decide) he rfl).weak fun σ H Q ⟨S, φ, β, e, k, sl, q⟩ => ?_
  subst e
  cases e : φ[i]? with
  | none => simp only [e] at q; exact q.elim
  | some o =>
    cases o with
    | none => simp only [e] at q; exact q.elim
    | some v =>
      cases v with
      | bxs ns =>
        simp only [e] at q
        obtain ⟨pp, e1, od, qs, h1, _, _, h4, _⟩ := bxs_at sl e
        have q : Kv g S Q (.d (.int ns.length)) β := q
        refine ⟨_, e1, ?_⟩
        refine ⟨pp, qs.map V.ref, rfl, .inl (.inl (.inr ⟨od, h1⟩)), ?_⟩
        rw [List.length_map, h4]
        exact q _ S (.refl S) k (.d (.int _))
      | _ => simp only [e] at q; exact q.elim
/-! ### a call without arguments -/
theorem _root_.L2.pe_callS0 {CX : CXT} {k : Nat} {f : Addr} {fd : FuncData} {ps : List Str} {sp : Sp} {E : L2.St → XK} {x : Str} (F : FnOk X.prog X.w X.K X.mg X.base CX k f fd ps sp) (hr : Room k X.A) (hg : Gl X x) (hm : X.mg x = some (.ref f)) (hk : PySem.W.keepIn X.K (.ref f) = true) (hb : Binds X.K fd ps [])
    (hx : ∀ σ, PassesAt CX X σ (E σ)) (hdb : (x == ("__debug__" : Str)) = false) : PE X (.Call (.Name x p) [] [] pos) (fun σ H Q => sp [] H Q (E σ)) := by
  refine ⟨fun pins s σ H Q I h => ?_⟩
  refine wpAny_Call_Name_kw (ld_glob I hg hm ?_ hdb)
  exact PySem.W.callWith_K0 I.kIn hk (run_fnS (us := []) F hr hb (hx σ) I .nil h)
theorem se_call0 {f : Nat} {F : FDef} {x : Str} (hx : XOk g X n W) (hF : g.T.fs[f]? = some F) (o : FOk g f F) (Fn : FnG g ge n f) (hg : Gl X x) (hm : g.mg x = some (.ref (g.fi f).ad)) (hd : (x == ("__debug__" : Str)) = false) :
    PE X (.Call (.Name x p) [] [] pos) (tEv g ge W fun φ => bnd (ret []) fun vs => callA g.T n (.f f) vs) := by
  refine (pe_callS0 (E := WE W) (hx.fn Fn) (hx.room.mono (by omega)) hg (by rw [hx.mg]; exact hm) (by rw [hx.K]; exact o.keep) (by rw [hx.K]; exact o.binds) (passAt hx.takes) hd).weak fun σ H Q ⟨S, φ, β, e, k, sl, q⟩ => ?_
  subst e
  exact call_sp hF o k .nil q
end
end VI

set_option maxHeartbeats 2000000
/-! VLa: pinned things, known for a while. -/
namespace VI
open PySem L2 M
open LamX (CodeO TabB ExtN)
def AddR (R H : Hp) : Hp := fun b => match R b with | some o => some o | none => H b
def DelR (R H : Hp) : Hp := fun b => match R b with | some _ => none | none => H b
theorem add_in {R H : Hp} {b : Addr} {o : HO} (h : R b = some o) : AddR R H b = some o := by unfold AddR; rw [h]
theorem add_out {R H : Hp} {b : Addr} (h : R b = none) : AddR R H b = H b := by unfold AddR; rw [h]
theorem del_in {R H : Hp} {b : Addr} {o : HO} (h : R b = some o) : DelR R H b = none := by unfold DelR; rw [h]
theorem del_out {R H : Hp} {b : Addr} (h : R b = none) : DelR R H b = H b := by unfold DelR; rw [h]
/-- pinned things that stand at h -/
def Pin (R : Hp) (h : Heap) : Prop := ∀ b o, R b = some o → ∃ ob, o = pinO b ob ∧ h.get? b = some ob
def Apart (R H : Hp) : Prop := ∀ b o, R b = some o → H b = none
def Within (R H : Hp) : Prop := ∀ b o, R b = some o → H b = some o
theorem add_keep {R H : Hp} (d : Apart R H) {b : Addr} {o : HO} (h : H b = some o) : AddR R H b = some o := by
  cases q : R b with
  | none => rw [add_out q]; exact h
  | some u => rw [d b u q] at h; cases h
theorem del_keep {R H : Hp} {h : Heap} (p : Pin R h) (d : Within R H) {b : Addr} {o : HO} (e : H b = some o) (n : ∀ ob, o ≠ pinO b ob) : DelR R H b = some o := by
  cases q : R b with
  | none => rw [del_out q]; exact e
  | some u =>
    obtain ⟨ob, e1, _⟩ := p b u q
    rw [d b u q] at e
    cases e
    exact absurd e1 (n ob)
theorem pin_ok {P : Program} {w : World} {H : Hp} {h : Heap} {b : Addr} {ob : Obj} (e : h.get? b = some ob) : ObjOk P w H h b (pinO b ob) :=
  ⟨e, e, ⟨ob, e⟩, fun h1 h2 a st => st ob a⟩
theorem hok_add {P : Program} {w : World} {R H : Hp} {h : Heap} (k : HOk P w H h) (p : Pin R h) (d : Apart R H) : HOk P w (AddR R H) h := fun b o e => by
  cases q : R b with
  | some u =>
    rw [add_in q] at e; cases e
    obtain ⟨ob, rfl, e1⟩ := p b o q
    exact pin_ok e1
  | none =>
    rw [add_out q] at e
    exact (k b o e).stay (fun _ _ _ z => z) (fun c z => add_keep d z) fun c xs z => add_keep d z
theorem hok_del {P : Program} {w : World} {R H : Hp} {h h0 : Heap} (k : HOk P w H h) (p : Pin R h0) (d : Within R H) : HOk P w (DelR R H) h := fun b o e => by
  cases q : R b with
  | some u => rw [del_in q] at e; cases e
  | none =>
    rw [del_out q] at e
    exact (k b o e).stay (fun _ _ _ z => z) (fun c z => del_keep p d z fun _ y => by cases y) fun c xs z => del_keep p d z fun _ y => by cases y
theorem env0_add {P : Program} {w : World} {K : PySem.W.Frag} {mg : Str → Option Value} {base : Heap} {A : Around} {outer : List Env} {s : Shared} {R H : Hp} (e : Env0 P w K mg base A outer s H) (p : Pin R s.heap) (d : Apart R H) (hb : ∀ b o, base.get? b = some o → R b = none) (hf : ∀ b ∈ frs outer, R b = none) :
    Env0 P w K mg base A outer s (AddR R H) :=
  ⟨e.frames, e.mod, fun b o q => ⟨(e.bs b o q).1, by rw [add_out (hb b o q)]; exact (e.bs b o q).2⟩, e.bsz, e.funs, fun b q => by rw [add_out (hf b q)]; exact e.frf b q, hok_add e.hok p d, e.bare⟩
theorem del_none {R H : Hp} {b : Addr} (h : H b = none) : DelR R H b = none := by
  cases q : R b with
  | some u => exact del_in q
  | none => rw [del_out q]; exact h
theorem env0_del {P : Program} {w : World} {K : PySem.W.Frag} {mg : Str → Option Value} {base : Heap} {A : Around} {outer : List Env} {s : Shared} {R H : Hp} (e : Env0 P w K mg base A outer s H) (p : Pin R s.heap) (d : Within R H) : Env0 P w K mg base A outer s (DelR R H) :=
  ⟨e.frames, e.mod, fun b o q => ⟨(e.bs b o q).1, del_none (e.bs b o q).2⟩, e.bsz, e.funs, fun b q => del_none (e.frf b q), hok_del e.hok p d, e.bare⟩
theorem ce_del {outer : List Env} {P : Program} {w : World} {R H : Hp} {s s' : Shared} {Q : VK} {u : Value} (p : Pin R s.heap) (d : Apart R H) (hf : ∀ b ∈ frs outer, R b = none) (h : CE outer P w (AddR R H) s Q u s') :
    CE outer P w H s (fun v H' => ∃ H1, H' = DelR R H1 ∧ Within R H1 ∧ Q v H1) u s' := by
  obtain ⟨v, H1, os, bare, un, hok, rv, q⟩ := h
  have wi : Within R H1 := fun b o e => by
    obtain ⟨ob, rfl, e1⟩ := p b o e
    exact un.frzs b ob _ (add_in e)
  refine ⟨v, DelR R H1, os, bare, ⟨fun b o e n nf nx => ?_, fun b o e n nf nx => ?_, fun b o e n nx => ?_, un.there, fun b xs e => ?_, fun b o uu e => ?_, fun b ps e => ?_⟩, hok_del hok p wi, rv, H1, rfl, wi, q⟩
  · cases qr : R b with
    | some uu =>
      obtain ⟨ob, rfl, e1⟩ := p b uu qr
      rw [e] at e1; cases e1
      exact (hok b _ (wi b _ qr)).1
    | none => exact un.keep b o e (by rw [add_out qr]; exact n) nf nx
  · exact un.slot b o e (by rw [add_out (hf b nf)]; exact n) nf nx
  · cases qr : R b with
    | some uu => exact del_in qr
    | none => rw [del_out qr]; exact un.free b o e (by rw [add_out qr]; exact n) nx
  · exact del_keep p wi (un.tups b xs (add_keep d e)) fun _ y => by cases y
  · have z := un.frzs b o uu (add_keep d e)
    cases qr : R b with
    | some uo => rw [d b uo qr] at e; cases e
    | none => rw [del_out qr]; exact z
  · obtain ⟨more, z⟩ := un.tbls b ps (add_keep d e)
    exact ⟨more, del_keep p wi z fun _ y => by cases y⟩
theorem ce_add {outer : List Env} {P : Program} {w : World} {R H : Hp} {s s' : Shared} {Q : VK} {u : Value} (p : Pin R s.heap) (d : Within R H) (hf : ∀ b ∈ frs outer, H b = none) (h : CE outer P w (DelR R H) s Q u s') :
    CE outer P w H s (fun v H' => ∃ H1, H' = AddR R H1 ∧ Apart R H1 ∧ Q v H1) u s' := by
  obtain ⟨v, H1, os, bare, un, hok, rv, q⟩ := h
  have ap : Apart R H1 := fun b o e => by
    obtain ⟨ob, rfl, e1⟩ := p b o e
    exact un.free b ob e1 (del_in e) (by simp)
  have noF : ∀ b o, R b = some o → b ∉ frs outer := fun b o e z => by
    have := hf b z
    rw [d b o e] at this; cases this
  have pin' : Pin R s'.heap := fun b o e => by
    obtain ⟨ob, rfl, e1⟩ := p b o e
    exact ⟨ob, rfl, un.keep b ob e1 (del_in e) (noF b _ e) (by simp)⟩
  have outR : ∀ b, H b = none → R b = none := fun b e => by
    cases qr : R b with
    | none => rfl
    | some uu => rw [d b uu qr] at e; cases e
  refine ⟨v, AddR R H1, os, bare, ⟨fun b o e n nf nx => un.keep b o e (del_none n) nf nx, fun b o e n nf nx => un.slot b o e (del_none n) nf nx, fun b o e n nx => ?_, un.there, fun b xs e => ?_, fun b o uu e => ?_, fun b ps e => ?_⟩, hok_add hok pin' ap, rv, H1, rfl, ap, q⟩
  · rw [add_out (outR b n)]; exact un.free b o e (del_none n) nx
  · exact add_keep ap (un.tups b xs (del_keep p d e fun _ y => by cases y))
  · cases qr : R b with
    | some uo => rw [d b uo qr] at e; cases e; exact add_in qr
    | none => rw [add_out qr]; exact un.frzs b o uu (by rw [del_out qr]; exact e)
  · obtain ⟨more, z⟩ := un.tbls b ps (del_keep p d e fun _ y => by cases y)
    exact ⟨more, add_keep ap z⟩
/-! ### the same of the known state -/
section
variable {g : G} {S S1 S' : Sx} {β β' : Sto} {R : Hp} {h : Heap}
abbrev Sx.wH (S : Sx) (H : Hp) : Sx := ⟨S.ι, S.F, H⟩
theorem ctok_same {ct : Ct} {F H H' : Hp} {p : Addr} (c : CtOk g F H p ct) (e : ∀ b o, H b = some o → (∀ ob, o ≠ pinO b ob) → H' b = some o) : CtOk g F H' p ct := by
  cases ct with
  | lst xs => obtain ⟨vs, a, b⟩ := c; exact ⟨vs, e _ _ a (fun _ y => by cases y), b⟩
  | dic t kvs =>
    cases t with
    | false => obtain ⟨vs, a, b⟩ := c; exact ⟨vs, e _ _ a (fun _ y => by cases y), b⟩
    | true => obtain ⟨vs, a, b⟩ := c; exact ⟨vs, e _ _ a (fun _ y => by cases y), b⟩
  | fdic t kvs =>
    cases t with
    | false => obtain ⟨od, vs, a, b⟩ := c; exact ⟨od, vs, e _ _ a (fun ob y => by simp only [pinO] at y; cases y), b⟩
    | true => obtain ⟨od, vs, a, b⟩ := c; exact ⟨od, vs, e _ _ a (fun ob y => by simp only [pinO] at y; cases y), b⟩
  | obj c fs => obtain ⟨C, dx, r, hC, a, b, c⟩ := c; exact ⟨C, dx, r, hC, e _ _ a (fun _ y => by cases y), e _ _ b (fun _ y => by cases y), c⟩
theorem tabs_same {T : List (Addr × Str)} {H H' : Hp} (t : LamX.Tabs T H) (e : ∀ b o, H b = some o → (∀ ob, o ≠ pinO b ob) → H' b = some o) : LamX.Tabs T H' := fun q hq => by
  obtain ⟨ps, h1, h2, h3⟩ := t q hq
  refine ⟨ps, e _ _ h1 (fun _ y => by cases y), h2, fun pos cv hc => ?_⟩
  obtain ⟨c, e1, e2⟩ := h3 pos cv hc
  exact ⟨c, e1, e _ _ e2 (fun _ y => by unfold CodeO at y; cases y)⟩
theorem OkS.toH (k : OkS g β S) {H' : Hp} (e : ∀ b o, S.H b = some o → (∀ ob, o ≠ pinO b ob) → H' b = some o) (sub : ∀ b o, S.F b = some o → H' b = some o) (tr : ∀ p ∈ S.ι, H' p ≠ none) (ow : ∀ b x, H' b = some (.own x) → S.H b = some (.own x)) : OkS g β (S.wH H') := by
  refine ⟨sub, k.ntb, k.len, fun n b q => ?_, k.inj, tr, fun b x q => k.own b x (ow b x q), tabs_same k.tabs e⟩
  obtain ⟨p, e1, e2⟩ := k.bx n b q
  refine ⟨p, e1, ?_⟩
  unfold BxOk at e2 ⊢
  split
  · rename_i hl
    rw [if_pos hl] at e2
    exact ⟨e2.1, ctok_same e2.2 e⟩
  · rename_i hl
    rw [if_neg hl] at e2
    exact e2
theorem OkS.addR (k : OkS g β S) (p : Pin R h) (d : Apart R S.H) : OkS g β (S.wH (AddR R S.H)) := by
  refine k.toH (fun b o e _ => add_keep d e) (fun b o e => add_keep d (k.sub b o e)) (fun q hq e => ?_) fun b x e => ?_
  · have := k.tracked q hq
    cases z : S.H q with
    | none => exact this z
    | some o => rw [add_keep d z] at e; cases e
  · cases z : R b with
    | some u =>
      rw [add_in z] at e; cases e
      obtain ⟨ob, y, _⟩ := p b _ z
      cases y
    | none => rw [add_out z] at e; exact e
theorem Le.addR (k : OkS g β S) (p : Pin R h) (d : Apart R S.H) : Le S (S.wH (AddR R S.H)) :=
  ⟨⟨[], by simp⟩, .refl _, fun b o e _ _ => add_keep d e, fun b ps e => ⟨ps, add_keep d e⟩, fun b o e => ⟨o, add_keep d e⟩, fun b h1 h2 => absurd h2 h1, fun b h => .inl h⟩
/-- what was added is taken out again -/
theorem Le.outR (p : Pin R h) (d : Apart R S1.H) (wi : Within R S'.H) (l : Le (S1.wH (AddR R S1.H)) S') : Le S1 (S'.wH (DelR R S'.H)) := by
  have nr : ∀ b o, S1.H b = some o → R b = none := fun b o e => by
    cases z : R b with
    | none => rfl
    | some u => rw [d b u z] at e; cases e
  refine ⟨l.ι, l.F, fun b o e n t => ?_, fun b ps e => ?_, fun b o e => ?_, fun b h1 h2 => ?_, fun b hb => ?_⟩
  · show DelR R S'.H b = _
    rw [del_out (nr b o e)]; exact l.keep b o (add_keep d e) n t
  · obtain ⟨qs, z⟩ := l.tbl b ps (add_keep d e)
    refine ⟨qs, ?_⟩
    show DelR R S'.H b = _
    rw [del_out (nr b _ e)]; exact z
  · obtain ⟨o', z⟩ := l.there b o (add_keep d e)
    refine ⟨o', ?_⟩
    show DelR R S'.H b = _
    rw [del_out (nr b _ e)]; exact z
  · rcases l.fresh b h1 h2 with z | z | ⟨x, z⟩ | ⟨x, z⟩
    · left
      have z : AddR R S1.H b = none := z
      cases y : R b with
      | some u => rw [add_in y] at z; cases z
      | none => rw [add_out y] at z; exact z
    · exact .inr (.inl z)
    · have z : AddR R S1.H b = some (.own x) := z
      cases y : R b with
      | some u =>
        rw [add_in y] at z; cases z
        obtain ⟨ob, e, _⟩ := p b _ y
        cases e
      | none => rw [add_out y] at z; exact .inr (.inr (.inl ⟨x, z⟩))
    · have z : AddR R S1.H b = some (.tup x) := z
      cases y : R b with
      | some u =>
        rw [add_in y] at z; cases z
        obtain ⟨ob, e, _⟩ := p b _ y
        cases e
      | none => rw [add_out y] at z; exact .inr (.inr (.inr ⟨x, z⟩))
  · rcases l.new b hb with z | z
    · exact .inl z
    · right
      have z : AddR R S1.H b = none := z
      cases y : R b with
      | some u => rw [add_in y] at z; cases z
      | none => rw [add_out y] at z; exact z
theorem OkS.delR (k : OkS g β S) (p : Pin R h) (wi : Within R S.H) (hF : ∀ b o, R b = some o → S.F b = none ∧ b ∉ S.ι) : OkS g β (S.wH (DelR R S.H)) := by
  have nr : ∀ b o, S.F b = some o → R b = none := fun b o e => by
    cases z : R b with
    | none => rfl
    | some u => rw [(hF b u z).1] at e; cases e
  refine k.toH (fun b o e n => del_keep p wi e n) (fun b o e => ?_) (fun q hq e => ?_) fun b x e => ?_
  · rw [del_out (nr b o e)]; exact k.sub b o e
  · have := k.tracked q hq
    cases z : R q with
    | some u => exact (hF q u z).2 hq
    | none => rw [del_out z] at e; exact this e
  · cases z : R b with
    | some u => rw [del_in z] at e; cases e
    | none => rw [del_out z] at e; exact e
/-- what was taken out is added again -/
theorem Le.inR (p : Pin R h) (wi : Within R S1.H) (ap : Apart R S'.H) (k : OkS g β' S') (l : Le (S1.wH (DelR R S1.H)) S') : Le S1 (S'.wH (AddR R S'.H)) := by
  refine ⟨l.ι, l.F, fun b o e n t => ?_, fun b ps e => ?_, fun b o e => ?_, fun b h1 h2 => ?_, fun b hb => ?_⟩
  · show AddR R S'.H b = _
    cases z : R b with
    | some u => rw [wi b u z] at e; cases e; exact add_in z
    | none => rw [add_out z]; exact l.keep b o (by show DelR R S1.H b = _; rw [del_out z]; exact e) n t
  · obtain ⟨qs, z⟩ := l.tbl b ps (del_keep p wi e fun _ y => by cases y)
    exact ⟨qs, add_keep ap z⟩
  · cases z : R b with
    | some u => exact ⟨u, add_in z⟩
    | none =>
      obtain ⟨o', y⟩ := l.there b o (by show DelR R S1.H b = _; rw [del_out z]; exact e)
      exact ⟨o', add_keep ap y⟩
  · have h1 : S'.F b ≠ none := h1
    have nb : R b = none := by
      cases z : R b with
      | none => rfl
      | some u =>
        cases y : S'.F b with
        | none => exact absurd y h1
        | some o =>
          have := k.sub b o y
          rw [ap b u z] at this; cases this
    rcases l.fresh b h1 h2 with z | z | ⟨x, z⟩ | ⟨x, z⟩
    · have z : DelR R S1.H b = none := z
      rw [del_out nb] at z
      exact .inl z
    · exact .inr (.inl z)
    · have z : DelR R S1.H b = some (.own x) := z
      rw [del_out nb] at z
      exact .inr (.inr (.inl ⟨x, z⟩))
    · have z : DelR R S1.H b = some (.tup x) := z
      rw [del_out nb] at z
      exact .inr (.inr (.inr ⟨x, z⟩))
  · have nb : R b = none := by
      cases z : R b with
      | none => rfl
      | some u => exact absurd (ap b u z) (k.tracked b hb)
    rcases l.new b hb with z | z
    · exact .inl z
    · have z : DelR R S1.H b = none := z
      rw [del_out nb] at z
      exact .inr z
/-- plain values stay what they are -/
theorem RepV.plain {u : V} {v : VV} (r : RepV g S u v) (hp : plainV v = true) (hF : S.F = S'.F) (hι : S.ι = S'.ι) : RepV g S' u v := by
  cases r with
  | d h => exact .d (hF ▸ h)
  | box h => exact .box (hι ▸ h)
  | clo _ _ => cases hp
  | bxs _ => cases hp
theorem RepVs.plain : ∀ {us : List V} {vs : List VV}, RepVs g S us vs → vs.all plainV = true → S.F = S'.F → S.ι = S'.ι → RepVs g S' us vs
  | _, _, .nil, _, _, _ => .nil
  | _, _, .cons r rs, h, h1, h2 => by
    rw [List.all_cons, Bool.and_eq_true] at h
    exact .cons (r.plain h.1 h1 h2) (RepVs.plain rs h.2 h1 h2)
theorem out_noClo {v : VV} {Qk : VV → Sto → Prop} {Qe : Exc → Sto → Prop} (h : Out (noClo v β) Qk Qe) : plainV v = true ∧ Qk v β := by
  cases v with
  | d x => exact ⟨rfl, h⟩
  | box n => exact ⟨rfl, h⟩
  | clo l c => exact h.elim
  | bxs _ => exact h.elim
end
end VI

set_option maxHeartbeats 2000000
/-! VLb: lambdas: a call of one; one that is made as the last argument of a call. -/
namespace VI
open PySem L2 M
open PyProof.Rows
open LamX (CodeO TabB ExtN)
def LamG (g : G) (n : Nat) (L : LDef) : Prop := ∀ (A : Around) (outer : List Env) (s : Shared) (us : List Value) (vs : List V) (xs : List VV) (S : Sx) (β : Sto) (f : Addr) (wsV : List V) (caps : List VV) (Q : VK) (base : Heap), g.bok base →
  Room (2 * n) A → Env0 g.P g.w g.K g.mg base A outer s S.H → OkS g β S → RepVs g S vs xs → CloAt g S f L wsV → RepVs g S wsV caps → Vals vs us → Out (bnd (callA g.T n (.l L caps) xs) noClo β) (Kv g S Q) (fun _ _ => False) →
  codeAny (model g.P g.w) A (.call (.ref f) ⟨us, []⟩) (CR (L2.CX g.P g.w) outer g.P g.w S.H s Q (fun _ _ _ => False)) s
section
variable {g : G} {ge : GE} {X : Cx} {n : Nat} {W : WX} {a b c : Expr} {pos p : Pos}
theorem XOk.lam (hx : XOk g X n W) {L : LDef} (h : LamG g n L) {A : Around} {outer : List Env} {s : Shared} {us : List Value} {vs : List V} {xs : List VV} {S : Sx} {β : Sto} {f : Addr} {wsV : List V} {caps : List VV} {Q : VK}
    (hr : Room (2 * n) A) (e0 : Env0 X.prog X.w X.K X.mg X.base A outer s S.H) (k : OkS g β S) (r : RepVs g S vs xs) (c : CloAt g S f L wsV) (rc : RepVs g S wsV caps) (rv : Vals vs us) (q : Out (bnd (callA g.T n (.l L caps) xs) noClo β) (Kv g S Q) (fun _ _ => False)) :
    codeAny (model X.prog X.w) A (.call (.ref f) ⟨us, []⟩) (CR (L2.CX X.prog X.w) outer X.prog X.w S.H s Q (fun _ _ _ => False)) s := by
  rw [hx.P, hx.w] at e0 ⊢
  rw [hx.K, hx.mg] at e0
  exact h A outer s us vs xs S β f wsV caps Q X.base hx.base hr e0 k r c rc rv q
theorem pin_at {P : Program} {w : World} {H : Hp} {h : Heap} {f : Addr} {o : Obj} (k : HOk P w H h) (e : H f = some (pinO f o)) : h.get? f = some o := (k f _ e).1
theorem se_callV {i : Nat} {x : Str} {es : List Expr} {ms : Sl → M (List VV)} (hx : XOk g X n W) (lam : ∀ L, LamG g n L) (h : PE X (.Name x p) (tVar i)) (ha : PA X (a :: es) (tEvA g ge W ms))
    (he : starEach (a :: es) X.env = (false, eval a X.env) :: starEach es X.env) (hpl : (backTo pos (starEach es X.env)).any (·.1) = false) :
    PE X (.Call (.Name x p) (a :: es) [] pos) (tEv g ge W fun φ => match φ[i]? with
      | some (some (.clo l caps)) => bnd (ms φ) fun vs => bnd (noExc (callA g.T n (.l l caps) vs)) noClo
      | _ => bad) := by
  refine ⟨fun pins s σ H Q I ⟨S, φ, β, e, k, sl, q⟩ => ?_⟩
  subst e
  have hs : ∃ L caps, φ[i]? = some (some (.clo L caps)) ∧ Out (bnd (ms φ) (fun vs => bnd (noExc (callA g.T n (.l L caps) vs)) noClo) β) (Kv g S Q) (Ke g ge S W σ) := by
    cases e : φ[i]? with
    | none => simp only [e] at q; exact q.elim
    | some o =>
      cases o with
      | none => simp only [e] at q; exact q.elim
      | some v =>
        cases v with
        | clo L caps => simp only [e] at q; exact ⟨L, caps, rfl, q⟩
        | d _ => simp only [e] at q; exact q.elim
        | box _ => simp only [e] at q; exact q.elim
        | bxs _ => simp only [e] at q; exact q.elim
  obtain ⟨L, caps, e, q⟩ := hs
  obtain ⟨u, e1, r⟩ := sl.at_ i _ e
  cases r with
  | @clo f _ _ wsV ca rc =>
    refine wpAny_Call_Name_kw (thn (h.run pins s σ S.H (fun v H1 => v = .ref f ∧ H1 = S.H) I ⟨.ref f, e1, rfl, rfl⟩) fun u s1 ⟨v, H1, I1, r1, q1⟩ => ?_)
    obtain ⟨ev, eH⟩ := q1
    subst ev
    rw [eH] at I1
    obtain rfl : u = Value.ref f := r1
    have fnAt : ∀ {S' : Sx} {s' : Shared}, CloAt g S' f L wsV → Inv X pins σ S'.H s' → PySem.W.FnAt f s'.heap := fun {S' s'} c' I' => by
      obtain ⟨LI, _, cl, c2, pm, ctv, h1, _⟩ := c'.ex
      exact ⟨_, _, _, _, pin_at I'.hok h1⟩
    have ha' := ha.run pos pins s1 σ S.H (fun vs H1 => ∃ (S1 : Sx) (β1 : Sto) (xs : List VV), S1.H = H1 ∧ OkS g β1 S1 ∧ RepVs g S1 vs xs ∧ CloAt g S1 f L wsV ∧ RepVs g S1 wsV caps ∧ Out (bnd (callA g.T n (.l L caps) xs) noClo β1) (Kv g S1 Q) (fun _ _ => False)) I1 ?_
    · refine PySem.W.callWith_F (first := []) (fnAt ca I1) (thn ha' fun us s2 ⟨vs, H2, I2, rv, S1, β1, xs, eH, k1, r1, c1, rc1, q1⟩ => ?_) he hpl
      subst eH
      refine ⟨fnAt c1 I2, ?_⟩
      show wpAny _ _ (PySem.call (.ref f) us) _ _ _
      refine wpAny_call (codeAny_mono (hx.lam (lam L) (hx.room.mono (by omega)) I2.env0 k1 r1 c1 rc1 rv q1) fun r s' hq => ?_)
      cases r with
      | error e => exact (passL pins σ S1.H s2 e s' I2 hq)
      | ok fl =>
        cases fl with
        | ret u => exact I2.after hq
        | next => exact False.elim hq
        | brk => exact False.elim hq
        | cont => exact False.elim hq
    · refine step_a (Qk := fun S => Kv g S Q) grow_v k sl q fun us xs β1 S1 l1 k1 r1 sl1 q1 => ?_
      refine ⟨S1, β1, xs, rfl, k1, r1, ca.mono l1, rc.mono l1, ?_⟩
      exact out_back ((out_noExc (Qe' := fun _ _ => False) (out_bnd q1)).imp (fun v β2 q2 => by
        obtain ⟨hp, q3⟩ := out_noClo q2
        cases v with
        | d _ => exact q3
        | box _ => exact q3
        | clo _ _ => cases hp
        | bxs _ => cases hp) fun _ _ z => z)
/-! ### making one -/
/-- the lambda is made and known from now on -/
theorem lam_known {T : List (Addr × Str)} {c P : Addr} {params : Arguments} {body : Expr} {scope : Scope} {E : Value → Shared → Prop} {Q : Value → Shared → Prop} {pins : List (Addr × Obj)} {σ : L2.St} {H : Hp} {s : Shared} (I : Inv X pins σ H s) (TB : TabB X.base X.mg c P) (hcode : X.env.code = .ref c)
    (hm : (P, X.env.qual ++ "<lambda>") ∈ T) (hu : ∀ p ∈ T, p.1 = P → p.2 = X.env.qual ++ "<lambda>") (hT : LamX.Tabs T H) (hdef : defaultsOf params X.env = ([], [])) (hfree : ∀ y ∈ scope.names, y.2 = .free → ∃ c, X.env.cells.lookup y.1 = some c)
    (h : ∀ (f c' : Addr) (pm ctv : Value) (H1 : Hp) (s' : Shared), Inv X pins σ H1 s' → LamX.Tabs T H1 → ExtN H H1 → (∀ b ps, H b = some (.tbl ps) → ∃ qs, H1 b = some (.tbl qs)) → H f = none → H1 c' = some (CodeO c' (X.env.qual ++ "<lambda>")) →
      H1 f = some (pinO f (PySem.W.kla_obj "<lambda>" (X.env.qual ++ "<lambda>") params body scope (cloFrom X.env.cells scope.names []) pm c' ctv)) → (∀ b x, H1 b = some (.own x) → H b = some (.own x)) → (∀ y c, X.env.cells.lookup y = some c → c ≠ f) → Q (.ref f) s') :
    wpAny (model X.prog X.w) X.A (eval (.Lambda params body scope pos) X.env) Q E s := by
  obtain ⟨ps, hP, ht, ha⟩ := hT _ hm
  refine PySem.W.kla_eval hdef ?_
  have bP : s.heap.BuiltinsAt X.mg P := TB.bm.keeps I.bk
  have hPs : s.heap.get? P = some { cls := .none, data := .fields ps } := I.hok P _ hP
  have cellsLt : ∀ y c, X.env.cells.lookup y = some c → c < s.heap.objs.size := fun y c e => let ⟨v, z⟩ := I.cell y c e; z.lt
  cases hc : codeAmong pos ps.toList with
  | none =>
    refine PySem.W.kla_makeFunction (mg := X.mg) (c := c) (P := P) (ps := ps) (closure_ok hfree) I.ok.glob (I.mod.glob.keeps I.bk) hcode (TB.code.keeps I.bk) hPs ht hc TB.gP bP fun c' ctv h' tk hx hge hlt hrec htb => ?_
    obtain ⟨c2, oc, vs, t, e2, hoc, hd, hv⟩ := hrec
    cases e2
    have sz : s.heap.objs.size ≤ h'.objs.size := Nat.le_trans hge (Nat.le_of_lt hlt)
    have nC : H c' = none := I.hok.fresh hge
    have nF : H h'.objs.size = none := I.hok.fresh sz
    have I1 := LamX.inv_table (t' := tk) (more := #[rawInt pos.line, rawInt pos.col, .ref c']) (h' := h') I hP (fun b o hb e => hx b o hb e) htb hge ⟨oc, vs, t, hoc, hd, hv⟩
    have nPf : h'.objs.size ≠ P := Nat.ne_of_gt (Nat.lt_of_lt_of_le (Heap.lt_size hPs) sz)
    have nCf : h'.objs.size ≠ c' := Nat.ne_of_gt hlt
    have nPc : P ≠ c' := ne_of_none hP nC
    generalize hH1 : upd (upd H P (.tbl (ps ++ #[rawInt pos.line, rawInt pos.col, .ref c']))) c' (CodeO c' (X.env.qual ++ "<lambda>")) = H1 at I1
    have atB : ∀ b, b ≠ P → b ≠ c' → H1 b = H b := fun b h1 h2 => by rw [← hH1, upd_ne h2, upd_ne h1]
    have atP : H1 P = some (.tbl (ps ++ #[rawInt pos.line, rawInt pos.col, .ref c'])) := by rw [← hH1, upd_ne nPc, upd_same]
    have atC : H1 c' = some (CodeO c' (X.env.qual ++ "<lambda>")) := by rw [← hH1, upd_same]
    have fo := Heap.get?_push_size h' (o := PySem.W.kla_obj "<lambda>" (X.env.qual ++ "<lambda>") params body scope (cloFrom X.env.cells scope.names []) ((X.mg "__name__").getD .none) c' ctv) rfl
    have I2 := I1.laid (t' := tk) (a := h'.objs.size) (o := pinO h'.objs.size (PySem.W.kla_obj "<lambda>" (X.env.qual ++ "<lambda>") params body scope (cloFrom X.env.cells scope.names []) ((X.mg "__name__").getD .none) c' ctv)) (fun b o e => Heap.get?_push_of_some _ e) Nat.le.refl (pin_ok fo)
    have at2 : ∀ b, b ≠ h'.objs.size → upd H1 h'.objs.size (pinO h'.objs.size (PySem.W.kla_obj "<lambda>" (X.env.qual ++ "<lambda>") params body scope (cloFrom X.env.cells scope.names []) ((X.mg "__name__").getD .none) c' ctv)) b = H1 b := fun b hb => upd_ne hb
    generalize hH2 : upd H1 h'.objs.size (pinO h'.objs.size (PySem.W.kla_obj "<lambda>" (X.env.qual ++ "<lambda>") params body scope (cloFrom X.env.cells scope.names []) ((X.mg "__name__").getD .none) c' ctv)) = H2 at I2 at2
    have eL : (ps ++ #[rawInt pos.line, rawInt pos.col, .ref c']).toList = ps.toList ++ [rawInt pos.line, rawInt pos.col, .ref c'] := by simp
    have ext : ExtN H H2 := fun b o e n => by
      have b1 : b ≠ h'.objs.size := fun z => by rw [z, nF] at e; cases e
      have b2 : b ≠ c' := fun z => by rw [z, nC] at e; cases e
      have b3 : b ≠ P := fun z => by rw [z, hP] at e; cases e; exact n _ rfl
      rw [at2 b b1, atB b b3 b2]; exact e
    refine h h'.objs.size c' _ ctv H2 _ I2 (fun q hq => ?_) ext (fun b qs e => ?_) nF (by rw [at2 c' nCf.symm]; exact atC) (by rw [← hH2]; exact upd_same) (fun b x e => ?_) fun y c e => Nat.ne_of_lt (Nat.lt_of_lt_of_le (cellsLt y c e) sz)
    · by_cases hb : q.1 = P
      · rw [hu q hq hb, hb]
        refine ⟨_, by rw [at2 P nPf.symm]; exact atP, by rw [eL]; exact PySem.TriplesOk_snoc _ _ _ _ ht, fun p' cv hcv => ?_⟩
        rw [eL] at hcv
        rcases LamX.among_app _ ht hcv with z | z
        · obtain ⟨c0, e1, e2⟩ := ha p' cv z
          exact ⟨c0, e1, ext _ _ e2 LamX.codeO_ne⟩
        · exact ⟨c', z, by rw [at2 c' nCf.symm]; exact atC⟩
      · obtain ⟨ps', a1, a2, a3⟩ := hT q hq
        have q1 : q.1 ≠ h'.objs.size := fun z => by rw [z, nF] at a1; cases a1
        have q2 : q.1 ≠ c' := fun z => by rw [z, nC] at a1; cases a1
        refine ⟨ps', by rw [at2 _ q1, atB _ hb q2]; exact a1, a2, fun p' cv hcv => ?_⟩
        obtain ⟨c0, e1, e2⟩ := a3 p' cv hcv
        exact ⟨c0, e1, ext _ _ e2 LamX.codeO_ne⟩
    · by_cases hb : b = P
      · exact ⟨_, by rw [hb, at2 P nPf.symm]; exact atP⟩
      · have b1 : b ≠ h'.objs.size := fun z => by rw [z, nF] at e; cases e
        have b2 : b ≠ c' := fun z => by rw [z, nC] at e; cases e
        exact ⟨qs, by rw [at2 b b1, atB b hb b2]; exact e⟩
    · by_cases b1 : b = h'.objs.size
      · rw [b1, ← hH2, upd_same] at e; cases e
      · rw [at2 b b1] at e
        by_cases b2 : b = c'
        · rw [b2, atC] at e; unfold CodeO at e; cases e
        · by_cases b3 : b = P
          · rw [b3, atP] at e; cases e
          · rw [atB b b3 b2] at e; exact e
  | some cv =>
    obtain ⟨c', e, hco⟩ := ha pos cv hc
    subst e
    refine PySem.W.kla_makeFunctionHit (mg := X.mg) (c := c) (P := P) (ps := ps) (closure_ok hfree) I.ok.glob (I.mod.glob.keeps I.bk) hcode (TB.code.keeps I.bk) hPs ht hc bP fun ctv h' tk hx sz => ?_
    have nF : H h'.objs.size = none := I.hok.fresh sz
    have fo := Heap.get?_push_size h' (o := PySem.W.kla_obj "<lambda>" (X.env.qual ++ "<lambda>") params body scope (cloFrom X.env.cells scope.names []) ((X.mg "__name__").getD .none) c' ctv) rfl
    have I2 := I.laid (t' := tk) (h' := h'.push (PySem.W.kla_obj "<lambda>" (X.env.qual ++ "<lambda>") params body scope (cloFrom X.env.cells scope.names []) ((X.mg "__name__").getD .none) c' ctv)) (a := h'.objs.size) (o := pinO h'.objs.size (PySem.W.kla_obj "<lambda>" (X.env.qual ++ "<lambda>") params body scope (cloFrom X.env.cells scope.names []) ((X.mg "__name__").getD .none) c' ctv))
      (fun b o e => Heap.get?_push_of_some _ (hx b o e)) sz (pin_ok fo)
    have up : ∀ b o, H b = some o → upd H h'.objs.size (pinO h'.objs.size (PySem.W.kla_obj "<lambda>" (X.env.qual ++ "<lambda>") params body scope (cloFrom X.env.cells scope.names []) ((X.mg "__name__").getD .none) c' ctv)) b = some o := upd_mono nF
    refine h h'.objs.size c' _ ctv _ _ I2 (hT.ext up) (fun b o e _ => up b o e) (fun b qs e => ⟨qs, up b _ e⟩) nF (up _ _ hco) upd_same (fun b x e => ?_) fun y c e => Nat.ne_of_lt (Nat.lt_of_lt_of_le (cellsLt y c e) sz)
    by_cases b1 : b = h'.objs.size
    · rw [b1, upd_same] at e; cases e
    · rw [upd_ne b1] at e; exact e
end
end VI

set_option maxHeartbeats 2000000
/-! VLc: a lambda as the last argument of a call. -/
namespace VI
open PySem L2 M
open PyProof.Rows
open LamX (CodeO TabB ExtN)
section
variable {g : G} {ge : GE} {X : Cx} {n : Nat} {W : WX} {a b c : Expr} {pos p : Pos} {S S1 S' : Sx} {β : Sto} {R : Hp}
theorem ctok_n {ct : Ct} {F H H' : Hp} {p : Addr} (c : CtOk g F H p ct) (e : ExtN H H') : CtOk g F H' p ct := by
  cases ct with
  | lst xs => obtain ⟨vs, a, b⟩ := c; exact ⟨vs, e _ _ a (fun _ y => by cases y), b⟩
  | dic t kvs =>
    cases t with
    | false => obtain ⟨vs, a, b⟩ := c; exact ⟨vs, e _ _ a (fun _ y => by cases y), b⟩
    | true => obtain ⟨vs, a, b⟩ := c; exact ⟨vs, e _ _ a (fun _ y => by cases y), b⟩
  | fdic t kvs =>
    cases t with
    | false => obtain ⟨od, vs, a, b⟩ := c; exact ⟨od, vs, e _ _ a (fun _ y => by cases y), b⟩
    | true => obtain ⟨od, vs, a, b⟩ := c; exact ⟨od, vs, e _ _ a (fun _ y => by cases y), b⟩
  | obj c fs => obtain ⟨C, dx, r, hC, a, b, c⟩ := c; exact ⟨C, dx, r, hC, e _ _ a (fun _ y => by cases y), e _ _ b (fun _ y => by cases y), c⟩
theorem OkS.toN (k : OkS g β S) {H' : Hp} (e : ExtN S.H H') (t : LamX.Tabs g.NT H') (th : ∀ b o, S.H b = some o → ∃ o', H' b = some o') (ow : ∀ b x, H' b = some (.own x) → S.H b = some (.own x)) : OkS g β (S.wH H') := by
  refine ⟨fun b o q => e b o (k.sub b o q) (fun ps z => k.ntb b ps (by rw [q, z])), k.ntb, k.len, fun n b q => ?_, k.inj, fun q hq z => ?_, fun b x q => k.own b x (ow b x q), t⟩
  · obtain ⟨p, e1, e2⟩ := k.bx n b q
    refine ⟨p, e1, ?_⟩
    unfold BxOk at e2 ⊢
    split
    · rename_i hl
      rw [if_pos hl] at e2
      exact ⟨e2.1, ctok_n e2.2 e⟩
    · rename_i hl
      rw [if_neg hl] at e2
      exact e2
  · have := k.tracked q hq
    cases y : S.H q with
    | none => exact this y
    | some o =>
      obtain ⟨o', y'⟩ := th q o y
      have z : H' q = none := z
      rw [z] at y'; cases y'
theorem Le.toN {H' : Hp} (e : ExtN S.H H') (tb : ∀ b ps, S.H b = some (.tbl ps) → ∃ qs, H' b = some (.tbl qs)) (th : ∀ b o, S.H b = some o → ∃ o', H' b = some o') : Le S (S.wH H') :=
  ⟨⟨[], by simp⟩, .refl _, fun b o q _ t => e b o q t, tb, th, fun b h1 h2 => absurd h2 h1, fun b h => .inl h⟩
theorem OkS.notExt (k : OkS g β S) {p : Addr} {φ : Heap → Prop} (h : S.H p = some (.ext φ)) : p ∉ S.ι := fun z => by
  obtain ⟨m, hm⟩ := List.mem_iff_getElem?.mp z
  obtain ⟨b, e, bx⟩ := k.boxAt hm
  have c0 : CtOk g S.F S.H p b.ct := by
    unfold BxOk at bx
    split at bx
    · exact bx.2
    · exact bx.mono (.refl _) k.same
  cases hc : b.ct with
  | lst xs => rw [hc] at c0; obtain ⟨_, y, _⟩ := c0; rw [h] at y; cases y
  | dic t kvs =>
    rw [hc] at c0
    cases t with
    | false => obtain ⟨_, y, _⟩ := c0; rw [h] at y; cases y
    | true => obtain ⟨_, y, _⟩ := c0; rw [h] at y; cases y
  | fdic t kvs =>
    rw [hc] at c0
    cases t with
    | false => obtain ⟨_, _, y, _⟩ := c0; rw [h] at y; cases y
    | true => obtain ⟨_, _, y, _⟩ := c0; rw [h] at y; cases y
  | obj c fs => rw [hc] at c0; obtain ⟨_, _, _, _, y, _⟩ := c0; rw [h] at y; cases y
def tSnoc (t : TA) (te : TE) : TA := fun σ H Q => t σ H fun us H1 => te σ H1 fun v H2 => Q (us ++ [v]) H2
def tLamE (g : G) (X : Cx) (params : Arguments) (body : Expr) (scope : Scope) : TE := fun σ H Q => LamX.Tabs g.NT H ∧ ∀ (f c' : Addr) (pm ctv : Value) (H1 : Hp), LamX.Tabs g.NT H1 → ExtN H H1 → (∀ b ps, H b = some (.tbl ps) → ∃ qs, H1 b = some (.tbl qs)) → H f = none →
  H1 c' = some (CodeO c' (X.env.qual ++ "<lambda>")) → H1 f = some (pinO f (PySem.W.kla_obj "<lambda>" (X.env.qual ++ "<lambda>") params body scope (cloFrom X.env.cells scope.names []) pm c' ctv)) → (∀ b x, H1 b = some (.own x) → H b = some (.own x)) → (∀ y c, X.env.cells.lookup y = some c → c ≠ f) → Q (.ref f) H1
theorem pe_lamE {params : Arguments} {body : Expr} {scope : Scope} {c P : Addr} (TB : TabB X.base X.mg c P) (hcode : X.env.code = .ref c) (hm : (P, X.env.qual ++ "<lambda>") ∈ g.NT) (hu : ∀ p ∈ g.NT, p.1 = P → p.2 = X.env.qual ++ "<lambda>") (hdef : defaultsOf params X.env = ([], []))
    (hfree : ∀ y ∈ scope.names, y.2 = .free → X.env.scope.names.lookup y.1 = some .cell ∨ X.env.scope.names.lookup y.1 = some .free) : PE X (.Lambda params body scope pos) (tLamE g X params body scope) := by
  refine ⟨fun pins s σ H Q I ⟨hT, h⟩ => ?_⟩
  refine lam_known I TB hcode hm hu hT hdef (fun y hy e => (hfree y hy e).elim (fun z => I.ok.has _ (.inl z)) fun z => I.ok.has _ (.inr z)) fun f c' pm ctv H1 s' I' t e tb nf hc hf ow cf => ?_
  exact ⟨.ref f, H1, I', rfl, h f c' pm ctv H1 t e tb nf hc hf ow cf⟩
theorem sal_nil {lam : Expr} {te : TE} (h : PE X lam te) (hs : starEach [lam] X.env = (false, eval lam X.env) :: starEach [] X.env) : PA X [lam] (tSnoc (tEvA g ge W fun _ => ret []) te) := by
  refine (pa_cons h pa_nil hs).weak fun σ H Q ⟨S, φ, β, e, k, sl, q⟩ => ?_
  subst e
  have q : Ka g S (fun us H1 => te σ H1 fun v H2 => Q (us ++ [v]) H2) [] β := q
  exact q [] S (.refl S) k .nil
theorem sal_cons {es : List Expr} {m : Sl → M VV} {ms : Sl → M (List VV)} {te : TE} (ha : PE X a (tEv g ge W m)) (hr : PA X es (tSnoc (tEvA g ge W ms) te)) (hs : starEach (a :: es) X.env = (false, eval a X.env) :: starEach es X.env) :
    PA X (a :: es) (tSnoc (tEvA g ge W fun φ => bnd (m φ) fun v => bnd (ms φ) fun vs => ret (v :: vs)) te) := by
  refine (pa_cons ha hr hs).weak fun σ H Q ⟨S, φ, β, e, k, sl, q⟩ => ?_
  subst e
  refine step_v (Qk := fun S => Ka g S (fun us H1 => te σ H1 fun v H2 => Q (us ++ [v]) H2)) grow_a k sl q fun u x β1 S1 l1 k1 r1 sl1 q1 => ?_
  refine step_a (Qk := fun S => Ka g S (fun us H1 => te σ H1 fun v H2 => Q (us ++ [v]) H2)) (S := S1) grow_a k1 sl1 q1 fun us xs β2 S2 l2 k2 r2 sl2 q2 => ?_
  exact q2 (u :: us) S2 (.refl S2) k2 (.cons (r1.mono l2) r2)
theorem caps_ok {φ : Sl} {σ : L2.St} (sl : SlOk g S φ σ) : ∀ {js : List Nat} {caps : List VV}, capsOf φ js = some caps → ∃ ws : List V, js.map (NdefX.slotAt σ) = ws.map some ∧ RepVs g S ws caps
  | [], caps, h => by cases h; exact ⟨[], rfl, .nil⟩
  | j :: js, caps, h => by
    unfold capsOf at h
    split at h
    · rename_i v vs h1 h2
      cases h
      obtain ⟨u, e1, r⟩ := sl.at_ j v h1
      obtain ⟨ws, e2, rs⟩ := caps_ok sl h2
      exact ⟨u :: ws, by rw [List.map_cons, List.map_cons, e2, NdefX.slotAt_of e1], .cons r rs⟩
    · cases h
theorem se_callL {f np nf : Nat} {N : List Str} {bd : Ex} {F : FDef} {x : Str} {es : List Expr} {ms : Sl → M (List VV)} {js : List Nat} {params : Arguments} {body : Expr} {scope : Scope} {LI0 : LI} (hx : XOk g X n W) (hF : g.T.fs[f]? = some F) (o : FOk g f F) (Fn : FnG g ge n f) (hg : Gl X x) (hm : g.mg x = some (.ref (g.fi f).ad))
    (ha : PA X (a :: es) (tSnoc (tEvA g ge W ms) (tLamE g X params body scope))) (hd : (x == ("__debug__" : Str)) = false) (he : starEach (a :: es) X.env = (false, eval a X.env) :: starEach es X.env) (hpl : (backTo pos (starEach es X.env)).any (·.1) = false) (top : ∀ y, X.fn y = true)
    (lok : g.lok ⟨np, nf, N.length, bd⟩ LI0) (hI : LI0.qual = X.env.qual ++ "<lambda>" ∧ LI0.params = params ∧ LI0.body = body ∧ LI0.scope = scope) (hfree : ∀ y ∈ scope.names, y.2 = .free → X.env.scope.names.lookup y.1 = some .cell ∨ X.env.scope.names.lookup y.1 = some .free)
    (hfr : ∀ y ∈ LI0.fr, (y, NameKind.free) ∈ scope.names) (hjs : js.map (fun j => X.N[j]?) = LI0.fr.map some) :
    PE X (.Call (.Name x p) (a :: es) [] pos) (tEv g ge W fun φ => bnd (ms φ) fun vs => match capsOf φ js with
      | some caps => bnd (noExc (callA g.T n (.f f) (vs ++ [.clo ⟨np, nf, N.length, bd⟩ caps]))) noClo
      | none => bad) := by
  classical
  obtain ⟨hq1, hq2, hq3, hq4⟩ := hI
  refine ⟨fun pins s σ H Q I ⟨S, φ, β, e, k, sl, q⟩ => ?_⟩
  subst e
  refine wpAny_Call_Name_kw (ld_glob I hg (by rw [hx.mg]; exact hm) ?_ hd)
  have ha' := ha.run pos pins s σ S.H (fun vs H2 => ∃ (S2 : Sx) (β1 : Sto) (us0 : List V) (xs : List VV) (fa c' : Addr) (pm ctv : Value), S2.H = H2 ∧ vs = us0 ++ [.ref fa] ∧ OkS g β1 S2 ∧ RepVs g S2 us0 xs ∧ SlOk g S2 φ σ ∧ S2.F fa = none ∧ fa ∉ S2.ι ∧
    S2.H c' = some (CodeO c' (X.env.qual ++ "<lambda>")) ∧ S2.H fa = some (pinO fa (PySem.W.kla_obj "<lambda>" (X.env.qual ++ "<lambda>") params body scope (cloFrom X.env.cells scope.names []) pm c' ctv)) ∧ (∀ y c, X.env.cells.lookup y = some c → c ≠ fa) ∧
    ∃ caps, capsOf φ js = some caps ∧ Out (bnd (noExc (callA g.T n (.f f) (xs ++ [.clo ⟨np, nf, N.length, bd⟩ caps]))) noClo β1) (Kv g S2 Q) (Ke g ge S2 W σ)) I ?_
  · refine PySem.W.callWith_K (h₀ := X.base) I.ok.mod.kin (by rw [hx.K]; exact o.keep) (thn ha' fun us s1 ⟨vs, H2, I1, rv, S2, β1, us0, xs, fa, c', pm, ctv, eH, ev, k2, r2, sl2, nF, nι, hc, hf, cf, caps, hcap, q2⟩ => ⟨I1.kIn, ?_⟩) he hpl
    subst eH ev
    obtain ⟨wsV, ews, rws⟩ := caps_ok sl2 hcap
    have C : NdefX.CellsAt (cloFrom X.env.cells scope.names []) LI0.fr (js.map (NdefX.slotAt σ)) s1.heap S2.H := NdefX.cells_of I1 (NdefX.Caps.made I1.ok hfree hfr hjs)
    rw [ews] at C
    have hfree' : ∀ y ∈ scope.names, y.2 = .free → ∃ c, X.env.cells.lookup y.1 = some c := fun y hy e => (hfree y hy e).elim (fun z => I1.ok.has _ (.inl z)) fun z => I1.ok.has _ (.inr z)
    have cm : ∀ y c, (cloFrom X.env.cells scope.names []).lookup y = some c → X.env.cells.lookup y = some c := fun y c e => NdefX.clo_cm hfree' e
    -- the cells, for the time of the call
    let R : Hp := fun b => if ∃ y, (cloFrom X.env.cells scope.names []).lookup y = some b then (s1.heap.get? b).map (pinO b) else none
    have Rof : ∀ b oo, R b = some oo → (∃ y, X.env.cells.lookup y = some b) ∧ ∃ ob, oo = pinO b ob ∧ s1.heap.get? b = some ob := fun b oo e => by
      have e : (if ∃ y, (cloFrom X.env.cells scope.names []).lookup y = some b then (s1.heap.get? b).map (pinO b) else none) = some oo := e
      split at e
      · rename_i hy
        obtain ⟨y, hy⟩ := hy
        obtain ⟨ob, e1, e2⟩ := Option.map_eq_some_iff.mp e
        exact ⟨⟨y, cm y b hy⟩, ob, e2.symm, e1⟩
      · cases e
    have Rat : ∀ y b, (cloFrom X.env.cells scope.names []).lookup y = some b → ∀ ob, s1.heap.get? b = some ob → R b = some (pinO b ob) := fun y b hy ob e => by
      show (if ∃ y, (cloFrom X.env.cells scope.names []).lookup y = some b then (s1.heap.get? b).map (pinO b) else none) = _
      rw [if_pos ⟨y, hy⟩, e]; rfl
    have pin : Pin R s1.heap := fun b oo e => (Rof b oo e).2
    have ap : Apart R S2.H := fun b oo e => let ⟨⟨y, hy⟩, _⟩ := Rof b oo e; I1.freeC y b hy
    have old : ∀ b oo, R b = some oo → X.s_0.heap.objs.size ≤ b := fun b oo e => let ⟨⟨y, hy⟩, _⟩ := Rof b oo e; I1.ok.cab y b (top y) hy
    have nbase : ∀ b ob, X.base.get? b = some ob → R b = none := fun b ob e => by
      cases z : R b with
      | none => rfl
      | some oo => exact absurd (Nat.lt_of_lt_of_le (Heap.lt_size e) (Nat.le_trans I1.ok.bsz (old b oo z))) (Nat.lt_irrefl _)
    have nfr : ∀ b ∈ frs X.stack, R b = none := fun b hb => by
      cases z : R b with
      | none => rfl
      | some oo =>
        obtain ⟨⟨y, hy⟩, _⟩ := Rof b oo z
        rcases List.mem_cons.mp (I1.stkSub b hb) with w | w
        · exact absurd w (I1.cne y b hy)
        · obtain ⟨_, ob, ho, _⟩ := I1.ok.funs.mem w
          exact absurd (Nat.lt_of_lt_of_le (Heap.lt_size ho) (old b oo z)) (Nat.lt_irrefl _)
    have k3 := k2.addR pin ap
    have l3 := Le.addR k2 pin ap
    have noF : ∀ b oo, R b = some oo → S2.F b = none := fun b oo e => k2.noF (ap b oo e)
    have noι : ∀ b oo, R b = some oo → b ∉ S2.ι := fun b oo e z => k2.tracked b z (ap b oo e)
    have cell : ∀ y c, (cloFrom X.env.cells scope.names []).lookup y = some c → ∃ ob v, R c = some (pinO c ob) ∧ ob.data = .cell v ∧ s1.heap.get? c = some ob := fun y c e => by
      obtain ⟨_, v, ob, ho, hdv⟩ := C.all y c e
      exact ⟨ob, v, Rat y c e ob ho, hdv, ho⟩
    have clo : CloAt g (S2.wH (AddR R S2.H)) fa ⟨np, nf, N.length, bd⟩ wsV := by
      refine ⟨LI0, lok, cloFrom X.env.cells scope.names [], c', pm, ctv, ?_, nF, nι, add_keep ap (by rw [hq1]; exact hc), fun z => k2.notExt hc z, fun y c e => ?_, ⟨C.inj, X.env.cells, by rw [hq4]⟩, by simpa using C.len, fun i y v e1 e2 => ?_⟩
      · rw [hq1, hq2, hq3, hq4]; exact add_keep ap hf
      · obtain ⟨ob, v, e1, e2, _⟩ := cell y c e
        exact ⟨noF c _ e1, noι c _ e1, cf y c (cm y c e), ob, v, add_in e1, e2⟩
      · obtain ⟨c, hcl, hv⟩ := C.has i y e1
        obtain ⟨u, ru, ob, ho, hdv⟩ := hv v (by rw [List.getElem?_map, e2]; rfl)
        exact ⟨c, ob, u, hcl, add_in (Rat y c hcl ob ho), hdv, ru⟩
    have rr : RepVs g (S2.wH (AddR R S2.H)) (us0 ++ [.ref fa]) (xs ++ [.clo ⟨np, nf, N.length, bd⟩ caps]) := (r2.mono l3).append (.cons (.clo clo (rws.mono l3)) .nil)
    have q3 : Out (callA g.T n (.f f) (xs ++ [.clo ⟨np, nf, N.length, bd⟩ caps]) β1) (fun v β' => Out (noClo v β') (Kv g S2 Q) (Ke g ge S2 W σ)) (fun _ _ => False) := out_noExc (out_bnd q2)
    have sp : spF g ge n f (us0 ++ [.ref fa]) (AddR R S2.H) (fun v H' => Within R H' → Q v (DelR R H')) (fun _ _ _ => False) := by
      refine ⟨by rw [rr.len, callA_len hF q3, o.len], _, β1, _, rfl, k3, rr, q3.imp (fun z β' q4 w S' l' k' r' wi => ?_) fun _ _ z => z.elim⟩
      obtain ⟨hp, q5⟩ := out_noClo q4
      refine q5 w (S'.wH (DelR R S'.H)) (Le.outR pin ap wi l') (k'.delR pin wi fun b oo e => ?_) (r'.plain hp rfl rfl)
      have eo : ∀ y, oo ≠ .own y := fun y z => by
        obtain ⟨_, ob, e2, _⟩ := Rof b oo e
        rw [e2] at z; cases z
      have eo2 : ∀ y, oo ≠ .tup y := fun y z => by
        obtain ⟨_, ob, e2, _⟩ := Rof b oo e
        rw [e2] at z; cases z
      exact ⟨l'.notF (add_in e) eo eo2 (noι b oo e) (noF b oo e), l'.notι (add_in e) (noι b oo e)⟩
    have hlen : us.length = (g.fi f).ps.length := by rw [← rv.length]; exact sp.1
    have bi := o.binds s1 us (by have := I1.kIn; rw [hx.K] at this; exact this) (by rw [List.append_nil]; exact hlen)
    rw [List.append_nil] at bi
    refine wpAny_call (codeAny_mono ((hx.fn Fn).run X.A X.stack s1 (AddR R S2.H) ⟨us, []⟩ us (us0 ++ [.ref fa]) _ _ (hx.room.mono (by omega)) (env0_add I1.env0 pin ap nbase nfr) bi rv sp) fun r s' hq => ?_)
    cases r with
    | error e =>
      obtain ⟨_, _, _, _, _, _, _, _, _, _, _, _, z⟩ := hq
      exact z.elim
    | ok fl =>
      cases fl with
      | ret u =>
        obtain ⟨v, H', I', ru, H1, rfl, wi, q6⟩ := I1.after (ce_del pin ap nfr hq)
        exact ⟨v, _, I', ru, q6 wi⟩
      | next => exact False.elim hq
      | brk => exact False.elim hq
      | cont => exact False.elim hq
  · refine step_a (Qk := fun S => Kv g S Q) grow_v k sl q fun us xs β1 S1 l1 k1 r1 sl1 q1 => ⟨k1.tabs, fun f' c' pm ctv H2 t e tb nf hc hf ow cf => ?_⟩
    have th : ∀ b o, S1.H b = some o → ∃ o', H2 b = some o' := fun b o z => by
      by_cases ht : ∃ ps, o = .tbl ps
      · obtain ⟨ps, rfl⟩ := ht
        obtain ⟨qs, y⟩ := tb b ps z
        exact ⟨_, y⟩
      · exact ⟨o, e b o z fun ps y => ht ⟨ps, y⟩⟩
    have k2 := k1.toN e t th ow
    have l2 : Le S1 (S1.wH H2) := Le.toN e tb th
    refine ⟨S1.wH H2, β1, us, xs, f', c', pm, ctv, rfl, rfl, k2, r1.mono l2, sl1.mono l2, k1.noF nf, fun z => k1.tracked f' z nf, hc, hf, cf, ?_⟩
    cases hcap : capsOf φ js with
    | none => simp only [hcap] at q1; exact q1.elim
    | some caps =>
      simp only [hcap] at q1
      exact ⟨caps, rfl, q1.imp (fun _ _ z => z.mono l2) fun _ _ z => z.mono l2⟩
end
end VI

set_option maxHeartbeats 2000000
/-! VLd: sorted(e, key=lambda ..), e an empty list. -/
namespace VI
open PySem L2 M
open PyProof.Rows
open LamX (CodeO TabB ExtN)
section
variable {g : G} {ge : GE} {X : Cx} {n : Nat} {W : WX} {a : Expr} {pos p : Pos}
theorem fr_sortE {x : Str} {params : Arguments} {body : Expr} {scope : Scope} {lpos kpos : Pos} {ma : Sl → M VV} (hx : XOk g X n W) (hxn : x = "sorted") (hg : Gl X x) (hm : g.mg x = none) (ha : PE X a (tEv g ge W ma)) (he : starEach [a] X.env = (false, eval a X.env) :: starEach [] X.env)
    (pl : PE X (.Lambda params body scope lpos) (tLamE g X params body scope)) :
    PE X (.Call (.Name x p) [a] [⟨some "key", .Lambda params body scope lpos, kpos⟩] pos) (tFr g ge W fun φ => bnd (ma φ) fun u => bnd (deref u) fun c => match c with
      | .lst [] => ret (.lst [])
      | _ => bad) := by
  have hm' : X.mg x = none := by rw [hx.mg]; exact hm
  have hu : X.A.units + 70 < cLine := by have := hx.room.un; omega
  subst hxn
  refine (pe_callBK (cr_sortE hu) hg hm' (by decide +kernel) (pa_cons ha pa_nil he) (pk_cons pl pk_nil) (by decide) (by decide) (by rw [he]; rfl) (by rw [he]; rfl) rfl rfl rfl).weak fun σ H Q ⟨S, φ, β, e, k, sl, q⟩ => ?_
  subst e
  refine step_v (Qk := fun S => Kf g S Q) grow_f k sl q fun u v β1 S1 l1 k1 r1 sl1 q1 => ?_
  obtain ⟨c, q2, d⟩ := DR.get k1 r1 (out_bnd q1)
  cases c with
  | lst xs =>
    cases xs with
    | nil =>
      have q3 : Kf g S1 Q (.lst []) β1 := q2
      obtain ⟨a', vs, rfl, h1, rr⟩ := d.lst' k1
      cases rr
      refine ⟨k1.tabs, fun f c' pm ctv H1 t e tb nf hc hf ow cf => ?_⟩
      have th : ∀ b o, S1.H b = some o → ∃ o', H1 b = some o' := fun b o hb => by
        cases o with
        | tbl ps => obtain ⟨qs, h⟩ := tb b ps hb; exact ⟨_, h⟩
        | _ => exact ⟨_, e b _ hb (fun _ z => by cases z)⟩
      have k2 := k1.toN e t th ow
      have l2 := Le.toN e tb th
      exact ⟨a', f, rfl, rfl, SqL.of (e _ _ h1 (fun _ z => by cases z)), fun l hl => q3 l (.lst []) (S1.wH H1) l2 k2 hl ⟨_, rfl, .nil⟩⟩
    | cons _ _ => exact q2.elim
  | _ => exact q2.elim
end
end VI

set_option maxHeartbeats 2000000
/-! V16: the checker: a term of V1's language against the program's own syntax. -/
namespace VI
open PySem L2 M
structure SC where
  N : List Str
  sc : Scope
  gm : List (Str × GK)
  top : Bool
  flds : List Str
  is : List Nat
  kb : List KBE
  lam : Bool
  pn : List (List Str)
def SC.blk (cx : SC) (scope : Scope) : SC := { cx with sc := relS scope cx.sc, top := false, lam := false }
def SC.lamC (cx : SC) (scope : Scope) (N : List Str) : SC := { cx with N := N, sc := scope, top := false, lam := false }
/-- plain parameters -/
def parB (cx : SC) (p : Arguments) (ps : List Str) : Bool := match p with
  | ⟨[], as, none, [], [], none, []⟩ => decide (as.map (·.arg) = ps) && decide (ps ∈ cx.pn)
  | _ => false
def lamS (cx : SC) (np nf : Nat) (N ps fr : List Str) (js : List Nat) (params : Arguments) (scope : Scope) : Bool :=
  NdefX.nscB N ps fr scope && decide (ps.length = np) && decide (fr.length = nf) && parB cx params ps && NdefX.ndefB cx.sc scope fr && decide (js.map (fun j => cx.N[j]?) = fr.map some)
section
variable (cx : SC)
def visB (x : Str) : Bool := match cx.sc.names.lookup x with
  | some .local => true
  | some .cell => true
  | some .free => true
  | _ => false
def gloB (x : Str) (k : GK) : Bool := decide (cx.sc.names.lookup x = some .globalImplicit) && decide (cx.gm.lookup x = some k) && !(x == ("__debug__" : Str))
def varB (i : Nat) (x : Str) : Bool := decide (cx.N[i]? = some x) && visB cx x && !(x == ("__debug__" : Str)) && !(x == ("__classdict__" : Str))
def locB (i : Nat) (x : Str) : Bool := decide (cx.N[i]? = some x) && (decide (cx.sc.names.lookup x = some .local) || (decide (cx.sc.names.lookup x = some .cell) && cx.top))
def cstB : D → Const → Bool
  | .non, .none => true
  | .bl b, .bool c => decide (b = c)
  | .int i, .int j => decide (i = j)
  | .str s, .str t => decide (s = t)
  | _, _ => false
def isStar : Expr → Bool
  | .Starred .. => true
  | _ => false
def isSetE : Expr → Bool
  | .Set .. => true
  | _ => false
def isSliceE : Expr → Bool
  | .Slice .. => true
  | _ => false
def isSup : Expr → Bool
  | .Call (.Name _ _) [] [] _ => true
  | _ => false
def isCompE : Expr → Bool
  | .ListComp .. => true
  | .SetComp .. => true
  | .DictComp .. => true
  | _ => false
def isSubE : Expr → Bool
  | .Subscript .. => true
  | _ => false
def isTupE : Expr → Bool
  | .Tuple .. => true
  | _ => false
def isListE : Expr → Bool
  | .List .. => true
  | _ => false
def plainT : Expr → Bool
  | .UnaryOp .Not _ _ => false
  | .BoolOp .. => false
  | .IfExp .. => false
  | .Compare .. => false
  | _ => true
def bopB (o : Bop) (op : Operator) : Bool := decide (op = opOf o)
def copB (o : Cop) (op : CmpOp) : Bool := decide (op = copOf o)
def clB (c : Cl) (e : Expr) : Bool := match e with
  | .Name x _ => match c with
    | .own k => gloB cx x (.cls k)
    | c => decide (x = (clN c : Str)) && gloB cx x .blt
  | _ => false
mutual
def tgS : Tg → List Nat
  | .nm i => [i]
  | .tup gs => tgsS gs
  | .sub _ _ => []
def tgsS : Tgs → List Nat
  | .nil => []
  | .cons g gs => tgS g ++ tgsS gs
end
end
structure Two where
  elt : Expr
  tg : Expr
  iter : Expr
  ifs : List Expr
  tg1 : Expr
  iter1 : Expr
  ifs1 : List Expr
  scope : Scope
def two? : Expr → Option Two
  | .ListComp elt [⟨tg, iter, ifs, 0⟩, ⟨tg1, iter1, ifs1, 0⟩] scope _ => some ⟨elt, tg, iter, ifs, tg1, iter1, ifs1, scope⟩
  | _ => none
theorem two_some {e : Expr} {t : Two} (h : two? e = some t) : ∃ pos, e = .ListComp t.elt [⟨t.tg, t.iter, t.ifs, 0⟩, ⟨t.tg1, t.iter1, t.ifs1, 0⟩] t.scope pos := by
  unfold two? at h
  split at h
  · cases h; exact ⟨_, rfl⟩
  · cases h
structure SSx where
  x : Str
  p : Pos
  y : Str
  q : Pos
  z : Expr
  pos1 : Pos
  pos : Pos
def ss? : Expr → Option SSx
  | .Call (.Name x p) [.Call (.Name y q) [z] [] pos1] [] pos => some ⟨x, p, y, q, z, pos1, pos⟩
  | _ => none
theorem ss_some {e : Expr} {t : SSx} (h : ss? e = some t) : e = .Call (.Name t.x t.p) [.Call (.Name t.y t.q) [t.z] [] t.pos1] [] t.pos := by
  unfold ss? at h
  split at h
  · cases h; rfl
  · cases h
structure SPx where
  x : Expr
  m : Str
  ap : Pos
  s : Str
  k : Nat
  cpos : Pos
  p : Pos
def split? : Expr → Option SPx
  | .Call (.Attribute x m ap) [.Constant (.str s) k cpos] [] p => some ⟨x, m, ap, s, k, cpos, p⟩
  | _ => none
theorem split_some {e : Expr} {t : SPx} (h : split? e = some t) : e = .Call (.Attribute t.x t.m t.ap) [.Constant (.str t.s) t.k t.cpos] [] t.p := by
  unfold split? at h
  split at h
  · cases h; rfl
  · cases h
structure SKx where
  x : Str
  p : Pos
  y : Expr
  k : Str
  params : Arguments
  body : Expr
  scope : Scope
  lpos : Pos
  kpos : Pos
  pos : Pos
def sk? : Expr → Option SKx
  | .Call (.Name x p) [y] [⟨some k, .Lambda params body scope lpos, kpos⟩] pos => some ⟨x, p, y, k, params, body, scope, lpos, kpos, pos⟩
  | _ => none
theorem sk_some {e : Expr} {t : SKx} (h : sk? e = some t) : e = .Call (.Name t.x t.p) [t.y] [⟨some t.k, .Lambda t.params t.body t.scope t.lpos, t.kpos⟩] t.pos := by
  unfold sk? at h
  split at h
  · cases h; rfl
  · cases h
def isTT : Tx → Bool
  | .tt => true
  | _ => false
def isNilX : Exs → Bool
  | .nil => true
  | _ => false
mutual
def okE : SC → Ex → Expr → Bool
  | cx, .var i, a => match a with | .Name x _ => varB cx i x | _ => false
  | cx, .frz i, a => match a with | .Name x _ => varB cx i x | _ => false
  | cx, .cst d, a => match a with | .Constant c _ _ => cstB d c | _ => false
  | cx, .glb k, a => match a with | .Name x _ => gloB cx x (.cst k) | _ => false
  | cx, .tup es, a => match a with | .Tuple as _ _ => okEs cx es as | _ => false
  | cx, .tupS e es, a => match a with | .Tuple (.Starred x _ :: as) _ _ => okE cx e x && okEs cx es as | _ => false
  | cx, .tup2S e f, a => match a with | .Tuple [.Starred x _, .Starred y _] _ _ => okE cx e x && okE cx f y | _ => false
  | cx, .fz f, a => okF cx f a
  | cx, .bx f, a => okF cx f a
  | cx, .fzL f, a => okF cx f a
  | cx, .frzL i, a => match a with | .Name x _ => varB cx i x | _ => false
  | cx, .compB e g it own, a => match a with
    | .ListComp elt [⟨tg, iter, [], 0⟩] scope _ => okI cx it tg iter && okG (cx.blk scope) g tg && okE (cx.blk scope) e elt && blkC cx.N cx.sc scope (own.filterMap fun i => (cx.N[i]?).map fun x => (x, i)) &&
      own.all (fun i => decide (i < cx.N.length)) && (tgS g).all (fun i => decide (i ∈ own)) && !isSetE iter
    | _ => false
  | cx, .ixB i e, a => match a with | .Subscript (.Name x _) y _ => varB cx i x && okE cx e y && !isSliceE y | _ => false
  | cx, .lenB i, a => match a with | .Call (.Name s _) [.Name y _] [] _ => decide (s = "len") && gloB cx s .blt && varB cx i y | _ => false
  | cx, .bin o e f, a => match a with | .BinOp x op y _ => bopB o op && okE cx e x && okE cx f y | _ => false
  | cx, .neg e, a => match a with | .UnaryOp .USub x _ => okE cx e x | _ => false
  | cx, .cmp o e f, a => match a with | .Compare x [op] [y] _ => copB o op && okE cx e x && okE cx f y && !isSetE y | _ => false
  | cx, .chn o o' e f h, a => match a with | .Compare x [op, op'] [y, z] _ => copB o op && copB o' op' && okE cx e x && okE cx f y && okE cx h z && !isSetE z | _ => false
  | cx, .isN e, a => match a with | .Compare x [.Is] [.Constant .none _ _] _ => okE cx e x | _ => false
  | cx, .notN e, a => match a with | .Compare x [.IsNot] [.Constant .none _ _] _ => okE cx e x | _ => false
  | cx, .and e f, a => match a with
    | .BoolOp .And [x, y] _ => okE cx e x && okE cx f y
    | .BoolOp .And (x :: y :: z :: r) p => okE cx e x && okE cx f (.BoolOp .And (y :: z :: r) p)
    | _ => false
  | cx, .or e f, a => match a with
    | .BoolOp .Or [x, y] _ => okE cx e x && okE cx f y
    | .BoolOp .Or (x :: y :: z :: r) p => okE cx e x && okE cx f (.BoolOp .Or (y :: z :: r) p)
    | _ => false
  | cx, .not e, a => match a with | .UnaryOp .Not x _ => okE cx e x | _ => false
  | cx, .ite c e f, a => match a with | .IfExp t x y _ => okT cx c t && okE cx e x && okE cx f y | _ => false
  | cx, .call f es, a => match a with | .Call (.Name x _) (y :: as) [] _ => gloB cx x (.fn f) && okEs cx es (y :: as) | .Call (.Name x _) [] [] _ => gloB cx x (.fn f) && isNilX es | _ => false
  | cx, .callK f es ks pm, a => match a with
    | .Call (.Name x _) as (k :: kws) _ => gloB cx x (.fn f) && okEs cx es as && okKs cx ks (k :: kws) && decide (⟨f, (k :: kws).filterMap (·.arg), as.length, pm⟩ ∈ cx.kb)
    | _ => false
  | cx, .callL f es np nf N b js, a => match a with
    | .Call (.Name x _) (y :: as) [] _ => match (y :: as).getLast? with
      | some (.Lambda params body scope _) => cx.top && cx.lam && gloB cx x (.fn f) && okEs cx es (y :: as).dropLast && lamS cx np nf N (params.args.map (·.arg)) (js.filterMap fun j => cx.N[j]?) js params scope && okE (cx.lamC scope N) b body
      | _ => false
    | _ => false
  | cx, .callV i es, a => match a with | .Call (.Name x _) (y :: as) [] _ => varB cx i x && okEs cx es (y :: as) | _ => false
  | cx, .get1 o k, a => match a with | .Call (.Attribute x m ap) [y] [] cp => decide (m = "get") && (ap.endLine == cp.line) && okE cx o x && okE cx k y && !isStar y && !isSup x | _ => false
  | cx, .get2 o k d, a => match a with | .Call (.Attribute x m ap) [y, z] [] cp => decide (m = "get") && (ap.endLine == cp.line) && okE cx o x && okE cx k y && okE cx d z && !isStar y && !isStar z && !isSup x | _ => false
  | cx, .setd o k d, a => match a with | .Call (.Attribute x m ap) [y, z] [] cp => decide (m = "setdefault") && (ap.endLine == cp.line) && okE cx o x && okE cx k y && okE cx d z && !isStar y && !isStar z && !isSup x | _ => false
  | cx, .sumV e, a => match a with | .Call (.Name s _) [.Call (.Attribute x m ap) [] [] cp] [] _ => decide (s = "sum") && decide (m = "values") && (ap.endLine == cp.line) && gloB cx s .blt && okE cx e x && !isSup x | _ => false
  | cx, .blt b es, a => match a with | .Call (.Name x _) (y :: as) [] _ => decide (x = bltN b) && gloB cx x .blt && okEs cx es (y :: as) | _ => false
  | cx, .isi e c, a => match a with | .Call (.Name x _) [y, t] [] _ => decide (x = "isinstance") && gloB cx x .blt && okE cx e y && !isStar y && clB cx c t | _ => false
  | cx, .ix e i, a => match a with | .Subscript x y _ => okE cx e x && okE cx i y && !isSliceE y | _ => false
  | cx, .sl e lo hi, a => match a with | .Subscript x (.Slice l h none _) _ => okE cx e x && okO cx lo l && okO cx hi h | _ => false
  | cx, .rev e, a => match a with | .Subscript x (.Slice none none (some (.UnaryOp .USub (.Constant (.int 1) _ _) _)) _) _ => okE cx e x | _ => false
  | cx, .fld n e, a => match a with | .Attribute x m _ => decide (n = m) && decide (n ∈ cx.flds) && okE cx e x && !isSup x | _ => false
  | cx, .mk c f es, a => match a with | .Call (.Name x _) (y :: as) [] _ => gloB cx x (.cls c) && decide (cx.is[c]? = some f) && okEs cx es (y :: as) | _ => false
def okEs : SC → Exs → List Expr → Bool
  | cx, .nil, as => match as with | [] => true | _ => false
  | cx, .cons e es, as => match as with | a :: as => okE cx e a && !isStar a && okEs cx es as | _ => false
def okKs : SC → Exs → List Keyword → Bool
  | cx, .nil, as => match as with | [] => true | _ => false
  | cx, .cons e es, as => match as with | ⟨some _, a, _⟩ :: as => okE cx e a && okKs cx es as | _ => false
def okO : SC → Ox → Option Expr → Bool
  | cx, .no, a => match a with | none => true | _ => false
  | cx, .so e, a => match a with | some x => okE cx e x | _ => false
def okF : SC → Fx → Expr → Bool
  | cx, .disp es, a => match a with | .List as _ => okEs cx es as | _ => false
  | cx, .comp e g it c own, a => match a with
    | .ListComp elt [⟨tg, iter, ifs, 0⟩] scope _ => okI cx it tg iter && okG (cx.blk scope) g tg && (match ifs with | [] => isTT c | [t] => okT (cx.blk scope) c t | _ => false) && okE (cx.blk scope) e elt && blkC cx.N cx.sc scope (own.filterMap fun i => (cx.N[i]?).map fun x => (x, i)) &&
      own.all (fun i => decide (i < cx.N.length)) && (tgS g).all (fun i => decide (i ∈ own)) && !isSetE iter
    | _ => false
  | cx, .comp2 e g it c g1 it1 c1 own own1, a => match two? a with
    | some w => okI cx it w.tg w.iter && okG (cx.blk w.scope) g w.tg && (match w.ifs with | [] => isTT c | [t] => okT (cx.blk w.scope) c t | _ => false) &&
      okI (cx.blk w.scope) it1 w.tg1 w.iter1 && okG (cx.blk w.scope) g1 w.tg1 && (match w.ifs1 with | [] => isTT c1 | [t] => okT (cx.blk w.scope) c1 t | _ => false) && okE (cx.blk w.scope) e w.elt && blkC cx.N cx.sc w.scope (own.filterMap fun i => (cx.N[i]?).map fun x => (x, i)) &&
      own.all (fun i => decide (i < cx.N.length)) && (tgS g).all (fun i => decide (i ∈ own)) && (tgS g1).all (fun i => decide (i ∈ own1)) && own1.all (fun i => decide (i ∈ own)) && !isSetE w.iter && !isSetE w.iter1
    | none => false
  | cx, .dpr e, a => match a with | .Call (.Name x _) [y] [] _ => decide (x = "dict") && gloB cx x .blt && okE cx e y && !isStar y | _ => false
  | cx, .lkeys e, a => match a with | .Call (.Name x _) [y] [] _ => decide (x = "list") && gloB cx x .blt && okE cx e y && !isStar y | _ => false
  | cx, .lvals e, a => match a with | .Call (.Name s _) [.Call (.Attribute x m ap) [] [] cp] [] _ => decide (s = "list") && decide (m = "values") && (ap.endLine == cp.line) && gloB cx s .blt && okE cx e x && !isSup x | _ => false
  | cx, .sortE e, a => match sk? a with | some w => decide (w.x = "sorted") && decide (w.k = "key") && gloB cx w.x .blt && okE cx e w.y && !isStar w.y && cx.lam && parB cx w.params (w.params.args.map (·.arg)) && NdefX.ndefB cx.sc w.scope [] | none => false
  | cx, .ss e, a => match ss? a with | some w => decide (w.x = "sorted") && decide (w.y = "set") && gloB cx w.x .blt && gloB cx w.y .blt && okE cx e w.z && !isStar w.z | none => false
  | cx, .split e sep, a => match split? a with | some w => decide (w.m = "split") && decide (w.s = sep) && (w.ap.endLine == w.p.line) && okE cx e w.x && !isSup w.x | none => false
  | cx, .lst es, a => match a with | .Call (.Name x _) (y :: as) [] _ => decide (x = "list") && gloB cx x .blt && okEs cx es (y :: as) | _ => false
  | cx, .dcomp e f g it c own, a => match a with
    | .DictComp kx vx [⟨tg, iter, ifs, 0⟩] scope _ => okI cx it tg iter && okG (cx.blk scope) g tg && (match ifs with | [] => isTT c | [t] => okT (cx.blk scope) c t | _ => false) && okE (cx.blk scope) e kx && okE (cx.blk scope) f vx && blkC cx.N cx.sc scope (own.filterMap fun i => (cx.N[i]?).map fun x => (x, i)) &&
      own.all (fun i => decide (i < cx.N.length)) && (tgS g).all (fun i => decide (i ∈ own)) && !isSetE iter
    | _ => false
  | cx, .dnew t, a => match a with | .Dict [] [] _ => true | _ => false
  | cx, .dd1 k v, a => match a with | .Dict [some x] [y] _ => okE cx k x && okE cx v y | _ => false
def okI : SC → It → Expr → Expr → Bool
  | cx, .seq e, tg, a => okE cx e a && !isSetE a
  | cx, .rng1 e, tg, a => match a with | .Call (.Name x _) [y] [] _ => decide (x = "range") && gloB cx x .blt && okE cx e y && !isStar y | _ => false
  | cx, .rng2 e f, tg, a => match a with | .Call (.Name x _) [y, z] [] _ => decide (x = "range") && gloB cx x .blt && okE cx e y && okE cx f z && !isStar y && !isStar z | _ => false
  | cx, .enum e, tg, a => match a with | .Call (.Name x _) [y] [] _ => isTupE tg && decide (x = "enumerate") && gloB cx x .blt && okE cx e y && !isStar y | _ => false
  | cx, .enumS e, tg, a => match a with | .Call (.Name x _) [y] [] _ => isTupE tg && decide (x = "enumerate") && gloB cx x .blt && okE cx e y && !isStar y | _ => false
  | cx, .zip e f, tg, a => match a with | .Call (.Name x _) [y, z] [] _ => isTupE tg && decide (x = "zip") && gloB cx x .blt && okE cx e y && okE cx f z && !isStar y && !isStar z | _ => false
  | cx, .vals e, tg, a => match a with | .Call (.Attribute x m ap) [] [] cp => decide (m = "values") && (ap.endLine == cp.line) && okE cx e x && !isSup x | _ => false
  | cx, .keys e, tg, a => okE cx e a && !isSetE a
  | cx, .items e, tg, a => match a with | .Call (.Attribute x m ap) [] [] cp => isTupE tg && decide (m = "items") && (ap.endLine == cp.line) && okE cx e x && !isSup x | _ => false
def okT : SC → Tx → Expr → Bool
  | cx, .tt, a => false
  | cx, .val e, a => okE cx e a && plainT a
  | cx, .cmp o e f, a => match a with | .Compare x [op] [y] _ => copB o op && okE cx e x && okE cx f y && !isSetE y | _ => false
  | cx, .chn o o' e f h, a => match a with | .Compare x [op, op'] [y, z] _ => copB o op && copB o' op' && okE cx e x && okE cx f y && okE cx h z && !isSetE z | _ => false
  | cx, .isN e, a => match a with | .Compare x [.Is] [.Constant .none _ _] _ => okE cx e x | _ => false
  | cx, .notN e, a => match a with | .Compare x [.IsNot] [.Constant .none _ _] _ => okE cx e x | _ => false
  | cx, .and e f, a => match a with
    | .BoolOp .And [x, y] _ => okT cx e x && okT cx f y
    | .BoolOp .And (x :: y :: z :: r) p => okT cx e x && okT cx f (.BoolOp .And (y :: z :: r) p)
    | _ => false
  | cx, .or e f, a => match a with
    | .BoolOp .Or [x, y] _ => okT cx e x && okT cx f y
    | .BoolOp .Or (x :: y :: z :: r) p => okT cx e x && okT cx f (.BoolOp .Or (y :: z :: r) p)
    | _ => false
  | cx, .not e, a => match a with | .UnaryOp .Not x _ => okT cx e x | _ => false
def okG : SC → Tg → Expr → Bool
  | cx, .nm i, a => match a with | .Name x _ => locB cx i x | _ => false
  | cx, .tup gs, a => match a with | .Tuple as _ _ => okGs cx gs as | _ => false
  | cx, .sub o i, a => match a with | .Subscript x y _ => okE cx o x && okE cx i y && !isSliceE y | _ => false
def okGs : SC → Tgs → List Expr → Bool
  | cx, .nil, as => match as with | [] => true | _ => false
  | cx, .cons g gs, as => match as with | a :: as => okG cx g a && !isStar a && okGs cx gs as | _ => false
end
/-- a lambda and its text -/
def lamD (cx : SC) (L : LDef) (I : LI) : Bool :=
  NdefX.nscB I.N I.ps I.fr I.scope && decide (I.N.length = L.nl) && decide (I.ps.length = L.np) && decide (I.fr.length = L.nf) && parB cx I.params I.ps && okE (cx.lamC I.scope I.N) L.body I.body
/-- name = [..]: the comprehension's list is stored within its block's end -/
def swB (cx : SC) (y : Str) (py : Pos) (scope : Scope) (pos : Pos) : Bool := decide (cx.sc.kind = .function) && decide (cx.sc.names.lookup y = some .local) && (py.line == pos.line) && !(scope.names.any fun (n, k) => n == y && (k == .local || k == .cell))
/-- a target that is no plain local name -/
def noLoc (sc : Scope) : Expr → Bool
  | .Name x _ => !decide (sc.names.lookup x = some .local)
  | _ => true
def tupLoc (sc : Scope) : Expr → Bool
  | .Tuple ts _ _ => ts.any (noLoc sc)
  | _ => false
def okAsg (cx : SC) (g : Tg) (e : Ex) (tg v : Expr) : Bool :=
  match g, e, tg, v with
  | .nm i, .fz (.comp ..), .Name y py, .ListComp _ _ scope pos => okE cx e v && ((decide (cx.N[i]? = some y) && swB cx y py scope pos) || (locB cx i y && noLoc cx.sc (.Name y py)))
  | .nm i, .bx (.comp ..), .Name y py, .ListComp _ _ scope pos => okE cx e v && ((decide (cx.N[i]? = some y) && swB cx y py scope pos) || (locB cx i y && noLoc cx.sc (.Name y py)))
  | .nm i, .fz (.comp2 ..), .Name y py, .ListComp _ _ scope pos => okE cx e v && ((decide (cx.N[i]? = some y) && swB cx y py scope pos) || (locB cx i y && noLoc cx.sc (.Name y py)))
  | .nm i, .bx (.comp2 ..), .Name y py, .ListComp _ _ scope pos => okE cx e v && ((decide (cx.N[i]? = some y) && swB cx y py scope pos) || (locB cx i y && noLoc cx.sc (.Name y py)))
  | .nm i, .compB .., .Name y py, .ListComp _ _ _ _ => okE cx e v && (locB cx i y && noLoc cx.sc (.Name y py))
  | _, _, _, _ => okG cx g tg && okE cx e v && (!isCompE v || isSubE tg) && !isListE tg && (!(isTupE tg && isTupE v) || tupLoc cx.sc tg) && !isStar tg
def namesB (cx : SC) : List Nat → List Expr → Bool
  | [], [] => true
  | i :: js, .Name x _ :: es => locB cx i x && namesB cx js es
  | _, _ => false
mutual
def okS : SC → St → Stmt → Bool
  | cx, .asg g e, s => match s with | .Assign [tg] v _ => okAsg cx g e tg v | _ => false
  | cx, .par i j e f, s => match s with
    | .Assign [.Tuple [.Name x px, .Name y py] _ pt] (.Tuple [a, b] _ _) _ => decide (cx.N[i]? = some x) && decide (cx.N[j]? = some y) && decide (i ≠ j) && decide (x ≠ y) && decide (cx.sc.kind = .function) && decide (cx.sc.names.lookup x = some .local) && decide (cx.sc.names.lookup y = some .local) &&
      (py.line == px.line) && okE cx e a && okE cx f b && !isStar a && !isStar b && !([a, b].all (foldedForSure 8)) && !([a, b].all (constantsAlone 8))
    | _ => false
  | cx, .par3 i j l e f h, s => match s with
    | .Assign [.Tuple [.Name x px, .Name y py, .Name z pz] _ _] (.Tuple [a, b, c] _ _) _ => decide (cx.N[i]? = some x) && decide (cx.N[j]? = some y) && decide (cx.N[l]? = some z) && decide (i ≠ j) && decide (i ≠ l) && decide (j ≠ l) && decide (x ≠ y) && decide (x ≠ z) && decide (y ≠ z) &&
      decide (cx.sc.kind = .function) && decide (cx.sc.names.lookup x = some .local) && decide (cx.sc.names.lookup y = some .local) && decide (cx.sc.names.lookup z = some .local) && (py.line == px.line) && (pz.line == px.line) && okE cx e a && okE cx f b && okE cx h c && !isStar a && !isStar b && !isStar c && !([a, b, c].all (foldedForSure 8)) && !([a, b, c].all (constantsAlone 8))
    | _ => false
  | cx, .parN js es, s => match s with
    | .Assign [.Tuple tgs _ _] (.Tuple as _ _) _ => (decide (4 ≤ tgs.length) || tgs.any (noLoc cx.sc)) && namesB cx js tgs && okEs cx es as
    | _ => false
  | cx, .ret e, s => match s with | .Return (some v) _ => okE cx e v | _ => false
  | cx, .retN, s => match s with | .Return none _ => true | _ => false
  | cx, .ite c a b, s => match s with | .If t as bs _ => okT cx c t && okSs cx a as && okSs cx b bs | _ => false
  | cx, .for_ g it b, s => match s with | .For tg iter bs [] _ => okI cx it tg iter && okG cx g tg && okSs cx b bs && !isSetE iter | _ => false
  | cx, .while c b, s => match s with | .While t bs [] _ => okT cx c t && okSs cx b bs | _ => false
  | cx, .app o e, s => match s with | .Expr (.Call (.Attribute x m ap) [y] [] cp) _ => decide (m = "append") && (ap.endLine == cp.line) && okE cx o x && okE cx e y && !isStar y && !isSup x | _ => false
  | cx, .ext o e, s => match s with | .Expr (.Call (.Attribute x m ap) [y] [] cp) _ => decide (m = "extend") && (ap.endLine == cp.line) && okE cx o x && okE cx e y && !isStar y && !isSup x | _ => false
  | cx, .lrev o, s => match s with | .Expr (.Call (.Attribute x m ap) [] [] cp) _ => decide (m = "reverse") && (ap.endLine == cp.line) && okE cx o x && !isSup x | _ => false
  | cx, .lpop o e, s => match s with | .Expr (.Call (.Attribute x m ap) [y] [] cp) _ => decide (m = "pop") && (ap.endLine == cp.line) && okE cx o x && okE cx e y && !isStar y && !isSup x | _ => false
  | cx, .drop e, s => match s with | .Expr v _ => okE cx e v && !isCompE v | _ => false
  | cx, .sfld n o e, s => match s with | .Assign [.Attribute x m _] v _ => decide (n = m) && decide (n ∈ cx.flds) && okE cx o x && okE cx e v && !isCompE v | _ => false
  | cx, .raise c es, s => false
  | cx, .nev, s => true
  | cx, .pass, s => match s with | .Pass _ => true | _ => false
  | cx, .brk, s => match s with | .Break _ => true | _ => false
  | cx, .cnt, s => match s with | .Continue _ => true | _ => false
def okSs : SC → Sts → List Stmt → Bool
  | cx, .nil, ss => match ss with | [] => true | _ => false
  | cx, .cons s r, ss => match ss with | t :: ts => okS cx s t && okSs cx r ts | _ => false
end
mutual
def stS : St → List Nat
  | .asg g _ => tgS g
  | .par i j _ _ => [i, j]
  | .par3 i j l _ _ _ => [i, j, l]
  | .parN js _ => js
  | .ite _ a b => stsS a ++ stsS b
  | .for_ g _ b => tgS g ++ stsS b
  | .while _ b => stsS b
  | _ => []
def stsS : Sts → List Nat
  | .nil => []
  | .cons s r => stS s ++ stsS r
end
end VI

set_option maxHeartbeats 4000000
/-! V17: the checker is right: expressions. -/
namespace VI
open PySem L2 M
open LamX (CodeO TabB ExtN)
theorem star1 {e : Expr} {es : List Expr} {env : Env} (h : isStar e = false) : starEach (e :: es) env = (false, eval e env) :: starEach es env := by
  cases e <;> first | rfl | cases h
theorem asg1 {e : Expr} {es : List Expr} {env : Env} (h : isStar e = false) : assignEach (e :: es) env = (false, assign e env) :: assignEach es env := by
  cases e <;> first | rfl | cases h
theorem noStar {env : Env} {pos : Pos} : ∀ {as : List Expr}, (∀ a ∈ as, isStar a = false) → (backTo pos (starEach as env)).any (·.1) = false
  | [], _ => rfl
  | a :: as, h => by
    rw [star1 (h a (by simp))]
    show (false || (backTo pos (starEach as env)).any (·.1)) = false
    rw [noStar fun b hb => h b (by simp [hb])]; rfl
theorem asgLen {env : Env} : ∀ {as : List Expr}, (∀ a ∈ as, isStar a = false) → (assignEach as env).length = as.length ∧ (assignEach as env).findIdx? (·.1) = none
  | [], _ => ⟨rfl, rfl⟩
  | a :: as, h => by
    obtain ⟨h1, h2⟩ := asgLen (env := env) (as := as) fun b hb => h b (by simp [hb])
    rw [asg1 (h a (by simp))]
    refine ⟨by simp [h1], ?_⟩
    rw [List.findIdx?_cons, h2]; rfl
theorem kwAll {env : Env} {pos : Pos} : ∀ {ks : List Keyword}, (∀ k ∈ ks, k.arg.isSome = true) → (backToKw pos (keywordEach ks env)).all (·.1.isSome) = true ∧ (backToKw pos (keywordEach ks env)).any (·.1.isNone) = false ∧ (backToKw pos (keywordEach ks env)).filterMap (·.1) = ks.filterMap (·.arg)
  | [], _ => ⟨rfl, rfl, rfl⟩
  | ⟨nm, v, p⟩ :: ks, h => by
    obtain ⟨h1, h2, h3⟩ := kwAll (env := env) (pos := pos) (ks := ks) fun b hb => h b (by simp [hb])
    obtain ⟨x, hx⟩ := Option.isSome_iff_exists.mp (h _ (List.mem_cons_self ..))
    have hx : nm = some x := hx
    subst hx
    refine ⟨?_, ?_, ?_⟩
    · show (true && _) = true
      rw [Bool.true_and]; exact h1
    · show (false || _) = false
      rw [Bool.false_or]; exact h2
    · show x :: _ = x :: _
      rw [← h3]; rfl
theorem base_of {o : Expr} {f : Str} {env : Env} {w : Sem Value} (h : isSup o = false) : attributeBase o f env w = w := by
  unfold attributeBase
  split
  · cases h
  · rfl
theorem sw_of {e : Expr} {tg : Option Expr} {l : Nat} {env : Env} (h : isCompE e = false) : swapsWith e tg l env = pure false := by
  cases e <;> first | rfl | cases h
theorem sw_of' {e t : Expr} {l : Nat} {env : Env} (h : (!isCompE e || isSubE t) = true) : swapsWith e (some t) l env = pure false := by
  rw [Bool.or_eq_true] at h
  rcases h with h | h
  · exact sw_of (by rw [Bool.not_eq_true'] at h; exact h)
  · cases t <;> first | cases h | skip
    cases e <;> rfl
theorem fold_of {e : Expr} {env : Env} {x : Value} (h : isSetE e = false) : foldedSetIterable e env x = pure x := by
  cases e <;> first | rfl | cases h
theorem marks_of {op : CmpOp} {e : Expr} (h : isSetE e = false) : behindInMarks op e = false := by
  cases e <;> first | rfl | cases h
theorem ix_of {e : Expr} (h : isSliceE e = false) : PlainIx e := fun o i => by
  cases e <;> first | rfl | cases h
theorem plainT_of {e : Expr} {env : Env} (h : plainT e = true) : ∀ whole, isTrue e env whole = (do let v ← whole; standAt e.pos; holding [v] (truthy v)) := fun whole => by
  cases e <;> first
    | rfl
    | cases h
    | (rename_i op x p; cases op <;> first | rfl | cases h)
theorem pe_one {X : Cx} {op : BoolOp} {y : Expr} {p : Pos} {t : TE} (h : PE X y t) : PE X (.BoolOp op [y] p) t := ⟨fun pins s σ H Q I q => h.run pins s σ H Q I q⟩
def GKOk (g : G) (x : Str) : GK → Prop
  | .fn i => g.mg x = some (.ref (g.fi i).ad) ∧ ∃ F, g.T.fs[i]? = some F ∧ FOk g i F
  | .cls c => ∃ C, g.cl c = some C ∧ g.mg x = some (.ref C)
  | .cst k => ∃ u v d, g.mg x = some u ∧ RelV v u ∧ g.T.cs[k]? = some d ∧ ∀ F, Rep g.K g.cl F v d
  | .blt => g.mg x = none
structure GKs (g : G) (cx : SC) : Prop where
  gm : ∀ x k, cx.gm.lookup x = some k → GKOk g x k
  co : ClsOk g
  fld : ∀ x, x ∈ cx.flds → FldG g x
  ini : ∀ (c f : Nat), cx.is[c]? = some f → ∃ F, MkOk g c f F
  kb : ∀ e ∈ cx.kb, KB g.K (g.fi e.f).fd (g.fi e.f).ps e.ks e.m e.pm
  lok : ∀ L I, lamD cx L I = true → g.lok L I
structure CxOk (g : G) (ge : GE) (n : Nat) (W : WX) (cx : SC) (X : Cx) : Prop where
  x : XOk g X n W
  N : X.N = cx.N
  sc : X.env.scope = cx.sc
  top : cx.top = true → ∀ y, X.fn y = true
  gk : GKs g cx
  fn : ∀ (i : Nat) F, g.T.fs[i]? = some F → FnG g ge n i
  lamG : ∀ L, LamG g n L
  lam : cx.lam = true → ∃ c P, TabB X.base X.mg c P ∧ X.env.code = .ref c ∧ (P, X.env.qual ++ "<lambda>") ∈ g.NT ∧ ∀ p ∈ g.NT, p.1 = P → p.2 = X.env.qual ++ "<lambda>"
section
variable {g : G} {ge : GE} {X : Cx} {n : Nat} {W : WX} {cx : SC}
theorem CxOk.blk (c : CxOk g ge n W cx X) (scope : Scope) (s : Shared) (H : Hp) (C : Addr) (cl : List (Str × Addr)) (fp : List Addr) : CxOk g ge n WF (cx.blk scope) (X.blk s H scope (compEnvC scope cl C X.env) fp) where
  x := c.x.blk s H scope C cl fp
  N := c.N
  sc := by
    show relS scope X.env.scope = relS scope cx.sc
    rw [c.sc]
  top := fun h => by cases h
  gk := ⟨c.gk.gm, c.gk.co, c.gk.fld, c.gk.ini, c.gk.kb, c.gk.lok⟩
  fn := c.fn
  lamG := c.lamG
  lam := fun h => by cases h
theorem CxOk.vis (c : CxOk g ge n W cx X) {x : Str} (h : visB cx x = true) : Vis X.env.scope x := by
  unfold visB at h
  unfold Vis
  rw [c.sc]
  split at h
  · exact .inl (by assumption)
  · exact .inr (.inl (by assumption))
  · exact .inr (.inr (by assumption))
  · cases h
theorem CxOk.var (c : CxOk g ge n W cx X) {x : Str} {i : Nat} {p : Pos} (h : varB cx i x = true) : PE X (.Name x p) (tVar i) := by
  unfold varB at h
  simp only [Bool.and_eq_true, Bool.not_eq_true', decide_eq_true_eq] at h
  obtain ⟨⟨⟨h1, h2⟩, h3⟩, h4⟩ := h
  exact pe_var (by rw [c.N]; exact h1) (c.vis h2) h3 h4
theorem CxOk.glo (c : CxOk g ge n W cx X) {x : Str} {k : GK} (h : gloB cx x k = true) : Gl X x ∧ GKOk g x k ∧ (x == ("__debug__" : Str)) = false := by
  unfold gloB at h
  simp only [Bool.and_eq_true, Bool.not_eq_true', decide_eq_true_eq] at h
  obtain ⟨⟨h1, h2⟩, h3⟩ := h
  refine ⟨?_, c.gk.gm _ _ h2, h3⟩
  show X.env.scope.names.lookup x = _
  rw [c.sc]; exact h1
theorem CxOk.nm (c : CxOk g ge n W cx X) {x : Str} {i : Nat} {p : Pos} (h : locB cx i x = true) : PG X (.Name x p) (gName i) := by
  unfold locB at h
  simp only [Bool.and_eq_true, Bool.or_eq_true, decide_eq_true_eq] at h
  obtain ⟨h1, h2⟩ := h
  have hl : L2.Loc X.env.scope x := by
    unfold L2.Loc
    rw [c.sc]
    exact h2.imp id fun z => z.1
  refine pg_name c.x.nd (by rw [c.N]; exact h1) hl ?_
  rcases h2 with z | z
  · exact .inr (by rw [c.sc]; exact z)
  · exact .inl (c.top z.2 x)
theorem okEs_star : ∀ {es : Exs} {as : List Expr} {cx : SC}, okEs cx es as = true → ∀ a ∈ as, isStar a = false
  | .nil, [], _, _, a, ha => absurd ha (by simp)
  | .nil, _ :: _, _, h, _, _ => by simp [okEs] at h
  | .cons e es, [], _, h, _, _ => by simp [okEs] at h
  | .cons e es, b :: as, cx, h, a, ha => by
    simp only [okEs, Bool.and_eq_true, Bool.not_eq_true'] at h
    rcases List.mem_cons.mp ha with z | z
    · rw [z]; exact h.1.2
    · exact okEs_star h.2 a z
theorem okEs_len : ∀ {es : Exs} {as : List Expr} {cx : SC}, okEs cx es as = true → as.length = es.len
  | .nil, [], _, _ => rfl
  | .nil, _ :: _, _, h => by simp [okEs] at h
  | .cons e es, [], _, h => by simp [okEs] at h
  | .cons e es, b :: as, cx, h => by
    simp only [okEs, Bool.and_eq_true] at h
    simp [Exs.len, okEs_len h.2]
theorem okKs_some : ∀ {es : Exs} {as : List Keyword} {cx : SC}, okKs cx es as = true → (∀ k ∈ as, k.arg.isSome = true) ∧ (as.filterMap (·.arg)).length = es.len
  | .nil, [], _, _ => ⟨fun _ h => absurd h (by simp), rfl⟩
  | .nil, _ :: _, _, h => by simp [okKs] at h
  | .cons e es, [], _, h => by simp [okKs] at h
  | .cons e es, ⟨none, v, p⟩ :: as, cx, h => by simp [okKs] at h
  | .cons e es, ⟨some x, v, p⟩ :: as, cx, h => by
    simp only [okKs, Bool.and_eq_true] at h
    obtain ⟨h1, h2⟩ := okKs_some h.2
    refine ⟨fun k hk => ?_, ?_⟩
    · rcases List.mem_cons.mp hk with z | z
      · rw [z]; rfl
      · exact h1 k z
    · show (x :: as.filterMap (·.arg)).length = es.len + 1
      rw [List.length_cons, h2]
theorem okGs_star : ∀ {es : Tgs} {as : List Expr} {cx : SC}, okGs cx es as = true → (∀ a ∈ as, isStar a = false) ∧ as.length = es.len
  | .nil, [], _, _ => ⟨fun _ h => absurd h (by simp), rfl⟩
  | .nil, _ :: _, _, h => by simp [okGs] at h
  | .cons e es, [], _, h => by simp [okGs] at h
  | .cons e es, b :: as, cx, h => by
    simp only [okGs, Bool.and_eq_true, Bool.not_eq_true'] at h
    obtain ⟨h1, h2⟩ := okGs_star h.2
    refine ⟨fun a ha => ?_, by simp [Tgs.len, h2]⟩
    rcases List.mem_cons.mp ha with z | z
    · rw [z]; exact h.1.2
    · exact h1 a z
theorem evs_len {T : Tbl} {cf : CF} : ∀ {es : Exs} {φ : Sl} {β β' : Sto} {xs : List VV}, evs T cf es φ β = .ok xs β' → xs.length = es.len
  | .nil, _, _, _, _, h => by cases h; rfl
  | .cons e es, φ, β, β', xs, h => by
    simp only [evs] at h
    unfold bnd at h
    cases h1 : ev T cf e φ β with
    | bad => rw [h1] at h; cases h
    | exc x s => rw [h1] at h; cases h
    | ok v β1 =>
      rw [h1] at h
      dsimp only at h
      cases h2 : evs T cf es φ β1 with
      | bad => rw [h2] at h; cases h
      | exc x s => rw [h2] at h; cases h
      | ok vs β2 =>
        rw [h2] at h
        cases h
        rw [List.length_cons, evs_len h2]; rfl
end
end VI

set_option maxHeartbeats 4000000
/-! V18: the checker is right: expressions, the induction. -/
namespace VI
open PySem L2 M
open LamX (CodeO TabB ExtN)
section
variable {g : G} {ge : GE} {n : Nat}
theorem cst_ok {X : Cx} {W : WX} {d : D} {c : Const} {k : Nat} {p : Pos} (h : cstB d c = true) : PE X (.Constant c k p) (tEv g ge W fun _ => ret (.d d)) := by
  cases d <;> cases c <;> simp only [cstB, decide_eq_true_eq, Bool.false_eq_true] at h
  · exact se_const pe_non fun _ => .non
  · subst h; exact se_const pe_bl fun _ => .bl _
  · subst h; exact se_const pe_int fun _ => .int _
  · subst h; exact se_const pe_str fun _ => .str _
theorem cl_ok {X : Cx} {W : WX} {cx : SC} (c : CxOk g ge n W cx X) {cl : Cl} {e : Expr} (h : clB cx cl e = true) : PE X e (tC (clV g cl)) ∧ (∀ k, cl = .own k → (g.cl k).isSome = true) ∧ isStar e = false := by
  unfold clB at h
  split at h
  · rename_i x p
    cases cl with
    | own k =>
      obtain ⟨h1, ⟨C, hC, hm⟩, h3⟩ := c.glo (k := .cls k) h
      refine ⟨?_, fun j e => by cases e; rw [hC]; rfl, rfl⟩
      show PE X _ (tC (.ref ((g.cl k).getD 0)))
      rw [hC]
      exact pe_glob h1 (by rw [c.x.mg]; exact hm) rfl h3
    | int =>
      rw [Bool.and_eq_true, decide_eq_true_eq] at h
      obtain ⟨rfl, h⟩ := h
      obtain ⟨h1, hm, h3⟩ := c.glo (k := .blt) h
      exact ⟨pe_bltn h1 (by rw [c.x.mg]; exact hm) (u := .type "int") (by decide +kernel) rfl, (fun j e => by cases e), rfl⟩
    | str =>
      rw [Bool.and_eq_true, decide_eq_true_eq] at h
      obtain ⟨rfl, h⟩ := h
      obtain ⟨h1, hm, h3⟩ := c.glo (k := .blt) h
      exact ⟨pe_bltn h1 (by rw [c.x.mg]; exact hm) (u := .type "str") (by decide +kernel) rfl, (fun j e => by cases e), rfl⟩
    | bool =>
      rw [Bool.and_eq_true, decide_eq_true_eq] at h
      obtain ⟨rfl, h⟩ := h
      obtain ⟨h1, hm, h3⟩ := c.glo (k := .blt) h
      exact ⟨pe_bltn h1 (by rw [c.x.mg]; exact hm) (u := .type "bool") (by decide +kernel) rfl, (fun j e => by cases e), rfl⟩
    | tuple =>
      rw [Bool.and_eq_true, decide_eq_true_eq] at h
      obtain ⟨rfl, h⟩ := h
      obtain ⟨h1, hm, h3⟩ := c.glo (k := .blt) h
      exact ⟨pe_bltn h1 (by rw [c.x.mg]; exact hm) (u := .type "tuple") (by decide +kernel) rfl, (fun j e => by cases e), rfl⟩
    | list =>
      rw [Bool.and_eq_true, decide_eq_true_eq] at h
      obtain ⟨rfl, h⟩ := h
      obtain ⟨h1, hm, h3⟩ := c.glo (k := .blt) h
      exact ⟨pe_bltn h1 (by rw [c.x.mg]; exact hm) (u := .type "list") (by decide +kernel) rfl, (fun j e => by cases e), rfl⟩
    | dict =>
      rw [Bool.and_eq_true, decide_eq_true_eq] at h
      obtain ⟨rfl, h⟩ := h
      obtain ⟨h1, hm, h3⟩ := c.glo (k := .blt) h
      exact ⟨pe_bltn h1 (by rw [c.x.mg]; exact hm) (u := .type "dict") (by decide +kernel) rfl, (fun j e => by cases e), rfl⟩
  · cases h
theorem marks2 {o o' : CmpOp} {b c : Expr} (h : isSetE c = false) : lastMarks [o, o'] [b, c] = false := by
  show lastMarks [o'] [c] = false
  exact marks_of h
def PTW (X : Cx) (a : Expr) (t : TT) : Prop := PT X a t ∧ ∀ op vs p, a = .BoolOp op vs p → PW X a t
theorem own_map {N : List Str} : ∀ {own : List Nat}, own.all (fun i => decide (i < N.length)) = true → (own.filterMap fun i => (N[i]?).map fun x => (x, i)).map (·.2) = own
  | [], _ => rfl
  | i :: own, h => by
    rw [List.all_cons, Bool.and_eq_true] at h
    have hi := of_decide_eq_true h.1
    rw [List.filterMap_cons, List.getElem?_eq_getElem hi]
    show i :: _ = _
    rw [own_map h.2]
theorem par_def {cx : SC} {params : Arguments} {ps : List Str} {env : Env} (h : parB cx params ps = true) : defaultsOf params env = ([], []) := by
  unfold parB at h
  split at h
  · rfl
  · cases h
mutual
theorem okE_s : ∀ (e : Ex) {W : WX} {cx : SC} {X : Cx} (a : Expr), CxOk g ge n W cx X → okE cx e a = true → PE X a (tEv g ge W (ev g.T (callA g.T n) e))
  | .var i, W, cx, X, a, c, h => by
    cases a <;> simp only [okE, Bool.false_eq_true] at h
    exact se_var (c.var h)
  | .frz i, W, cx, X, a, c, h => by
    cases a <;> simp only [okE, Bool.false_eq_true] at h
    exact se_frz (c.var h)
  | .cst d, W, cx, X, a, c, h => by
    cases a <;> simp only [okE, Bool.false_eq_true] at h
    exact cst_ok h
  | .glb k, W, cx, X, a, c, h => by
    cases a <;> simp only [okE, Bool.false_eq_true] at h
    obtain ⟨h1, ⟨u, v, d, hm, rv, hd, rep⟩, h3⟩ := c.glo (k := .cst k) h
    refine (se_const (g := g) (ge := ge) (W := W) (pe_glob h1 (by rw [c.x.mg]; exact hm) rv h3) rep).weak fun σ H Q z => ?_
    obtain ⟨S, φ, β, e1, k1, sl, q1⟩ := z
    refine ⟨S, φ, β, e1, k1, sl, ?_⟩
    have e2 : ev g.T (callA g.T n) (.glb k) φ = M.ret (VV.d d) := by
      show (match g.T.cs[k]? with | some x => M.ret (VV.d x) | none => M.bad) = _
      rw [hd]
    rw [e2] at q1
    exact q1
  | .tup es, W, cx, X, a, c, h => by
    cases a <;> simp only [okE, Bool.false_eq_true] at h
    exact se_tup (okEs_s es _ c h)
  | .tupS e es, W, cx, X, a, c, h => by
    unfold okE at h
    split at h
    · rw [Bool.and_eq_true] at h
      exact se_tupS c.x (okE_s e _ c h.1) (okEs_s es _ c h.2) rfl
    · cases h
  | .tup2S e f, W, cx, X, a, c, h => by
    unfold okE at h
    split at h
    · simp only [Bool.and_eq_true] at h
      exact se_tup2S c.x (okE_s e _ c h.1) (okE_s f _ c h.2) rfl rfl
    · cases h
  | .fz f, W, cx, X, a, c, h => se_fz (okF_s f a c (by simpa only [okE] using h))
  | .bx f, W, cx, X, a, c, h => se_bx (okF_s f a c (by simpa only [okE] using h))
  | .fzL f, W, cx, X, a, c, h => se_fzL (okF_s f a c (by simpa only [okE] using h))
  | .frzL i, W, cx, X, a, c, h => by
    cases a <;> simp only [okE, Bool.false_eq_true] at h
    exact se_frzL (c.var h)
  | .compB e tg it own, W, cx, X, a, c, h => by
    unfold okE at h
    split at h
    · rename_i elt tge iter scope pos
      simp only [Bool.and_eq_true, Bool.not_eq_true'] at h
      obtain ⟨⟨⟨⟨⟨⟨h1, h2⟩, h4⟩, h5⟩, h6⟩, h7⟩, h8⟩ := h
      have eo := own_map h6
      have q := se_compB (pos := pos) (own := own.filterMap fun i => (cx.N[i]?).map fun x => (x, i)) (ts := tgS tg) c.x (fun i hi => by rw [eo]; exact of_decide_eq_true (List.all_eq_true.mp h7 i hi)) (okI_s it _ _ c h1) (by rw [c.N, c.sc]; exact blkOk_by h5)
        (fun s H C cl fp => okG_s tg _ (W := WF) (c.blk scope s H C cl fp) h2) (fun s H C cl fp => okE_s e _ (c.blk scope s H C cl fp) h4) (fun x => fold_of h8)
      rw [eo] at q
      exact q
    · cases h
  | .ixB i e, W, cx, X, a, c, h => by
    unfold okE at h
    split at h
    · simp only [Bool.and_eq_true, Bool.not_eq_true'] at h
      exact se_ixB c.x (c.var h.1.1) (okE_s e _ c h.1.2) (ix_of h.2)
    · cases h
  | .lenB i, W, cx, X, a, c, h => by
    unfold okE at h
    split at h
    · simp only [Bool.and_eq_true, decide_eq_true_eq] at h
      obtain ⟨⟨h1, h2⟩, h3⟩ := h
      obtain ⟨g1, hm, _⟩ := c.glo (k := .blt) h2
      exact se_lenB c.x h1 g1 hm (c.var h3) (star1 rfl)
    · cases h
  | .bin o e f, W, cx, X, a, c, h => by
    cases a <;> simp only [okE, Bool.false_eq_true] at h
    simp only [Bool.and_eq_true] at h
    have ho := of_decide_eq_true h.1.1
    subst ho
    exact se_bin c.x (okE_s e _ c h.1.2) (okE_s f _ c h.2)
  | .neg e, W, cx, X, a, c, h => by
    cases a with
    | UnaryOp op x p => cases op <;> simp only [okE, Bool.false_eq_true] at h; exact se_neg (okE_s e _ c h)
    | _ => simp only [okE, Bool.false_eq_true] at h
  | .cmp o e f, W, cx, X, a, c, h => by
    unfold okE at h
    split at h
    · simp only [Bool.and_eq_true, Bool.not_eq_true'] at h
      obtain ⟨⟨⟨h1, h2⟩, h3⟩, h4⟩ := h
      have ho := of_decide_eq_true h1
      subst ho
      exact se_cmp c.x (okE_s e _ c h2) (okE_s f _ c h3) (marks_of h4)
    · cases h
  | .chn o o' e f e3, W, cx, X, a, c, h => by
    unfold okE at h
    split at h
    · simp only [Bool.and_eq_true, Bool.not_eq_true'] at h
      obtain ⟨⟨⟨⟨⟨h1, h1'⟩, h2⟩, h3⟩, h4⟩, h5⟩ := h
      have ho := of_decide_eq_true h1
      have ho' := of_decide_eq_true h1'
      subst ho ho'
      exact se_chn c.x (okE_s e _ c h2) (okE_s f _ c h3) (okE_s e3 _ c h4) (marks2 h5)
    · cases h
  | .isN e, W, cx, X, a, c, h => by
    unfold okE at h
    split at h
    · exact se_isN (okE_s e _ c h)
    · cases h
  | .notN e, W, cx, X, a, c, h => by
    unfold okE at h
    split at h
    · exact se_notN (okE_s e _ c h)
    · cases h
  | .and e f, W, cx, X, a, c, h => by
    unfold okE at h
    split at h
    · simp only [Bool.and_eq_true] at h
      exact se_and (okE_s e _ c h.1) (pe_one (okE_s f _ c h.2))
    · simp only [Bool.and_eq_true] at h
      exact se_and (okE_s e _ c h.1) (okE_s f _ c h.2)
    · cases h
  | .or e f, W, cx, X, a, c, h => by
    unfold okE at h
    split at h
    · simp only [Bool.and_eq_true] at h
      exact se_or (okE_s e _ c h.1) (pe_one (okE_s f _ c h.2))
    · simp only [Bool.and_eq_true] at h
      exact se_or (okE_s e _ c h.1) (okE_s f _ c h.2)
    · cases h
  | .not e, W, cx, X, a, c, h => by
    cases a with
    | UnaryOp op x p => cases op <;> simp only [okE, Bool.false_eq_true] at h; exact se_not (okE_s e _ c h)
    | _ => simp only [okE, Bool.false_eq_true] at h
  | .ite t e f, W, cx, X, a, c, h => by
    cases a <;> simp only [okE, Bool.false_eq_true] at h
    simp only [Bool.and_eq_true] at h
    exact se_ite (okT_s t _ c h.1.1).1 (okE_s e _ c h.1.2) (okE_s f _ c h.2)
  | .call f es, W, cx, X, a, c, h => by
    unfold okE at h
    split at h
    · rw [Bool.and_eq_true] at h
      obtain ⟨h1, ⟨hm, F, hF, o⟩, h3⟩ := c.glo (k := .fn f) h.1
      have st := okEs_star h.2
      exact se_call c.x hF o (c.fn f F hF) h1 hm (okEs_s es _ c h.2) h3 (star1 (st _ (by simp))) (noStar fun b hb => st b (by simp [hb]))
    · rw [Bool.and_eq_true] at h
      obtain ⟨h1, ⟨hm, F, hF, o⟩, h3⟩ := c.glo (k := .fn f) h.1
      have e : es = .nil := by
        have := h.2
        cases es with
        | nil => rfl
        | cons _ _ => cases this
      subst e
      exact se_call0 c.x hF o (c.fn f F hF) h1 hm h3
    · cases h
  | .callK f es ks pm, W, cx, X, a, c, h => by
    unfold okE at h
    split at h
    · rename_i x p as k kws pos
      simp only [Bool.and_eq_true, decide_eq_true_eq] at h
      obtain ⟨⟨⟨h0, ha⟩, hk⟩, hb⟩ := h
      obtain ⟨h1, ⟨hm, F, hF, o⟩, h3⟩ := c.glo (k := .fn f) h0
      have kb := c.gk.kb _ hb
      obtain ⟨k1, k2⟩ := okKs_some hk
      obtain ⟨a1, a2, a3⟩ := kwAll (env := X.env) (pos := pos) k1
      have nl : ∀ φ β xs β', evs g.T (callA g.T n) ks φ β = .ok xs β' → xs.length = ((k :: kws).filterMap (·.arg)).length := fun φ β xs β' e => by rw [evs_len e, k2]
      cases as with
      | nil =>
        have e0 : es = .nil := by cases es with | nil => rfl | cons _ _ => simp [okEs] at ha
        subst e0
        exact se_callK0 c.x hF o (c.fn f F hF) h1 hm kb nl (okKs_s ks _ c hk) a1 a3 h3 (by rw [a2]; rfl)
      | cons y as =>
        have st := okEs_star ha
        have ml : ∀ φ β xs β', evs g.T (callA g.T n) es φ β = .ok xs β' → xs.length = (y :: as).length := fun φ β xs β' e => by rw [evs_len e, okEs_len ha]
        exact se_callK c.x hF o (c.fn f F hF) h1 hm kb ml nl (okEs_s es _ c ha) (okKs_s ks _ c hk) a1 a3 h3 (star1 (st _ (by simp))) (by rw [a2, Bool.or_false]; exact noStar st)
    · cases h
  | .callL f es np nf N b js, W, cx, X, a, c, h => by
    unfold okE at h
    split at h
    · rename_i x p y as pos
      split at h
      · rename_i params body scope lpos hlast
        simp only [Bool.and_eq_true] at h
        obtain ⟨⟨⟨⟨⟨h1, h2⟩, h3⟩, h4⟩, h5⟩, h6⟩ := h
        obtain ⟨hg, ⟨hm, F, hF, o⟩, hd⟩ := c.glo (k := .fn f) h3
        obtain ⟨cc, P, TB, hcode, hnt, hu⟩ := c.lam h2
        unfold lamS at h5
        simp only [Bool.and_eq_true, decide_eq_true_eq] at h5
        obtain ⟨⟨⟨⟨⟨l1, l2⟩, l3⟩, l4⟩, l5⟩, l6⟩ := h5
        rw [← c.sc] at l5
        have eas : y :: as = (y :: as).dropLast ++ [.Lambda params body scope lpos] := by
          have hne : (y :: as) ≠ [] := by simp
          rw [List.getLast?_eq_some_getLast hne] at hlast
          rw [← Option.some.inj hlast]
          exact (List.dropLast_concat_getLast hne).symm
        have st : ∀ z ∈ y :: as, isStar z = false := fun z hz => by
          rw [eas] at hz
          rcases List.mem_append.mp hz with w | w
          · exact okEs_star h4 z w
          · rw [List.mem_singleton.mp w]; rfl
        have pl := pe_lamE (X := X) (g := g) (pos := lpos) (params := params) (body := body) (scope := scope) TB hcode hnt hu (par_def l4) (NdefX.ndef_free l5)
        have pa := okEsL_s es (y :: as).dropLast _ _ c pl rfl h4
        rw [← eas] at pa
        refine se_callL (LI0 := ⟨X.env.qual ++ "<lambda>", params, body, scope, params.args.map (·.arg), js.filterMap fun j => cx.N[j]?, N⟩) c.x hF o (c.fn f F hF) hg hm pa hd (star1 (st _ (by simp))) (noStar fun b hb => st b (by simp [hb])) (c.top h1) (c.gk.lok _ _ ?_) ⟨rfl, rfl, rfl, rfl⟩ (NdefX.ndef_free l5) (NdefX.ndef_fr l5) (by rw [c.N]; exact l6)
        unfold lamD
        simp only [Bool.and_eq_true, decide_eq_true_eq]
        exact ⟨⟨⟨⟨⟨l1, trivial⟩, l2⟩, l3⟩, l4⟩, h6⟩
      · cases h
    · cases h
  | .callV i es, W, cx, X, a, c, h => by
    unfold okE at h
    split at h
    · rw [Bool.and_eq_true] at h
      have st := okEs_star h.2
      exact se_callV c.x c.lamG (c.var h.1) (okEs_s es _ c h.2) (star1 (st _ (by simp))) (noStar fun b hb => st b (by simp [hb]))
    · cases h
  | .get1 o k, W, cx, X, a, c, h => by
    unfold okE at h
    split at h
    · simp only [Bool.and_eq_true, Bool.not_eq_true', decide_eq_true_eq] at h
      obtain ⟨⟨⟨⟨⟨h1, h2⟩, h3⟩, h4⟩, h5⟩, h6⟩ := h
      subst h1
      refine se_get1 c.x (okE_s o _ c h3) (okE_s k _ c h4) ⟨base_of h6, ?_, h2, ?_⟩
      · rw [star1 h5]; rfl
      · rw [star1 h5]; rfl
    · cases h
  | .get2 o k d, W, cx, X, a, c, h => by
    unfold okE at h
    split at h
    · simp only [Bool.and_eq_true, Bool.not_eq_true', decide_eq_true_eq] at h
      obtain ⟨⟨⟨⟨⟨⟨⟨h1, h2⟩, h3⟩, h4⟩, h4'⟩, h5⟩, h5'⟩, h6⟩ := h
      subst h1
      rename_i x ap y z cp
      have st : starEach [y, z] X.env = [(false, eval y X.env), (false, eval z X.env)] := by
        rw [star1 h5, star1 h5']
        rfl
      refine se_get2 c.x (okE_s o _ c h3) (okE_s k _ c h4) (okE_s d _ c h4') ⟨base_of h6, ?_, h2, ?_⟩
      · rw [st]; rfl
      · rw [st]; rfl
    · cases h
  | .setd o k d, W, cx, X, a, c, h => by
    unfold okE at h
    split at h
    · simp only [Bool.and_eq_true, Bool.not_eq_true', decide_eq_true_eq] at h
      obtain ⟨⟨⟨⟨⟨⟨⟨h1, h2⟩, h3⟩, h4⟩, h4'⟩, h5⟩, h5'⟩, h6⟩ := h
      subst h1
      rename_i x ap y z cp
      have st : starEach [y, z] X.env = [(false, eval y X.env), (false, eval z X.env)] := by
        rw [star1 h5, star1 h5']
        rfl
      refine se_setd c.x (okE_s o _ c h3) (okE_s k _ c h4) (okE_s d _ c h4') (base_of h6) ?_ h2 (star1 h5) (star1 h5') ?_
      · rw [st]; rfl
      · rw [star1 h5']; rfl
    · cases h
  | .sumV e, W, cx, X, a, c, h => by
    unfold okE at h
    split at h
    · simp only [Bool.and_eq_true, Bool.not_eq_true', decide_eq_true_eq] at h
      obtain ⟨⟨⟨⟨⟨h1, h2⟩, h3⟩, h4⟩, h5⟩, h6⟩ := h
      subst h2
      obtain ⟨g1, hm, _⟩ := c.glo (k := .blt) h4
      exact se_sumV c.x h1 g1 hm (okE_s e _ c h5) (base_of h6) h3
    · cases h
  | .blt b es, W, cx, X, a, c, h => by
    unfold okE at h
    split at h
    · simp only [Bool.and_eq_true, decide_eq_true_eq] at h
      obtain ⟨⟨h0, h1⟩, h2⟩ := h
      obtain ⟨h1, hm, h3⟩ := c.glo (k := .blt) h1
      have st := okEs_star h2
      exact se_blt c.x h0 h1 hm (okEs_s es _ c h2) (star1 (st _ (by simp))) (noStar fun b hb => st b (by simp [hb]))
    · cases h
  | .isi e cl, W, cx, X, a, c, h => by
    unfold okE at h
    split at h
    · simp only [Bool.and_eq_true, Bool.not_eq_true', decide_eq_true_eq] at h
      obtain ⟨⟨⟨⟨h0, h1⟩, h2⟩, h3⟩, h4⟩ := h
      obtain ⟨h1, hm, _⟩ := c.glo (k := .blt) h1
      obtain ⟨pc, hcl, hst⟩ := cl_ok c h4
      exact se_isi c.x c.gk.co hcl h0 h1 hm (okE_s e _ c h2) pc (star1 h3) (star1 hst) (noStar fun b hb => by simp at hb; rw [hb]; exact hst)
    · cases h
  | .ix e i, W, cx, X, a, c, h => by
    cases a <;> simp only [okE, Bool.false_eq_true] at h
    simp only [Bool.and_eq_true, Bool.not_eq_true'] at h
    exact se_ix c.x (okE_s e _ c h.1.1) (okE_s i _ c h.1.2) (ix_of h.2)
  | .sl e lo hi, W, cx, X, a, c, h => by
    unfold okE at h
    split at h
    · simp only [Bool.and_eq_true] at h
      exact se_sl c.x (okE_s e _ c h.1.1) (okO_s lo _ c h.1.2) (okO_s hi _ c h.2)
    · cases h
  | .rev e, W, cx, X, a, c, h => by
    unfold okE at h
    split at h
    · exact se_rev c.x (okE_s e _ c h)
    · cases h
  | .fld f e, W, cx, X, a, c, h => by
    cases a <;> simp only [okE, Bool.false_eq_true] at h
    simp only [Bool.and_eq_true, Bool.not_eq_true', decide_eq_true_eq] at h
    obtain ⟨⟨⟨h0, h1⟩, h2⟩, h3⟩ := h
    subst h0
    exact se_fld c.x c.gk.co (c.gk.fld _ h1) c.fn (okE_s e _ c h2) (base_of h3)
  | .mk cn f es, W, cx, X, a, c, h => by
    unfold okE at h
    split at h
    · simp only [Bool.and_eq_true, decide_eq_true_eq] at h
      obtain ⟨⟨h0, h1⟩, h2⟩ := h
      obtain ⟨h5, ⟨C, hC, hm⟩, h3⟩ := c.glo (k := .cls cn) h0
      obtain ⟨F, mo⟩ := c.gk.ini cn f h1
      have st := okEs_star h2
      exact se_mk c.x mo (c.fn f F mo.fs) h5 hC hm (okEs_s es _ c h2) h3 (star1 (st _ (by simp))) (noStar fun b hb => st b (by simp [hb]))
    · cases h
theorem okEs_s : ∀ (e : Exs) {W : WX} {cx : SC} {X : Cx} (a : List Expr), CxOk g ge n W cx X → okEs cx e a = true → PA X a (tEvA g ge W (evs g.T (callA g.T n) e))
  | .nil, W, cx, X, a, c, h => by
    cases a <;> simp only [okEs, Bool.false_eq_true] at h
    exact sa_nil
  | .cons e es, W, cx, X, a, c, h => by
    cases a <;> simp only [okEs, Bool.false_eq_true] at h
    simp only [Bool.and_eq_true, Bool.not_eq_true'] at h
    exact sa_cons (okE_s e _ c h.1.1) (okEs_s es _ c h.2) (star1 h.1.2)
theorem okEsL_s : ∀ (e : Exs) {W : WX} {cx : SC} {X : Cx} (a : List Expr) (lam : Expr) (te : TE), CxOk g ge n W cx X → PE X lam te → isStar lam = false → okEs cx e a = true → PA X (a ++ [lam]) (tSnoc (tEvA g ge W (evs g.T (callA g.T n) e)) te)
  | .nil, W, cx, X, a, lam, te, c, hl, hs, h => by
    cases a <;> simp only [okEs, Bool.false_eq_true] at h
    exact sal_nil hl (star1 hs)
  | .cons e es, W, cx, X, a, lam, te, c, hl, hs, h => by
    cases a <;> simp only [okEs, Bool.false_eq_true] at h
    simp only [Bool.and_eq_true, Bool.not_eq_true'] at h
    exact sal_cons (okE_s e _ c h.1.1) (okEsL_s es _ lam te c hl hs h.2) (star1 h.1.2)
theorem okKs_s : ∀ (e : Exs) {W : WX} {cx : SC} {X : Cx} (a : List Keyword), CxOk g ge n W cx X → okKs cx e a = true → PK X a (tEvA g ge W (evs g.T (callA g.T n) e))
  | .nil, W, cx, X, a, c, h => by
    cases a <;> simp only [okKs, Bool.false_eq_true] at h
    exact sk_nil
  | .cons e es, W, cx, X, a, c, h => by
    unfold okKs at h
    split at h
    · rw [Bool.and_eq_true] at h
      exact sk_cons (okE_s e _ c h.1) (okKs_s es _ c h.2)
    · cases h
theorem okO_s : ∀ (e : Ox) {W : WX} {cx : SC} {X : Cx} (a : Option Expr), CxOk g ge n W cx X → okO cx e a = true → PO X a (tEvO g ge W (evO g.T (callA g.T n) e))
  | .no, W, cx, X, a, c, h => by
    cases a <;> simp only [okO, Bool.false_eq_true] at h
    exact so_no
  | .so e, W, cx, X, a, c, h => by
    cases a <;> simp only [okO, Bool.false_eq_true] at h
    exact so_so (okE_s e _ c h)
theorem okF_s : ∀ (f : Fx) {W : WX} {cx : SC} {X : Cx} (a : Expr), CxOk g ge n W cx X → okF cx f a = true → PE X a (tFr g ge W (evF g.T (callA g.T n) f))
  | .disp es, W, cx, X, a, c, h => by
    cases a <;> simp only [okF, Bool.false_eq_true] at h
    exact fr_disp (okEs_s es _ c h)
  | .lst es, W, cx, X, a, c, h => by
    unfold okF at h
    split at h
    · simp only [Bool.and_eq_true, decide_eq_true_eq] at h
      obtain ⟨⟨h0, h1⟩, h2⟩ := h
      obtain ⟨h1, hm, h3⟩ := c.glo (k := .blt) h1
      have st := okEs_star h2
      exact fr_lst c.x h0 h1 hm (okEs_s es _ c h2) (star1 (st _ (by simp))) (noStar fun b hb => st b (by simp [hb]))
    · cases h
  | .comp e tg it t own, W, cx, X, a, c, h => by
    unfold okF at h
    split at h
    · rename_i elt tge iter ifs scope pos
      simp only [Bool.and_eq_true, Bool.not_eq_true'] at h
      obtain ⟨⟨⟨⟨⟨⟨⟨h1, h2⟩, h3⟩, h4⟩, h5⟩, h6⟩, h7⟩, h8⟩ := h
      have eo := own_map h6
      have pts : ∀ (s : Shared) (H : Hp) (C : Addr) (cl : List (Str × Addr)) (fp : List Addr), PTs (X.blk s H scope (compEnvC scope cl C X.env) fp) ifs (tEvT g ge WF (evT g.T (callA g.T n) t)) := fun s H C cl fp => by
        cases ifs with
        | nil =>
          cases t <;> simp only [isTT, Bool.false_eq_true] at h3
          exact st_tt
        | cons y ys =>
          cases ys with
          | nil => exact st_one (okT_s t _ (c.blk scope s H C cl fp) h3).1
          | cons _ _ => cases h3
      have q := fr_comp (pos := pos) (own := own.filterMap fun i => (cx.N[i]?).map fun x => (x, i)) (ts := tgS tg) c.x (fun i hi => by rw [eo]; exact of_decide_eq_true (List.all_eq_true.mp h7 i hi)) (okI_s it _ _ c h1) (by rw [c.N, c.sc]; exact blkOk_by h5)
        (fun s H C cl fp => okG_s tg _ (W := WF) (c.blk scope s H C cl fp) h2) pts (fun s H C cl fp => okE_s e _ (c.blk scope s H C cl fp) h4) (fun x => fold_of h8)
      rw [eo] at q
      exact q
    · cases h
  | .comp2 e tg it t tg1 it1 t1 own own1, W, cx, X, a, c, h => by
    unfold okF at h
    split at h
    · rename_i w hw
      obtain ⟨pos, rfl⟩ := two_some hw
      obtain ⟨elt, tge, iter, ifs, tge1, iter1, ifs1, scope⟩ := w
      simp only [Bool.and_eq_true, Bool.not_eq_true'] at h
      obtain ⟨⟨⟨⟨⟨⟨⟨⟨⟨⟨⟨⟨⟨h1, h2⟩, h3⟩, g1⟩, g2⟩, g3⟩, h4⟩, h5⟩, h6⟩, h7⟩, g7⟩, g8⟩, h8⟩, g9⟩ := h
      have eo := own_map h6
      have ptsG : ∀ {ifs : List Expr} {t : Tx}, (match ifs with | [] => isTT t | [u] => okT (cx.blk scope) t u | _ => false) = true → (∀ (a : Expr) (s : Shared) (H : Hp) (C : Addr) (cl : List (Str × Addr)) (fp : List Addr), okT (cx.blk scope) t a = true → PT (X.blk s H scope (compEnvC scope cl C X.env) fp) a (tEvT g ge WF (evT g.T (callA g.T n) t))) →
          ∀ (s : Shared) (H : Hp) (C : Addr) (cl : List (Str × Addr)) (fp : List Addr), PTs (X.blk s H scope (compEnvC scope cl C X.env) fp) ifs (tEvT g ge WF (evT g.T (callA g.T n) t)) := fun {ifs t} h3 ht s H C cl fp => by
        cases ifs with
        | nil =>
          cases t <;> simp only [isTT, Bool.false_eq_true] at h3
          exact st_tt
        | cons y ys =>
          cases ys with
          | nil => exact st_one (ht _ s H C cl fp h3)
          | cons _ _ => cases h3
      have q := fr_comp2 (pos := pos) (own := own.filterMap fun i => (cx.N[i]?).map fun x => (x, i)) (own1 := own1) (ts := tgS tg) (ts1 := tgS tg1) c.x (fun i hi => by rw [eo]; exact of_decide_eq_true (List.all_eq_true.mp h7 i hi)) (fun i hi => of_decide_eq_true (List.all_eq_true.mp g7 i hi)) (fun i hi => by rw [eo]; exact of_decide_eq_true (List.all_eq_true.mp g8 i hi)) (okI_s it _ _ c h1) (by rw [c.N, c.sc]; exact blkOk_by h5)
        (fun s H C cl fp => okG_s tg _ (W := WF) (c.blk scope s H C cl fp) h2) (ptsG h3 fun a s H C cl fp h => (okT_s t _ (c.blk scope s H C cl fp) h).1) (fun s H C cl fp => okI_s it1 _ _ (c.blk scope s H C cl fp) g1) (fun s H C cl fp => okG_s tg1 _ (W := WF) (c.blk scope s H C cl fp) g2) (ptsG g3 fun a s H C cl fp h => (okT_s t1 _ (c.blk scope s H C cl fp) h).1) (fun s H C cl fp => okE_s e _ (c.blk scope s H C cl fp) h4) (fun x => fold_of h8) (fun env x => fold_of g9)
      rw [eo] at q
      exact q
    · cases h
  | .dcomp e f tg it t own, W, cx, X, a, c, h => by
    unfold okF at h
    split at h
    · rename_i kx vx tge iter ifs scope pos
      simp only [Bool.and_eq_true, Bool.not_eq_true'] at h
      obtain ⟨⟨⟨⟨⟨⟨⟨⟨h1, h2⟩, h3⟩, h4⟩, h4'⟩, h5⟩, h6⟩, h7⟩, h8⟩ := h
      have eo := own_map h6
      have pts : ∀ (s : Shared) (H : Hp) (C : Addr) (cl : List (Str × Addr)) (fp : List Addr), PTs (X.blk s H scope (compEnvC scope cl C X.env) fp) ifs (tEvT g ge WF (evT g.T (callA g.T n) t)) := fun s H C cl fp => by
        cases ifs with
        | nil =>
          cases t <;> simp only [isTT, Bool.false_eq_true] at h3
          exact st_tt
        | cons y ys =>
          cases ys with
          | nil => exact st_one (okT_s t _ (c.blk scope s H C cl fp) h3).1
          | cons _ _ => cases h3
      have q := fr_dcomp (pos := pos) (own := own.filterMap fun i => (cx.N[i]?).map fun x => (x, i)) (ts := tgS tg) c.x (fun i hi => by rw [eo]; exact of_decide_eq_true (List.all_eq_true.mp h7 i hi)) (okI_s it _ _ c h1) (by rw [c.N, c.sc]; exact blkOk_by h5)
        (fun s H C cl fp => okG_s tg _ (W := WF) (c.blk scope s H C cl fp) h2) pts (fun s H C cl fp => okE_s e _ (c.blk scope s H C cl fp) h4) (fun s H C cl fp => okE_s f _ (c.blk scope s H C cl fp) h4') (fun x => fold_of h8)
      rw [eo] at q
      exact q
    · cases h
  | .dpr e, W, cx, X, a, c, h => by
    unfold okF at h
    split at h
    · simp only [Bool.and_eq_true, Bool.not_eq_true', decide_eq_true_eq] at h
      obtain ⟨⟨⟨h0, h1⟩, h2⟩, h3⟩ := h
      obtain ⟨h1, hm, _⟩ := c.glo (k := .blt) h1
      exact fr_dpr c.x h0 h1 hm (okE_s e _ c h2) (star1 h3)
    · cases h
  | .lvals e, W, cx, X, a, c, h => by
    unfold okF at h
    split at h
    · simp only [Bool.and_eq_true, Bool.not_eq_true', decide_eq_true_eq] at h
      obtain ⟨⟨⟨⟨⟨h1, h2⟩, h3⟩, h4⟩, h5⟩, h6⟩ := h
      subst h2
      obtain ⟨g1, hm, _⟩ := c.glo (k := .blt) h4
      exact fr_lvals c.x h1 g1 hm (okE_s e _ c h5) (base_of h6) h3
    · cases h
  | .lkeys e, W, cx, X, a, c, h => by
    unfold okF at h
    split at h
    · simp only [Bool.and_eq_true, Bool.not_eq_true', decide_eq_true_eq] at h
      obtain ⟨⟨⟨h0, h1⟩, h2⟩, h3⟩ := h
      obtain ⟨h1, hm, _⟩ := c.glo (k := .blt) h1
      exact fr_lkeys c.x h0 h1 hm (okE_s e _ c h2) (star1 h3)
    · cases h
  | .sortE e, W, cx, X, a, c, h => by
    unfold okF at h
    split at h
    · rename_i w hw
      obtain rfl := sk_some hw
      simp only [Bool.and_eq_true, Bool.not_eq_true', decide_eq_true_eq] at h
      obtain ⟨⟨⟨⟨⟨⟨⟨h0, h1⟩, h2⟩, h3⟩, h4⟩, h5⟩, h6⟩, h7⟩ := h
      obtain ⟨h2, hm, _⟩ := c.glo (k := .blt) h2
      obtain ⟨cc, P, TB, hcode, hnt, hu⟩ := c.lam h5
      rw [← c.sc] at h7
      have pl := pe_lamE (X := X) (g := g) (pos := w.lpos) (params := w.params) (body := w.body) (scope := w.scope) TB hcode hnt hu (par_def h6) (NdefX.ndef_free h7)
      rw [h1]
      exact fr_sortE c.x h0 h2 hm (okE_s e _ c h3) (star1 h4) pl
    · cases h
  | .ss e, W, cx, X, a, c, h => by
    unfold okF at h
    split at h
    · rename_i w hw
      obtain rfl := ss_some hw
      simp only [Bool.and_eq_true, Bool.not_eq_true', decide_eq_true_eq] at h
      obtain ⟨⟨⟨⟨⟨h0, h1⟩, h2⟩, h3⟩, h4⟩, h5⟩ := h
      obtain ⟨h2, hm, _⟩ := c.glo (k := .blt) h2
      obtain ⟨h3, hm3, _⟩ := c.glo (k := .blt) h3
      exact fr_ss c.x h0 h1 h2 hm h3 hm3 (okE_s e _ c h4) (star1 h5)
    · cases h
  | .split e sep, W, cx, X, a, c, h => by
    unfold okF at h
    split at h
    · rename_i w hw
      obtain rfl := split_some hw
      simp only [Bool.and_eq_true, Bool.not_eq_true', decide_eq_true_eq] at h
      obtain ⟨⟨⟨⟨h0, h1⟩, h2⟩, h3⟩, h4⟩ := h
      rw [h0, h1]
      exact fr_split c.x (okE_s e _ c h3) (base_of h4) h2
    · cases h
  | .dnew t, W, cx, X, a, c, h => by
    unfold okF at h
    split at h
    · cases t
      · exact fr_dnew
      · exact fr_dnewT
    · cases h
  | .dd1 k v, W, cx, X, a, c, h => by
    unfold okF at h
    split at h
    · simp only [Bool.and_eq_true] at h
      exact fr_dd1 c.x (okE_s k _ c h.1) (okE_s v _ c h.2)
    · cases h
theorem okI_s : ∀ (f : It) {W : WX} {cx : SC} {X : Cx} (tg a : Expr), CxOk g ge n W cx X → okI cx f tg a = true → PI X tg a (tEvI g ge W (evI g.T (callA g.T n) f))
  | .seq e, W, cx, X, tg, a, c, h => by
    simp only [okI, Bool.and_eq_true] at h
    exact si_seq c.x (okE_s e _ c h.1)
  | .rng1 e, W, cx, X, tg, a, c, h => by
    unfold okI at h
    split at h
    · simp only [Bool.and_eq_true, Bool.not_eq_true', decide_eq_true_eq] at h
      obtain ⟨⟨⟨h0, h1⟩, h2⟩, h3⟩ := h
      obtain ⟨h1, hm, _⟩ := c.glo (k := .blt) h1
      exact si_rng1 c.x h0 h1 hm (okE_s e _ c h2) (star1 h3)
    · cases h
  | .rng2 e f, W, cx, X, tg, a, c, h => by
    unfold okI at h
    split at h
    · simp only [Bool.and_eq_true, Bool.not_eq_true', decide_eq_true_eq] at h
      obtain ⟨⟨⟨⟨⟨h0, h1⟩, h2⟩, h2'⟩, h3⟩, h4⟩ := h
      obtain ⟨h1, hm, _⟩ := c.glo (k := .blt) h1
      exact si_rng2 c.x h0 h1 hm (okE_s e _ c h2) (okE_s f _ c h2') (star1 h3) (star1 h4)
    · cases h
  | .enum e, W, cx, X, tg, a, c, h => by
    unfold okI at h
    split at h
    · simp only [Bool.and_eq_true, Bool.not_eq_true', decide_eq_true_eq] at h
      obtain ⟨⟨⟨⟨ht, h0⟩, h1⟩, h2⟩, h3⟩ := h
      obtain ⟨h1, hm, _⟩ := c.glo (k := .blt) h1
      cases tg <;> simp only [isTupE, Bool.false_eq_true] at ht
      exact si_enum c.x h0 h1 hm (okE_s e _ c h2) (star1 h3)
    · cases h
  | .enumS e, W, cx, X, tg, a, c, h => by
    unfold okI at h
    split at h
    · simp only [Bool.and_eq_true, Bool.not_eq_true', decide_eq_true_eq] at h
      obtain ⟨⟨⟨⟨ht, h0⟩, h1⟩, h2⟩, h3⟩ := h
      obtain ⟨h1, hm, _⟩ := c.glo (k := .blt) h1
      cases tg <;> simp only [isTupE, Bool.false_eq_true] at ht
      exact si_enumS c.x h0 h1 hm (okE_s e _ c h2) (star1 h3)
    · cases h
  | .zip e f, W, cx, X, tg, a, c, h => by
    unfold okI at h
    split at h
    · simp only [Bool.and_eq_true, Bool.not_eq_true', decide_eq_true_eq] at h
      obtain ⟨⟨⟨⟨⟨⟨ht, h0⟩, h1⟩, h2⟩, h2'⟩, h3⟩, h4⟩ := h
      obtain ⟨h1, hm, _⟩ := c.glo (k := .blt) h1
      cases tg <;> simp only [isTupE, Bool.false_eq_true] at ht
      exact si_zip c.x h0 h1 hm (okE_s e _ c h2) (okE_s f _ c h2') (star1 h3) (star1 h4)
    · cases h
  | .vals e, W, cx, X, tg, a, c, h => by
    unfold okI at h
    split at h
    · simp only [Bool.and_eq_true, Bool.not_eq_true', decide_eq_true_eq] at h
      obtain ⟨⟨⟨h0, h1⟩, h2⟩, h3⟩ := h
      subst h0
      exact si_vals (okE_s e _ c h2) (base_of h3) h1
    · cases h
  | .keys e, W, cx, X, tg, a, c, h => by
    simp only [okI, Bool.and_eq_true] at h
    exact si_keys (okE_s e _ c h.1)
  | .items e, W, cx, X, tg, a, c, h => by
    unfold okI at h
    split at h
    · simp only [Bool.and_eq_true, Bool.not_eq_true', decide_eq_true_eq] at h
      obtain ⟨⟨⟨⟨ht, h0⟩, h1⟩, h2⟩, h3⟩ := h
      subst h0
      cases tg <;> simp only [isTupE, Bool.false_eq_true] at ht
      exact si_items (okE_s e _ c h2) (base_of h3) h1
    · cases h
theorem okT_s : ∀ (t : Tx) {W : WX} {cx : SC} {X : Cx} (a : Expr), CxOk g ge n W cx X → okT cx t a = true → PTW X a (tEvT g ge W (evT g.T (callA g.T n) t))
  | .tt, W, cx, X, a, c, h => by simp only [okT, Bool.false_eq_true] at h
  | .val e, W, cx, X, a, c, h => by
    simp only [okT, Bool.and_eq_true] at h
    refine ⟨st_val (okE_s e _ c h.1) (plainT_of h.2), fun op vs p z => ?_⟩
    subst z
    have := h.2
    simp [plainT] at this
  | .cmp o e f, W, cx, X, a, c, h => by
    unfold okT at h
    split at h
    · simp only [Bool.and_eq_true, Bool.not_eq_true'] at h
      obtain ⟨⟨⟨h1, h2⟩, h3⟩, h4⟩ := h
      have ho := of_decide_eq_true h1
      subst ho
      exact ⟨st_cmp c.x (okE_s e _ c h2) (okE_s f _ c h3) (marks_of h4), fun op vs p z => by cases z⟩
    · cases h
  | .chn o o' e f e3, W, cx, X, a, c, h => by
    unfold okT at h
    split at h
    · simp only [Bool.and_eq_true, Bool.not_eq_true'] at h
      obtain ⟨⟨⟨⟨⟨h1, h1'⟩, h2⟩, h3⟩, h4⟩, h5⟩ := h
      have ho := of_decide_eq_true h1
      have ho' := of_decide_eq_true h1'
      subst ho ho'
      exact ⟨st_chn c.x (okE_s e _ c h2) (okE_s f _ c h3) (okE_s e3 _ c h4) (marks2 h5), fun op vs p z => by cases z⟩
    · cases h
  | .isN e, W, cx, X, a, c, h => by
    unfold okT at h
    split at h
    · exact ⟨st_isN (okE_s e _ c h), fun op vs p z => by cases z⟩
    · cases h
  | .notN e, W, cx, X, a, c, h => by
    unfold okT at h
    split at h
    · exact ⟨st_notN (okE_s e _ c h), fun op vs p z => by cases z⟩
    · cases h
  | .and e f, W, cx, X, a, c, h => by
    unfold okT at h
    split at h
    · simp only [Bool.and_eq_true] at h
      have q := st_and (pos := by assumption) (okT_s e _ c h.1).1 (pw_and1 (okT_s f _ c h.2).1)
      exact ⟨q.pt, fun _ _ _ _ => q⟩
    · simp only [Bool.and_eq_true] at h
      have q := st_and (okT_s e _ c h.1).1 ((okT_s f _ c h.2).2 _ _ _ rfl)
      exact ⟨q.pt, fun _ _ _ _ => q⟩
    · cases h
  | .or e f, W, cx, X, a, c, h => by
    unfold okT at h
    split at h
    · simp only [Bool.and_eq_true] at h
      have q := st_or (pos := by assumption) (okT_s e _ c h.1).1 (pw_or1 (okT_s f _ c h.2).1)
      exact ⟨q.pt, fun _ _ _ _ => q⟩
    · simp only [Bool.and_eq_true] at h
      have q := st_or (okT_s e _ c h.1).1 ((okT_s f _ c h.2).2 _ _ _ rfl)
      exact ⟨q.pt, fun _ _ _ _ => q⟩
    · cases h
  | .not e, W, cx, X, a, c, h => by
    cases a with
    | UnaryOp op x p =>
      cases op <;> simp only [okT, Bool.false_eq_true] at h
      exact ⟨st_not (okT_s e _ c h).1, fun op vs p z => by cases z⟩
    | _ => simp only [okT, Bool.false_eq_true] at h
theorem okG_s : ∀ (t : Tg) {W : WX} {cx : SC} {X : Cx} (a : Expr), CxOk g ge n W cx X → okG cx t a = true → PG X a (gEv g (tgS t) (setT g.T (callA g.T n) t))
  | .nm i, W, cx, X, a, c, h => by
    cases a <;> simp only [okG, Bool.false_eq_true] at h
    exact sg_nm (c.nm h)
  | .tup gs, W, cx, X, a, c, h => by
    cases a <;> simp only [okG, Bool.false_eq_true] at h
    obtain ⟨st, hl⟩ := okGs_star h
    obtain ⟨l1, l2⟩ := asgLen (env := X.env) st
    exact sg_tup c.x (okGs_s gs _ c h) (fun xs φ β φ' β' e => (setTs_len e).trans hl.symm) l1 l2
  | .sub o i, W, cx, X, a, c, h => by
    cases a <;> simp only [okG, Bool.false_eq_true] at h
    simp only [Bool.and_eq_true, Bool.not_eq_true'] at h
    refine sg_sub c.x (okE_s o _ c h.1.1) (okE_s i _ c h.1.2) (fun _ => ?_)
    have hs := h.2
    rename_i y _ _
    cases y <;> first | rfl | cases hs
theorem okGs_s : ∀ (t : Tgs) {W : WX} {cx : SC} {X : Cx} (a : List Expr), CxOk g ge n W cx X → okGs cx t a = true → PGs X a (gEvs g (tgsS t) (setTs g.T (callA g.T n) t))
  | .nil, W, cx, X, a, c, h => by
    cases a <;> simp only [okGs, Bool.false_eq_true] at h
    refine (sgs_nil (g := g)).weak fun vs σ H Q ⟨S, φ, β, xs, e, k, sl, r, q⟩ => ⟨S, φ, β, xs, e, k, sl, r, ?_⟩
    cases xs <;> exact q
  | .cons t ts, W, cx, X, a, c, h => by
    cases a <;> simp only [okGs, Bool.false_eq_true] at h
    simp only [Bool.and_eq_true, Bool.not_eq_true'] at h
    refine (sgs_cons (okG_s t _ c h.1.1) (okGs_s ts _ c h.2) (by rw [asg1 h.1.2]; rfl)).weak fun vs σ H Q ⟨S, φ, β, xs, e, k, sl, r, q⟩ => ⟨S, φ, β, xs, e, k, sl, r, ?_⟩
    cases xs <;> exact q
end
end
end VI

set_option maxHeartbeats 4000000
/-! V19: the checker is right: statements. -/
namespace VI
open PySem L2 M
open LamX (CodeO TabB ExtN)
theorem star_m (a : Expr) : (match a with | .Starred .. => true | _ => false) = isStar a := by cases a <;> rfl
theorem swapped2 {x y : Str} {px py pt : Pos} {kt k2 : Nat} {pt2 : Pos} {a b : Expr} {env : Env} (hk : env.scope.kind = .function) (hx : env.scope.names.lookup x = some .local) (hy : env.scope.names.lookup y = some .local) (hxy : x ≠ y) (hl : (py.line == px.line) = true)
    (ha : isStar a = false) (hb : isStar b = false) (hf : [a, b].all (foldedForSure 8) = false) (hc : [a, b].all (constantsAlone 8) = false) : swappedStores [.Tuple [.Name x px, .Name y py] kt pt] (.Tuple [a, b] k2 pt2) env = pure (some [x, y]) := by
  have kx : env.kindOf x = some .local := hx
  have ky : env.kindOf y = some .local := hy
  have kb : env.blockKind = .function := by unfold Env.blockKind; rw [hk]; rfl
  have n1 : ([Expr.Name x px, Expr.Name y py].filterMap fun
    | .Name id pos => if env.kindOf id == some .local && pos.line == px.line then some id else none
    | _ => none) = [x, y] := by
    simp only [List.filterMap_cons, List.filterMap_nil, kx, ky, hl, beq_self_eq_true, Bool.and_self, if_true]
  have n2 : [x, y].eraseDups.length = 2 := by
    rw [List.eraseDups_cons]
    have : ([y].filter fun b => !b == x) = [y] := by
      rw [List.filter_cons_of_pos]
      · rfl
      · have : (y == x) = false := by rw [beq_eq_false_iff_ne]; exact Ne.symm hxy
        rw [this]; rfl
    rw [this]
    rfl
  have n3 : ([a, b].any fun | .Starred .. => true | _ => false) = false := by
    simp only [List.any_cons, List.any_nil, star_m, ha, hb, Bool.or_self]
  unfold swappedStores
  dsimp only
  refine (if_neg ?_).trans ((if_neg ?_).trans ((if_neg ?_).trans ((if_neg ?_).trans ((if_neg ?_).trans ?_))))
  · rw [kb]; exact fun z => Bool.false_ne_true z
  · intro z
    exact absurd (n3.symm.trans z) (by decide)
  · intro z
    have z : (([x, y].length != 2) || ([x, y].eraseDups.length != [x, y].length)) = true := by
      rw [← n1]; exact z
    rw [n2] at z
    exact Bool.false_ne_true z
  · rw [hf]; decide
  · rw [hc]; decide
  · rw [← n1]; rfl
theorem swapped3 {x y z : Str} {px py pz pt : Pos} {kt k2 : Nat} {pt2 : Pos} {a b c : Expr} {env : Env} (hk : env.scope.kind = .function) (hx : env.scope.names.lookup x = some .local) (hy : env.scope.names.lookup y = some .local) (hz : env.scope.names.lookup z = some .local)
    (hxy : x ≠ y) (hxz : x ≠ z) (hyz : y ≠ z) (hl : (py.line == px.line) = true) (hl2 : (pz.line == px.line) = true)
    (ha : isStar a = false) (hb : isStar b = false) (hc0 : isStar c = false) (hf : [a, b, c].all (foldedForSure 8) = false) (hc : [a, b, c].all (constantsAlone 8) = false) : swappedStores [.Tuple [.Name x px, .Name y py, .Name z pz] kt pt] (.Tuple [a, b, c] k2 pt2) env = pure (some [x, y, z]) := by
  have kx : env.kindOf x = some .local := hx
  have ky : env.kindOf y = some .local := hy
  have kz : env.kindOf z = some .local := hz
  have kb : env.blockKind = .function := by unfold Env.blockKind; rw [hk]; rfl
  have n1 : ([Expr.Name x px, Expr.Name y py, Expr.Name z pz].filterMap fun
    | .Name id pos => if env.kindOf id == some .local && pos.line == px.line then some id else none
    | _ => none) = [x, y, z] := by
    simp only [List.filterMap_cons, List.filterMap_nil, kx, ky, kz, hl, hl2, beq_self_eq_true, Bool.and_self, if_true]
  have e1 : (y == x) = false := by rw [beq_eq_false_iff_ne]; exact Ne.symm hxy
  have e2 : (z == x) = false := by rw [beq_eq_false_iff_ne]; exact Ne.symm hxz
  have e3 : (z == y) = false := by rw [beq_eq_false_iff_ne]; exact Ne.symm hyz
  have n2 : [x, y, z].eraseDups.length = 3 := by
    rw [List.eraseDups_cons]
    have : ([y, z].filter fun b => !b == x) = [y, z] := by
      rw [List.filter_cons_of_pos (by rw [e1]; rfl), List.filter_cons_of_pos (by rw [e2]; rfl)]; rfl
    rw [this, List.eraseDups_cons]
    have : ([z].filter fun b => !b == y) = [z] := by
      rw [List.filter_cons_of_pos (by rw [e3]; rfl)]; rfl
    rw [this]
    rfl
  have n3 : ([a, b, c].any fun | .Starred .. => true | _ => false) = false := by
    simp only [List.any_cons, List.any_nil, star_m, ha, hb, hc0, Bool.or_self]
  unfold swappedStores
  dsimp only
  refine (if_neg ?_).trans ((if_neg ?_).trans ((if_neg ?_).trans ((if_neg ?_).trans ((if_neg ?_).trans ?_))))
  · rw [kb]; exact fun z => Bool.false_ne_true z
  · intro z
    exact absurd (n3.symm.trans z) (by decide)
  · intro w
    have w : (([x, y, z].length != 3) || ([x, y, z].eraseDups.length != [x, y, z].length)) = true := by
      rw [← n1]; exact w
    rw [n2] at w
    exact Bool.false_ne_true w
  · rw [hf]; decide
  · rw [hc]; decide
  · rw [← n1]; rfl
theorem storesN {tgs vs : List Expr} {kt k2 : Nat} {pt pt2 : Pos} {env : Env} (h : 4 ≤ tgs.length) : swappedStores [.Tuple tgs kt pt] (.Tuple vs k2 pt2) env = pure none := by
  unfold swappedStores
  dsimp only
  refine if_pos ?_
  have h1 : (tgs.length == 2) = false := by rw [beq_eq_false_iff_ne]; omega
  have h2 : (tgs.length == 3) = false := by rw [beq_eq_false_iff_ne]; omega
  rw [h1, h2]; rfl
theorem stores_of {tg v : Expr} {env : Env} (h : isListE tg = false) (h2 : (isTupE tg && isTupE v) = false) : swappedStores [tg] v env = pure none := by
  cases tg with
  | List _ _ => cases h
  | Tuple _ _ _ => cases v <;> first | rfl | (simp [isTupE] at h2)
  | _ => rfl
section
variable {g : G} {ge : GE} {n : Nat}
theorem comp_parts {W : WX} {cx : SC} {X : Cx} {e : Ex} {tg : Tg} {it : It} {t : Tx} {own : List Nat} {elt : Expr} {gens : List Comprehension} {scope : Scope} {pos : Pos} (c : CxOk g ge n W cx X) (h : okF cx (.comp e tg it t own) (.ListComp elt gens scope pos) = true) :
    ∃ tge iter ifs ow, gens = [⟨tge, iter, ifs, 0⟩] ∧ ow.map (·.2) = own ∧ (∀ i ∈ tgS tg, i ∈ own) ∧ PI X tge iter (tEvI g ge W (evI g.T (callA g.T n) it)) ∧ BlkOk X.N X.env.scope scope ow ∧
      (∀ (s : Shared) (H : Hp) (C : Addr) (cl : List (Str × Addr)) (fp : List Addr), PG (X.blk s H scope (compEnvC scope cl C X.env) fp) tge (gEv g (tgS tg) (setT g.T (callA g.T n) tg))) ∧
      (∀ (s : Shared) (H : Hp) (C : Addr) (cl : List (Str × Addr)) (fp : List Addr), PTs (X.blk s H scope (compEnvC scope cl C X.env) fp) ifs (tEvT g ge WF (evT g.T (callA g.T n) t))) ∧
      (∀ (s : Shared) (H : Hp) (C : Addr) (cl : List (Str × Addr)) (fp : List Addr), PE (X.blk s H scope (compEnvC scope cl C X.env) fp) elt (tEv g ge WF (ev g.T (callA g.T n) e))) ∧ ∀ x, foldedSetIterable iter X.env x = pure x := by
  unfold okF at h
  split at h
  · rename_i elt' tge iter ifs scope' pos' heq
    cases heq
    simp only [Bool.and_eq_true, Bool.not_eq_true'] at h
    obtain ⟨⟨⟨⟨⟨⟨⟨h1, h2⟩, h3⟩, h4⟩, h5⟩, h6⟩, h7⟩, h8⟩ := h
    refine ⟨tge, iter, ifs, own.filterMap fun i => (cx.N[i]?).map fun x => (x, i), rfl, own_map h6, fun i hi => of_decide_eq_true (List.all_eq_true.mp h7 i hi), okI_s it _ _ c h1, by rw [c.N, c.sc]; exact blkOk_by h5,
      fun s H C cl fp => okG_s tg _ (W := WF) (c.blk scope s H C cl fp) h2, fun s H C cl fp => ?_, fun s H C cl fp => okE_s e _ (c.blk scope s H C cl fp) h4, fun x => fold_of h8⟩
    cases ifs with
    | nil =>
      cases t <;> simp only [isTT, Bool.false_eq_true] at h3
      exact st_tt
    | cons y ys =>
      cases ys with
      | nil => exact st_one (okT_s t _ (c.blk scope s H C cl fp) h3).1
      | cons _ _ => cases h3
  · cases h
theorem comp2_parts {W : WX} {cx : SC} {X : Cx} {e : Ex} {tg tg1 : Tg} {it it1 : It} {t t1 : Tx} {own own1 : List Nat} {elt : Expr} {gens : List Comprehension} {scope : Scope} {pos : Pos} (c : CxOk g ge n W cx X) (h : okF cx (.comp2 e tg it t tg1 it1 t1 own own1) (.ListComp elt gens scope pos) = true) :
    ∃ tge iter ifs tge1 iter1 ifs1 ow, gens = [⟨tge, iter, ifs, 0⟩, ⟨tge1, iter1, ifs1, 0⟩] ∧ ow.map (·.2) = own ∧ (∀ i ∈ tgS tg, i ∈ own) ∧ (∀ i ∈ tgS tg1, i ∈ own1) ∧ (∀ i ∈ own1, i ∈ own) ∧ PI X tge iter (tEvI g ge W (evI g.T (callA g.T n) it)) ∧ BlkOk X.N X.env.scope scope ow ∧
      (∀ (s : Shared) (H : Hp) (C : Addr) (cl : List (Str × Addr)) (fp : List Addr), PG (X.blk s H scope (compEnvC scope cl C X.env) fp) tge (gEv g (tgS tg) (setT g.T (callA g.T n) tg))) ∧
      (∀ (s : Shared) (H : Hp) (C : Addr) (cl : List (Str × Addr)) (fp : List Addr), PTs (X.blk s H scope (compEnvC scope cl C X.env) fp) ifs (tEvT g ge WF (evT g.T (callA g.T n) t))) ∧
      (∀ (s : Shared) (H : Hp) (C : Addr) (cl : List (Str × Addr)) (fp : List Addr), PI (X.blk s H scope (compEnvC scope cl C X.env) fp) tge1 iter1 (tEvI g ge WF (evI g.T (callA g.T n) it1))) ∧
      (∀ (s : Shared) (H : Hp) (C : Addr) (cl : List (Str × Addr)) (fp : List Addr), PG (X.blk s H scope (compEnvC scope cl C X.env) fp) tge1 (gEv g (tgS tg1) (setT g.T (callA g.T n) tg1))) ∧
      (∀ (s : Shared) (H : Hp) (C : Addr) (cl : List (Str × Addr)) (fp : List Addr), PTs (X.blk s H scope (compEnvC scope cl C X.env) fp) ifs1 (tEvT g ge WF (evT g.T (callA g.T n) t1))) ∧
      (∀ (s : Shared) (H : Hp) (C : Addr) (cl : List (Str × Addr)) (fp : List Addr), PE (X.blk s H scope (compEnvC scope cl C X.env) fp) elt (tEv g ge WF (ev g.T (callA g.T n) e))) ∧ (∀ x, foldedSetIterable iter X.env x = pure x) ∧ ∀ env x, foldedSetIterable iter1 env x = pure x := by
  unfold okF at h
  split at h
  · rename_i w hw
    obtain ⟨pos', heq⟩ := two_some hw
    obtain ⟨elt, tge, iter, ifs, tge1, iter1, ifs1, scope⟩ := w
    cases heq
    simp only [Bool.and_eq_true, Bool.not_eq_true'] at h
    obtain ⟨⟨⟨⟨⟨⟨⟨⟨⟨⟨⟨⟨⟨h1, h2⟩, h3⟩, g1⟩, g2⟩, g3⟩, h4⟩, h5⟩, h6⟩, h7⟩, g7⟩, g8⟩, h8⟩, g9⟩ := h
    have ptsG : ∀ {ifs : List Expr} {t : Tx}, (match ifs with | [] => isTT t | [u] => okT (cx.blk scope) t u | _ => false) = true → (∀ (a : Expr) (s : Shared) (H : Hp) (C : Addr) (cl : List (Str × Addr)) (fp : List Addr), okT (cx.blk scope) t a = true → PT (X.blk s H scope (compEnvC scope cl C X.env) fp) a (tEvT g ge WF (evT g.T (callA g.T n) t))) →
        ∀ (s : Shared) (H : Hp) (C : Addr) (cl : List (Str × Addr)) (fp : List Addr), PTs (X.blk s H scope (compEnvC scope cl C X.env) fp) ifs (tEvT g ge WF (evT g.T (callA g.T n) t)) := fun {ifs t} h3 ht s H C cl fp => by
      cases ifs with
      | nil =>
        cases t <;> simp only [isTT, Bool.false_eq_true] at h3
        exact st_tt
      | cons y ys =>
        cases ys with
        | nil => exact st_one (ht _ s H C cl fp h3)
        | cons _ _ => cases h3
    exact ⟨tge, iter, ifs, tge1, iter1, ifs1, own.filterMap fun i => (cx.N[i]?).map fun x => (x, i), rfl, own_map h6, fun i hi => of_decide_eq_true (List.all_eq_true.mp h7 i hi), fun i hi => of_decide_eq_true (List.all_eq_true.mp g7 i hi), fun i hi => of_decide_eq_true (List.all_eq_true.mp g8 i hi), okI_s it _ _ c h1, by rw [c.N, c.sc]; exact blkOk_by h5,
      fun s H C cl fp => okG_s tg _ (W := WF) (c.blk scope s H C cl fp) h2, ptsG h3 fun a s H C cl fp h => (okT_s t _ (c.blk scope s H C cl fp) h).1, fun s H C cl fp => okI_s it1 _ _ (c.blk scope s H C cl fp) g1, fun s H C cl fp => okG_s tg1 _ (W := WF) (c.blk scope s H C cl fp) g2, ptsG g3 fun a s H C cl fp h => (okT_s t1 _ (c.blk scope s H C cl fp) h).1, fun s H C cl fp => okE_s e _ (c.blk scope s H C cl fp) h4, fun x => fold_of h8, fun env x => fold_of g9⟩
  · cases h
theorem sw_cell {elt : Expr} {gs : List Comprehension} {scope : Scope} {pos py : Pos} {y : Str} {l : Nat} {env : Env} (h : noLoc env.scope (.Name y py) = true) : swapsWith (.ListComp elt gs scope pos) (some (.Name y py)) l env = pure false := by
  have h1 : ¬ env.scope.names.lookup y = some .local := by
    unfold noLoc at h
    simpa using h
  have h2 : (env.kindOf y == some .local) = false := by
    rw [beq_eq_false_iff_ne]; exact h1
  unfold swapsWith
  simp only [h2, Bool.and_false, Bool.false_and]
theorem fm_lt {α β : Type} {f : α → Option β} : ∀ {l : List α}, (∃ x ∈ l, f x = none) → (l.filterMap f).length < l.length
  | [], h => by obtain ⟨x, hx, _⟩ := h; cases hx
  | a :: l, h => by
    have le : (l.filterMap f).length ≤ l.length := List.length_filterMap_le _ _
    cases e : f a with
    | none => rw [List.filterMap_cons_none e, List.length_cons]; omega
    | some b =>
      rw [List.filterMap_cons_some e, List.length_cons, List.length_cons]
      obtain ⟨x, hx, hn⟩ := h
      rcases List.mem_cons.mp hx with z | z
      · rw [z, e] at hn; cases hn
      · have := fm_lt ⟨x, z, hn⟩
        omega
theorem stores_cell {ts vs : List Expr} {k k2 : Nat} {p p2 : Pos} {env : Env} (h : ts.any (noLoc env.scope) = true) : swappedStores [.Tuple ts k p] (.Tuple vs k2 p2) env = pure none := by
  obtain ⟨x, hx, hn⟩ := List.any_eq_true.mp h
  unfold swappedStores
  dsimp only
  split
  · rfl
  · split
    · rfl
    · refine if_pos ?_
      rw [Bool.or_eq_true]
      left
      rw [bne_iff_ne]
      refine Nat.ne_of_lt (fm_lt ⟨x, hx, ?_⟩)
      cases x with
      | Name y py =>
        have h1 : ¬ env.scope.names.lookup y = some .local := by
          unfold noLoc at hn
          simpa using hn
        have h2 : (env.kindOf y == some .local) = false := by
          rw [beq_eq_false_iff_ne]; exact h1
        dsimp only
        rw [h2, Bool.false_and]
        rfl
      | _ => rfl
theorem okAsg_s {W : WX} {cx : SC} {X : Cx} {tg : Tg} {e : Ex} {t v : Expr} {pos : Pos} (c : CxOk g ge n W cx X) (h : okAsg cx tg e t v = true) :
    PS X (.Assign [t] v pos) (tSt g ge W (tgS tg) fun φ => bnd (ev g.T (callA g.T n) e φ) fun v => bnd (noExc (setT g.T (callA g.T n) tg v φ)) fun φ' => ret (.nxt, φ')) := by
  unfold okAsg at h
  split at h
  · rename_i i e1 g1 it1 t1 own1 y py elt gens scope pos1
    rw [Bool.and_eq_true] at h
    obtain ⟨h2, h3⟩ := h
    rw [Bool.or_eq_true] at h3
    rcases h3 with h3 | h3
    · rw [Bool.and_eq_true, decide_eq_true_eq] at h3
      obtain ⟨h1, h3⟩ := h3
      unfold swB at h3
      simp only [Bool.and_eq_true, decide_eq_true_eq, Bool.not_eq_true'] at h3
      obtain ⟨⟨⟨h4, h5⟩, h6⟩, h7⟩ := h3
      simp only [okE] at h2
      obtain ⟨tge, iter, ifs, ow, rfl, eo, hts, pi, bk, pg, pt, pe, fd⟩ := comp_parts c h2
      refine ss_setLc (own := ow) (mt := evT g.T (callA g.T n) t1) (me := ev g.T (callA g.T n) e1) c.x (by rw [c.N]; exact h1) (by rw [c.sc]; exact h5) (sw_true (by rw [c.sc]; exact h4) (by rw [c.sc]; exact h5) h6 h7) (fun i hi => by rw [eo]; exact hts i hi) pi bk pg pt pe fd fun {σ H Q} z => ?_
      rw [eo]
      exact fz_fr z
    · rw [Bool.and_eq_true] at h3
      exact ss_asg (okE_s _ _ c h2) (sg_nm (c.nm h3.1)) (sw_cell (l := pos.line) (by rw [c.sc]; exact h3.2)) (stores_of rfl rfl) rfl
  · rename_i i e1 g1 it1 t1 own1 y py elt gens scope pos1
    rw [Bool.and_eq_true] at h
    obtain ⟨h2, h3⟩ := h
    rw [Bool.or_eq_true] at h3
    rcases h3 with h3 | h3
    · rw [Bool.and_eq_true, decide_eq_true_eq] at h3
      obtain ⟨h1, h3⟩ := h3
      unfold swB at h3
      simp only [Bool.and_eq_true, decide_eq_true_eq, Bool.not_eq_true'] at h3
      obtain ⟨⟨⟨h4, h5⟩, h6⟩, h7⟩ := h3
      simp only [okE] at h2
      obtain ⟨tge, iter, ifs, ow, rfl, eo, hts, pi, bk, pg, pt, pe, fd⟩ := comp_parts c h2
      refine ss_setLc (own := ow) (mt := evT g.T (callA g.T n) t1) (me := ev g.T (callA g.T n) e1) c.x (by rw [c.N]; exact h1) (by rw [c.sc]; exact h5) (sw_true (by rw [c.sc]; exact h4) (by rw [c.sc]; exact h5) h6 h7) (fun i hi => by rw [eo]; exact hts i hi) pi bk pg pt pe fd fun {σ H Q} z => ?_
      rw [eo]
      exact bx_fr z
    · rw [Bool.and_eq_true] at h3
      exact ss_asg (okE_s _ _ c h2) (sg_nm (c.nm h3.1)) (sw_cell (l := pos.line) (by rw [c.sc]; exact h3.2)) (stores_of rfl rfl) rfl
  · rename_i i e1 g1 it1 t1 g2 it2 t2 own1 own2 y py elt gens scope pos1
    rw [Bool.and_eq_true] at h
    obtain ⟨h2, h3⟩ := h
    rw [Bool.or_eq_true] at h3
    rcases h3 with h3 | h3
    · rw [Bool.and_eq_true, decide_eq_true_eq] at h3
      obtain ⟨h1, h3⟩ := h3
      unfold swB at h3
      simp only [Bool.and_eq_true, decide_eq_true_eq, Bool.not_eq_true'] at h3
      obtain ⟨⟨⟨h4, h5⟩, h6⟩, h7⟩ := h3
      simp only [okE] at h2
      obtain ⟨tge, iter, ifs, tge1, iter1, ifs1, ow, rfl, eo, hts, hts1, hv, pi, bk, pg, pt, pi1, pg1, pt1, pe, fd, fd1⟩ := comp2_parts c h2
      refine ss_setLc2 (own := ow) (own1 := own2) (mt := evT g.T (callA g.T n) t1) (mt1 := evT g.T (callA g.T n) t2) (me := ev g.T (callA g.T n) e1) c.x (by rw [c.N]; exact h1) (by rw [c.sc]; exact h5) (sw_true (by rw [c.sc]; exact h4) (by rw [c.sc]; exact h5) h6 h7) (fun i hi => by rw [eo]; exact hts i hi) hts1 (fun i hi => by rw [eo]; exact hv i hi) pi bk pg pt pi1 pg1 pt1 pe fd fd1 fun {σ H Q} z => ?_
      rw [eo]
      exact fz_fr z
    · rw [Bool.and_eq_true] at h3
      exact ss_asg (okE_s _ _ c h2) (sg_nm (c.nm h3.1)) (sw_cell (l := pos.line) (by rw [c.sc]; exact h3.2)) (stores_of rfl rfl) rfl
  · rename_i i e1 g1 it1 t1 g2 it2 t2 own1 own2 y py elt gens scope pos1
    rw [Bool.and_eq_true] at h
    obtain ⟨h2, h3⟩ := h
    rw [Bool.or_eq_true] at h3
    rcases h3 with h3 | h3
    · rw [Bool.and_eq_true, decide_eq_true_eq] at h3
      obtain ⟨h1, h3⟩ := h3
      unfold swB at h3
      simp only [Bool.and_eq_true, decide_eq_true_eq, Bool.not_eq_true'] at h3
      obtain ⟨⟨⟨h4, h5⟩, h6⟩, h7⟩ := h3
      simp only [okE] at h2
      obtain ⟨tge, iter, ifs, tge1, iter1, ifs1, ow, rfl, eo, hts, hts1, hv, pi, bk, pg, pt, pi1, pg1, pt1, pe, fd, fd1⟩ := comp2_parts c h2
      refine ss_setLc2 (own := ow) (own1 := own2) (mt := evT g.T (callA g.T n) t1) (mt1 := evT g.T (callA g.T n) t2) (me := ev g.T (callA g.T n) e1) c.x (by rw [c.N]; exact h1) (by rw [c.sc]; exact h5) (sw_true (by rw [c.sc]; exact h4) (by rw [c.sc]; exact h5) h6 h7) (fun i hi => by rw [eo]; exact hts i hi) hts1 (fun i hi => by rw [eo]; exact hv i hi) pi bk pg pt pi1 pg1 pt1 pe fd fd1 fun {σ H Q} z => ?_
      rw [eo]
      exact bx_fr z
    · rw [Bool.and_eq_true] at h3
      exact ss_asg (okE_s _ _ c h2) (sg_nm (c.nm h3.1)) (sw_cell (l := pos.line) (by rw [c.sc]; exact h3.2)) (stores_of rfl rfl) rfl
  · rw [Bool.and_eq_true] at h
    obtain ⟨h2, h3⟩ := h
    rw [Bool.and_eq_true] at h3
    exact ss_asg (okE_s _ _ c h2) (sg_nm (c.nm h3.1)) (sw_cell (l := pos.line) (by rw [c.sc]; exact h3.2)) (stores_of rfl rfl) rfl
  · simp only [Bool.and_eq_true, Bool.not_eq_true'] at h
    obtain ⟨⟨⟨⟨⟨h1, h2⟩, h3⟩, h4⟩, h5⟩, h6⟩ := h
    refine ss_asg (okE_s e _ c h2) (okG_s tg _ c h1) (sw_of' (l := pos.line) h3) ?_ (by rw [asg1 h6]; rfl)
    rw [Bool.or_eq_true] at h5
    rcases h5 with h5 | h5
    · exact stores_of h4 (by rw [Bool.not_eq_true'] at h5; exact h5)
    · cases t with
      | Tuple ts k p =>
        have h5 : ts.any (noLoc cx.sc) = true := h5
        cases v with
        | Tuple vs k2 p2 => exact stores_cell (by rw [c.sc]; exact h5)
        | _ => rfl
      | _ => simp [tupLoc] at h5
theorem namesB_star {cx : SC} : ∀ {js : List Nat} {es : List Expr}, namesB cx js es = true → (∀ a ∈ es, isStar a = false) ∧ es.length = js.length
  | [], [], _ => ⟨fun _ h => absurd h (by simp), rfl⟩
  | [], _ :: _, h => by simp [namesB] at h
  | _ :: _, [], h => by simp [namesB] at h
  | i :: js, e :: es, h => by
    cases e <;> simp only [namesB, Bool.false_eq_true] at h
    rw [Bool.and_eq_true] at h
    obtain ⟨h1, h2⟩ := namesB_star h.2
    refine ⟨fun a ha => ?_, by simp [h2]⟩
    rcases List.mem_cons.mp ha with z | z
    · rw [z]; rfl
    · exact h1 a z
theorem namesB_s {W : WX} {cx : SC} {X : Cx} (c : CxOk g ge n W cx X) : ∀ {js : List Nat} {es : List Expr}, namesB cx js es = true → PGs X es (gNames js)
  | [], [], _ => pgs_names_nil
  | [], _ :: _, h => by simp [namesB] at h
  | _ :: _, [], h => by simp [namesB] at h
  | i :: js, e :: es, h => by
    cases e <;> simp only [namesB, Bool.false_eq_true] at h
    rw [Bool.and_eq_true] at h
    exact pgs_names_cons (c.nm h.1) (namesB_s c h.2) (by rw [asg1 rfl]; rfl)
mutual
theorem okS_s : ∀ (s : St) {W : WX} {cx : SC} {X : Cx} (a : Stmt), CxOk g ge n W cx X → PassesOwn (model X.prog X.w) X.A X.env X.xe → okS cx s a = true → PS X a (tSt g ge W (stS s) (exS g.T (callA g.T n) s))
  | .asg tg e, W, cx, X, a, c, hp, h => by
    unfold okS at h
    split at h
    · exact okAsg_s c h
    · cases h
  | .par i j e f, W, cx, X, a, c, hp, h => by
    unfold okS at h
    split at h
    · simp only [Bool.and_eq_true, decide_eq_true_eq, Bool.not_eq_true'] at h
      obtain ⟨⟨⟨⟨⟨⟨⟨⟨⟨⟨⟨⟨⟨h1, h2⟩, h3⟩, h4⟩, h5⟩, h6⟩, h7⟩, h8⟩, h9⟩, h10⟩, h11⟩, h12⟩, h13⟩, h14⟩ := h
      exact ss_par c.x (by rw [c.N]; exact h1) (by rw [c.N]; exact h2) h3 (by rw [c.sc]; exact h6) (by rw [c.sc]; exact h7) (okE_s e _ c h9) (okE_s f _ c h10) (star1 h11) (star1 h12)
        (swapped2 (by rw [c.sc]; exact h5) (by rw [c.sc]; exact h6) (by rw [c.sc]; exact h7) h4 h8 h11 h12 h13 h14) rfl
    · cases h
  | .par3 i j l e f e3, W, cx, X, a, c, hp, h => by
    unfold okS at h
    split at h
    · simp only [Bool.and_eq_true, decide_eq_true_eq, Bool.not_eq_true'] at h
      obtain ⟨⟨⟨⟨⟨⟨⟨⟨⟨⟨⟨⟨⟨⟨⟨⟨⟨⟨⟨⟨⟨⟨h1, h2⟩, h3⟩, h4⟩, h5⟩, h6⟩, h7⟩, h8⟩, h9⟩, h10⟩, h11⟩, h12⟩, h13⟩, h14⟩, h15⟩, h16⟩, h17⟩, h18⟩, h19⟩, h20⟩, h21⟩, h22⟩, h23⟩ := h
      exact ss_par3 c.x (by rw [c.N]; exact h1) (by rw [c.N]; exact h2) (by rw [c.N]; exact h3) h4 h5 h6 (by rw [c.sc]; exact h11) (by rw [c.sc]; exact h12) (by rw [c.sc]; exact h13) (okE_s e _ c h16) (okE_s f _ c h17) (okE_s e3 _ c h18) (star1 h19) (star1 h20) (star1 h21)
        (swapped3 (by rw [c.sc]; exact h10) (by rw [c.sc]; exact h11) (by rw [c.sc]; exact h12) (by rw [c.sc]; exact h13) h7 h8 h9 h14 h15 h19 h20 h21 h22 h23) rfl
    · cases h
  | .parN js es, W, cx, X, a, c, hp, h => by
    unfold okS at h
    split at h
    · simp only [Bool.and_eq_true, Bool.or_eq_true, decide_eq_true_eq] at h
      obtain ⟨⟨h1, h2⟩, h3⟩ := h
      obtain ⟨st, hl⟩ := namesB_star h2
      obtain ⟨l1, l2⟩ := asgLen (env := X.env) st
      exact ss_parN c.x (namesB_s c h2) (okEs_s es _ c h3) (l1.trans hl) l2 rfl (h1.elim storesN fun h1 => stores_cell (by rw [c.sc]; exact h1)) rfl
    · cases h
  | .ret e, W, cx, X, a, c, hp, h => by
    unfold okS at h
    split at h
    · exact ss_ret (okE_s e _ c h)
    · cases h
  | .retN, W, cx, X, a, c, hp, h => by
    unfold okS at h
    split at h
    · exact ss_retN
    · cases h
  | .ite t as bs, W, cx, X, a, c, hp, h => by
    unfold okS at h
    split at h
    · simp only [Bool.and_eq_true] at h
      exact ss_if (okT_s t _ c h.1.1).1 (okSs_s as _ c hp h.1.2) (okSs_s bs _ c hp h.2)
    · cases h
  | .for_ tg it b, W, cx, X, a, c, hp, h => by
    unfold okS at h
    split at h
    · simp only [Bool.and_eq_true, Bool.not_eq_true'] at h
      exact ss_for hp c.x (okI_s it _ _ c h.1.1.1) (okG_s tg _ c h.1.1.2) (okSs_s b _ c hp h.1.2) fun x => fold_of h.2
    · cases h
  | .while t b, W, cx, X, a, c, hp, h => by
    unfold okS at h
    split at h
    · simp only [Bool.and_eq_true] at h
      exact ss_while hp (okT_s t _ c h.1).1 (okSs_s b _ c hp h.2)
    · cases h
  | .app o e, W, cx, X, a, c, hp, h => by
    unfold okS at h
    split at h
    · simp only [Bool.and_eq_true, Bool.not_eq_true', decide_eq_true_eq] at h
      obtain ⟨⟨⟨⟨⟨h1, h2⟩, h3⟩, h4⟩, h5⟩, h6⟩ := h
      subst h1
      refine ss_app c.x (okE_s o _ c h3) (okE_s e _ c h4) (base_of h6) ?_ h2 (star1 h5) (sw_of rfl)
      rw [star1 h5]
      rfl
    · cases h
  | .lrev o, W, cx, X, a, c, hp, h => by
    unfold okS at h
    split at h
    · simp only [Bool.and_eq_true, Bool.not_eq_true', decide_eq_true_eq] at h
      obtain ⟨⟨⟨h1, h2⟩, h3⟩, h4⟩ := h
      subst h1
      exact ss_rev c.x (okE_s o _ c h3) (base_of h4) h2 (sw_of rfl)
    · cases h
  | .lpop o e, W, cx, X, a, c, hp, h => by
    unfold okS at h
    split at h
    · simp only [Bool.and_eq_true, Bool.not_eq_true', decide_eq_true_eq] at h
      obtain ⟨⟨⟨⟨⟨h1, h2⟩, h3⟩, h4⟩, h5⟩, h6⟩ := h
      subst h1
      refine ss_pop c.x (okE_s o _ c h3) (okE_s e _ c h4) (base_of h6) ?_ h2 (star1 h5) (sw_of rfl)
      rw [star1 h5]
      rfl
    · cases h
  | .ext o e, W, cx, X, a, c, hp, h => by
    unfold okS at h
    split at h
    · simp only [Bool.and_eq_true, Bool.not_eq_true', decide_eq_true_eq] at h
      obtain ⟨⟨⟨⟨⟨h1, h2⟩, h3⟩, h4⟩, h5⟩, h6⟩ := h
      subst h1
      refine ss_ext c.x (okE_s o _ c h3) (okE_s e _ c h4) (base_of h6) ?_ h2 (star1 h5) (sw_of rfl)
      rw [star1 h5]
      rfl
    · cases h
  | .drop e, W, cx, X, a, c, hp, h => by
    unfold okS at h
    split at h
    · simp only [Bool.and_eq_true, Bool.not_eq_true'] at h
      exact ss_drop (okE_s e _ c h.1) (sw_of h.2)
    · cases h
  | .sfld f o e, W, cx, X, a, c, hp, h => by
    unfold okS at h
    split at h
    · simp only [Bool.and_eq_true, Bool.not_eq_true', decide_eq_true_eq] at h
      obtain ⟨⟨⟨⟨h1, h2⟩, h3⟩, h4⟩, h5⟩ := h
      subst h1
      exact ss_fld c.x c.gk.co (c.gk.fld _ h2).q (okE_s o _ c h3) (okE_s e _ c h4) (sw_of h5)
    · cases h
  | .raise k es, W, cx, X, a, c, hp, h => by simp only [okS, Bool.false_eq_true] at h
  | .nev, W, cx, X, a, c, hp, h => ss_never
  | .pass, W, cx, X, a, c, hp, h => by
    unfold okS at h
    split at h
    · exact ss_pass
    · cases h
  | .brk, W, cx, X, a, c, hp, h => by
    unfold okS at h
    split at h
    · exact ss_brk
    · cases h
  | .cnt, W, cx, X, a, c, hp, h => by
    unfold okS at h
    split at h
    · exact ss_cnt
    · cases h
theorem okSs_s : ∀ (s : Sts) {W : WX} {cx : SC} {X : Cx} (a : List Stmt), CxOk g ge n W cx X → PassesOwn (model X.prog X.w) X.A X.env X.xe → okSs cx s a = true → PSs X a (tSt g ge W (stsS s) (exSs g.T (callA g.T n) s))
  | .nil, W, cx, X, a, c, hp, h => by
    unfold okSs at h
    split at h
    · exact ss_nil
    · cases h
  | .cons s ss, W, cx, X, a, c, hp, h => by
    unfold okSs at h
    split at h
    · rw [Bool.and_eq_true] at h
      exact ss_cons (okS_s s _ c hp h.1) (okSs_s ss _ c hp h.2)
    · cases h
end
end
end VI

set_option maxHeartbeats 4000000
/-! V20: every def and every lambda keeps its promise. -/
namespace VI
open PySem L2 M
open PyProof.Rows
open LamX (CodeO TabB ExtN)
def GX.sc (x : GX) (i : Nat) (N : List Str) (sc : Scope) : SC := ⟨N, sc, x.gm, true, x.flds, x.is, x.kb, decide (i ∈ x.lams), x.pn⟩
def GX.sc0 (x : GX) : SC := ⟨[], ⟨.function, [], false, false, []⟩, x.gm, false, x.flds, x.is, x.kb, false, x.pn⟩
structure GAll (g : G) (x : GX) : Prop where
  fo : ∀ (i : Nat) F, g.T.fs[i]? = some F → FOk g i F
  ck : ∀ (i : Nat) F, g.T.fs[i]? = some F → okSs (x.sc i (g.fi i).N (defScope (g.fi i).st)) F.body (defBody (g.fi i).st) = true
  gm : ∀ y k, x.gm.lookup y = some k → GKOk g y k
  co : ClsOk g
  fld : ∀ y, y ∈ x.flds → FldG g y
  ini : ∀ (c f : Nat), x.is[c]? = some f → ∃ F, MkOk g c f F
  kb : ∀ e ∈ x.kb, KB g.K (g.fi e.f).fd (g.fi e.f).ps e.ks e.m e.pm
  lok : g.lok = fun L I => lamD x.sc0 L I = true
  pb : ∀ ps ∈ x.pn, ∀ (as : List Arg) (q : Str) (body : Expr) (scope : Scope) (cl : List (Str × Addr)) (pm cv ctv : Value) (us : List Value), as.map (·.arg) = ps → us.length = ps.length →
    bindArgs (PySem.W.kla_fn "<lambda>" q ⟨[], as, none, [], [], none, []⟩ body scope cl pm cv ctv) ⟨us, []⟩ = pure (ps.zip us)
  lam : ∀ i, i ∈ x.lams → ∃ c P, (∀ base, g.bok base → TabB base g.mg c P) ∧ (g.fi i).cd = .ref c ∧ (P, (g.fi i).qual ++ ".<locals>." ++ "<lambda>") ∈ g.NT ∧ ∀ p ∈ g.NT, p.1 = P → p.2 = (g.fi i).qual ++ ".<locals>." ++ "<lambda>"
section
variable {g : G} {ge : GE} {x : GX}
theorem lamD_sc (x : GX) (cx : SC) (h : cx.gm = x.gm ∧ cx.flds = x.flds ∧ cx.is = x.is ∧ cx.kb = x.kb ∧ cx.pn = x.pn) (L : LDef) (I : LI) : lamD cx L I = lamD x.sc0 L I := by
  unfold lamD
  have : cx.lamC I.scope I.N = x.sc0.lamC I.scope I.N := by
    unfold SC.lamC GX.sc0
    obtain ⟨h1, h2, h3, h4, h5⟩ := h
    rw [h1, h2, h3, h4, h5]
  have p2 : parB cx I.params I.ps = parB x.sc0 I.params I.ps := by
    obtain ⟨_, _, _, _, h5⟩ := h
    unfold parB GX.sc0
    rw [h5]
  rw [this, p2]
theorem GAll.gk (a : GAll g x) (cx : SC) (h : cx.gm = x.gm ∧ cx.flds = x.flds ∧ cx.is = x.is ∧ cx.kb = x.kb ∧ cx.pn = x.pn) : GKs g cx :=
  ⟨by rw [h.1]; exact a.gm, a.co, by rw [h.2.1]; exact a.fld, by rw [h.2.2.1]; exact a.ini, by rw [h.2.2.2.1]; exact a.kb, fun L I e => by rw [a.lok]; rw [lamD_sc x cx h] at e; exact e⟩
theorem start_ok {S : Sx} {vs : List V} {xs : List VV} {N : List Str} (r : RepVs g S vs xs) (h : vs.length ≤ N.length) : SlOk g S (startS N.length xs) (L2.start N vs) := by
  have hl := r.len
  refine ⟨?_, fun i v q => ?_⟩
  · unfold startS L2.start
    simp; omega
  · unfold startS at q
    unfold L2.start
    by_cases hi : i < xs.length
    · rw [List.getElem?_append_left (by simpa using hi), List.getElem?_map] at q
      cases e : xs[i]? with
      | none => rw [e] at q; cases q
      | some y =>
        rw [e] at q; cases q
        obtain ⟨u, e2, ru⟩ := RepVs.get' r e
        exact ⟨u, by rw [List.getElem?_append_left (by simp; omega), List.getElem?_map, e2]; rfl, ru⟩
    · rw [List.getElem?_append_right (by simp; omega), List.getElem?_replicate] at q
      split at q <;> cases q
theorem clo_nil (cells : List (Str × Addr)) : ∀ (names : List (Str × NameKind)), (∀ y ∈ names, y.2 = .free → False) → cloFrom cells names [] = []
  | [], _ => rfl
  | (n, k) :: r, h => by
    unfold cloFrom
    rw [if_neg (fun z => h (n, k) List.mem_cons_self (by simpa using z))]
    exact clo_nil cells r fun y hy => h y (List.mem_cons_of_mem _ hy)
/-- a function that captures nothing, where cells are out of sight -/
theorem CloAt.del (A : GAll g x) {S : Sx} {H' : Hp} {f : Addr} {l : LDef} (c : CloAt g S f l []) (nc : ∀ b o, S.H b = some o → (∀ b' ob v, o = pinO b' ob → ob.data = .cell v → False) → H' b = some o) : CloAt g (S.wH H') f l [] := by
  obtain ⟨I, hI, cl, c', pm, ctv, h1, h2, h3, h4, h5, h6, ⟨h7, cells, hcl⟩, h8, h9⟩ := c.ex
  have hD : lamD x.sc0 l I = true := by rw [A.lok] at hI; exact hI
  unfold lamD at hD
  simp only [Bool.and_eq_true, decide_eq_true_eq] at hD
  have NS := NdefX.nscope_by hD.1.1.1.1.1
  have hfr : I.fr = [] := List.length_eq_zero_iff.mp h8.symm
  have hnil : cl = [] := by
    rw [hcl]
    refine clo_nil cells _ fun y hy e => ?_
    have := NS.free y hy e
    rw [hfr] at this; cases this
  refine ⟨I, hI, cl, c', pm, ctv, nc _ _ h1 (fun b' ob v e hv => ?_), h2, h3, nc _ _ h4 (fun b' ob v e hv => ?_), h5, fun y c e => ?_, ⟨h7, cells, hcl⟩, h8, fun i y v e => ?_⟩
  · injection e with e _
    rw [← e] at hv
    cases hv
  · cases e
  · rw [hnil] at e; cases e
  · rw [hfr] at e; cases e
theorem RepV.plainC {S S' : Sx} {u : V} {v : VV} (r : RepV g S u v) (hp : plainC v = true) (hF : S.F = S'.F) (hι : S.ι = S'.ι) (hc : ∀ f l, CloAt g S f l [] → CloAt g S' f l []) : RepV g S' u v := by
  cases r with
  | d h => exact .d (hF ▸ h)
  | box h => exact .box (hι ▸ h)
  | @clo _ _ caps _ h1 h2 =>
    cases caps with
    | nil => cases h2; exact .clo (hc _ _ h1) .nil
    | cons _ _ => cases hp
  | bxs _ => cases hp
theorem RepVs.plainC {S S' : Sx} : ∀ {us : List V} {vs : List VV}, RepVs g S us vs → vs.all plainC = true → S.F = S'.F → S.ι = S'.ι → (∀ f l, CloAt g S f l [] → CloAt g S' f l []) → RepVs g S' us vs
  | _, _, .nil, _, _, _, _ => .nil
  | _, _, .cons r rs, h, h1, h2, hc => by
    rw [List.all_cons, Bool.and_eq_true] at h
    exact .cons (r.plainC h.1 h1 h2 hc) (RepVs.plainC rs h.2 h1 h2 hc)
/-- a lambda, one level up -/
theorem lam_step (ge : GE) (A : GAll g x) (m : Nat) (fn : ∀ (i : Nat) F, g.T.fs[i]? = some F → FnG g ge m i) (lam : ∀ L, LamG g m L) (L : LDef) : LamG g (m + 1) L := by
  intro Ar outer s us vs xs S β f wsV caps Q base hbase hr e0 k r ca rc rv q
  obtain ⟨I, hI, cl, c', pm, ctv, h1, h2, h3, h4, h5, h6, h7, h8, h9⟩ := ca.ex
  have hD : lamD x.sc0 L I = true := by rw [A.lok] at hI; exact hI
  unfold lamD at hD
  simp only [Bool.and_eq_true, decide_eq_true_eq] at hD
  obtain ⟨⟨⟨⟨⟨d1, d2⟩, d3⟩, d4⟩, d5⟩, d6⟩ := hD
  have NS := NdefX.nscope_by d1
  classical
  -- what is run
  have q1 : Out (bnd (runL g.T (callA g.T m) L xs caps) noClo β) (Kv g S Q) (fun _ _ => False) := by simpa only [callA] using q
  unfold runL at q1
  by_cases hc : xs.length = L.np ∧ caps.length = L.nf ∧ (xs ++ caps).all plainC = true
  · rw [if_pos hc] at q1
    obtain ⟨c1, c2, c3⟩ := hc
    let R : Hp := fun b => if ∃ y, cl.lookup y = some b then S.H b else none
    have Rof : ∀ b o, R b = some o → (∃ y, cl.lookup y = some b) ∧ S.H b = some o := fun b o e => by
      have e : (if ∃ y, cl.lookup y = some b then S.H b else none) = some o := e
      split at e
      · rename_i hb
        exact ⟨hb, e⟩
      · cases e
    have Rat : ∀ y c o, cl.lookup y = some c → S.H c = some o → R c = some o := fun y c o hy e => by
      show (if ∃ y, cl.lookup y = some c then S.H c else none) = some o
      rw [if_pos ⟨y, hy⟩]; exact e
    have pin : Pin R s.heap := fun b o e => by
      obtain ⟨⟨z, hz⟩, e1⟩ := Rof b o e
      obtain ⟨_, _, _, ob, v, e2, _⟩ := h6 z b hz
      rw [e1] at e2; cases e2
      exact ⟨ob, rfl, pin_at e0.hok e1⟩
    have wi : Within R S.H := fun b o e => (Rof b o e).2
    have hRF : ∀ b o, R b = some o → S.F b = none ∧ b ∉ S.ι := fun b o e => by
      obtain ⟨⟨z, hz⟩, _⟩ := Rof b o e
      obtain ⟨n1, n2, _⟩ := h6 z b hz
      exact ⟨n1, n2⟩
    have k0 := k.delR pin wi hRF
    have e1 := env0_del e0 pin wi
    have C : NdefX.CellsAt cl I.fr (wsV.map some) s.heap (DelR R S.H) := by
      refine ⟨by simpa using h8, fun y c e => ?_, h7.1, fun i y e => ?_⟩
      · obtain ⟨_, _, _, ob, v, e2, e3⟩ := h6 y c e
        exact ⟨del_in (Rat y c _ e e2), v, ob, pin_at e0.hok e2, e3⟩
      · have hi : i < wsV.length := by rw [h8]; exact (List.getElem?_eq_some_iff.mp e).1
        obtain ⟨c, ob, w, q1, q2, q3, q4⟩ := h9 i y wsV[i] e (List.getElem?_eq_getElem hi)
        refine ⟨c, q1, fun v ev => ?_⟩
        rw [List.getElem?_map, List.getElem?_eq_getElem hi] at ev
        cases ev
        exact ⟨w, q4, ob, pin_at e0.hok q2, q3⟩
    have hps : vs.length = I.ps.length := by rw [r.len, c1, d3]
    have hus : us.length = I.ps.length := by rw [← rv.length, hps]
    -- the parameters' shape
    have hpar : ∃ as, I.params = ⟨[], as, none, [], [], none, []⟩ ∧ as.map (·.arg) = I.ps ∧ I.ps ∈ x.pn := by
      unfold parB at d5
      split at d5
      · rename_i as hpa
        simp only [Bool.and_eq_true, decide_eq_true_eq] at d5
        exact ⟨as, hpa, d5.1, d5.2⟩
      · cases d5
    obtain ⟨as, hpa, has, hpn⟩ := hpar
    have lim : s.heap.NoLimit := e0.mod.nolimit.keeps fun b o e => (e0.bs b o e).1
    let nf : NdefX.NF := ⟨"<lambda>", I.qual, I.params, [], I.scope, cl, c'⟩
    have hbody : codeAny (model g.P g.w) Ar (.call (.ref f) ⟨us, []⟩) (CR (L2.CX g.P g.w) outer g.P g.w (DelR R S.H) s (fun v H' => Apart R H' → Q v (AddR R H')) (fun _ _ _ => False)) s := by
      refine PySem.W.kla_callFunE hr.depth (pin_at e0.hok h1) rfl NS.co NS.gen rfl (NdefX.codeO_at e0.hok h4) ?_
      have hb := A.pb I.ps hpn as I.qual I.body I.scope cl pm (.ref c') ctv us has hus
      rw [← hpa] at hb
      rw [hb]
      refine wpAny_pure (wpAny_newFunctionEnv NS.nocell (fun ⟨nn, _⟩ hy => NS.par nn (List.of_mem_zip hy).1) (fun h₁ hns hsb => ⟨lim.fresh _ hsb, ?_⟩) NS.kind)
      show codeAny _ _ (.expr I.body (NdefX.envF nf f s.heap.objs.size)) _ _
      have kp : ∀ b o, s.heap.get? b = some o → h₁.get? b = some o := fun b o e => hsb.extBut b o (Nat.ne_of_lt (Heap.lt_size e)) (Heap.get?_push_of_some _ e)
      have J : Inv (NdefX.ncx (L2.CX g.P g.w) g.P g.w g.K g.mg base I.N nf f Ar outer s (DelR R S.H) (fun _ _ _ => False)) [] (NdefX.startF I.N vs (wsV.map some)) (DelR R S.H) { s with heap := h₁, toks := s.toks + (I.ps.zip us).length } :=
        NdefX.inv_startN (F := nf) NS hr.hd e1 hps rv C hns kp
      have pe : PE (NdefX.ncx (L2.CX g.P g.w) g.P g.w g.K g.mg base I.N nf f Ar outer s (DelR R S.H) (fun _ _ _ => False)) I.body (tEv g ge WF (ev g.T (callA g.T m) L.body)) := by
        refine okE_s L.body _ (cx := x.sc0.lamC I.scope I.N) ⟨⟨rfl, rfl, rfl, rfl, hbase, rfl, (hr.mono (by omega : 2 * m + 1 + 1 ≤ 2 * (m + 1))).deeper _, NS.nd, takes0⟩, rfl, rfl, (fun z => by cases z), A.gk _ ⟨rfl, rfl, rfl, rfl, rfl⟩, fn, lam, (fun z => by cases z)⟩ d6
      have hNl : (vs ++ wsV).length ≤ I.N.length := by
        have := congrArg List.length NS.pre
        rw [List.length_take, List.length_append] at this
        rw [List.length_append, hps, h8]
        omega
      have eS : NdefX.startF I.N vs (wsV.map some) = L2.start I.N (vs ++ wsV) := by
        unfold NdefX.startF L2.start
        rw [List.map_append, List.append_assoc, List.length_map, List.length_append, Nat.sub_sub]
      have nc : ∀ b o, S.H b = some o → (∀ b' ob v, o = pinO b' ob → ob.data = .cell v → False) → DelR R S.H b = some o := fun b o e z => by
        refine (del_out ?_).trans e
        cases q : R b with
        | none => rfl
        | some o' =>
          obtain ⟨⟨y, hy⟩, e1⟩ := Rof b o' q
          obtain ⟨_, _, _, ob, v, e2, e3⟩ := h6 y b hy
          rw [e] at e2; cases e2
          exact (z b ob v rfl e3).elim
      have rall : RepVs g (S.wH (DelR R S.H)) (vs ++ wsV) (xs ++ caps) := (r.append rc).plainC c3 rfl rfl fun f l c => CloAt.del A c nc
      have sl := start_ok rall hNl
      rw [← eS, d2] at sl
      refine PySem.W.kla_codeExpr (wpAny_mono (pe.run [] _ _ (DelR R S.H) (fun v H' => Apart R H' → Q v (AddR R H')) J ⟨S.wH (DelR R S.H), startS L.nl (xs ++ caps), β, rfl, k0, sl, (out_bnd q1).imp (fun z β' q2 => ?_) fun _ _ z => z.elim⟩) (fun v s' hq => ?_) fun e s' hq => hq)
      · obtain ⟨hp, q3⟩ := out_noClo q2
        intro w S' l' k' r' ap
        exact q3 w (S'.wH (AddR R S'.H)) (Le.inR pin wi ap k' l') (k'.addR pin ap) (r'.plain hp rfl rfl)
      · obtain ⟨w', H', J', rv', q4⟩ := hq
        exact ⟨w', H', J'.os, J'.bare, J'.base, J'.hok, rv', q4⟩
    refine codeAny_mono hbody fun rr s' hq => ?_
    cases rr with
    | error e =>
      obtain ⟨_, _, _, _, _, _, _, _, _, _, _, _, z⟩ := hq
      exact z.elim
    | ok fl =>
      cases fl with
      | ret u =>
        obtain ⟨v, H', os, bare, un, hok, rv', H1, rfl, ap, q4⟩ := ce_add pin wi e0.frf hq
        exact ⟨v, _, os, bare, un, hok, rv', q4 ap⟩
      | next => exact False.elim hq
      | brk => exact False.elim hq
      | cont => exact False.elim hq
  · rw [if_neg hc] at q1; exact q1.elim
theorem fn_step (ge : GE) (A : GAll g x) (n : Nat) (ih : ∀ (i : Nat) F, g.T.fs[i]? = some F → FnG g ge n i) (lam : ∀ L, LamG g n L) (i : Nat) (F : FDef) (hF : g.T.fs[i]? = some F) : FnG g ge (n + 1) i := by
  have o := A.fo i F hF
  have hpl : (g.fi i).ps.length ≤ (g.fi i).N.length := by
    have := congrArg List.length o.sc.pre
    rw [List.length_take] at this
    omega
  obtain ⟨oc, od, dV, kV, doc, pm, an, ct, osl, efd, lk, hcd⟩ := o.fun_
  unfold FnG
  intro base hbase
  rw [efd] at lk ⊢
  refine L2.fn_of (k := 2 * n + 1) lk hcd o.sc (fun vs H Q E h => h.1) fun Ar outer s H vs Q E hr h => ?_
  obtain ⟨hl, S, β, xs, e, k, r, q⟩ := h
  subst e
  refine ⟨tSt g ge (fun c d _ H => E c d H) (stsS F.body) (exSs g.T (callA g.T n) F.body), ?_, ?_⟩
  · refine okSs_s F.body _ (cx := x.sc i (g.fi i).N (defScope (g.fi i).st)) ?_ (passes_of rfl) (A.ck i F hF)
    refine ⟨⟨rfl, rfl, rfl, rfl, hbase, rfl, hr, o.sc.nd, takes_of rfl rfl rfl rfl⟩, rfl, rfl, fun _ _ => rfl, A.gk _ ⟨rfl, rfl, rfl, rfl, rfl⟩, ih, lam, fun hi => ?_⟩
    obtain ⟨c, P, TB, ec, hnt, hu⟩ := A.lam i (of_decide_eq_true hi)
    exact ⟨c, P, TB base hbase, ec, hnt, hu⟩
  · have q1 : Out (runF g.T (callA g.T n) F xs β) (Kv g S Q) (fun e β' => ∀ c d S', Le S S' → OkS g β' S' → RepE g ge.cl ge.fs S' c d e → E c d S'.H) := by
      simp only [callA, hF] at q
      exact q
    have hn : xs.length = F.np := by rw [← r.len, hl, o.len]
    unfold runF at q1
    rw [if_pos hn] at q1
    refine ⟨S, startS F.nl xs, β, rfl, k, ?_, (out_bnd q1).imp (fun rr β' q2 S' σ' l' k' sl' o' => ?_) fun e β' z c d S' σ' l' k' _ re => z c d S' l' k' re⟩
    · rw [← o.nl]; exact start_ok r (by rw [hl]; exact hpl)
    · obtain ⟨fl, φ'⟩ := rr
      cases fl with
      | nxt =>
        have q2 : Kv g S Q (.d .non) β' := q2
        exact q2 .non S' l' k' (.d .non)
      | brk => exact q2.elim
      | cnt => exact q2.elim
      | ret v =>
        have q2 : Kv g S Q v β' := q2
        intro u ru
        exact q2 u S' l' k' ru
theorem all_ok (ge : GE) (A : GAll g x) : ∀ n, (∀ (i : Nat) F, g.T.fs[i]? = some F → FnG g ge n i) ∧ ∀ L, LamG g n L
  | 0 => ⟨fun i F hF base hbase => ⟨fun vs H Q E h => h.1, fun A outer s H args us vs Q E hr e0 hb rv h => by
      obtain ⟨_, S, β, xs, _, _, _, q⟩ := h
      exact q.elim⟩, fun L Ar outer s us vs xs S β f wsV caps Q base hbase hr e0 k r ca rc rv q => q.elim⟩
  | n + 1 => by
    obtain ⟨h1, h2⟩ := all_ok ge A n
    exact ⟨fn_step ge A n h1 h2, lam_step ge A n h1 h2⟩
end
end VI

/-! V21: stands in H0. -/

set_option maxHeartbeats 2000000
/-! V22: from the head to the law. -/
namespace VI
open PySem L2 M
open PyProof.Rows
open LamX (CodeO TabB ExtN)
/-- what is looked at of the tables alone -/
def TX.fi (t : TX) (K : PySem.W.Frag) (i : Nat) : FI := match t.ds[i]? with
  | some d => ⟨d.name, d.qual, d.st, d.at_ K, (fdAt K (d.at_ K)).code, fdAt K (d.at_ K), t.pss.getD i [], t.Ns.getD i []⟩
  | none => ⟨"", "", .Pass ⟨0, 0, 0, 0⟩, 0, .none, fdAt K 0, [], []⟩
def TX.g (t : TX) (P : Program) (w : World) (K : PySem.W.Frag) (mg : Str → Option Value) : G where
  fi := t.fi K
  P := P
  w := w
  K := K
  mg := mg
  bok := fun base => K.In base ∧ base.Ns mainGlobals mg ∧ ∀ p ∈ t.cs K, TabB base mg p.1 p.2
  T := t.T
  NT := t.x.lams.map fun i => (t.tabAt K i, t.qual i ++ ".<locals>." ++ "<lambda>")
  cl := fun c => (t.cls[c]?).map (He.ga K)
  lok := fun L I => lamD t.x.sc0 L I = true
/-- what stands in the text, by looking -/
def TX.ckB (t : TX) : Bool := decide (t.ds.length = t.T.fs.length) && (List.range t.ds.length).all fun i => match t.ds[i]?, t.T.fs[i]? with
  | some d, some F => decide ((t.pss.getD i []).length = F.np) && decide ((t.Ns.getD i []).length = F.nl) && C8.scC (t.Ns.getD i []) (t.pss.getD i []) (defScope d.st) && okSs (t.x.sc i (t.Ns.getD i []) (defScope d.st)) F.body (defBody d.st)
  | _, _ => false
structure TX.Ok (t : TX) : Prop where
  ck : t.ckB = true
  hb : ∀ (i : Nat) d, t.ds[i]? = some d → ∀ (kV doc pm : Value) (an : Option Addr) (cdv ct : Value) (us : List Value), us.length = (t.pss.getD i []).length → bindArgs (PySem.W.fnOf d.name d.qual (defArgs d.st) (defBody d.st) (defScope d.st) .none kV doc pm an cdv ct) ⟨us, []⟩ = pure ((t.pss.getD i []).zip us)
  kb : ∀ e ∈ t.x.kb, ∀ d, t.ds[e.f]? = some d → ∀ (kV doc pm : Value) (an : Option Addr) (cdv ct : Value) (us ws : List Value), us.length = e.m → ws.length = e.ks.length → bindArgs (PySem.W.fnOf d.name d.qual (defArgs d.st) (defBody d.st) (defScope d.st) .none kV doc pm an cdv ct) ⟨us, e.ks.zip ws⟩ = pure ((t.pss.getD e.f []).zip (permL (us ++ ws) e.pm))
  kbl : ∀ e ∈ t.x.kb, e.f < t.ds.length
  pb : ∀ ps ∈ t.x.pn, ∀ (as : List Arg) (q : Str) (body : Expr) (scope : Scope) (cl : List (Str × Addr)) (pm cv ctv : Value) (us : List Value), as.map (·.arg) = ps → us.length = ps.length →
    bindArgs (PySem.W.kla_fn "<lambda>" q ⟨[], as, none, [], [], none, []⟩ body scope cl pm cv ctv) ⟨us, []⟩ = pure (ps.zip us)
  lams : ∀ i ∈ t.x.lams, i < t.ds.length
  il : t.x.is.length ≤ t.cls.length
section
variable {t : TX} {P : Program} {w : World} {K : PySem.W.Frag} {mg : Str → Option Value} {h : Heap} {tf : List (PySem.W.Frag → Addr)}
theorem fun_at (S : SaysV t.ds tf (exV t.x t.ds t.cls t.T.cs t.T.ps) h K) {i : Nat} {d : DW} (e : t.ds[i]? = some d) : PySem.W.keepIn K (.ref (d.at_ K)) = true ∧
    ∃ (oc : Value) (od : Option Addr) (kV doc pm : Value) (an : Option Addr) (ct : Value) (osl : Array (Option Value)), fdAt K (d.at_ K) = PySem.W.fnOf d.name d.qual (defArgs d.st) (defBody d.st) (defScope d.st) .none kV doc pm an (fdAt K (d.at_ K)).code ct ∧
      K.lookup (d.at_ K) = some ⟨oc, od, .func (fdAt K (d.at_ K)), osl⟩ ∧ PySem.W.codeIn K (fdAt K (d.at_ K)).code d.qual = true := by
  refine DW.fun_ ?_ (S.ok d (List.mem_of_getElem? e))
  have z : (t.ds.map fun d => fnA K (d.at_ K))[i]? = (t.ds.map DW.val)[i]? := by rw [S.val]
  rw [List.getElem?_map, List.getElem?_map, e] at z
  exact Option.some.inj z
theorem fi_at {i : Nat} {d : DW} (e : t.ds[i]? = some d) : t.fi K i = ⟨d.name, d.qual, d.st, d.at_ K, (fdAt K (d.at_ K)).code, fdAt K (d.at_ K), t.pss.getD i [], t.Ns.getD i []⟩ := by
  unfold TX.fi; rw [e]
theorem ck_at (ok : t.Ok) {i : Nat} {F : FDef} (e : t.T.fs[i]? = some F) : ∃ d, t.ds[i]? = some d ∧ (t.pss.getD i []).length = F.np ∧ (t.Ns.getD i []).length = F.nl ∧ FnScope (t.Ns.getD i []) (t.pss.getD i []) (defScope d.st) ∧ okSs (t.x.sc i (t.Ns.getD i []) (defScope d.st)) F.body (defBody d.st) = true := by
  have c := ok.ck
  unfold TX.ckB at c
  rw [Bool.and_eq_true, decide_eq_true_eq] at c
  obtain ⟨c1, c2⟩ := c
  have hi : i < t.ds.length := by rw [c1]; exact (List.getElem?_eq_some_iff.mp e).1
  have z := List.all_eq_true.mp c2 i (List.mem_range.mpr hi)
  have ed : t.ds[i]? = some t.ds[i] := List.getElem?_eq_getElem hi
  rw [ed, e] at z
  simp only [Bool.and_eq_true, decide_eq_true_eq] at z
  obtain ⟨⟨⟨z1, z2⟩, z3⟩, z4⟩ := z
  exact ⟨_, ed, z1, z2, C8.fnScope_by z3, z4⟩
/-- the looks, one by one -/
theorem ex_parts (e : exV t.x t.ds t.cls t.T.cs t.T.ps K = true) : (∀ p ∈ t.x.gm, gmB K t.ds t.cls t.T.cs p.1 p.2 = true) ∧ (∀ C ∈ t.cls, clsB K C = true) ∧ (∀ C ∈ t.cls, ∀ E ∈ t.cls, C ≠ E → PySem.W.kitOne K (.ref (He.ga K C)) (.ref (He.ga K E)) = some false) ∧
    (∀ f ∈ t.x.flds, ∀ c, c < t.cls.length → fldB K t.ds t.T.ps f (t.cls.getD c "") c = true) ∧ (∀ c, c < t.x.is.length → iniB K t.ds (t.x.is.getD c 0) (t.cls.getD c "") = true) ∧ (t.x.lams.map fun i => t.tabAt K i).Nodup ∧ t.cls.Nodup := by
  unfold exV at e
  simp only [Bool.and_eq_true, List.all_eq_true, Bool.or_eq_true, decide_eq_true_eq] at e
  obtain ⟨e1, e2, e3, e4, e5, e6, e7⟩ := e
  exact ⟨e1, e2, fun C hC E hE hne => (e3 C hC E hE).resolve_left hne, fun f hf c hc => e4 f hf c (List.mem_range.mpr hc), fun c hc => (e5 c (List.mem_range.mpr hc)).1, e6, e7⟩
theorem rep_flat {F : Hp} {cl : Nat → Option Addr} {x : D} (h : flatD x = true) : Rep K cl F ((dvOf x).v K) x := by
  cases x <;> first | cases h | skip
  · exact .non
  · exact .bl _
  · exact .int _
  · exact .str _
theorem reps_flat {F : Hp} {cl : Nat → Option Addr} : ∀ {xs : List D}, xs.all flatD = true → Reps K cl F ((xs.map dvOf).map (He.Dv.v K)) xs
  | [], _ => .nil
  | x :: xs, h => by
    rw [List.all_cons, Bool.and_eq_true] at h
    exact .cons (rep_flat h.1) (reps_flat h.2)
end
end VI

set_option maxHeartbeats 2000000
/-! V23: all that the soundness asks, from the head's facts. -/
namespace VI
open PySem L2 M
open PyProof.Rows
open LamX (CodeO TabB ExtN)
section
variable {t : TX} {P : Program} {w : World} {K : PySem.W.Frag} {mg : Str → Option Value} {h : Heap} {tf : List (PySem.W.Frag → Addr)}
theorem lookup_in {α : Type} : ∀ {l : List (Str × α)} {x : Str} {k : α}, l.lookup x = some k → (x, k) ∈ l := fun {l x k} h => PySem.mem_of_lookup h
theorem cok_of {C : Str} (c : clsB K C = true) : COk (t.g P w K mg) (He.ga K C) := by
  unfold clsB at c
  simp only [Bool.and_eq_true, List.all_eq_true, decide_eq_true_eq] at c
  obtain ⟨_, c1, c2, c3, c4, c5, c6, c7, c8⟩ := c
  refine ⟨⟨He.cls_ok c1, of_decide_eq_true c2, of_decide_eq_true c3, c4, c5, c6⟩, fun T hT => ?_, fun x T e => ?_⟩
  · cases T with
    | own e => exact absurd rfl (hT e)
    | int => exact c7 "int" (by decide)
    | str => exact c7 "str" (by decide)
    | bool => exact c7 "bool" (by decide)
    | tuple => exact c7 "tuple" (by decide)
    | list => exact c7 "list" (by decide)
    | dict => exact c7 "dict" (by decide)
  · cases x <;> simp only [tyN, Option.some.injEq] at e <;> first | cases e | subst e
    all_goals first | exact c8 "NoneType" (by decide) | exact c8 "bool" (by decide) | exact c8 "int" (by decide) | exact c8 "str" (by decide) | exact c8 "tuple" (by decide) | exact c8 "list" (by decide) | exact c8 "dict" (by decide)
theorem cl_at {c : Nat} {C : Addr} (e : (t.g P w K mg).cl c = some C) : ∃ x, t.cls[c]? = some x ∧ C = He.ga K x := by
  obtain ⟨x, h1, h2⟩ := Option.map_eq_some_iff.mp (show (t.cls[c]?).map (He.ga K) = some C from e)
  exact ⟨x, h1, h2.symm⟩
theorem fok_at (ok : t.Ok) (S : SaysV t.ds tf (exV t.x t.ds t.cls t.T.cs t.T.ps) h K) {i : Nat} {F : FDef} (e : t.T.fs[i]? = some F) : FOk (t.g P w K mg) i F := by
  obtain ⟨d, ed, h1, h2, h3, h4⟩ := ck_at ok e
  obtain ⟨kp, oc, od, kV, doc, pm, an, ct, osl, q1, q2, q3⟩ := fun_at S ed
  have fe : (t.g P w K mg).fi i = _ := fi_at (K := K) ed
  refine ⟨by rw [fe]; exact h1, by rw [fe]; exact h2, ?_, by rw [fe]; exact kp, ?_, by rw [fe]; exact h3⟩
  · rw [fe]
    show Binds K (fdAt K (d.at_ K)) (t.pss.getD i []) []
    rw [q1]
    exact .all (ok.hb i d ed kV doc pm an _ ct)
  · rw [fe]
    exact ⟨oc, od, .none, kV, doc, pm, an, ct, osl, q1, q2, q3⟩
theorem gall_of (ok : t.Ok) (S : SaysV t.ds tf (exV t.x t.ds t.cls t.T.cs t.T.ps) h K) (X : K.In h) (G : h.Ns mainGlobals mg) : GAll (t.g P w K mg) t.x := by
  obtain ⟨e1, e2, e3, e4, e5, e6, e7⟩ := ex_parts S.more
  have clsAt : ∀ {c : Nat} {x : Str}, t.cls[c]? = some x → clsB K x = true := fun hx => e2 _ (List.mem_of_getElem? hx)
  refine ⟨fun i F e => fok_at ok S e, fun i F e => ?_, fun y k e => ?_, ⟨fun c C e => ?_, fun c e C E hC hE hne => ?_⟩, fun f hf => ⟨fun c C i hC hp => ?_, fun c C hC hp => ?_⟩, fun c f e => ?_, fun e he => ?_, rfl, ok.pb, fun i hi => ?_⟩
  · obtain ⟨d, ed, h1, h2, h3, h4⟩ := ck_at ok e
    have fe : (t.g P w K mg).fi i = _ := fi_at (K := K) ed
    rw [fe]; exact h4
  · have z := e1 (y, k) (lookup_in e)
    cases k with
    | fn i =>
      have z : ((He.Fa.glo y).ok K && (match t.ds[i]? with | some d => decide (d.at_ K = He.ga K y) | none => false)) = true := z
      rw [Bool.and_eq_true] at z
      obtain ⟨z1, z2⟩ := z
      cases ed : t.ds[i]? with
      | none => rw [ed] at z2; cases z2
      | some d =>
        rw [ed] at z2
        have z2 := of_decide_eq_true z2
        have hi : i < t.T.fs.length := by
          have c := ok.ck
          unfold TX.ckB at c
          rw [Bool.and_eq_true, decide_eq_true_eq] at c
          rw [← c.1]
          exact (List.getElem?_eq_some_iff.mp ed).1
        have fe : (t.g P w K mg).fi i = _ := fi_at (K := K) ed
        refine ⟨?_, _, List.getElem?_eq_getElem hi, fok_at ok S (List.getElem?_eq_getElem hi)⟩
        rw [fe]
        show mg y = some (.ref (d.at_ K))
        rw [z2]
        exact He.glo_ok X G z1
    | cls c =>
      have z : ((He.Fa.glo y).ok K && decide (t.cls[c]? = some y)) = true := z
      rw [Bool.and_eq_true, decide_eq_true_eq] at z
      exact ⟨He.ga K y, by show (t.cls[c]?).map (He.ga K) = _; rw [z.2]; rfl, He.glo_ok X G z.1⟩
    | cst k =>
      have z : (match t.T.cs[k]? with
        | some (.int i) => (He.Fa.int y i).ok K
        | some (.str s) => (He.Fa.str y s).ok K
        | some (.ktp xs) => (He.Fa.glo y).ok K && (He.tupB K y (xs.map dvOf) && xs.all flatD)
        | _ => false) = true := z
      split at z
      · rename_i i ec
        obtain ⟨tk, em⟩ := He.int_ok X G z
        exact ⟨_, .int i, _, em, ⟨tk, rfl⟩, ec, fun F => .int i⟩
      · rename_i s ec
        obtain ⟨tk, em⟩ := He.str_ok X G z
        exact ⟨_, .str s, _, em, ⟨tk, rfl⟩, ec, fun F => .str s⟩
      · rename_i xs ec
        simp only [Bool.and_eq_true] at z
        exact ⟨_, .ref (He.ga K y), _, He.glo_ok X G z.1, rfl, ec, fun F => .ktp (He.tupB_ok z.2.1 F) (reps_flat z.2.2)⟩
      · cases z
    | blt => exact He.free_ok X G z
  · obtain ⟨x, h1, rfl⟩ := cl_at e
    exact cok_of (clsAt h1)
  · obtain ⟨x, h1, rfl⟩ := cl_at hC
    obtain ⟨y, h2, rfl⟩ := cl_at hE
    refine e3 x (List.mem_of_getElem? h1) y (List.mem_of_getElem? h2) fun z => hne ?_
    subst z
    exact (List.getElem?_inj (List.getElem?_eq_some_iff.mp h1).1 e7).mp (h1.trans h2.symm)
  · obtain ⟨x, h1, rfl⟩ := cl_at hC
    have hl := (List.getElem?_eq_some_iff.mp h1).1
    have z := e4 f hf c hl
    have ex : t.cls.getD c "" = x := by rw [List.getD_eq_getElem?_getD, h1]; rfl
    rw [ex] at z
    unfold fldB at z
    have hp : lookP t.T.ps c f = some i := by rw [← propOf_look]; exact hp
    rw [hp] at z
    dsimp only at z
    cases ef : PySem.W.findIn K (.ref (He.ga K x)) f with
    | none => rw [ef] at z; cases z
    | some o =>
      rw [ef] at z
      cases o with
      | none => cases z
      | some v =>
        cases v with
        | ref p =>
          cases ed : t.ds[i]? with
          | none => rw [ed] at z; cases z
          | some d =>
            rw [ed] at z
            simp only [Bool.and_eq_true, decide_eq_true_eq] at z
            obtain ⟨z1, z2, z3⟩ := z
            have hi : i < t.T.fs.length := by
              have c := ok.ck
              unfold TX.ckB at c
              rw [Bool.and_eq_true, decide_eq_true_eq] at c
              rw [← c.1]
              exact (List.getElem?_eq_some_iff.mp ed).1
            have fe : (t.g P w K mg).fi i = _ := fi_at (K := K) ed
            refine ⟨p, _, ⟨ef, of_decide_eq_true z1, z2, ?_⟩, List.getElem?_eq_getElem hi, fok_at ok S (List.getElem?_eq_getElem hi)⟩
            rw [fe]
            split at z3
            · rename_i gg rest er
              have z3 := of_decide_eq_true z3
              refine ⟨rest, ?_⟩
              show PySem.W.recIn K p "property" = some (.ref (d.at_ K) :: rest)
              rw [er, z3]
            · cases z3
        | _ => cases z
  · obtain ⟨x, h1, rfl⟩ := cl_at hC
    have hl := (List.getElem?_eq_some_iff.mp h1).1
    have z := e4 f hf c hl
    have ex : t.cls.getD c "" = x := by rw [List.getD_eq_getElem?_getD, h1]; rfl
    rw [ex] at z
    unfold fldB at z
    have hp : lookP t.T.ps c f = none := by rw [← propOf_look]; exact hp
    rw [hp] at z
    exact He.noat_ok z
  · have hl : c < t.x.is.length := (List.getElem?_eq_some_iff.mp e).1
    have hc : c < t.cls.length := Nat.lt_of_lt_of_le hl ok.il
    have z := e5 c hl
    have ei : t.x.is.getD c 0 = f := by rw [List.getD_eq_getElem?_getD, e]; rfl
    have ec : t.cls[c]? = some (t.cls.getD c "") := by rw [List.getD_eq_getElem?_getD, List.getElem?_eq_getElem hc]; rfl
    rw [ei] at z
    unfold iniB at z
    rw [Bool.and_eq_true] at z
    obtain ⟨z1, z2⟩ := z
    cases ed : t.ds[f]? with
    | none => rw [ed] at z2; cases z2
    | some d =>
      rw [ed] at z2
      have z2 := of_decide_eq_true z2
      have hi : f < t.T.fs.length := by
        have c := ok.ck
        unfold TX.ckB at c
        rw [Bool.and_eq_true, decide_eq_true_eq] at c
        rw [← c.1]
        exact (List.getElem?_eq_some_iff.mp ed).1
      have fe : (t.g P w K mg).fi f = _ := fi_at (K := K) ed
      refine ⟨_, ⟨fun C hC => ?_, List.getElem?_eq_getElem hi, fok_at ok S (List.getElem?_eq_getElem hi), ⟨He.ga K (t.cls.getD c ""), by show (t.cls[c]?).map (He.ga K) = _; rw [ec]; rfl⟩⟩⟩
      obtain ⟨x, h1, rfl⟩ := cl_at hC
      rw [ec] at h1; cases h1
      have m := He.mkr_ok z1
      rw [z2] at m
      rw [fe]
      exact m
  · have hl := ok.kbl e he
    have ed : t.ds[e.f]? = some t.ds[e.f] := List.getElem?_eq_getElem hl
    obtain ⟨kp, oc, od, kV, doc, pm, an, ct, osl, q1, q2, q3⟩ := fun_at S ed
    have fe : (t.g P w K mg).fi e.f = _ := fi_at (K := K) ed
    rw [fe]
    intro s us ws _ h1 h2
    show BindsTo s (fdAt K (t.ds[e.f].at_ K)) ⟨us, e.ks.zip ws⟩ ((t.pss.getD e.f []).zip (permL (us ++ ws) e.pm))
    rw [q1]
    exact .of_eq (ok.kb e he _ ed kV doc pm an _ ct us ws h1 h2)
  · have hl := ok.lams i hi
    have ed : t.ds[i]? = some t.ds[i] := List.getElem?_eq_getElem hl
    have fe : (t.g P w K mg).fi i = _ := fi_at (K := K) ed
    obtain ⟨kp, oc, od, kV, doc, pm, an, ct, osl, q1, q2, q3⟩ := fun_at S ed
    obtain ⟨c, ec⟩ := He.codeIn_ref q3
    have eA : t.lamAt K i = t.ds[i].at_ K := by unfold TX.lamAt; rw [ed]
    have eT : t.tabAt K i = tbA K (t.ds[i].at_ K) := by unfold TX.tabAt; rw [ed]
    have eQ : t.qual i = t.ds[i].qual := by unfold TX.qual; rw [ed]
    have eC : cdA K (t.ds[i].at_ K) = c := by unfold cdA; rw [ec]
    refine ⟨c, t.tabAt K i, fun base hb => ?_, by rw [fe]; exact ec, ?_, fun p hp e => ?_⟩
    · have := hb.2.2 (cdA K (t.lamAt K i), t.tabAt K i) (List.mem_map.mpr ⟨i, hi, rfl⟩)
      rw [eA, eC] at this
      exact this
    · rw [fe]
      show (t.tabAt K i, t.ds[i].qual ++ ".<locals>." ++ "<lambda>") ∈ t.x.lams.map fun i => (t.tabAt K i, t.qual i ++ ".<locals>." ++ "<lambda>")
      exact List.mem_map.mpr ⟨i, hi, by rw [eQ]⟩
    · obtain ⟨j, hj, rfl⟩ := List.mem_map.mp (show p ∈ t.x.lams.map fun i => (t.tabAt K i, t.qual i ++ ".<locals>." ++ "<lambda>") from hp)
      rw [fe]
      have e : t.tabAt K j = t.tabAt K i := e
      have : j = i := by
        obtain ⟨a, ha, ea⟩ := List.mem_iff_getElem.mp hj
        obtain ⟨b, hb, eb⟩ := List.mem_iff_getElem.mp hi
        have e' : (t.x.lams.map fun i => t.tabAt K i)[a]? = (t.x.lams.map fun i => t.tabAt K i)[b]? := by
          rw [List.getElem?_map, List.getElem?_map, List.getElem?_eq_getElem ha, List.getElem?_eq_getElem hb, ea, eb]
          show some (t.tabAt K j) = some (t.tabAt K i)
          rw [e]
        have := (List.getElem?_inj (by simpa using ha) e6).mp e'
        subst this
        exact ea.symm.trans eb
      subst this
      show t.qual j ++ ".<locals>." ++ "<lambda>" = t.ds[j].qual ++ ".<locals>." ++ "<lambda>"
      rw [eQ]
end
end VI

set_option maxHeartbeats 2000000
/-! V24: the law. -/
namespace VI
open PySem L2 M
open PyProof.Rows
open LamX (CodeO TabB ExtN)
def intsOf (ns : List Int) : D := .lck (ns.map .int)
theorem reps_ints {K : PySem.W.Frag} {cl : Nat → Option Addr} {F : Hp} : ∀ ns : List Int, Reps K cl F (ns.map V.int) (ns.map D.int)
  | [] => .nil
  | n :: ns => .cons (.int n) (reps_ints ns)
def noTbl (H : Hp) : Hp := fun b => match H b with
  | some (.tbl _) => none
  | o => o
theorem noTbl_keep {H : Hp} {b : Addr} {o : HO} (h : H b = some o) (n : ∀ ps, o ≠ .tbl ps) : noTbl H b = some o := by
  unfold noTbl
  rw [h]
  cases o <;> first | rfl | exact absurd rfl (n _)
theorem noTbl_sub {H : Hp} {b : Addr} {o : HO} (h : noTbl H b = some o) : H b = some o ∧ ∀ ps, o ≠ .tbl ps := by
  unfold noTbl at h
  split at h
  · cases h
  · rename_i o' hn
    refine ⟨h, fun ps e => ?_⟩
    subst e
    exact hn ps h
section
variable {t : TX} {w : World} {K : PySem.W.Frag} {mg : Str → Option Value} {h : Heap} {l : PySem.W.OpenLaw}
def geZ : GE := ⟨fun _ => 0, fun _ => []⟩
theorem law_at (ok : t.Ok) {n lawI : Nat} {F : FDef} {d : DW} {fa : Addr} (tfe : ∀ i ∈ t.x.lams, (t.lamAt · i) ∈ (t.x.lams.map fun i => fun K => t.lamAt K i)) (S : SaysV t.ds (t.x.lams.map fun i => fun K => t.lamAt K i) (exV t.x t.ds t.cls t.T.cs t.T.ps) h K) (X : K.In h) (G : h.Ns mainGlobals mg)
    (hF : t.T.fs[lawI]? = some F) (hd : t.ds[lawI]? = some d) (hps : t.pss.getD lawI [] = [("script" : Str)]) (hgm : (("law" : Str), GK.fn lawI) ∈ t.x.gm) (hfa : mg "law" = some (.ref fa))
    (main : ∀ ns : List Int, ns.length ≤ 63 → (∀ z ∈ ns, Builtin.Int.intBits z ≤ 1048576) → ∃ β, callA t.T n (.f lawI) [.d (intsOf ns)] [] = .ok (.d (.bl true)) β) :
    LamX.LawAtS l w K (L2.CX l.prog w) (2 * n) 63 "script" mg fa h := by
  have A := gall_of (P := l.prog) (w := w) ok S X G
  obtain ⟨kp, oc, od, kV, doc, pm, an, ct, osl, q1, q2, q3⟩ := fun_at S hd
  have fe : (t.g l.prog w K mg).fi lawI = _ := fi_at (K := K) hd
  have z := (ex_parts S.more).1 _ hgm
  have z : ((He.Fa.glo "law").ok K && (match t.ds[lawI]? with | some d => decide (d.at_ K = He.ga K "law") | none => false)) = true := z
  rw [hd, Bool.and_eq_true] at z
  have ea : d.at_ K = fa := by
    have h1 := He.glo_ok X G z.1
    rw [hfa] at h1
    have h2 := of_decide_eq_true z.2
    rw [h2]
    cases h1; rfl
  have tabOfc : ∀ p ∈ t.cs K, ∃ i ∈ t.x.lams, p = (cdA K (t.lamAt K i), t.tabAt K i) := fun p hp => by
    obtain ⟨i, hi, e⟩ := List.mem_map.mp hp
    exact ⟨i, hi, e.symm⟩
  have tabEq : ∀ i ∈ t.x.lams, t.tabAt K i = tbA K (t.lamAt K i) := fun i hi => by
    have hlt := ok.lams i hi
    have ed : t.ds[i]? = some t.ds[i] := List.getElem?_eq_getElem hlt
    unfold TX.tabAt TX.lamAt
    rw [ed]
  refine ⟨fdAt K (d.at_ K), t.cs K, spF (t.g l.prog w K mg) geZ n lawI, fun p hp => ?_, fun p hp => ?_, fun p hp => ?_, fun s u => ?_, fun H a ns hl hb hH hS => ?_, fun base h1 h2 h3 => ?_⟩
  · obtain ⟨i, hi, rfl⟩ := tabOfc p hp
    have := S.empty _ (tfe i hi)
    show h.get? (t.tabAt K i) = _
    rw [tabEq i hi]; exact this
  · obtain ⟨i, hi, rfl⟩ := tabOfc p hp
    have := S.out _ (tfe i hi)
    show K.lookup (t.tabAt K i) = _
    rw [tabEq i hi]; exact this
  · obtain ⟨i, hi, rfl⟩ := tabOfc p hp
    have := S.hd _ (tfe i hi)
    show PySem.W.CodeHd h (cdA K (t.lamAt K i)) (t.tabAt K i)
    rw [tabEq i hi]
    exact PySem.W.codeHd_of_K X this
  · have hb := ok.hb lawI d hd kV doc pm an (fdAt K (d.at_ K)).code ct [u] (by rw [hps]; rfl)
    rw [hps] at hb
    rw [q1]
    exact .of_eq hb
  · obtain ⟨β, hm⟩ := main ns hl hb
    have tabs : LamX.Tabs (t.g l.prog w K mg).NT H := fun p hp => by
      obtain ⟨i, hi, rfl⟩ := List.mem_map.mp (show p ∈ t.x.lams.map fun i => (t.tabAt K i, t.qual i ++ ".<locals>." ++ "<lambda>") from hp)
      exact LamX.TabS.nil (hH (cdA K (t.lamAt K i), t.tabAt K i) (List.mem_map.mpr ⟨i, hi, rfl⟩))
    refine ⟨?_, ⟨[], noTbl H, H⟩, [], [.d (intsOf ns)], rfl, ⟨fun b o e => (noTbl_sub e).1, fun b ps e => (noTbl_sub e).2 ps rfl, rfl, fun m b e => by simp at e, fun a b p e => by simp at e, fun p hp => absurd hp (by simp), fun b x e => by simp, tabs⟩, .cons (.d ?_) .nil, ?_⟩
    · rw [fe]
      show [V.ref a].length = (t.pss.getD lawI []).length
      rw [hps]; rfl
    · refine .lck ?_ (reps_ints ns)
      rcases hS with (e | ⟨o, e⟩) | e
      · exact .inl (.inl (noTbl_keep e fun _ z => by cases z))
      · exact .inl (.inr ⟨o, noTbl_keep e fun _ z => by cases z⟩)
      · exact .inr e
    · have hm : callA (t.g l.prog w K mg).T n (.f lawI) [.d (intsOf ns)] [] = .ok (.d (.bl true)) β := hm
      rw [hm]
      intro v S' _ _ rv
      cases rv with
      | d r => cases r; rfl
  · have fn := (all_ok geZ A n).1 lawI F hF base ⟨h1, h2, h3⟩
    rw [fe] at fn
    have fn : FnOk l.prog w K mg base (L2.CX l.prog w) (2 * n) (d.at_ K) (fdAt K (d.at_ K)) (t.pss.getD lawI []) (spF (t.g l.prog w K mg) geZ n lawI) := fn
    rw [hps, ea] at fn
    rw [ea]
    exact fn
end
end VI

set_option maxHeartbeats 0
namespace VI
open PySem
namespace K
theorem bnd : ∀ (i : Nat) d, t.ds[i]? = some d → ∀ (kV doc pm : Value) (an : Option Addr) (cdv ct : Value) (us : List Value), us.length = (t.pss.getD i []).length → bindArgs (PySem.W.fnOf d.name d.qual (L2.defArgs d.st) (L2.defBody d.st) (L2.defScope d.st) .none kV doc pm an cdv ct) ⟨us, []⟩ = pure ((t.pss.getD i []).zip us)
  | 0, d, e => by
    cases e
    exact fun _ _ _ _ _ _ us hl => match us, hl with | [_], _ => rfl
  | 1, d, e => by
    cases e
    exact fun _ _ _ _ _ _ us hl => match us, hl with | [_, _, _], _ => rfl
  | 2, d, e => by
    cases e
    exact fun _ _ _ _ _ _ us hl => match us, hl with | [_, _], _ => rfl
  | 3, d, e => by
    cases e
    exact fun _ _ _ _ _ _ us hl => match us, hl with | [_, _], _ => rfl
  | 4, d, e => by
    cases e
    exact fun _ _ _ _ _ _ us hl => match us, hl with | [_], _ => rfl
  | 5, d, e => by
    cases e
    exact fun _ _ _ _ _ _ us hl => match us, hl with | [_], _ => rfl
  | 6, d, e => by
    cases e
    exact fun _ _ _ _ _ _ us hl => match us, hl with | [_, _], _ => rfl
  | 7, d, e => by
    cases e
    exact fun _ _ _ _ _ _ us hl => match us, hl with | [_], _ => rfl
  | 8, d, e => by
    cases e
    exact fun _ _ _ _ _ _ us hl => match us, hl with | [_, _, _, _], _ => rfl
  | 9, d, e => by
    cases e
    exact fun _ _ _ _ _ _ us hl => match us, hl with | [_], _ => rfl
  | 10, d, e => by
    cases e
    exact fun _ _ _ _ _ _ us hl => match us, hl with | [_], _ => rfl
  | 11, d, e => by
    cases e
    exact fun _ _ _ _ _ _ us hl => match us, hl with | [_], _ => rfl
  | 12, d, e => by
    cases e
    exact fun _ _ _ _ _ _ us hl => match us, hl with | [_, _], _ => rfl
  | 13, d, e => by
    cases e
    exact fun _ _ _ _ _ _ us hl => match us, hl with | [_, _], _ => rfl
  | 14, d, e => by
    cases e
    exact fun _ _ _ _ _ _ us hl => match us, hl with | [_], _ => rfl
  | 15, d, e => by
    cases e
    exact fun _ _ _ _ _ _ us hl => match us, hl with | [_, _], _ => rfl
  | 16, d, e => by
    cases e
    exact fun _ _ _ _ _ _ us hl => match us, hl with | [_, _, _], _ => rfl
  | 17, d, e => by
    cases e
    exact fun _ _ _ _ _ _ us hl => match us, hl with | [_, _], _ => rfl
  | 18, d, e => by
    cases e
    exact fun _ _ _ _ _ _ us hl => match us, hl with | [_, _], _ => rfl
  | 19, d, e => by
    cases e
    exact fun _ _ _ _ _ _ us hl => match us, hl with | [_, _], _ => rfl
  | 20, d, e => by
    cases e
    exact fun _ _ _ _ _ _ us hl => match us, hl with | [_, _], _ => rfl
  | 21, d, e => by
    cases e
    exact fun _ _ _ _ _ _ us hl => match us, hl with | [_, _, _], _ => rfl
  | 22, d, e => by
    cases e
    exact fun _ _ _ _ _ _ us hl => match us, hl with | [_], _ => rfl
  | 23, d, e => by
    cases e
    exact fun _ _ _ _ _ _ us hl => match us, hl with | [_, _, _], _ => rfl
  | 24, d, e => by
    cases e
    exact fun _ _ _ _ _ _ us hl => match us, hl with | [_, _], _ => rfl
  | 25, d, e => by
    cases e
    exact fun _ _ _ _ _ _ us hl => match us, hl with | [_, _], _ => rfl
  | 26, d, e => by
    cases e
    exact fun _ _ _ _ _ _ us hl => match us, hl with | [_, _], _ => rfl
  | 27, d, e => by
    cases e
    exact fun _ _ _ _ _ _ us hl => match us, hl with | [_, _], _ => rfl
  | 28, d, e => by
    cases e
    exact fun _ _ _ _ _ _ us hl => match us, hl with | [_], _ => rfl
  | 29, d, e => by
    cases e
    exact fun _ _ _ _ _ _ us hl => match us, hl with | [_, _, _], _ => rfl
  | 30, d, e => by
    cases e
    exact fun _ _ _ _ _ _ us hl => match us, hl with | [_], _ => rfl
  | 31, d, e => by
    cases e
    exact fun _ _ _ _ _ _ us hl => match us, hl with | [_, _], _ => rfl
  | 32, d, e => by
    cases e
    exact fun _ _ _ _ _ _ us hl => match us, hl with | [_, _], _ => rfl
  | 33, d, e => by
    cases e
    exact fun _ _ _ _ _ _ us hl => match us, hl with | [_, _], _ => rfl
  | 34, d, e => by
    cases e
    exact fun _ _ _ _ _ _ us hl => match us, hl with | [_, _, _], _ => rfl
  | 35, d, e => by
    cases e
    exact fun _ _ _ _ _ _ us hl => match us, hl with | [_, _], _ => rfl
  | 36, d, e => by
    cases e
    exact fun _ _ _ _ _ _ us hl => match us, hl with | [_, _], _ => rfl
  | 37, d, e => by
    cases e
    exact fun _ _ _ _ _ _ us hl => match us, hl with | [_, _], _ => rfl
  | 38, d, e => by
    cases e
    exact fun _ _ _ _ _ _ us hl => match us, hl with | [_, _], _ => rfl
  | 39, d, e => by
    cases e
    exact fun _ _ _ _ _ _ us hl => match us, hl with | [_], _ => rfl
  | 40, d, e => by
    cases e
    exact fun _ _ _ _ _ _ us hl => match us, hl with | [], _ => rfl
  | 41, d, e => by
    cases e
    exact fun _ _ _ _ _ _ us hl => match us, hl with | [_, _], _ => rfl
  | 42, d, e => by
    cases e
    exact fun _ _ _ _ _ _ us hl => match us, hl with | [_, _, _], _ => rfl
  | 43, d, e => by
    cases e
    exact fun _ _ _ _ _ _ us hl => match us, hl with | [_], _ => rfl
  | 44, d, e => by
    cases e
    exact fun _ _ _ _ _ _ us hl => match us, hl with | [_], _ => rfl
  | 45, d, e => by
    cases e
    exact fun _ _ _ _ _ _ us hl => match us, hl with | [_], _ => rfl
  | 46, d, e => by
    cases e
    exact fun _ _ _ _ _ _ us hl => match us, hl with | [_, _, _], _ => rfl
  | 47, d, e => by
    cases e
    exact fun _ _ _ _ _ _ us hl => match us, hl with | [_, _], _ => rfl
  | 48, d, e => by
    cases e
    exact fun _ _ _ _ _ _ us hl => match us, hl with | [_, _], _ => rfl
  | 49, d, e => by
    cases e
    exact fun _ _ _ _ _ _ us hl => match us, hl with | [_, _, _], _ => rfl
  | 50, d, e => by
    cases e
    exact fun _ _ _ _ _ _ us hl => match us, hl with | [_, _, _], _ => rfl
  | 51, d, e => by
    cases e
    exact fun _ _ _ _ _ _ us hl => match us, hl with | [_, _], _ => rfl
  | 52, d, e => by
    cases e
    exact fun _ _ _ _ _ _ us hl => match us, hl with | [_], _ => rfl
  | 53, d, e => by
    cases e
    exact fun _ _ _ _ _ _ us hl => match us, hl with | [_], _ => rfl
  | 54, d, e => by
    cases e
    exact fun _ _ _ _ _ _ us hl => match us, hl with | [_, _, _], _ => rfl
  | 55, d, e => by
    cases e
    exact fun _ _ _ _ _ _ us hl => match us, hl with | [_], _ => rfl
  | 56, d, e => by
    cases e
    exact fun _ _ _ _ _ _ us hl => match us, hl with | [_], _ => rfl
  | 57, d, e => by
    cases e
    exact fun _ _ _ _ _ _ us hl => match us, hl with | [_], _ => rfl
  | i + 58, d, e => by
    have : ¬ i + 58 < t.ds.length := by show ¬ i + 58 < 58; omega
    rw [List.getElem?_eq_none (by omega)] at e
    cases e
theorem kbd : ∀ e ∈ t.x.kb, ∀ d, t.ds[e.f]? = some d → ∀ (kV doc pm : Value) (an : Option Addr) (cdv ct : Value) (us ws : List Value), us.length = e.m → ws.length = e.ks.length → bindArgs (PySem.W.fnOf d.name d.qual (L2.defArgs d.st) (L2.defBody d.st) (L2.defScope d.st) .none kV doc pm an cdv ct) ⟨us, e.ks.zip ws⟩ = pure ((t.pss.getD e.f []).zip (permL (us ++ ws) e.pm)) := by
  intro e he
  have he : e ∈ gx.kb := he
  simp only [gx, List.mem_cons, List.not_mem_nil, or_false] at he
  subst he
  · exact (by intro d e; cases e; exact fun _ _ _ _ _ _ us ws h1 h2 => match us, ws, h1, h2 with | [], [_, _], _, _ => rfl)
theorem pbd : ∀ ps ∈ t.x.pn, ∀ (as : List Arg) (q : Str) (body : Expr) (scope : Scope) (cl : List (Str × Addr)) (pm cv ctv : Value) (us : List Value), as.map (·.arg) = ps → us.length = ps.length →
    bindArgs (PySem.W.kla_fn "<lambda>" q ⟨[], as, none, [], [], none, []⟩ body scope cl pm cv ctv) ⟨us, []⟩ = pure (ps.zip us) := by
  intro ps hps as q body scope cl pm cv ctv us ha hu
  have hps : ps ∈ gx.pn := hps
  simp only [gx, List.mem_cons, List.not_mem_nil, or_false] at hps
  subst hps
  match as, us, ha, hu with
    | [⟨_, _, _⟩, ⟨_, _, _⟩], [_, _], ha, _ => simp only [List.map_cons, List.map_nil, List.cons.injEq, and_true] at ha; obtain ⟨rfl, rfl⟩ := ha; rfl
theorem ok : t.Ok := ⟨by decide +kernel, bnd, kbd, by decide +kernel, pbd, by decide +kernel, by decide +kernel⟩
theorem holds_of (main : ∀ ns : List Int, ns.length ≤ 63 → (∀ z ∈ ns, Builtin.Int.intBits z ≤ 1048576) → ∃ β, callA t.T 40 (.f lawI) [.d (intsOf ns)] [] = .ok (.d (.bl true)) β) :
    PySem.W.WalkO (PySem.W.view R.prog [lawAt]) loose (PySem.W.XL (PySem.W.view R.prog [lawAt]) []) hk.says (PySem.Challenge.rw_airturns_k66_whole_fillings_of_records).row.toRowW (HandSHeadRun.topDef R.prog lawAt) [] (fun f vs => PySem.call f vs) := by
  refine LamX.walk_ofTsE (l := PySem.Challenge.rw_airturns_k66_whole_fillings_of_records) (n := 63) (k := 2 * 40) (x := "script") (CX := fun w => L2.CX R.prog w) rfl (by decide) (by kernel_rfl) ⟨rfl, by decide, by decide⟩ ?F ?hCX
  · intro w mg fa h Y G hmg0
    obtain ⟨K, KX, c⟩ := Y
    have hmg : mg ("law" : PySem.Str) = some (.ref fa) := by
      have e : (HandSHeadRun.topDef R.prog lawAt).name = ("law" : PySem.Str) := by kernel_rfl
      rw [← e]
      exact hmg0
    exact ⟨K, KX, law_at (t := t) (n := 40) (lawI := lawI) ok (fun i hi => List.mem_map.mpr ⟨i, hi, rfl⟩) c KX G rfl rfl rfl (List.elem_iff.mp (by decide +kernel)) hmg main⟩
  · intro w H s e s' hq
    obtain ⟨_, _, _, _, _, _, _, _, _, _, _, _, z⟩ := hq
    exact z
end K
end VI
open PySem PySem.W PySem.Calls PyProof.Rows
theorem law_of (main : ∀ ns : List Int, ns.length ≤ 63 → (∀ z ∈ ns, Builtin.Int.intBits z ≤ 1048576) → ∃ β, VI.callA VI.K.t.T 40 (.f VI.K.lawI) [.d (VI.intsOf ns)] [] = .ok (.d (.bl true)) β) : PySem.Challenge.rw_airturns_k66_whole_fillings_of_records.Holds := by
  w_on; o_law
  refine HandSHeadRun.head_any (r := OpenLaw.row PySem.Challenge.rw_airturns_k66_whole_fillings_of_records) (q := view (OpenLaw.row PySem.Challenge.rw_airturns_k66_whole_fillings_of_records).prog [VI.K.lawAt]) (H := VI.K.hk) (ob := VI.K.ob) (M := 8000) (loose := VI.K.loose) (d := HandSHeadRun.topDef (OpenLaw.row PySem.Challenge.rw_airturns_k66_whole_fillings_of_records).prog VI.K.lawAt) (kwd := []) VI.K.ob_eq
    (by kernel_rfl) (fun s => by kernel_rfl) VI.K.run (by kernel_rfl) (by kernel_rfl) (by kernel_rfl) (by rfl) (by first | assumption | decide +kernel) (by decide +kernel) ⟨rfl, rfl, rfl, rfl, rfl, by decide +kernel⟩ ?hw (VI.K.holds_of main)
  case hw => w_witness2

theorem PySem.Challenge.cw_airturns_k66_whole_fillings_of_records_holds : PySem.Challenge.rw_airturns_k66_whole_fillings_of_records.Holds := by
  exact law_of fun ns hl _ => VI.K.main ns hl
