import PyProof.Rows.All
import Wide.All
import OpenK.AllK
import Wide.FinOn
import HandS.ForMost
import HandS.ForExc
import KE.SortData
import KE.DataCmp
import HandS.TupAny
import HandS.Deep
import HandS.Style
import HandS.Walk
import HandS.Zip
import HandS.IsInst
import HandS.CallSlots
import HandS.TupSets
import HandS.Conv
import KE.GoesEnum
import KE.DataMinMax
import HandS.Text
import KE.KNestM
import HandS.Lambda
import HandS.EndTab
import HandS.ExcIs
import HandS.HotCalls
import HandS.SetFor
import HandS.TupMul
import PyProof.StrOps2
import HandS.HeadWalk
import HandS.Strs
import HandS.DictTup
import PyProof.DictMoreH
import PySem.Challenge.RW_wirekeys_k74_whole_sure_chords_scanned
set_option Elab.async false
set_option linter.all false
set_option maxRecDepth 100000
/-! The evaluator: a small Python over plain data. -/
namespace Mini
open PySem
abbrev D := PyData
/-- what a slot (a local name, a field) holds: nothing, plain data, a list or a dict that nobody else holds -/
inductive Sl where
  | no | val (d : D) | own (xs : List D) | ownD (t : Bool) (kvs : List (D × D))
structure Ob where
  cls : Str
  fs : List (Str × Sl)
abbrev Env := List Sl
abbrev Sto := List Ob
inductive Res (α : Type) where
  | ok (a : α) (S : Sto) | ex (c : Str) (S : Sto) | no
def Res.bind {α β : Type} (r : Res α) (k : α → Sto → Res β) : Res β := match r with
  | .ok a S => k a S
  | .ex c S => .ex c S
  | .no => .no
/-- modes: b the value is only looked at, v it is kept, f it becomes a slot's own -/
inductive Md where
  | b | v | f
  deriving DecidableEq
inductive Bop where
  | add | sub | mul | mod | fdiv | pow
  deriving DecidableEq
inductive Cop where
  | eq | ne | lt | le | gt | ge | isn | isnt | inn | nin
  deriving DecidableEq
inductive Ty where
  | int | bool | str | tuple | list | lt | dict
  deriving DecidableEq
inductive Prim where
  | len | sorted | sortedSet | lenSet | tuple | list | all | any | sum | min | min2 | max2 | abs | int | dict
  | isi (t : Ty) | isx (c : Str) | join | split | upper | lower | count | index
  deriving DecidableEq
inductive Tg where
  | nm (i : Nat) | tp (is : List Nat)
inductive E where
  | nil | cons (a r : E)
  | var (i : Nat) | cst (d : D) | fn (f : Str)
  | tup (as : E) | lst (as : E)
  | bin (o : Bop) (a b : E) | neg (a : E)
  | cmp (o : Cop) (a b : E) | chn (o o' : Cop) (a b c : E)
  | and_ (a b : E) | or_ (a b : E) | not_ (a : E) | ite (c a b : E)
  | ix (a i : E) | cut (a lo hi : E) | rev (a : E)
  | call (f : Str) (as : E) | callv (f : E) (as : E)
  | prim (p : Prim) (as : E)
  | rng1 (a : E) | rng2 (a b : E) | rng3 (a b c : E) | enm (a : E) | zip (a b : E)
  | comp (e : E) (t : Tg) (own : List Nat) (it c : E)
  | dnew (t : Bool) | ddisp (ks vs : E)
  | get2 (d k x : E)
  | sm0 (p : Prim) (a : E) | sm1 (p : Prim) (a b : E) | lm1 (p : Prim) (a : E) (k : Bool)
  | told (a : E)
  | new (c : Str) (as : E) | meth (c : Str) (o : E) (m : Str) (as : E) | fld (c : Str) (o : E) (f : Str)
  | fNil (c : Str) (i : Nat) (f : Str) | fLen (c : Str) (i : Nat) (f : Str) | fList (c : Str) (i : Nat) (f : Str)
  | fIn (c : Str) (j : Nat) (i : Nat) (f : Str) | fIx (c : Str) (i : Nat) (f : Str) (j : Nat) | fGet (c : Str) (i : Nat) (f : Str) (j : Nat) (d : D)
abbrev Calls := Str → List D → Sto → Res D
/-! ### objects, exceptions -/
def objD (n : Nat) : D := .dict [(.list [], .int (.ofNat n))]
def excD (c : Str) : D := .dict [(.list [], .tuple [.str c])]
/-- all refusals stand under WireError, a ValueError, none under another -/
def exSub (c x : Str) : Bool := c == x || x == ("WireError" : Str) || x == ("ValueError" : Str)
def toldT : List (Str × Str) := [("IsDown", "is down"), ("NoBack", "no back"), ("NoBook", "no book"), ("NoKey", "no key"), ("NoLayout", "no layout"), ("NoNumber", "no number"), ("NoPad", "no pad"), ("NoText", "no text"), ("NotDown", "not down")]
def mName (c m : Str) : Str := c ++ (("." : Str) ++ m)
def obOf : D → Option Nat
  | .dict [(.list [], .int (.ofNat n))] => some n
  | _ => none
/-- the field f of the object d, of the class c -/
def fieldAt (S : Sto) (d : D) (c f : Str) : Option Sl := match obOf d with
  | some n => (match S[n]? with
    | some ob => if ob.cls = c then ob.fs.lookup f else none
    | none => none)
  | none => none
def slotD (env : Env) (i : Nat) : Option D := match env[i]? with
  | some (.val d) => some d
  | _ => none
def fieldI (env : Env) (S : Sto) (c : Str) (i : Nat) (f : Str) : Option Sl := match slotD env i with
  | some d => fieldAt S d c f
  | none => none
def putS (f : Str) (v : Sl) : List (Str × Sl) → List (Str × Sl)
  | [] => [(f, v)]
  | (g, x) :: r => if g = f then (g, v) :: r else (g, x) :: putS f v r
def setFld (S : Sto) (n : Nat) (f : Str) (v : Sl) : Sto := match S[n]? with
  | some ob => S.set n { ob with fs := putS f v ob.fs }
  | none => S
/-! ### values -/
def lim (n : Nat) : Bool := decide (n ≤ 1000000)
def addF : D → D → Option D
  | .int i, .int j => some (.int (i + j))
  | .str x, .str y => if lim (x.length + y.length) then some (.str (x ++ y)) else none
  | .tuple xs, .tuple ys => if lim (xs.length + ys.length) then some (.tuple (xs ++ ys)) else none
  | .list xs, .list ys => if lim (xs.length + ys.length) then some (.list (xs ++ ys)) else none
  | _, _ => none
def subF : D → D → Option D
  | .int i, .int j => some (.int (i - j))
  | _, _ => none
def mulF : D → D → Option D
  | .int i, .int j => if (decide (-(2 ^ 64) < i) && decide (i < 2 ^ 64)) || (decide (-(2 ^ 64) < j) && decide (j < 2 ^ 64)) then some (.int (i * j)) else none
  | .list xs, .int k => if lim (xs.length * k.toNat) && decide (k ≤ 1000000) && decide (-1000000 ≤ k) then some (.list (List.replicate k.toNat xs).flatten) else none
  | .tuple xs, .int k => if decide (2 ≤ k) && decide (k ≤ 1000) && !xs.isEmpty && decide (xs.length ≤ 1000) then some (.tuple (List.replicate k.toNat xs).flatten) else none
  | .str z, .int k => if decide (2 ≤ k) && decide (k ≤ 1000) && !(z.length == 0) && decide (z.length ≤ 1000) then some (.str ⟨(List.replicate k.toNat z.cps).foldl (· ++ ·) #[]⟩) else none
  | _, _ => none
def modF : D → D → Option D
  | .int i, .int j => if 0 < j then some (.int (i % j)) else none
  | _, _ => none
def fdivF : D → D → Option D
  | .int i, .int j => if 0 < j ∧ j < 1073741824 then some (.int (i / j)) else none
  | _, _ => none
def powF : D → D → Option D
  | .int i, .int j => if 0 ≤ j ∧ j ≤ 1000 ∧ i.natAbs < 2 ^ 64 then some (.int (i ^ j.toNat)) else none
  | _, _ => none
def binF : Bop → D → D → Option D
  | .add => addF
  | .sub => subF
  | .mul => mulF
  | .mod => modF
  | .fdiv => fdivF
  | .pow => powF
/-- no dict inside (functions, objects, exceptions are told as dicts), and not deep -/
def pure1 (d : D) : Bool := SeqAt.shaped d
def isKey : D → Bool
  | .int _ => true
  | .str _ => true
  | _ => false
/-- a dict's kind: keys are ints and texts (false), or tuples of such (true); it is told as a first entry -/
def hasKey : Bool → D → Bool
  | false, x => isKey x
  | true, .tuple ks => ks.all isKey
  | true, _ => false
def isInF (x : D) : D → Option Bool
  | .list xs => if pure1 x && pure1 (.list xs) then some (xs.any fun y => PyData.eqv y x) else none
  | .tuple xs => if pure1 x && pure1 (.tuple xs) then some (xs.any fun y => PyData.eqv y x) else none
  | .str z => match x with
    | .str ⟨⟨[c]⟩⟩ => some (decide (c ∈ z.cps.toList))
    | _ => none
  | .dict ((.none, .bool t) :: es) => if hasKey t x then some (es.any fun p => PyData.eqv p.1 x) else none
  | _ => none
def isNone : D → Bool
  | .none => true
  | _ => false
def eqF : D → D → Option Bool
  | .dict [(.list [], .list xs)], .list [] => some xs.isEmpty
  | x, y => if pure1 x && pure1 y then some (PyData.eqv x y) else none
def isF : D → D → Option Bool
  | x, .none => some (isNone x)
  | .bool b, .bool c => some (b == c)
  | _, _ => none
def ltOk (x y : D) : Bool := W.alike x y && pure1 x && pure1 y && !isNone x
def cmpF : Cop → D → D → Option Bool
  | .eq, x, y => eqF x y
  | .ne, x, y => if pure1 x && pure1 y then some (!PyData.eqv x y) else none
  | .lt, x, y => if ltOk x y then some (W.dataLt x y) else none
  | .gt, x, y => if ltOk x y then some (W.dataLt y x) else none
  | .le, x, y => if ltOk x y then some (!W.dataLt y x) else none
  | .ge, x, y => if ltOk x y then some (!W.dataLt x y) else none
  | .isn, x, y => isF x y
  | .isnt, x, y => (isF x y).map (!·)
  | .inn, x, y => isInF x y
  | .nin, x, y => (isInF x y).map (!·)
def ixN (n : Nat) (i : Int) : Option Nat := L2.ixN n i
def getF : D → D → Option D
  | .dict [(.list [], .list xs)], .int i => L2.atI xs i
  | .list xs, .int i => L2.atI xs i
  | .tuple xs, .int i => L2.atI xs i
  | .str z, .int i => if lim z.length then (L2.atI z.cps.toList i).map fun c => .str ⟨#[c]⟩ else none
  | .dict ((.none, .bool t) :: es), k => if hasKey t k then (es.find? fun p => PyData.eqv p.1 k).map (·.2) else none
  | _, _ => none
def optI : D → Option (Option Int)
  | .tuple [] => some none
  | .tuple [.int i] => some (some i)
  | _ => none
def cutL {α : Type} (xs : List α) (lo hi : Option Int) : List α := (xs.drop (HT.sIx xs.length 0 lo)).take (HT.sIx xs.length xs.length hi - HT.sIx xs.length 0 lo)
def cutF (d : D) (lo hi : Option Int) : Option D := match d with
  | .list xs => some (.list (cutL xs lo hi))
  | .tuple xs => some (.tuple (cutL xs lo hi))
  | .str z => if lim z.length then some (.str ⟨(cutL z.cps.toList lo hi).toArray⟩) else none
  | _ => none
def revF : D → Option D
  | .list xs => some (.list xs.reverse)
  | .tuple xs => some (.tuple xs.reverse)
  | _ => none
/-- what a loop walks -/
def itemsOf : D → Option (List D)
  | .list xs => some xs
  | .tuple xs => some xs
  | .str z => some (z.cps.toList.map fun c => .str ⟨#[c]⟩)
  | _ => none
/-- can be sorted: alike, all tuples, or none a tuple -/
def alikes (xs : List D) : Bool := (xs.all fun x => pure1 x && !isNone x && xs.all fun y => W.alike x y) && ((xs.all fun x => match x with
  | .tuple _ => true
  | _ => false) || xs.all fun x => match x with
  | .tuple _ => false
  | .none => false
  | _ => true)
/-- merging, merge sort, by a number of steps (so that the kernel can reckon) -/
def mrgF {α : Type} (le : α → α → Bool) : Nat → List α → List α → List α
  | 0, _, _ => []
  | _ + 1, [], ys => ys
  | _ + 1, xs, [] => xs
  | n + 1, x :: xs, y :: ys => if le x y then x :: mrgF le n xs (y :: ys) else y :: mrgF le n (x :: xs) ys
theorem mrgF_eq {α : Type} (le : α → α → Bool) : ∀ (n : Nat) (xs ys : List α), xs.length + ys.length < n → mrgF le n xs ys = List.merge xs ys le
  | 0, _, _, h => by omega
  | n + 1, [], ys, _ => by simp [mrgF]
  | n + 1, x :: xs, [], _ => by simp [mrgF]
  | n + 1, x :: xs, y :: ys, h => by
    rw [List.cons_merge_cons]
    unfold mrgF
    have h1 := mrgF_eq le n xs (y :: ys) (by simp only [List.length_cons] at h ⊢; omega)
    have h2 := mrgF_eq le n (x :: xs) ys (by simp only [List.length_cons] at h ⊢; omega)
    rw [h1, h2]
def msF {α : Type} (le : α → α → Bool) : Nat → List α → List α
  | 0, xs => xs
  | n + 1, xs => match xs with
    | [] => []
    | [x] => [x]
    | x :: y :: r => mrgF le (r.length + 3) (msF le n ((x :: y :: r).splitAt ((r.length + 3) / 2)).1) (msF le n ((x :: y :: r).splitAt ((r.length + 3) / 2)).2)
theorem msF_eq {α : Type} (le : α → α → Bool) : ∀ (n : Nat) (xs : List α), xs.length ≤ n → msF le n xs = xs.mergeSort le
  | 0, [], _ => by simp [msF]
  | n + 1, [], _ => by simp [msF]
  | n + 1, [x], _ => by simp [msF]
  | n + 1, x :: y :: r, h => by
    unfold msF
    rw [List.mergeSort]
    have e : (List.MergeSort.Internal.splitInTwo (⟨x :: y :: r, rfl⟩ : { l : List α // l.length = r.length + 1 + 1 })).1.1 = ((x :: y :: r).splitAt ((r.length + 3) / 2)).1 := rfl
    have e' : (List.MergeSort.Internal.splitInTwo (⟨x :: y :: r, rfl⟩ : { l : List α // l.length = r.length + 1 + 1 })).2.1 = ((x :: y :: r).splitAt ((r.length + 3) / 2)).2 := rfl
    simp only [List.length_cons] at h
    have l1 : ((x :: y :: r).splitAt ((r.length + 3) / 2)).1.length ≤ n := by
      rw [List.splitAt_eq, List.length_take, List.length_cons, List.length_cons]
      omega
    have l2 : ((x :: y :: r).splitAt ((r.length + 3) / 2)).2.length ≤ n := by
      rw [List.splitAt_eq, List.length_drop, List.length_cons, List.length_cons]
      omega
    have q1 := msF_eq le n _ l1
    have q2 := msF_eq le n _ l2
    simp only
    rw [q1, q2, mrgF_eq]
    · rfl
    · rw [List.length_mergeSort, List.length_mergeSort, List.splitAt_eq, List.length_take, List.length_drop, List.length_cons, List.length_cons]
      omega
def sortD (xs : List D) : List D := msF (W.dataLe false id) xs.length xs
theorem sortD_eq (xs : List D) : sortD xs = xs.mergeSort (W.dataLe false id) := msF_eq _ _ _ (Nat.le_refl _)
def addD (acc : List D) (x : D) : List D := if acc.any fun y => PyData.eqv y x then acc else acc ++ [x]
/-- each once, in the order of their first coming -/
def oneEach (xs : List D) : List D := xs.foldl addD []
/-- pairs of small numbers -/
def encP (p : Int × Int) : D := .tuple [.int p.1, .int p.2]
def prsOf : List D → Option (List (Int × Int))
  | [] => some []
  | .tuple [.int i, .int j] :: r => if 0 ≤ i ∧ i < 64 ∧ 0 ≤ j ∧ j < 64 then (prsOf r).map ((i, j) :: ·) else none
  | _ :: _ => none
def ltP (p q : Int × Int) : Bool := decide (p.1 < q.1 ∨ (p.1 = q.1 ∧ p.2 < q.2))
def insP (p : Int × Int) : List (Int × Int) → List (Int × Int)
  | [] => [p]
  | q :: r => if p = q then q :: r else if ltP p q then p :: q :: r else q :: insP p r
/-- rising, each once -/
def setP : List (Int × Int) → List (Int × Int)
  | [] => []
  | p :: r => insP p (setP r)
/-- whole numbers, rising, each once -/
def insI (x : Int) : List Int → List Int
  | [] => [x]
  | y :: r => if x = y then y :: r else if x < y then x :: y :: r else y :: insI x r
def setI : List Int → List Int
  | [] => []
  | x :: r => insI x (setI r)
def bools : List D → Option (List Bool)
  | [] => some []
  | .bool b :: r => (bools r).map (b :: ·)
  | _ :: _ => none
def intsOf : List D → Option (List Int)
  | [] => some []
  | .int b :: r => (intsOf r).map (b :: ·)
  | _ :: _ => none
def strsOf : List D → Option (List Str)
  | [] => some []
  | .str b :: r => (strsOf r).map (b :: ·)
  | _ :: _ => none
/-- the first of the least -/
def leastD : D → List D → D
  | m, [] => m
  | m, x :: r => leastD (if W.dataLt x m then x else m) r
/-- in its place, or at the end -/
def putD (kvs : List (D × D)) (k v : D) : List (D × D) := if (kvs.any fun p => PyData.eqv p.1 k) = true then kvs.map (fun p => if PyData.eqv p.1 k = true then (p.1, v) else p) else kvs ++ [(k, v)]
def pairsOf : List D → Option (List (D × D))
  | [] => some []
  | .tuple [a, b] :: r => (pairsOf r).map ((a, b) :: ·)
  | _ :: _ => none
def isiF : Ty → D → Option Bool
  | _, .dict _ => none
  | .int, .int _ => some true
  | .int, .bool _ => some true
  | .bool, .bool _ => some true
  | .str, .str _ => some true
  | .tuple, .tuple _ => some true
  | .list, .list _ => some true
  | .lt, .tuple _ => some true
  | .lt, .list _ => some true
  | _, _ => some false
/-- methods of a text -/
def smF : Prim → Str → Option D
  | .upper, z => if lim z.length then some (.str (Txt.upper z)) else none
  | .lower, z => if lim z.length then some (.str (Txt.lower z)) else none
  | _, _ => none
def smF1 : Prim → Str → D → Option D
  | .join, z, .list xs => (strsOf xs).bind fun ss => if lim ((ss.map Str.length).sum + ss.length * z.length) then some (.str (Txt.join z ss)) else none
  | .split, z, .str y => if lim z.length && !(y.length == 0) then some (.list ((Txt.split z y).map .str)) else none
  | .count, z, .str y => some (.int (Txt.count z y))
  | _, _, _ => none
/-- methods of a list of truth values -/
def lmF1 : Prim → List D → Bool → Option D
  | .count, xs, k => (bools xs).map fun bs => .int (bs.countP (· == k) : Nat)
  | .index, xs, k => (bools xs).bind fun bs => (bs.findIdx? (· == k)).map fun i => .int i
  | _, _, _ => none
def primF : Prim → List D → Option D
  | .len, [.dict [(.list [], .list xs)]] => some (.int xs.length)
  | .len, [.list xs] => some (.int xs.length)
  | .len, [.tuple xs] => some (.int xs.length)
  | .len, [.str z] => if lim z.length then some (.int z.length) else none
  | .len, [.dict ((.none, .bool false) :: es)] => some (.int es.length)
  | .sorted, [.list xs] => if alikes xs then some (.list (sortD xs)) else none
  | .sorted, [.tuple xs] => if alikes xs then some (.list (sortD xs)) else none
  | .sortedSet, [.list xs] => if decide (xs.length < 64) then (match prsOf xs with
    | some ps => some (.list ((setP ps).map encP))
    | none => (intsOf xs).map fun ns => .list ((setI ns).map .int)) else none
  | .sortedSet, [.tuple xs] => if decide (xs.length < 64) then (prsOf xs).map fun ps => .list ((setP ps).map encP) else none
  | .lenSet, [.list xs] => if decide (xs.length < 64) then (intsOf xs).map fun ns => .int ((setI ns).length : Nat) else none
  | .tuple, [.list xs] => some (.tuple xs)
  | .tuple, [.tuple xs] => some (.tuple xs)
  | .list, [.list xs] => some (.list xs)
  | .list, [.tuple xs] => some (.list xs)
  | .list, [.dict ((.none, .bool _) :: es)] => some (.list (es.map (·.1)))
  | .all, [.list xs] => (bools xs).map fun bs => .bool (bs.all id)
  | .any, [.list xs] => (bools xs).map fun bs => .bool (bs.any id)
  | .sum, [.list xs] => (intsOf xs).map fun ns => .int ns.sum
  | .min, [.list (x :: xs)] => if alikes (x :: xs) then some (leastD x xs) else none
  | .min2, [.int i, .int j] => some (.int (if j < i then j else i))
  | .max2, [.int i, .int j] => some (.int (if j > i then j else i))
  | .abs, [.int i] => some (.int (if i < 0 then -i else i))
  | .int, [.int i] => some (.int i)
  | .int, [.bool b] => some (.int (if b then 1 else 0))
  | .isi t, [x] => (isiF t x).map .bool
  | .isx c, [.dict [(.list [], .tuple [.str x])]] => some (.bool (exSub x c))
  | _, _ => none
def setT (t : Tg) (d : D) (env : Env) : Option Env := match t with
  | .nm i => some (env.set i (.val d))
  | .tp is => match d with
    | .tuple ds => if ds.length = is.length then some ((is.zip ds).foldl (fun e p => e.set p.1 (.val p.2)) env) else none
    | _ => none
def wipeS (env : Env) : List Nat → Env
  | [] => env
  | v :: vs => (wipeS env vs).set v .no
/-- a comprehension's turns: an error within is not served -/
def loopC (f : D → Sto → Res (Option D)) : List D → Sto → Res (List D)
  | [], S => .ok [] S
  | x :: r, S => match f x S with
    | .ok o S1 => (match loopC f r S1 with
      | .ok ys S2 => .ok (o.toList ++ ys) S2
      | _ => .no)
    | _ => .no
/-- one turn: the test, the item -/
def turnC (oe : Option Env) (c e : Env → Sto → Res D) (S : Sto) : Res (Option D) := match oe with
  | some env2 => (match c env2 S with
    | .ok (.bool true) S2 => (match e env2 S2 with
      | .ok y S3 => .ok (some y) S3
      | _ => .no)
    | .ok (.bool false) S2 => .ok none S2
    | _ => .no)
  | none => .no
def ofO (o : Option D) (S : Sto) : Res D := match o with
  | some d => .ok d S
  | none => .no
def enumD (xs : List D) : List D := (xs.zipIdx).map fun p => .tuple [.int p.2, p.1]
def zipD (xs ys : List D) : List D := (xs.zip ys).map fun p => .tuple [p.1, p.2]
def zres : D → D → Sto → Res D
  | .list xs, .list ys, S => .ok (.list (zipD xs ys)) S
  | .tuple xs, .tuple ys, S => .ok (.list (zipD xs ys)) S
  | _, _, _ => .no
def rangeD (lo n : Nat) : List D := (List.range n).map fun (k : Nat) => .int ((lo : Int) + (k : Int))
def fresh : E → Bool
  | .lst _ => true
  | .comp .. => true
  | .bin .. => true
  | .cut .. => true
  | .rev _ => true
  | .dnew _ => true
  | .fList .. => true
  | .ddisp .. => true
  | .sm1 p _ _ => match p with
    | .split => true
    | _ => false
  | .prim p _ => match p with
    | .sorted | .sortedSet | .list | .split | .dict => true
    | _ => false
  | .ite _ a b => fresh a && fresh b
  | _ => false
def evE (cl : Calls) : Md → E → Env → Sto → Res D
  | _, .nil, _, S => .ok (.tuple []) S
  | m, .cons a r, env, S => (evE cl m a env S).bind fun d S1 => (evE cl m r env S1).bind fun ds S2 => match ds with
    | .tuple xs => .ok (.tuple (d :: xs)) S2
    | _ => .no
  | m, .var i, env, S => match env[i]? with
    | some (.val d) => .ok d S
    | some (.own xs) => if m = .b then .ok (.list xs) S else .no
    | some (.ownD t kvs) => if m = .b then .ok (.dict ((.none, .bool t) :: kvs)) S else .no
    | _ => .no
  | _, .cst d, _, S => .ok d S
  | _, .fn f, _, S => .ok (.dict [(.list [], .str f)]) S
  | _, .tup as, env, S => (evE cl .v as env S).bind fun d S1 => match d with
    | .tuple xs => if lim xs.length then .ok (.tuple xs) S1 else .no
    | _ => .no
  | _, .lst as, env, S => (evE cl .v as env S).bind fun d S1 => match d with
    | .tuple xs => if lim xs.length then .ok (.list xs) S1 else .no
    | _ => .no
  | _, .bin o a b, env, S => (evE cl .b a env S).bind fun x S1 => (evE cl .b b env S1).bind fun y S2 => ofO (binF o x y) S2
  | _, .neg a, env, S => (evE cl .b a env S).bind fun x S1 => match x with
    | .int i => .ok (.int (-i)) S1
    | _ => .no
  | _, .cmp o a b, env, S => (evE cl .b a env S).bind fun x S1 => (evE cl .b b env S1).bind fun y S2 => ofO ((cmpF o x y).map .bool) S2
  | _, .chn o o' a b c, env, S => (evE cl .b a env S).bind fun x S1 => (evE cl .b b env S1).bind fun y S2 => match cmpF o x y with
    | some true => (evE cl .b c env S2).bind fun z S3 => ofO ((cmpF o' y z).map .bool) S3
    | some false => .ok (.bool false) S2
    | none => .no
  | _, .and_ a b, env, S => (evE cl .b a env S).bind fun x S1 => match x with
    | .bool true => (evE cl .b b env S1).bind fun y S2 => match y with
      | .bool c => .ok (.bool c) S2
      | _ => .no
    | .bool false => .ok (.bool false) S1
    | _ => .no
  | _, .or_ a b, env, S => (evE cl .b a env S).bind fun x S1 => match x with
    | .bool false => (evE cl .b b env S1).bind fun y S2 => match y with
      | .bool c => .ok (.bool c) S2
      | _ => .no
    | .bool true => .ok (.bool true) S1
    | _ => .no
  | _, .not_ a, env, S => (evE cl .b a env S).bind fun x S1 => match x with
    | .bool c => .ok (.bool (!c)) S1
    | _ => .no
  | m, .ite c a b, env, S => (evE cl .b c env S).bind fun x S1 => match x with
    | .bool true => evE cl m a env S1
    | .bool false => evE cl m b env S1
    | _ => .no
  | _, .ix a i, env, S => (evE cl .b a env S).bind fun x S1 => (evE cl .b i env S1).bind fun y S2 => ofO (getF x y) S2
  | _, .cut a lo hi, env, S => (evE cl .b a env S).bind fun x S1 => (evE cl .b lo env S1).bind fun l S2 => match optI l with
    | some l => (evE cl .b hi env S2).bind fun h S3 => (match optI h with
      | some h => ofO (cutF x l h) S3
      | none => .no)
    | none => .no
  | _, .rev a, env, S => (evE cl .b a env S).bind fun x S1 => ofO (revF x) S1
  | _, .call f as, env, S => (evE cl .v as env S).bind fun d S1 => match d with
    | .tuple xs => cl f xs S1
    | _ => .no
  | _, .callv f as, env, S => (evE cl .b f env S).bind fun g S1 => (evE cl .v as env S1).bind fun d S2 => match g, d with
    | .dict [(.list [], .str f)], .tuple xs => cl f xs S2
    | _, _ => .no
  | _, .prim p as, env, S => (evE cl .b as env S).bind fun d S1 => match d with
    | .tuple xs => ofO (primF p xs) S1
    | _ => .no
  | _, .rng1 a, env, S => (evE cl .b a env S).bind fun x S1 => match x with
    | .int n => if n ≤ 100000 ∧ -100000 ≤ n then .ok (.list (rangeD 0 n.toNat)) S1 else .no
    | _ => .no
  | _, .rng2 a b, env, S => (evE cl .b a env S).bind fun x S1 => (evE cl .b b env S1).bind fun y S2 => match x, y with
    | .int lo, .int hi => if 0 ≤ lo ∧ lo ≤ 100000 ∧ hi ≤ 100000 ∧ -100000 ≤ hi then .ok (.list (rangeD lo.toNat (hi - lo).toNat)) S2 else .no
    | _, _ => .no
  | _, .rng3 .., _, _ => .no
  | m, .enm a, env, S => (evE cl m a env S).bind fun x S1 => match itemsOf x with
    | some xs => .ok (.list (enumD xs)) S1
    | none => .no
  | m, .zip a b, env, S => (evE cl m a env S).bind fun x S1 => (evE cl m b env S1).bind fun y S2 => zres x y S2
  | _, .comp e t own it c, env, S => (evE cl .b it env S).bind fun d S1 => match itemsOf d with
    | some items => if lim items.length then (match loopC (fun x S => turnC (setT t x (wipeS env own)) (evE cl .b c) (evE cl .v e) S) items S1 with
      | .ok ys S2 => .ok (.list ys) S2
      | _ => .no) else .no
    | none => .no
  | _, .dnew t, _, S => .ok (.dict [(.none, .bool t)]) S
  | _, .ddisp ks vs, env, S => .no
  | _, .get2 d k x, env, S => .no
  | _, .sm0 p a, env, S => (evE cl .b a env S).bind fun x S1 => match x with
    | .str z => ofO (smF p z) S1
    | _ => .no
  | _, .sm1 p a b, env, S => (evE cl .b a env S).bind fun x S1 => match x with
    | .str z => (evE cl .b b env S1).bind fun y S2 => ofO (smF1 p z y) S2
    | _ => .no
  | _, .lm1 p a k, env, S => (evE cl .b a env S).bind fun x S1 => match x with
    | .list xs => ofO (lmF1 p xs k) S1
    | _ => .no
  | _, .told a, env, S => match evE cl .v a env S with
    | .ok d S1 => .ok d S1
    | .ex c S1 => (match toldT.lookup c with
      | some w => .ok (.str w) S1
      | none => .no)
    | .no => .no
  | _, .new c as, env, S => (evE cl .v as env S).bind fun d S1 => match d with
    | .tuple xs => (match cl (mName c "__init__") (objD S1.length :: xs) (S1 ++ [⟨c, []⟩]) with
      | .ok .none S2 => .ok (objD S1.length) S2
      | .ex x S2 => .ex x S2
      | _ => .no)
    | _ => .no
  | _, .meth c o m as, env, S => (evE cl .b o env S).bind fun x S1 => match obOf x with
    | some n => (match S1[n]? with
      | some ob => if ob.cls = c ∧ ob.fs.lookup m = none then (evE cl .v as env S1).bind fun d S2 => (match d with
        | .tuple xs => cl (mName c m) (x :: xs) S2
        | _ => .no) else .no
      | none => .no)
    | none => .no
  | _, .fld c o f, env, S => (evE cl .b o env S).bind fun x S1 => match fieldAt S1 x c f with
    | some (.val d) => .ok d S1
    | _ => .no
  | _, .fNil c i f, env, S => match fieldI env S c i f with
    | some (.own xs) => if pure1 (.list xs) then .ok (.bool xs.isEmpty) S else .no
    | _ => .no
  | _, .fLen c i f, env, S => match fieldI env S c i f with
    | some (.own xs) => .ok (.int xs.length) S
    | _ => .no
  | _, .fList c i f, env, S => match fieldI env S c i f with
    | some (.own xs) => .ok (.list xs) S
    | some (.ownD _ es) => .ok (.list (es.map (·.1))) S
    | _ => .no
  | _, .fIn c j i f, env, S => match slotD env j, fieldI env S c i f with
    | some k, some (.ownD t es) => if hasKey t k then .ok (.bool (es.any fun p => PyData.eqv p.1 k)) S else .no
    | _, _ => .no
  | _, .fIx c i f j, env, S => match slotD env j, fieldI env S c i f with
    | some k, some (.ownD t es) => if hasKey t k then ofO ((es.find? fun p => PyData.eqv p.1 k).map (·.2)) S else .no
    | _, _ => .no
  | _, .fGet c i f j d, env, S => match slotD env j, fieldI env S c i f with
    | some k, some (.ownD t es) => if hasKey t k then .ok (((es.find? fun p => PyData.eqv p.1 k).map (·.2)).getD d) S else .no
    | _, _ => .no
/-! ### statements -/
inductive C where
  | skip | seq (a b : C) | frz (is : List Nat)
  | set (i : Nat) (e : E) | unp (is : List Nat) (e : E) | par (is : List Nat) (es : E) | par2 (i j : Nat) (a b : E) | par3 (i j l : Nat) (a b c : E)
  | ret (e : E) | retN | ife (c : E) (a b : C) | for_ (t : Tg) (it : E) (b : C) | whl (c : E) (b : C)
  | ex (e : E) | app (i : Nat) (e : E) | ext (i : Nat) (e : E) | popS (i : Nat) (l : Nat) | popA (i : Nat) (l : Nat) (e : E) | appPop (i : Nat) (l : Nat) (e : E)
  | put (i : Nat) (k v : E) | rse (c : Str) | cont | brk
  | try_ (b : C) (c : Str) (i : Nat) (h : C) | tryK (b : C) (x : Str) (i j : Nat) | stuck
  | fset (c : Str) (i : Nat) (f : Str) (e : E) | fapp (c : Str) (i : Nat) (f : Str) (j : Nat) (g : Str) | fpop2 (c : Str) (k l : Nat) (i : Nat) (f : Str) | fput (c : Str) (i : Nat) (f : Str) (j : Nat) (e : E) | fdel (c : Str) (i : Nat) (f : Str) (j : Nat)
inductive RS where
  | nx (env : Env) (S : Sto) | rt (d : D) (S : Sto) | ct (env : Env) (S : Sto) | bk (env : Env) (S : Sto) | ex (c : Str) (env : Env) (S : Sto) | no
def RS.ofE {α : Type} (env : Env) (r : Res α) (k : α → Sto → RS) : RS := match r with
  | .ok a S => k a S
  | .ex c S => .ex c env S
  | .no => .no
def frz1 (env : Env) (i : Nat) : Env := match env[i]? with
  | some (.own xs) => env.set i (.val (.list xs))
  | some (.ownD t kvs) => env.set i (.val (.dict ((.none, .bool t) :: kvs)))
  | _ => env
def slOf (fr : Bool) (d : D) : Sl := match fr, d with
  | true, .list xs => .own xs
  | true, .dict ((.none, .bool t) :: kvs) => .ownD t kvs
  | _, _ => .val d
def forL (f : D → Env → Sto → RS) : List D → Env → Sto → RS
  | [], env, S => .nx env S
  | x :: r, env, S => match f x env S with
    | .nx env1 S1 => forL f r env1 S1
    | .ct env1 S1 => forL f r env1 S1
    | .bk env1 S1 => .nx env1 S1
    | q => q
def whlL (c : Env → Sto → Res D) (f : Env → Sto → RS) : Nat → Env → Sto → RS
  | 0, _, _ => .no
  | n + 1, env, S => RS.ofE env (c env S) fun d S1 => match d with
    | .bool true => (match f env S1 with
      | .nx env1 S2 => whlL c f n env1 S2
      | .ct env1 S2 => whlL c f n env1 S2
      | .bk env1 S2 => .nx env1 S2
      | q => q)
    | .bool false => .nx env S1
    | _ => .no
def popK (xs : List D) : D → Option (D × List D)
  | .int k => if 0 ≤ k ∧ k < 1000000 then (xs[k.toNat]?).map fun y => (y, xs.eraseIdx k.toNat) else none
  | _ => none
def exS (cl : Calls) : C → Env → Sto → RS
  | .skip, env, S => .nx env S
  | .seq a b, env, S => match exS cl a env S with
    | .nx env1 S1 => exS cl b env1 S1
    | q => q
  | .frz is, env, S => .nx (is.foldl frz1 env) S
  | .set i e, env, S => RS.ofE env (evE cl (if fresh e then .f else .v) e env S) fun d S1 => .nx (env.set i (slOf (fresh e) d)) S1
  | .unp is e, env, S => RS.ofE env (evE cl .v e env S) fun d S1 => match setT (.tp is) d env with
    | some env1 => .nx env1 S1
    | none => .no
  | .par is es, env, S => RS.ofE env (evE cl .v es env S) fun d S1 => match setT (.tp is) d env with
    | some env1 => .nx env1 S1
    | none => .no
  | .par2 i j a b, env, S => RS.ofE env (evE cl (if fresh a then .f else .v) a env S) fun d S1 => RS.ofE env (evE cl (if fresh b then .f else .v) b env S1) fun d2 S2 => .nx ((env.set i (slOf (fresh a) d)).set j (slOf (fresh b) d2)) S2
  | .par3 i j l a b c, env, S => RS.ofE env (evE cl (if fresh a then .f else .v) a env S) fun d S1 => RS.ofE env (evE cl (if fresh b then .f else .v) b env S1) fun d2 S2 => RS.ofE env (evE cl (if fresh c then .f else .v) c env S2) fun d3 S3 => .nx (((env.set i (slOf (fresh a) d)).set j (slOf (fresh b) d2)).set l (slOf (fresh c) d3)) S3
  | .ret e, env, S => RS.ofE env (evE cl .v e env S) fun d S1 => .rt d S1
  | .retN, env, S => .rt .none S
  | .ife c a b, env, S => RS.ofE env (evE cl .b c env S) fun d S1 => match d with
    | .bool true => exS cl a env S1
    | .bool false => exS cl b env S1
    | _ => .no
  | .for_ t it b, env, S => RS.ofE env (evE cl .v it env S) fun d S1 => match itemsOf d with
    | some items => forL (fun x env S => match setT t x env with
      | some env1 => exS cl b env1 S
      | none => .no) items env S1
    | none => .no
  | .whl c b, env, S => whlL (evE cl .b c) (exS cl b) 100000 env S
  | .ex e, env, S => RS.ofE env (evE cl .b e env S) fun _ S1 => .nx env S1
  | .app i e, env, S => match env[i]? with
    | some (.own _) => RS.ofE env (evE cl .v e env S) fun d S1 => (match env[i]? with
      | some (.own xs) => if lim xs.length then .nx (env.set i (.own (xs ++ [d]))) S1 else .no
      | _ => .no)
    | _ => .no
  | .ext i e, env, S => match env[i]? with
    | some (.own _) => RS.ofE env (evE cl .b e env S) fun d S1 => (match env[i]?, d with
      | some (.own xs), .list ys => if lim (xs.length + ys.length) then .nx (env.set i (.own (xs ++ ys))) S1 else .no
      | _, _ => .no)
    | _ => .no
  | .popS i l, env, S => match env[l]? with
    | some (.own xs) => (match xs.getLast? with
      | some d => .nx ((env.set l (.own xs.dropLast)).set i (.val d)) S
      | none => .no)
    | _ => .no
  | .popA i l e, env, S => match env[l]? with
    | some (.own _) => RS.ofE env (evE cl .b e env S) fun d S1 => (match env[l]? with
      | some (.own xs) => (match popK xs d with
        | some (y, r) => .nx ((env.set l (.own r)).set i (.val y)) S1
        | none => .no)
      | _ => .no)
    | _ => .no
  | .appPop i l e, env, S => match env[i]?, env[l]? with
    | some (.own _), some (.own _) => if i = l then .no else RS.ofE env (evE cl .b e env S) fun d S1 => (match env[i]?, env[l]? with
      | some (.own ys), some (.own xs) => (match popK xs d with
        | some (y, r) => if lim ys.length then .nx ((env.set l (.own r)).set i (.own (ys ++ [y]))) S1 else .no
        | none => .no)
      | _, _ => .no)
    | _, _ => .no
  | .put i k v, env, S => match env[i]? with
    | some (.ownD ..) => RS.ofE env (evE cl .v v env S) fun d S1 => RS.ofE env (evE cl .v k env S1) fun x S2 => (match env[i]? with
      | some (.ownD t kvs) => if lim kvs.length && hasKey t x then .nx (env.set i (.ownD t (putD kvs x d))) S2 else .no
      | _ => .no)
    | _ => .no
  | .rse c, env, S => .ex c env S
  | .cont, env, S => .ct env S
  | .brk, env, S => .bk env S
  | .try_ .., _, _ => .no
  | .stuck, _, _ => .no
  | .tryK b x i j, env, S => match exS cl b env S with
    | .ex c env1 S1 => if exSub c x then .nx ((env1.set j (.val (excD c))).set i .no) S1 else .no
    | q => q
  | .fset c i f e, env, S => RS.ofE env (evE cl (if fresh e then .f else .v) e env S) fun d S1 => match slotD env i with
    | some x => (match obOf x with
      | some n => (match S1[n]? with
        | some ob => if ob.cls = c ∧ ob.fs.length < 1000 then .nx env (setFld S1 n f (slOf (fresh e) d)) else .no
        | none => .no)
      | none => .no)
    | none => .no
  | .fapp c i f j g, env, S => match slotD env i, slotD env j, fieldI env S c i f, fieldI env S c i g with
    | some x, some y, some (.own xs), some (.val z) => (match obOf x with
      | some n => if lim xs.length then .nx env (setFld S n f (.own (xs ++ [.tuple [y, z]]))) else .no
      | none => .no)
    | _, _, _, _ => .no
  | .fpop2 c k l i f, env, S => match slotD env i, fieldI env S c i f with
    | some x, some (.own xs) => (match obOf x, xs.getLast? with
      | some n, some d => (match setT (.tp [k, l]) d env with
        | some env1 => .nx env1 (setFld S n f (.own xs.dropLast))
        | none => .no)
      | _, _ => .no)
    | _, _ => .no
  | .fput c i f j e, env, S => RS.ofE env (evE cl .v e env S) fun d S1 => match slotD env i, slotD env j, fieldI env S1 c i f with
    | some x, some k, some (.ownD t es) => (match obOf x with
      | some n => if lim es.length && hasKey t k then .nx env (setFld S1 n f (.ownD t (putD es k d))) else .no
      | none => .no)
    | _, _, _ => .no
  | .fdel c i f j, env, S => match slotD env i, slotD env j, fieldI env S c i f with
    | some x, some k, some (.ownD t es) => (match obOf x with
      | some n => if hasKey t k && es.any (fun p => PyData.eqv p.1 k) then .nx env (setFld S n f (.ownD t (es.filter fun p => !PyData.eqv p.1 k))) else .no
      | none => .no)
    | _, _, _ => .no
structure Fn where
  ps : Nat
  ns : Nat
  body : C
def callF (T : Str → Option Fn) : Nat → Calls
  | 0, _, _, _ => .no
  | n + 1, f, ds, S => match T f with
    | some g => if ds.length = g.ps then (match exS (callF T n) g.body (ds.map .val ++ List.replicate (g.ns - g.ps) .no) S with
      | .nx _ S1 => .ok .none S1
      | .rt d S1 => .ok d S1
      | .ex c _ S1 => .ex c S1
      | _ => .no) else .no
    | none => .no
end Mini
/-! Worlds: how plain data lie in the abstract heap. -/
namespace Mini
open PySem L2
/-- A: the objects' addresses; Z: lists and dicts that are not changed any more; H: the abstract heap; F: what the objects hold and may change -/
structure Wd where
  A : List Addr
  Z : Addr → Prop
  H : Hp
  F : List Addr
def kD : Key → D
  | .inl i => .int i
  | .inr x => .str x
/-- f: the defs' addresses; k: the script, where it stands in the written part; c: the classes' addresses; x: the exceptions' classes; T: the tables of code objects -/
structure FA where
  f : Str → Option Addr
  k : Addr → List Int → Prop
  c : Str → Option Addr
  x : Str → Option Addr
  T : List (Addr × Str)
/-- the exception at a, of the class at C, without a dict -/
def ExcO (a C : Addr) : HO := .ext fun h => ∃ ox : Obj, PySem.W.InstAt h a ox C none
instance : CoeFun FA (fun _ => Str → Option Addr) := ⟨FA.f⟩
/-- the script is a list there -/
def KF (fa : FA) (K : PySem.W.Frag) : Prop := ∀ a ns, fa.k a ns → ∃ (o : Obj) (its : Array Value) (n : Nat), K.lookup a = some o ∧ o.cls = .type "list" ∧ o.dict = none ∧ o.data = .seq its n ∧ its.size ≤ sizeLine ∧ Vals (ns.map V.int) its.toList
mutual
inductive R (fa : FA) (w : Wd) : D → V → Prop
  | non : R fa w .none .non
  | bl (b : Bool) : R fa w (.bool b) (.bl b)
  | int (i : Int) : R fa w (.int i) (.int i)
  | str (x : Str) : R fa w (.str x) (.str x)
  | tup {a : Addr} {vs : List V} {ds : List D} : w.H a = some (.tup vs) → Rs fa w ds vs → R fa w (.tuple ds) (.ref a)
  | lst {a : Addr} {vs : List V} {ds : List D} : w.Z a → w.H a = some (.lst vs) → Rs fa w ds vs → R fa w (.list ds) (.ref a)
  | dk {a : Addr} {kvs : List (Key × V)} {es : List (D × D)} : w.Z a → w.H a = some (.dK kvs) → RK fa w es kvs → R fa w (.dict ((.none, .bool false) :: es)) (.ref a)
  | dt {a : Addr} {kvs : List (List Key × V)} {es : List (D × D)} : w.Z a → w.H a = some (.dT kvs) → RT fa w es kvs → R fa w (.dict ((.none, .bool true) :: es)) (.ref a)
  | obj {n : Nat} {a : Addr} : w.A[n]? = some a → R fa w (.dict [(.list [], .int n)]) (.ref a)
  | fn {f : Str} {a : Addr} : fa f = some a → R fa w (.dict [(.list [], .str f)]) (.ref a)
  | exc {a C : Addr} {c : Str} : w.Z a → fa.x c = some C → Rd w.H a (ExcO a C) → R fa w (.dict [(.list [], .tuple [.str c])]) (.ref a)
  | scr {a : Addr} {ns : List Int} : (w.Z a ∧ Rd w.H a (.lst (ns.map V.int))) ∨ fa.k a ns → R fa w (.dict [(.list [], .list (ns.map .int))]) (.ref a)
inductive Rs (fa : FA) (w : Wd) : List D → List V → Prop
  | nil : Rs fa w [] []
  | cons {d : D} {ds : List D} {v : V} {vs : List V} : R fa w d v → Rs fa w ds vs → Rs fa w (d :: ds) (v :: vs)
inductive RK (fa : FA) (w : Wd) : List (D × D) → List (Key × V) → Prop
  | nil : RK fa w [] []
  | cons {k : Key} {d : D} {v : V} {es : List (D × D)} {kvs : List (Key × V)} : R fa w d v → RK fa w es kvs → RK fa w ((kD k, d) :: es) ((k, v) :: kvs)
inductive RT (fa : FA) (w : Wd) : List (D × D) → List (List Key × V) → Prop
  | nil : RT fa w [] []
  | cons {k : List Key} {d : D} {v : V} {es : List (D × D)} {kvs : List (List Key × V)} : R fa w d v → RT fa w es kvs → RT fa w ((.tuple (k.map kD), d) :: es) ((k, v) :: kvs)
end
/-- what plain data need: no less is frozen, frozen things and tuples stay -/
structure Ext (w w' : Wd) : Prop where
  a : ∀ (n : Nat) (x : Addr), w.A[n]? = some x → w'.A[n]? = some x
  z : ∀ x, w.Z x → w'.Z x
  h : ∀ x o, w.Z x → w.H x = some o → w'.H x = some o
  t : ∀ x vs, w.H x = some (.tup vs) → w'.H x = some (.tup vs)
theorem Ext.refl (w : Wd) : Ext w w := ⟨fun _ _ h => h, fun _ h => h, fun _ _ _ h => h, fun _ _ h => h⟩
theorem Ext.trans {w w1 w2 : Wd} (p : Ext w w1) (q : Ext w1 w2) : Ext w w2 :=
  ⟨fun n x h => q.a n x (p.a n x h), fun x h => q.z x (p.z x h), fun x o z h => q.h x o (p.z x z) (p.h x o z h), fun x vs h => q.t x vs (p.t x vs h)⟩
theorem Ext.rd {w w' : Wd} (e : Ext w w') {x : Addr} {u : HO} (z : w.Z x) (h : Rd w.H x u) : Rd w'.H x u := by
  rcases h with h | ⟨o, h⟩
  · exact .inl (e.h x _ z h)
  · exact .inr ⟨o, e.h x _ z h⟩
variable {fa : FA}
mutual
theorem R.mono {w w' : Wd} (e : Ext w w') : ∀ {d : D} {v : V}, R fa w d v → R fa w' d v
  | _, _, .non => .non
  | _, _, .bl b => .bl b
  | _, _, .int i => .int i
  | _, _, .str x => .str x
  | _, _, .tup h r => .tup (e.t _ _ h) (Rs.mono e r)
  | _, _, .lst z h r => .lst (e.z _ z) (e.h _ _ z h) (Rs.mono e r)
  | _, _, .dk z h r => .dk (e.z _ z) (e.h _ _ z h) (RK.mono e r)
  | _, _, .dt z h r => .dt (e.z _ z) (e.h _ _ z h) (RT.mono e r)
  | _, _, .obj h => .obj (e.a _ _ h)
  | _, _, .fn h => .fn h
  | _, _, .exc z hc h => .exc (e.z _ z) hc (e.rd z h)
  | _, _, .scr (.inl h) => .scr (.inl ⟨e.z _ h.1, e.rd h.1 h.2⟩)
  | _, _, .scr (.inr h) => .scr (.inr h)
theorem Rs.mono {w w' : Wd} (e : Ext w w') : ∀ {d : List D} {v : List V}, Rs fa w d v → Rs fa w' d v
  | _, _, .nil => .nil
  | _, _, .cons h r => .cons (R.mono e h) (Rs.mono e r)
theorem RK.mono {w w' : Wd} (e : Ext w w') : ∀ {d : List (D × D)} {v : List (Key × V)}, RK fa w d v → RK fa w' d v
  | _, _, .nil => .nil
  | _, _, .cons h r => .cons (R.mono e h) (RK.mono e r)
theorem RT.mono {w w' : Wd} (e : Ext w w') : ∀ {d : List (D × D)} {v : List (List Key × V)}, RT fa w d v → RT fa w' d v
  | _, _, .nil => .nil
  | _, _, .cons h r => .cons (R.mono e h) (RT.mono e r)
end
theorem Rs.length {w : Wd} : ∀ {d : List D} {v : List V}, Rs fa w d v → d.length = v.length
  | _, _, .nil => rfl
  | _, _, .cons _ r => by rw [List.length_cons, List.length_cons, Rs.length r]
theorem Rs.get {w : Wd} : ∀ {d : List D} {v : List V} {i : Nat} {x : D}, Rs fa w d v → d[i]? = some x → ∃ y, v[i]? = some y ∧ R fa w x y
  | _, _, _, _, .nil, e => by simp at e
  | _, _, 0, _, .cons h _, e => by
    simp at e
    subst e
    exact ⟨_, rfl, h⟩
  | _, _, i + 1, _, .cons _ r, e => by
    obtain ⟨y, h1, h2⟩ := Rs.get (i := i) r (by simpa using e)
    exact ⟨y, by simpa using h1, h2⟩
theorem Rs.get' {w : Wd} {d : List D} {v : List V} {i : Nat} {y : V} (h : Rs fa w d v) (e : v[i]? = some y) : ∃ x, d[i]? = some x ∧ R fa w x y := by
  have hi : i < d.length := by
    rw [h.length]
    exact (List.getElem?_eq_some_iff.mp e).1
  obtain ⟨y', e', r⟩ := h.get (List.getElem?_eq_getElem hi)
  rw [e] at e'
  cases e'
  exact ⟨_, List.getElem?_eq_getElem hi, r⟩
theorem Rs.append {w : Wd} : ∀ {d d' : List D} {v v' : List V}, Rs fa w d v → Rs fa w d' v' → Rs fa w (d ++ d') (v ++ v')
  | _, _, _, _, .nil, s => s
  | _, _, _, _, .cons h r, s => .cons h (Rs.append r s)
theorem Rs.take {w : Wd} : ∀ {d : List D} {v : List V} (n : Nat), Rs fa w d v → Rs fa w (d.take n) (v.take n)
  | _, _, 0, _ => by
    rw [List.take_zero, List.take_zero]
    exact .nil
  | _, _, _ + 1, .nil => .nil
  | _, _, n + 1, .cons h r => .cons h (Rs.take n r)
theorem Rs.drop {w : Wd} : ∀ {d : List D} {v : List V} (n : Nat), Rs fa w d v → Rs fa w (d.drop n) (v.drop n)
  | _, _, 0, r => r
  | _, _, _ + 1, .nil => .nil
  | _, _, n + 1, .cons _ r => Rs.drop n r
theorem Rs.reverse {w : Wd} {d : List D} {v : List V} (h : Rs fa w d v) : Rs fa w d.reverse v.reverse := by
  induction d generalizing v with
  | nil =>
    cases h
    exact .nil
  | cons x d ih =>
    cases h with
    | cons h r =>
      rw [List.reverse_cons, List.reverse_cons]
      exact (ih r).append (.cons h .nil)
theorem Rs.rep {w : Wd} {d : List D} {v : List V} (h : Rs fa w d v) : ∀ k : Nat, Rs fa w (List.replicate k d).flatten (List.replicate k v).flatten
  | 0 => .nil
  | k + 1 => by
    rw [List.replicate_succ, List.flatten_cons, List.replicate_succ, List.flatten_cons]
    exact h.append (h.rep k)
/-! ### the store -/
def isOwn : Sl → Bool
  | .own _ => true
  | .ownD .. => true
  | _ => false
/-- the dict at p -/
def DR (fa : FA) (w : Wd) (t : Bool) (es : List (D × D)) (p : Addr) : Prop := (t = false ∧ ∃ kvs, w.H p = some (.dK kvs) ∧ RK fa w es kvs) ∨ (t = true ∧ ∃ kvs, w.H p = some (.dT kvs) ∧ RT fa w es kvs)
/-- what a field holds -/
def FldR (fa : FA) (w : Wd) : Sl → V → Prop
  | .no, _ => False
  | .val d, v => R fa w d v
  | .own xs, v => ∃ p vs, v = .ref p ∧ w.H p = some (.lst vs) ∧ Rs fa w xs vs ∧ p ∈ w.F
  | .ownD t es, v => ∃ p, v = .ref p ∧ DR fa w t es p ∧ p ∈ w.F
inductive FsR (fa : FA) (w : Wd) : List (Str × Sl) → List (Str × V) → Prop
  | nil : FsR fa w [] []
  | cons {f : Str} {s : Sl} {v : V} {r : List (Str × Sl)} {r' : List (Str × V)} : FldR fa w s v → FsR fa w r r' → FsR fa w ((f, s) :: r) ((f, v) :: r')
structure StoR (fa : FA) (w : Wd) (S : Sto) : Prop where
  len : S.length = w.A.length
  at_ : ∀ (n : Nat) ob a, S[n]? = some ob → w.A[n]? = some a → a ∈ w.F ∧ ∃ C dx fs, fa.c ob.cls = some C ∧ w.H a = some (.ins C dx fs) ∧ FsR fa w ob.fs fs
  inj : ∀ (n m : Nat) a, w.A[n]? = some a → w.A[m]? = some a → n = m
  nd : ∀ (n : Nat) ob, S[n]? = some ob → (ob.fs.map (·.1)).Nodup
  sep : ∀ (n m : Nat) a b C dx fs C' dx' fs' f g p ob ob' s s', w.A[n]? = some a → w.A[m]? = some b → w.H a = some (.ins C dx fs) → w.H b = some (.ins C' dx' fs') → S[n]? = some ob → S[m]? = some ob' →
    ob.fs.lookup f = some s → ob'.fs.lookup g = some s' → isOwn s = true → isOwn s' = true → fs.lookup f = some (.ref p) → fs'.lookup g = some (.ref p) → n = m ∧ f = g
/-- nothing of ours: nothing at all, or a table of code objects -/
def Nn (H : Hp) (x : Addr) : Prop := H x = none ∨ ∃ ps, H x = some (.tbl ps)
theorem Nn.of {H : Hp} {x : Addr} (h : H x = none) : Nn H x := .inl h
theorem Nn.lst {H : Hp} {x : Addr} {vs : List V} (h : Nn H x) (e : H x = some (.lst vs)) : False := by
  rcases h with z | ⟨ps, z⟩ <;> rw [e] at z <;> cases z
theorem Nn.no {H : Hp} {x : Addr} {o : HO} (h : Nn H x) (e : H x = some o) (ho : ∀ ps, o ≠ .tbl ps) : False := by
  rcases h with z | ⟨ps, z⟩ <;> rw [e] at z <;> cases z
  exact ho ps rfl
theorem DR.nn {w : Wd} {t : Bool} {es : List (D × D)} {p : Addr} (h : DR fa w t es p) (z : Nn w.H p) : False := by
  rcases h with ⟨_, kvs, h, _⟩ | ⟨_, kvs, h, _⟩ <;> exact z.no h fun ps e => by cases e
structure Ok (fa : FA) (w : Wd) (S : Sto) : Prop where
  zf : ∀ a, w.Z a → a ∉ w.F
  ft : ∀ a ∈ w.F, ∀ vs, w.H a ≠ some (.tup vs)
  fs : ∀ a ∈ w.F, ¬ Nn w.H a
  zs : ∀ a, w.Z a → ¬ Nn w.H a
  tab : LamX.Tabs fa.T w.H
  sto : StoR fa w S
structure Step (w w' : Wd) : Prop where
  a : ∀ (n : Nat) (x : Addr), w.A[n]? = some x → w'.A[n]? = some x
  z : ∀ x, w.Z x → w'.Z x
  keep : ∀ x o, w.H x = some o → x ∉ w.F → (∀ ps, o ≠ .tbl ps) → w'.H x = some o
  zn : ∀ x, w'.Z x → w.Z x ∨ Nn w.H x
  fn : ∀ x ∈ w'.F, x ∈ w.F ∨ Nn w.H x
  live : ∀ x, Nn w'.H x → Nn w.H x
theorem Step.refl (w : Wd) : Step w w := ⟨fun _ _ h => h, fun _ h => h, fun _ _ h _ _ => h, fun _ h => .inl h, fun _ h => .inl h, fun _ h => h⟩
theorem Step.trans {w w1 w2 : Wd} (p : Step w w1) (q : Step w1 w2) : Step w w2 where
  a := fun n x h => q.a n x (p.a n x h)
  z := fun x h => q.z x (p.z x h)
  keep := fun x o h hf ho => q.keep x o (p.keep x o h hf ho) (fun z => by
    rcases p.fn x z with z | z
    · exact hf z
    · exact z.no h ho) ho
  zn := fun x h => by
    rcases q.zn x h with h | h
    · exact p.zn x h
    · exact .inr (p.live x h)
  fn := fun x h => by
    rcases q.fn x h with h | h
    · exact p.fn x h
    · exact .inr (p.live x h)
  live := fun x h => p.live x (q.live x h)
theorem nn_tbl {H : Hp} {x : Addr} {o : HO} (hn : ¬ Nn H x) (h : H x = some o) : ∀ ps, o ≠ .tbl ps := fun ps e => hn (.inr ⟨ps, by rw [h, e]⟩)
theorem Step.ext {w w' : Wd} {S : Sto} (p : Step w w') (k : Ok fa w S) : Ext w w' :=
  ⟨p.a, p.z, fun x o z h => p.keep x o h (k.zf x z) (nn_tbl (k.zs x z) h), fun x vs h => p.keep x _ h (fun hf => k.ft x hf vs h) fun ps e => by cases e⟩
/-! what the store leans on -/
theorem DR.mono {w w' : Wd} (e : Ext w w') {t : Bool} {es : List (D × D)} {p : Addr} (h : DR fa w t es p) (hp : ∀ o, w.H p = some o → w'.H p = some o) : DR fa w' t es p := by
  rcases h with ⟨e1, kvs, h2, h3⟩ | ⟨e1, kvs, h2, h3⟩
  · exact .inl ⟨e1, kvs, hp _ h2, h3.mono e⟩
  · exact .inr ⟨e1, kvs, hp _ h2, h3.mono e⟩
theorem FldR.mono {w w' : Wd} (e : Ext w w') {s : Sl} {v : V} (h : FldR fa w s v) (hp : isOwn s = true → ∀ p, v = .ref p → p ∈ w.F → (∀ o, w.H p = some o → w'.H p = some o) ∧ p ∈ w'.F) : FldR fa w' s v := by
  cases s with
  | no => exact h
  | val d => exact R.mono e h
  | own xs =>
    obtain ⟨p, vs, h1, h2, h3, h4⟩ := h
    exact ⟨p, vs, h1, (hp rfl p h1 h4).1 _ h2, h3.mono e, (hp rfl p h1 h4).2⟩
  | ownD t es =>
    obtain ⟨p, h1, h2, h4⟩ := h
    exact ⟨p, h1, h2.mono e (hp rfl p h1 h4).1, (hp rfl p h1 h4).2⟩
theorem FsR.mono {w w' : Wd} (e : Ext w w') (hp : ∀ p ∈ w.F, (∀ o, w.H p = some o → w'.H p = some o) ∧ p ∈ w'.F) : ∀ {r : List (Str × Sl)} {r' : List (Str × V)}, FsR fa w r r' → FsR fa w' r r'
  | _, _, .nil => .nil
  | _, _, .cons h r => .cons (h.mono e fun _ p _ hf => hp p hf) (FsR.mono e hp r)
/-- the store's things stay as they are -/
theorem StoR.keep {w w' : Wd} {S : Sto} (e : Ext w w') (hA : w'.A = w.A) (hF : ∀ x ∈ w.F, w'.H x = w.H x ∧ x ∈ w'.F) (h : StoR fa w S) : StoR fa w' S where
  len := by rw [hA]; exact h.len
  at_ := fun n ob a e1 e2 => by
    rw [hA] at e2
    obtain ⟨h1, C, dx, fs, h2, h3, h4⟩ := h.at_ n ob a e1 e2
    exact ⟨(hF a h1).2, C, dx, fs, h2, by rw [(hF a h1).1]; exact h3, h4.mono e fun p hp => ⟨fun o q => by rw [(hF p hp).1]; exact q, (hF p hp).2⟩⟩
  inj := fun n m a => by rw [hA]; exact h.inj n m a
  nd := h.nd
  sep := fun n m a b C dx fs C' dx' fs' f g p ob ob' s s' e1 e2 e3 e4 q1 q2 => by
    rw [hA] at e1 e2
    rw [(hF a (h.at_ n ob a q1 e1).1).1] at e3
    rw [(hF b (h.at_ m ob' b q2 e2).1).1] at e4
    exact h.sep n m a b C dx fs C' dx' fs' f g p ob ob' s s' e1 e2 e3 e4 q1 q2
/-- the tables stay, if but lists and dicts change -/
theorem tabs_but {T : List (Addr × Str)} {H H' : Hp} (t : LamX.Tabs T H) (e : ∀ b o, H b = some o → (∃ ps, o = .tbl ps) ∨ (∃ φ, o = .ext φ) → H' b = some o) : LamX.Tabs T H' := fun p hp => by
  obtain ⟨ps, h1, h2, h3⟩ := t p hp
  refine ⟨ps, e _ _ h1 (.inl ⟨ps, rfl⟩), h2, fun pos cv hc => ?_⟩
  obtain ⟨c, e1, e2⟩ := h3 pos cv hc
  exact ⟨c, e1, e _ _ e2 (.inr ⟨_, rfl⟩)⟩
/-! ### slots -/
def SlotR (fa : FA) (w : Wd) : Sl → Option V → Prop
  | .no, _ => True
  | .val d, ov => ∃ v, ov = some v ∧ R fa w d v
  | .own xs, ov => ∃ p vs, ov = some (.ref p) ∧ w.H p = some (.lst vs) ∧ Rs fa w xs vs ∧ ¬ w.Z p ∧ p ∉ w.F
  | .ownD t es, ov => ∃ p, ov = some (.ref p) ∧ DR fa w t es p ∧ ¬ w.Z p ∧ p ∉ w.F
structure ER (fa : FA) (w : Wd) (env : Env) (σ : St) : Prop where
  len : env.length = σ.length
  at_ : ∀ (i : Nat) s ov, env[i]? = some s → σ[i]? = some ov → SlotR fa w s ov
  sep : ∀ (i j : Nat) p s s', env[i]? = some s → isOwn s = true → σ[i]? = some (some (.ref p)) → env[j]? = some s' → isOwn s' = true → σ[j]? = some (some (.ref p)) → i = j
theorem SlotR.mono {w w' : Wd} {S : Sto} (p : Step w w') (k : Ok fa w S) {s : Sl} {ov : Option V} (h : SlotR fa w s ov) : SlotR fa w' s ov := by
  have e := p.ext k
  cases s with
  | no => trivial
  | val d =>
    obtain ⟨v, h1, h2⟩ := h
    exact ⟨v, h1, h2.mono e⟩
  | own xs =>
    obtain ⟨q, vs, h1, h2, h3, h4, h5⟩ := h
    refine ⟨q, vs, h1, p.keep _ _ h2 h5 (fun ps e => by cases e), h3.mono e, fun z => ?_, fun z => ?_⟩
    · rcases p.zn q z with z | z
      · exact h4 z
      · exact z.lst h2
    · rcases p.fn q z with z | z
      · exact h5 z
      · exact z.lst h2
  | ownD t es =>
    obtain ⟨q, h1, h2, h4, h5⟩ := h
    refine ⟨q, h1, ?_, fun z => ?_, fun z => ?_⟩
    · exact h2.mono e fun o h => p.keep _ _ h h5 fun ps e => h2.nn (.inr ⟨ps, by rw [h, e]⟩)
    · rcases p.zn q z with z | z
      · exact h4 z
      · exact h2.nn z
    · rcases p.fn q z with z | z
      · exact h5 z
      · exact h2.nn z
theorem ER.mono {w w' : Wd} {S : Sto} {env : Env} {σ : St} (p : Step w w') (k : Ok fa w S) (h : ER fa w env σ) : ER fa w' env σ :=
  ⟨h.len, fun i s ov h1 h2 => (h.at_ i s ov h1 h2).mono p k, h.sep⟩
/-! ### results -/
/-- only looked at: frozen, or a list or dict that stands outside the store -/
inductive RB (fa : FA) (w : Wd) : D → V → Prop
  | r {d : D} {v : V} : R fa w d v → RB fa w d v
  | l {p : Addr} {vs : List V} {xs : List D} : w.H p = some (.lst vs) → Rs fa w xs vs → p ∉ w.F → RB fa w (.list xs) (.ref p)
  | k {p : Addr} {kvs : List (Key × V)} {es : List (D × D)} : w.H p = some (.dK kvs) → RK fa w es kvs → p ∉ w.F → RB fa w (.dict ((.none, .bool false) :: es)) (.ref p)
  | t {p : Addr} {kvs : List (List Key × V)} {es : List (D × D)} : w.H p = some (.dT kvs) → RT fa w es kvs → p ∉ w.F → RB fa w (.dict ((.none, .bool true) :: es)) (.ref p)
theorem Step.nf {w w' : Wd} (p : Step w w') {x : Addr} {o : HO} (h : w.H x = some o) (hf : x ∉ w.F) (ho : ∀ ps, o ≠ .tbl ps) : x ∉ w'.F := fun z => by
  rcases p.fn x z with z | z
  · exact hf z
  · exact z.no h ho
theorem RB.mono {w w' : Wd} {S : Sto} (p : Step w w') (k : Ok fa w S) {d : D} {v : V} (h : RB fa w d v) : RB fa w' d v := by
  have e := p.ext k
  cases h with
  | r h => exact .r (h.mono e)
  | l h1 h2 h3 => exact .l (p.keep _ _ h1 h3 fun ps e => by cases e) (h2.mono e) (p.nf h1 h3 fun ps e => by cases e)
  | k h1 h2 h3 => exact .k (p.keep _ _ h1 h3 fun ps e => by cases e) (h2.mono e) (p.nf h1 h3 fun ps e => by cases e)
  | t h1 h2 h3 => exact .t (p.keep _ _ h1 h3 fun ps e => by cases e) (h2.mono e) (p.nf h1 h3 fun ps e => by cases e)
/-- fresh since w0: it may become a slot's own -/
def RF (fa : FA) (w0 w : Wd) (d : D) (v : V) : Prop := match d with
  | .list xs => ∃ p vs, v = .ref p ∧ w.H p = some (.lst vs) ∧ Rs fa w xs vs ∧ ¬ w.Z p ∧ p ∉ w.F ∧ Nn w0.H p
  | .dict es => ∃ p t es', v = .ref p ∧ es = (.none, .bool t) :: es' ∧ DR fa w t es' p ∧ ¬ w.Z p ∧ p ∉ w.F ∧ Nn w0.H p
  | d => R fa w d v
def RM (fa : FA) (m : Md) (w0 w : Wd) (d : D) (v : V) : Prop := match m with
  | .b => RB fa w d v
  | .v => R fa w d v
  | .f => RF fa w0 w d v
abbrev CA := Str → Option Addr
/-- what is wanted behind a result -/
def PostE (fa : FA) (ca : CA) (W : WX) (σ : St) (m : Md) (w : Wd) (r : Res D) (Q : VK) : Prop := match r with
  | .ok d S => ∀ w' v, Step w w' → Ok fa w' S → RM fa m w w' d v → Q v w'.H
  | .ex c S => ∀ w' C, Step w w' → Ok fa w' S → ca c = some C → W (.ref C) none σ w'.H
  | .no => False
theorem RF.back {w w1 w2 : Wd} (p : Step w w1) {d : D} {v : V} (h : RF fa w1 w2 d v) : RF fa w w2 d v := by
  cases d with
  | list xs =>
    obtain ⟨q, vs, h1, h2, h3, h4, h5, h6⟩ := h
    exact ⟨q, vs, h1, h2, h3, h4, h5, p.live q h6⟩
  | dict es =>
    obtain ⟨q, t, es', h1, h1', h2, h4, h5, h6⟩ := h
    exact ⟨q, t, es', h1, h1', h2, h4, h5, p.live q h6⟩
  | none => exact h
  | bool b => exact h
  | int i => exact h
  | str x => exact h
  | tuple xs => exact h
theorem RM.back {w w1 w2 : Wd} {m : Md} (p : Step w w1) {d : D} {v : V} (h : RM fa m w1 w2 d v) : RM fa m w w2 d v := by
  cases m with
  | b => exact h
  | v => exact h
  | f => exact RF.back p h
theorem PostE.later {ca : CA} {W : WX} {σ : St} {m : Md} {w w1 : Wd} {r : Res D} {Q : VK} (p : Step w w1) (h : PostE fa ca W σ m w r Q) : PostE fa ca W σ m w1 r Q := by
  cases r with
  | ok d S => exact fun w' v s k r => h w' v (p.trans s) k (RM.back p r)
  | ex c S => exact fun w' C s k e => h w' C (p.trans s) k e
  | no => exact h
/-- an expression's reading -/
def tE (fa : FA) (ca : CA) (cl : Calls) (W : WX) (m : Md) (e : E) : TE := fun σ H Q =>
  ∃ w env S, w.H = H ∧ Ok fa w S ∧ ER fa w env σ ∧ PostE fa ca W σ m w (evE cl m e env S) Q
/-- the first part of a compound, then the rest -/
theorem tE_bind {ca : CA} {cl : Calls} {W : WX} {m m' : Md} {e : E} {σ : St} {w : Wd} {env : Env} {S : Sto} {Q : VK} {k : D → Sto → Res D} (hk : Ok fa w S) (he : ER fa w env σ)
    (h : PostE fa ca W σ m' w ((evE cl m e env S).bind k) Q) {Q' : VK}
    (hq : ∀ d S1 w1 v, Step w w1 → Ok fa w1 S1 → ER fa w1 env σ → RM fa m w w1 d v → PostE fa ca W σ m' w1 (k d S1) Q → Q' v w1.H) : tE fa ca cl W m e σ w.H Q' := by
  refine ⟨w, env, S, rfl, hk, he, ?_⟩
  cases r : evE cl m e env S with
  | ok d S1 =>
    rw [r] at h
    exact fun w1 v s k1 rm => hq d S1 w1 v s k1 (he.mono s hk) rm (h.later s)
  | ex c S1 =>
    rw [r] at h
    exact h
  | no =>
    rw [r] at h
    exact h
end Mini
/-! The evaluator is sound: expressions. -/
namespace Mini
open PySem L2
variable {fa : FA} {ca : CA} {cl : Calls}
theorem _root_.L2.PE.weak {X : Cx} {e : Expr} {t t' : TE} (h : PE X e t) (i : ∀ σ H Q, t' σ H Q → t σ H Q) : PE X e t' := ⟨fun pins s σ H Q I q => h.run pins s σ H Q I (i σ H Q q)⟩
theorem _root_.L2.PT.weak {X : Cx} {e : Expr} {t t' : TT} (h : PT X e t) (i : ∀ σ H Q, t' σ H Q → t σ H Q) : PT X e t' := ⟨fun pins s σ H Q I q => h.run pins s σ H Q I (i σ H Q q)⟩
theorem _root_.L2.PA.weak {X : Cx} {e : List Expr} {t t' : TA} (h : PA X e t) (i : ∀ σ H Q, t' σ H Q → t σ H Q) : PA X e t' := ⟨fun pos pins s σ H Q I q => h.run pos pins s σ H Q I (i σ H Q q)⟩
theorem _root_.L2.PS.weak {X : Cx} {e : Stmt} {t t' : TS} (h : PS X e t) (i : ∀ D σ H, t' D σ H → t D σ H) : PS X e t' := ⟨fun pins s σ H D I q => h.run pins s σ H D I (i D σ H q)⟩
theorem _root_.L2.PSs.weak {X : Cx} {e : List Stmt} {t t' : TS} (h : PSs X e t) (i : ∀ D σ H, t' D σ H → t D σ H) : PSs X e t' := ⟨fun pins s σ H D I q => h.run pins s σ H D I (i D σ H q)⟩
/-! ### new objects -/
theorem nn_upd {H : Hp} {p a : Addr} {o : HO} (h : ¬ Nn H a) (hn : a ≠ p) : ¬ Nn (upd H p o) a := fun z => h (by
  unfold Nn at z ⊢
  rw [upd_ne hn] at z
  exact z)
theorem Ok.alloc {w : Wd} {S : Sto} {p : Addr} {o : HO} (k : Ok fa w S) (hp : w.H p = none) : Ok fa { w with H := upd w.H p o } S where
  zf := k.zf
  ft := fun a ha vs => by
    have : a ≠ p := fun z => k.fs a ha (.inl (by rw [z]; exact hp))
    show upd w.H p o a ≠ _
    rw [upd_ne this]
    exact k.ft a ha vs
  fs := fun a ha => nn_upd (k.fs a ha) fun z => k.fs a ha (.inl (by rw [z]; exact hp))
  zs := fun a ha => nn_upd (k.zs a ha) fun z => k.zs a ha (.inl (by rw [z]; exact hp))
  tab := k.tab.ext fun b u e => by
    show upd w.H p o b = _
    rw [upd_ne (ne_of_none e hp)]
    exact e
  sto := StoR.keep (w := w) ⟨fun _ _ h => h, fun _ h => h, fun x u _ h => by
      show upd w.H p o x = _
      rw [upd_ne (ne_of_none h hp)]
      exact h, fun x vs h => by
      show upd w.H p o x = _
      rw [upd_ne (ne_of_none h hp)]
      exact h⟩ rfl (fun x hx => ⟨upd_ne fun z => k.fs x hx (.inl (by rw [z]; exact hp)), hx⟩) k.sto
theorem Step.alloc {w : Wd} {p : Addr} {o : HO} (hp : w.H p = none) : Step w { w with H := upd w.H p o } where
  a := fun _ _ h => h
  z := fun _ h => h
  keep := fun x u h _ _ => by
    show upd w.H p o x = _
    rw [upd_ne (ne_of_none h hp)]
    exact h
  zn := fun _ h => .inl h
  fn := fun _ h => .inl h
  live := fun x h => by
    by_cases e : x = p
    · rw [e]
      exact .inl hp
    · unfold Nn at h ⊢
      have h : upd w.H p o x = none ∨ ∃ ps, upd w.H p o x = some (.tbl ps) := h
      rw [upd_ne e] at h
      exact h
theorem Ok.frz {w : Wd} {S : Sto} {p : Addr} (k : Ok fa w S) (hp : ¬ Nn w.H p) (hf : p ∉ w.F) : Ok fa { w with Z := fun a => w.Z a ∨ a = p } S where
  zf := fun a ha => by
    rcases ha with h | h
    · exact k.zf a h
    · rw [h]
      exact hf
  ft := k.ft
  fs := k.fs
  zs := fun a ha => by
    rcases ha with h | h
    · exact k.zs a h
    · rw [h]
      exact hp
  tab := k.tab
  sto := StoR.keep (w := w) ⟨fun _ _ h => h, fun _ h => .inl h, fun _ _ _ h => h, fun _ _ h => h⟩ rfl (fun x hx => ⟨rfl, hx⟩) k.sto
theorem Ok.fresh {w : Wd} {S : Sto} {p : Addr} (k : Ok fa w S) (hp : w.H p = none) : p ∉ w.F ∧ ¬ w.Z p := ⟨fun z => k.fs p z (.inl hp), fun z => k.zs p z (.inl hp)⟩
theorem Ext.alloc {w : Wd} {S : Sto} {p : Addr} {o : HO} (k : Ok fa w S) (hp : w.H p = none) : Ext w { w with H := upd w.H p o } := (Step.alloc hp).ext k
theorem Ext.frz {w : Wd} {p : Addr} : Ext w { w with Z := fun a => w.Z a ∨ a = p } := ⟨fun _ _ h => h, fun _ h => .inl h, fun _ _ _ h => h, fun _ _ h => h⟩
theorem Step.allocZ {w : Wd} {p : Addr} {o : HO} (hp : w.H p = none) : Step w { w with H := upd w.H p o, Z := fun a => w.Z a ∨ a = p } where
  a := fun _ _ h => h
  z := fun _ h => .inl h
  keep := (Step.alloc (o := o) hp).keep
  zn := fun x h => by
    rcases h with h | h
    · exact .inl h
    · rw [h]
      exact .inr (.inl hp)
  fn := fun _ h => .inl h
  live := (Step.alloc (o := o) hp).live
theorem nn_lst {H : Hp} {p : Addr} {vs : List V} (h : H p = some (.lst vs)) : ¬ Nn H p := fun z => z.lst h
/-- what is no list, no dict: one relation for all modes -/
def scalar : D → Bool
  | .list _ => false
  | .dict _ => false
  | _ => true
theorem RM.sc {m : Md} {w0 w : Wd} {d : D} {v : V} (h : scalar d = true) (r : R fa w d v) : RM fa m w0 w d v := by
  cases m with
  | b => exact .r r
  | v => exact r
  | f =>
    cases d with
    | list xs => cases h
    | dict es => cases h
    | none => exact r
    | bool b => exact r
    | int i => exact r
    | str x => exact r
    | tuple xs => exact r
section
variable {W : WX} {σ : St} {m : Md} {w : Wd} {S : Sto} {Q : VK}
theorem PostE.sc {d : D} {v : V} (h : PostE fa ca W σ m w (.ok d S) Q) (k : Ok fa w S) (hs : scalar d = true) (r : R fa w d v) : Q v w.H := h w v (Step.refl w) k (.sc hs r)
theorem PostE.tup {ds : List D} {vs : List V} {p : Addr} (h : PostE fa ca W σ m w (.ok (.tuple ds) S) Q) (k : Ok fa w S) (r : Rs fa w ds vs) (hp : w.H p = none) : Q (.ref p) (upd w.H p (.tup vs)) :=
  h { w with H := upd w.H p (.tup vs) } (.ref p) (Step.alloc hp) (k.alloc hp) (.sc rfl (.tup upd_same (r.mono (Ext.alloc k hp))))
theorem PostE.lst {ds : List D} {vs : List V} {p : Addr} (h : PostE fa ca W σ m w (.ok (.list ds) S) Q) (k : Ok fa w S) (r : Rs fa w ds vs) (hp : w.H p = none) : Q (.ref p) (upd w.H p (.lst vs)) := by
  have f := k.fresh hp
  cases m with
  | b => exact h { w with H := upd w.H p (.lst vs) } (.ref p) (Step.alloc hp) (k.alloc hp) (.l upd_same (r.mono (Ext.alloc k hp)) f.1)
  | f => exact h { w with H := upd w.H p (.lst vs) } (.ref p) (Step.alloc hp) (k.alloc hp) ⟨p, vs, rfl, upd_same, r.mono (Ext.alloc k hp), f.2, f.1, .inl hp⟩
  | v =>
    refine h { w with H := upd w.H p (.lst vs), Z := fun a => w.Z a ∨ a = p } (.ref p) (Step.allocZ hp) ((k.alloc (o := .lst vs) hp).frz (p := p) ?_ f.1) (.lst (.inr rfl) upd_same ((r.mono (Ext.alloc k hp)).mono Ext.frz))
    exact nn_lst upd_same
end
/-! ### what is read off -/
theorem RB.lst {w : Wd} {K : PySem.W.Frag} {xs : List D} {v : V} (h : RB fa w (.list xs) v) : ∃ a vs, v = .ref a ∧ SqL K w.H a vs ∧ w.H a = some (.lst vs) ∧ Rs fa w xs vs := by
  cases h with
  | r h =>
    cases h with
    | lst z h r => exact ⟨_, _, rfl, .inl (.inl h), h, r⟩
  | l h r _ => exact ⟨_, _, rfl, .inl (.inl h), h, r⟩
theorem RB.tup {w : Wd} {K : PySem.W.Frag} {xs : List D} {v : V} (h : RB fa w (.tuple xs) v) : ∃ a vs, v = .ref a ∧ SqT K w.H a vs ∧ w.H a = some (.tup vs) ∧ Rs fa w xs vs := by
  cases h with
  | r h =>
    cases h with
    | tup h r => exact ⟨_, _, rfl, .inl (.inl h), h, r⟩
theorem RB.int {w : Wd} {i : Int} {v : V} (h : RB fa w (.int i) v) : v = .int i := by
  cases h with
  | r h =>
    cases h
    rfl
theorem RB.str {w : Wd} {x : Str} {v : V} (h : RB fa w (.str x) v) : v = .str x := by
  cases h with
  | r h =>
    cases h
    rfl
theorem RB.bl {w : Wd} {b : Bool} {v : V} (h : RB fa w (.bool b) v) : v = .bl b := by
  cases h with
  | r h =>
    cases h
    rfl
theorem RB.non {w : Wd} {v : V} (h : RB fa w .none v) : v = .non := by
  cases h with
  | r h =>
    cases h
    rfl
/-! ### names, constants -/
section
variable {X : Cx} {W : WX} {m : Md}
theorem slot_at {w : Wd} {env : Env} {σ : St} (h : ER fa w env σ) {i : Nat} {s : Sl} (e : env[i]? = some s) : ∃ ov, σ[i]? = some ov ∧ SlotR fa w s ov := by
  have hi : i < σ.length := by
    rw [← h.len]
    exact (List.getElem?_eq_some_iff.mp e).1
  exact ⟨_, List.getElem?_eq_getElem hi, h.at_ i s _ e (List.getElem?_eq_getElem hi)⟩
theorem se_var {i : Nat} {x : Str} {pos : Pos} (hN : X.N[i]? = some x) (hv : Vis X.env.scope x) (hd : (x == ("__debug__" : Str)) = false) (hcd : (x == ("__classdict__" : Str)) = false) (hm : m ≠ .f) : PE X (.Name x pos) (tE fa ca cl W m (.var i)) := by
  refine (pe_var (pos := pos) hN hv hd hcd).weak fun σ H Q h => ?_
  obtain ⟨w, env, S, rfl, k, he, h⟩ := h
  unfold evE at h
  cases e : env[i]? with
  | none =>
    rw [e] at h
    exact h.elim
  | some s =>
    rw [e] at h
    obtain ⟨ov, e1, r⟩ := slot_at he e
    cases s with
    | no => exact h.elim
    | val d =>
      obtain ⟨v, rfl, r⟩ := r
      refine ⟨v, e1, h w v (Step.refl w) k ?_⟩
      cases m with
      | b => exact .r r
      | v => exact r
      | f => exact absurd rfl hm
    | own xs =>
      obtain ⟨p, vs, rfl, h1, h2, h3, h4⟩ := r
      cases m with
      | b => exact ⟨_, e1, h w _ (Step.refl w) k (.l h1 h2 h4)⟩
      | v => exact h.elim
      | f => exact absurd rfl hm
    | ownD t es =>
      obtain ⟨p, rfl, h1, h3, h4⟩ := r
      cases m with
      | b =>
        rcases h1 with ⟨rfl, kvs, h1, h2⟩ | ⟨rfl, kvs, h1, h2⟩
        · exact ⟨_, e1, h w _ (Step.refl w) k (.k h1 h2 h4)⟩
        · exact ⟨_, e1, h w _ (Step.refl w) k (.t h1 h2 h4)⟩
      | v => exact h.elim
      | f => exact absurd rfl hm
def cD : Const → Option D
  | .none => some .none
  | .bool b => some (.bool b)
  | .int i => some (.int i)
  | .str x => some (.str x)
  | _ => none
theorem tE_c {d : D} {v : V} (hs : scalar d = true) (r : ∀ w, R fa w d v) {σ : St} {H : Hp} {Q : VK} (h : tE fa ca cl W m (.cst d) σ H Q) : tC v σ H Q := by
  obtain ⟨w, env, S, rfl, k, he, h⟩ := h
  exact h.sc k hs (r w)
theorem se_cst {c : Const} {d : D} {j : Nat} {pos : Pos} (e : cD c = some d) : PE X (.Constant c j pos) (tE fa ca cl W m (.cst d)) := by
  cases c <;> simp only [cD, Option.some.injEq, reduceCtorEq] at e
  · subst e
    exact pe_non.weak fun σ H Q h => tE_c (v := .non) rfl (fun _ => .non) h
  · subst e
    exact pe_bl.weak fun σ H Q h => tE_c rfl (fun _ => .bl _) h
  · subst e
    exact pe_int.weak fun σ H Q h => tE_c rfl (fun _ => .int _) h
  · subst e
    exact pe_str.weak fun σ H Q h => tE_c rfl (fun _ => .str _) h
/-! ### argument lists -/
inductive RBs (fa : FA) (w : Wd) : List D → List V → Prop
  | nil : RBs fa w [] []
  | cons {d : D} {ds : List D} {v : V} {vs : List V} : RB fa w d v → RBs fa w ds vs → RBs fa w (d :: ds) (v :: vs)
def RMs (fa : FA) (m : Md) (w : Wd) (ds : List D) (vs : List V) : Prop := match m with
  | .b => RBs fa w ds vs
  | .v => Rs fa w ds vs
  | .f => False
def PostA (fa : FA) (ca : CA) (W : WX) (σ : St) (m : Md) (w : Wd) (r : Res D) (Q : List V → Hp → Prop) : Prop := match r with
  | .ok d S => ∃ ds, d = .tuple ds ∧ ∀ w' vs, Step w w' → Ok fa w' S → RMs fa m w' ds vs → Q vs w'.H
  | .ex c S => ∀ w' C, Step w w' → Ok fa w' S → ca c = some C → W (.ref C) none σ w'.H
  | .no => False
def tA (fa : FA) (ca : CA) (cl : Calls) (W : WX) (m : Md) (e : E) : TA := fun σ H Q =>
  ∃ w env S, w.H = H ∧ Ok fa w S ∧ ER fa w env σ ∧ PostA fa ca W σ m w (evE cl m e env S) Q
theorem RBs.mono {w w' : Wd} {S : Sto} (p : Step w w') (k : Ok fa w S) : ∀ {ds : List D} {vs : List V}, RBs fa w ds vs → RBs fa w' ds vs
  | _, _, .nil => .nil
  | _, _, .cons h r => .cons (h.mono p k) (RBs.mono p k r)
theorem sa_nil (hm : m ≠ .f) : PA X [] (tA fa ca cl W m .nil) := by
  refine pa_nil.weak fun σ H Q h => ?_
  obtain ⟨w, env, S, rfl, k, he, h⟩ := h
  obtain ⟨ds, e, h⟩ := h
  cases e
  refine h w [] (Step.refl w) k ?_
  cases m with
  | b => exact .nil
  | v => exact .nil
  | f => exact absurd rfl hm
theorem sa_cons {e : Expr} {es : List Expr} {a r : E} (hm : m ≠ .f) (hs : ∀ env, starEach (e :: es) env = (false, eval e env) :: starEach es env) (h1 : PE X e (tE fa ca cl W m a)) (h2 : PA X es (tA fa ca cl W m r)) : PA X (e :: es) (tA fa ca cl W m (.cons a r)) := by
  refine (pa_cons h1 h2 (hs _)).weak fun σ H Q h => ?_
  obtain ⟨w, env, S, rfl, k, he, h⟩ := h
  unfold evE at h
  refine ⟨w, env, S, rfl, k, he, ?_⟩
  cases r1 : evE cl m a env S with
  | no =>
    rw [r1] at h
    exact h
  | ex c S1 =>
    rw [r1] at h
    exact h
  | ok d S1 =>
    rw [r1] at h
    intro w1 v s1 k1 rm
    refine ⟨w1, env, S1, rfl, k1, he.mono s1 k, ?_⟩
    have h : PostA fa ca W σ m w ((evE cl m r env S1).bind fun ds S2 => match ds with
      | .tuple xs => .ok (.tuple (d :: xs)) S2
      | _ => .no) Q := h
    cases r2 : evE cl m r env S1 with
    | no =>
      rw [r2] at h
      exact h
    | ex c S2 =>
      rw [r2] at h
      exact fun w' C s k e => h w' C (s1.trans s) k e
    | ok d2 S2 =>
      rw [r2] at h
      cases d2 with
      | tuple xs =>
        obtain ⟨ds, e, h⟩ := h
        cases e
        refine ⟨xs, rfl, fun w2 vs s2 k2 rms => h w2 (v :: vs) (s1.trans s2) k2 ?_⟩
        cases m with
        | b => exact .cons (rm.mono s2 k1) rms
        | v => exact .cons (rm.mono (s2.ext k1)) rms
        | f => exact absurd rfl hm
      | none => exact h.elim
      | bool b => exact h.elim
      | int b => exact h.elim
      | str b => exact h.elim
      | list b => exact h.elim
      | dict b => exact h.elim
end
end Mini
/-! The evaluator is sound: operators and comparisons. -/
namespace Mini
open PySem L2
variable {fa : FA} {ca : CA} {cl : Calls}
theorem lay_tuple (xs : List D) : PyData.canLay0 (.tuple xs) = PyData.canLayAll0 xs := by rw [PyData.canLay0]
theorem lay_list (xs : List D) : PyData.canLay0 (.list xs) = PyData.canLayAll0 xs := by rw [PyData.canLay0]
theorem lay_dict (xs : List (D × D)) : PyData.canLay0 (.dict xs) = false := by rw [PyData.canLay0]
theorem lay_cons {x : D} {xs : List D} (h : PyData.canLayAll0 (x :: xs) = true) : x.canLay0 = true ∧ PyData.canLayAll0 xs = true := by
  simpa [PyData.canLayAll0] using h
mutual
theorem R.dp {K : PySem.W.Frag} {w : Wd} : ∀ {d : D} {v : V}, R fa w d v → d.canLay0 = true → Dp K w.H v d
  | _, _, .non, _ => .non
  | _, _, .bl b, _ => .bl b
  | _, _, .int i, _ => .int i
  | _, _, .str x, _ => .str x
  | _, _, .tup h r, e => .tup (.inl (.inl h)) (Rs.dp r (by rw [lay_tuple] at e; exact e))
  | _, _, .lst z h r, e => .lst (.inl (.inl h)) (Rs.dp r (by rw [lay_list] at e; exact e))
  | _, _, .dk z h r, e => by rw [lay_dict] at e; cases e
  | _, _, .dt z h r, e => by rw [lay_dict] at e; cases e
  | _, _, .obj h, e => by rw [lay_dict] at e; cases e
  | _, _, .fn h, e => by rw [lay_dict] at e; cases e
  | _, _, .exc _ _ _, e => by rw [lay_dict] at e; cases e
  | _, _, .scr _, e => by rw [lay_dict] at e; cases e
theorem Rs.dp {K : PySem.W.Frag} {w : Wd} : ∀ {d : List D} {v : List V}, Rs fa w d v → PyData.canLayAll0 d = true → DpAll K w.H v d
  | _, _, .nil, _ => .nil
  | _, _, .cons h r, e => .cons (R.dp h (lay_cons e).1) (Rs.dp r (lay_cons e).2)
end
theorem RB.dp {K : PySem.W.Frag} {w : Wd} {d : D} {v : V} (h : RB fa w d v) (e : d.canLay0 = true) : Dp K w.H v d := by
  cases h with
  | r h => exact h.dp e
  | l h r _ => exact .lst (.inl (.inl h)) (r.dp (by rw [lay_list] at e; exact e))
  | k h r _ => rw [lay_dict] at e; cases e
  | t h r _ => rw [lay_dict] at e; cases e
theorem pure1_lay {d : D} (h : pure1 d = true) : d.canLay0 = true := SeqAt.canLay_of_shaped h
/-! ### two operands -/
def V2 (fa : FA) (ca : CA) (r : R2) (F : D → D → Option D) : Prop :=
  ∀ (w : Wd) (S : Sto) (x y : V) (a b d : D) (m : Md) (W : WX) (σ : St) (Q : VK), Ok fa w S → RB fa w a x → RB fa w b y → F a b = some d → PostE fa ca W σ m w (.ok d S) Q → r x y w.H Q
section
variable {X : Cx} {W : WX} {m : Md}
theorem two_bind {a b : E} {r : R2} {F : D → D → Option D} (hv : V2 fa ca r F) {σ : St} {Q : VK} {w : Wd} {env : Env} {S : Sto} (k : Ok fa w S) (he : ER fa w env σ)
    (h : PostE fa ca W σ m w ((evE cl .b a env S).bind fun x S1 => (evE cl .b b env S1).bind fun y S2 => ofO (F x y) S2) Q) : tOp r (tE fa ca cl W .b a) (tE fa ca cl W .b b) σ w.H Q := by
  refine tE_bind k he h fun d1 S1 w1 v1 s1 k1 e1 r1 h1 => ?_
  refine tE_bind k1 e1 h1 fun d2 S2 w2 v2 s2 k2 e2 r2 h2 => ?_
  cases f : F d1 d2 with
  | none =>
    rw [f] at h2
    exact h2.elim
  | some d =>
    rw [f] at h2
    exact hv w2 S2 v1 v2 d1 d2 d m W σ Q k2 (RB.mono s2 k1 r1) r2 f h2
theorem se_bin {op : Operator} {o : Bop} {r : R2} {e1 e2 : Expr} {a b : E} {pos : Pos} (ho : OpR X (binaryOp op) r) (hv : V2 fa ca r (binF o)) (h1 : PE X e1 (tE fa ca cl W .b a)) (h2 : PE X e2 (tE fa ca cl W .b b)) :
    PE X (.BinOp e1 op e2 pos) (tE fa ca cl W m (.bin o a b)) := by
  refine (pe_op (pos := pos) ho h1 h2).weak fun σ H Q h => ?_
  obtain ⟨w, env, S, rfl, k, he, h⟩ := h
  unfold evE at h
  exact two_bind hv k he h
theorem se_cmp {op : CmpOp} {o : Cop} {r : R2} {e1 e2 : Expr} {a b : E} {pos : Pos} (ho : OpR X (compareOp op) r) (hv : V2 fa ca r (fun x y => (cmpF o x y).map .bool)) (hm : behindInMarks op e2 = false) (h1 : PE X e1 (tE fa ca cl W .b a)) (h2 : PE X e2 (tE fa ca cl W .b b)) :
    PE X (.Compare e1 [op] [e2] pos) (tE fa ca cl W m (.cmp o a b)) := by
  refine (pe_cmpR (pos := pos) ho h1 h2 hm).weak fun σ H Q h => ?_
  obtain ⟨w, env, S, rfl, k, he, h⟩ := h
  unfold evE at h
  exact two_bind hv k he h
end
/-! ### arithmetic -/
theorem lim_ok {n : Nat} (h : lim n = true) : n ≤ sizeLine := Nat.le_trans (of_decide_eq_true h) (by decide)
theorem PostE.int {W : WX} {σ : St} {m : Md} {w : Wd} {S : Sto} {Q : VK} {i : Int} (h : PostE fa ca W σ m w (.ok (.int i) S) Q) (k : Ok fa w S) : Q (.int i) w.H := h.sc k rfl (.int i)
theorem PostE.bl {W : WX} {σ : St} {m : Md} {w : Wd} {S : Sto} {Q : VK} {i : Bool} (h : PostE fa ca W σ m w (.ok (.bool i) S) Q) (k : Ok fa w S) : Q (.bl i) w.H := h.sc k rfl (.bl i)
theorem PostE.str {W : WX} {σ : St} {m : Md} {w : Wd} {S : Sto} {Q : VK} {i : Str} (h : PostE fa ca W σ m w (.ok (.str i) S) Q) (k : Ok fa w S) : Q (.str i) w.H := h.sc k rfl (.str i)
def rAddX (K : PySem.W.Frag) : R2 := fun x y H Q => rI0 (fun i j => .int (i + j)) x y H Q ∨ (∃ i j, x = .str i ∧ y = .str j ∧ i.length + j.length ≤ sizeLine ∧ Q (.str (i ++ j)) H) ∨ rCatA K x y H Q ∨ rCat x y H Q
theorem op_addX {X : Cx} : OpR X (binaryOp .Add) (rAddX X.K) := op_add.or (op_add_str.or (op_catA.or op_cat))
theorem v_add {K : PySem.W.Frag} : V2 fa ca (rAddX K) (binF .add) := by
  intro w S x y a b d m W σ Q k ra rb e h
  have e : addF a b = some d := e
  cases a <;> cases b <;> first | cases e | skip
  · cases ra.int
    cases rb.int
    exact .inl ⟨_, _, rfl, rfl, h.int k⟩
  · simp only [addF] at e
    split at e
    · rename_i hl
      cases e
      cases ra.str
      cases rb.str
      exact .inr (.inl ⟨_, _, rfl, rfl, lim_ok hl, h.str k⟩)
    · cases e
  · simp only [addF] at e
    split at e
    · rename_i hl
      cases e
      obtain ⟨p, vs, rfl, q1, q1', r1⟩ := ra.lst (K := K)
      obtain ⟨q, us, rfl, q2, q2', r2⟩ := rb.lst (K := K)
      have hl := lim_ok hl
      rw [r1.length, r2.length] at hl
      exact .inr (.inr (.inr ⟨p, q, vs, us, rfl, rfl, q1', q2', hl, fun l hl => h.lst k (r1.append r2) hl⟩))
    · cases e
  · simp only [addF] at e
    split at e
    · rename_i hl
      cases e
      obtain ⟨p, vs, rfl, q1, q1', r1⟩ := ra.tup (K := K)
      obtain ⟨q, us, rfl, q2, q2', r2⟩ := rb.tup (K := K)
      have hl := lim_ok hl
      rw [r1.length, r2.length] at hl
      refine .inr (.inr (.inl ⟨p, q, vs, us, rfl, rfl, q1, q2, hl, fun e => ?_, fun e1 e2 => ?_, fun e1 e2 l hl => h.tup k (r1.append r2) hl⟩))
      · subst e
        cases r1
        rw [List.nil_append] at h
        exact h.sc k rfl (.tup q2' r2)
      · subst e2
        cases r2
        rw [List.append_nil] at h
        exact h.sc k rfl (.tup q1' r1)
    · cases e
theorem v_sub : V2 fa ca (rI0 fun i j => .int (i - j)) (binF .sub) := by
  intro w S x y a b d m W σ Q k ra rb e h
  have e : subF a b = some d := e
  cases a <;> cases b <;> first | cases e | skip
  cases ra.int
  cases rb.int
  exact ⟨_, _, rfl, rfl, h.int k⟩
theorem v_mod : V2 fa ca (rI (fun _ j => 0 < j) fun i j => .int (i % j)) (binF .mod) := by
  intro w S x y a b d m W σ Q k ra rb e h
  have e : modF a b = some d := e
  cases a <;> cases b <;> first | cases e | skip
  simp only [modF] at e
  split at e
  · rename_i hj
    cases e
    cases ra.int
    cases rb.int
    exact ⟨_, _, rfl, rfl, hj, h.int k⟩
  · cases e
theorem v_fdiv : V2 fa ca (rI CDiv fun i j => .int (i / j)) (binF .fdiv) := by
  intro w S x y a b d m W σ Q k ra rb e h
  have e : fdivF a b = some d := e
  cases a <;> cases b <;> first | cases e | skip
  simp only [fdivF] at e
  split at e
  · rename_i hj
    cases e
    cases ra.int
    cases rb.int
    exact ⟨_, _, rfl, rfl, hj, h.int k⟩
  · cases e
theorem v_pow : V2 fa ca (rI CPow fun i j => .int (i ^ j.toNat)) (binF .pow) := by
  intro w S x y a b d m W σ Q k ra rb e h
  have e : powF a b = some d := e
  cases a <;> cases b <;> first | cases e | skip
  simp only [powF] at e
  split at e
  · rename_i hj
    cases e
    cases ra.int
    cases rb.int
    exact ⟨_, _, rfl, rfl, ⟨hj.1, by omega, hj.2.2⟩, h.int k⟩
  · cases e
def rMulS : R2 := fun x y H Q => ∃ z k, x = .str z ∧ y = .int k ∧ 2 ≤ k ∧ k ≤ 1000 ∧ (z.length == 0) = false ∧ z.length ≤ 1000 ∧ Q (.str ⟨(List.replicate k.toNat z.cps).foldl (· ++ ·) #[]⟩) H
theorem rep_size (a : Array Nat) : ∀ (n : Nat) (b : Array Nat), ((List.replicate n a).foldl (· ++ ·) b).size = b.size + n * a.size
  | 0, b => by simp
  | n + 1, b => by
    rw [List.replicate_succ, List.foldl_cons, rep_size a n, Array.size_append, Nat.add_mul]
    omega
theorem op_mulS {X : Cx} : OpR X (binaryOp .Mult) rMulS := by
  intro pins s σ H x y v u Q I rx ry h
  obtain ⟨z, k, rfl, rfl, h1, h2, h3, h4, q⟩ := h
  obtain ⟨t, rfl⟩ := rx
  obtain ⟨t', rfl⟩ := ry
  have hk : (k == 1 || z.length == 0) = false := by
    rw [h3, Bool.or_false]
    exact beq_eq_false_iff_ne.mpr (by omega)
  refine PySem.P.mul_str (by simp only [Bool.or_eq_false_iff, decide_eq_false_iff_not]; omega) (fun _ _ => ?_) (fun _ _ => ?_) ?_
  · intro hq
    have h5 : (1000 : Int) ≤ (2 ^ 63 - 1) / k := by
      rw [Int.le_ediv_iff_mul_le (by omega)]
      omega
    omega
  · have h6 : z.length * k.toNat ≤ 1000 * 1000 := Nat.mul_le_mul h4 (by omega)
    unfold PySem.Builtin.Str.tooLong
    simp only [decide_eq_false_iff_not]
    have := sizeLine_eq
    omega
  · rw [if_neg (by omega), hk, if_neg Bool.false_ne_true]
    refine ⟨?_, .str _, H, I.tok _, ⟨_, rfl⟩, q⟩
    have h6 : k.toNat * z.cps.size ≤ 1000 * 1000 := Nat.mul_le_mul (by omega) h4
    show ((List.replicate k.toNat z.cps).foldl (· ++ ·) #[]).size ≤ sizeLine
    rw [rep_size]
    have := sizeLine_eq
    simp only [Array.size_empty]
    omega
def rMulX (K : PySem.W.Frag) : R2 := fun x y H Q => rI CMul (fun i j => .int (i * j)) x y H Q ∨ rRep x y H Q ∨ rRepT K x y H Q ∨ rMulS x y H Q
theorem op_mulX {X : Cx} : OpR X (binaryOp .Mult) (rMulX X.K) := op_mul.or (op_rep.or (op_repT.or op_mulS))
theorem v_mul {K : PySem.W.Frag} : V2 fa ca (rMulX K) (binF .mul) := by
  intro w S x y a b d m W σ Q k ra rb e h
  have e : mulF a b = some d := e
  cases a <;> cases b <;> first | cases e | skip
  · simp only [mulF] at e
    split at e
    · rename_i hj
      cases e
      cases ra.int
      cases rb.int
      rw [Bool.or_eq_true, Bool.and_eq_true, Bool.and_eq_true, decide_eq_true_eq, decide_eq_true_eq, decide_eq_true_eq, decide_eq_true_eq] at hj
      exact .inl ⟨_, _, rfl, rfl, hj, h.int k⟩
    · cases e
  · simp only [mulF] at e
    split at e
    · rename_i hj
      cases e
      cases ra.str
      cases rb.int
      simp only [Bool.and_eq_true, decide_eq_true_eq, Bool.not_eq_true'] at hj
      obtain ⟨⟨⟨j1, j2⟩, j3⟩, j4⟩ := hj
      exact .inr (.inr (.inr ⟨_, _, rfl, rfl, j1, j2, j3, j4, h.str k⟩))
    · cases e
  · simp only [mulF] at e
    split at e
    · rename_i hj
      cases e
      obtain ⟨p, vs, rfl, q1, q1', r1⟩ := ra.lst (K := default)
      cases rb.int
      rw [Bool.and_eq_true, Bool.and_eq_true, decide_eq_true_eq, decide_eq_true_eq] at hj
      have hl := lim_ok hj.1.1
      rw [r1.length] at hl
      exact .inr (.inl ⟨p, _, vs, rfl, rfl, q1', by omega, by omega, hl, fun l hl => h.lst k (r1.rep _) hl⟩)
    · cases e
  · simp only [mulF] at e
    split at e
    · rename_i hj
      cases e
      obtain ⟨p, vs, rfl, q1, q1', r1⟩ := ra.tup (K := K)
      cases rb.int
      simp only [Bool.and_eq_true, decide_eq_true_eq, Bool.not_eq_true', List.isEmpty_eq_false_iff] at hj
      obtain ⟨⟨⟨j1, j2⟩, j3⟩, j4⟩ := hj
      have hl := r1.length
      refine .inr (.inr (.inl ⟨p, _, vs, rfl, rfl, q1, fun e => j3 ?_, j1, j2, by omega, fun l hl => h.tup k (r1.rep _) hl⟩))
      rw [e] at hl
      exact List.length_eq_zero_iff.mp hl
    · cases e
end Mini
/-! The evaluator is sound: comparisons, items, slices. -/
namespace Mini
open PySem L2
variable {fa : FA} {ca : CA} {cl : Calls}
/-! ### == and its like -/
def rEqS (K : PySem.W.Frag) : R2 := fun x y H Q => ∃ (a b : Addr) (xs : List Int), x = .ref a ∧ y = .ref b ∧ SqL K H a (xs.map V.int) ∧ SqL K H b [] ∧ Q (.bl xs.isEmpty) H
theorem lay_ints : ∀ ns : List Int, PyData.canLayAll0 (ns.map .int) = true
  | [] => by simp [PyData.canLayAll0]
  | n :: r => by simp [PyData.canLayAll0, PyData.canLay0, lay_ints r]
theorem depth_ints0 (ns : List Int) : PyData.depthAll (ns.map .int) = 0 := PySem.W.depth_ints ns
theorem dp_ints {K : PySem.W.Frag} {H : Hp} : ∀ ns : List Int, DpAll K H (ns.map V.int) (ns.map .int)
  | [] => .nil
  | n :: r => .cons (.int n) (dp_ints r)
theorem eqv_nil (ns : List Int) : PyData.eqv (.list (ns.map .int)) (.list []) = ns.isEmpty := by
  cases ns with
  | nil => simp [PyData.eqv, PyData.eqvAll]
  | cons n r => simp [PyData.eqv, PyData.eqvAll]
theorem op_eqS {X : Cx} (hu : X.A.units + 64 < cLine) : OpR X (compareOp .Eq) (rEqS X.K) := by
  intro pins s σ H x y v u Q I rx ry h
  obtain ⟨a, b, ns, rfl, rfl, ha, hb, q⟩ := h
  have sh : ∀ ns : List Int, SeqAt.shaped (.list (ns.map .int)) = true := fun ns => by
    simp [SeqAt.shaped, PyData.canLay0, lay_ints, PyData.depth, depth_ints0]
  exact op_eqD hu pins s σ H _ _ v u Q I rx ry ⟨.list (ns.map .int), .list [], .lst ha (dp_ints ns), .lst hb .nil, sh ns, sh [], by rw [eqv_nil]; exact q⟩
def rEqX (K : PySem.W.Frag) : R2 := fun x y H Q => rEqD K x y H Q ∨ rEqS K x y H Q
theorem op_eqX {X : Cx} (hu : X.A.units + 64 < cLine) : OpR X (compareOp .Eq) (rEqX X.K) := (op_eqD hu).or (op_eqS hu)
theorem both_pure {x y : D} (h : (pure1 x && pure1 y) = true) : pure1 x = true ∧ pure1 y = true := by
  rwa [Bool.and_eq_true] at h
theorem map_bl {o : Option Bool} {d : D} (h : o.map PyData.bool = some d) : ∃ b, o = some b ∧ d = .bool b := by
  cases o with
  | none => cases h
  | some b => exact ⟨b, rfl, (Option.some.inj h).symm⟩
theorem RK.key {w : Wd} : ∀ {es : List (D × D)} {kvs : List (Key × V)}, RK fa w es kvs → ∀ p ∈ es, ∃ k, p.1 = kD k
  | _, _, .nil, p, h => by cases h
  | _, _, .cons _ r, p, h => by
    rcases List.mem_cons.mp h with rfl | h
    · exact ⟨_, rfl⟩
    · exact RK.key r p h
theorem RT.key {w : Wd} : ∀ {es : List (D × D)} {kvs : List (List Key × V)}, RT fa w es kvs → ∀ p ∈ es, ∃ k : List Key, p.1 = .tuple (k.map kD)
  | _, _, .nil, p, h => by cases h
  | _, _, .cons _ r, p, h => by
    rcases List.mem_cons.mp h with rfl | h
    · exact ⟨_, rfl⟩
    · exact RT.key r p h
theorem RK.nospec {w : Wd} {x : D} {r : List (D × D)} {kvs : List (Key × V)} (h : RK fa w ((.list [], x) :: r) kvs) : False := by
  obtain ⟨k, e⟩ := h.key _ List.mem_cons_self
  cases k <;> cases e
theorem RT.nospec {w : Wd} {x : D} {r : List (D × D)} {kvs : List (List Key × V)} (h : RT fa w ((.list [], x) :: r) kvs) : False := by
  obtain ⟨k, e⟩ := h.key _ List.mem_cons_self
  cases e
theorem R.spec {w : Wd} {x : D} {r : List (D × D)} {v : V} (h : R fa w (.dict ((.list [], x) :: r)) v) :
    r = [] ∧ ((∃ n a, x = .int (n : Nat) ∧ v = .ref a ∧ w.A[n]? = some a) ∨ (∃ f a, x = .str f ∧ v = .ref a ∧ fa f = some a) ∨ (∃ (a : Addr) (ns : List Int), x = .list (ns.map .int) ∧ v = .ref a ∧ ((w.Z a ∧ Rd w.H a (.lst (ns.map V.int))) ∨ fa.k a ns)) ∨ ∃ (a C : Addr) (c : Str), x = .tuple [.str c] ∧ v = .ref a ∧ w.Z a ∧ fa.x c = some C ∧ Rd w.H a (ExcO a C)) := by
  generalize hd : PyData.dict ((.list [], x) :: r) = d at h
  cases h with
  | dk _ _ r => cases hd
  | dt _ _ r => cases hd
  | obj h => cases hd; exact ⟨rfl, .inl ⟨_, _, rfl, rfl, h⟩⟩
  | fn h => cases hd; exact ⟨rfl, .inr (.inl ⟨_, _, rfl, rfl, h⟩)⟩
  | scr h => cases hd; exact ⟨rfl, .inr (.inr (.inl ⟨_, _, rfl, rfl, h⟩))⟩
  | exc z hc h => cases hd; exact ⟨rfl, .inr (.inr (.inr ⟨_, _, _, rfl, rfl, z, hc, h⟩))⟩
  | _ => cases hd
theorem RB.spec {w : Wd} {x : D} {r : List (D × D)} {v : V} (h : RB fa w (.dict ((.list [], x) :: r)) v) : R fa w (.dict ((.list [], x) :: r)) v := by
  cases h with
  | r h => exact h
theorem RB.scr {w : Wd} {K : PySem.W.Frag} (hK : KF fa K) {xs : List D} {r : List (D × D)} {v : V} (h : RB fa w (.dict ((.list [], .list xs) :: r)) v) : ∃ (a : Addr) (ns : List Int), xs = ns.map .int ∧ v = .ref a ∧ SqL K w.H a (ns.map V.int) := by
  rcases h.spec.spec with ⟨_, ⟨_, _, e, _⟩ | ⟨_, _, e, _⟩ | ⟨a, ns, e, h1, h2⟩ | ⟨_, _, _, e, _⟩⟩
  · cases e
  · cases e
  · cases e
    rcases h2 with h2 | h2
    · exact ⟨a, ns, rfl, h1, .inl h2.2⟩
    · exact ⟨a, ns, rfl, h1, .inr (hK a ns h2)⟩
  · cases e
theorem v_eq {K : PySem.W.Frag} (hK : KF fa K) : V2 fa ca (rEqX K) (fun x y => (cmpF .eq x y).map .bool) := by
  intro w S x y a b d m W σ Q k ra rb e h
  obtain ⟨c, e1, rfl⟩ := map_bl e
  clear e
  have e : eqF a b = some c := e1
  unfold eqF at e
  split at e
  · cases e
    obtain ⟨p, vs, rfl, q1, q2, r1⟩ := rb.lst (K := K)
    cases r1
    obtain ⟨q, ns, rfl, rfl, hr⟩ := ra.scr hK
    refine .inr ⟨_, _, ns, rfl, rfl, hr, q1, ?_⟩
    have q := h.bl k
    simpa using q
  · split at e
    · rename_i hp
      cases e
      obtain ⟨p1, p2⟩ := both_pure hp
      exact .inl ⟨a, b, ra.dp (pure1_lay p1), rb.dp (pure1_lay p2), p1, p2, h.bl k⟩
    · cases e
theorem v_ne {K : PySem.W.Frag} : V2 fa ca (rNeD K) (fun x y => (cmpF .ne x y).map .bool) := by
  intro w S x y a b d m W σ Q k ra rb e h
  obtain ⟨c, e1, rfl⟩ := map_bl e
  clear e
  have e := e1
  clear e1
  simp only [cmpF] at e
  split at e
  · rename_i hp
    cases e
    obtain ⟨p1, p2⟩ := both_pure hp
    exact ⟨a, b, ra.dp (pure1_lay p1), rb.dp (pure1_lay p2), p1, p2, h.bl k⟩
  · cases e
/-! ### order -/
def rOrd (K : PySem.W.Frag) (f : D → D → Bool) : R2 := fun x y H Q => ∃ d e, Dp K H x d ∧ Dp K H y e ∧ W.alike d e = true ∧ d ≠ .none ∧ d.depth ≤ 64 ∧ Q (.bl (f d e)) H
theorem room64 {A : Around} {d e : D} (hu : A.units + 64 < cLine) (h : d.depth ≤ 64) : A.units + min d.depth e.depth < cLine := by
  have := Nat.min_le_left d.depth e.depth
  omega
theorem op_ltX {X : Cx} (hu : X.A.units + 64 < cLine) : OpR X (compareOp .Lt) (rOrd X.K fun d e => W.dataLt d e) := by
  intro pins s σ H x y v u Q I rx ry h
  obtain ⟨d, e, hd, he, al, nn, dp, q⟩ := h
  obtain ⟨as, r1⟩ := Dp.reads I d x v hd rx
  obtain ⟨bs, r2⟩ := Dp.reads I e y u he ry
  exact W.lt_data r1 r2 al nn (room64 hu dp) ⟨.bl _, H, I, rfl, q⟩
theorem op_gtX {X : Cx} (hu : X.A.units + 64 < cLine) : OpR X (compareOp .Gt) (rOrd X.K fun d e => W.dataLt e d) := by
  intro pins s σ H x y v u Q I rx ry h
  obtain ⟨d, e, hd, he, al, nn, dp, q⟩ := h
  obtain ⟨as, r1⟩ := Dp.reads I d x v hd rx
  obtain ⟨bs, r2⟩ := Dp.reads I e y u he ry
  exact W.gt_data r1 r2 al nn (room64 hu dp) ⟨.bl _, H, I, rfl, q⟩
theorem op_leX {X : Cx} (hu : X.A.units + 64 < cLine) : OpR X (compareOp .LtE) (rOrd X.K fun d e => !W.dataLt e d) := by
  intro pins s σ H x y v u Q I rx ry h
  obtain ⟨d, e, hd, he, al, nn, dp, q⟩ := h
  obtain ⟨as, r1⟩ := Dp.reads I d x v hd rx
  obtain ⟨bs, r2⟩ := Dp.reads I e y u he ry
  exact W.le_data r1 r2 al nn (room64 hu dp) ⟨.bl _, H, I, rfl, q⟩
theorem op_geX {X : Cx} (hu : X.A.units + 64 < cLine) : OpR X (compareOp .GtE) (rOrd X.K fun d e => !W.dataLt d e) := by
  intro pins s σ H x y v u Q I rx ry h
  obtain ⟨d, e, hd, he, al, nn, dp, q⟩ := h
  obtain ⟨as, r1⟩ := Dp.reads I d x v hd rx
  obtain ⟨bs, r2⟩ := Dp.reads I e y u he ry
  exact W.ge_data r1 r2 al nn (room64 hu dp) ⟨.bl _, H, I, rfl, q⟩
theorem isNone_ne {d : D} (h : (!isNone d) = true) : d ≠ .none := by
  intro z
  subst z
  cases h
theorem v_ord {K : PySem.W.Frag} {o : Cop} {f : D → D → Bool} (hf : ∀ x y, cmpF o x y = if ltOk x y then some (f x y) else none) : V2 fa ca (rOrd K f) (fun x y => (cmpF o x y).map .bool) := by
  intro w S x y a b d m W σ Q k ra rb e h
  obtain ⟨c, e1, rfl⟩ := map_bl e
  clear e
  have e := e1
  clear e1
  rw [hf] at e
  split at e
  · rename_i hp
    cases e
    unfold ltOk at hp
    rw [Bool.and_eq_true, Bool.and_eq_true, Bool.and_eq_true] at hp
    obtain ⟨⟨⟨p0, p1⟩, p2⟩, p3⟩ := hp
    exact ⟨a, b, ra.dp (pure1_lay p1), rb.dp (pure1_lay p2), p0, isNone_ne p3, SeqAt.depth_of_shaped p1, h.bl k⟩
  · cases e
/-! ### is -/
def rIsX : R2 := fun x y H Q => (y = .non ∧ Q (.bl (decide (x = .non))) H) ∨ rIsB x y H Q
def rNotX : R2 := fun x y H Q => (y = .non ∧ Q (.bl (!decide (x = .non))) H) ∨ rNotB x y H Q
theorem op_isX {X : Cx} : OpR X (compareOp .Is) rIsX := op_isN.or op_isBl
theorem op_notX {X : Cx} : OpR X (compareOp .IsNot) rNotX := op_notN.or op_notBl
theorem RB.isNone {w : Wd} {d : D} {v : V} (h : RB fa w d v) : decide (v = .non) = isNone d := by
  cases h with
  | r h => cases h <;> simp [Mini.isNone]
  | l _ _ _ => simp [Mini.isNone]
  | k _ _ _ => simp [Mini.isNone]
  | t _ _ _ => simp [Mini.isNone]
theorem isF_cases {a b : D} {c : Bool} (e : isF a b = some c) : (b = .none ∧ c = isNone a) ∨ ∃ p q, a = .bool p ∧ b = .bool q ∧ c = decide (p = q) := by
  unfold isF at e
  split at e
  · cases e
    exact .inl ⟨rfl, rfl⟩
  · cases e
    rename_i p q
    refine .inr ⟨p, q, rfl, rfl, ?_⟩
    cases p <;> cases q <;> rfl
  · cases e
theorem v_is : V2 fa ca rIsX (fun x y => (cmpF .isn x y).map .bool) := by
  intro w S x y a b d m W σ Q k ra rb e h
  obtain ⟨c, e1, rfl⟩ := map_bl e
  clear e
  have e := e1
  clear e1
  rcases isF_cases e with ⟨rfl, rfl⟩ | ⟨p, q, rfl, rfl, rfl⟩
  · refine .inl ⟨rb.non, ?_⟩
    rw [ra.isNone]
    exact h.bl k
  · exact .inr ⟨p, q, ra.bl, rb.bl, h.bl k⟩
theorem v_isnt : V2 fa ca rNotX (fun x y => (cmpF .isnt x y).map .bool) := by
  intro w S x y a b d m W σ Q k ra rb e h
  obtain ⟨c, e1, rfl⟩ := map_bl e
  clear e
  have e := e1
  clear e1
  have e : (isF a b).map (!·) = some c := e
  cases e1 : isF a b with
  | none =>
    rw [e1] at e
    cases e
  | some c1 =>
    rw [e1] at e
    cases e
    rcases isF_cases e1 with ⟨rfl, rfl⟩ | ⟨p, q, rfl, rfl, rfl⟩
    · refine .inl ⟨rb.non, ?_⟩
      rw [ra.isNone]
      exact h.bl k
    · exact .inr ⟨p, q, ra.bl, rb.bl, h.bl k⟩
/-! ### in -/
def rInT (K : PySem.W.Frag) (g : Bool → Bool) : R2 := fun x y H Q => ∃ d ds, Dp K H x d ∧ Dp K H y (.tuple ds) ∧ SeqAt.shaped d = true ∧ SeqAt.shaped (.tuple ds) = true ∧ Q (.bl (g (ds.any fun z => PyData.eqv z d))) H
theorem op_inT {X : Cx} (hu : X.A.units + 65 < cLine) : OpR X (compareOp .In) (rInT X.K id) := by
  intro pins s σ H x y v u Q I rx ry h
  obtain ⟨d, ds, hd, he, sd, se, q⟩ := h
  obtain ⟨as, r1⟩ := Dp.reads I d x v hd rx
  obtain ⟨bs, r2⟩ := Dp.reads I (.tuple ds) y u he ry
  exact SeqAt.in_tuple_reads r2 r1 (SeqAt.canLay_of_shaped se) (SeqAt.canLay_of_shaped sd) (PyProof.Rows.room_in_shaped sd hu) ⟨.bl _, H, I, rfl, q⟩
theorem op_notInT {X : Cx} (hu : X.A.units + 65 < cLine) : OpR X (compareOp .NotIn) (rInT X.K (!·)) := by
  intro pins s σ H x y v u Q I rx ry h
  obtain ⟨d, ds, hd, he, sd, se, q⟩ := h
  obtain ⟨as, r1⟩ := Dp.reads I d x v hd rx
  obtain ⟨bs, r2⟩ := Dp.reads I (.tuple ds) y u he ry
  exact SeqAt.notIn_tuple_reads r2 r1 (SeqAt.canLay_of_shaped se) (SeqAt.canLay_of_shaped sd) (PyProof.Rows.room_in_shaped sd hu) ⟨.bl _, H, I, rfl, q⟩
def rInX (K : PySem.W.Frag) : R2 := fun x y H Q => rInD K x y H Q ∨ rInT K id x y H Q ∨ (∃ (c : Nat) (z : Str), x = .str ⟨#[c]⟩ ∧ y = .str z ∧ Q (.bl (decide (c ∈ z.cps.toList))) H)
def rNinX (K : PySem.W.Frag) : R2 := fun x y H Q => rNotInD K x y H Q ∨ rInT K (!·) x y H Q ∨ (∃ (c : Nat) (z : Str), x = .str ⟨#[c]⟩ ∧ y = .str z ∧ Q (.bl (!decide (c ∈ z.cps.toList))) H)
theorem op_inX {X : Cx} (hu : X.A.units + 65 < cLine) : OpR X (compareOp .In) (rInX X.K) := (op_inD hu).or ((op_inT hu).or op_in_sign)
theorem op_ninX {X : Cx} (hu : X.A.units + 65 < cLine) : OpR X (compareOp .NotIn) (rNinX X.K) := (op_notInD hu).or ((op_notInT hu).or op_notIn_sign)
end Mini
/-! The evaluator is sound: in, items, slices. -/
namespace Mini
open PySem L2
variable {fa : FA} {ca : CA} {cl : Calls}
/-! ### dicts looked up -/
theorem kD_eqv (a b : Key) : PyData.eqv (kD a) (kD b) = decide (a = b) := by
  cases a with
  | inl i =>
    cases b with
    | inl j =>
      have e : (i == j) = decide ((Sum.inl i : Key) = Sum.inl j) := by rw [key_ll]
      simp only [kD, PyData.eqv]
      exact e
    | inr y => simp [kD, PyData.eqv]
  | inr x =>
    cases b with
    | inl j => simp [kD, PyData.eqv]
    | inr y =>
      have e : (x == y) = decide ((Sum.inr x : Key) = Sum.inr y) := by
        rw [key_rr]
        by_cases h : x = y
        · subst h
          simp
        · rw [decide_eq_false h]
          exact beq_eq_false_iff_ne.mpr h
      simp only [kD, PyData.eqv]
      exact e
theorem kDs_eqv : ∀ a b : List Key, PyData.eqvAll (a.map kD) (b.map kD) = decide (a = b)
  | [], [] => by simp [PyData.eqvAll]
  | [], _ :: _ => by simp [PyData.eqvAll]
  | _ :: _, [] => by simp [PyData.eqvAll]
  | x :: a, y :: b => by
    rw [List.map_cons, List.map_cons, PyData.eqvAll, kD_eqv, kDs_eqv a b]
    by_cases h1 : x = y <;> by_cases h2 : a = b <;> simp [h1, h2]
theorem kT_eqv (a b : List Key) : PyData.eqv (.tuple (a.map kD)) (.tuple (b.map kD)) = decide (a = b) := by
  rw [PyData.eqv, kDs_eqv]
def OR (fa : FA) (w : Wd) : Option D → Option V → Prop
  | some d, some v => R fa w d v
  | none, none => True
  | _, _ => False
theorem RK.val {w : Wd} (k : Key) : ∀ {es : List (D × D)} {kvs : List (Key × V)}, RK fa w es kvs → OR fa w ((es.find? fun p => PyData.eqv p.1 (kD k)).map (·.2)) (valV kvs k)
  | _, _, .nil => trivial
  | _, _, .cons (k := k') h r => by
    by_cases e : k' = k
    · subst e
      rw [valV_pos rfl, List.find?_cons_of_pos (by simp [kD_eqv])]
      exact h
    · rw [valV_neg e, List.find?_cons_of_neg (by simp [kD_eqv, e])]
      exact RK.val k r
theorem RT.val {w : Wd} (k : List Key) : ∀ {es : List (D × D)} {kvs : List (List Key × V)}, RT fa w es kvs → OR fa w ((es.find? fun p => PyData.eqv p.1 (.tuple (k.map kD))).map (·.2)) (valV kvs k)
  | _, _, .nil => trivial
  | _, _, .cons (k := k') h r => by
    by_cases e : k' = k
    · subst e
      rw [valV_pos rfl, List.find?_cons_of_pos (by simp [kT_eqv])]
      exact h
    · rw [valV_neg e, List.find?_cons_of_neg (by simp [kT_eqv, e])]
      exact RT.val k r
theorem any_find {es : List (D × D)} {f : D × D → Bool} : es.any f = ((es.find? f).map (·.2)).isSome := by
  rw [Option.isSome_map]
  induction es with
  | nil => rfl
  | cons x r ih =>
    rw [List.any_cons, List.find?_cons]
    cases f x
    · simpa using ih
    · rfl
theorem OR.some_eq {w : Wd} {o : Option D} {u : Option V} (h : OR fa w o u) : o.isSome = u.isSome := by
  cases o <;> cases u <;> first | rfl | cases h
theorem isKey_of {x : D} (h : isKey x = true) : ∃ k, x = kD k := by
  cases x with
  | int i => exact ⟨.inl i, rfl⟩
  | str z => exact ⟨.inr z, rfl⟩
  | none => cases h
  | bool _ => cases h
  | list _ => cases h
  | tuple _ => cases h
  | dict _ => cases h
theorem keys_of : ∀ {xs : List D}, xs.all isKey = true → ∃ k : List Key, xs = k.map kD
  | [], _ => ⟨[], rfl⟩
  | x :: r, h => by
    rw [List.all_cons, Bool.and_eq_true] at h
    obtain ⟨k, rfl⟩ := isKey_of h.1
    obtain ⟨ks, rfl⟩ := keys_of h.2
    exact ⟨k :: ks, rfl⟩
theorem hasKey_t {x : D} (h : hasKey true x = true) : ∃ k : List Key, x = .tuple (k.map kD) := by
  cases x with
  | tuple xs =>
    obtain ⟨k, rfl⟩ := keys_of (show xs.all isKey = true from h)
    exact ⟨k, rfl⟩
  | int i => cases h
  | str z => cases h
  | none => cases h
  | bool _ => cases h
  | list _ => cases h
  | dict _ => cases h
theorem RB.key {w : Wd} {k : Key} {v : V} (h : RB fa w (kD k) v) : v = kV k := by
  cases k with
  | inl i => exact h.int
  | inr x => exact h.str
theorem Rs.keys {w : Wd} : ∀ {k : List Key} {vs : List V}, Rs fa w (k.map kD) vs → vs = k.map kV
  | [], _, .nil => rfl
  | x :: k, _, .cons h r => by rw [(RB.r h).key, Rs.keys r]; rfl
/-- the dict that is looked at -/
theorem RB.dict {w : Wd} {t : Bool} {es : List (D × D)} {v : V} (h : RB fa w (.dict ((.none, .bool t) :: es)) v) : ∃ p, v = .ref p ∧ DR fa w t es p := by
  generalize hd : PyData.dict ((.none, .bool t) :: es) = d at h
  cases h with
  | r h =>
    cases h with
    | dk z h r => cases hd; exact ⟨_, rfl, .inl ⟨rfl, _, h, r⟩⟩
    | dt z h r => cases hd; exact ⟨_, rfl, .inr ⟨rfl, _, h, r⟩⟩
    | _ => cases hd
  | l _ _ _ => cases hd
  | k h r _ => cases hd; exact ⟨_, rfl, .inl ⟨rfl, _, h, r⟩⟩
  | t h r _ => cases hd; exact ⟨_, rfl, .inr ⟨rfl, _, h, r⟩⟩
theorem DR.get {w : Wd} {t : Bool} {es : List (D × D)} {p : Addr} {x : D} {y : V} (h : DR fa w t es p) (hk : hasKey t x = true) (hx : RB fa w x y) :
    ∃ o, DGet w.H p y o ∧ OR fa w ((es.find? fun q => PyData.eqv q.1 x).map (·.2)) o := by
  rcases h with ⟨rfl, kvs, h1, h2⟩ | ⟨rfl, kvs, h1, h2⟩
  · obtain ⟨k, rfl⟩ := isKey_of hk
    rw [hx.key]
    exact ⟨_, DGet.k h1, h2.val k⟩
  · obtain ⟨k, rfl⟩ := hasKey_t hk
    obtain ⟨b, vs, rfl, _, hb, r⟩ := hx.tup (K := default)
    rw [r.keys] at hb
    exact ⟨_, DGet.t h1 hb, h2.val k⟩
/-! ### in -/
def rDIn (g : Bool → Bool) : R2 := fun y x H Q => ∃ a o, x = .ref a ∧ DGet H a y o ∧ Q (.bl (g o.isSome)) H
theorem op_dIn {X : Cx} (hu : X.A.units + 1 < cLine) : OpR X (compareOp .In) (rDIn id) := by
  intro pins s σ H x y v u Q I rx ry h
  obtain ⟨a, o, rfl, g, q⟩ := h
  obtain rfl : u = Value.ref a := ry
  exact d_in hu I g rx fun s3 I3 => ⟨.bl o.isSome, H, I3, rfl, q⟩
theorem op_dNin {X : Cx} (hu : X.A.units + 1 < cLine) : OpR X (compareOp .NotIn) (rDIn (!·)) := by
  intro pins s σ H x y v u Q I rx ry h
  obtain ⟨a, o, rfl, g, q⟩ := h
  obtain rfl : u = Value.ref a := ry
  exact d_notIn hu I g rx fun s3 I3 => ⟨.bl (!o.isSome), H, I3, rfl, q⟩
def rInY (K : PySem.W.Frag) : R2 := fun x y H Q => rInX K x y H Q ∨ rDIn id x y H Q
def rNinY (K : PySem.W.Frag) : R2 := fun x y H Q => rNinX K x y H Q ∨ rDIn (!·) x y H Q
theorem op_inY {X : Cx} (hu : X.A.units + 65 < cLine) : OpR X (compareOp .In) (rInY X.K) := (op_inX hu).or (op_dIn (by omega))
theorem op_ninY {X : Cx} (hu : X.A.units + 65 < cLine) : OpR X (compareOp .NotIn) (rNinY X.K) := (op_ninX hu).or (op_dNin (by omega))
theorem isInF_cases {x y : D} {c : Bool} (e : isInF x y = some c) :
    (∃ xs, y = .list xs ∧ pure1 x = true ∧ pure1 (.list xs) = true ∧ c = xs.any fun z => PyData.eqv z x) ∨ (∃ xs, y = .tuple xs ∧ pure1 x = true ∧ pure1 (.tuple xs) = true ∧ c = xs.any fun z => PyData.eqv z x) ∨
    (∃ (n : Nat) (z : Str), x = .str ⟨#[n]⟩ ∧ y = .str z ∧ c = decide (n ∈ z.cps.toList)) ∨ (∃ t es, y = .dict ((.none, .bool t) :: es) ∧ hasKey t x = true ∧ c = es.any fun p => PyData.eqv p.1 x) := by
  unfold isInF at e
  split at e
  · split at e
    · rename_i hp
      cases e
      obtain ⟨h1, h2⟩ := both_pure hp
      exact .inl ⟨_, rfl, h1, h2, rfl⟩
    · cases e
  · split at e
    · rename_i hp
      cases e
      obtain ⟨h1, h2⟩ := both_pure hp
      exact .inr (.inl ⟨_, rfl, h1, h2, rfl⟩)
    · cases e
  · split at e
    · cases e
      exact .inr (.inr (.inl ⟨_, _, rfl, rfl, rfl⟩))
    · cases e
  · split at e
    · rename_i hp
      cases e
      exact .inr (.inr (.inr ⟨_, _, rfl, hp, rfl⟩))
    · cases e
  · cases e
theorem v_in {K : PySem.W.Frag} : V2 fa ca (rInY K) (fun x y => (cmpF .inn x y).map .bool) := by
  intro w S x y a b d m W σ Q k ra rb e h
  obtain ⟨c, e1, rfl⟩ := map_bl e
  rcases isInF_cases (show isInF a b = some c from e1) with ⟨xs, rfl, h1, h2, rfl⟩ | ⟨xs, rfl, h1, h2, rfl⟩ | ⟨n, z, rfl, rfl, rfl⟩ | ⟨t, es, rfl, hk, rfl⟩
  · exact .inl (.inl ⟨a, xs, ra.dp (pure1_lay h1), rb.dp (pure1_lay h2), h1, h2, h.bl k⟩)
  · exact .inl (.inr (.inl ⟨a, xs, ra.dp (pure1_lay h1), rb.dp (pure1_lay h2), h1, h2, h.bl k⟩))
  · exact .inl (.inr (.inr ⟨n, z, ra.str, rb.str, h.bl k⟩))
  · obtain ⟨p, rfl, dr⟩ := rb.dict
    obtain ⟨o, g, r⟩ := dr.get hk ra
    refine .inr ⟨p, o, rfl, g, ?_⟩
    rw [any_find, r.some_eq] at h
    exact h.bl k
theorem v_nin {K : PySem.W.Frag} : V2 fa ca (rNinY K) (fun x y => (cmpF .nin x y).map .bool) := by
  intro w S x y a b d m W σ Q k ra rb e h
  obtain ⟨c, e1, rfl⟩ := map_bl e
  have e1 : (isInF a b).map (!·) = some c := e1
  cases e2 : isInF a b with
  | none =>
    rw [e2] at e1
    cases e1
  | some c2 =>
    rw [e2] at e1
    cases e1
    rcases isInF_cases e2 with ⟨xs, rfl, h1, h2, rfl⟩ | ⟨xs, rfl, h1, h2, rfl⟩ | ⟨n, z, rfl, rfl, rfl⟩ | ⟨t, es, rfl, hk, rfl⟩
    · exact .inl (.inl ⟨a, xs, ra.dp (pure1_lay h1), rb.dp (pure1_lay h2), h1, h2, h.bl k⟩)
    · exact .inl (.inr (.inl ⟨a, xs, ra.dp (pure1_lay h1), rb.dp (pure1_lay h2), h1, h2, h.bl k⟩))
    · exact .inl (.inr (.inr ⟨n, z, ra.str, rb.str, h.bl k⟩))
    · obtain ⟨p, rfl, dr⟩ := rb.dict
      obtain ⟨o, g, r⟩ := dr.get hk ra
      refine .inr ⟨p, o, rfl, g, ?_⟩
      rw [any_find, r.some_eq] at h
      exact h.bl k
end Mini
/-! The evaluator is sound: items, slices, tests. -/
namespace Mini
open PySem L2
variable {fa : FA} {ca : CA} {cl : Calls}
theorem RM.ofR {m : Md} {w0 w : Wd} {d : D} {v : V} (hm : m ≠ .f) (r : R fa w d v) : RM fa m w0 w d v := by
  cases m with
  | b => exact .r r
  | v => exact r
  | f => exact absurd rfl hm
theorem PostE.ofR {W : WX} {σ : St} {m : Md} {w : Wd} {S : Sto} {Q : VK} {d : D} {v : V} (hm : m ≠ .f) (h : PostE fa ca W σ m w (.ok d S) Q) (k : Ok fa w S) (r : R fa w d v) : Q v w.H := h w v (Step.refl w) k (.ofR hm r)
/-! ### items -/
theorem atI_map {α β : Type} {f : α → β} {xs : List α} {i : Int} {y : β} (h : atI (xs.map f) i = some y) : ∃ x, atI xs i = some x ∧ y = f x := by
  unfold atI at h ⊢
  rw [List.length_map] at h
  cases e : L2.ixN xs.length i with
  | none =>
    rw [e] at h
    cases h
  | some j =>
    rw [e] at h
    have h : (xs.map f)[j]? = some y := h
    rw [List.getElem?_map] at h
    cases e2 : xs[j]? with
    | none =>
      rw [e2] at h
      cases h
    | some x =>
      rw [e2] at h
      exact ⟨x, e2, (Option.some.inj h).symm⟩
theorem Rs.atI {w : Wd} {ds : List D} {vs : List V} {i : Int} {d : D} (h : Rs fa w ds vs) (e : atI ds i = some d) : ∃ v, atI vs i = some v ∧ R fa w d v := by
  unfold L2.atI at e ⊢
  rw [← h.length]
  cases e1 : L2.ixN ds.length i with
  | none =>
    rw [e1] at e
    cases e
  | some j =>
    rw [e1] at e
    obtain ⟨v, h1, h2⟩ := h.get (show ds[j]? = some d from e)
    exact ⟨v, h1, h2⟩
def rIxD : R2 := fun x y H Q => ∃ a v, x = .ref a ∧ DGet H a y (some v) ∧ Q v H
theorem ix_dict {X : Cx} (hu : X.A.units + 1 < cLine) : IxR X rIxD := by
  intro value slice pins s σ H x y v u Q I rx ry h hs
  obtain ⟨a, z, rfl, g, q⟩ := h
  obtain rfl : v = Value.ref a := rx
  exact PyProof.Rows.tail_any (ops := [.ref a, u]) (dict_typeIs I g) PySem.F.slot_dict_getitem.lookup (d_getItem hu I g ry fun w' s3 I3 rw' => ⟨z, H, I3, rw', q⟩) hs
def rIxX (K : PySem.W.Frag) : R2 := fun x y H Q => rIx K x y H Q ∨ rIxD x y H Q
theorem ix_X {X : Cx} (hu : X.A.units + 1 < cLine) : IxR X (rIxX X.K) := ix_seq.or (ix_dict hu)
theorem v_ix {K : PySem.W.Frag} (hK : KF fa K) {w : Wd} {S : Sto} {x y : V} {a b d : D} {m : Md} {W : WX} {σ : St} {Q : VK} (hm : m ≠ .f) (k : Ok fa w S) (ra : RB fa w a x) (rb : RB fa w b y) (e : getF a b = some d) (h : PostE fa ca W σ m w (.ok d S) Q) : rIxX K x y w.H Q := by
  unfold getF at e
  split at e
  · obtain ⟨p, ns, rfl, rfl, hr⟩ := ra.scr hK
    cases rb.int
    obtain ⟨i, e1, rfl⟩ := atI_map e
    refine .inl (.inl ⟨p, _, _, .int i, rfl, rfl, hr, ?_, h.ofR hm k (.int i)⟩)
    obtain ⟨v, e2, r⟩ := Rs.atI (fa := fa) (w := w) (ds := ns.map .int) (vs := ns.map V.int) (by
      clear e h e1 hr ra
      induction ns with
      | nil => exact .nil
      | cons n r ih => exact .cons (.int n) ih) e
    cases r
    exact e2
  · obtain ⟨p, vs, rfl, q1, q2, r⟩ := ra.lst (K := K)
    cases rb.int
    obtain ⟨v, e2, rv⟩ := r.atI e
    exact .inl (.inl ⟨p, vs, _, v, rfl, rfl, q1, e2, h.ofR hm k rv⟩)
  · obtain ⟨p, vs, rfl, q1, q2, r⟩ := ra.tup (K := K)
    cases rb.int
    obtain ⟨v, e2, rv⟩ := r.atI e
    exact .inl (.inr (.inl ⟨p, vs, _, v, rfl, rfl, q1, e2, h.ofR hm k rv⟩))
  · split at e
    · rename_i hl
      cases ra.str
      cases rb.int
      cases e1 : L2.atI _ _ with
      | none =>
        rw [e1] at e
        cases e
      | some c =>
        rw [e1] at e
        cases e
        exact .inl (.inr (.inr ⟨_, _, c, rfl, rfl, lim_ok hl, e1, h.ofR hm k (.str _)⟩))
    · cases e
  · split at e
    · rename_i hk
      obtain ⟨p, rfl, dr⟩ := ra.dict
      obtain ⟨o, g, r⟩ := dr.get hk rb
      rw [e] at r
      cases o with
      | none => cases r
      | some v => exact .inr ⟨p, v, rfl, g, h.ofR hm k r⟩
    · cases e
  · cases e
section
variable {X : Cx} {W : WX} {m : Md}
theorem se_ix {e1 e2 : Expr} {a b : E} {pos : Pos} (hK : KF fa X.K) (hm : m ≠ .f) (hu : X.A.units + 1 < cLine) (hs : PlainIx e2) (h1 : PE X e1 (tE fa ca cl W .b a)) (h2 : PE X e2 (tE fa ca cl W .b b)) : PE X (.Subscript e1 e2 pos) (tE fa ca cl W m (.ix a b)) := by
  refine (pe_ix (pos := pos) (ix_X hu) h1 h2 hs).weak fun σ H Q h => ?_
  obtain ⟨w, env, S, rfl, k, he, h⟩ := h
  unfold evE at h
  refine tE_bind k he h fun d1 S1 w1 v1 s1 k1 e1 r1 h1 => ?_
  refine tE_bind k1 e1 h1 fun d2 S2 w2 v2 s2 k2 e2 r2 h2 => ?_
  cases f : getF d1 d2 with
  | none =>
    rw [f] at h2
    exact h2.elim
  | some d =>
    rw [f] at h2
    exact v_ix hK hm k2 (RB.mono s2 k1 r1) r2 f h2
theorem se_neg {e1 : Expr} {a : E} {pos : Pos} (h1 : PE X e1 (tE fa ca cl W .b a)) : PE X (.UnaryOp .USub e1 pos) (tE fa ca cl W m (.neg a)) := by
  refine (pe_un (pos := pos) un_neg h1).weak fun σ H Q h => ?_
  obtain ⟨w, env, S, rfl, k, he, h⟩ := h
  unfold evE at h
  refine tE_bind k he h fun d1 S1 w1 v1 s1 k1 e1 r1 h1 => ?_
  cases d1 with
  | int i =>
    cases RB.int r1
    exact ⟨i, rfl, h1.int k1⟩
  | _ => exact h1.elim
/-! ### slices -/
def PostO (fa : FA) (ca : CA) (W : WX) (σ : St) (w : Wd) (r : Res D) (Q : Option Int → Hp → Prop) : Prop := match r with
  | .ok d S => ∃ o, optI d = some o ∧ ∀ w', Step w w' → Ok fa w' S → Q o w'.H
  | .ex c S => ∀ w' C, Step w w' → Ok fa w' S → ca c = some C → W (.ref C) none σ w'.H
  | .no => False
def tO (fa : FA) (ca : CA) (cl : Calls) (W : WX) (e : E) : TO := fun σ H Q =>
  ∃ w env S, w.H = H ∧ Ok fa w S ∧ ER fa w env σ ∧ PostO fa ca W σ w (evE cl .b e env S) Q
theorem _root_.L2.PO.weak {X : Cx} {e : Option Expr} {t t' : TO} (h : PO X e t) (i : ∀ σ H Q, t' σ H Q → t σ H Q) : PO X e t' := ⟨fun pins s σ H Q I q => h.run pins s σ H Q I (i σ H Q q)⟩
theorem so_none : PO X none (tO fa ca cl W .nil) := by
  refine po_none.weak fun σ H Q h => ?_
  obtain ⟨w, env, S, rfl, k, he, o, e, h⟩ := h
  cases e
  exact h w (Step.refl w) k
theorem so_some {e : Expr} {a : E} (h1 : PE X e (tE fa ca cl W .b a)) : PO X (some e) (tO fa ca cl W (.cons a .nil)) := by
  refine (po_some h1).weak fun σ H Q h => ?_
  obtain ⟨w, env, S, rfl, k, he, h⟩ := h
  refine ⟨w, env, S, rfl, k, he, ?_⟩
  unfold evE at h
  cases r : evE cl .b a env S with
  | no =>
    rw [r] at h
    exact h
  | ex c S1 =>
    rw [r] at h
    exact h
  | ok d S1 =>
    rw [r] at h
    simp only [Res.bind, evE] at h
    obtain ⟨o, e, h⟩ := h
    intro w1 v s1 k1 rb
    cases d with
    | int i =>
      cases e
      exact ⟨i, RB.int rb, h w1 s1 k1⟩
    | _ => cases e
def rCut (K : PySem.W.Frag) : V → Option Int → Option Int → Hp → VK → Prop := fun x lo hi H Q => rSlL K x lo hi H Q ∨ rSlA K x lo hi H Q ∨ rSlS x lo hi H Q
theorem sl_X : SlR X (rCut X.K) := sl_list.or (sl_tupA.or sl_str)
theorem Rs.cut {w : Wd} {ds : List D} {vs : List V} (h : Rs fa w ds vs) (lo hi : Option Int) : Rs fa w (cutL ds lo hi) (cutV vs lo hi) := by
  unfold cutL cutV
  rw [h.length]
  exact (h.drop _).take _
theorem cut_all {α : Type} {xs : List α} {lo hi : Option Int} (h : HT.sIx xs.length 0 lo = 0 ∧ HT.sIx xs.length xs.length hi = xs.length) : cutL xs lo hi = xs := by
  unfold cutL
  rw [h.1, h.2]
  simp
theorem v_cut {K : PySem.W.Frag} {w : Wd} {S : Sto} {x : V} {a d : D} {lo hi : Option Int} {σ : St} {Q : VK} (k : Ok fa w S) (ra : RB fa w a x) (e : cutF a lo hi = some d) (h : PostE fa ca W σ m w (.ok d S) Q) : rCut K x lo hi w.H Q := by
  cases a with
  | list xs =>
    cases e
    obtain ⟨p, vs, rfl, q1, q2, r⟩ := ra.lst (K := K)
    exact .inl ⟨p, vs, rfl, q1, fun l hl => h.lst k (r.cut lo hi) hl⟩
  | tuple xs =>
    cases e
    obtain ⟨p, vs, rfl, q1, q2, r⟩ := ra.tup (K := K)
    refine .inr (.inl ⟨p, vs, rfl, q1, fun e => ?_, fun _ l hl => h.tup k (r.cut lo hi) hl⟩)
    rw [← r.length] at e
    rw [cut_all e] at h
    exact h.sc k rfl (.tup q2 r)
  | str z =>
    simp only [cutF] at e
    split at e
    · rename_i hl
      cases e
      cases ra.str
      refine .inr (.inr ⟨z, rfl, lim_ok hl, ?_⟩)
      have q := h.str k
      unfold cutL at q
      rw [Array.length_toList] at q
      exact q
    · cases e
  | none => cases e
  | bool _ => cases e
  | int _ => cases e
  | dict _ => cases e
theorem se_cut {e1 : Expr} {lo hi : Option Expr} {a l u : E} {pos p2 : Pos} (h1 : PE X e1 (tE fa ca cl W .b a)) (hl : PO X lo (tO fa ca cl W l)) (hu : PO X hi (tO fa ca cl W u)) : PE X (.Subscript e1 (.Slice lo hi none p2) pos) (tE fa ca cl W m (.cut a l u)) := by
  refine (pe_slice (pos := pos) (p2 := p2) sl_X h1 hl hu).weak fun σ H Q h => ?_
  obtain ⟨w, env, S, rfl, k, he, h⟩ := h
  unfold evE at h
  refine tE_bind k he h fun d1 S1 w1 v1 s1 k1 e1 r1 h1 => ?_
  refine ⟨w1, env, S1, rfl, k1, e1, ?_⟩
  cases r2 : evE cl .b l env S1 with
  | no =>
    rw [r2] at h1
    exact h1
  | ex c S2 =>
    rw [r2] at h1
    exact h1
  | ok d2 S2 =>
    rw [r2] at h1
    cases o2 : optI d2 with
    | none =>
      simp only [Res.bind, o2] at h1
      exact h1.elim
    | some o =>
      simp only [Res.bind, o2] at h1
      refine ⟨o, o2, fun w2 s2 k2 => ⟨w2, env, S2, rfl, k2, (e1.mono s2 k1), ?_⟩⟩
      cases r3 : evE cl .b u env S2 with
      | no =>
        rw [r3] at h1
        exact h1
      | ex c S3 =>
        rw [r3] at h1
        exact fun w3 C s3 k3 e => h1 w3 C (s2.trans s3) k3 e
      | ok d3 S3 =>
        rw [r3] at h1
        cases o3 : optI d3 with
        | none =>
          simp only [o3] at h1
          exact h1.elim
        | some o' =>
          simp only [o3] at h1
          refine ⟨o', o3, fun w3 s3 k3 => ?_⟩
          cases f : cutF d1 o o' with
          | none =>
            rw [f] at h1
            exact h1.elim
          | some d =>
            rw [f] at h1
            exact v_cut k3 (RB.mono s3 k2 (RB.mono s2 k1 r1)) f (PostE.later (s2.trans s3) h1)
end
end Mini
/-! The evaluator is sound: tests, displays, calls. -/
namespace Mini
open PySem L2
variable {fa : FA} {ca : CA} {cl : Calls}
/-- a test's reading -/
def PostT (fa : FA) (ca : CA) (W : WX) (σ : St) (w : Wd) (r : Res D) (Q : Bool → Hp → Prop) : Prop := match r with
  | .ok d S => ∃ b, d = .bool b ∧ ∀ w', Step w w' → Ok fa w' S → Q b w'.H
  | .ex c S => ∀ w' C, Step w w' → Ok fa w' S → ca c = some C → W (.ref C) none σ w'.H
  | .no => False
def tT (fa : FA) (ca : CA) (cl : Calls) (W : WX) (e : E) : TT := fun σ H Q =>
  ∃ w env S, w.H = H ∧ Ok fa w S ∧ ER fa w env σ ∧ PostT fa ca W σ w (evE cl .b e env S) Q
theorem PostT.later {W : WX} {σ : St} {w w1 : Wd} {r : Res D} {Q : Bool → Hp → Prop} (p : Step w w1) (h : PostT fa ca W σ w r Q) : PostT fa ca W σ w1 r Q := by
  cases r with
  | ok d S =>
    obtain ⟨b, e, h⟩ := h
    exact ⟨b, e, fun w' s k => h w' (p.trans s) k⟩
  | ex c S => exact fun w' C s k e => h w' C (p.trans s) k e
  | no => exact h
section
variable {X : Cx} {W : WX} {m : Md}
/-- a test's first part -/
theorem tT_bind {e : E} {σ : St} {w : Wd} {env : Env} {S : Sto} {Q : Bool → Hp → Prop} {k : D → Sto → Res D} (hk : Ok fa w S) (he : ER fa w env σ)
    (h : PostT fa ca W σ w ((evE cl .b e env S).bind k) Q) (hb : ∀ d S1, (∀ b, d ≠ .bool b) → k d S1 = .no) {Q' : Bool → Hp → Prop}
    (hq : ∀ b S1 w1, Step w w1 → Ok fa w1 S1 → ER fa w1 env σ → PostT fa ca W σ w1 (k (.bool b) S1) Q → Q' b w1.H) : tT fa ca cl W e σ w.H Q' := by
  refine ⟨w, env, S, rfl, hk, he, ?_⟩
  cases r : evE cl .b e env S with
  | ok d S1 =>
    rw [r] at h
    have h : PostT fa ca W σ w (k d S1) Q := h
    cases d with
    | bool b => exact ⟨b, rfl, fun w1 s k1 => hq b S1 w1 s k1 (he.mono s hk) (h.later s)⟩
    | none => rw [hb _ _ (fun _ z => by cases z)] at h; exact h.elim
    | int _ => rw [hb _ _ (fun _ z => by cases z)] at h; exact h.elim
    | str _ => rw [hb _ _ (fun _ z => by cases z)] at h; exact h.elim
    | list _ => rw [hb _ _ (fun _ z => by cases z)] at h; exact h.elim
    | tuple _ => rw [hb _ _ (fun _ z => by cases z)] at h; exact h.elim
    | dict _ => rw [hb _ _ (fun _ z => by cases z)] at h; exact h.elim
  | ex c S1 =>
    rw [r] at h
    exact h
  | no =>
    rw [r] at h
    exact h
/-- .. of an expression -/
theorem tE_bindT {e : E} {σ : St} {w : Wd} {env : Env} {S : Sto} {Q : VK} {m' : Md} {k : D → Sto → Res D} (hk : Ok fa w S) (he : ER fa w env σ)
    (h : PostE fa ca W σ m' w ((evE cl .b e env S).bind k) Q) (hb : ∀ d S1, (∀ b, d ≠ .bool b) → k d S1 = .no) {Q' : Bool → Hp → Prop}
    (hq : ∀ b S1 w1, Step w w1 → Ok fa w1 S1 → ER fa w1 env σ → PostE fa ca W σ m' w1 (k (.bool b) S1) Q → Q' b w1.H) : tT fa ca cl W e σ w.H Q' := by
  refine ⟨w, env, S, rfl, hk, he, ?_⟩
  cases r : evE cl .b e env S with
  | ok d S1 =>
    rw [r] at h
    have h : PostE fa ca W σ m' w (k d S1) Q := h
    cases d with
    | bool b => exact ⟨b, rfl, fun w1 s k1 => hq b S1 w1 s k1 (he.mono s hk) (h.later s)⟩
    | none => rw [hb _ _ (fun _ z => by cases z)] at h; exact h.elim
    | int _ => rw [hb _ _ (fun _ z => by cases z)] at h; exact h.elim
    | str _ => rw [hb _ _ (fun _ z => by cases z)] at h; exact h.elim
    | list _ => rw [hb _ _ (fun _ z => by cases z)] at h; exact h.elim
    | tuple _ => rw [hb _ _ (fun _ z => by cases z)] at h; exact h.elim
    | dict _ => rw [hb _ _ (fun _ z => by cases z)] at h; exact h.elim
  | ex c S1 =>
    rw [r] at h
    exact h
  | no =>
    rw [r] at h
    exact h
/-- a test is an expression that gives a truth value -/
theorem tT_tE {e : E} {σ : St} {H : Hp} {Q : Bool → Hp → Prop} (h : tT fa ca cl W e σ H Q) : tE fa ca cl W .b e σ H fun x H1 => ∃ c, x = .bl c ∧ Q c H1 := by
  obtain ⟨w, env, S, rfl, k, he, h⟩ := h
  refine ⟨w, env, S, rfl, k, he, ?_⟩
  cases r : evE cl .b e env S with
  | ok d S1 =>
    rw [r] at h
    obtain ⟨b, rfl, h⟩ := h
    exact fun w1 v s k1 rm => ⟨b, RB.bl rm, h w1 s k1⟩
  | ex c S1 =>
    rw [r] at h
    exact h
  | no =>
    rw [r] at h
    exact h
theorem st_val {e : Expr} {a : E} (h : PE X e (tE fa ca cl W .b a)) (hw : ∀ whole, isTrue e X.env whole = (do let v ← whole; standAt e.pos; holding [v] (truthy v))) : PT X e (tT fa ca cl W a) :=
  (pt_val h hw).weak fun _ _ _ h => tT_tE h
theorem st_not {e : Expr} {a : E} {pos : Pos} (h : PT X e (tT fa ca cl W a)) : PT X (.UnaryOp .Not e pos) (tT fa ca cl W (.not_ a)) := by
  refine (pt_not (pos := pos) h).weak fun σ H Q h => ?_
  obtain ⟨w, env, S, rfl, k, he, h⟩ := h
  unfold evE at h
  refine tT_bind k he h (fun d S1 hn => ?_) fun b S1 w1 s1 k1 e1 h1 => ?_
  · cases d <;> first | rfl | exact absurd rfl (hn _)
  · obtain ⟨c, e, h1⟩ := h1
    cases e
    exact h1 w1 (Step.refl w1) k1
theorem _root_.L2.PW.weak {X : Cx} {e : Expr} {t t' : TT} (h : PW X e t) (i : ∀ σ H Q, t' σ H Q → t σ H Q) : PW X e t' := ⟨fun whole pins s σ H Q I q => h.run whole pins s σ H Q I (i σ H Q q)⟩
theorem sw_and {e b : Expr} {rest : List Expr} {x y : E} {pos : Pos} (h1 : PT X e (tT fa ca cl W x)) (h2 : PW X (.BoolOp .And (b :: rest) pos) (tT fa ca cl W y)) : PW X (.BoolOp .And (e :: b :: rest) pos) (tT fa ca cl W (.and_ x y)) := by
  refine (pw_and (pos := pos) h1 h2).weak fun σ H Q h => ?_
  obtain ⟨w, env, S, rfl, k, he, h⟩ := h
  unfold evE at h
  refine tT_bind k he h (fun d S1 hn => ?_) fun b S1 w1 s1 k1 e1 h1 => ?_
  · cases d <;> first | rfl | exact absurd rfl (hn _)
  · cases b with
    | true =>
      rw [if_pos rfl]
      refine ⟨w1, env, S1, rfl, k1, e1, ?_⟩
      have h1 : PostT fa ca W σ w1 ((evE cl .b y env S1).bind fun y S2 => match y with
        | .bool c => .ok (.bool c) S2
        | _ => .no) Q := h1
      cases r : evE cl .b y env S1 with
      | ok d S2 =>
        rw [r] at h1
        cases d with
        | bool c => exact h1
        | _ => exact h1.elim
      | ex c S2 =>
        rw [r] at h1
        exact h1
      | no =>
        rw [r] at h1
        exact h1
    | false =>
      rw [if_neg Bool.false_ne_true]
      obtain ⟨c, e, h1⟩ := h1
      cases e
      exact h1 w1 (Step.refl w1) k1
theorem sw_or {e b : Expr} {rest : List Expr} {x y : E} {pos : Pos} (h1 : PT X e (tT fa ca cl W x)) (h2 : PW X (.BoolOp .Or (b :: rest) pos) (tT fa ca cl W y)) : PW X (.BoolOp .Or (e :: b :: rest) pos) (tT fa ca cl W (.or_ x y)) := by
  refine (pw_or (pos := pos) h1 h2).weak fun σ H Q h => ?_
  obtain ⟨w, env, S, rfl, k, he, h⟩ := h
  unfold evE at h
  refine tT_bind k he h (fun d S1 hn => ?_) fun b S1 w1 s1 k1 e1 h1 => ?_
  · cases d <;> first | rfl | exact absurd rfl (hn _)
  · cases b with
    | false =>
      rw [if_neg Bool.false_ne_true]
      refine ⟨w1, env, S1, rfl, k1, e1, ?_⟩
      have h1 : PostT fa ca W σ w1 ((evE cl .b y env S1).bind fun y S2 => match y with
        | .bool c => .ok (.bool c) S2
        | _ => .no) Q := h1
      cases r : evE cl .b y env S1 with
      | ok d S2 =>
        rw [r] at h1
        cases d with
        | bool c => exact h1
        | _ => exact h1.elim
      | ex c S2 =>
        rw [r] at h1
        exact h1
      | no =>
        rw [r] at h1
        exact h1
    | true =>
      rw [if_pos rfl]
      obtain ⟨c, e, h1⟩ := h1
      cases e
      exact h1 w1 (Step.refl w1) k1
/-! .. as values -/
theorem se_not {e : Expr} {a : E} {pos : Pos} (h : PE X e (tE fa ca cl W .b a)) : PE X (.UnaryOp .Not e pos) (tE fa ca cl W m (.not_ a)) := by
  refine (pe_not (pos := pos) h).weak fun σ H Q h => ?_
  obtain ⟨w, env, S, rfl, k, he, h⟩ := h
  unfold evE at h
  refine tE_bind k he h fun d1 S1 w1 v1 s1 k1 e1 r1 h1 => ?_
  cases d1 with
  | bool c =>
    cases RB.bl r1
    exact ⟨c, rfl, h1.bl k1⟩
  | _ => exact h1.elim
theorem se_and {e b : Expr} {rest : List Expr} {x y : E} {pos : Pos} (h1 : PE X e (tE fa ca cl W .b x)) (h2 : PE X (.BoolOp .And (b :: rest) pos) (tE fa ca cl W .b y)) : PE X (.BoolOp .And (e :: b :: rest) pos) (tE fa ca cl W m (.and_ x y)) := by
  refine (pe_and (pos := pos) h1 h2).weak fun σ H Q h => ?_
  obtain ⟨w, env, S, rfl, k, he, h⟩ := h
  unfold evE at h
  refine tE_bind k he h fun d1 S1 w1 v1 s1 k1 e1 r1 h1 => ?_
  cases d1 with
  | bool c =>
    cases RB.bl r1
    refine ⟨c, rfl, ?_⟩
    cases c with
    | true =>
      rw [if_pos rfl]
      refine tE_bind k1 e1 h1 fun d2 S2 w2 v2 s2 k2 e2 r2 h2 => ?_
      cases d2 with
      | bool c =>
        cases RB.bl r2
        exact h2.bl k2
      | _ => exact h2.elim
    | false =>
      rw [if_neg Bool.false_ne_true]
      exact h1.bl k1
  | _ => exact h1.elim
theorem se_or {e b : Expr} {rest : List Expr} {x y : E} {pos : Pos} (h1 : PE X e (tE fa ca cl W .b x)) (h2 : PE X (.BoolOp .Or (b :: rest) pos) (tE fa ca cl W .b y)) : PE X (.BoolOp .Or (e :: b :: rest) pos) (tE fa ca cl W m (.or_ x y)) := by
  refine (pe_or (pos := pos) h1 h2).weak fun σ H Q h => ?_
  obtain ⟨w, env, S, rfl, k, he, h⟩ := h
  unfold evE at h
  refine tE_bind k he h fun d1 S1 w1 v1 s1 k1 e1 r1 h1 => ?_
  cases d1 with
  | bool c =>
    cases RB.bl r1
    refine ⟨c, rfl, ?_⟩
    cases c with
    | false =>
      rw [if_neg Bool.false_ne_true]
      refine tE_bind k1 e1 h1 fun d2 S2 w2 v2 s2 k2 e2 r2 h2 => ?_
      cases d2 with
      | bool c =>
        cases RB.bl r2
        exact h2.bl k2
      | _ => exact h2.elim
    | true =>
      rw [if_pos rfl]
      exact h1.bl k1
  | _ => exact h1.elim
theorem se_ite {c e1 e2 : Expr} {x a b : E} {pos : Pos} (h0 : PT X c (tT fa ca cl W x)) (h1 : PE X e1 (tE fa ca cl W m a)) (h2 : PE X e2 (tE fa ca cl W m b)) : PE X (.IfExp c e1 e2 pos) (tE fa ca cl W m (.ite x a b)) := by
  refine (pe_ifExp (pos := pos) h0 h1 h2).weak fun σ H Q h => ?_
  obtain ⟨w, env, S, rfl, k, he, h⟩ := h
  unfold evE at h
  refine tE_bindT k he h (fun d S1 hn => ?_) fun b S1 w1 s1 k1 e1 h1 => ?_
  · cases d <;> first | rfl | exact absurd rfl (hn _)
  · cases b with
    | true =>
      rw [if_pos rfl]
      exact ⟨w1, env, S1, rfl, k1, e1, h1⟩
    | false =>
      rw [if_neg Bool.false_ne_true]
      exact ⟨w1, env, S1, rfl, k1, e1, h1⟩
/-! comparisons as tests, chains -/
theorem st_cmp {op : CmpOp} {o : Cop} {r : R2} {e1 e2 : Expr} {a b : E} {pos : Pos} (ho : OpR X (compareOp op) r) (hv : V2 fa ca r (fun x y => (cmpF o x y).map .bool)) (hm : behindInMarks op e2 = false) (h1 : PE X e1 (tE fa ca cl W .b a)) (h2 : PE X e2 (tE fa ca cl W .b b)) :
    PT X (.Compare e1 [op] [e2] pos) (tT fa ca cl W (.cmp o a b)) := by
  refine (pt_cmpR (pos := pos) ho h1 h2 hm).weak fun σ H Q h => ?_
  obtain ⟨w, env, S, rfl, k, he, h⟩ := tT_tE h
  unfold evE at h
  exact two_bind hv k he h
theorem chain_bind {o o' : Cop} {r r' : R2} (hv : V2 fa ca r (fun x y => (cmpF o x y).map .bool)) (hv' : V2 fa ca r' (fun x y => (cmpF o' x y).map .bool)) {a b c : E} {σ : St} {Q : VK} {w : Wd} {env : Env} {S : Sto} (k : Ok fa w S) (he : ER fa w env σ)
    (h : PostE fa ca W σ m w (evE cl m (.chn o o' a b c) env S) Q) : tChain r r' (tE fa ca cl W .b a) (tE fa ca cl W .b b) (tE fa ca cl W .b c) σ w.H Q := by
  unfold evE at h
  refine tE_bind k he h fun d1 S1 w1 v1 s1 k1 e1 r1 h1 => ?_
  refine tE_bind k1 e1 h1 fun d2 S2 w2 v2 s2 k2 e2 r2 h2 => ?_
  have r1' := RB.mono s2 k1 r1
  cases f : cmpF o d1 d2 with
  | none =>
    simp only [f] at h2
    exact h2.elim
  | some q =>
    refine hv w2 S2 v1 v2 d1 d2 (.bool q) .b W σ _ k2 r1' r2 (congrArg (Option.map PyData.bool) f) fun w3 v s3 k3 rm => ⟨q, RB.bl rm, ?_⟩
    cases q with
    | true =>
      rw [if_pos rfl]
      simp only [f] at h2
      refine tE_bind k3 (e2.mono s3 k2) (h2.later s3) fun d3 S4 w4 v3 s4 k4 e4 r3 h4 => ?_
      cases f' : cmpF o' d2 d3 with
      | none =>
        simp only [f'] at h4
        exact h4.elim
      | some q' =>
        simp only [f'] at h4
        exact hv' w4 S4 v2 v3 d2 d3 (.bool q') m W σ _ k4 (RB.mono s4 k3 (RB.mono s3 k2 r2)) r3 (congrArg (Option.map PyData.bool) f') h4
    | false =>
      rw [if_neg Bool.false_ne_true]
      simp only [f] at h2
      have q := h2 w3 (.bl false) s3 k3 (.sc rfl (.bl false))
      exact q
/-! ### displays -/
/-- the arguments, then the rest -/
theorem tA_bind {m m' : Md} {e : E} {σ : St} {w : Wd} {env : Env} {S : Sto} {Q : VK} {k : D → Sto → Res D} (hk : Ok fa w S) (he : ER fa w env σ)
    (h : PostE fa ca W σ m' w ((evE cl m e env S).bind k) Q) (hb : ∀ d S1, (∀ xs, d ≠ .tuple xs) → k d S1 = .no) {Q' : List V → Hp → Prop}
    (hq : ∀ ds S1 w1 vs, Step w w1 → Ok fa w1 S1 → ER fa w1 env σ → RMs fa m w1 ds vs → PostE fa ca W σ m' w1 (k (.tuple ds) S1) Q → Q' vs w1.H) : tA fa ca cl W m e σ w.H Q' := by
  refine ⟨w, env, S, rfl, hk, he, ?_⟩
  cases r : evE cl m e env S with
  | ok d S1 =>
    rw [r] at h
    have h : PostE fa ca W σ m' w (k d S1) Q := h
    cases d with
    | tuple xs => exact ⟨xs, rfl, fun w1 vs s k1 rm => hq xs S1 w1 vs s k1 (he.mono s hk) rm (h.later s)⟩
    | none => rw [hb _ _ (fun _ z => by cases z)] at h; exact h.elim
    | int _ => rw [hb _ _ (fun _ z => by cases z)] at h; exact h.elim
    | str _ => rw [hb _ _ (fun _ z => by cases z)] at h; exact h.elim
    | list _ => rw [hb _ _ (fun _ z => by cases z)] at h; exact h.elim
    | bool _ => rw [hb _ _ (fun _ z => by cases z)] at h; exact h.elim
    | dict _ => rw [hb _ _ (fun _ z => by cases z)] at h; exact h.elim
  | ex c S1 =>
    rw [r] at h
    exact h
  | no =>
    rw [r] at h
    exact h
theorem se_tup {es : List Expr} {as : E} {j : Nat} {pos : Pos} (h : PA X es (tA fa ca cl W .v as)) : PE X (.Tuple es j pos) (tE fa ca cl W m (.tup as)) := by
  refine (pe_tup (pos := pos) (x1 := j) h).weak fun σ H Q h => ?_
  obtain ⟨w, env, S, rfl, k, he, h⟩ := h
  unfold evE at h
  refine tA_bind k he h (fun d S1 hn => ?_) fun ds S1 w1 vs s1 k1 e1 r1 h1 => ?_
  · cases d <;> first | rfl | exact absurd rfl (hn _)
  · have r1 : Rs fa w1 ds vs := r1
    have h1 : PostE fa ca W σ m w1 (if lim ds.length then .ok (.tuple ds) S1 else .no) Q := h1
    split at h1
    · rename_i hl
      exact ⟨by rw [← r1.length]; exact lim_ok hl, fun p hp => h1.tup k1 r1 hp⟩
    · exact h1.elim
theorem se_lst {es : List Expr} {as : E} {pos : Pos} (h : PA X es (tA fa ca cl W .v as)) : PE X (.List es pos) (tE fa ca cl W m (.lst as)) := by
  refine (pe_lst (pos := pos) h).weak fun σ H Q h => ?_
  obtain ⟨w, env, S, rfl, k, he, h⟩ := h
  unfold evE at h
  refine tA_bind k he h (fun d S1 hn => ?_) fun ds S1 w1 vs s1 k1 e1 r1 h1 => ?_
  · cases d <;> first | rfl | exact absurd rfl (hn _)
  · have r1 : Rs fa w1 ds vs := r1
    have h1 : PostE fa ca W σ m w1 (if lim ds.length then .ok (.list ds) S1 else .no) Q := h1
    split at h1
    · rename_i hl
      exact ⟨by rw [← r1.length]; exact lim_ok hl, fun p hp => h1.lst k1 r1 hp⟩
    · exact h1.elim
/-! ### calls of defs -/
/-- what a def promises: the evaluator's answer -/
def spF (fa : FA) (ca : CA) (T : Str → Option Fn) (n : Nat) (f : Str) : Sp := fun vs H Q E =>
  ∃ w S ds, w.H = H ∧ Ok fa w S ∧ Rs fa w ds vs ∧ PostE fa ca (fun c d _ H => E c d H) [] .v w (callF T n f ds S) Q
structure FnFact (X : Cx) (fa : FA) (ca : CA) (T : Str → Option Fn) (n : Nat) (f : Str) : Prop where
  ex : ∃ A fd ps, fa f = some A ∧ FnOk X.prog X.w X.K X.mg X.base (L2.CX X.prog X.w) (4 * n) A fd ps (spF fa ca T n f) ∧ X.mg f = some (.ref A) ∧ PySem.W.keepIn X.K (.ref A) = true ∧ Binds X.K fd ps []
theorem se_call {T : Str → Option Fn} {n : Nat} {f : Str} {e : Expr} {es : List Expr} {as : E} {p pos : Pos} (hm : m ≠ .f) (F : FnFact X fa ca T n f) (hr : Room (4 * n) X.A) (hg : Gl X f) (tk : Takes X W) (hdb : (f == ("__debug__" : Str)) = false)
    (hs : ∀ env, starEach (e :: es) env = (false, eval e env) :: starEach es env) (hpl : (backTo pos (starEach es X.env)).any (·.1) = false) (h : PA X (e :: es) (tA fa ca (callF T n) W .v as)) :
    PE X (.Call (.Name f p) (e :: es) [] pos) (tE fa ca (callF T n) W m (.call f as)) := by
  obtain ⟨A, fd, ps, hA, F, hmg, hk, hb⟩ := F.ex
  refine (pe_callS (p := p) (pos := pos) (E := WE W) F hr hg hmg hk hb (fun σ => passAt tk σ) h hdb (hs _) hpl).weak fun σ H Q h => ?_
  obtain ⟨w, env, S, rfl, k, he, h⟩ := h
  unfold evE at h
  refine tA_bind k he h (fun d S1 hn => ?_) fun ds S1 w1 vs s1 k1 e1 r1 h1 => ?_
  · cases d <;> first | rfl | exact absurd rfl (hn _)
  · have h1 : PostE fa ca W σ m w1 (callF T n f ds S1) Q := h1
    refine ⟨w1, S1, ds, rfl, k1, r1, ?_⟩
    cases r : callF T n f ds S1 with
    | ok d S2 =>
      rw [r] at h1
      exact fun w2 v s2 k2 rm => h1 w2 v s2 k2 (.ofR hm rm)
    | ex c S2 =>
      rw [r] at h1
      exact h1
    | no =>
      rw [r] at h1
      exact h1
end
end Mini
/-! The evaluator is sound: built-ins. -/
namespace Mini
open PySem L2
variable {fa : FA} {ca : CA} {cl : Calls}
def VP (fa : FA) (ca : CA) (r : List V → Hp → VK → Prop) (p : Prim) : Prop :=
  ∀ (w : Wd) (S : Sto) (vs : List V) (ds : List D) (d : D) (m : Md) (W : WX) (σ : St) (Q : VK), Ok fa w S → RBs fa w ds vs → primF p ds = some d → (m = .f → fresh (.prim p .nil) = true) → PostE fa ca W σ m w (.ok d S) Q → r vs w.H Q
section
variable {X : Cx} {W : WX} {m : Md}
theorem prim_bind {p : Prim} {as : E} {r : List V → Hp → VK → Prop} (hv : VP fa ca r p) (hm : m = .f → fresh (.prim p .nil) = true) {σ : St} {H : Hp} {Q : VK} (h : tE fa ca cl W m (.prim p as) σ H Q) : tCB r (tA fa ca cl W .b as) σ H Q := by
  obtain ⟨w, env, S, rfl, k, he, h⟩ := h
  unfold evE at h
  refine tA_bind k he h (fun d S1 hn => ?_) fun ds S1 w1 vs s1 k1 e1 r1 h1 => ?_
  · cases d <;> first | rfl | exact absurd rfl (hn _)
  · have h1 : PostE fa ca W σ m w1 (ofO (primF p ds) S1) Q := h1
    cases f : primF p ds with
    | none =>
      rw [f] at h1
      exact h1.elim
    | some d =>
      rw [f] at h1
      exact hv w1 S1 vs ds d m W σ Q k1 r1 f hm h1
theorem se_primB {p : Prim} {as : E} {id : String} {x : Str} {e : Expr} {es : List Expr} {q pos : Pos} {r : List V → Hp → VK → Prop} (hc : CallR X (.builtin id) r) (hv : VP fa ca r p) (hm : m = .f → fresh (.prim p .nil) = true) (hg : Gl X x) (hmg : X.mg x = none)
    (hb : bootBuiltins x = some (.builtin id)) (hn : x ≠ "__name__") (hdb : (x == ("__debug__" : Str)) = false) (hs : ∀ env, starEach (e :: es) env = (false, eval e env) :: starEach es env) (hpl : (backTo pos (starEach es X.env)).any (·.1) = false)
    (h : PA X (e :: es) (tA fa ca cl W .b as)) : PE X (.Call (.Name x q) (e :: es) [] pos) (tE fa ca cl W m (.prim p as)) :=
  (pe_callB (p := q) (pos := pos) hc hg hmg hb h hn hdb (hs _) hpl).weak fun _ _ _ h => prim_bind hv hm h
theorem se_primT {p : Prim} {as : E} {id : String} {x : Str} {e : Expr} {es : List Expr} {q pos : Pos} {r : List V → Hp → VK → Prop} (hc : CallR X (.type id) r) (hv : VP fa ca r p) (hm : m = .f → fresh (.prim p .nil) = true) (hg : Gl X x) (hmg : X.mg x = none)
    (hb : bootBuiltins x = some (.type id)) (hn : x ≠ "__name__") (hdb : (x == ("__debug__" : Str)) = false) (hs : ∀ env, starEach (e :: es) env = (false, eval e env) :: starEach es env) (hpl : (backTo pos (starEach es X.env)).any (·.1) = false)
    (h : PA X (e :: es) (tA fa ca cl W .b as)) : PE X (.Call (.Name x q) (e :: es) [] pos) (tE fa ca cl W m (.prim p as)) :=
  (pe_callTy (p := q) (pos := pos) hc hg hmg hb h hn hdb (hs _) hpl).weak fun _ _ _ h => prim_bind hv hm h
end
theorem RBs.one {w : Wd} {d : D} {vs : List V} (h : RBs fa w [d] vs) : ∃ v, vs = [v] ∧ RB fa w d v := by
  cases h with
  | cons h r =>
    cases r
    exact ⟨_, rfl, h⟩
theorem RBs.two {w : Wd} {d e : D} {vs : List V} (h : RBs fa w [d, e] vs) : ∃ v u, vs = [v, u] ∧ RB fa w d v ∧ RB fa w e u := by
  cases h with
  | cons h r =>
    cases r with
    | cons h' r =>
      cases r
      exact ⟨_, _, rfl, h, h'⟩
/-! ### len -/
def rLenX (K : PySem.W.Frag) : List V → Hp → VK → Prop := fun xs H Q => ((∃ p ys, xs = [.ref p] ∧ (SqL K H p ys ∨ SqT K H p ys) ∧ Q (.int ys.length) H) ∨ ∃ z, xs = [.str z] ∧ z.length ≤ sizeLine ∧ Q (.int z.length) H) ∨ ∃ a kvs, xs = [.ref a] ∧ H a = some (.dK kvs) ∧ Q (.int kvs.length) H
theorem cr_lenD {X : Cx} : CallR X (.builtin "len") (fun xs H Q => ∃ a kvs, xs = [.ref a] ∧ H a = some (.dK kvs) ∧ Q (.int kvs.length) H) := by
  intro pins s σ H xs us Q I r h
  obtain ⟨a, kvs, rfl, e, q⟩ := h
  obtain ⟨u, rfl, ru⟩ := vals1 r
  obtain rfl : u = Value.ref a := ru
  exact d_len I (.inl e) fun t s' I' => ⟨.int kvs.length, H, I', ⟨t, rfl⟩, q⟩
theorem cr_lenX {X : Cx} : CallR X (.builtin "len") (rLenX X.K) := (call_len_seq.or call_len_str).or cr_lenD
theorem RK.length {w : Wd} : ∀ {es : List (D × D)} {kvs : List (Key × V)}, RK fa w es kvs → es.length = kvs.length
  | _, _, .nil => rfl
  | _, _, .cons _ r => by rw [List.length_cons, List.length_cons, RK.length r]
theorem v_len {K : PySem.W.Frag} (hK : KF fa K) : VP fa ca (rLenX K) .len := by
  intro w S vs ds d m W σ Q k rs e hm h
  unfold primF at e
  split at e <;> first | cases e | skip
  all_goals try contradiction
  · obtain ⟨v, rfl, rb⟩ := rs.one
    obtain ⟨a, ns, rfl, rfl, hr⟩ := rb.scr hK
    refine .inl (.inl ⟨a, _, rfl, .inl hr, ?_⟩)
    rw [List.length_map] at h ⊢
    exact h.int k
  · obtain ⟨v, rfl, rb⟩ := rs.one
    obtain ⟨a, vs, rfl, q1, _, r⟩ := rb.lst (K := K)
    refine .inl (.inl ⟨a, _, rfl, .inl q1, ?_⟩)
    rw [← r.length]
    exact h.int k
  · obtain ⟨v, rfl, rb⟩ := rs.one
    obtain ⟨a, vs, rfl, q1, _, r⟩ := rb.tup (K := K)
    refine .inl (.inl ⟨a, _, rfl, .inr q1, ?_⟩)
    rw [← r.length]
    exact h.int k
  · split at e
    · rename_i hl
      cases e
      obtain ⟨v, rfl, rb⟩ := rs.one
      cases rb.str
      exact .inl (.inr ⟨_, rfl, lim_ok hl, h.int k⟩)
    · cases e
  · obtain ⟨v, rfl, rb⟩ := rs.one
    obtain ⟨p, rfl, dr⟩ := rb.dict
    rcases dr with ⟨_, kvs, h1, h2⟩ | ⟨z, _⟩
    · refine .inr ⟨p, kvs, rfl, h1, ?_⟩
      rw [← h2.length]
      exact h.int k
    · cases z
/-! ### small ones -/
theorem v_min2 : VP fa ca (fun xs H Q => ∃ i j, xs = [.int i, .int j] ∧ Q (.int (if j < i then j else i)) H) .min2 := by
  intro w S vs ds d m W σ Q k rs e hm h
  unfold primF at e
  split at e <;> first | cases e | skip
  all_goals try contradiction
  obtain ⟨v, u, rfl, r1, r2⟩ := rs.two
  cases r1.int
  cases r2.int
  exact ⟨_, _, rfl, h.int k⟩
theorem v_max2 : VP fa ca (fun xs H Q => ∃ i j, xs = [.int i, .int j] ∧ Q (.int (if j > i then j else i)) H) .max2 := by
  intro w S vs ds d m W σ Q k rs e hm h
  unfold primF at e
  split at e <;> first | cases e | skip
  all_goals try contradiction
  obtain ⟨v, u, rfl, r1, r2⟩ := rs.two
  cases r1.int
  cases r2.int
  exact ⟨_, _, rfl, h.int k⟩
theorem v_abs : VP fa ca (fun xs H Q => ∃ i, xs = [.int i] ∧ Q (.int (if i < 0 then -i else i)) H) .abs := by
  intro w S vs ds d m W σ Q k rs e hm h
  unfold primF at e
  split at e <;> first | cases e | skip
  all_goals try contradiction
  obtain ⟨v, rfl, r1⟩ := rs.one
  cases r1.int
  exact ⟨_, rfl, h.int k⟩
theorem v_int : VP fa ca (fun xs H Q => (∃ i, xs = [.int i] ∧ Q (.int i) H) ∨ ∃ k, xs = [.bl k] ∧ Q (.int (if k then 1 else 0)) H) .int := by
  intro w S vs ds d m W σ Q k rs e hm h
  unfold primF at e
  split at e <;> first | cases e | skip
  all_goals try contradiction
  · obtain ⟨v, rfl, r1⟩ := rs.one
    cases r1.int
    exact .inl ⟨_, rfl, h.int k⟩
  · obtain ⟨v, rfl, r1⟩ := rs.one
    cases r1.bl
    exact .inr ⟨_, rfl, h.int k⟩
theorem v_tuple {K : PySem.W.Frag} : VP fa ca (fun xs H Q => ∃ p ys, xs = [.ref p] ∧ ((SqL K H p ys ∧ ∀ l, H l = none → Q (.ref l) (upd H l (.tup ys))) ∨ (SqT K H p ys ∧ Q (.ref p) H))) .tuple := by
  intro w S vs ds d m W σ Q k rs e hm h
  unfold primF at e
  split at e <;> first | cases e | skip
  all_goals try contradiction
  · obtain ⟨v, rfl, rb⟩ := rs.one
    obtain ⟨a, vs, rfl, q1, _, r⟩ := rb.lst (K := K)
    exact ⟨a, vs, rfl, .inl ⟨q1, fun l hl => h.tup k r hl⟩⟩
  · obtain ⟨v, rfl, rb⟩ := rs.one
    obtain ⟨a, vs, rfl, q1, q2, r⟩ := rb.tup (K := K)
    exact ⟨a, vs, rfl, .inr ⟨q1, h.sc k rfl (.tup q2 r)⟩⟩
theorem bools_vs {w : Wd} : ∀ {xs : List D} {vs : List V} {bs : List Bool}, Rs fa w xs vs → bools xs = some bs → vs = bs.map V.bl
  | [], _, _, .nil, e => by cases e; rfl
  | .bool b :: r, _, bs, .cons h t, e => by
    simp only [bools, Option.map_eq_some_iff] at e
    obtain ⟨bs', e1, rfl⟩ := e
    cases h
    rw [bools_vs t e1]
    rfl
  | .none :: _, _, _, _, e => by cases e
  | .int _ :: _, _, _, _, e => by cases e
  | .str _ :: _, _, _, _, e => by cases e
  | .list _ :: _, _, _, _, e => by cases e
  | .tuple _ :: _, _, _, _, e => by cases e
  | .dict _ :: _, _, _, _, e => by cases e
theorem ints_vs {w : Wd} : ∀ {xs : List D} {vs : List V} {bs : List Int}, Rs fa w xs vs → intsOf xs = some bs → vs = bs.map V.int
  | [], _, _, .nil, e => by cases e; rfl
  | .int b :: r, _, bs, .cons h t, e => by
    simp only [intsOf, Option.map_eq_some_iff] at e
    obtain ⟨bs', e1, rfl⟩ := e
    cases h
    rw [ints_vs t e1]
    rfl
  | .none :: _, _, _, _, e => by cases e
  | .bool _ :: _, _, _, _, e => by cases e
  | .str _ :: _, _, _, _, e => by cases e
  | .list _ :: _, _, _, _, e => by cases e
  | .tuple _ :: _, _, _, _, e => by cases e
  | .dict _ :: _, _, _, _, e => by cases e
theorem v_all {K : PySem.W.Frag} : VP fa ca (rAll K) .all := by
  intro w S vs ds d m W σ Q k rs e hm h
  unfold primF at e
  split at e <;> first | cases e | skip
  all_goals try contradiction
  obtain ⟨v, rfl, rb⟩ := rs.one
  obtain ⟨a, vs, rfl, q1, _, r⟩ := rb.lst (K := K)
  rw [Option.map_eq_some_iff] at e
  obtain ⟨bs, e, rfl⟩ := e
  rw [bools_vs r e] at q1
  exact ⟨a, bs, rfl, q1, h.bl k⟩
theorem v_any {K : PySem.W.Frag} : VP fa ca (rAny K) .any := by
  intro w S vs ds d m W σ Q k rs e hm h
  unfold primF at e
  split at e <;> first | cases e | skip
  all_goals try contradiction
  obtain ⟨v, rfl, rb⟩ := rs.one
  obtain ⟨a, vs, rfl, q1, _, r⟩ := rb.lst (K := K)
  rw [Option.map_eq_some_iff] at e
  obtain ⟨bs, e, rfl⟩ := e
  rw [bools_vs r e] at q1
  exact ⟨a, bs, rfl, q1, h.bl k⟩
theorem v_sum {K : PySem.W.Frag} : VP fa ca (rSum K) .sum := by
  intro w S vs ds d m W σ Q k rs e hm h
  unfold primF at e
  split at e <;> first | cases e | skip
  all_goals try contradiction
  obtain ⟨v, rfl, rb⟩ := rs.one
  obtain ⟨a, vs, rfl, q1, _, r⟩ := rb.lst (K := K)
  rw [Option.map_eq_some_iff] at e
  obtain ⟨bs, e, rfl⟩ := e
  rw [ints_vs r e] at q1
  exact ⟨a, bs, rfl, q1, h.int k⟩
/-! ### isinstance -/
def tyS : Ty → String
  | .int => "int"
  | .bool => "bool"
  | .str => "str"
  | .tuple => "tuple"
  | .list => "list"
  | .dict => "dict"
  | .lt => "tuple"
theorem RB.ty {K : PySem.W.Frag} {w : Wd} {d : D} {v : V} (h : RB fa w d v) (hn : ∀ es, d ≠ .dict es) : TyOf K w.H v (PySem.W.dataType d) := by
  cases h with
  | r h =>
    cases h with
    | non => exact .non
    | bl b => exact .bl b
    | int i => exact .int i
    | str x => exact .str x
    | tup h _ => exact .tup h
    | lst _ h _ => exact .lst h
    | dk _ _ _ => exact absurd rfl (hn _)
    | dt _ _ _ => exact absurd rfl (hn _)
    | obj _ => exact absurd rfl (hn _)
    | fn _ => exact absurd rfl (hn _)
    | scr _ => exact absurd rfl (hn _)
    | exc _ _ _ => exact absurd rfl (hn _)
  | l h _ _ => exact .lst h
  | k _ _ _ => exact absurd rfl (hn _)
  | t _ _ _ => exact absurd rfl (hn _)
theorem isiF_nd {t : Ty} {d : D} {b : Bool} (e : isiF t d = some b) : ∀ es, d ≠ .dict es := by
  intro es z
  subst z
  cases t <;> cases e
def tyN : D → String
  | .none => "NoneType"
  | .bool _ => "bool"
  | .int _ => "int"
  | .str _ => "str"
  | .list _ => "list"
  | .tuple _ => "tuple"
  | .dict _ => "dict"
theorem tyN_eq (d : D) : PySem.W.dataType d = .type (tyN d) := by cases d <;> rfl
theorem kit_all : ([.int, .bool, .str, .tuple, .list] : List Ty).all (fun t => (["NoneType", "bool", "int", "str", "list", "tuple"] : List String).all fun n => decide (kitB n (tyS t) = some (n == tyS t || (n == "bool" && tyS t == "int")))) = true := by decide +kernel
theorem isi_kit {t : Ty} {d : D} {b : Bool} (ht : t ≠ .lt) (hd : t ≠ .dict) (e : isiF t d = some b) : kitB (tyN d) (tyS t) = some b := by
  have hk := kit_all
  simp only [List.all_cons, List.all_nil, Bool.and_true, Bool.and_eq_true, decide_eq_true_eq] at hk
  obtain ⟨⟨a1, a2, a3, a4, a5, a6⟩, ⟨b1, b2, b3, b4, b5, b6⟩, ⟨c1, c2, c3, c4, c5, c6⟩, ⟨d1, d2, d3, d4, d5, d6⟩, e1, e2, e3, e4, e5, e6⟩ := hk
  cases t with
  | lt => exact absurd rfl ht
  | dict => exact absurd rfl hd
  | int => cases d <;> cases e <;> first | exact a1 | exact a2 | exact a3 | exact a4 | exact a5 | exact a6
  | bool => cases d <;> cases e <;> first | exact b1 | exact b2 | exact b3 | exact b4 | exact b5 | exact b6
  | str => cases d <;> cases e <;> first | exact c1 | exact c2 | exact c3 | exact c4 | exact c5 | exact c6
  | tuple => cases d <;> cases e <;> first | exact d1 | exact d2 | exact d3 | exact d4 | exact d5 | exact d6
  | list => cases d <;> cases e <;> first | exact e1 | exact e2 | exact e3 | exact e4 | exact e5 | exact e6
end Mini
/-! The evaluator is sound: what loops walk. -/
namespace Mini
open PySem L2
variable {fa : FA} {ca : CA} {cl : Calls}
def Rch (m : Md) (w w2 : Wd) : Prop := match m with
  | .b => Step w w2
  | _ => Ext w w2
theorem Rch.ext {m : Md} {w w2 : Wd} {S : Sto} (h : Rch m w w2) (k : Ok fa w S) : Ext w w2 := by
  cases m with
  | b => exact Step.ext h k
  | v => exact h
  | f => exact h
/-- J walks these items, as long as the world goes on from w -/
structure Wk (fa : FA) (m : Md) (w : Wd) (items : List D) (J : It) : Prop where
  ex : ∃ G Y, Walk J items.length G Y ∧ (∀ w2, Rch m w w2 → G w2.H) ∧ ∀ w2 i x H', Rch m w w2 → i < items.length → Y i w2.H x H' →
    ∃ d w3, items[i]? = some d ∧ w3.H = H' ∧ Step w2 w3 ∧ (∀ S, Ok fa w2 S → Ok fa w3 S) ∧ R fa w3 d x
def PostI (fa : FA) (ca : CA) (W : WX) (σ : St) (m : Md) (w : Wd) (r : Res D) (Q : It → Hp → Prop) : Prop := match r with
  | .ok d S => ∃ items, itemsOf d = some items ∧ ∀ w' J, Step w w' → Ok fa w' S → Wk fa m w' items J → Q J w'.H
  | .ex c S => ∀ w' C, Step w w' → Ok fa w' S → ca c = some C → W (.ref C) none σ w'.H
  | .no => False
def tI (fa : FA) (ca : CA) (cl : Calls) (W : WX) (m : Md) (e : E) : TI := fun σ H Q =>
  ∃ w env S, w.H = H ∧ Ok fa w S ∧ ER fa w env σ ∧ PostI fa ca W σ m w (evE cl m e env S) Q
theorem _root_.L2.PI.weak {X : Cx} {tg e : Expr} {t t' : TI} (h : PI X tg e t) (i : ∀ σ H Q, t' σ H Q → t σ H Q) : PI X tg e t' := ⟨fun pins s σ H Q I q => h.run pins s σ H Q I (i σ H Q q)⟩
theorem _root_.L2.PI.or {X : Cx} {tg e : Expr} {t t' : TI} (h : PI X tg e t) (h' : PI X tg e t') : PI X tg e (fun σ H Q => t σ H Q ∨ t' σ H Q) := ⟨fun pins s σ H Q I q => by
  rcases q with q | q
  · exact h.run pins s σ H Q I q
  · exact h'.run pins s σ H Q I q⟩
/-- a list stays where it is -/
theorem RB.lstR {m : Md} {w w2 : Wd} {S : Sto} {K : PySem.W.Frag} {xs : List D} {v : V} (hm : m ≠ .f) (k : Ok fa w S) (h : RM fa m w w (.list xs) v) : ∃ a vs, v = .ref a ∧ SqL K w.H a vs ∧ Rs fa w xs vs ∧ ∀ w2, Rch m w w2 → SqL K w2.H a vs := by
  cases m with
  | b =>
    have h1 : RB fa w (.list xs) v := h
    clear h
    cases h1 with
    | r h =>
      cases h with
      | lst z h r => exact ⟨_, _, rfl, .inl (.inl h), r, fun w2 e => .inl (.inl ((Step.ext (fa := fa) e k).h _ _ z h))⟩
    | l h r hf => exact ⟨_, _, rfl, .inl (.inl h), r, fun w2 e => .inl (.inl (Step.keep e _ _ h hf fun ps e => by cases e))⟩
  | v =>
    have h1 : R fa w (.list xs) v := h
    clear h
    cases h1 with
    | lst z h r => exact ⟨_, _, rfl, .inl (.inl h), r, fun w2 e => .inl (.inl (Ext.h e _ _ z h))⟩
  | f => exact absurd rfl hm
theorem RB.tupR {m : Md} {w : Wd} {S : Sto} {K : PySem.W.Frag} {xs : List D} {v : V} (hm : m ≠ .f) (k : Ok fa w S) (h : RM fa m w w (.tuple xs) v) : ∃ a vs, v = .ref a ∧ SqT K w.H a vs ∧ Rs fa w xs vs ∧ ∀ w2, Rch m w w2 → SqT K w2.H a vs := by
  have h : RB fa w (.tuple xs) v := by
    cases m with
    | b => exact h
    | v => exact .r h
    | f => exact absurd rfl hm
  obtain ⟨a, vs, rfl, q1, q2, r⟩ := h.tup (K := K)
  exact ⟨a, vs, rfl, q1, r, fun w2 e => .inl (.inl ((Rch.ext (fa := fa) e k).t _ _ q2))⟩
theorem wk_seq {m : Md} {w : Wd} {S : Sto} {xs : List D} {vs : List V} {J : It} {G : Hp → Prop} (k : Ok fa w S) (r : Rs fa w xs vs) (hw : Walk J vs.length G (YAt vs)) (hg : ∀ w2, Rch m w w2 → G w2.H) : Wk fa m w xs J := by
  refine ⟨G, YAt vs, by rw [r.length]; exact hw, hg, fun w2 i x H' e hi y => ?_⟩
  obtain ⟨rfl, y⟩ := y
  obtain ⟨d, e1, r1⟩ := r.get' y
  exact ⟨d, w2, e1, rfl, Step.refl w2, fun _ h => h, r1.mono (e.ext k)⟩
section
variable {X : Cx} {W : WX} {m : Md} {tg : Expr}
def iVal (K : PySem.W.Frag) (te : TE) : TI := fun σ H R => iList K te σ H R ∨ iTup K te σ H R ∨ iStr te σ H R
theorem pi_val {e : Expr} {te : TE} (h : PE X e te) : PI X tg e (iVal X.K te) := (pi_list h).or ((pi_tup h).or (pi_str h))
theorem RM.start {m : Md} {w w1 : Wd} {d : D} {v : V} (hm : m ≠ .f) (h : RM fa m w w1 d v) : RM fa m w1 w1 d v := by
  cases m with
  | b => exact h
  | v => exact h
  | f => exact absurd rfl hm
theorem si_val {e : Expr} {a : E} (hm : m ≠ .f) (h : PE X e (tE fa ca cl W m a)) : PI X tg e (tI fa ca cl W m a) := by
  refine (pi_val h).weak fun σ H Q h => ?_
  obtain ⟨w, env, S, rfl, k, he, h⟩ := h
  cases r : evE cl m a env S with
  | no =>
    rw [r] at h
    exact h.elim
  | ex c S1 =>
    rw [r] at h
    exact .inl ⟨w, env, S, rfl, k, he, by rw [r]; exact h⟩
  | ok d S1 =>
    rw [r] at h
    obtain ⟨items, e1, h⟩ := h
    cases d with
    | list xs =>
      cases e1
      refine .inl ⟨w, env, S, rfl, k, he, ?_⟩
      rw [r]
      intro w1 v s1 k1 rm
      obtain ⟨a, vs, rfl, q1, rs, st⟩ := RB.lstR (w2 := w1) (K := X.K) hm k1 (RM.start hm rm)
      exact ⟨a, rfl, ⟨vs, q1⟩, h w1 _ s1 k1 (wk_seq k1 rs walk_list st)⟩
    | tuple xs =>
      cases e1
      refine .inr (.inl ⟨w, env, S, rfl, k, he, ?_⟩)
      rw [r]
      intro w1 v s1 k1 rm
      obtain ⟨a, vs, rfl, q1, rs, st⟩ := RB.tupR (K := X.K) hm k1 (RM.start hm rm)
      exact ⟨a, rfl, ⟨vs, q1⟩, h w1 _ s1 k1 (wk_seq k1 rs walk_tup st)⟩
    | str z =>
      cases e1
      refine .inr (.inr ⟨w, env, S, rfl, k, he, ?_⟩)
      rw [r]
      intro w1 v s1 k1 rm
      have rb : RB fa w1 (.str z) v := by
        cases m with
        | b => exact rm
        | v => exact .r rm
        | f => exact absurd rfl hm
      cases rb.str
      refine ⟨z, rfl, h w1 _ s1 k1 ⟨fun _ => True, (fun i H v H' => H' = H ∧ ∃ c, z.cps[i]? = some c ∧ v = .str ⟨#[c]⟩), ?_, fun _ _ => trivial, fun w2 i x H' e hi y => ?_⟩⟩
      · rw [List.length_map, Array.length_toList]
        exact walk_str
      · obtain ⟨rfl, c, e2, rfl⟩ := y
        refine ⟨.str ⟨#[c]⟩, w2, ?_, rfl, Step.refl w2, fun _ h => h, .str _⟩
        rw [List.getElem?_map, Array.getElem?_toList, e2]
        rfl
    | dict es => cases e1
    | none => cases e1
    | bool _ => cases e1
    | int _ => cases e1
/-! ### range -/
theorem wk_range {w : Wd} {lo n : Nat} : Wk fa m w (rangeD lo n) (Itr (lo : Int) n) := by
  have hl : (rangeD lo n).length = n := by simp [rangeD]
  refine ⟨fun _ => True, _, by rw [hl]; exact walk_range, fun _ _ => trivial, fun w2 i x H' e hi y => ?_⟩
  obtain ⟨rfl, rfl⟩ := y
  refine ⟨.int ((lo : Int) + i), w2, ?_, rfl, Step.refl w2, fun _ h => h, .int _⟩
  rw [hl] at hi
  simp [rangeD, hi]
theorem si_range1 {e : Expr} {a : E} {p pos : Pos} (hg : Gl X "range") (hmg : X.mg "range" = none) (hs : ∀ env, starEach [e] env = [(false, eval e env)]) (h : PE X e (tE fa ca cl W .b a)) : PI X tg (.Call (.Name "range" p) [e] [] pos) (tI fa ca cl W m (.rng1 a)) := by
  refine (pi_range1 (p := p) (pos := pos) hg hmg (pa_cons h pa_nil (hs _)) (hs _)).weak fun σ H Q h => ?_
  obtain ⟨w, env, S, rfl, k, he, h⟩ := h
  unfold evE at h
  refine ⟨w, env, S, rfl, k, he, ?_⟩
  cases r : evE cl .b a env S with
  | no =>
    rw [r] at h
    exact h
  | ex c S1 =>
    rw [r] at h
    exact h
  | ok d S1 =>
    rw [r] at h
    intro w1 v s1 k1 rm
    cases d with
    | int n =>
      cases RB.int rm
      simp only [Res.bind] at h
      split at h
      · rename_i hn
        obtain ⟨items, e1, h⟩ := h
        cases e1
        exact ⟨n, rfl, by omega, by omega, h w1 _ s1 k1 wk_range⟩
      · exact h.elim
    | _ => exact h.elim
theorem si_range2 {e f : Expr} {a b : E} {p pos : Pos} (hg : Gl X "range") (hmg : X.mg "range" = none) (hs : ∀ env, starEach [e, f] env = [(false, eval e env), (false, eval f env)]) (hs2 : ∀ env, starEach [f] env = [(false, eval f env)]) (h1 : PE X e (tE fa ca cl W .b a)) (h2 : PE X f (tE fa ca cl W .b b)) :
    PI X tg (.Call (.Name "range" p) [e, f] [] pos) (tI fa ca cl W m (.rng2 a b)) := by
  refine (pi_range2 (p := p) (pos := pos) hg hmg (pa_cons h1 (pa_cons h2 pa_nil (hs2 _)) (by rw [hs, hs2])) (hs _) (hs2 _)).weak fun σ H Q h => ?_
  obtain ⟨w, env, S, rfl, k, he, h⟩ := h
  unfold evE at h
  refine ⟨w, env, S, rfl, k, he, ?_⟩
  cases r : evE cl .b a env S with
  | no =>
    rw [r] at h
    exact h
  | ex c S1 =>
    rw [r] at h
    exact h
  | ok d S1 =>
    rw [r] at h
    intro w1 v s1 k1 rm
    refine ⟨w1, env, S1, rfl, k1, he.mono s1 k, ?_⟩
    change PostI fa ca W σ m w ((evE cl .b b env S1).bind _) Q at h
    cases r2 : evE cl .b b env S1 with
    | no =>
      rw [r2] at h
      exact h
    | ex c S2 =>
      rw [r2] at h
      exact fun w' C s k e => h w' C (s1.trans s) k e
    | ok d2 S2 =>
      rw [r2] at h
      intro w2 v2 s2 k2 rm2
      cases d with
      | int lo =>
        cases d2 with
        | int hi =>
          cases RB.int rm
          cases RB.int rm2
          simp only [Res.bind] at h
          split at h
          · rename_i hn
            obtain ⟨items, e1, h⟩ := h
            cases e1
            have q := h w2 (Itr ((lo.toNat : Nat) : Int) (hi - lo).toNat) (s1.trans s2) k2 wk_range
            rw [Int.toNat_of_nonneg hn.1] at q
            exact ⟨lo, hi, rfl, by omega, q⟩
          · exact h.elim
        | _ => exact h.elim
      | _ => exact h.elim
end
end Mini
/-! enumerate of a tuple, of a text. -/
namespace PySem
open Sem (wp)
open AutoSeq1 (wpAny_loadPart')
set_option maxHeartbeats 1000000 in
theorem meets_enumerate_new1 {v : Value} {o : Obj} {H : Heap → Prop} (B : Begins v o H) :
    Meets (Builtin.«enumerate.__new__» ⟨[.type "enumerate", v], []⟩) (fun _ R s => H s.heap ∧
      R (.ok (.ret (.ref (s.heap.push o).objs.size))) { s with heap := (s.heap.push o).push { cls := .type "enumerate", data := .fields #[.none, .bool false, .ref s.heap.objs.size, rawInt 0, .none, .none] } }) :=
  .of_wp fun prog w A R s h => by
    obtain ⟨hp, g, d, tk, os⟩ := s; obtain ⟨h1, h⟩ := h
    have hsub := sub_enumerate
    have q1 : ∀ {A' : Around} {E : Value → Shared → Prop} {Q : Value → Shared → Prop}, Q (.ref hp.objs.size) ⟨hp.push o, g, d, tk, os⟩ → wpAny (model prog w) A' (pyIter v) Q E ⟨hp, g, d, tk, os⟩ :=
      fun q => B.iter prog w _ _ ⟨hp, g, d, tk, os⟩ _ h1 q
    wp_walk using q1
    refine wpAny_stack_any fun st => wpAny_pure ?_
    split
    · rename_i c _ _ _ _ _
      cases (c == Value.type "enumerate")
      · wp_walk using q1
        exact ⟨_, rfl, h⟩
      · wp_walk using q1
        exact ⟨_, rfl, h⟩
    · wp_walk using q1
      exact ⟨_, rfl, h⟩
theorem enum_begins1 {prog : Program} {w : World} {A : Around} {E : Value → Shared → Prop} {s : Shared} {v : Value} {o : Obj} {H : Heap → Prop} {Q : Value → Shared → Prop} (B : Begins v o H) (h1 : H s.heap)
    (h : ∀ h', IsEnum h' (s.heap.objs.size + 1) s.heap.objs.size 0 .none → h'.get? s.heap.objs.size = some o → h'.objs.size = s.heap.objs.size + 2 →
      (∀ b o, s.heap.get? b = some o → h'.get? b = some o) → Q (.ref (s.heap.objs.size + 1)) { s with heap := h' }) :
    wpAny (model prog w) A (call (.type "enumerate") [v]) Q E s := by
  refine callType_new F.called_enumerate (by decide) (F.typeCall_enumerate_1 _) (F.newCall_enumerate_1 _) (fun obj => F.args_object_init_2 obj _) F.entry_enumerate_new
    (meets_enumerate_new1 B) ⟨h1, ?_⟩
  have hz : (s.heap.push o).objs.size = s.heap.objs.size + 1 := Heap.size_push ..
  show _ ∧ _
  rw [hz]
  have he : IsEnum ((s.heap.push o).push { cls := .type "enumerate", data := .fields #[.none, .bool false, .ref s.heap.objs.size, rawInt 0, .none, .none] }) (s.heap.objs.size + 1) s.heap.objs.size 0 .none := by
    have := Heap.get?_push_size (s.heap.push o) (o := { cls := .type "enumerate", data := .fields #[.none, .bool false, .ref s.heap.objs.size, rawInt 0, .none, .none] }) rfl
    rw [hz] at this; exact this
  refine ⟨⟨_, he, rfl⟩, h _ he (Heap.get?_push_of_some _ (Heap.get?_push_size _ B.free)) (by rw [Heap.size_push, hz]) fun b o x => Heap.get?_push_of_some _ (Heap.get?_push_of_some _ x)⟩
end PySem
namespace L2
open PySem PySem.Spec PyProof.Rows
/-- what an inner iterator draws: xs, read off the heap by src; its own state st -/
structure Feed (P : Program) (w : World) (K : PySem.W.Frag) (src : Hp → List V → Prop) (it : Addr) (st : Nat → Heap → Prop) : Prop where
  obj : ∀ i h, st i h → ∃ o, h.get? it = some o ∧ ∀ v, o.data ≠ .cell v
  keep : ∀ i h h', st i h → (∀ o, h.get? it = some o → h'.get? it = some o) → st i h'
  inj : ∀ (X : Cx), X.prog = P → X.w = w → X.K = K → ∀ (pins : List (Addr × Obj)) (s : Shared) (σ : St) (H : Hp) (xs ys : List V), Inv X pins σ H s → src H xs → src H ys → xs = ys
  draws : ∀ (X : Cx), X.prog = P → X.w = w → X.K = K → X.calm = true → ∀ (pins : List (Addr × Obj)) (s : Shared) (σ : St) (H : Hp) (xs : List V) (e : Addr), Inv X pins σ H s → src H xs → H it = none → H e = none → e ≠ it → FpOk X pins H e →
    ∃ fp Pv S, Draws P w X.A.in1 it fp xs.length Pv S ∧ e ∉ fp ∧ (∀ i, st i s.heap → S i s.heap) ∧ (∀ i h, S i h → st i h) ∧ ∀ i v, Pv i v → ∃ x, xs[i]? = some x ∧ RelV x v
def ItE (src : Hp → List V → Prop) : It :=
  ⟨fun i H => ∃ (xs : List V) (x : V), src H xs ∧ xs[i]? = some x, fun i H v H' => ∃ T x, v = .ref T ∧ H T = none ∧ H' = upd H T (.tup [.int (i : Nat), x]) ∧ ∀ xs, src H xs → xs[i]? = some x, fun i H => ∃ xs : List V, src H xs ∧ i = xs.length⟩
theorem turn_enumG {P : Program} {w : World} {K : PySem.W.Frag} {src : Hp → List V → Prop} {st : Nat → Heap → Prop} {elts : List Expr} {kk : Nat} {tpos : Pos} (e it : Addr) (F : Feed P w K src it st) :
    Turn P w K (.Tuple elts kk tpos) (ItE src) [e, it] e (fun i h => (∃ old, IsEnum h e it ((i : Nat) : Int) old) ∧ st i h ∧ e ≠ it) where
  mem := by simp
  obj := fun i h tt b hb => by
    obtain ⟨⟨old, he⟩, hst, _⟩ := tt
    have e' : b = e ∨ b = it := by simpa using hb
    rcases e' with z | z
    · rw [z]; exact ⟨_, he, fun v q => nomatch q⟩
    · rw [z]; exact F.obj i h hst
  keep := fun i h h' tt k => let ⟨⟨old, he⟩, hi, hne⟩ := tt; ⟨⟨old, k e (by simp) _ he⟩, F.keep i h h' hi fun o q => k it (by simp) o q, hne⟩
  item := by
    intro X hP hw hK hc i pins s σ H E I hf tt hg
    subst hP hw hK
    obtain ⟨⟨old, he⟩, hit, hne⟩ := tt
    obtain ⟨xs, x, hq, hx⟩ := hg
    have fe := hf e (by simp)
    have fi := hf it (by simp)
    obtain ⟨fp, Pv, S, D, hef, s1, s2, hpv⟩ := F.draws X rfl rfl rfl hc pins s σ H xs e I hq fi.1 fe.1 hne fe
    have hel : e < s.heap.objs.size := Heap.lt_size he
    have hil : it < s.heap.objs.size := by obtain ⟨_, q, _⟩ := F.obj i _ hit; exact Heap.lt_size q
    refine wpAny_pyNext_enum_itemC D he (s1 i hit) (List.getElem?_eq_some_iff.mp hx).1 hne hef fun u h' tk hu ho hit' hT hsz hk => ?_
    obtain ⟨x', hx', ru⟩ := hpv i u hu
    rw [hx] at hx'
    cases hx'
    refine ⟨_, rfl, wpAny_letOwnedTupleGo_enum (s := { s with heap := h', toks := tk + 1 }) ho fun h'' he' sb => ?_⟩
    have hT2 : h''.get? s.heap.objs.size = some { cls := .type "tuple", data := .seq #[.int i tk, u] } := (sb.2 _ (Nat.ne_of_gt hel)).trans hT
    have new : ObjOk X.prog X.w (upd H s.heap.objs.size (.tup [.int (i : Nat), x])) h'' s.heap.objs.size (.tup [.int (i : Nat), x]) :=
      ⟨by show 2 ≤ sizeLine; decide, [.int i tk, u], .cons ⟨_, rfl⟩ (.cons ru .nil), ⟨_, hT2, rfl, _, rfl⟩⟩
    have I1 : Inv X pins σ (upd H s.heap.objs.size (.tup [.int (i : Nat), x])) { s with heap := h'', toks := tk + 1 } :=
      I.turnedNew (ch := [e, it]) (fun b ob hb q => (sb.2 b (fun z => hb (by simp [z]))).trans (hk b ob (fun z => hb (by simp [z])) (fun z => hb (by simp [z])) q)) hf (Nat.le_refl _) new
    refine ⟨.ref s.heap.objs.size, _, I1, rfl, ⟨_, x, rfl, I.hok.fresh (Nat.le_refl _), rfl, fun ys hy => by rw [F.inj X rfl rfl rfl pins s σ H ys xs I hy hq]; exact hx⟩, ⟨⟨u, ?_⟩, F.keep _ _ _ (s2 _ _ hit') fun o q => (sb.2 it (Ne.symm hne)).trans q, hne⟩, fun b hb => ?_⟩
    · have e1 : ((i + 1 : Nat) : Int) = (i : Int) + 1 := by omega
      rw [e1]; exact he'
    · have hb' : b < s.heap.objs.size := by
        have e' : b = e ∨ b = it := by simpa using hb
        rcases e' with z | z
        · rw [z]; exact hel
        · rw [z]; exact hil
      rw [upd_ne (Nat.ne_of_lt hb')]
      exact (hf b hb).1
  done := by
    intro X hP hw hK hc i pins s σ H E I hf tt hg
    subst hP hw hK
    obtain ⟨⟨old, he⟩, hit, hne⟩ := tt
    obtain ⟨xs, hq, rfl⟩ := hg
    have fe := hf e (by simp)
    have fi := hf it (by simp)
    obtain ⟨fp, Pv, S, D, hef, s1, s2, hpv⟩ := F.draws X rfl rfl rfl hc pins s σ H xs e I hq fi.1 fe.1 hne fe
    obtain ⟨f0, f1, f2, f3, f4, f5⟩ := fi
    exact wpAny_pyNext_enum_endD D he (s1 _ hit) fun h' eb => ⟨rfl, I.turned (t' := s.toks) (fun b o hb q => eb b o hb q) f0 f1 f3 f4 f5⟩
  self := fun A i s Q E tt h => let ⟨⟨_, he⟩, _⟩ := tt; wpAny_pyIter_enum he h
theorem isTup_isTuple {h : Heap} {a : Addr} {its : Array Value} (p : IsTup h a its) : h.IsTuple a its := p
theorem feed_tup {P : Program} {w : World} {K : PySem.W.Frag} (a it : Addr) : Feed P w K (fun H xs => H a = some (.tup xs)) it (fun i h => h.IsTupleIter it a i) where
  obj := fun i h st => by
    obtain ⟨o, ho, hc, hd⟩ := st
    exact ⟨o, ho, fun v q => by rw [hd] at q; cases q⟩
  keep := fun i h h' st k => st.at k
  inj := by
    intro X hP hw hK pins s σ H xs ys I hx hy
    rw [hx] at hy
    cases hy
    rfl
  draws := by
    intro X hP hw hK hc pins s σ H xs e I hq f1 f2 hne fe
    subst hP hw hK
    obtain ⟨its, rv, p, hz⟩ := I.tuple (.inl (.inl hq))
    have h1 : a ≠ it := fun z => by rw [z, f1] at hq; cases hq
    have h2 : a ≠ e := fun z => by rw [z, f2] at hq; cases hq
    have D := Draws.tuple (prog := X.prog) (w := X.w) (A := X.A.in1) (I.ok.hd hc) it a h1 its.toArray
    have hl : its.toArray.size = xs.length := by rw [rv.length]; rfl
    rw [hl] at D
    refine ⟨_, _, _, D, ?_, fun i st => ⟨st, isTup_isTuple p⟩, fun i h st => st.1, fun i v pv => ?_⟩
    · simp [hne, Ne.symm h2]
    · have pv : its[i]? = some v := by simpa using pv
      have hi : i < xs.length := by
        rw [rv.length]
        exact (List.getElem?_eq_some_iff.mp pv).1
      obtain ⟨v', e1, r1⟩ := Vals.get rv (List.getElem?_eq_getElem hi)
      rw [pv] at e1
      cases e1
      exact ⟨_, List.getElem?_eq_getElem hi, r1⟩
theorem feed_str {P : Program} {w : World} {K : PySem.W.Frag} (x : Str) (t : Tok) (it : Addr) : Feed P w K (fun _ xs => xs = x.cps.toList.map fun c => .str ⟨#[c]⟩) it (fun i h => h.IsStrIter it (strIterType x) x t i) where
  obj := fun i h st => by
    obtain ⟨o, ho, hc, hd⟩ := st
    exact ⟨o, ho, fun v q => by rw [hd] at q; cases q⟩
  keep := fun i h h' st k => by
    obtain ⟨o, ho, r⟩ := st
    exact ⟨o, k o ho, r⟩
  inj := by
    intro X hP hw hK pins s σ H xs ys I hx hy
    rw [hx, hy]
  draws := by
    intro X hP hw hK hc pins s σ H xs e I hq f1 f2 hne fe
    subst hP hw hK hq
    have D := Draws.text (prog := X.prog) (w := X.w) (A := X.A.in1) (I.ok.hd hc) it x t
    refine ⟨[it], (fun i v => ∃ c u, x.cps[i]? = some c ∧ v = .str ⟨#[c]⟩ u), fun i h => h.IsStrIter it (strIterType x) x t i, by simpa using D, ?_, fun i st => st, fun i h st => st, fun i v pv => ?_⟩
    · simp [hne]
    · obtain ⟨c, u, e1, rfl⟩ := pv
      refine ⟨.str ⟨#[c]⟩, ?_, ⟨_, rfl⟩⟩
      rw [List.getElem?_map, Array.getElem?_toList, e1]
      rfl
def srcT (a : Addr) : Hp → List V → Prop := fun H xs => H a = some (.tup xs)
def srcS (x : Str) : Hp → List V → Prop := fun _ xs => xs = x.cps.toList.map fun c => .str ⟨#[c]⟩
def iEnumG (K : PySem.W.Frag) (ta : TA) : TI := fun σ H R => ta σ H fun vs H1 => ∃ u, vs = [u] ∧ ((∃ a xs, u = .ref a ∧ SqL K H1 a xs ∧ R (Ite K a) H1) ∨ (∃ a xs, u = .ref a ∧ H1 a = some (.tup xs) ∧ R (ItE (srcT a)) H1) ∨ ∃ x, u = .str x ∧ R (ItE (srcS x)) H1)
theorem pi_enumG {X : Cx} {e : Expr} {ta : TA} {p pos tpos : Pos} {elts : List Expr} {kk : Nat} (hg : Gl X "enumerate") (hm : X.mg "enumerate" = none) (ha : PA X [e] ta) (hs : starEach [e] X.env = [(false, eval e X.env)]) :
    PI X (.Tuple elts kk tpos) (.Call (.Name "enumerate" p) [e] [] pos) (iEnumG X.K ta) := by
  refine ⟨fun pins s σ H R I h => ?_⟩
  refine Call_ (ld_blt I hg hm boot_enumerate (PyProof.Rows.callWith_type1 (thn (ha.run pos pins s σ H _ I h) fun us s1 ⟨vs, H1, I1, r1, q1⟩ => ?_) hs rfl))
  obtain ⟨u, rfl, q1⟩ := q1
  obtain ⟨u', rfl, ru⟩ := vals1 r1
  have fresh2 : ∀ b, b ∈ [s1.heap.objs.size + 1, s1.heap.objs.size] → FpOk X pins H1 b := fun b hb => by
    have e' : b = s1.heap.objs.size + 1 ∨ b = s1.heap.objs.size := by simpa using hb
    have hle : s1.heap.objs.size ≤ b := by
      rcases e' with z | z
      · rw [z]; exact Nat.le_add_right _ _
      · rw [z]; exact Nat.le_refl _
    exact I1.fpOk hle (I1.hok.fresh hle)
  rcases q1 with ⟨a, xs, rfl, hq, q⟩ | ⟨a, xs, rfl, hq, q⟩ | ⟨x, rfl, q⟩
  · obtain rfl : u' = Value.ref a := ru
    obtain ⟨its, rv, p', hz⟩ := I1.list hq
    refine call_enumerate_list p'.isList fun h' he hit hsz hk => wpAny_pyIter_enum he ?_
    have I2 : Inv X pins σ H1 { s1 with heap := h' } := I1.kept (t' := s1.toks) hk
    exact ⟨s1.heap.objs.size + 1, [s1.heap.objs.size + 1, s1.heap.objs.size], _, _, H1, rfl, I2, turn_enum a (s1.heap.objs.size + 1) s1.heap.objs.size, ⟨⟨.none, he⟩, hit, Nat.succ_ne_self _⟩, fresh2, q⟩
  · obtain rfl : u' = Value.ref a := ru
    obtain ⟨its, rv, p', hz⟩ := I1.tuple (.inl (.inl hq))
    refine enum_begins1 (begins_tuple a its.toArray) (isTup_isTuple p') fun h' he hit hsz hk => wpAny_pyIter_enum he ?_
    have I2 : Inv X pins σ H1 { s1 with heap := h' } := I1.kept (t' := s1.toks) hk
    exact ⟨s1.heap.objs.size + 1, [s1.heap.objs.size + 1, s1.heap.objs.size], _, _, H1, rfl, I2, turn_enumG (s1.heap.objs.size + 1) s1.heap.objs.size (feed_tup a _), ⟨⟨.none, he⟩, ⟨_, hit, rfl, rfl⟩, Nat.succ_ne_self _⟩, fresh2, q⟩
  · obtain ⟨t, rfl⟩ := ru
    refine enum_begins1 (begins_text x t) trivial fun h' he hit hsz hk => wpAny_pyIter_enum he ?_
    have I2 : Inv X pins σ H1 { s1 with heap := h' } := I1.kept (t' := s1.toks) hk
    exact ⟨s1.heap.objs.size + 1, [s1.heap.objs.size + 1, s1.heap.objs.size], _, _, H1, rfl, I2, turn_enumG (s1.heap.objs.size + 1) s1.heap.objs.size (feed_str x t _), ⟨⟨.none, he⟩, ⟨_, hit, rfl, rfl⟩, Nat.succ_ne_self _⟩, fresh2, q⟩
theorem walk_enumG {src : Hp → List V → Prop} {xs : List V} (G : Hp → Prop) (hg : ∀ H, G H → src H xs) : Walk (ItE src) xs.length G (YPair (fun i => some (.int (i : Nat))) (fun i => xs[i]?)) where
  goes := fun i H hi g => ⟨xs, xs[i], hg H g, List.getElem?_eq_getElem hi⟩
  stops := fun H g => ⟨xs, hg H g, rfl⟩
  yields := fun i H x H' hi g y => by
    obtain ⟨T, u, e1, e2, e3, e4⟩ := y
    exact ⟨T, _, u, e1, e2, e3, rfl, e4 xs (hg H g)⟩
end L2
/-! The evaluator is sound: enumerate, zip. -/
namespace Mini
open PySem L2
variable {fa : FA} {ca : CA} {cl : Calls}
theorem RB.tupH {m : Md} {w : Wd} {S : Sto} {xs : List D} {v : V} (hm : m ≠ .f) (k : Ok fa w S) (h : RM fa m w w (.tuple xs) v) : ∃ a vs, v = .ref a ∧ w.H a = some (.tup vs) ∧ Rs fa w xs vs ∧ ∀ w2, Rch m w w2 → w2.H a = some (.tup vs) := by
  have h : RB fa w (.tuple xs) v := by
    cases m with
    | b => exact h
    | v => exact .r h
    | f => exact absurd rfl hm
  cases h with
  | r h =>
    cases h with
    | tup q2 r => exact ⟨_, _, rfl, q2, r, fun w2 e => (Rch.ext (fa := fa) e k).t _ _ q2⟩
/-- new pairs -/
theorem wk_pair {m : Md} {w : Wd} {items : List D} {J : It} {G : Hp → Prop} {f g : Nat → Option V} (hw : Walk J items.length G (YPair f g)) (hg : ∀ w2, Rch m w w2 → G w2.H)
    (hi : ∀ w2 i x y, Rch m w w2 → i < items.length → f i = some x → g i = some y → ∃ d e, items[i]? = some (.tuple [d, e]) ∧ R fa w2 d x ∧ R fa w2 e y) : Wk fa m w items J := by
  refine ⟨G, _, hw, hg, fun w2 i x H' e hi' y => ?_⟩
  obtain ⟨T, u, v, rfl, hT, rfl, e1, e2⟩ := y
  obtain ⟨d, d', q1, r1, r2⟩ := hi w2 i u v e hi' e1 e2
  refine ⟨_, { w2 with H := upd w2.H T (.tup [u, v]) }, q1, rfl, Step.alloc hT, fun S k => k.alloc hT, ?_⟩
  have ex : ∃ S, Ok fa w2 S ∨ True := ⟨[], .inr trivial⟩
  have ext : Ext w2 { w2 with H := upd w2.H T (.tup [u, v]) } := by
    refine ⟨fun _ _ h => h, fun _ h => h, fun x o z h => ?_, fun x vs h => ?_⟩
    · show upd w2.H T _ x = _
      rw [upd_ne (ne_of_none h hT)]
      exact h
    · show upd w2.H T _ x = _
      rw [upd_ne (ne_of_none h hT)]
      exact h
  exact .tup upd_same (.cons (r1.mono ext) (.cons (r2.mono ext) .nil))
theorem enumD_len (xs : List D) : (enumD xs).length = xs.length := by simp [enumD]
theorem enumD_at {xs : List D} {i : Nat} {d : D} (h : xs[i]? = some d) : (enumD xs)[i]? = some (.tuple [.int i, d]) := by
  unfold enumD
  rw [List.getElem?_map, List.getElem?_zipIdx, h]
  simp
theorem wk_enum {m : Md} {w : Wd} {S : Sto} {xs : List D} {vs : List V} {J : It} {G : Hp → Prop} (k : Ok fa w S) (r : Rs fa w xs vs) (hw : Walk J vs.length G (YPair (fun i => some (.int (i : Nat))) (fun i => vs[i]?))) (hg : ∀ w2, Rch m w w2 → G w2.H) : Wk fa m w (enumD xs) J := by
  refine wk_pair (by rw [enumD_len, r.length]; exact hw) hg fun w2 i x y e hi e1 e2 => ?_
  cases e1
  obtain ⟨d, q1, q2⟩ := r.get' e2
  exact ⟨_, d, enumD_at q1, .int _, q2.mono (e.ext k)⟩
section
variable {X : Cx} {W : WX} {m : Md}
theorem si_enum {e : Expr} {a : E} {p pos tpos : Pos} {elts : List Expr} {kk : Nat} (hm : m ≠ .f) (hg : Gl X "enumerate") (hmg : X.mg "enumerate" = none) (hs : ∀ env, starEach [e] env = [(false, eval e env)]) (h : PE X e (tE fa ca cl W m a)) :
    PI X (.Tuple elts kk tpos) (.Call (.Name "enumerate" p) [e] [] pos) (tI fa ca cl W m (.enm a)) := by
  refine (pi_enumG (p := p) (pos := pos) hg hmg (pa_cons h pa_nil (hs _)) (hs _)).weak fun σ H Q h => ?_
  obtain ⟨w, env, S, rfl, k, he, h⟩ := h
  unfold evE at h
  refine ⟨w, env, S, rfl, k, he, ?_⟩
  cases r : evE cl m a env S with
  | no =>
    rw [r] at h
    exact h
  | ex c S1 =>
    rw [r] at h
    exact h
  | ok d S1 =>
    rw [r] at h
    intro w1 v s1 k1 rm
    change PostI fa ca W σ m w (match itemsOf d with
      | some xs => .ok (.list (enumD xs)) S1
      | none => .no) Q at h
    cases d with
    | list xs =>
      obtain ⟨items, e1, h⟩ := h
      cases e1
      obtain ⟨a, vs, rfl, q1, rs, st⟩ := RB.lstR (w2 := w1) (K := X.K) hm k1 (RM.start hm rm)
      exact ⟨_, rfl, .inl ⟨a, vs, rfl, q1, h w1 _ s1 k1 (wk_enum k1 rs walk_enum st)⟩⟩
    | tuple xs =>
      obtain ⟨items, e1, h⟩ := h
      cases e1
      obtain ⟨a, vs, rfl, q1, rs, st⟩ := RB.tupH hm k1 (RM.start hm rm)
      exact ⟨_, rfl, .inr (.inl ⟨a, vs, rfl, q1, h w1 _ s1 k1 (wk_enum k1 rs (walk_enumG (fun H => H a = some (.tup vs)) fun H g => g) st)⟩)⟩
    | str z =>
      obtain ⟨items, e1, h⟩ := h
      cases e1
      have rb : RB fa w1 (.str z) v := by
        cases m with
        | b => exact rm
        | v => exact .r rm
        | f => exact absurd rfl hm
      cases rb.str
      refine ⟨_, rfl, .inr (.inr ⟨z, rfl, h w1 _ s1 k1 (wk_enum (vs := z.cps.toList.map fun c => .str ⟨#[c]⟩) k1 ?_ (walk_enumG (fun _ => True) fun H g => rfl) fun _ _ => trivial)⟩)⟩
      generalize z.cps.toList = cs
      induction cs with
      | nil => exact .nil
      | cons c cs ih => exact .cons (.str _) ih
    | dict es => exact h.elim
    | none => exact h.elim
    | bool _ => exact h.elim
    | int _ => exact h.elim
theorem walk_zipT {K : PySem.W.Frag} {a b : Addr} {xs ys : List V} {n : Nat} (hn : n = min xs.length ys.length) : Walk (RZ.ItzT K a b) n (fun H => SqT K H a xs ∧ SqT K H b ys) (YPair (fun i => xs[i]?) (fun i => ys[i]?)) where
  goes := fun i H hi g => ⟨xs, ys, xs[i]'(by omega), ys[i]'(by omega), g.1, g.2, List.getElem?_eq_getElem _, List.getElem?_eq_getElem _⟩
  stops := fun H g => ⟨xs, ys, g.1, g.2, by omega⟩
  yields := fun i H x H' hi g y => by
    obtain ⟨T, u, v, e1, e2, e3, e4, e5⟩ := y
    exact ⟨T, u, v, e1, e2, e3, e4 xs g.1, e5 ys g.2⟩
theorem zipD_len (xs ys : List D) : (zipD xs ys).length = min xs.length ys.length := by simp [zipD]
theorem zipD_at {xs ys : List D} {i : Nat} {d e : D} (h : xs[i]? = some d) (h' : ys[i]? = some e) : (zipD xs ys)[i]? = some (.tuple [d, e]) := by
  unfold zipD
  rw [List.getElem?_map, List.zip, List.getElem?_zipWith, h, h']
  simp
theorem wk_zip {m : Md} {w : Wd} {S : Sto} {xs ys : List D} {vs us : List V} {J : It} {G : Hp → Prop} (k : Ok fa w S) (r : Rs fa w xs vs) (r' : Rs fa w ys us) (hw : Walk J (min vs.length us.length) G (YPair (fun i => vs[i]?) (fun i => us[i]?))) (hg : ∀ w2, Rch m w w2 → G w2.H) : Wk fa m w (zipD xs ys) J := by
  refine wk_pair (by rw [zipD_len, r.length, r'.length]; exact hw) hg fun w2 i x y e hi e1 e2 => ?_
  obtain ⟨d, q1, q2⟩ := r.get' e1
  obtain ⟨d', q1', q2'⟩ := r'.get' e2
  exact ⟨d, d', zipD_at q1 q1', q2.mono (e.ext k), q2'.mono (e.ext k)⟩
theorem RM.go {m : Md} {w w1 w2 : Wd} {S : Sto} {d : D} {v : V} (hm : m ≠ .f) (s : Step w1 w2) (k : Ok fa w1 S) (h : RM fa m w w1 d v) : RM fa m w2 w2 d v := by
  cases m with
  | b => exact RB.mono s k h
  | v => exact R.mono (s.ext k) h
  | f => exact absurd rfl hm
theorem RM.r2 {m : Md} {w w1 : Wd} {d : D} {v : V} (hm : m ≠ .f) (h : RM fa m w w1 d v) : RB fa w1 d v := by
  cases m with
  | b => exact h
  | v => exact .r h
  | f => exact absurd rfl hm
theorem si_zip {e f : Expr} {a b : E} {p pos tpos : Pos} {elts : List Expr} {kk : Nat} (hm : m ≠ .f) (hg : Gl X "zip") (hmg : X.mg "zip" = none) (hs : ∀ env, starEach [e, f] env = (false, eval e env) :: starEach [f] env) (hs2 : ∀ env, starEach [f] env = [(false, eval f env)]) (hpl : (backTo pos (starEach [f] X.env)).any (·.1) = false)
    (h1 : PE X e (tE fa ca cl W m a)) (h2 : PE X f (tE fa ca cl W m b)) : PI X (.Tuple elts kk tpos) (.Call (.Name "zip" p) [e, f] [] pos) (tI fa ca cl W m (.zip a b)) := by
  refine (RZ.pi_zipA (p := p) (pos := pos) hg hmg (pa_cons h1 (pa_cons h2 pa_nil (hs2 _)) (hs _)) (hs _) hpl).weak fun σ H Q h => ?_
  obtain ⟨w, env, S, rfl, k, he, h⟩ := h
  unfold evE at h
  refine ⟨w, env, S, rfl, k, he, ?_⟩
  cases r : evE cl m a env S with
  | no =>
    rw [r] at h
    exact h
  | ex c S1 =>
    rw [r] at h
    exact h
  | ok d S1 =>
    rw [r] at h
    intro w1 v s1 k1 rm
    refine ⟨w1, env, S1, rfl, k1, he.mono s1 k, ?_⟩
    change PostI fa ca W σ m w ((evE cl m b env S1).bind fun y S2 => zres d y S2) Q at h
    cases r2 : evE cl m b env S1 with
    | no =>
      rw [r2] at h
      exact h
    | ex c S2 =>
      rw [r2] at h
      exact fun w' C s k e => h w' C (s1.trans s) k e
    | ok d2 S2 =>
      rw [r2] at h
      intro w2 v2 s2 k2 rm2
      have rm' := RM.go hm s2 k1 rm
      have rm2' := RM.start hm rm2
      change PostI fa ca W σ m w (zres d d2 S2) Q at h
      unfold zres at h
      split at h
      · obtain ⟨items, e1, h⟩ := h
        cases e1
        obtain ⟨a, vs, rfl, q1, rs, st⟩ := RB.lstR (w2 := w1) (K := X.K) hm k2 rm'
        obtain ⟨a', vs', rfl, q1', rs', st'⟩ := RB.lstR (w2 := w1) (K := X.K) hm k2 rm2'
        exact ⟨a, a', vs, vs', rfl, .inl ⟨q1, q1', h w2 _ (s1.trans s2) k2 (wk_zip k2 rs rs' (walk_zip rfl) fun w3 e => ⟨st w3 e, st' w3 e⟩)⟩⟩
      · obtain ⟨items, e1, h⟩ := h
        cases e1
        obtain ⟨a, vs, rfl, q1, rs, st⟩ := RB.tupR (K := X.K) hm k2 rm'
        obtain ⟨a', vs', rfl, q1', rs', st'⟩ := RB.tupR (K := X.K) hm k2 rm2'
        exact ⟨a, a', vs, vs', rfl, .inr ⟨q1, q1', h w2 _ (s1.trans s2) k2 (wk_zip k2 rs rs' (walk_zipT rfl) fun w3 e => ⟨st w3 e, st' w3 e⟩)⟩⟩
      · exact h.elim
end
end Mini
/-! The evaluator is sound: targets, comprehensions. -/
namespace Mini
open PySem L2
variable {fa : FA} {ca : CA} {cl : Calls}
/-! ### a list that is built -/
/-- a list or a dict -/
def LD : Option HO → Prop
  | some (.lst _) => True
  | some (.dK _) => True
  | some (.dT _) => True
  | _ => False
theorem LD.lst {o : Option HO} {vs : List V} (h : o = some (.lst vs)) : LD o := by
  rw [h]
  trivial
theorem LD.tup {o : Option HO} (h : LD o) : ∀ vs, o ≠ some (.tup vs) := fun vs e => by
  rw [e] at h
  exact h
theorem LD.nn {H : Hp} {p : Addr} (h : LD (H p)) : ¬ Nn H p := fun z => by
  rcases z with z | ⟨ps, z⟩ <;> rw [z] at h <;> exact h
theorem DR.ld {w : Wd} {t : Bool} {es : List (D × D)} {p : Addr} (h : DR fa w t es p) : LD (w.H p) := by
  rcases h with ⟨_, kvs, h, _⟩ | ⟨_, kvs, h, _⟩ <;> rw [h] <;> trivial
theorem Step.own {w1 w : Wd} {p : Addr} {o : HO} (s : Step w1 w) (hp : Nn w1.H p) : Step w1 { w with H := upd w.H p o } where
  a := s.a
  z := s.z
  keep := fun x u h hf ho => by
    have hx : x ≠ p := fun e => hp.no (e ▸ h) ho
    show upd w.H p o x = _
    rw [upd_ne hx]
    exact s.keep x u h hf ho
  zn := s.zn
  fn := s.fn
  live := fun x h => by
    by_cases e : x = p
    · rw [e]
      exact hp
    · refine s.live x ?_
      unfold Nn at h ⊢
      have h : upd w.H p o x = none ∨ ∃ ps, upd w.H p o x = some (.tbl ps) := h
      rw [upd_ne e] at h
      exact h
theorem Ext.own {w : Wd} {p : Addr} {o : HO} (hz : ¬ w.Z p) (ht : ∀ vs, w.H p ≠ some (.tup vs)) : Ext w { w with H := upd w.H p o } where
  a := fun _ _ h => h
  z := fun _ h => h
  h := fun x u z h => by
    have : x ≠ p := fun e => hz (e ▸ z)
    show upd w.H p o x = _
    rw [upd_ne this]
    exact h
  t := fun x vs h => by
    have : x ≠ p := fun e => ht vs (e ▸ h)
    show upd w.H p o x = _
    rw [upd_ne this]
    exact h
theorem Ok.own {w : Wd} {S : Sto} {p : Addr} {o : HO} (k : Ok fa w S) (hz : ¬ w.Z p) (hf : p ∉ w.F) (hl : LD (w.H p)) : Ok fa { w with H := upd w.H p o } S where
  zf := k.zf
  ft := fun a ha vs => by
    have : a ≠ p := fun z => hf (z ▸ ha)
    show upd w.H p o a ≠ _
    rw [upd_ne this]
    exact k.ft a ha vs
  fs := fun a ha => nn_upd (k.fs a ha) fun z => hf (z ▸ ha)
  zs := fun a ha => nn_upd (k.zs a ha) fun z => hz (z ▸ ha)
  tab := tabs_but k.tab fun b u e hu => by
    have : b ≠ p := fun z => by
      rw [← z, e] at hl
      rcases hu with ⟨ps, hu⟩ | ⟨φ, hu⟩ <;> rw [hu] at hl <;> exact hl
    show upd w.H p o b = _
    rw [upd_ne this]
    exact e
  sto := StoR.keep (w := w) (Ext.own hz hl.tup) rfl (fun x hx => ⟨upd_ne fun z => hf (z ▸ hx), hx⟩) k.sto
theorem Step.frzNew {w1 w : Wd} {p : Addr} (s : Step w1 w) (hp : Nn w1.H p) : Step w1 { w with Z := fun a => w.Z a ∨ a = p } where
  a := s.a
  z := fun x h => .inl (s.z x h)
  keep := s.keep
  zn := fun x h => by
    rcases h with h | h
    · exact s.zn x h
    · rw [h]
      exact .inr hp
  fn := s.fn
  live := s.live
theorem PostE.lstAt {W : WX} {σ : St} {m : Md} {w w1 : Wd} {S : Sto} {Q : VK} {ds : List D} {vs : List V} {p : Addr} (h : PostE fa ca W σ m w (.ok (.list ds) S) Q) (s : Step w w1) (k : Ok fa w1 S) (hp : Nn w.H p) (h1 : w1.H p = some (.lst vs)) (r : Rs fa w1 ds vs) (hz : ¬ w1.Z p) (hf : p ∉ w1.F) : Q (.ref p) w1.H := by
  cases m with
  | b => exact h w1 _ s k (.l h1 r hf)
  | f => exact h w1 _ s k ⟨p, vs, rfl, h1, r, hz, hf, hp⟩
  | v => exact h { w1 with Z := fun a => w1.Z a ∨ a = p } _ (s.frzNew hp) (k.frz (p := p) (nn_lst h1) hf) (.lst (.inr rfl) h1 (r.mono Ext.frz))
/-! ### targets -/
def gsT : List Nat → TGs
  | [] => gNil
  | i :: r => gCons (gName i) (gsT r)
def gT (K : PySem.W.Frag) : Tg → TG
  | .nm i => gName i
  | .tp is => gTup K is.length (gsT is)
def tgI : Tg → List Nat
  | .nm i => [i]
  | .tp is => is
theorem ER.setV {w : Wd} {env : Env} {σ : St} {i : Nat} {d : D} {v : V} (h : ER fa w env σ) (r : R fa w d v) : ER fa w (env.set i (.val d)) (σ.set i (some v)) where
  len := by rw [List.length_set, List.length_set, h.len]
  at_ := fun j s ov h1 h2 => by
    by_cases e : i = j
    · subst e
      have hi : i < env.length := by
        have := (List.getElem?_eq_some_iff.mp h1).1
        rwa [List.length_set] at this
      have hi' : i < σ.length := by rw [← h.len]; exact hi
      rw [List.getElem?_set_self hi] at h1
      rw [List.getElem?_set_self hi'] at h2
      cases h1
      cases h2
      exact ⟨v, rfl, r⟩
    · rw [List.getElem?_set_ne e] at h1 h2
      exact h.at_ j s ov h1 h2
  sep := fun j k p s s' h1 o1 h2 h3 o2 h4 => by
    have hne : ∀ {j : Nat} {s : Sl}, (env.set i (.val d))[j]? = some s → isOwn s = true → i ≠ j := fun {j s} h1 o1 e => by
      subst e
      have hi : i < env.length := by
        have := (List.getElem?_eq_some_iff.mp h1).1
        rwa [List.length_set] at this
      rw [List.getElem?_set_self hi] at h1
      cases h1
      cases o1
    have e1 := hne h1 o1
    have e2 := hne h3 o2
    rw [List.getElem?_set_ne e1] at h1 h2
    rw [List.getElem?_set_ne e2] at h3 h4
    exact h.sep j k p s s' h1 o1 h2 h3 o2 h4
theorem ER.setNo {w : Wd} {env : Env} {σ : St} {i : Nat} {ov : Option V} (h : ER fa w env σ) : ER fa w (env.set i .no) (σ.set i ov) where
  len := by rw [List.length_set, List.length_set, h.len]
  at_ := fun j s ov h1 h2 => by
    by_cases e : i = j
    · subst e
      have hi : i < env.length := by
        have := (List.getElem?_eq_some_iff.mp h1).1
        rwa [List.length_set] at this
      rw [List.getElem?_set_self hi] at h1
      cases h1
      trivial
    · rw [List.getElem?_set_ne e] at h1 h2
      exact h.at_ j s ov h1 h2
  sep := fun j k p s s' h1 o1 h2 h3 o2 h4 => by
    have hne : ∀ {j : Nat} {s : Sl}, (env.set i .no)[j]? = some s → isOwn s = true → i ≠ j := fun {j s} h1 o1 e => by
      subst e
      have hi : i < env.length := by
        have := (List.getElem?_eq_some_iff.mp h1).1
        rwa [List.length_set] at this
      rw [List.getElem?_set_self hi] at h1
      cases h1
      cases o1
    have e1 := hne h1 o1
    have e2 := hne h3 o2
    rw [List.getElem?_set_ne e1] at h1 h2
    rw [List.getElem?_set_ne e2] at h3 h4
    exact h.sep j k p s s' h1 o1 h2 h3 o2 h4
theorem ER.wipe {w : Wd} {env : Env} {σ : St} (h : ER fa w env σ) : ∀ vs : List Nat, ER fa w (wipeS env vs) (wipe σ vs)
  | [] => h
  | _ :: vs => (ER.wipe h vs).setNo
theorem wipe_get {σ : St} {j : Nat} : ∀ {vs : List Nat}, j ∈ vs → (wipe σ vs)[j]? = if j < σ.length then some none else none
  | [], h => by cases h
  | v :: vs, h => by
    unfold L2.wipe
    by_cases e : v = j
    · subst e
      rw [List.getElem?_set, if_pos rfl, wipe_length]
    · rw [List.getElem?_set_ne e]
      rcases List.mem_cons.mp h with z | z
      · exact absurd z.symm e
      · exact wipe_get z
theorem wipe_set {σ : St} {i : Nat} {x : Option V} {vs : List Nat} (h : i ∈ vs) : wipe (σ.set i x) vs = wipe σ vs := by
  refine List.ext_getElem? fun j => ?_
  by_cases hj : j ∈ vs
  · rw [wipe_get hj, wipe_get hj, List.length_set]
  · rw [wipe_out hj, wipe_out hj, List.getElem?_set_ne]
    exact fun e => hj (e ▸ h)
theorem wipe_idem {σ : St} {vs : List Nat} : wipe (wipe σ vs) vs = wipe σ vs := by
  refine List.ext_getElem? fun j => ?_
  by_cases hj : j ∈ vs
  · rw [wipe_get hj, wipe_get hj, wipe_length]
  · rw [wipe_out hj]
theorem gs_ok {w : Wd} {Q : St → Hp → Prop} : ∀ {is : List Nat} {ds : List D} {vs : List V} {env : Env} {σ : St}, ds.length = is.length → Rs fa w ds vs → ER fa w env σ →
    (∀ σ2, ER fa w ((is.zip ds).foldl (fun e p => e.set p.1 (.val p.2)) env) σ2 → (∀ own : List Nat, (∀ i ∈ is, i ∈ own) → wipe σ2 own = wipe σ own) → Q σ2 w.H) → gsT is vs σ w.H Q
  | [], [], _, env, σ, _, .nil, h, q => ⟨rfl, q σ h fun _ _ => rfl⟩
  | i :: is, d :: _, _, env, σ, hl, .cons r rs, h, q => by
    refine ⟨_, _, rfl, gs_ok (env := env.set i (.val d)) (by simpa using hl) rs (h.setV r) fun σ2 e2 hw => q σ2 e2 fun own ho => ?_⟩
    rw [hw own fun j hj => ho j (List.mem_cons_of_mem _ hj), wipe_set (ho i List.mem_cons_self)]
theorem gT_ok {K : PySem.W.Frag} {w : Wd} {t : Tg} {d : D} {v : V} {env env2 : Env} {σ : St} {Q : St → Hp → Prop} (e : setT t d env = some env2) (h : ER fa w env σ) (r : R fa w d v)
    (q : ∀ σ2, ER fa w env2 σ2 → (∀ own : List Nat, (∀ i ∈ tgI t, i ∈ own) → wipe σ2 own = wipe σ own) → Q σ2 w.H) : gT K t v σ w.H Q := by
  cases t with
  | nm i =>
    cases e
    exact q _ (h.setV r) fun own ho => wipe_set (ho i List.mem_cons_self)
  | tp is =>
    cases r with
    | tup ht rs =>
      simp only [setT] at e
      split at e
      · rename_i hl
        cases e
        exact ⟨_, _, rfl, .inl (.inl ht), by rw [← rs.length]; exact hl, gs_ok hl rs h q⟩
      · cases e
    | _ => cases e
/-! ### comprehensions -/
def W0 : WX := fun _ _ _ _ => False
section
variable {X : Cx} {W : WX} {m : Md}
theorem lc_bind {K : PySem.W.Frag} {e it c : E} {t : Tg} {own : List Nat} (htg : ∀ i ∈ tgI t, i ∈ own) {σ : St} {H : Hp} {Q : VK} (h : tE fa ca cl W m (.comp e t own it c) σ H Q) :
    tLc (tI fa ca cl W .b it) (gT K t) (tT fa ca cl W0 c) (tE fa ca cl W0 .v e) own σ H Q := by
  obtain ⟨w, env, S, rfl, k, he, h⟩ := h
  unfold evE at h
  refine ⟨w, env, S, rfl, k, he, ?_⟩
  cases r : evE cl .b it env S with
  | no =>
    rw [r] at h
    exact h
  | ex c S1 =>
    rw [r] at h
    exact h
  | ok d S1 =>
    rw [r] at h
    simp only [Res.bind] at h
    cases ei : itemsOf d with
    | none =>
      rw [ei] at h
      exact h.elim
    | some items =>
      simp only [ei] at h
      split at h
      · rename_i hlim
        generalize hf : (fun x S => turnC (setT t x (wipeS env own)) (evE cl .b c) (evE cl .v e) S) = f at h
        cases el : loopC f items S1 with
        | no =>
          simp only [el] at h
          exact h.elim
        | ex c S2 =>
          simp only [el] at h
          exact h.elim
        | ok ys S2 =>
          simp only [el] at h
          refine ⟨items, ei, fun w1 J s1 k1 wk D hD => ?_⟩
          obtain ⟨G, Y, hw, hG, hY⟩ := wk.ex
          have hD0 : Nn w.H D := s1.live D (.inl hD)
          refine lc_it hw (fun i H => ∃ w2 Si acc vs rest, w2.H = H ∧ Step w1 w2 ∧ Ok fa w2 Si ∧ ¬ w2.Z D ∧ D ∉ w2.F ∧ w2.H D = some (.lst vs) ∧ Rs fa w2 acc vs ∧ loopC f (items.drop i) Si = .ok rest S2 ∧ ys = acc ++ rest ∧ acc.length ≤ i) ?_ ?_ ?_ ?_
          · have f := k1.fresh hD
            exact ⟨{ w1 with H := upd w1.H D (.lst []) }, S1, [], [], ys, rfl, Step.alloc hD, k1.alloc hD, f.2, f.1, upd_same, .nil, el, rfl, Nat.zero_le _⟩
          · rintro i H _ ⟨w2, Si, acc, vs, rest, rfl, s2, _⟩
            exact hG w2 s2
          · rintro i x H H' hi ⟨w2, Si, acc, vs, rest, rfl, s2, k2, z2, f2, h2, r2, l2, rfl, hl⟩ y
            obtain ⟨d', w3, e1, rfl, s3, k3, r3⟩ := hY w2 i x H' s2 hi y
            have ed : items.drop i = d' :: items.drop (i + 1) := by
              obtain ⟨hi', e1⟩ := List.getElem?_eq_some_iff.mp e1
              rw [← e1]
              exact List.drop_eq_getElem_cons hi'
            rw [ed] at l2
            have er : ER fa w3 (wipeS env own) (wipe σ own) := (((he.mono s1 k).mono s2 k1).mono s3 k2).wipe own
            have k3 := k3 Si k2
            simp only [loopC] at l2
            have h3 : w3.H D = some (.lst vs) := s3.keep D _ h2 f2 fun ps e => by cases e
            have f3 : D ∉ w3.F := s3.nf h2 f2 fun ps e => by cases e
            have z3 : ¬ w3.Z D := fun z => by
              rcases s3.zn D z with z | z
              · exact z2 z
              · exact z.lst h2
            cases et : f d' Si with
            | no =>
              rw [et] at l2
              cases l2
            | ex c S3 =>
              rw [et] at l2
              cases l2
            | ok o S3 =>
              simp only [et] at l2
              cases el2 : loopC f (items.drop (i + 1)) S3 with
              | no =>
                simp only [el2] at l2
                cases l2
              | ex c S4 =>
                simp only [el2] at l2
                cases l2
              | ok rest2 S4 =>
                simp only [el2] at l2
                cases l2
                rw [← hf] at et
                unfold turnC at et
                cases es : setT t d' (wipeS env own) with
                | none =>
                  simp only [es] at et
                  cases et
                | some env2 =>
                  simp only [es] at et
                  refine gT_ok es er r3 fun σ2 er2 hwp => ⟨(hwp own htg).trans wipe_idem, w3, env2, Si, rfl, k3, er2, ?_⟩
                  cases ec : evE cl .b c env2 Si with
                  | no =>
                    simp only [ec] at et
                    cases et
                  | ex c S4 =>
                    simp only [ec] at et
                    cases et
                  | ok b S5 =>
                    cases b with
                    | bool b =>
                      refine ⟨b, rfl, fun w4 s4 k4 => ?_⟩
                      have h4 : w4.H D = some (.lst vs) := s4.keep D _ h3 f3 fun ps e => by cases e
                      have f4 : D ∉ w4.F := s4.nf h3 f3 fun ps e => by cases e
                      have z4 : ¬ w4.Z D := fun z => by
                        rcases s4.zn D z with z | z
                        · exact z3 z
                        · exact z.lst h3
                      have s14 : Step w1 w4 := (s2.trans s3).trans s4
                      have e24 : Ext w2 w4 := (s3.ext k2).trans (s4.ext k3)
                      cases b with
                      | false =>
                        show ite (false = true) _ _
                        rw [if_neg Bool.false_ne_true]
                        simp only [ec] at et
                        cases et
                        exact ⟨w4, _, acc, vs, rest2, rfl, s14, k4, z4, f4, h4, r2.mono e24, el2, by simp, by omega⟩
                      | true =>
                        show ite (true = true) _ _
                        rw [if_pos rfl]
                        simp only [ec] at et
                        refine ⟨w4, env2, S5, rfl, k4, er2.mono s4 k3, ?_⟩
                        cases ee : evE cl .v e env2 S5 with
                        | no =>
                          simp only [ee] at et
                          cases et
                        | ex c S6 =>
                          simp only [ee] at et
                          cases et
                        | ok y S6 =>
                          simp only [ee] at et
                          cases et
                          intro w5 v s5 k5 r5
                          have r5 : R fa w5 y v := r5
                          have h5 : w5.H D = some (.lst vs) := s5.keep D _ h4 f4 fun ps e => by cases e
                          have f5 : D ∉ w5.F := s5.nf h4 f4 fun ps e => by cases e
                          have z5 : ¬ w5.Z D := fun z => by
                            rcases s5.zn D z with z | z
                            · exact z4 z
                            · exact z.lst h4
                          have e5 : Ext w5 { w5 with H := upd w5.H D (.lst (vs ++ [v])) } := Ext.own z5 fun us z => by rw [h5] at z; cases z
                          refine ⟨vs, h5, ?_, { w5 with H := upd w5.H D (.lst (vs ++ [v])) }, S3, acc ++ [y], vs ++ [v], rest2, rfl, (s14.trans s5).own (.inl hD), k5.own z5 f5 (.lst h5), z5, f5, upd_same, ((r2.mono (e24.trans (s5.ext k4))).append (.cons r5 .nil)).mono e5, el2, by simp, by rw [List.length_append]; exact Nat.add_le_add_right hl 1⟩
                          rw [← r2.length]
                          have := lim_ok hlim
                          omega
                    | none => simp only [ec] at et; cases et
                    | int _ => simp only [ec] at et; cases et
                    | str _ => simp only [ec] at et; cases et
                    | list _ => simp only [ec] at et; cases et
                    | tuple _ => simp only [ec] at et; cases et
                    | dict _ => simp only [ec] at et; cases et
          · rintro H ⟨w2, Si, acc, vs, rest, rfl, s2, k2, z2, f2, h2, r2, l2, rfl, hl⟩
            rw [List.drop_length] at l2
            cases l2
            rw [List.append_nil] at h
            exact PostE.lstAt h (s1.trans s2) k2 hD0 h2 r2 z2 f2
      · exact h.elim
theorem se_comp {elt tg iter : Expr} {ifs : List Expr} {scope : Scope} {own : List (Str × Nat)} {pos : Pos} {e it c : E} {t : Tg} (hc : X.calm = true) (hN : X.N.Nodup) (hi : PI X tg iter (tI fa ca cl W .b it)) (ok : BlkOk X.N X.env.scope scope own)
    (hg : ∀ (s : Shared) (H : Hp) (C : Addr) (cl : List (Str × Addr)) (fp : List Addr), PG (X.blk s H scope (compEnvC scope cl C X.env) fp) tg (gT X.K t))
    (ht : ∀ (s : Shared) (H : Hp) (C : Addr) (cl' : List (Str × Addr)) (fp : List Addr), PTs (X.blk s H scope (compEnvC scope cl' C X.env) fp) ifs (tT fa ca cl W0 c))
    (he : ∀ (s : Shared) (H : Hp) (C : Addr) (cl' : List (Str × Addr)) (fp : List Addr), PE (X.blk s H scope (compEnvC scope cl' C X.env) fp) elt (tE fa ca cl W0 .v e))
    (hs : ∀ x, foldedSetIterable iter X.env x = pure x) (htg : ∀ i ∈ tgI t, i ∈ own.map (·.2)) : PE X (.ListComp elt [⟨tg, iter, ifs, 0⟩] scope pos) (tE fa ca cl W m (.comp e t (own.map (·.2)) it c)) :=
  (pe_lc hc hN hi ok hg ht he hs).weak fun σ H Q h => lc_bind htg h
end
end Mini
/-! The evaluator is sound: statements. -/
namespace Mini
open PySem L2
variable {fa : FA} {ca : CA} {cl : Calls}
/-- at a statement: since the def's begin only what is tracked stays -/
structure SInv (fa : FA) (w0 w : Wd) (env : Env) (σ : St) (S : Sto) : Prop where
  st : Step w0 w
  ok : Ok fa w S
  er : ER fa w env σ
  new : ∀ (i : Nat) s p, env[i]? = some s → isOwn s = true → σ[i]? = some (some (.ref p)) → Nn w0.H p
theorem SInv.step {w0 w w1 : Wd} {env : Env} {σ : St} {S S1 : Sto} (h : SInv fa w0 w env σ S) (s : Step w w1) (k : Ok fa w1 S1) : SInv fa w0 w1 env σ S1 := ⟨h.st.trans s, k, h.er.mono s h.ok, h.new⟩
def PostS (fa : FA) (ca : CA) (W : WX) (w0 w : Wd) (D : Ends) : RS → Prop
  | .nx env S => ∀ w' σ, Ext w w' → SInv fa w0 w' env σ S → D.nx σ w'.H
  | .rt d S => ∀ w' v, Step w0 w' → Ok fa w' S → R fa w' d v → D.rt v w'.H
  | .ct env S => ∀ w' σ, Ext w w' → SInv fa w0 w' env σ S → D.ct σ w'.H
  | .bk env S => ∀ w' σ, Ext w w' → SInv fa w0 w' env σ S → D.bk σ w'.H
  | .ex c env S => ∀ w' σ C, Ext w w' → SInv fa w0 w' env σ S → ca c = some C → W (.ref C) none σ w'.H
  | .no => False
theorem PostS.later {W : WX} {w0 w w1 : Wd} {D : Ends} {r : RS} (e : Ext w w1) (h : PostS fa ca W w0 w D r) : PostS fa ca W w0 w1 D r := by
  cases r with
  | nx env S => exact fun w' σ e' i => h w' σ (e.trans e') i
  | rt d S => exact h
  | ct env S => exact fun w' σ e' i => h w' σ (e.trans e') i
  | bk env S => exact fun w' σ e' i => h w' σ (e.trans e') i
  | ex c env S => exact fun w' σ C e' i => h w' σ C (e.trans e') i
  | no => exact h
def tS (fa : FA) (ca : CA) (cl : Calls) (W : WX) (w0 : Wd) (c : C) : TS := fun D σ H =>
  ∃ w env S, w.H = H ∧ SInv fa w0 w env σ S ∧ PostS fa ca W w0 w D (exS cl c env S)
section
variable {X : Cx} {W : WX} {w0 : Wd}
/-- an expression within a statement -/
theorem ofE_bind {m : Md} {e : E} {σ : St} {w : Wd} {env : Env} {S : Sto} {D : Ends} {k : Mini.D → Sto → RS} (hi : SInv fa w0 w env σ S) (h : PostS fa ca W w0 w D (RS.ofE env (evE cl m e env S) k)) {Q' : VK}
    (hq : ∀ d S1 w1 v, Step w w1 → SInv fa w0 w1 env σ S1 → RM fa m w w1 d v → PostS fa ca W w0 w1 D (k d S1) → Q' v w1.H) : tE fa ca cl W m e σ w.H Q' := by
  refine ⟨w, env, S, rfl, hi.ok, hi.er, ?_⟩
  cases r : evE cl m e env S with
  | ok d S1 =>
    rw [r] at h
    exact fun w1 v s k1 rm => hq d S1 w1 v s (hi.step s k1) rm (PostS.later (s.ext hi.ok) h)
  | ex c S1 =>
    rw [r] at h
    exact fun w1 C s k1 e => h w1 σ C (s.ext hi.ok) (hi.step s k1) e
  | no =>
    rw [r] at h
    exact h
/-- .. its items -/
theorem ofA_bind {m : Md} {e : E} {σ : St} {w : Wd} {env : Env} {S : Sto} {D : Ends} {k : Mini.D → Sto → RS} (hi : SInv fa w0 w env σ S) (h : PostS fa ca W w0 w D (RS.ofE env (evE cl m e env S) k)) (hb : ∀ d S1, (∀ xs, d ≠ .tuple xs) → k d S1 = .no) {Q' : List V → Hp → Prop}
    (hq : ∀ ds S1 w1 vs, Step w w1 → SInv fa w0 w1 env σ S1 → RMs fa m w1 ds vs → PostS fa ca W w0 w1 D (k (.tuple ds) S1) → Q' vs w1.H) : tA fa ca cl W m e σ w.H Q' := by
  refine ⟨w, env, S, rfl, hi.ok, hi.er, ?_⟩
  cases r : evE cl m e env S with
  | ok d S1 =>
    rw [r] at h
    have h : PostS fa ca W w0 w D (k d S1) := h
    have hn : ∀ (hb' : ∀ xs, d ≠ .tuple xs), False := fun hb' => by
      rw [hb d S1 hb'] at h
      exact h
    cases d with
    | tuple xs => exact ⟨xs, rfl, fun w1 vs s k1 rm => hq xs S1 w1 vs s (hi.step s k1) rm (h.later (s.ext hi.ok))⟩
    | none => exact (hn fun _ z => by cases z).elim
    | int _ => exact (hn fun _ z => by cases z).elim
    | str _ => exact (hn fun _ z => by cases z).elim
    | list _ => exact (hn fun _ z => by cases z).elim
    | bool _ => exact (hn fun _ z => by cases z).elim
    | dict _ => exact (hn fun _ z => by cases z).elim
  | ex c S1 =>
    rw [r] at h
    exact fun w1 C s k1 e => h w1 σ C (s.ext hi.ok) (hi.step s k1) e
  | no =>
    rw [r] at h
    exact h
/-- .. a test -/
theorem ofT_bind {e : E} {σ : St} {w : Wd} {env : Env} {S : Sto} {D : Ends} {k : Mini.D → Sto → RS} (hi : SInv fa w0 w env σ S) (h : PostS fa ca W w0 w D (RS.ofE env (evE cl .b e env S) k)) (hb : ∀ d S1, (∀ b, d ≠ .bool b) → k d S1 = .no) {Q' : Bool → Hp → Prop}
    (hq : ∀ b S1 w1, Step w w1 → SInv fa w0 w1 env σ S1 → PostS fa ca W w0 w1 D (k (.bool b) S1) → Q' b w1.H) : tT fa ca cl W e σ w.H Q' := by
  refine ⟨w, env, S, rfl, hi.ok, hi.er, ?_⟩
  cases r : evE cl .b e env S with
  | ok d S1 =>
    rw [r] at h
    have h : PostS fa ca W w0 w D (k d S1) := h
    have hn : ∀ (hb' : ∀ xs, d ≠ .bool xs), False := fun hb' => by
      rw [hb d S1 hb'] at h
      exact h
    cases d with
    | bool b => exact ⟨b, rfl, fun w1 s k1 => hq b S1 w1 s (hi.step s k1) (h.later (s.ext hi.ok))⟩
    | none => exact (hn fun _ z => by cases z).elim
    | int _ => exact (hn fun _ z => by cases z).elim
    | str _ => exact (hn fun _ z => by cases z).elim
    | list _ => exact (hn fun _ z => by cases z).elim
    | tuple _ => exact (hn fun _ z => by cases z).elim
    | dict _ => exact (hn fun _ z => by cases z).elim
  | ex c S1 =>
    rw [r] at h
    exact fun w1 C s k1 e => h w1 σ C (s.ext hi.ok) (hi.step s k1) e
  | no =>
    rw [r] at h
    exact h
/-! ### rows of statements -/
theorem ss_nil : PSs X [] (tS fa ca cl W w0 .skip) := by
  refine pss_nil.weak fun D σ H h => ?_
  obtain ⟨w, env, S, rfl, hi, h⟩ := h
  exact h w σ (Ext.refl w) hi
theorem seq_bind {a b : C} {D : Ends} {σ : St} {H : Hp} (h : tS fa ca cl W w0 (.seq a b) D σ H) : tSeq (tS fa ca cl W w0 a) (tS fa ca cl W w0 b) D σ H := by
  obtain ⟨w, env, S, rfl, hi, h⟩ := h
  refine ⟨w, env, S, rfl, hi, ?_⟩
  unfold exS at h
  cases r : exS cl a env S with
  | nx env1 S1 =>
    rw [r] at h
    exact fun w1 σ1 e1 i1 => ⟨w1, env1, S1, rfl, i1, PostS.later e1 h⟩
  | rt d S1 =>
    rw [r] at h
    exact h
  | ct env1 S1 =>
    rw [r] at h
    exact h
  | bk env1 S1 =>
    rw [r] at h
    exact h
  | ex c env1 S1 =>
    rw [r] at h
    exact h
  | no =>
    rw [r] at h
    exact h
theorem ss_cons {st : Stmt} {rest : List Stmt} {a b : C} (h1 : PS X st (tS fa ca cl W w0 a)) (h2 : PSs X rest (tS fa ca cl W w0 b)) : PSs X (st :: rest) (tS fa ca cl W w0 (.seq a b)) :=
  (pss_cons h1 h2).weak fun _ _ _ h => seq_bind h
/-! ### a slot's list becomes plain data -/
theorem SInv.frz1 {w : Wd} {env : Env} {σ : St} {S : Sto} (h : SInv fa w0 w env σ S) (i : Nat) : ∃ w', w'.H = w.H ∧ Ext w w' ∧ SInv fa w0 w' (frz1 env i) σ S := by
  have base : ∀ (p : Addr) (s : Sl) (d : Mini.D), env[i]? = some s → isOwn s = true → σ[i]? = some (some (.ref p)) → ¬ Nn w.H p → p ∉ w.F → ¬ w.Z p → (∀ w', w'.Z p → Ext w w' → w'.H = w.H → R fa w' d (.ref p)) →
      ∃ w', w'.H = w.H ∧ Ext w w' ∧ SInv fa w0 w' (env.set i (.val d)) σ S := by
    intro p s d e1 o1 e2 hn hf hz hr
    have hi : i < env.length := (List.getElem?_eq_some_iff.mp e1).1
    have hi2 : i < σ.length := by rw [← h.er.len]; exact hi
    have hsame : σ.set i (some (.ref p)) = σ := by
      refine List.ext_getElem? fun j => ?_
      by_cases e : i = j
      · subst e
        rw [List.getElem?_set_self hi2, e2]
      · rw [List.getElem?_set_ne e]
    have ex : Ext w { w with Z := fun a => w.Z a ∨ a = p } := Ext.frz
    refine ⟨{ w with Z := fun a => w.Z a ∨ a = p }, rfl, ex, h.st.frzNew (h.new i s p e1 o1 e2), h.ok.frz hn hf, ⟨?_, ?_, ?_⟩, ?_⟩
    · rw [List.length_set]
      exact h.er.len
    · intro j s' ov h1 h2
      by_cases e : i = j
      · subst e
        rw [List.getElem?_set_self hi] at h1
        cases h1
        rw [e2] at h2
        cases h2
        exact ⟨_, rfl, hr _ (.inr rfl) ex rfl⟩
      · rw [List.getElem?_set_ne e] at h1
        have q := h.er.at_ j s' ov h1 h2
        cases s' with
        | no => trivial
        | val d' =>
          obtain ⟨v, q1, q2⟩ := q
          exact ⟨v, q1, q2.mono ex⟩
        | own xs =>
          obtain ⟨q', vs, q1, q2, q3, q4, q5⟩ := q
          refine ⟨q', vs, q1, q2, q3.mono ex, fun z => ?_, q5⟩
          rcases z with z | z
          · exact q4 z
          · subst z
            rw [q1] at h2
            exact e (h.er.sep i j q' s (.own xs) e1 o1 e2 h1 rfl h2)
        | ownD t es =>
          obtain ⟨q', q1, q2, q4, q5⟩ := q
          refine ⟨q', q1, ?_, fun z => ?_, q5⟩
          · rcases q2 with ⟨a1, kvs, a2, a3⟩ | ⟨a1, kvs, a2, a3⟩
            · exact .inl ⟨a1, kvs, a2, a3.mono ex⟩
            · exact .inr ⟨a1, kvs, a2, a3.mono ex⟩
          · rcases z with z | z
            · exact q4 z
            · subst z
              rw [q1] at h2
              exact e (h.er.sep i j q' s (.ownD t es) e1 o1 e2 h1 rfl h2)
    · intro j k q s1 s2 h1 o2 h2 h3 o3 h4
      have hne : ∀ {j : Nat} {s : Sl}, (env.set i (.val d))[j]? = some s → isOwn s = true → i ≠ j := fun {j s} h1 o1 e => by
        subst e
        rw [List.getElem?_set_self hi] at h1
        cases h1
        cases o1
      rw [List.getElem?_set_ne (hne h1 o2)] at h1
      rw [List.getElem?_set_ne (hne h3 o3)] at h3
      exact h.er.sep j k q s1 s2 h1 o2 h2 h3 o3 h4
    · intro j s1 q h1 o2 h2
      have hne : i ≠ j := fun e => by
        subst e
        rw [List.getElem?_set_self hi] at h1
        cases h1
        cases o2
      rw [List.getElem?_set_ne hne] at h1
      exact h.new j s1 q h1 o2 h2
  unfold Mini.frz1
  cases e1 : env[i]? with
  | none => exact ⟨w, rfl, Ext.refl w, h⟩
  | some s =>
    obtain ⟨ov, e2, r⟩ := slot_at h.er e1
    cases s with
    | no => exact ⟨w, rfl, Ext.refl w, h⟩
    | val d => exact ⟨w, rfl, Ext.refl w, h⟩
    | own xs =>
      obtain ⟨p, vs, rfl, h1, h2, h3, h4⟩ := r
      exact base p _ (.list xs) e1 rfl e2 (nn_lst h1) h4 h3 fun w' z ex eH => .lst z (by rw [eH]; exact h1) (h2.mono ex)
    | ownD t es =>
      obtain ⟨p, rfl, h1, h3, h4⟩ := r
      rcases h1 with ⟨rfl, kvs, h1, h2⟩ | ⟨rfl, kvs, h1, h2⟩
      · exact base p _ (.dict ((.none, .bool false) :: es)) e1 rfl e2 (fun z => z.no h1 fun ps e => by cases e) h4 h3 fun w' z ex eH => .dk z (by rw [eH]; exact h1) (h2.mono ex)
      · exact base p _ (.dict ((.none, .bool true) :: es)) e1 rfl e2 (fun z => z.no h1 fun ps e => by cases e) h4 h3 fun w' z ex eH => .dt z (by rw [eH]; exact h1) (h2.mono ex)
theorem SInv.frzs {w : Wd} {env : Env} {σ : St} {S : Sto} : ∀ (is : List Nat) {w : Wd} {env : Env}, SInv fa w0 w env σ S → ∃ w', w'.H = w.H ∧ Ext w w' ∧ SInv fa w0 w' (is.foldl Mini.frz1 env) σ S
  | [], w, env, h => ⟨w, rfl, Ext.refl w, h⟩
  | i :: is, w, env, h => by
    obtain ⟨w1, e1, x1, h1⟩ := h.frz1 i
    obtain ⟨w2, e2, x2, h2⟩ := SInv.frzs (w := w) (env := env) is h1
    exact ⟨w2, e2.trans e1, x1.trans x2, h2⟩
theorem frz_bind {is : List Nat} {c : C} {D : Ends} {σ : St} {H : Hp} (h : tS fa ca cl W w0 (.seq (.frz is) c) D σ H) : tS fa ca cl W w0 c D σ H := by
  obtain ⟨w, env, S, rfl, hi, h⟩ := h
  obtain ⟨w1, e1, x1, h1⟩ := SInv.frzs (w := w) (env := env) is hi
  exact ⟨w1, _, S, e1, h1, PostS.later x1 h⟩
theorem ss_frz {st : Stmt} {is : List Nat} {c : C} (h : PS X st (tS fa ca cl W w0 c)) : PS X st (tS fa ca cl W w0 (.seq (.frz is) c)) := h.weak fun _ _ _ h => frz_bind h
/-! ### a slot set -/
theorem SInv.setV {w : Wd} {env : Env} {σ : St} {S : Sto} {i : Nat} {d : Mini.D} {v : V} (h : SInv fa w0 w env σ S) (r : R fa w d v) : SInv fa w0 w (env.set i (.val d)) (σ.set i (some v)) S := by
  refine ⟨h.st, h.ok, h.er.setV r, fun j s p h1 o1 h2 => ?_⟩
  by_cases e : i = j
  · subst e
    have hi : i < env.length := by
      have := (List.getElem?_eq_some_iff.mp h1).1
      rwa [List.length_set] at this
    rw [List.getElem?_set_self hi] at h1
    cases h1
    cases o1
  · rw [List.getElem?_set_ne e] at h1 h2
    exact h.new j s p h1 o1 h2
/-- .. with what is new -/
theorem SInv.setO {w1 w : Wd} {env : Env} {σ : St} {S S1 : Sto} {i : Nat} {s : Sl} {p : Addr} (h1 : SInv fa w0 w1 env σ S1) (st : Step w1 w) (h : SInv fa w0 w env σ S) (hs : SlotR fa w s (some (.ref p))) (hn : Nn w1.H p) (ho : isOwn s = true) : SInv fa w0 w (env.set i s) (σ.set i (some (.ref p))) S := by
  have far : ∀ (j : Nat) s', env[j]? = some s' → isOwn s' = true → σ[j]? = some (some (.ref p)) → False := fun j s' e o e' => by
    have q := h1.er.at_ j s' _ e e'
    cases s' with
    | no => cases o
    | val d => cases o
    | own xs =>
      obtain ⟨p', vs, q1, q2, _⟩ := q
      cases q1
      exact hn.lst q2
    | ownD t es =>
      obtain ⟨p', q1, q2, _⟩ := q
      cases q1
      exact q2.nn hn
  refine ⟨h.st, h.ok, ⟨by rw [List.length_set, List.length_set, h.er.len], fun j s' ov e1 e2 => ?_, fun j k q s1 s2 e1 o1 e2 e3 o2 e4 => ?_⟩, fun j s' q e1 o1 e2 => ?_⟩
  · by_cases e : i = j
    · subst e
      have hi : i < env.length := by
        have := (List.getElem?_eq_some_iff.mp e1).1
        rwa [List.length_set] at this
      rw [List.getElem?_set_self hi] at e1
      rw [List.getElem?_set_self (by rw [← h.er.len]; exact hi)] at e2
      cases e1
      cases e2
      exact hs
    · rw [List.getElem?_set_ne e] at e1 e2
      exact h.er.at_ j s' ov e1 e2
  · by_cases ej : i = j
    · by_cases ek : i = k
      · rw [← ej, ek]
      · subst ej
        rw [List.getElem?_set_ne ek] at e3 e4
        have hi : i < env.length := by
          have := (List.getElem?_eq_some_iff.mp e1).1
          rwa [List.length_set] at this
        rw [List.getElem?_set_self (by rw [← h.er.len]; exact hi)] at e2
        cases e2
        exact (far k s2 e3 o2 e4).elim
    · rw [List.getElem?_set_ne ej] at e1 e2
      by_cases ek : i = k
      · subst ek
        have hi : i < env.length := by
          have := (List.getElem?_eq_some_iff.mp e3).1
          rwa [List.length_set] at this
        rw [List.getElem?_set_self (by rw [← h.er.len]; exact hi)] at e4
        cases e4
        exact (far j s1 e1 o1 e2).elim
      · rw [List.getElem?_set_ne ek] at e3 e4
        exact h.er.sep j k q s1 s2 e1 o1 e2 e3 o2 e4
  · by_cases e : i = j
    · subst e
      have hi : i < env.length := by
        have := (List.getElem?_eq_some_iff.mp e1).1
        rwa [List.length_set] at this
      rw [List.getElem?_set_self (by rw [← h.er.len]; exact hi)] at e2
      cases e2
      exact h1.st.live p hn
    · rw [List.getElem?_set_ne e] at e1 e2
      exact h.new j s' q e1 o1 e2
/-- .. with what an expression gives -/
theorem SInv.setSl {w1 w : Wd} {env : Env} {σ : St} {S S1 : Sto} {i : Nat} {fr : Bool} {d : Mini.D} {v : V} (h1 : SInv fa w0 w1 env σ S1) (st : Step w1 w) (h : SInv fa w0 w env σ S) (r : RM fa (if fr then .f else .v) w1 w d v) : SInv fa w0 w (env.set i (slOf fr d)) (σ.set i (some v)) S := by
  cases fr with
  | false => exact h.setV (show R fa w d v from r)
  | true =>
    have r1 : RF fa w1 w d v := r
    cases d with
    | list xs =>
      obtain ⟨p, vs, rfl, h2, h3, h4, h5, h6⟩ := r1
      exact h1.setO st h ⟨p, vs, rfl, h2, h3, h4, h5⟩ h6 rfl
    | dict es =>
      obtain ⟨p, t, es', rfl, rfl, h2, h4, h5, h6⟩ := r1
      exact h1.setO (s := .ownD t es') st h ⟨p, rfl, h2, h4, h5⟩ h6 rfl
    | none => exact h.setV r1
    | bool _ => exact h.setV r1
    | int _ => exact h.setV r1
    | str _ => exact h.setV r1
    | tuple _ => exact h.setV r1
theorem ss_set {st : Stmt} {i : Nat} {e : E} (h : PS X st (tAsg (tE fa ca cl W (if fresh e then .f else .v) e) (gName i))) : PS X st (tS fa ca cl W w0 (.set i e)) := by
  refine h.weak fun D σ H h => ?_
  obtain ⟨w, env, S, rfl, hi, h⟩ := h
  unfold exS at h
  exact ofE_bind hi h fun d S1 w1 v s1 i1 r1 h1 => h1 w1 _ (Ext.refl w1) (hi.setSl s1 i1 r1)
theorem ss_parF2 {st : Stmt} {i j : Nat} {a b : E} (h : PS X st (tPar i j (tCons (tE fa ca cl W (if fresh a then .f else .v) a) (tCons (tE fa ca cl W (if fresh b then .f else .v) b) tNil)))) : PS X st (tS fa ca cl W w0 (.par2 i j a b)) := by
  refine h.weak fun D σ H h => ?_
  obtain ⟨w, env, S, rfl, hi, h⟩ := h
  unfold exS at h
  refine ofE_bind hi h fun d S1 w1 v s1 i1 r1 h1 => ?_
  refine ofE_bind i1 h1 fun d2 S2 w2 v2 s2 i2 r2 h2 => ?_
  have j1 : SInv fa w0 w1 (env.set i (slOf (fresh a) d)) (σ.set i (some v)) S1 := hi.setSl s1 i1 r1
  exact ⟨v, v2, rfl, h2 w2 _ (Ext.refl w2) (j1.setSl s2 (j1.step s2 i2.ok) r2)⟩
theorem ss_parF3 {st : Stmt} {i j l : Nat} {a b c : E} (h : PS X st (tPar3 i j l (tCons (tE fa ca cl W (if fresh a then .f else .v) a) (tCons (tE fa ca cl W (if fresh b then .f else .v) b) (tCons (tE fa ca cl W (if fresh c then .f else .v) c) tNil))))) : PS X st (tS fa ca cl W w0 (.par3 i j l a b c)) := by
  refine h.weak fun D σ H h => ?_
  obtain ⟨w, env, S, rfl, hi, h⟩ := h
  unfold exS at h
  refine ofE_bind hi h fun d S1 w1 v s1 i1 r1 h1 => ?_
  refine ofE_bind i1 h1 fun d2 S2 w2 v2 s2 i2 r2 h2 => ?_
  refine ofE_bind i2 h2 fun d3 S3 w3 v3 s3 i3 r3 h3 => ?_
  have j1 : SInv fa w0 w1 (env.set i (slOf (fresh a) d)) (σ.set i (some v)) S1 := hi.setSl s1 i1 r1
  have j2 := SInv.setSl (i := j) j1 s2 (j1.step s2 i2.ok) r2
  exact ⟨v, v2, v3, rfl, h3 w3 _ (Ext.refl w3) (j2.setSl s3 (j2.step s3 i3.ok) r3)⟩
/-! targets -/
theorem gs_okS {w : Wd} {S : Sto} {Q : St → Hp → Prop} : ∀ {is : List Nat} {ds : List Mini.D} {vs : List V} {env : Env} {σ : St}, ds.length = is.length → Rs fa w ds vs → SInv fa w0 w env σ S →
    (∀ σ2, SInv fa w0 w ((is.zip ds).foldl (fun e p => e.set p.1 (.val p.2)) env) σ2 S → Q σ2 w.H) → gsT is vs σ w.H Q
  | [], [], _, env, σ, _, .nil, h, q => ⟨rfl, q σ h⟩
  | i :: is, d :: _, _, env, σ, hl, .cons r rs, h, q => ⟨_, _, rfl, gs_okS (env := env.set i (.val d)) (by simpa using hl) rs (h.setV r) q⟩
theorem gT_okS {K : PySem.W.Frag} {w : Wd} {S : Sto} {t : Tg} {d : Mini.D} {v : V} {env env2 : Env} {σ : St} {Q : St → Hp → Prop} (e : setT t d env = some env2) (h : SInv fa w0 w env σ S) (r : R fa w d v)
    (q : ∀ σ2, SInv fa w0 w env2 σ2 S → Q σ2 w.H) : gT K t v σ w.H Q := by
  cases t with
  | nm i =>
    cases e
    exact q _ (h.setV r)
  | tp is =>
    cases r with
    | tup ht rs =>
      simp only [setT] at e
      split at e
      · rename_i hl
        cases e
        exact ⟨_, _, rfl, .inl (.inl ht), by rw [← rs.length]; exact hl, gs_okS hl rs h q⟩
      · cases e
    | _ => cases e
theorem ss_unp {st : Stmt} {is : List Nat} {e : E} (h : PS X st (tAsg (tE fa ca cl W .v e) (gT X.K (.tp is)))) : PS X st (tS fa ca cl W w0 (.unp is e)) := by
  refine h.weak fun D σ H h => ?_
  obtain ⟨w, env, S, rfl, hi, h⟩ := h
  unfold exS at h
  refine ofE_bind hi h fun d S1 w1 v s1 i1 r1 h1 => ?_
  cases es : setT (.tp is) d env with
  | none =>
    simp only [es] at h1
    exact h1.elim
  | some env2 =>
    simp only [es] at h1
    exact gT_okS es i1 r1 fun σ2 i2 => h1 w1 σ2 (Ext.refl w1) i2
theorem Rs.two {w : Wd} {ds : List Mini.D} {vs : List V} (h : Rs fa w ds vs) (hl : ds.length = 2) : ∃ d1 d2 v1 v2, ds = [d1, d2] ∧ vs = [v1, v2] ∧ R fa w d1 v1 ∧ R fa w d2 v2 := by
  match ds, vs, h, hl with
  | [d1, d2], _, .cons a1 (.cons a2 .nil), _ => exact ⟨d1, d2, _, _, rfl, rfl, a1, a2⟩
theorem Rs.three {w : Wd} {ds : List Mini.D} {vs : List V} (h : Rs fa w ds vs) (hl : ds.length = 3) : ∃ d1 d2 d3 v1 v2 v3, ds = [d1, d2, d3] ∧ vs = [v1, v2, v3] ∧ R fa w d1 v1 ∧ R fa w d2 v2 ∧ R fa w d3 v3 := by
  match ds, vs, h, hl with
  | [d1, d2, d3], _, .cons a1 (.cons a2 (.cons a3 .nil)), _ => exact ⟨d1, d2, d3, _, _, _, rfl, rfl, a1, a2, a3⟩
theorem ss_par2 {st : Stmt} {i j : Nat} {es : E} (h : PS X st (tPar i j (tA fa ca cl W .v es))) : PS X st (tS fa ca cl W w0 (.par [i, j] es)) := by
  refine h.weak fun D σ H h => ?_
  obtain ⟨w, env, S, rfl, hi, h⟩ := h
  unfold exS at h
  refine ofA_bind hi h (fun d S1 hn => ?_) fun ds S1 w1 vs s1 i1 r1 h1 => ?_
  · cases d <;> first | rfl | exact absurd rfl (hn _)
  · have r1 : Rs fa w1 ds vs := r1
    simp only [setT] at h1
    split at h1
    · rename_i e1
      split at e1
      · rename_i hl
        cases e1
        obtain ⟨d1, d2, v1, v2, rfl, rfl, a1, a2⟩ := r1.two hl
        exact ⟨_, _, rfl, h1 w1 _ (Ext.refl w1) ((i1.setV a1).setV a2)⟩
      · cases e1
    · exact h1.elim
theorem ss_par3 {st : Stmt} {i j l : Nat} {es : E} (h : PS X st (tPar3 i j l (tA fa ca cl W .v es))) : PS X st (tS fa ca cl W w0 (.par [i, j, l] es)) := by
  refine h.weak fun D σ H h => ?_
  obtain ⟨w, env, S, rfl, hi, h⟩ := h
  unfold exS at h
  refine ofA_bind hi h (fun d S1 hn => ?_) fun ds S1 w1 vs s1 i1 r1 h1 => ?_
  · cases d <;> first | rfl | exact absurd rfl (hn _)
  · have r1 : Rs fa w1 ds vs := r1
    simp only [setT] at h1
    split at h1
    · rename_i e1
      split at e1
      · rename_i hl
        cases e1
        obtain ⟨d1, d2, d3, v1, v2, v3, rfl, rfl, a1, a2, a3⟩ := r1.three hl
        exact ⟨_, _, _, rfl, h1 w1 _ (Ext.refl w1) (((i1.setV a1).setV a2).setV a3)⟩
      · cases e1
    · exact h1.elim
/-! ### return, if, expressions, jumps -/
theorem ss_ret {e : Expr} {a : E} {pos : Pos} (h : PE X e (tE fa ca cl W .v a)) : PS X (.Return (some e) pos) (tS fa ca cl W w0 (.ret a)) := by
  refine (ps_ret (pos := pos) h).weak fun D σ H h => ?_
  obtain ⟨w, env, S, rfl, hi, h⟩ := h
  unfold exS at h
  exact ofE_bind hi h fun d S1 w1 v s1 i1 r1 h1 => h1 w1 v i1.st i1.ok r1
theorem ss_retN {pos : Pos} : PS X (.Return none pos) (tS fa ca cl W w0 .retN) := by
  refine (ps_retN (pos := pos)).weak fun D σ H h => ?_
  obtain ⟨w, env, S, rfl, hi, h⟩ := h
  exact h w .non hi.st hi.ok .non
theorem ss_if {c : Expr} {a b : List Stmt} {x : E} {p q : C} {pos : Pos} (h0 : PT X c (tT fa ca cl W x)) (h1 : PSs X a (tS fa ca cl W w0 p)) (h2 : PSs X b (tS fa ca cl W w0 q)) : PS X (.If c a b pos) (tS fa ca cl W w0 (.ife x p q)) := by
  refine (ps_if (pos := pos) h0 h1 h2).weak fun D σ H h => ?_
  obtain ⟨w, env, S, rfl, hi, h⟩ := h
  unfold exS at h
  refine ofT_bind hi h (fun d S1 hn => ?_) fun b S1 w1 s1 i1 h1 => ?_
  · cases d <;> first | rfl | exact absurd rfl (hn _)
  · cases b with
    | true =>
      rw [if_pos rfl]
      exact ⟨w1, env, S1, rfl, i1, h1⟩
    | false =>
      rw [if_neg Bool.false_ne_true]
      exact ⟨w1, env, S1, rfl, i1, h1⟩
theorem ss_ex {e : Expr} {a : E} {pos : Pos} (hs : swapsWith e none pos.line X.env = pure false) (h : PE X e (tE fa ca cl W .b a)) : PS X (.Expr e pos) (tS fa ca cl W w0 (.ex a)) := by
  refine (ps_expr (pos := pos) h hs).weak fun D σ H h => ?_
  obtain ⟨w, env, S, rfl, hi, h⟩ := h
  unfold exS at h
  exact ofE_bind hi h fun d S1 w1 v s1 i1 r1 h1 => h1 w1 σ (Ext.refl w1) i1
theorem ss_pass {pos : Pos} : PS X (.Pass pos) (tS fa ca cl W w0 .skip) := by
  refine (ps_pass (pos := pos)).weak fun D σ H h => ?_
  obtain ⟨w, env, S, rfl, hi, h⟩ := h
  exact h w σ (Ext.refl w) hi
theorem ss_cont {pos : Pos} : PS X (.Continue pos) (tS fa ca cl W w0 .cont) := by
  refine (ps_continue (pos := pos)).weak fun D σ H h => ?_
  obtain ⟨w, env, S, rfl, hi, h⟩ := h
  exact h w σ (Ext.refl w) hi
theorem ss_brk {pos : Pos} : PS X (.Break pos) (tS fa ca cl W w0 .brk) := by
  refine (ps_break (pos := pos)).weak fun D σ H h => ?_
  obtain ⟨w, env, S, rfl, hi, h⟩ := h
  exact h w σ (Ext.refl w) hi
/-! ### raise -/
theorem ss_rse {st : Stmt} {c : Str} {C : Addr} (hC : ca c = some C) (h : PS X st (fun _ σ H => W (.ref C) none σ H)) : PS X st (tS fa ca cl W w0 (.rse c)) := by
  refine h.weak fun D σ H h => ?_
  obtain ⟨w, env, S, rfl, hi, h⟩ := h
  exact h w σ C (Ext.refl w) hi hC
end
end Mini
/-! The evaluator is sound: loops, lists that change. -/
namespace Mini
open PySem L2
variable {fa : FA} {ca : CA} {cl : Calls}
section
variable {X : Cx} {W : WX} {w0 : Wd}
/-! ### a slot's own list changes -/
theorem own_at {w : Wd} {env : Env} {σ : St} {S : Sto} {i : Nat} {xs : List D} (h : SInv fa w0 w env σ S) (e : env[i]? = some (.own xs)) : ∃ p vs, σ[i]? = some (some (.ref p)) ∧ w.H p = some (.lst vs) ∧ Rs fa w xs vs ∧ ¬ w.Z p ∧ p ∉ w.F ∧ Nn w0.H p := by
  obtain ⟨ov, e2, r⟩ := slot_at h.er e
  obtain ⟨p, vs, rfl, h1, h2, h3, h4⟩ := r
  exact ⟨p, vs, e2, h1, h2, h3, h4, h.new i _ p e rfl e2⟩
theorem SInv.mut {w : Wd} {env : Env} {σ : St} {S : Sto} {i : Nat} {s s' : Sl} {p : Addr} {o : HO} (h : SInv fa w0 w env σ S) (e : env[i]? = some s) (ho : isOwn s = true) (e2 : σ[i]? = some (some (.ref p))) (hz : ¬ w.Z p) (hf : p ∉ w.F) (hn : Nn w0.H p) (hld : LD (w.H p))
    (hs : SlotR fa { w with H := upd w.H p o } s' (some (.ref p))) (ho' : isOwn s' = true) : SInv fa w0 { w with H := upd w.H p o } (env.set i s') σ S := by
  have ex : Ext w { w with H := upd w.H p o } := Ext.own hz hld.tup
  have hi : i < env.length := (List.getElem?_eq_some_iff.mp e).1
  refine ⟨h.st.own hn, h.ok.own hz hf hld, ⟨by rw [List.length_set]; exact h.er.len, fun j s1 ov e1 e3 => ?_, fun j k q s1 s2 e1 o1 e3 e4 o2 e5 => ?_⟩, fun j s1 q e1 o1 e3 => ?_⟩
  · by_cases ej : i = j
    · subst ej
      rw [List.getElem?_set_self hi] at e1
      cases e1
      rw [e2] at e3
      cases e3
      exact hs
    · rw [List.getElem?_set_ne ej] at e1
      have q := h.er.at_ j s1 ov e1 e3
      cases s1 with
      | no => trivial
      | val d =>
        obtain ⟨v, q1, q2⟩ := q
        exact ⟨v, q1, q2.mono ex⟩
      | own xs =>
        obtain ⟨q', vs, q1, q2, q3, q4, q5⟩ := q
        have hne : q' ≠ p := fun z => by
          subst z
          rw [q1] at e3
          exact ej (h.er.sep i j q' s (.own xs) e ho e2 e1 rfl e3)
        refine ⟨q', vs, q1, ?_, q3.mono ex, q4, q5⟩
        show upd w.H p o q' = _
        rw [upd_ne hne]
        exact q2
      | ownD t es =>
        obtain ⟨q', q1, q2, q4, q5⟩ := q
        have hne : q' ≠ p := fun z => by
          subst z
          rw [q1] at e3
          exact ej (h.er.sep i j q' s (.ownD t es) e ho e2 e1 rfl e3)
        refine ⟨q', q1, ?_, q4, q5⟩
        rcases q2 with ⟨a1, kvs, a2, a3⟩ | ⟨a1, kvs, a2, a3⟩
        · exact .inl ⟨a1, kvs, by show upd w.H p o q' = _; rw [upd_ne hne]; exact a2, a3.mono ex⟩
        · exact .inr ⟨a1, kvs, by show upd w.H p o q' = _; rw [upd_ne hne]; exact a2, a3.mono ex⟩
  · have old : ∀ {j : Nat} {s1 : Sl}, (env.set i s')[j]? = some s1 → isOwn s1 = true → ∃ s2, env[j]? = some s2 ∧ isOwn s2 = true := fun {j s1} e1 o1 => by
      by_cases ej : i = j
      · subst ej
        exact ⟨s, e, ho⟩
      · rw [List.getElem?_set_ne ej] at e1
        exact ⟨s1, e1, o1⟩
    obtain ⟨s3, a1, a2⟩ := old e1 o1
    obtain ⟨s4, b1, b2⟩ := old e4 o2
    exact h.er.sep j k q s3 s4 a1 a2 e3 b1 b2 e5
  · by_cases ej : i = j
    · subst ej
      rw [e2] at e3
      cases e3
      exact hn
    · rw [List.getElem?_set_ne ej] at e1
      exact h.new j s1 q e1 o1 e3
theorem SInv.lst {w : Wd} {env : Env} {σ : St} {S : Sto} {i : Nat} {xs : List D} {p : Addr} {ys : List D} {us : List V} (h : SInv fa w0 w env σ S) (e : env[i]? = some (.own xs)) (e2 : σ[i]? = some (some (.ref p))) (hz : ¬ w.Z p) (hf : p ∉ w.F) (hn : Nn w0.H p) {vs : List V} (hl : w.H p = some (.lst vs)) (r : Rs fa w ys us) :
    SInv fa w0 { w with H := upd w.H p (.lst us) } (env.set i (.own ys)) σ S ∧ Ext w { w with H := upd w.H p (.lst us) } := by
  have ht : ∀ vs, w.H p ≠ some (.tup vs) := fun us z => by rw [hl] at z; cases z
  have ex : Ext w { w with H := upd w.H p (.lst us) } := Ext.own hz ht
  exact ⟨h.mut e rfl e2 hz hf hn (.lst hl) ⟨p, us, rfl, upd_same, r.mono ex, hz, hf⟩ rfl, ex⟩
theorem lim_lt {n : Nat} (h : lim n = true) : n < sizeLine := by
  have h : n ≤ 1000000 := of_decide_eq_true h
  rw [sizeLine_eq]
  omega
theorem own_read {w : Wd} {env : Env} {σ : St} {S : Sto} {i : Nat} {p : Addr} (h : SInv fa w0 w env σ S) (e2 : σ[i]? = some (some (.ref p))) {Q : VK} (q : Q (.ref p) w.H) : tVar i σ w.H Q := ⟨.ref p, e2, q⟩
theorem ss_app {i : Nat} {x : Str} {e : Expr} {a : E} {p apos cpos pos : Pos} (hN : X.N[i]? = some x) (hv : Vis X.env.scope x) (hd : (x == ("__debug__" : Str)) = false) (hcd : (x == ("__classdict__" : Str)) = false) (hs : ∀ env, starEach [e] env = [(false, eval e env)]) (hl : (apos.endLine == cpos.line) = true) (h : PE X e (tE fa ca cl W .v a)) :
    PS X (.Expr (.Call (.Attribute (.Name x p) "append" apos) [e] [] cpos) pos) (tS fa ca cl W w0 (.app i a)) := by
  refine (ps_expr (pos := pos) (pe_bm PySem.F.plainAttrs_list PySem.F.slot_list_append PySem.F.type_list_append mt_append (pe_var (pos := p) hN hv hd hcd) (pa_cons h pa_nil (hs _)) rfl (by rw [hs]; rfl) hl (hs _) rfl) rfl).weak fun D σ H h => ?_
  obtain ⟨w, env, S, rfl, hi, h⟩ := h
  unfold exS at h
  split at h
  · rename_i xs0 e0
    obtain ⟨p, vs, e2, h1, h2, h3, h4, h5⟩ := own_at hi e0
    refine ⟨.ref p, e2, .inl ⟨rfl, vs, .inl (.inl h1)⟩, ?_⟩
    refine ofE_bind hi h fun d S1 w1 v s1 i1 r1 h1 => ?_
    simp only [e0] at h1
    split at h1
    · rename_i hlim
      obtain ⟨p', vs', e2', a1, a2, a3, a4, a5⟩ := own_at i1 e0
      rw [e2] at e2'
      cases e2'
      obtain ⟨i2, ex⟩ := i1.lst (ys := xs0 ++ [d]) (us := vs' ++ [v]) e0 e2 a3 a4 a5 a1 (a2.append (.cons r1 .nil))
      exact ⟨p, vs', v, rfl, rfl, a1, by rw [← a2.length]; exact lim_lt hlim, h1 _ σ ex i2⟩
    · exact h1.elim
  · exact h.elim
theorem ss_ext {i : Nat} {x : Str} {e : Expr} {a : E} {p apos cpos pos : Pos} (hN : X.N[i]? = some x) (hv : Vis X.env.scope x) (hd : (x == ("__debug__" : Str)) = false) (hcd : (x == ("__classdict__" : Str)) = false) (hs : ∀ env, starEach [e] env = [(false, eval e env)]) (hl : (apos.endLine == cpos.line) = true) (h : PE X e (tE fa ca cl W .b a)) :
    PS X (.Expr (.Call (.Attribute (.Name x p) "extend" apos) [e] [] cpos) pos) (tS fa ca cl W w0 (.ext i a)) := by
  refine (ps_expr (pos := pos) (pe_bm PySem.F.plainAttrs_list PySem.F.slot_list_extend PySem.F.type_list_extend mt_extend (pe_var (pos := p) hN hv hd hcd) (pa_cons h pa_nil (hs _)) rfl (by rw [hs]; rfl) hl (hs _) rfl) rfl).weak fun D σ H h => ?_
  obtain ⟨w, env, S, rfl, hi, h⟩ := h
  unfold exS at h
  split at h
  · rename_i xs0 e0
    obtain ⟨p, vs, e2, h1, h2, h3, h4, h5⟩ := own_at hi e0
    refine ⟨.ref p, e2, .inl ⟨rfl, vs, .inl (.inl h1)⟩, ?_⟩
    refine ofE_bind hi h fun d S1 w1 v s1 i1 r1 h1 => ?_
    simp only [e0] at h1
    cases d with
    | list ys =>
      simp only at h1
      split at h1
      · rename_i hlim
        obtain ⟨p', vs', e2', a1, a2, a3, a4, a5⟩ := own_at i1 e0
        rw [e2] at e2'
        cases e2'
        obtain ⟨b, us, rfl, _, b1, b2⟩ := RB.lst (K := X.K) r1
        obtain ⟨i2, ex⟩ := i1.lst (ys := xs0 ++ ys) (us := vs' ++ us) e0 e2 a3 a4 a5 a1 (a2.append b2)
        exact ⟨p, b, vs', us, rfl, rfl, a1, b1, by rw [← a2.length, ← b2.length]; exact lim_ok hlim, h1 _ σ ex i2⟩
      · exact h1.elim
    | _ => exact h1.elim
  · exact h.elim
/-- x = l.pop() -/
theorem ss_popS {i l : Nat} {x y : Str} {p apos cpos pos pt : Pos} (hnd : X.N.Nodup) (hx : X.N[i]? = some x) (hxl : Loc X.env.scope x) (hxf : X.fn x = true ∨ X.env.scope.names.lookup x = some .local) (hN : X.N[l]? = some y) (hv : Vis X.env.scope y) (hd : (y == ("__debug__" : Str)) = false) (hcd : (y == ("__classdict__" : Str)) = false) (hl : (apos.endLine == cpos.line) = true) :
    PS X (.Assign [.Name x pt] (.Call (.Attribute (.Name y p) "pop" apos) [] [] cpos) pos) (tS fa ca cl W w0 (.popS i l)) := by
  refine (ps_set (pos := pos) (pos' := pt) hnd hx hxl (pe_bm0 PySem.F.plainAttrs_list PySem.F.slot_list_pop PySem.F.type_list_pop mt_pop (pe_var (pos := p) hN hv hd hcd) rfl hl) rfl hxf).weak fun D σ H h => ?_
  obtain ⟨w, env, S, rfl, hi, h⟩ := h
  unfold exS at h
  split at h
  · rename_i xs e0
    split at h
    · rename_i d ed
      obtain ⟨p, vs, e2, h1, h2, h3, h4, h5⟩ := own_at hi e0
      rw [List.getLast?_eq_getElem?] at ed
      obtain ⟨v, ev, rv⟩ := h2.get ed
      obtain ⟨i2, ex⟩ := hi.lst (ys := xs.dropLast) (us := vs.dropLast) e0 e2 h3 h4 h5 h1 (by rw [List.dropLast_eq_take, List.dropLast_eq_take, h2.length]; exact h2.take _)
      refine ⟨.ref p, e2, .inl ⟨rfl, vs, .inl (.inl h1)⟩, p, vs, v, rfl, rfl, h1, by rw [← h2.length]; exact ev, ?_⟩
      exact h _ _ ex (i2.setV (rv.mono ex))
    · exact h.elim
  · exact h.elim
theorem popK_some {xs r : List D} {d y : D} (h : popK xs d = some (y, r)) : ∃ k : Int, d = .int k ∧ 0 ≤ k ∧ k < 1000000 ∧ xs[k.toNat]? = some y ∧ r = xs.eraseIdx k.toNat := by
  unfold popK at h
  split at h
  · rename_i k
    split at h
    · rename_i hk
      cases e : xs[k.toNat]? with
      | none =>
        rw [e] at h
        cases h
      | some z =>
        rw [e] at h
        cases h
        exact ⟨k, rfl, hk.1, hk.2, e, rfl⟩
    · cases h
  · cases h
theorem Rs.erase {w : Wd} : ∀ {d : List D} {v : List V} (n : Nat), Rs fa w d v → Rs fa w (d.eraseIdx n) (v.eraseIdx n)
  | _, _, _, .nil => .nil
  | _, _, 0, .cons _ r => r
  | _, _, n + 1, .cons h r => .cons h (Rs.erase n r)
theorem seqIx {k : Int} {n : Nat} (h0 : 0 ≤ k) (h : k.toNat < n) : seqIndex? k n = some k.toNat := by
  obtain ⟨m, rfl⟩ := Int.eq_ofNat_of_zero_le h0
  unfold seqIndex?
  simp only [Int.toNat_natCast] at h ⊢
  have h1 : ¬ ((m : Int) < 0) := by omega
  simp [h1, h]
/-- x = l.pop(e) -/
theorem ss_popA {i l : Nat} {x y : Str} {e : Expr} {a : E} {p apos cpos pos pt : Pos} (hnd : X.N.Nodup) (hx : X.N[i]? = some x) (hxl : Loc X.env.scope x) (hxf : X.fn x = true ∨ X.env.scope.names.lookup x = some .local) (hN : X.N[l]? = some y) (hv : Vis X.env.scope y) (hd : (y == ("__debug__" : Str)) = false) (hcd : (y == ("__classdict__" : Str)) = false)
    (hs : ∀ env, starEach [e] env = [(false, eval e env)]) (hl : (apos.endLine == cpos.line) = true) (h : PE X e (tE fa ca cl W .b a)) : PS X (.Assign [.Name x pt] (.Call (.Attribute (.Name y p) "pop" apos) [e] [] cpos) pos) (tS fa ca cl W w0 (.popA i l a)) := by
  refine (ps_set (pos := pos) (pos' := pt) hnd hx hxl (pe_bm PySem.F.plainAttrs_list PySem.F.slot_list_pop PySem.F.type_list_pop mt_popAt (pe_var (pos := p) hN hv hd hcd) (pa_cons h pa_nil (hs _)) rfl (by rw [hs]; rfl) hl (hs _) rfl) rfl hxf).weak fun D σ H h => ?_
  obtain ⟨w, env, S, rfl, hi, h⟩ := h
  unfold exS at h
  split at h
  · rename_i xs e0
    obtain ⟨p, vs, e2, h1, h2, h3, h4, h5⟩ := own_at hi e0
    refine ⟨.ref p, e2, .inl ⟨rfl, vs, .inl (.inl h1)⟩, ?_⟩
    refine ofE_bind hi h fun d S1 w1 v s1 i1 r1 h1 => ?_
    simp only [e0] at h1
    split at h1
    · rename_i yy r ep
      obtain ⟨k, rfl, k0, k1, ek, rfl⟩ := popK_some ep
      cases RB.int r1
      obtain ⟨p', vs', e2', a1, a2, a3, a4, a5⟩ := own_at i1 e0
      rw [e2] at e2'
      cases e2'
      obtain ⟨u, eu, ru⟩ := a2.get ek
      obtain ⟨i2, ex⟩ := i1.lst (ys := xs.eraseIdx k.toNat) (us := vs'.eraseIdx k.toNat) e0 e2 a3 a4 a5 a1 (a2.erase _)
      exact ⟨p, vs', k, k.toNat, u, rfl, rfl, a1, by omega, by omega, seqIx k0 (List.getElem?_eq_some_iff.mp eu).1, eu, h1 _ _ ex (i2.setV (ru.mono ex))⟩
    · exact h1.elim
  · exact h.elim
/-- k.append(l.pop(e)) -/
theorem ss_appPop {i l : Nat} {x y : Str} {e : Expr} {a : E} {p q apos bpos cpos dpos pos : Pos} (hx : X.N[i]? = some x) (hxv : Vis X.env.scope x) (hxd : (x == ("__debug__" : Str)) = false) (hxcd : (x == ("__classdict__" : Str)) = false) (hN : X.N[l]? = some y) (hv : Vis X.env.scope y) (hd : (y == ("__debug__" : Str)) = false) (hcd : (y == ("__classdict__" : Str)) = false)
    (hs : ∀ env, starEach [e] env = [(false, eval e env)]) (hl : (apos.endLine == cpos.line) = true) (hl2 : (bpos.endLine == dpos.line) = true) (h : PE X e (tE fa ca cl W .b a)) :
    PS X (.Expr (.Call (.Attribute (.Name x q) "append" bpos) [.Call (.Attribute (.Name y p) "pop" apos) [e] [] cpos] [] dpos) pos) (tS fa ca cl W w0 (.appPop i l a)) := by
  refine (ps_expr (pos := pos) (pe_bm PySem.F.plainAttrs_list PySem.F.slot_list_append PySem.F.type_list_append mt_append (pe_var (pos := q) hx hxv hxd hxcd)
    (pa_cons (pe_bm PySem.F.plainAttrs_list PySem.F.slot_list_pop PySem.F.type_list_pop mt_popAt (pe_var (pos := p) hN hv hd hcd) (pa_cons h pa_nil (hs _)) rfl (by rw [hs]; rfl) hl (hs _) rfl) pa_nil) rfl rfl hl2) rfl).weak fun D σ H h => ?_
  obtain ⟨w, env, S, rfl, hi, h⟩ := h
  unfold exS at h
  split at h
  · rename_i ys0 xs0 f0 e0
    split at h
    · exact h.elim
    · rename_i hil
      obtain ⟨p, vs, e2, h1, h2, h3, h4, h5⟩ := own_at hi e0
      obtain ⟨q, us, f2, g1, g2, g3, g4, g5⟩ := own_at hi f0
      refine ⟨.ref q, f2, .inl ⟨rfl, us, .inl (.inl g1)⟩, .ref p, e2, .inl ⟨rfl, vs, .inl (.inl h1)⟩, ?_⟩
      refine ofE_bind hi h fun d S1 w1 v s1 i1 r1 h1 => ?_
      simp only [e0, f0] at h1
      split at h1
      · rename_i yy r ep
        split at h1
        · rename_i hlim
          obtain ⟨k, rfl, k0, k1, ek, rfl⟩ := popK_some ep
          cases RB.int r1
          obtain ⟨p', vs', e2', a1, a2, a3, a4, a5⟩ := own_at i1 e0
          rw [e2] at e2'
          cases e2'
          obtain ⟨u, eu, ru⟩ := a2.get ek
          obtain ⟨i2, ex⟩ := i1.lst (ys := xs0.eraseIdx k.toNat) (us := vs'.eraseIdx k.toNat) e0 e2 a3 a4 a5 a1 (a2.erase _)
          have f0' : (env.set l (.own (xs0.eraseIdx k.toNat)))[i]? = some (.own ys0) := by
            rw [List.getElem?_set_ne (Ne.symm hil)]
            exact f0
          obtain ⟨q', us', f2', b1, b2, b3, b4, b5⟩ := own_at i2 f0'
          rw [f2] at f2'
          cases f2'
          obtain ⟨i3, ex3⟩ := i2.lst (ys := ys0 ++ [yy]) (us := us' ++ [u]) f0' f2 b3 b4 b5 b1 (b2.append (.cons (ru.mono ex) .nil))
          exact ⟨p, vs', k, k.toNat, u, rfl, rfl, a1, by omega, by omega, seqIx k0 (List.getElem?_eq_some_iff.mp eu).1, eu, q, us', u, rfl, rfl, b1, by rw [← b2.length]; exact lim_lt hlim, h1 _ _ (ex.trans ex3) i3⟩
        · exact h1.elim
      · exact h1.elim
  · exact h.elim
/-! ### for -/
theorem ofI_bind {m : Md} {e : E} {σ : St} {w : Wd} {env : Env} {S : Sto} {D : Ends} {k : Mini.D → Sto → RS} (hi : SInv fa w0 w env σ S) (h : PostS fa ca W w0 w D (RS.ofE env (evE cl m e env S) k)) (hb : ∀ d S1, itemsOf d = none → k d S1 = .no) {Q' : It → Hp → Prop}
    (hq : ∀ d items S1 w1 J, itemsOf d = some items → Step w w1 → SInv fa w0 w1 env σ S1 → Wk fa m w1 items J → PostS fa ca W w0 w1 D (k d S1) → Q' J w1.H) : tI fa ca cl W m e σ w.H Q' := by
  refine ⟨w, env, S, rfl, hi.ok, hi.er, ?_⟩
  cases r : evE cl m e env S with
  | ok d S1 =>
    rw [r] at h
    have h : PostS fa ca W w0 w D (k d S1) := h
    cases ei : itemsOf d with
    | none =>
      rw [hb d S1 ei] at h
      exact h.elim
    | some items => exact ⟨items, ei, fun w1 J s k1 wk => hq d items S1 w1 J ei s (hi.step s k1) wk (h.later (s.ext hi.ok))⟩
  | ex c S1 =>
    rw [r] at h
    exact fun w1 C s k1 e => h w1 σ C (s.ext hi.ok) (hi.step s k1) e
  | no =>
    rw [r] at h
    exact h
theorem ss_for {tg iter : Expr} {body : List Stmt} {t : Tg} {it : E} {b : C} {pos : Pos} (hp : PassesOwn (model X.prog X.w) X.A X.env X.xe) (hc : X.calm = true) (hi : PI X tg iter (tI fa ca cl W .v it)) (hg : PG X tg (gT X.K t)) (hb : PSs X body (tS fa ca cl W w0 b)) (hs : ∀ x, foldedSetIterable iter X.env x = pure x) :
    PS X (.For tg iter body [] pos) (tS fa ca cl W w0 (.for_ t it b)) := by
  refine (ps_for (pos := pos) hp hc hi hg hb hs).weak fun D σ H h => ?_
  obtain ⟨w, env, S, rfl, hi, h⟩ := h
  unfold exS at h
  refine ofI_bind hi h (fun d S1 e => by simp only [e]) fun d items S1 w1 J ei s1 i1 wk h1 => ?_
  simp only [ei] at h1
  generalize hf : (fun x env S => match setT t x env with
      | some env1 => exS cl b env1 S
      | none => .no) = f at h1
  obtain ⟨G, Y, hw, hG, hY⟩ := wk.ex
  refine for_it hw (fun i σ H => ∃ w2 env2 S2, w2.H = H ∧ Ext w1 w2 ∧ SInv fa w0 w2 env2 σ S2 ∧ PostS fa ca W w0 w2 D (forL f (items.drop i) env2 S2)) ?_ ?_ ?_ ?_
  · exact ⟨w1, env, S1, rfl, Ext.refl w1, i1, h1⟩
  · rintro i σ H _ ⟨w2, env2, S2, rfl, e2, _⟩
    exact hG w2 e2
  · rintro i x σ H H' hi' ⟨w2, env2, S2, rfl, e2, i2, h2⟩ y
    obtain ⟨d', w3, e1, rfl, s3, k3, r3⟩ := hY w2 i x H' e2 hi' y
    have ed : items.drop i = d' :: items.drop (i + 1) := by
      obtain ⟨hi', e1⟩ := List.getElem?_eq_some_iff.mp e1
      rw [← e1]
      exact List.drop_eq_getElem_cons hi'
    rw [ed] at h2
    unfold forL at h2
    have i3 := i2.step s3 (k3 S2 i2.ok)
    have e3 : Ext w1 w3 := e2.trans (s3.ext i2.ok)
    have h3 := PostS.later (s3.ext i2.ok) h2
    clear h2
    rw [← hf] at h3
    cases es : setT t d' env2 with
    | none =>
      simp only [es] at h3
      exact h3.elim
    | some env3 =>
      simp only [es] at h3
      refine gT_okS es i3 r3 fun σ3 i4 => ⟨w3, env3, S2, rfl, i4, ?_⟩
      rw [hf] at h3
      cases r : exS cl b env3 S2 with
      | nx env4 S4 =>
        simp only [r] at h3
        exact fun w5 σ5 e5 i5 => ⟨w5, env4, S4, rfl, e3.trans e5, i5, PostS.later e5 h3⟩
      | ct env4 S4 =>
        simp only [r] at h3
        exact fun w5 σ5 e5 i5 => ⟨w5, env4, S4, rfl, e3.trans e5, i5, PostS.later e5 h3⟩
      | rt d S4 =>
        simp only [r] at h3
        exact h3
      | bk env4 S4 =>
        simp only [r] at h3
        exact h3
      | ex c env4 S4 =>
        simp only [r] at h3
        exact h3
      | no =>
        simp only [r] at h3
        exact h3
  · rintro σ H ⟨w2, env2, S2, rfl, e2, i2, h2⟩
    rw [List.drop_length] at h2
    exact h2 w2 σ (Ext.refl w2) i2
/-! ### while -/
theorem ss_whl {c : Expr} {body : List Stmt} {x : E} {b : C} {pos : Pos} (hp : PassesOwn (model X.prog X.w) X.A X.env X.xe) (hc : PT X c (tT fa ca cl W x)) (hb : PSs X body (tS fa ca cl W w0 b)) : PS X (.While c body [] pos) (tS fa ca cl W w0 (.whl x b)) := by
  refine (ps_while (pos := pos) hp hc hb).weak fun D σ H h => ?_
  obtain ⟨w, env, S, rfl, hi, h⟩ := h
  unfold exS at h
  refine ⟨fun m σ H => ∃ w2 env2 S2, w2.H = H ∧ SInv fa w0 w2 env2 σ S2 ∧ PostS fa ca W w0 w2 D (whlL (evE cl .b x) (exS cl b) m env2 S2), ⟨100000, w, env, S, rfl, hi, h⟩, ?_⟩
  rintro m σ H ⟨w2, env2, S2, rfl, i2, h2⟩
  cases m with
  | zero => exact h2.elim
  | succ m =>
    unfold whlL at h2
    refine ofT_bind i2 h2 (fun d S1 hn => ?_) fun q S1 w3 s3 i3 h3 => ?_
    · cases d <;> first | rfl | exact absurd rfl (hn _)
    · cases q with
      | true =>
        rw [if_pos rfl]
        refine ⟨fun σ H => ∃ w2 env2 S2, w2.H = H ∧ SInv fa w0 w2 env2 σ S2 ∧ PostS fa ca W w0 w2 D (whlL (evE cl .b x) (exS cl b) m env2 S2), fun σ' H' q => ⟨m, Nat.lt_succ_self m, q⟩, w3, env2, S1, rfl, i3, ?_⟩
        simp only at h3
        cases r : exS cl b env2 S1 with
        | nx env4 S4 =>
          simp only [r] at h3
          exact fun w5 σ5 e5 i5 => ⟨w5, env4, S4, rfl, i5, PostS.later e5 h3⟩
        | ct env4 S4 =>
          simp only [r] at h3
          exact fun w5 σ5 e5 i5 => ⟨w5, env4, S4, rfl, i5, PostS.later e5 h3⟩
        | rt d S4 =>
          simp only [r] at h3
          exact h3
        | bk env4 S4 =>
          simp only [r] at h3
          exact h3
        | ex c env4 S4 =>
          simp only [r] at h3
          exact h3
        | no =>
          simp only [r] at h3
          exact h3
      | false =>
        rw [if_neg Bool.false_ne_true]
        exact h3 w3 σ (Ext.refl w3) i3
end
end Mini
/-! sorted(..) of tuples, the empty one too. -/
namespace PySem.W
open PySem PySem.Calls PySem.SeqAt PyProof.Rows
section
variable {prog : Program} {w : World} {A : Around} {E : Value → Shared → Prop} {s : Shared}
theorem call_tup_lt {Q : Value → Shared → Prop} {l b : Addr} {items items2 : Array Value} {e r : Nat → Bool} (hl : s.heap.IsTuple l items) (hb : s.heap.IsTuple b items2)
    (he : ∀ j (h1 : j < items.size) (h2 : j < items2.size), EqAt A.in1 s items[j] items2[j] (e j)) (hr : ∀ j (h1 : j < items.size) (h2 : j < items2.size), e j = false → RcLt A.in1 s items[j] items2[j] (r j))
    (h : Q (.bool (firstLt e r (decide (items.size < items2.size)) (List.range (min items.size items2.size)))) s) : wpAny (model prog w) A (call (.builtin "tuple.__lt__") [.ref l, .ref b]) Q E s := by
  obtain ⟨⟨cls, dd, data, sl⟩, ho, hc, n, hd⟩ := id hl
  obtain ⟨⟨cls2, dd2, data2, sl2⟩, ho2, hc2, n2, hd2⟩ := id hb
  simp only at hc hd hc2 hd2
  subst hc hd hc2 hd2
  exact call_meets F.slot_tuple_lt ⟨_, ho, rfl⟩ F.entry_tuple_lt (F.args_tuple_lt_2 _ _) (tuple_ltAt l b items items2 n n2 dd dd2 sl sl2 e r) ⟨ho, ho2, he, hr, h⟩
theorem oneLt_tup {xs ys : List PyData} {a b : Value} {as bs : List Addr} {Q : Bool → Shared → Prop} (ra : Reads s.heap a (.tuple xs) as) (rb : Reads s.heap b (.tuple ys) bs) (h : alike (.tuple xs) (.tuple ys) = true)
    (hu : A.units + min (PyData.tuple xs).depth (PyData.tuple ys).depth < cLine) (hq : Q (dataLt (.tuple xs) (.tuple ys)) s) : wpAny (model prog w) A (oneLt' true a b) Q E s := by
  have hal : alikeAll xs ys = true := by simpa [alike] using h
  cases ra with
  | @tuple l o vs n _ as₁ h1 h2 h3 h4 =>
    cases rb with
    | @tuple l' o' vs' n' _ bs₁ k1 k2 k3 k4 =>
      have n1 : vs.size = xs.length := by simpa using ReadsAll.length _ _ _ h4
      have n2 : vs'.size = ys.length := by simpa using ReadsAll.length _ _ _ k4
      rw [dataLt_tuple, ← firstLt_toks xs ys hal, ← n1, ← n2] at hq
      rw [oneLt'_eq]
      simp only [if_true]
      refine wpAny_bind (wpAny_cRoomFor (room_here hu) ?_)
      refine wpAny_bind (wpAny_callSpecialIfBound?_slot (T := "tuple") ⟨_, h1, h2⟩ F.slot_tuple_lt (call_tup_lt (e := pairEq xs ys) (r := fun j => dataLt (xs.getD j .none) (ys.getD j .none)) ⟨_, h1, h2, _, h3⟩ ⟨_, k1, k2, _, k3⟩ (fun j j1 j2 => ?_) (fun j j1 j2 hj => ?_) ?_))
      · have := eqAt_alikeAll xs ys A.in1 s vs.toList vs'.toList _ _ h4 k4 hal (room_in hu) j (by simpa using j1) (by simpa using j2)
        simpa using this
      · have := rcLt_alikeAll xs ys A.in1 s vs.toList vs'.toList _ _ h4 k4 hal (room_in hu) j (by simpa using j1) (by simpa using j2) hj
        simpa using this
      · exact wpAny_truthy_bool hq
theorem keyLt_gen (x y : Value) : keyLt' general' x y = oneLt' false x y := rfl
/-- all are tuples, or none is a tuple or None -/
def Sortable2 (ds : List PyData) : Prop := (∀ d, d ∈ ds → ∃ xs, d = .tuple xs) ∨ ∀ d, d ∈ ds → d ≠ .none ∧ ∀ xs, d ≠ .tuple xs
def isCons : PyData → Bool
  | .tuple (_ :: _) => true
  | _ => false
theorem mapM_firsts {M : Model} : ∀ {vs : List Value} {ds : List PyData}, EachIs (fun v d => ∃ as, Reads s.heap v d as) vs ds → (∀ d, d ∈ ds → ∃ xs, d = .tuple xs) →
    ∃ fs : List (Option Value), fs.map Option.isSome = ds.map isCons ∧ ∀ {Q : List (Option Value) → Shared → Prop}, Q fs s → wpAny M A (vs.mapM firstOfTuple') Q E s
  | _, _, .nil, _ => ⟨[], rfl, fun h => by rw [List.mapM_nil]; exact wpAny_pure h⟩
  | _, _, .cons (b := d) ⟨as, r⟩ t, ht => by
    obtain ⟨fs, h1, h2⟩ := mapM_firsts (M := M) t fun d hd => ht d (List.mem_cons_of_mem _ hd)
    obtain ⟨rest, rfl⟩ := ht d (List.mem_cons_self ..)
    cases r with
    | @tuple a o xs n _ _ ho hc hd hr =>
      have nl : xs.size = rest.length := by simpa using ReadsAll.length _ _ _ hr
      refine ⟨xs[0]? :: fs, ?_, fun {Q} h => ?_⟩
      · rw [List.map_cons, List.map_cons, h1]
        congr 1
        cases rest with
        | nil =>
          have e : xs[0]? = none := Array.getElem?_eq_none (by rw [nl]; exact Nat.le_refl _)
          rw [e]
          rfl
        | cons y ys =>
          have e : 0 < xs.size := by rw [nl]; exact Nat.succ_pos _
          rw [Array.getElem?_eq_getElem e]
          rfl
      · rw [List.mapM_cons]
        refine wpAny_bind ?_
        rw [kas_first_eq]
        have lk : Looks M s.heap (typeOf (Value.ref a)) (Value.type "tuple") := hc ▸ (Looks.ld ho).andThen .now
        refine wpAny_bind (lk.here ?_)
        rw [if_neg (by simp)]
        refine wpAny_bind (listItems_at (xs := xs) (n := n) ho hd ?_)
        refine wpAny_pure ?_
        exact wpAny_bind (h2 (wpAny_pure h))
theorem looks_tuple {M : Model} {v : Value} {d : PyData} {as : List Addr} (r : Reads s.heap v d as) (h : ∃ xs, d = .tuple xs) : Looks M s.heap (typeOf v) (Value.type "tuple") := by
  obtain ⟨xs, rfl⟩ := h
  exact looks_reads r
/-- the kind of tuples of which one is empty -/
theorem kind_tups {M : Model} {vs : List Value} {ds : List PyData} {Q : SortKind → Shared → Prop} (h2 : 2 ≤ vs.length) (e : EachIs (fun v d => ∃ as, Reads s.heap v d as) vs ds) (ht : ∀ d, d ∈ ds → ∃ xs, d = .tuple xs) (hn : ds.all isCons = false)
    (h : Q (if (ds.head?.map isCons).getD false then general' else oneType') s) : wpAny M A (keyKind' vs.toArray) Q E s := by
  obtain ⟨fs, f1, f2⟩ := mapM_firsts (M := M) (A := A) (E := E) e ht
  have hall : fs.all (·.isSome) = false := by
    have : fs.all (·.isSome) = (fs.map Option.isSome).all id := by rw [List.all_map]; rfl
    rw [this, f1, List.all_map]
    exact hn
  have h0 : (fs.toArray[0]?.bind id).isSome = (ds.head?.map isCons).getD false := by
    cases fs with
    | nil =>
      cases ds with
      | nil => rfl
      | cons d ds => cases f1
    | cons f fs =>
      cases ds with
      | nil => cases f1
      | cons d ds =>
        have q := (List.cons.inj f1).1
        simp only [List.head?_cons, Option.map_some, Option.getD_some]
        rw [← q]
        simp
  rw [keyKind'_eq, List.mapM_toArray, map_eq_pure_bind]
  refine wpAny_bind (wpAny_bind (f2 (wpAny_pure ?_)))
  rw [if_neg (by simp only [List.all_toArray]; rw [hall]; simp), h0]
  cases hq : (ds.head?.map isCons).getD false with
  | true =>
    rw [hq] at h
    simp only [if_true] at h ⊢
    exact wpAny_pure h
  | false =>
    rw [hq] at h
    simp only [Bool.false_eq_true, if_false] at h ⊢
    obtain ⟨v₁, v₂, rest, rfl⟩ : ∃ v₁ v₂ rest, vs = v₁ :: v₂ :: rest := by
      match vs, h2 with
      | [], h2 => simp at h2
      | [_], h2 => simp at h2
      | v₁ :: v₂ :: rest, _ => exact ⟨v₁, v₂, rest, rfl⟩
    rw [oneTypeOnly'_eq, List.mapM_toArray, map_eq_pure_bind]
    refine wpAny_bind (wpAny_bind (wpAny_bind (kas_mapM (r := Value.type "tuple") _ (fun v hv Q' hq => ?_) (wpAny_pure ?_))))
    · obtain ⟨d, hd, as, r⟩ := e.left v hv
      exact (looks_tuple r (ht d hd)).here hq
    · have hall : ((List.map (fun _ => Value.type "tuple") (v₁ :: v₂ :: rest)).toArray.all fun x => x == Value.type "tuple") = true := by
        simp only [List.all_toArray, List.all_map, List.all_eq_true]
        intro _ _
        rfl
      have h0 : (List.map (fun _ => Value.type "tuple") (v₁ :: v₂ :: rest)).toArray[0]? = some (Value.type "tuple") := by simp
      rw [h0]
      simp only [hall, if_true]
      exact wpAny_pure (wpAny_pure h)
/-- values that read as alike data can be sorted: tuples, or none of them -/
theorem SortsAt.data2 {vs : List Value} {ds : List PyData} (e : EachIs (fun v d => ∃ as, Reads s.heap v d as) vs ds) (hal : AllAlike ds) (hk : Sortable2 ds) (hu : ∀ d, d ∈ ds → A.units + d.depth < cLine) : SortsAt prog w A s (dataKind s.heap ds) vs := by
  rcases hk with ht | hn
  · cases hc : ds.all isCons with
    | true =>
      refine SortsAt.data e hal (.inl fun d hd => ?_) hu
      have q := List.all_eq_true.mp hc d hd
      obtain ⟨xs, rfl⟩ := ht d hd
      cases xs with
      | nil => cases q
      | cons x r => exact ⟨x, r, rfl⟩
    | false =>
      have room : ∀ {d d' : PyData}, d ∈ ds → A.units + min d.depth d'.depth < cLine := fun {d d'} hd => Nat.lt_of_le_of_lt (Nat.add_le_add_left (Nat.min_le_left _ _) _) (hu d hd)
      refine ⟨fun v hv => ?_, _, ?_, fun h2 E Q hq => kind_tups h2 e ht hc hq⟩
      · obtain ⟨d, hd, as, r⟩ := e.left v hv
        exact ⟨_, dataKind_some hal hd r⟩
      · intro E x y a b Q ha hb hq
        obtain ⟨d, as, hd, ra, rfl⟩ := dataKind_inv ha
        obtain ⟨d', as', hd', rb, rfl⟩ := dataKind_inv hb
        obtain ⟨xs, rfl⟩ := ht d hd
        obtain ⟨ys, rfl⟩ := ht d' hd'
        cases hq' : (ds.head?.map isCons).getD false with
        | true =>
          rw [if_pos rfl, keyLt_gen]
          exact oneLt_alike (fun h => by cases h) ra rb (hal _ hd _ hd') (fun h => by cases h) (room hd) hq
        | false =>
          rw [if_neg (by simp), keyLt'_oneType]
          exact oneLt_tup ra rb (hal _ hd _ hd') (room hd) hq
  · exact SortsAt.data e hal (.inr hn) hu
end
section
variable {prog : Program} {w : World} {A : Around} {E : Value → Shared → Prop} {s : Shared} {β : Type} {vs : List Value} {bs : List β} {enc : β → PyData} {R : Value → β → Prop}
theorem sorted_data2 {l : Addr} {Q : Value → Shared → Prop} (hl : s.heap.IsList l vs.toArray) (e : EachIs R vs bs) (er : EachIs (fun v b => ∃ as, Reads s.heap v (enc b) as) vs bs) (hal : AllAlike (bs.map enc)) (hk : Sortable2 (bs.map enc)) (hL : bs.length ≤ sizeLine)
    (hu : ∀ b, b ∈ bs → A.units + 2 + (enc b).depth < cLine) (h : ∀ out, out.length = bs.length → EachIs R out (bs.mergeSort (dataLe false enc)) → Q (.ref (s.heap.objs.size + 1)) { s with heap := sortedAll s.heap vs (List.toArray out) }) :
    wpAny (model prog w) A (call (.builtin "sorted") [.ref l]) Q E s := by
  have er' : EachIs (fun v b => ∃ as, Reads (sortingHeap (copyHeap s.heap vs) (s.heap.objs.size + 1) vs) v (enc b) as) vs bs := er.mono fun _ _ ⟨as, r⟩ => ⟨as, PyProof.Rows.Reads.keeps (fun _ _ => sorting_copy_old) r⟩
  exact sorted_vals hl (SortsAt.data2 (s := { s with heap := sortingHeap (copyHeap s.heap vs) (s.heap.objs.size + 1) vs }) (each_map (R := fun v d => ∃ as, Reads (sortingHeap (copyHeap s.heap vs) (s.heap.objs.size + 1) vs) v d as) enc er') hal hk (bound_map hu)) (by rw [e.length]; exact hL)
    (h _ (by rw [sortVals_length false rfl]; exact e.length) (sortVals_data false e er' hal))
end
end PySem.W
/-! sorted(..) of plain data; isinstance. -/
namespace PySem.W
open PySem PySem.Calls PyProof.Rows
section
variable {β : Type} {prog : Program} {w : World} {A : Around} {E : Value → Shared → Prop} {s : Shared} {R : Value → β → Prop} {enc : β → PyData} {vs : List Value} {bs : List β}
/-- what sorted(..) begins with, of a tuple -/
theorem collectT {t : Addr} {Q : List Value → Shared → Prop} (hl : s.heap.IsTuple t vs.toArray) (hsz : vs.length ≤ sizeLine)
    (h : Q vs { s with heap := (s.heap.push (seqObj "list" #[] 0)).update s.heap.objs.size (Obj.mapSeq (· ++ vs.toArray)) }) : wpAny (model prog w) A (collect (.ref t)) Q E s := by
  obtain ⟨o, ho, hc, n, hd⟩ := id hl
  have ho' : (s.heap.push (seqObj "list" #[] 0)).get? t = some o := Heap.get?_push_of_some _ ho
  unfold collect
  refine wpAny_bind (wpAny_runValue (codeAny_builtin entry_proto_collect' ?_))
  show wpAny _ _ (do
    again (.builtin "list.__iadd__" ⟨[← newList [], .ref t], []⟩)) _ _ s
  refine wpAny_bind (wpAny_newList (wpAny_pure ⟨Code.quiet_builtin _ (by decide +kernel), codeAny_builtin entry_list_iadd' ?_⟩))
  show wpAny _ _ (Builtin.List.listExtendWith (.ref s.heap.objs.size) (.ref t) (.ref s.heap.objs.size)) _ _ _
  unfold Builtin.List.listExtendWith
  refine wpAny_bind (wpAny_typeOf (T := "tuple") ⟨o, ho', hc⟩ ?_)
  have ht : (Value.type "tuple" == Value.type "tuple") = true := by rfl
  rw [if_pos (by rw [ht] <;> simp)]
  refine wpAny_bind (listItems_at (xs := vs.toArray) (n := n) ho' hd ?_)
  refine wpAny_bind (listItems_at (n := 0) (xs := #[]) (Heap.get?_push_size _ rfl) rfl ?_)
  rw [if_neg (by simp)]
  have hsum : ((#[] : Array Value) ++ vs.toArray).size ≤ sizeLine + 1 := by
    simp only [List.size_toArray, List.length_nil, Array.size_append]
    omega
  refine wpAny_bind (listUpdate_at (n := 0) (xs := #[]) (Heap.get?_push_size _ rfl) rfl ?_ (Nat.zero_le _) hsum)
  refine wpAny_pure ?_
  refine wpAny_bind (wpAny_load (get?_update_seq (Heap.get?_push_size _ rfl) _) ?_)
  have e : ((#[] : Array Value) ++ vs.toArray).toList = vs := by simp
  show wpAny _ _ (pure ((#[] : Array Value) ++ vs.toArray).toList) _ _ _
  rw [e]
  exact wpAny_pure h
theorem sortedT_of {t : Addr} {Q : Value → Shared → Prop} (hl : s.heap.IsTuple t vs.toArray) (hL : vs.length ≤ sizeLine)
    (body : ∀ E' : Value → Shared → Prop, wpAny (model prog w) A.in1.in1 (Builtin.«list.sort» ⟨[.ref (s.heap.objs.size + 1)], []⟩) (fun f s' => f = .done (.ret .none) ∧ Q (.ref (s.heap.objs.size + 1)) s') E' { s with heap := copyHeap s.heap vs }) :
    wpAny (model prog w) A (call (.builtin "sorted") [.ref t]) Q E s := by
  refine call_function_entry_kw kind_sorted plain_sorted entry_sorted (args_sorted1 _) ?_
  unfold Builtin.«sorted»
  refine wpAny_bind (m := checkCount "sorted" 1 1 _) (wpAny_pure (wpAny_bind (collectT hl hL (wpAny_bind (wpAny_newList ?_ hL)))))
  have hz : ((s.heap.push (seqObj "list" #[] 0)).update s.heap.objs.size (Obj.mapSeq (· ++ vs.toArray))).objs.size = s.heap.objs.size + 1 := by
    rw [Heap.size_update] <;> exact size_push' ..
  show wpAny _ _ _ _ _ { s with heap := copyHeap s.heap vs }
  rw [hz]
  refine wpAny_bind (wpAny_holding (wpAny_call_entry_kw slot_list_sort ⟨_, copyHeap_at s.heap vs, rfl⟩ entry_list_sort ?_ (args_list_sort _)))
  refine wpAny_mono (body _) (fun f s' hf => ?_) fun _ _ e => e
  obtain ⟨rfl, hq⟩ := hf
  exact ⟨_, rfl, wpAny_pure ⟨_, rfl, hq⟩⟩
theorem sortedT_data {l : Addr} {Q : Value → Shared → Prop} (hl : s.heap.IsTuple l vs.toArray) (e : EachIs R vs bs) (er : EachIs (fun v b => ∃ as, Reads s.heap v (enc b) as) vs bs) (hal : AllAlike (bs.map enc)) (hk : Sortable2 (bs.map enc)) (hL : bs.length ≤ sizeLine)
    (hu : ∀ b, b ∈ bs → A.units + 2 + (enc b).depth < cLine) (h : ∀ out, out.length = bs.length → EachIs R out (bs.mergeSort (dataLe false enc)) → Q (.ref (s.heap.objs.size + 1)) { s with heap := sortedAll s.heap vs (List.toArray out) }) :
    wpAny (model prog w) A (call (.builtin "sorted") [.ref l]) Q E s := by
  have e2 := er.mono (R' := fun v b => ∃ as, Reads (sortingHeap (copyHeap s.heap vs) (s.heap.objs.size + 1) vs) v (enc b) as) fun _ _ ⟨as, r⟩ => ⟨as, PyProof.Rows.Reads.keeps (fun _ _ => sorting_copy_old) r⟩
  have hlen : vs.length ≤ sizeLine := by
    rw [e.length]
    exact hL
  have S := SortsAt.data2 (prog := prog) (w := w) (A := A.in1.in1) (s := { s with heap := sortingHeap (copyHeap s.heap vs) (s.heap.objs.size + 1) vs }) (each_map (R := fun v d => ∃ as, Reads (sortingHeap (copyHeap s.heap vs) (s.heap.objs.size + 1) vs) v d as) enc e2) hal hk (bound_map hu)
  refine sortedT_of hl hlen fun _ => list_sort_vals (s := { s with heap := copyHeap s.heap vs }) (copyHeap_at s.heap vs) S hlen ⟨rfl, ?_⟩
  exact h _ (by rw [sortVals_length false rfl]; exact e.length) (sortVals_data false e e2 hal)
end
end PySem.W
namespace Mini
open PySem L2
variable {fa : FA} {ca : CA} {cl : Calls}
/-- sorted(..) of a list or a tuple of plain data -/
def rSortD (K : PySem.W.Frag) : List V → Hp → VK → Prop := fun us H Q => ∃ a xs ds, us = [.ref a] ∧ (SqL K H a xs ∨ SqT K H a xs) ∧ DpAll K H xs ds ∧ PySem.W.AllAlike ds ∧ PySem.W.Sortable2 ds ∧ (∀ d ∈ ds, d.depth ≤ 64) ∧
  ∀ p, H p = none → Q (.ref p) (upd H p (.lst (((ds.zip xs).mergeSort (PySem.W.dataLe false (·.1))).map (·.2))))
theorem each_zip {X : Cx} {pins : List (Addr × Obj)} {s : Shared} {σ : St} {H : Hp} (I : Inv X pins σ H s) : ∀ {ds : List D} {xs : List V} {us : List Value}, DpAll X.K H xs ds → Vals xs us →
    PySem.W.EachIs (fun (v : Value) (b : D × V) => RelV b.2 v) us (ds.zip xs) ∧ PySem.W.EachIs (fun (v : Value) (b : D × V) => ∃ as, Reads s.heap v b.1 as) us (ds.zip xs)
  | _, _, _, .nil, .nil => ⟨.nil, .nil⟩
  | d :: ds, _, _, .cons p q, .cons r t => ⟨.cons r (each_zip I q t).1, .cons (Dp.reads I d _ _ p r) (each_zip I q t).2⟩
theorem dp_len {K : PySem.W.Frag} {H : Hp} : ∀ {ds : List D} {xs : List V}, DpAll K H xs ds → ds.length = xs.length
  | _, _, .nil => rfl
  | _, _, .cons _ q => by rw [List.length_cons, List.length_cons, dp_len q]
theorem vals_each : ∀ {us : List Value} {zs : List (D × V)}, PySem.W.EachIs (fun (v : Value) (b : D × V) => RelV b.2 v) us zs → Vals (zs.map (·.2)) us
  | _, _, .nil => .nil
  | _, _, .cons r t => .cons r (vals_each t)
theorem cr_sortD {X : Cx} (hu : X.A.units + 100 < cLine) : CallR X (.builtin "sorted") (rSortD X.K) := by
  intro pins s σ H vs us Q I r h
  obtain ⟨a, xs, ds, rfl, hs, hd, h1, h2, h3, q⟩ := h
  rw [Vals.ref1 r]
  have fin : ∀ (its : List Value), Vals xs its → xs.length ≤ sizeLine → ∀ out : List Value, out.length = (ds.zip xs).length → PySem.W.EachIs (fun (v : Value) (b : D × V) => RelV b.2 v) out ((ds.zip xs).mergeSort (PySem.W.dataLe false (·.1))) →
      EP X pins σ Q (.ref (s.heap.objs.size + 1)) { s with heap := PyProof.Rows.sortedAll s.heap its out.toArray } := fun its rv hz out ho eo => by
    obtain ⟨ep, he'⟩ := PyProof.Rows.sortedAll_at s.heap its out.toArray
    have hl : ((((ds.zip xs).mergeSort (PySem.W.dataLe false (·.1))).map (·.2)) : List V).length ≤ sizeLine := by
      rw [List.length_map, List.length_mergeSort, List.length_zip, dp_len hd, Nat.min_self]
      exact hz
    exact ⟨.ref _, upd H (s.heap.objs.size + 1) (.lst (((ds.zip xs).mergeSort (PySem.W.dataLe false (·.1))).map (·.2))), I.laid (t' := s.toks) (fun _ _ => PyProof.Rows.sortedAll_old) (Nat.le_succ _) ⟨hl, out, ep, vals_each eo, he'⟩, rfl, q _ (I.hok.fresh (Nat.le_succ _))⟩
  have em : (ds.zip xs).map (fun b => b.1) = ds := List.map_fst_zip (by rw [dp_len hd]; exact Nat.le_refl _)
  have hb : ∀ b ∈ ds.zip xs, X.A.units + 2 + b.1.depth < cLine := fun b hb => by
    have := h3 b.1 (List.of_mem_zip hb).1
    omega
  have hlz : xs.length ≤ sizeLine → (ds.zip xs).length ≤ sizeLine := fun hz => by
    rw [List.length_zip, dp_len hd, Nat.min_self]
    exact hz
  rcases hs with hs | hs
  · obtain ⟨its, rv, hl, hz⟩ := I.list hs
    obtain ⟨e1, e2⟩ := each_zip I hd rv
    exact PySem.W.sorted_data2 (enc := fun b : D × V => b.1) hl.isList e1 e2 (by rw [em]; exact h1) (by rw [em]; exact h2) (hlz hz) hb (fin its rv hz)
  · obtain ⟨its, rv, hl, hz⟩ := I.tuple hs
    obtain ⟨e1, e2⟩ := each_zip I hd rv
    exact PySem.W.sortedT_data (enc := fun b : D × V => b.1) (isTup_isTuple hl) e1 e2 (by rw [em]; exact h1) (by rw [em]; exact h2) (hlz hz) hb (fin its rv hz)
theorem Rs.zip {w : Wd} : ∀ {ds : List D} {vs : List V}, Rs fa w ds vs → ∀ b ∈ ds.zip vs, R fa w b.1 b.2
  | _, _, .nil, b, h => by cases h
  | _, _, .cons r t, b, h => by
    rcases List.mem_cons.mp h with rfl | h
    · exact r
    · exact Rs.zip t b h
theorem Rs.unzip {w : Wd} : ∀ {zs : List (D × V)}, (∀ b ∈ zs, R fa w b.1 b.2) → Rs fa w (zs.map (·.1)) (zs.map (·.2))
  | [], _ => .nil
  | z :: zs, h => .cons (h z List.mem_cons_self) (Rs.unzip fun b hb => h b (List.mem_cons_of_mem _ hb))
theorem Rs.sort {w : Wd} {ds : List D} {vs : List V} (h : Rs fa w ds vs) : Rs fa w (sortD ds) (((ds.zip vs).mergeSort (PySem.W.dataLe false (·.1))).map (·.2)) := by
  have e : sortD ds = ((ds.zip vs).mergeSort (PySem.W.dataLe false (·.1))).map (·.1) := by
    rw [sortD_eq]
    rw [List.map_mergeSort (r := PySem.W.dataLe false (fun b : D × V => b.1)) (s := PySem.W.dataLe false id) (f := fun b : D × V => b.1) (fun a _ b _ => rfl), List.map_fst_zip (by rw [h.length]; exact Nat.le_refl _)]
  rw [e]
  exact Rs.unzip fun b hb => h.zip b ((List.mergeSort_perm _ _).mem_iff.mp hb)
theorem alikes_ok {ds : List D} (h : alikes ds = true) : PySem.W.AllAlike ds ∧ PySem.W.Sortable2 ds ∧ (∀ d ∈ ds, d.depth ≤ 64) ∧ PyData.canLayAll0 ds = true := by
  unfold alikes at h
  rw [Bool.and_eq_true, List.all_eq_true] at h
  obtain ⟨h, hs⟩ := h
  refine ⟨fun d hd d' hd' => ?_, ?_, fun d hd => ?_, ?_⟩
  · have q := h d hd
    simp only [Bool.and_eq_true, List.all_eq_true] at q
    exact q.2 d' hd'
  · rw [Bool.or_eq_true, List.all_eq_true, List.all_eq_true] at hs
    rcases hs with hs | hs
    · refine .inl fun d hd => ?_
      have q := hs d hd
      split at q
      · exact ⟨_, rfl⟩
      · cases q
    · refine .inr fun d hd => ?_
      have q := hs d hd
      split at q
      · cases q
      · cases q
      · rename_i n1 n2
        exact ⟨fun z => n2 z, fun xs z => n1 xs z⟩
  · have q := h d hd
    simp only [Bool.and_eq_true] at q
    exact SeqAt.depth_of_shaped q.1.1
  · clear hs
    have : ∀ (xs : List D), (∀ d ∈ xs, d ∈ ds) → PyData.canLayAll0 xs = true := fun xs => by
      induction xs with
      | nil => exact fun _ => by simp [PyData.canLayAll0]
      | cons x xs ih =>
        intro hx
        have q := h x (hx x List.mem_cons_self)
        simp only [Bool.and_eq_true] at q
        rw [PyData.canLayAll0, Bool.and_eq_true]
        exact ⟨SeqAt.canLay_of_shaped q.1.1, ih fun d hd => hx d (List.mem_cons_of_mem _ hd)⟩
    exact this ds fun d hd => hd
theorem v_sorted {K : PySem.W.Frag} : VP fa ca (rSortD K) .sorted := by
  intro w S vs ds d m W σ Q k rs e hm h
  unfold primF at e
  split at e <;> first | cases e | skip
  all_goals try contradiction
  · split at e
    · rename_i ha
      cases e
      obtain ⟨v, rfl, rb⟩ := rs.one
      obtain ⟨a, vs, rfl, q1, _, r⟩ := rb.lst (K := K)
      obtain ⟨a1, a2, a3, a4⟩ := alikes_ok ha
      exact ⟨a, vs, _, rfl, .inl q1, r.dp a4, a1, a2, a3, fun p hp => h.lst k r.sort hp⟩
    · cases e
  · split at e
    · rename_i ha
      cases e
      obtain ⟨v, rfl, rb⟩ := rs.one
      obtain ⟨a, vs, rfl, q1, _, r⟩ := rb.tup (K := K)
      obtain ⟨a1, a2, a3, a4⟩ := alikes_ok ha
      exact ⟨a, vs, _, rfl, .inr q1, r.dp a4, a1, a2, a3, fun p hp => h.lst k r.sort hp⟩
    · cases e
/-! ### isinstance -/
section
variable {X : Cx} {W : WX} {m : Md}
theorem isiF_scalar {t : Ty} {x : D} {d : D} (e : primF (.isi t) [x] = some d) : ∃ b, isiF t x = some b ∧ d = .bool b := by
  have e : (isiF t x).map .bool = some d := e
  cases e1 : isiF t x with
  | none => rw [e1] at e; cases e
  | some b => rw [e1] at e; cases e; exact ⟨b, rfl, rfl⟩
theorem boot_ty : (["int", "bool", "str", "tuple", "list"] : List String).all (fun n => decide (bootBuiltins (Str.ofString n) = some (.type n))) = true := by decide +kernel
theorem boot_tyS {t : Ty} (ht : t ≠ .lt) (hd : t ≠ .dict) : bootBuiltins (Str.ofString (tyS t)) = some (.type (tyS t)) := by
  have h := boot_ty
  simp only [List.all_cons, List.all_nil, Bool.and_true, Bool.and_eq_true, decide_eq_true_eq] at h
  obtain ⟨h1, h2, h3, h4, h5⟩ := h
  cases t with
  | int => exact h1
  | bool => exact h2
  | str => exact h3
  | tuple => exact h4
  | list => exact h5
  | lt => exact absurd rfl ht
  | dict => exact absurd rfl hd
/-- isinstance(e, T) -/
theorem se_isi {t : Ty} {e : Expr} {a : E} {tn : Str} {p q pos : Pos} (ht : t ≠ .lt) (hd : t ≠ .dict) (htn : tn = Str.ofString (tyS t)) (hg : Gl X "isinstance") (hmg : X.mg "isinstance" = none) (hg2 : Gl X tn) (hmg2 : X.mg tn = none) (hn2 : tn ≠ "__name__") (hdb2 : (tn == ("__debug__" : Str)) = false)
    (hs : ∀ env, starEach [e, .Name tn q] env = [(false, eval e env), (false, eval (.Name tn q) env)]) (h : PE X e (tE fa ca cl W .b a)) : PE X (.Call (.Name "isinstance" p) [e, .Name tn q] [] pos) (tE fa ca cl W m (.prim (.isi t) (.cons a .nil))) := by
  have hb : bootBuiltins tn = some (.type (tyS t)) := by rw [htn]; exact boot_tyS ht hd
  have ha : PA X [e, .Name tn q] _ := pa_cons h (pa_cons (pe_bltn (v := .ty (tyS t)) (pos := q) hg2 hmg2 hb rfl hn2 hdb2) pa_nil) (hs _)
  refine (pe_callB (p := p) (pos := pos) call_isi hg hmg PyProof.Rows.boot_isinstance ha (by decide) (by decide) (hs _) rfl).weak fun σ H Q h => ?_
  obtain ⟨w, env, S, rfl, k, he, h⟩ := h
  unfold evE at h
  refine ⟨w, env, S, rfl, k, he, ?_⟩
  unfold evE at h
  cases r : evE cl .b a env S with
  | no =>
    rw [r] at h
    exact h
  | ex c S1 =>
    rw [r] at h
    exact h
  | ok d S1 =>
    rw [r] at h
    intro w1 v s1 k1 rb
    have h : PostE fa ca W σ m w (ofO (primF (.isi t) [d]) S1) Q := h
    cases f : primF (.isi t) [d] with
    | none =>
      rw [f] at h
      exact h.elim
    | some d2 =>
      rw [f] at h
      obtain ⟨b, e1, rfl⟩ := isiF_scalar f
      have ty := RB.ty (K := X.K) rb (isiF_nd e1)
      rw [tyN_eq] at ty
      exact ⟨v, .ty (tyS t), .type (tyN d), .type (tyS t), b, rfl, .ty _, .base ty, kit_ty (isi_kit ht hd e1), h w1 (.bl b) s1 k1 (.sc rfl (.bl b))⟩
theorem lt_kit {d : D} {b : Bool} (e : isiF .lt d = some b) : ∃ b1 b2, isiF .list d = some b1 ∧ isiF .tuple d = some b2 ∧ b = (b1 || b2) := by
  cases d <;> cases e <;> exact ⟨_, _, rfl, rfl, rfl⟩
/-- isinstance(e, (T1, T2)), the types list and tuple -/
theorem se_isiLT {t1 t2 : Ty} {e : Expr} {a : E} {tn1 tn2 : Str} {j : Nat} {p q1 q2 q pos : Pos} (hT : (t1 = .list ∧ t2 = .tuple) ∨ (t1 = .tuple ∧ t2 = .list)) (htn1 : tn1 = Str.ofString (tyS t1)) (htn2 : tn2 = Str.ofString (tyS t2)) (hg : Gl X "isinstance") (hmg : X.mg "isinstance" = none)
    (hg1 : Gl X tn1) (hmg1 : X.mg tn1 = none) (hg2 : Gl X tn2) (hmg2 : X.mg tn2 = none) (hn1 : tn1 ≠ "__name__") (hdb1 : (tn1 == ("__debug__" : Str)) = false) (hn2 : tn2 ≠ "__name__") (hdb2 : (tn2 == ("__debug__" : Str)) = false)
    (hs : ∀ env x, starEach [e, .Tuple x j q] env = [(false, eval e env), (false, eval (.Tuple x j q) env)]) (h : PE X e (tE fa ca cl W .b a)) : PE X (.Call (.Name "isinstance" p) [e, .Tuple [.Name tn1 q1, .Name tn2 q2] j q] [] pos) (tE fa ca cl W m (.prim (.isi .lt) (.cons a .nil))) := by
  have n1 : t1 ≠ .lt ∧ t1 ≠ .dict ∧ t2 ≠ .lt ∧ t2 ≠ .dict := by
    rcases hT with ⟨rfl, rfl⟩ | ⟨rfl, rfl⟩ <;> exact ⟨by decide, by decide, by decide, by decide⟩
  have hb1 : bootBuiltins tn1 = some (.type (tyS t1)) := by rw [htn1]; exact boot_tyS n1.1 n1.2.1
  have hb2 : bootBuiltins tn2 = some (.type (tyS t2)) := by rw [htn2]; exact boot_tyS n1.2.2.1 n1.2.2.2
  have ht : PE X (.Tuple [.Name tn1 q1, .Name tn2 q2] j q) _ := pe_tup (x1 := j) (pos := q) (pa_cons (pe_bltn (v := .ty (tyS t1)) (pos := q1) hg1 hmg1 hb1 rfl hn1 hdb1) (pa_cons (pe_bltn (v := .ty (tyS t2)) (pos := q2) hg2 hmg2 hb2 rfl hn2 hdb2) pa_nil))
  refine (pe_callB (p := p) (pos := pos) call_isiT hg hmg PyProof.Rows.boot_isinstance (pa_cons h (pa_cons ht pa_nil) (hs _ _)) (by decide) (by decide) (hs _ _) rfl).weak fun σ H Q h => ?_
  obtain ⟨w, env, S, rfl, k, he, h⟩ := h
  unfold evE at h
  refine ⟨w, env, S, rfl, k, he, ?_⟩
  unfold evE at h
  cases r : evE cl .b a env S with
  | no =>
    rw [r] at h
    exact h
  | ex c S1 =>
    rw [r] at h
    exact h
  | ok d S1 =>
    rw [r] at h
    intro w1 v s1 k1 rb
    have h : PostE fa ca W σ m w (ofO (primF (.isi .lt) [d]) S1) Q := h
    cases f : primF (.isi .lt) [d] with
    | none =>
      rw [f] at h
      exact h.elim
    | some d2 =>
      rw [f] at h
      obtain ⟨b, e1, rfl⟩ := isiF_scalar f
      refine ⟨by show 2 ≤ sizeLine; decide, fun T hT' => ?_⟩
      have st := Step.alloc (w := w1) (o := .tup [V.ty (tyS t1), V.ty (tyS t2)]) hT'
      have k2 := k1.alloc (o := .tup [V.ty (tyS t1), V.ty (tyS t2)]) hT'
      have rb2 := RB.mono st k1 rb
      have ty := RB.ty (K := X.K) rb2 (isiF_nd e1)
      rw [tyN_eq] at ty
      obtain ⟨b1, b2, e2, e3, rfl⟩ := lt_kit e1
      refine ⟨v, T, _, .type (tyN d), [.type (tyS t1), .type (tyS t2)], b1 || b2, rfl, upd_same, .cons (.ty _) (.cons (.ty _) .nil), .base ty, ?_, h _ (.bl (b1 || b2)) (s1.trans st) k2 (.sc rfl (.bl _))⟩
      have kl := isi_kit (t := .list) (by decide) (by decide) e2
      have kt := isi_kit (t := .tuple) (by decide) (by decide) e3
      rcases hT with ⟨rfl, rfl⟩ | ⟨rfl, rfl⟩
      · refine kitAny_cons (kit_ty kl) (fun z => kitAny_cons (kit_ty kt) (fun z2 => ?_) fun z2 => ?_) fun z => ?_
        · rw [z, z2]
          exact kitAny_nil
        · rw [z, z2] <;> rfl
        · rw [z] <;> rfl
      · refine kitAny_cons (kit_ty kt) (fun z => kitAny_cons (kit_ty kl) (fun z2 => ?_) fun z2 => ?_) fun z => ?_
        · rw [z, z2]
          exact kitAny_nil
        · rw [z, z2] <;> rfl
        · rw [z]; cases b1 <;> rfl
end
end Mini
/-! set(..) of a list of whole numbers. -/
namespace L2
open PySem PySem.Spec PyProof.Rows
section
variable {P : Program} {w : World} {A : Around} {E : Value → Shared → Prop} {s : Shared}
abbrev setN (w : World) : Obj := { cls := .type "set", dict := none, data := .set #[] 0 (.fresh 0 0 (!w.params.followText "set-order")) }
set_option maxHeartbeats 3200000 in
theorem set_listN {l : Addr} {its : Array Value} (ns : List Int) {Q : Value → Shared → Prop} (hh : A.handled = none) (hl : s.heap.IsList l its) (hit : IntsAre its.toList ns) (hb : ns.length + 1 < scanBound)
    (h : ∀ (h' : Heap) (tk c : Nat), SetR w h' s.heap.objs.size (fun j => decide (j ∈ ns)) c → c ≤ ns.length → (∀ b o, s.heap.get? b = some o → h'.get? b = some o) → Q (.ref s.heap.objs.size) { s with heap := h', toks := tk }) :
    wpAny (model P w) A (call (.type "set") [.ref l]) Q E s := by
  have esz : its.size = ns.length := by
    have q := IntsAre.length hit
    rwa [Array.length_toList] at q
  obtain ⟨c, tl, hmro⟩ := F.called_set.mro
  have hmade := F.called_set.made
  have hsub := F.called_set.sub
  refine wpAny_call (codeAny_of_tree ?_)
  show wpAny _ _ (callAny (.type "set") _) _ _ _
  refine wpAny_pure ⟨Code.quiet_builtin _ (by decide +kernel), codeAny_builtin F.entry_type_call ?_⟩
  rw [Around.under_plain (weight_type_call_type "set" [.ref l] []) rfl]
  have h1 := F.called_set.notType
  have h2 := F.called_set.canCreate
  have hct := F.typeCall_set_1 (.ref l)
  repeat (any_goals (first | assumption | wp_step))
  refine codeAny_mono (code_set_led1 (.ref l) (E := E) (Q₁ := fun obj s₁ => obj = .ref s.heap.objs.size ∧ s₁ = { s with heap := s.heap.push (setN w) }) ⟨rfl, rfl⟩) fun r s₁ hr => ?_
  cases r with
  | error e => exact hr
  | ok fl =>
    cases fl with
    | ret obj =>
      obtain ⟨rfl, rfl⟩ := hr
      have gS : (s.heap.push (setN w)).get? s.heap.objs.size = some (setN w) := Heap.get?_push_size _ rfl
      have tS : Shared.TypeIs { s with heap := s.heap.push (setN w) } (.ref s.heap.objs.size) "set" := ⟨_, gS, rfl⟩
      have hli := F.called_set.init.lookup
      have hbi := F.called_set.init.bind (.ref s.heap.objs.size)
      repeat (any_goals (first | assumption | wp_step))
      refine codeAny_mono (codeAny_call_builtin (R := wants (fun r s₂ => r = .none ∧ ∃ h' tk c, s₂ = { s with heap := h', toks := tk } ∧ SetR w h' s.heap.objs.size (fun j => decide (j ∈ ns)) c ∧ c ≤ ns.length ∧
          (∀ b o, s.heap.get? b = some o → h'.get? b = some o)) E) F.called_set.init.plain F.entry_set_init (check_set_init_1 tS ?_)) fun r₂ s₂ hr₂ => ?_
      · obtain ⟨ol, hol, hcl, nl, hdl⟩ := hl
        obtain ⟨ocls, odict, odata, oslots⟩ := ol
        simp only at hcl hdl
        subst hcl
        subst hdl
        have hol' : (s.heap.push (setN w)).get? l = some { cls := .type "list", dict := odict, data := .seq its nl, slots := oslots } := Heap.get?_push_of_some _ hol
        have f1 := F.sub_list_set
        have f2 := F.sub_list_frozenset
        have f3 : (Value.type "list" == Value.type "dict") = false := by decide
        have hl1 : (s.heap.push (setN w)).IsList l its := ⟨_, hol', rfl, nl, rfl⟩
        unfold Builtin.«set.__init__» noKeywords Builtin.Frozenset.updateFrom
        generalize hPI : pyIter = PI
        wp_walk
        subst hPI
        refine wpAny_pyIter_list hl1 (wpAny_bind (wpAny_runValue ?_))
        have lt : l < s.heap.objs.size := Heap.lt_size hol
        have hh3 : A.in1.in1.in1.handled = none := by simp [hh]
        have zS : (s.heap.push (setN w)).objs.size = s.heap.objs.size + 1 := Heap.size_push ..
        have ne1 : l ≠ (s.heap.push (setN w)).objs.size := by
          rw [zS]
          exact Nat.ne_of_lt (Nat.lt_succ_of_lt lt)
        have out1 : s.heap.objs.size ∉ [(s.heap.push (setN w)).objs.size, l] := by
          rw [zS, List.mem_cons, List.mem_singleton, not_or]
          exact ⟨Nat.ne_of_lt (Nat.lt_succ_self _), Nat.ne_of_gt lt⟩
        have val : ∀ (i : Nat) (v : Value), its[i]? = some v → ∃ k t, ns[i]? = some k ∧ v = .int k t := fun i v hv => by
          have hi : i < ns.length := by rw [← esz]; exact (Array.getElem?_eq_some_iff.mp hv).1
          obtain ⟨t, e⟩ := PyProof.Rows.IntsAre.int_at hit i v (by rw [Array.getElem?_toList]; exact hv)
          refine ⟨ns[i], t, List.getElem?_eq_getElem hi, ?_⟩
          rw [e, List.getD_eq_getElem?_getD, List.getElem?_eq_getElem hi] <;> rfl
        refine set_update_ints ((Walks.list hh3 _ l ne1 its).toS) s.heap.objs.size out1 ns esz hb val (its.size - 0) 0 _ (by omega) (Nat.zero_le _)
          ⟨⟨_, Heap.get?_push_size _ rfl, rfl, rfl⟩, (hl1.push _)⟩ ?hS0 ?hR
        case hS0 =>
          have hget : ((s.heap.push (setN w)).push { cls := .type "list_iterator", data := .fields #[.ref l, .int 0 0] }).get? s.heap.objs.size = some (setN w) := Heap.get?_push_of_some _ gS
          exact ⟨0, Nat.le_refl 0, setR_new_at hget⟩
        case hR =>
          intro s' c' hm hc' hS'
          obtain ⟨h', g2, d', tk', os'⟩ := s'
          have eg : g2 = s.gens := hm.gens
          have ed : d' = s.drawn := hm.drawn
          have eo : os' = s.os := hm.os
          subst eg
          subst ed
          subst eo
          show wpAny _ _ _ _ _ _
          refine wpAny_pure ?_
          show wpAny _ _ (ret Value.none) _ _ _
          rw [esz] at hc'
          refine wpAny_pure ⟨rfl, h', tk', c', rfl, hS', hc', fun b o e => ?_⟩
          have b0 : b < s.heap.objs.size := Heap.lt_size e
          have b2 : b ≠ (s.heap.push (setN w)).objs.size := by
            rw [zS]
            exact Nat.ne_of_lt (Nat.lt_succ_of_lt b0)
          exact hm.heap b o (by simp only [List.mem_cons, List.mem_singleton, List.not_mem_nil, or_false, not_or]; exact ⟨Nat.ne_of_lt b0, b2⟩) (Heap.get?_push_of_some _ (Heap.get?_push_of_some _ e))
      · cases r₂ with
        | error e => exact hr₂
        | ok fl₂ =>
          cases fl₂ with
          | ret r =>
            obtain ⟨rfl, h', tk, c', rfl, hS', hc', hk'⟩ := hr₂
            repeat (any_goals (first | assumption | wp_step))
            exact h _ _ _ hS' hc' hk'
          | _ => exact hr₂.elim
    | _ => exact hr.elim
end
end L2
/-! set(..) of a list of whole numbers: the rule; rising lists. -/
namespace L2
open PySem PySem.Spec PyProof.Rows
def rSetOfI (K : PySem.W.Frag) (w : World) : List V → Hp → VK → Prop := fun xs H Q => ∃ (l : Addr) (ns : List Int), xs = [V.ref l] ∧ SqL K H l (ns.map V.int) ∧ ns.length < 64 ∧
  ∀ a c, H a = none → c ≤ ns.length → Q (.ref a) (upd H a (SetO w a (fun j => decide (j ∈ ns)) c))
theorem cr_setOfI {X : Cx} (hc : X.calm = true) : CallR X (.type "set") (rSetOfI X.K X.w) := by
  intro pins s σ H xs us Q I r h
  obtain ⟨l, ns, rfl, hl, hf, q⟩ := h
  rw [Vals.ref1 r]
  obtain ⟨its, rv, pl, hz⟩ := I.list hl
  have hn : H s.heap.objs.size = none := I.hok.fresh (Nat.le_refl _)
  refine set_listN (P := X.prog) (w := X.w) ns (I.ok.hd hc) pl.isList (by simpa using rv.ints) (by unfold scanBound; omega) fun h' tk c R hc k => ?_
  exact ⟨.ref s.heap.objs.size, upd H s.heap.objs.size (SetO X.w s.heap.objs.size _ c), I.laid (t' := tk) k (Nat.le_refl _) (setO_new R), rfl, q _ c hn hc⟩
end L2
namespace Mini
open PySem L2
theorem insI_mem {q x : Int} : ∀ {xs : List Int}, q ∈ insI x xs ↔ q = x ∨ q ∈ xs
  | [] => by simp [insI]
  | y :: r => by
    unfold insI
    split
    · rename_i h
      subst h
      simp
    · split
      · simp
      · simp only [List.mem_cons, insI_mem]
        constructor
        · rintro (h | h | h)
          · exact .inr (.inl h)
          · exact .inl h
          · exact .inr (.inr h)
        · rintro (h | h | h)
          · exact .inr (.inl h)
          · exact .inl h
          · exact .inr (.inr h)
theorem setI_mem {q : Int} : ∀ {xs : List Int}, q ∈ setI xs ↔ q ∈ xs
  | [] => Iff.rfl
  | x :: r => by
    show q ∈ insI x (setI r) ↔ _
    rw [insI_mem, setI_mem, List.mem_cons]
theorem insI_up {x : Int} : ∀ {xs : List Int}, xs.Pairwise (· < ·) → (insI x xs).Pairwise (· < ·)
  | [], _ => by simp [insI]
  | y :: r, h => by
    rw [List.pairwise_cons] at h
    unfold insI
    split
    · exact List.pairwise_cons.mpr h
    · rename_i hne
      split
      · rename_i hlt
        refine List.pairwise_cons.mpr ⟨fun z hz => ?_, List.pairwise_cons.mpr h⟩
        rcases List.mem_cons.mp hz with rfl | hz
        · exact hlt
        · exact Int.lt_trans hlt (h.1 z hz)
      · rename_i hlt
        refine List.pairwise_cons.mpr ⟨fun z hz => ?_, insI_up h.2⟩
        rcases insI_mem.mp hz with rfl | hz
        · omega
        · exact h.1 z hz
theorem setI_up : ∀ xs : List Int, (setI xs).Pairwise (· < ·)
  | [] => List.Pairwise.nil
  | _ :: r => insI_up (setI_up r)
theorem upI_unique : ∀ {xs ys : List Int}, xs.Pairwise (· < ·) → ys.Pairwise (· < ·) → (∀ q, q ∈ xs ↔ q ∈ ys) → xs = ys
  | [], [], _, _, _ => rfl
  | [], y :: ys, _, _, h => absurd ((h y).mpr List.mem_cons_self) (by simp)
  | x :: xs, [], _, _, h => absurd ((h x).mp List.mem_cons_self) (by simp)
  | x :: xs, y :: ys, hx, hy, h => by
    rw [List.pairwise_cons] at hx hy
    have e : x = y := by
      rcases List.mem_cons.mp ((h x).mp List.mem_cons_self) with e | e
      · exact e
      · rcases List.mem_cons.mp ((h y).mpr List.mem_cons_self) with e2 | e2
        · exact e2.symm
        · have a := hy.1 x e
          have b := hx.1 y e2
          omega
    subst e
    refine congrArg (x :: ·) (upI_unique hx.2 hy.2 fun q => ⟨fun hq => ?_, fun hq => ?_⟩)
    · rcases List.mem_cons.mp ((h q).mp (List.mem_cons_of_mem _ hq)) with e | e
      · have a := hx.1 q hq
        omega
      · exact e
    · rcases List.mem_cons.mp ((h q).mpr (List.mem_cons_of_mem _ hq)) with e | e
      · have a := hy.1 q hq
        omega
      · exact e
end Mini
/-! sorted(set(..)) of pairs of small numbers. -/
namespace L2
open PySem PySem.Spec PyProof.Rows
section
variable {P : Program} {w : World} {A : Around} {E : Value → Shared → Prop} {s : Shared}
abbrev set0 (w : World) : Obj := { cls := .type "set", dict := none, data := .set #[] 0 (.fresh 0 0 (!w.params.followText "set-order")) }
set_option maxHeartbeats 3200000 in
/-- set(t), t a tuple of tuples of ints -/
theorem set_tupT {t : Addr} {its : Array Value} (ks : List (Addr × List Int)) {Q : Value → Shared → Prop} (hh : A.handled = none) (ht : s.heap.IsTuple t its) (eit : its.toList = ks.map fun p => Value.ref p.1)
    (hks : ∀ p ∈ ks, IsT P w s.heap p.2 p.1) (h64 : ks.length < 64) (hun : A.units + 3 < cLine)
    (h : ∀ (h' : Heap) (tk : Nat) L es ep tb, SetTR P w h' s.heap.objs.size L es ep tb → Got ks ks.length L → (∀ b o, s.heap.get? b = some o → h'.get? b = some o) → Q (.ref s.heap.objs.size) { s with heap := h', toks := tk }) :
    wpAny (model P w) A (call (.type "set") [.ref t]) Q E s := by
  have esz : its.size = ks.length := by
    have q := congrArg List.length eit
    rwa [List.length_map, Array.length_toList] at q
  obtain ⟨c, tl, hmro⟩ := F.called_set.mro
  have hmade := F.called_set.made
  have hsub := F.called_set.sub
  refine wpAny_call (codeAny_of_tree ?_)
  show wpAny _ _ (callAny (.type "set") _) _ _ _
  refine wpAny_pure ⟨Code.quiet_builtin _ (by decide +kernel), codeAny_builtin F.entry_type_call ?_⟩
  rw [Around.under_plain (weight_type_call_type "set" [.ref t] []) rfl]
  have h1 := F.called_set.notType
  have h2 := F.called_set.canCreate
  have hct := F.typeCall_set_1 (.ref t)
  repeat (any_goals (first | assumption | wp_step))
  refine codeAny_mono (code_set_led1 (.ref t) (E := E) (Q₁ := fun obj s₁ => obj = .ref s.heap.objs.size ∧ s₁ = { s with heap := s.heap.push (set0 w) }) ⟨rfl, rfl⟩) fun r s₁ hr => ?_
  cases r with
  | error e => exact hr
  | ok fl =>
    cases fl with
    | ret obj =>
      obtain ⟨rfl, rfl⟩ := hr
      have gS : (s.heap.push (set0 w)).get? s.heap.objs.size = some (set0 w) := Heap.get?_push_size _ rfl
      have tS : Shared.TypeIs { s with heap := s.heap.push (set0 w) } (.ref s.heap.objs.size) "set" := ⟨_, gS, rfl⟩
      have hli := F.called_set.init.lookup
      have hbi := F.called_set.init.bind (.ref s.heap.objs.size)
      repeat (any_goals (first | assumption | wp_step))
      refine codeAny_mono (codeAny_call_builtin (R := wants (fun r s₂ => r = .none ∧ ∃ h' tk L es ep tb, s₂ = { s with heap := h', toks := tk } ∧ SetTR P w h' s.heap.objs.size L es ep tb ∧ Got ks ks.length L ∧
          (∀ b o, s.heap.get? b = some o → h'.get? b = some o)) E) F.called_set.init.plain F.entry_set_init (check_set_init_1 tS ?_)) fun r₂ s₂ hr₂ => ?_
      · obtain ⟨ot, hot, hct, nt, hdt⟩ := ht
        obtain ⟨ocls, odict, odata, oslots⟩ := ot
        simp only at hct hdt
        subst hct
        subst hdt
        have hot' : (s.heap.push (set0 w)).get? t = some { cls := .type "tuple", dict := odict, data := .seq its nt, slots := oslots } := Heap.get?_push_of_some _ hot
        have f1 := F.sub_tuple_set
        have f2 := F.sub_tuple_frozenset
        have f3 : (Value.type "tuple" == Value.type "dict") = false := by decide
        have ht1 : (s.heap.push (set0 w)).IsTuple t its := ⟨_, hot', rfl, nt, rfl⟩
        unfold Builtin.«set.__init__» noKeywords Builtin.Frozenset.updateFrom
        generalize hPI : pyIter = PI
        wp_walk
        subst hPI
        refine wpAny_pyIter_tuple ht1 (wpAny_bind (wpAny_runValue ?_))
        have lt : t < s.heap.objs.size := Heap.lt_size hot
        have hh3 : A.in1.in1.in1.handled = none := by simp [hh]
        have zS : (s.heap.push (set0 w)).objs.size = s.heap.objs.size + 1 := Heap.size_push ..
        have ne1 : t ≠ (s.heap.push (set0 w)).objs.size := by
          rw [zS]
          exact Nat.ne_of_lt (Nat.lt_succ_of_lt lt)
        have out1 : s.heap.objs.size ∉ [(s.heap.push (set0 w)).objs.size, t] := by
          rw [zS, List.mem_cons, List.mem_singleton, not_or]
          exact ⟨Nat.ne_of_lt (Nat.lt_succ_self _), Nat.ne_of_gt lt⟩
        have val : ∀ (i : Nat) (v : Value), its[i]? = some v → ∃ p, ks[i]? = some p ∧ v = .ref p.1 := fun i v hv => by
          have q : its.toList[i]? = some v := by
            rw [Array.getElem?_toList]
            exact hv
          rw [eit, List.getElem?_map] at q
          cases hq : ks[i]? with
          | none =>
            rw [hq] at q
            cases q
          | some p =>
            rw [hq] at q
            cases q
            exact ⟨p, rfl, rfl⟩
        have none_of : ∀ b, s.heap.objs.size ≤ b → s.heap.get? b = none := fun b hb => by
          cases q : s.heap.get? b with
          | none => rfl
          | some o => exact absurd hb (Nat.not_le_of_gt (Heap.lt_size q))
        refine set_update_tups ((Walks.tuple hh3 _ t ne1 its).toS) s.heap.objs.size out1 ks esz h64 val s.heap hks (none_of _ (Nat.le_refl _)) (fun b hb => none_of b ?_) hun (its.size - 0) 0 _ (by omega) (Nat.zero_le _)
          ⟨⟨_, Heap.get?_push_size _ rfl, rfl, rfl⟩, (ht1.at fun o e => Heap.get?_push_of_some _ e)⟩ (fun b o e => Heap.get?_push_of_some _ (Heap.get?_push_of_some _ e)) ?_ ?_
        · rw [List.mem_singleton.mp hb, zS]
          omega
        · exact ⟨[], #[], 0, _, setTR_fresh (Heap.get?_push_of_some _ gS), Got.zero ks⟩
        · intro s' L es ep tb hm hS' g' hkp
          obtain ⟨h', g2, d', tk', os'⟩ := s'
          have eg : g2 = s.gens := hm.gens
          have ed : d' = s.drawn := hm.drawn
          have eo : os' = s.os := hm.os
          subst eg ed eo
          rw [esz] at g'
          refine wpAny_pure ?_
          show wpAny _ _ (ret Value.none) _ _ _
          exact wpAny_pure ⟨rfl, h', tk', L, es, ep, tb, rfl, hS', g', hkp⟩
      · cases r₂ with
        | error e => exact hr₂
        | ok fl₂ =>
          cases fl₂ with
          | ret r =>
            obtain ⟨rfl, h', tk, L, es, ep, tb, rfl, hS', g', hk'⟩ := hr₂
            repeat (any_goals (first | assumption | wp_step))
            exact h _ _ _ _ _ _ hS' g' hk'
          | _ => exact hr₂.elim
    | _ => exact hr.elim
end
section
variable {X : Cx}
def rSetTT (P : Program) (w : World) : List V → Hp → VK → Prop := fun xs H Q => ∃ (l : Addr) (ks : List (Addr × List Int)), xs = [V.ref l] ∧ H l = some (.tup (ks.map fun p => V.ref p.1)) ∧ (∀ p ∈ ks, H p.1 = some (.tup (p.2.map V.int))) ∧ ks.length < 64 ∧
  ∀ a L, H a = none → (∀ p ∈ L, p ∈ ks) → (∀ p ∈ ks, p.2 ∈ L.map (·.2)) → Q (.ref a) (upd H a (SetTO P w a L))
theorem cr_setTT (hc : X.calm = true) (hu : X.A.units + 64 < cLine) : CallR X (.type "set") (rSetTT X.prog X.w) := by
  intro pins s σ H xs us Q I r h
  obtain ⟨l, ks, rfl, hl, hk, hf, q⟩ := h
  rw [Vals.ref1 r]
  obtain ⟨its, rv, pl, hz⟩ := I.tuple (.inl (.inl hl))
  refine set_tupT (P := X.prog) (w := X.w) ks (I.ok.hd hc) (isTup_isTuple pl) (by simpa using refs_of_vals rv) (fun p hp => I.isT (.inl (.inl (hk p hp)))) hf (by omega) fun h' tk L es ep t R g k => ?_
  have gs : ∀ p ∈ L, p ∈ ks := fun p hp => List.mem_of_mem_take (g.sub p hp)
  have ga : ∀ p ∈ ks, p.2 ∈ L.map (·.2) := fun p hp => g.all p (by rw [List.take_length]; exact hp)
  exact ⟨.ref s.heap.objs.size, upd H s.heap.objs.size (SetTO X.prog X.w s.heap.objs.size L), I.laid (t' := tk) k (Nat.le_refl _) (setTO_new R.t0), rfl, q _ L (I.hok.fresh (Nat.le_refl _)) gs ga⟩
end
end L2
namespace Mini
open PySem L2
variable {fa : FA} {ca : CA} {cl : Calls}
/-! ### the pairs -/
theorem insP_mem {p q : Int × Int} : ∀ {xs : List (Int × Int)}, q ∈ insP p xs ↔ q = p ∨ q ∈ xs
  | [] => by simp [insP]
  | x :: r => by
    unfold insP
    split
    · rename_i e
      subst e
      simp
    · split
      · simp
      · simp [insP_mem (xs := r)]
        constructor
        · rintro (h | h | h)
          · exact .inr (.inl h)
          · exact .inl h
          · exact .inr (.inr h)
        · rintro (h | h | h)
          · exact .inr (.inl h)
          · exact .inl h
          · exact .inr (.inr h)
theorem setP_mem {q : Int × Int} : ∀ {xs : List (Int × Int)}, q ∈ setP xs ↔ q ∈ xs
  | [] => Iff.rfl
  | x :: r => by
    show q ∈ insP x (setP r) ↔ _
    rw [insP_mem, setP_mem, List.mem_cons]
theorem ltP_trans {p q r : Int × Int} (h : ltP p q = true) (h' : ltP q r = true) : ltP p r = true := by
  simp only [ltP, decide_eq_true_eq] at *
  omega
theorem ltP_irr {p : Int × Int} : ltP p p = false := by
  simp only [ltP, decide_eq_false_iff_not]
  omega
theorem ltP_tri {p q : Int × Int} (h : p ≠ q) (h' : ltP p q = false) : ltP q p = true := by
  obtain ⟨a, b⟩ := p
  obtain ⟨c, d⟩ := q
  have hn : ¬ (a = c ∧ b = d) := fun ⟨e1, e2⟩ => h (by rw [e1, e2])
  simp only [ltP, decide_eq_false_iff_not, decide_eq_true_eq] at *
  omega
theorem insP_up {p : Int × Int} : ∀ {xs : List (Int × Int)}, xs.Pairwise (fun a b => ltP a b = true) → (insP p xs).Pairwise (fun a b => ltP a b = true)
  | [], _ => by simp [insP]
  | x :: r, h => by
    rw [List.pairwise_cons] at h
    unfold insP
    split
    · exact List.pairwise_cons.mpr h
    · rename_i hne
      split
      · rename_i hlt
        refine List.pairwise_cons.mpr ⟨fun y hy => ?_, List.pairwise_cons.mpr h⟩
        rcases List.mem_cons.mp hy with rfl | hy
        · exact hlt
        · exact ltP_trans hlt (h.1 y hy)
      · rename_i hlt
        refine List.pairwise_cons.mpr ⟨fun y hy => ?_, insP_up h.2⟩
        rcases insP_mem.mp hy with rfl | hy
        · exact ltP_tri (fun e => hne e) (by simpa using hlt)
        · exact h.1 y hy
theorem setP_up : ∀ xs : List (Int × Int), (setP xs).Pairwise (fun a b => ltP a b = true)
  | [] => List.Pairwise.nil
  | _ :: r => insP_up (setP_up r)
/-- two rising lists of the same pairs are one -/
theorem up_unique : ∀ {xs ys : List (Int × Int)}, xs.Pairwise (fun a b => ltP a b = true) → ys.Pairwise (fun a b => ltP a b = true) → (∀ q, q ∈ xs ↔ q ∈ ys) → xs = ys
  | [], [], _, _, _ => rfl
  | [], y :: ys, _, _, h => absurd ((h y).mpr List.mem_cons_self) (by simp)
  | x :: xs, [], _, _, h => absurd ((h x).mp List.mem_cons_self) (by simp)
  | x :: xs, y :: ys, hx, hy, h => by
    rw [List.pairwise_cons] at hx hy
    have e : x = y := by
      rcases List.mem_cons.mp ((h x).mp List.mem_cons_self) with e | e
      · exact e
      · rcases List.mem_cons.mp ((h y).mpr List.mem_cons_self) with e2 | e2
        · exact e2.symm
        · have a := hy.1 x e
          have b := hx.1 y e2
          have c := ltP_trans a b
          rw [ltP_irr] at c
          cases c
    subst e
    refine congrArg (x :: ·) (up_unique hx.2 hy.2 fun q => ⟨fun hq => ?_, fun hq => ?_⟩)
    · rcases List.mem_cons.mp ((h q).mp (List.mem_cons_of_mem _ hq)) with e | e
      · have a := hx.1 q hq
        rw [e, ltP_irr] at a
        cases a
      · exact e
    · rcases List.mem_cons.mp ((h q).mpr (List.mem_cons_of_mem _ hq)) with e | e
      · have a := hy.1 q hq
        rw [e, ltP_irr] at a
        cases a
      · exact e
/-! ### the call -/
def Small (p : Int × Int) : Prop := (0 ≤ p.1 ∧ p.1 < 64) ∧ 0 ≤ p.2 ∧ p.2 < 64
theorem prsOf_cons {x : D} {xs : List D} {ps : List (Int × Int)} (e : prsOf (x :: xs) = some ps) : ∃ i j qs, x = .tuple [.int i, .int j] ∧ (0 ≤ i ∧ i < 64 ∧ 0 ≤ j ∧ j < 64) ∧ prsOf xs = some qs ∧ ps = (i, j) :: qs := by
  unfold prsOf at e
  split at e
  · contradiction
  · rename_i i j ys hxy
    cases hxy
    split at e
    · rename_i hij
      cases e1 : prsOf xs with
      | none =>
        rw [e1] at e
        cases e
      | some qs =>
        rw [e1] at e
        cases e
        exact ⟨i, j, qs, rfl, hij, rfl, rfl⟩
    · cases e
  · cases e
theorem pairs_rs {w : Wd} : ∀ {xs : List D} {vs : List V} {ps : List (Int × Int)}, Rs fa w xs vs → prsOf xs = some ps → (∀ p ∈ ps, Small p) ∧ ∃ ks : List (Addr × (Int × Int)), vs = ks.map (fun k => .ref k.1) ∧ ks.map (·.2) = ps ∧ ∀ k ∈ ks, w.H k.1 = some (.tup [.int k.2.1, .int k.2.2])
  | [], _, ps, .nil, e => by
    cases e
    refine ⟨fun p h => (by cases h), [], rfl, rfl, fun k h => (by cases h)⟩
  | x :: xs, _, ps, .cons r t, e => by
    obtain ⟨i, j, qs, rfl, hij, e1, rfl⟩ := prsOf_cons e
    obtain ⟨h1, ks, rfl, h2, h3⟩ := pairs_rs t e1
    cases r with
    | @tup a us _ ha rs =>
      obtain ⟨d1, d2, v1, v2, e2, rfl, r1, r2⟩ := rs.two rfl
      cases e2
      cases r1
      cases r2
      refine ⟨fun p hp => ?_, (a, (i, j)) :: ks, rfl, by rw [List.map_cons, h2], fun k hk => ?_⟩
      · rcases List.mem_cons.mp hp with rfl | hp
        · exact ⟨⟨hij.1, hij.2.1⟩, hij.2.2.1, hij.2.2.2⟩
        · exact h1 p hp
      · rcases List.mem_cons.mp hk with rfl | hk
        · exact ha
        · exact h3 k hk
theorem rs_pairs {w : Wd} : ∀ (ks : List (Addr × (Int × Int))), (∀ k ∈ ks, w.H k.1 = some (.tup [.int k.2.1, .int k.2.2])) → Rs fa w ((ks.map (·.2)).map encP) (ks.map fun k => .ref k.1)
  | [], _ => .nil
  | k :: ks, h => .cons (.tup (h k List.mem_cons_self) (.cons (.int _) (.cons (.int _) .nil))) (rs_pairs ks fun k hk => h k (List.mem_cons_of_mem _ hk))
def l2 (p : Int × Int) : List Int := [p.1, p.2]
def p2 : List Int → Int × Int
  | [a, b] => (a, b)
  | _ => (0, 0)
section
variable {X : Cx} {W : WX} {m : Md}
def rSetX (K : PySem.W.Frag) (P : Program) (w : World) : List V → Hp → VK → Prop := fun xs H Q => (rSetOfT K P w xs H Q ∨ rSetTT P w xs H Q) ∨ rSetOfI K w xs H Q
def rSo (K : PySem.W.Frag) (P : Program) (w : World) : List V → Hp → VK → Prop := fun xs H Q => rSortedT K P w xs H Q ∨ rSortedSet w xs H Q
theorem rs_intsQ {w : Wd} : ∀ ns : List Int, Rs fa w (ns.map .int) (ns.map V.int)
  | [] => .nil
  | n :: ns => .cons (.int n) (rs_intsQ ns)
/-- what is wanted of set(..), for sorted(set(..)) -/
theorem v_set {w : Wd} {S : Sto} {d d2 : D} {v : V} {σ : St} {Q : VK} (k : Ok fa w S) (rb : RB fa w d v) (e : primF .sortedSet [d] = some d2) (h : PostE fa ca W σ m w (.ok d2 S) Q) :
    rSetX X.K X.prog X.w [v] w.H fun x H1 => rSo X.K X.prog X.w [x] H1 Q := by
  have main : ∀ (xs : List D) (vs : List V) (ps : List (Int × Int)), Rs fa w xs vs → prsOf xs = some ps → xs.length < 64 → d2 = .list ((setP ps).map encP) →
      ∃ ks : List (Addr × List Int), vs = ks.map (fun p => V.ref p.1) ∧ (∀ p ∈ ks, w.H p.1 = some (.tup (p.2.map V.int))) ∧ ks.length < 64 ∧
      ∀ a L, w.H a = none → (∀ p ∈ L, p ∈ ks) → (∀ p ∈ ks, p.2 ∈ L.map (·.2)) → rSortedT X.K X.prog X.w [.ref a] (upd w.H a (SetTO X.prog X.w a L)) Q := by
    intro xs vs ps rs ep hl ed
    subst ed
    obtain ⟨hsm, ks, rfl, hks, hH⟩ := pairs_rs rs ep
    have hlen : ks.length < 64 := by
      have q := rs.length
      rw [List.length_map] at q
      omega
    refine ⟨ks.map fun k => (k.1, l2 k.2), by rw [List.map_map] <;> rfl, fun p hp => ?_, by rw [List.length_map]; exact hlen, fun a L ha hs1 hs2 => ?_⟩
    · obtain ⟨k, hk, rfl⟩ := List.mem_map.mp hp
      exact hH k hk
    · have inL : ∀ p ∈ L, ∃ k ∈ ks, p = (k.1, l2 k.2) := fun p hp => by
        obtain ⟨k, hk, e⟩ := List.mem_map.mp (hs1 p hp)
        exact ⟨k, hk, e.symm⟩
      have st := Step.alloc (w := w) (o := SetTO X.prog X.w a L) ha
      have k2 := k.alloc (o := SetTO X.prog X.w a L) ha
      refine ⟨a, L, 2, 64, rfl, upd_same, fun p hp => ?_, by decide, fun p hp => ?_, fun L' q pm nd hl' pw hq => ?_⟩
      · obtain ⟨k, hk, rfl⟩ := inL p hp
        exact .inl (.inl (by rw [upd_ne (ne_of_none (hH k hk) ha)]; exact hH k hk))
      · obtain ⟨k, hk, rfl⟩ := inL p hp
        have q := hsm k.2 (by rw [← hks]; exact List.mem_map_of_mem hk)
        refine ⟨rfl, fun x hx => ?_⟩
        rcases List.mem_cons.mp hx with rfl | hx
        · exact q.1
        · rw [List.mem_singleton.mp hx]
          exact q.2
      · have inL' : ∀ p ∈ L', ∃ k ∈ ks, p = (k.1, l2 k.2) := fun p hp => inL p (pm.mem_iff.mp hp)
        have eL : L' = (L'.map fun p => (p.1, p2 p.2)).map fun k => (k.1, l2 k.2) := by
          rw [List.map_map]
          refine (List.map_id L').symm.trans (List.map_congr_left fun p hp => ?_)
          obtain ⟨k, hk, rfl⟩ := inL' p hp
          rfl
        generalize hM : (L'.map fun p => (p.1, p2 p.2)) = M at eL
        have hMk : ∀ k ∈ M, k ∈ ks := fun k hk => by
          rw [← hM] at hk
          obtain ⟨p, hp, rfl⟩ := List.mem_map.mp hk
          obtain ⟨k0, hk0, rfl⟩ := inL' p hp
          exact hk0
        have up : (M.map (·.2)).Pairwise (fun a b => ltP a b = true) := by
          rw [eL, List.map_map] at nd
          rw [eL, List.pairwise_map] at pw
          rw [List.pairwise_map]
          have nd' : M.Pairwise (fun a b => l2 a.2 ≠ l2 b.2) := by
            rw [List.Nodup, List.pairwise_map] at nd
            exact nd
          refine (pw.and nd').imp_of_mem fun {a b} ma mb q => ?_
          have sa := hsm a.2 (by rw [← hks]; exact List.mem_map_of_mem (hMk a ma))
          have sb := hsm b.2 (by rw [← hks]; exact List.mem_map_of_mem (hMk b mb))
          have q2 := pair_lt q.1 q.2 sa.1 sa.2 sb.1 sb.2
          simp only [ltP, decide_eq_true_eq]
          exact q2
        have eM : M.map (·.2) = setP ps := up_unique up (setP_up ps) fun q => by
          rw [setP_mem, ← hks]
          constructor
          · intro hq
            obtain ⟨k, hk, rfl⟩ := List.mem_map.mp hq
            exact List.mem_map_of_mem (hMk k hk)
          · intro hq
            obtain ⟨k, hk, rfl⟩ := List.mem_map.mp hq
            have q1 := hs2 (k.1, l2 k.2) (List.mem_map.mpr ⟨k, hk, rfl⟩)
            obtain ⟨p, hp, ep⟩ := List.mem_map.mp q1
            have hp' := pm.mem_iff.mpr hp
            rw [eL] at hp'
            obtain ⟨k', hk', rfl⟩ := List.mem_map.mp hp'
            refine List.mem_map.mpr ⟨k', hk', ?_⟩
            have : l2 k'.2 = l2 k.2 := ep
            unfold l2 at this
            injection this with e1 e2
            injection e2 with e2 _
            exact Prod.ext e1 e2
        have eV : (L'.map fun q => V.ref q.1) = M.map fun k => V.ref k.1 := by
          rw [eL, List.map_map] <;> rfl
        rw [eV]
        have rM : Rs fa { w with H := upd w.H a (SetTO X.prog X.w a L) } ((setP ps).map encP) (M.map fun k => V.ref k.1) := by
          rw [← eM]
          refine rs_pairs M fun k' hk' => ?_
          have hh := hH k' (hMk k' hk')
          show upd w.H a _ k'.1 = _
          rw [upd_ne (ne_of_none hh ha)]
          exact hh
        exact PostE.lst (w := { w with H := upd w.H a (SetTO X.prog X.w a L) }) (PostE.later st h) k2 rM hq
  cases d with
  | list xs =>
    have e : (if decide (xs.length < 64) then (match prsOf xs with
      | some ps => some (PyData.list ((setP ps).map encP))
      | none => (intsOf xs).map fun ns => PyData.list ((setI ns).map .int)) else none) = some d2 := e
    split at e
    · rename_i h64
      cases ep : prsOf xs with
      | none =>
        rw [ep] at e
        have e : ((intsOf xs).map fun ns => PyData.list ((setI ns).map .int)) = some d2 := e
        cases ei : intsOf xs with
        | none => rw [ei] at e; cases e
        | some ns =>
          rw [ei] at e
          cases e
          obtain ⟨a, vs, rfl, q1, _, r⟩ := rb.lst (K := X.K)
          have lv := r.length
          have ev := ints_vs r ei
          subst ev
          rw [List.length_map] at lv
          have h64 : xs.length < 64 := of_decide_eq_true h64
          refine .inr ⟨a, ns, rfl, q1, by omega, fun b c hb hc => .inr ⟨b, _, c, rfl, upd_same, by omega, fun ns' q hup hm _ hq => ?_⟩⟩
          have en : ns' = setI ns := upI_unique hup (setI_up ns) fun x => by rw [hm, setI_mem, decide_eq_true_eq]
          subst en
          have st := Step.alloc (w := w) (o := SetO X.w b (fun j => decide (j ∈ ns)) c) hb
          have k2 := k.alloc (o := SetO X.w b (fun j => decide (j ∈ ns)) c) hb
          exact PostE.lst (w := { w with H := upd w.H b (SetO X.w b (fun j => decide (j ∈ ns)) c) }) (PostE.later st h) k2 (rs_intsQ _) hq
      | some ps =>
        rw [ep] at e
        cases e
        obtain ⟨a, vs, rfl, q1, _, r⟩ := rb.lst (K := X.K)
        obtain ⟨ks, rfl, h1, h2, h3⟩ := main _ vs ps r ep (of_decide_eq_true h64) rfl
        exact .inl (.inl ⟨a, ks, rfl, q1, fun p hp => .inl (.inl (h1 p hp)), h2, fun b L x y z => .inl (h3 b L x y z)⟩)
    · cases e
  | tuple xs =>
    have e : (if decide (xs.length < 64) then (prsOf xs).map fun ps => PyData.list ((setP ps).map encP) else none) = some d2 := e
    split at e
    · rename_i h64
      cases ep : prsOf xs with
      | none =>
        rw [ep] at e
        cases e
      | some ps =>
        rw [ep] at e
        cases e
        obtain ⟨a, vs, rfl, _, q1, r⟩ := rb.tup (K := X.K)
        obtain ⟨ks, rfl, h1, h2, h3⟩ := main _ vs ps r ep (of_decide_eq_true h64) rfl
        exact .inl (.inr ⟨a, ks, rfl, q1, h1, h2, fun b L x y z => .inl (h3 b L x y z)⟩)
    · cases e
  | none => cases e
  | bool _ => cases e
  | int _ => cases e
  | str _ => cases e
  | dict _ => cases e
theorem se_sset {e : Expr} {a : E} {p q q2 pos : Pos} (hc : X.calm = true) (hu : X.A.units + 100 < cLine) (hg : Gl X "sorted") (hmg : X.mg "sorted" = none) (hg2 : Gl X "set") (hmg2 : X.mg "set" = none) (hs : ∀ env, starEach [e] env = [(false, eval e env)]) (h : PE X e (tE fa ca cl W .b a)) :
    PE X (.Call (.Name "sorted" p) [.Call (.Name "set" q) [e] [] q2] [] pos) (tE fa ca cl W m (.prim .sortedSet (.cons a .nil))) := by
  have h1 : PE X (.Call (.Name "set" q) [e] [] q2) _ := pe_callTy (p := q) (pos := q2) (r := rSetX X.K X.prog X.w) (((cr_setOfT hc (by omega)).or (cr_setTT hc (by omega))).or (cr_setOfI hc)) hg2 hmg2 PyProof.Rows.boot_set (pa_cons h pa_nil (hs _)) (by decide) (by decide) (hs _) rfl
  refine (pe_callB (p := p) (pos := pos) ((cr_sortedT hc).or (cr_sortedSet hc)) hg hmg PyProof.Rows.boot_sorted (pa_cons h1 pa_nil) (by decide) (by decide) rfl rfl).weak fun σ H Q h => ?_
  obtain ⟨w, env, S, rfl, k, he, h⟩ := h
  unfold evE at h
  refine ⟨w, env, S, rfl, k, he, ?_⟩
  unfold evE at h
  cases r : evE cl .b a env S with
  | no =>
    rw [r] at h
    exact h
  | ex c S1 =>
    rw [r] at h
    exact h
  | ok d S1 =>
    rw [r] at h
    intro w1 v s1 k1 rb
    have h : PostE fa ca W σ m w (ofO (primF .sortedSet [d]) S1) Q := h
    cases f : primF .sortedSet [d] with
    | none =>
      rw [f] at h
      exact h.elim
    | some d2 =>
      rw [f] at h
      exact v_set (X := X) k1 rb f (PostE.later s1 h)
end
end Mini
/-! len(set(..)) of a list of whole numbers. -/
namespace L2
open PySem PySem.Spec PyProof.Rows
section
variable {X : Cx}
def tLenSetN (K : PySem.W.Frag) (ta : TE) : TE := fun σ H Q => ta σ H fun x H1 => ∃ (l : Addr) (ns : List Int), x = V.ref l ∧ SqL K H1 l (ns.map V.int) ∧ ns.length < 64 ∧ Q (.int ((Mini.setI ns).length : Nat)) H1
theorem pe_lenSetN {a : Expr} {ta : TE} {p p2 q pos : Pos} (hc : X.calm = true) (hg : Gl X "len") (hm : X.mg "len" = none) (hg2 : Gl X "set") (hm2 : X.mg "set" = none) (ha : PE X a ta)
    (na : starEach [a] X.env = (false, eval a X.env) :: starEach [] X.env) : PE X (.Call (.Name "len" p) [.Call (.Name "set" p2) [a] [] q] [] pos) (tLenSetN X.K ta) := by
  refine ⟨fun pins s σ H Q I h => ?_⟩
  refine Call_ (ld_blt I hg hm PySem.boot_len ?_)
  refine PyProof.Rows.callWith_builtin1 (PyProof.Rows.args_cons ?_ rfl) rfl rfl
  refine Call_ (ld_blt I hg2 hm2 PyProof.Rows.boot_set ?_)
  refine PyProof.Rows.callWith_type1 (PyProof.Rows.args_cons (thn (ha.run pins s σ H _ I h) fun v s1 ⟨x, H1, I1, r1, q1⟩ => PyProof.Rows.args_nil ?_) na) na rfl
  obtain ⟨l, ns, rfl, hq, h1, q1⟩ := q1
  cases r1
  obtain ⟨its, r, pl, hz⟩ := I1.list hq
  refine set_listN (P := X.prog) (w := X.w) ns (I1.ok.hd hc) pl.isList (by simpa using r.ints) (by unfold scanBound; omega) fun h' tk c R hc' hk => ?_
  refine PyProof.Rows.args_nil ?_
  obtain ⟨o, es, ep, t, ho, hex, hd, _, hnd, hmem, _, hf, hn, _⟩ := R
  have I2 : Inv X pins σ H1 { s1 with heap := h', toks := tk } := I1.kept hk
  have nd2 : (Mini.setI ns).Nodup := (Mini.setI_up ns).imp fun {a b} q e => by omega
  have len : es.size = (Mini.setI ns).length := by
    have pm : (es.toList.map keyOf).Perm (Mini.setI ns) := (List.perm_ext_iff_of_nodup hnd nd2).mpr fun k => by
      rw [← hmem k, Mini.setI_mem, decide_eq_true_eq]
    have := pm.length_eq
    rw [List.length_map, Array.length_toList] at this
    exact this
  exact call_len_set ho hex hd hf (by rw [hn] <;> omega) ⟨.int (es.size : Nat), H1, I2.tok _, ⟨_, rfl⟩, by rw [len]; exact q1⟩
end
end L2
namespace Mini
open PySem L2
variable {fa : FA} {ca : CA} {cl : Calls}
section
variable {X : Cx} {W : WX} {m : Md}
theorem se_lset {e : Expr} {a : E} {p q q2 pos : Pos} (hc : X.calm = true) (hg : Gl X "len") (hmg : X.mg "len" = none) (hg2 : Gl X "set") (hmg2 : X.mg "set" = none) (hs : ∀ env, starEach [e] env = [(false, eval e env)]) (h : PE X e (tE fa ca cl W .b a)) :
    PE X (.Call (.Name "len" p) [.Call (.Name "set" q) [e] [] q2] [] pos) (tE fa ca cl W m (.prim .lenSet (.cons a .nil))) := by
  refine (pe_lenSetN (p := p) (p2 := q) (q := q2) (pos := pos) hc hg hmg hg2 hmg2 h (hs _)).weak fun σ H Q h => ?_
  obtain ⟨w, env, S, rfl, k, he, h⟩ := h
  unfold evE at h
  refine ⟨w, env, S, rfl, k, he, ?_⟩
  unfold evE at h
  cases r : evE cl .b a env S with
  | no =>
    rw [r] at h
    exact h
  | ex c S1 =>
    rw [r] at h
    exact h
  | ok d S1 =>
    rw [r] at h
    intro w1 v s1 k1 rb
    have h : PostE fa ca W σ m w (ofO (primF .lenSet [d]) S1) Q := h
    cases f : primF .lenSet [d] with
    | none =>
      rw [f] at h
      exact h.elim
    | some d2 =>
      rw [f] at h
      have h2 := PostE.later s1 h
      cases d with
      | list xs =>
        have f : (if decide (xs.length < 64) then (intsOf xs).map fun ns => PyData.int ((setI ns).length : Nat) else none) = some d2 := f
        split at f
        · rename_i h64
          cases ei : intsOf xs with
          | none => rw [ei] at f; cases f
          | some ns =>
            rw [ei] at f
            cases f
            obtain ⟨a', vs, rfl, q1, _, r'⟩ := rb.lst (K := X.K)
            have lv := r'.length
            have ev := ints_vs r' ei
            subst ev
            rw [List.length_map] at lv
            have h64 : xs.length < 64 := of_decide_eq_true h64
            exact ⟨a', ns, rfl, q1, by omega, PostE.sc h2 k1 rfl (.int _)⟩
        · cases f
      | none => cases f
      | bool _ => cases f
      | int _ => cases f
      | str _ => cases f
      | tuple _ => cases f
      | dict _ => cases f
end
end Mini
/-! Dicts: {}, d[k] = v, list(d). -/
namespace Mini
open PySem L2
variable {fa : FA} {ca : CA} {cl : Calls}
section
variable {X : Cx} {W : WX} {m : Md}
theorem PostE.dct {σ : St} {w : Wd} {S : Sto} {Q : VK} {t : Bool} {p : Addr} {o : HO} (h : PostE fa ca W σ m w (.ok (.dict [(.none, .bool t)]) S) Q) (k : Ok fa w S) (ho : o = if t then .dT [] else .dK []) (hp : w.H p = none) : Q (.ref p) (upd w.H p o) := by
  have f := k.fresh hp
  have dr : ∀ w' : Wd, w'.H p = some o → DR fa w' t [] p := fun w' e => by
    cases t with
    | false => exact .inl ⟨rfl, [], by rw [e, ho]; rfl, .nil⟩
    | true => exact .inr ⟨rfl, [], by rw [e, ho]; rfl, .nil⟩
  cases m with
  | b =>
    refine h { w with H := upd w.H p o } (.ref p) (Step.alloc hp) (k.alloc hp) ?_
    cases t with
    | false => exact .k (by show upd w.H p o p = _; rw [upd_same, ho]; rfl) .nil f.1
    | true => exact .t (by show upd w.H p o p = _; rw [upd_same, ho]; rfl) .nil f.1
  | f => exact h { w with H := upd w.H p o } (.ref p) (Step.alloc hp) (k.alloc hp) ⟨p, t, [], rfl, rfl, dr _ upd_same, f.2, f.1, .inl hp⟩
  | v =>
    refine h { w with H := upd w.H p o, Z := fun a => w.Z a ∨ a = p } (.ref p) (Step.allocZ hp) ((k.alloc (o := o) hp).frz (p := p) ?_ f.1) ?_
    · exact DR.nn (w := { w with H := upd w.H p o }) (dr _ upd_same)
    · cases t with
      | false => exact .dk (.inr rfl) (by show upd w.H p o p = _; rw [upd_same, ho]; rfl) .nil
      | true => exact .dt (.inr rfl) (by show upd w.H p o p = _; rw [upd_same, ho]; rfl) .nil
theorem se_dnew {t : Bool} {pos : Pos} : PE X (.Dict [] [] pos) (tE fa ca cl W m (.dnew t)) := by
  cases t with
  | false =>
    refine (pe_dnewK (pos := pos)).weak fun σ H Q h => ?_
    obtain ⟨w, env, S, rfl, k, he, h⟩ := h
    unfold evE at h
    exact fun p hp => h.dct k rfl hp
  | true =>
    refine (pe_dnewT (pos := pos)).weak fun σ H Q h => ?_
    obtain ⟨w, env, S, rfl, k, he, h⟩ := h
    unfold evE at h
    exact fun p hp => h.dct k rfl hp
end
/-! ### list(..) -/
def rListT : List V → Hp → VK → Prop := fun xs H Q => ∃ d kvs, xs = [V.ref d] ∧ Rd H d (.dT kvs) ∧ ∀ p bs, H p = none → IsKeys H kvs bs → Q (.ref p) (upd H p (.lst (bs.map V.ref)))
def rListX (K : PySem.W.Frag) : List V → Hp → VK → Prop := fun xs H Q => ((∃ p ys, xs = [.ref p] ∧ (SqL K H p ys ∨ SqT K H p ys) ∧ ∀ l, H l = none → Q (.ref l) (upd H l (.lst ys))) ∨ rListD xs H Q) ∨ rListT xs H Q
theorem cr_listX {X : Cx} (hc : X.calm = true) : CallR X (.type "list") (rListX X.K) := (call_list_of.or (call_list_dK hc)).or (call_list_dT hc)
theorem RK.keysR {w : Wd} : ∀ {es : List (D × D)} {kvs : List (Key × V)}, RK fa w es kvs → Rs fa w (es.map (·.1)) (kvs.map fun kv => kV kv.1)
  | _, _, .nil => .nil
  | _, _, .cons (k := k) h r => by
    refine .cons ?_ (RK.keysR r)
    cases k with
    | inl i => exact .int i
    | inr x => exact .str x
theorem keys_rs {w : Wd} : ∀ k : List Key, Rs fa w (k.map kD) (k.map kV)
  | [] => .nil
  | .inl i :: r => .cons (.int i) (keys_rs r)
  | .inr x :: r => .cons (.str x) (keys_rs r)
theorem RT.keysR {w : Wd} : ∀ {es : List (D × D)} {kvs : List (List Key × V)} {bs : List Addr}, RT fa w es kvs → IsKeys w.H kvs bs → Rs fa w (es.map (·.1)) (bs.map V.ref)
  | _, _, _, .nil, .nil => .nil
  | _, _, _, .cons (k := k) h r, .cons hb t => .cons (.tup hb (keys_rs k)) (RT.keysR r t)
theorem v_list {K : PySem.W.Frag} : VP fa ca (rListX K) .list := by
  intro w S vs ds d m W σ Q k rs e hm h
  unfold primF at e
  split at e <;> first | cases e | skip
  all_goals try contradiction
  · obtain ⟨v, rfl, rb⟩ := rs.one
    obtain ⟨a, vs, rfl, q1, _, r⟩ := rb.lst (K := K)
    exact .inl (.inl ⟨a, vs, rfl, .inl q1, fun l hl => h.lst k r hl⟩)
  · obtain ⟨v, rfl, rb⟩ := rs.one
    obtain ⟨a, vs, rfl, q1, _, r⟩ := rb.tup (K := K)
    exact .inl (.inl ⟨a, vs, rfl, .inr q1, fun l hl => h.lst k r hl⟩)
  · obtain ⟨v, rfl, rb⟩ := rs.one
    obtain ⟨p, rfl, dr⟩ := rb.dict
    rcases dr with ⟨_, kvs, h1, h2⟩ | ⟨_, kvs, h1, h2⟩
    · exact .inl (.inr ⟨p, kvs, rfl, h1, fun l hl => h.lst k h2.keysR hl⟩)
    · exact .inr ⟨p, kvs, rfl, .inl h1, fun l bs hl hb => h.lst k (h2.keysR hb) hl⟩
/-! ### d[k] = v -/
theorem RK.put {w : Wd} {k : Key} {d : D} {v : V} (hv : R fa w d v) {es : List (D × D)} {kvs : List (Key × V)} (h : RK fa w es kvs) : RK fa w (putD es (kD k) d) (putK kvs k v) := by
  have ea : (es.any fun p => PyData.eqv p.1 (kD k)) = kvs.any fun kv => decide (kv.1 = k) := by
    clear hv
    induction es generalizing kvs with
    | nil => cases h; rfl
    | cons p es ih =>
      cases h with
      | cons h r =>
        rw [List.any_cons, List.any_cons, ih r, kD_eqv]
  have em : ∀ {es : List (D × D)} {kvs : List (Key × V)}, RK fa w es kvs → RK fa w (es.map (fun p => if PyData.eqv p.1 (kD k) = true then (p.1, d) else p)) (kvs.map (fun kv => if kv.1 = k then (kv.1, v) else kv)) := fun {es kvs} h => by
    induction es generalizing kvs with
    | nil => cases h; exact .nil
    | cons p es ih =>
      cases h with
      | @cons k' d' v' _ _ h r =>
        rw [List.map_cons, List.map_cons]
        by_cases e : k' = k
        · have e1 : PyData.eqv (kD k') (kD k) = true := by rw [kD_eqv]; exact decide_eq_true e
          rw [if_pos e1, if_pos e]
          exact .cons hv (ih r)
        · have e1 : ¬ PyData.eqv (kD k') (kD k) = true := by rw [kD_eqv]; simpa using e
          rw [if_neg e1, if_neg e]
          exact .cons h (ih r)
  have ap : ∀ {es : List (D × D)} {kvs : List (Key × V)}, RK fa w es kvs → RK fa w (es ++ [(kD k, d)]) (kvs ++ [(k, v)]) := fun {es kvs} h => by
    induction es generalizing kvs with
    | nil => cases h; exact .cons hv .nil
    | cons p es ih =>
      cases h with
      | cons h r => exact .cons h (ih r)
  unfold putD putK
  rw [ea]
  split
  · exact em h
  · exact ap h
theorem RT.put {w : Wd} {k : List Key} {d : D} {v : V} (hv : R fa w d v) {es : List (D × D)} {kvs : List (List Key × V)} (h : RT fa w es kvs) : RT fa w (putD es (.tuple (k.map kD)) d) (putK kvs k v) := by
  have ea : (es.any fun p => PyData.eqv p.1 (.tuple (k.map kD))) = kvs.any fun kv => decide (kv.1 = k) := by
    clear hv
    induction es generalizing kvs with
    | nil => cases h; rfl
    | cons p es ih =>
      cases h with
      | cons h r =>
        rw [List.any_cons, List.any_cons, ih r, kT_eqv]
  have em : ∀ {es : List (D × D)} {kvs : List (List Key × V)}, RT fa w es kvs → RT fa w (es.map (fun p => if PyData.eqv p.1 (.tuple (k.map kD)) = true then (p.1, d) else p)) (kvs.map (fun kv => if kv.1 = k then (kv.1, v) else kv)) := fun {es kvs} h => by
    induction es generalizing kvs with
    | nil => cases h; exact .nil
    | cons p es ih =>
      cases h with
      | @cons k' d' v' _ _ h r =>
        rw [List.map_cons, List.map_cons]
        by_cases e : k' = k
        · have e1 : PyData.eqv (.tuple (k'.map kD)) (.tuple (k.map kD)) = true := by rw [kT_eqv]; exact decide_eq_true e
          rw [if_pos e1, if_pos e]
          exact .cons hv (ih r)
        · have e1 : ¬ PyData.eqv (.tuple (k'.map kD)) (.tuple (k.map kD)) = true := by rw [kT_eqv]; simpa using e
          rw [if_neg e1, if_neg e]
          exact .cons h (ih r)
  have ap : ∀ {es : List (D × D)} {kvs : List (List Key × V)}, RT fa w es kvs → RT fa w (es ++ [(.tuple (k.map kD), d)]) (kvs ++ [(k, v)]) := fun {es kvs} h => by
    induction es generalizing kvs with
    | nil => cases h; exact .cons hv .nil
    | cons p es ih =>
      cases h with
      | cons h r => exact .cons h (ih r)
  unfold putD putK
  rw [ea]
  split
  · exact em h
  · exact ap h
section
variable {X : Cx} {W : WX} {w0 : Wd}
theorem ownD_at {w : Wd} {env : Env} {σ : St} {S : Sto} {i : Nat} {t : Bool} {es : List (D × D)} (h : SInv fa w0 w env σ S) (e : env[i]? = some (.ownD t es)) : ∃ p, σ[i]? = some (some (.ref p)) ∧ DR fa w t es p ∧ ¬ w.Z p ∧ p ∉ w.F ∧ Nn w0.H p := by
  obtain ⟨ov, e2, r⟩ := slot_at h.er e
  obtain ⟨p, rfl, h1, h3, h4⟩ := r
  exact ⟨p, e2, h1, h3, h4, h.new i _ p e rfl e2⟩
theorem RT.length {w : Wd} : ∀ {es : List (D × D)} {kvs : List (List Key × V)}, RT fa w es kvs → es.length = kvs.length
  | _, _, .nil => rfl
  | _, _, .cons _ r => by rw [List.length_cons, List.length_cons, RT.length r]
theorem putD_len (es : List (D × D)) (k v : D) : (putD es k v).length ≤ es.length + 1 := by
  unfold putD
  split
  · rw [List.length_map]
    omega
  · simp
theorem ss_put {i : Nat} {x : Str} {e f : Expr} {a b : E} {p pos' pos : Pos} (hu : X.A.units + 1 < cLine) (hN : X.N[i]? = some x) (hv : Vis X.env.scope x) (hd : (x == ("__debug__" : Str)) = false) (hcd : (x == ("__classdict__" : Str)) = false) (hs : swapsWith f (some (.Subscript (.Name x p) e pos')) pos.line X.env = pure false)
    (h1 : PE X e (tE fa ca cl W .v a)) (h2 : PE X f (tE fa ca cl W .v b)) : PS X (.Assign [.Subscript (.Name x p) e pos'] f pos) (tS fa ca cl W w0 (.put i a b)) := by
  refine (ps_dput (pos := pos) (pos' := pos') hu (pe_var (pos := p) hN hv hd hcd) h1 h2 hs).weak fun D σ H h => ?_
  obtain ⟨w, env, S, rfl, hi, h⟩ := h
  unfold exS at h
  split at h
  · rename_i t0 es0 e0
    refine ofE_bind hi h fun d S1 w1 v s1 i1 r1 h1 => ?_
    obtain ⟨p1, e2, _⟩ := ownD_at i1 e0
    refine ⟨.ref p1, e2, ?_⟩
    refine ofE_bind i1 h1 fun y S2 w2 u s2 i2 r2 h2 => ?_
    simp only [e0] at h2
    split at h2
    · rename_i hq
      rw [Bool.and_eq_true] at hq
      obtain ⟨p2, e3, dr, z2, f2, n2⟩ := ownD_at i2 e0
      rw [e2] at e3
      cases e3
      have r1' : R fa w2 d v := R.mono (s2.ext i1.ok) r1
      have r2' : R fa w2 y u := r2
      rcases dr with ⟨rfl, kvs, a1, a2⟩ | ⟨rfl, kvs, a1, a2⟩
      · obtain ⟨k, rfl⟩ := isKey_of hq.2
        have eu := RB.key (.r r2')
        subst eu
        have ht : ∀ vs, w2.H p1 ≠ some (.tup vs) := fun us z => by rw [a1] at z; cases z
        have ex : Ext w2 { w2 with H := upd w2.H p1 (.dK (putK kvs k v)) } := Ext.own z2 ht
        have i3 := i2.mut (s' := .ownD false (putD es0 (kD k) d)) (o := .dK (putK kvs k v)) e0 rfl e2 z2 f2 n2 (by rw [a1]; trivial) ⟨p1, rfl, .inl ⟨rfl, _, upd_same, (a2.put r1').mono ex⟩, z2, f2⟩ rfl
        exact ⟨p1, _, rfl, DPut.k a1 (by rw [← a2.length]; exact lim_lt hq.1), h2 _ σ ex i3⟩
      · obtain ⟨k, rfl⟩ := hasKey_t hq.2
        cases r2' with
        | @tup b vs _ hb rs =>
          have ev := rs.keys
          subst ev
          have ht : ∀ vs, w2.H p1 ≠ some (.tup vs) := fun us z => by rw [a1] at z; cases z
          have ex : Ext w2 { w2 with H := upd w2.H p1 (.dT (putK kvs k v)) } := Ext.own z2 ht
          have i3 := i2.mut (s' := .ownD true (putD es0 (.tuple (k.map kD)) d)) (o := .dT (putK kvs k v)) e0 rfl e2 z2 f2 n2 (by rw [a1]; trivial) ⟨p1, rfl, .inr ⟨rfl, _, upd_same, (a2.put r1').mono ex⟩, z2, f2⟩ rfl
          exact ⟨p1, _, rfl, DPut.t a1 hb (by rw [← a2.length]; exact lim_lt hq.1), h2 _ σ ex i3⟩
    · exact h2.elim
  · exact h.elim
end
end Mini
/-! xs[::-1] of lists and tuples. -/
namespace HT
open PySem PySem.Spec PyProof.Rows
section
variable {prog : Program} {w : World} {A : Around} {E : Value → Shared → Prop} {s : Shared}
theorem places_rev (n : Nat) : Builtin.Slice.slicePlaces ((n : Int) - 1) (-1) (-1) = n := by
  unfold Builtin.Slice.slicePlaces
  have h1 : ¬ ((-1 : Int) > 0) := by omega
  have h2 : (- -1 : Int) = 1 := by decide
  simp only [h1, if_false, h2, Int.ediv_one]
  split <;> omega
theorem sliceApplied_rev {sl : Addr} {vl vu vs : Value} {n : Nat} {Q : Int × Int × Nat → Shared → Prop} (hs : s.heap.IsSliceOf sl vl vu vs) (pl : IsPart vl none) (pu : IsPart vu none) (ps : IsPart vs (some (-1)))
    (h : Q ((n : Int) - 1, -1, n) s) : wpAny (model prog w) A (Builtin.Slice.sliceApplied (.ref sl) (pure (n : Int))) Q E s := by
  obtain ⟨os, hos, hcs, hds⟩ := id hs
  unfold Builtin.Slice.sliceApplied Builtin.Slice.sliceFields
  refine wpAny_bind (wpAny_bind (wpAny_field hos hds (x := vl) rfl (wpAny_bind (wpAny_field hos hds (x := vu) rfl (wpAny_bind (wpAny_field hos hds (x := vs) rfl (wpAny_pure ?_)))))))
  refine wpAny_bind (slicePart_ ps ?_)
  show wpAny _ _ (if ((-1 : Int) == 0) = true then _ else _) _ _ s
  rw [if_neg (by decide)]
  refine wpAny_bind (slicePart_ pl (wpAny_bind (slicePart_ pu (wpAny_bind (wpAny_pure ?_)))))
  show wpAny _ _ (pure ((n : Int) - 1, (-1 : Int), Builtin.Slice.slicePlaces ((n : Int) - 1) (-1) (-1))) _ _ s
  rw [places_rev]
  exact wpAny_pure h
theorem pick_rev (xs : Array Value) : ((List.range xs.size).filterMap fun (m : Nat) => xs[((xs.size : Int) - 1 + (m : Int) * -1).toNat]?) = xs.toList.reverse := by
  have e : ((List.range xs.size).filterMap fun (m : Nat) => xs[((xs.size : Int) - 1 + (m : Int) * -1).toNat]?) = ((List.range xs.size).map fun m => xs.size - 1 - m).filterMap (xs[·]?) := by
    rw [List.filterMap_map]
    have gen : ∀ l : List Nat, (∀ m ∈ l, m < xs.size) → (l.filterMap fun (m : Nat) => xs[((xs.size : Int) - 1 + (m : Int) * -1).toNat]?) = l.filterMap ((xs[·]?) ∘ fun m => xs.size - 1 - m) := fun l hl => by
      induction l with
      | nil => rfl
      | cons m l ih =>
        have hm := hl m List.mem_cons_self
        have e : ((xs.size : Int) - 1 + (m : Int) * -1).toNat = xs.size - 1 - m := by omega
        rw [List.filterMap_cons, List.filterMap_cons, ih fun x hx => hl x (List.mem_cons_of_mem _ hx), e]
        rfl
    exact gen _ fun m hm => List.mem_range.mp hm
  have k := PySem.W.krv_pick xs
  unfold slicePick at k
  rw [PySem.W.krv_bounds] at k
  have k2 := congrArg Array.toList k
  simp only [PySem.W.krv_sliceRange] at k2
  rw [e]
  exact k2
theorem getItem_tuple_rev {t sl : Addr} {items : Array Value} {vl vu vs : Value} {Q : Value → Shared → Prop} (ht : IsTup s.heap t items) (hs : s.heap.IsSliceOf sl vl vu vs) (pl : IsPart vl none) (pu : IsPart vu none) (ps : IsPart vs (some (-1)))
    (h : Q (.ref s.heap.objs.size) { s with heap := s.heap.push { cls := .type "tuple", data := .seq items.toList.reverse.toArray } })
    (hsz : items.size ≤ sizeLine) : wpAny (model prog w) A (getItem (.ref t) (.ref sl)) Q E s := by
  have htake : sizeOk (.seq items.toList.reverse.toArray) := by
    show items.toList.reverse.toArray.size ≤ sizeLine
    rw [List.size_toArray, List.length_reverse, Array.length_toList]
    exact hsz
  obtain ⟨os, hos, hcs, hds⟩ := id hs
  have hTs : s.TypeIs (.ref sl) "slice" := ⟨os, hos, hcs⟩
  unfold getItem
  try with_reducible refine wpAny_holding ?_
  first | refine wpAny_bind (wpAny_pure ?_) | skip
  refine wpAny_bind (wpAny_sequenceKey ht.typeIs (by decide) ?_)
  refine wpAny_bind (wpAny_callSpecial?_slot (name := Str.ofString "__getitem__") ht.typeIs PyProof.Rows.slot_tuple_getitem
    (wpAny_call_entry PyProof.Rows.slot_tuple_getitem ht.typeIs entry_tuple_getitem ?_ (args_tuple_getitem _ _)))
  show wpAny _ _ (Builtin.Tuple.tupleItemsOf (.ref t) >>= _) _ _ s
  refine wpAny_bind (tupleItemsOf_ ht ?_)
  refine wpAny_bind (wpAny_typeOf hTs ?_)
  rw [if_pos (by decide)]
  refine wpAny_bind (sliceApplied_rev hs pl pu ps ?_)
  have hno : ¬ ((((items.size : Int) - 1) == 0 && (-1 : Int) == 1 && items.size == items.size) = true) := by
    intro q
    rw [Bool.and_eq_true, Bool.and_eq_true] at q
    exact absurd q.1.2 (by decide)
  show wpAny _ _ (if (((items.size : Int) - 1) == 0 && (-1 : Int) == 1 && items.size == items.size) = true then _ else _) _ _ s
  rw [if_neg hno, pick_rev]
  first
    | exact wpAny_bind (m := Builtin.Tuple.tupleExact _) (wpAny_newObj_type (wpAny_pure ⟨_, rfl, wpAny_pure h⟩) htake)
    | exact wpAny_bind (m := Builtin.Tuple.tupleExact _) (wpAny_newObj_type (wpAny_bind (wpAny_pure (wpAny_pure ⟨_, rfl, wpAny_pure h⟩))) htake)
    | exact wpAny_bind (wpAny_bind (m := Builtin.Tuple.tupleExact _) (wpAny_newObj_type (wpAny_pure (wpAny_pure ⟨_, rfl, wpAny_pure h⟩)) htake))
    | exact wpAny_bind (wpAny_bind (m := Builtin.Tuple.tupleExact _) (wpAny_newObj_type (wpAny_pure ⟨_, rfl, wpAny_pure h⟩) htake))
end
end HT
namespace Mini
open PySem PySem.Spec PyProof.Rows L2
def tRev (K : PySem.W.Frag) (te : TE) : TE := fun σ H Q => te σ H fun x H1 => ∃ a xs, x = .ref a ∧ ((SqL K H1 a xs ∧ ∀ p, H1 p = none → Q (.ref p) (upd H1 p (.lst xs.reverse))) ∨ (SqT K H1 a xs ∧ ∀ p, H1 p = none → Q (.ref p) (upd H1 p (.tup xs.reverse))))
section
variable {X : Cx} {fa : FA} {ca : CA} {cl : Calls} {W : WX} {m : Md}
theorem pe_rev {e : Expr} {te : TE} {k : Nat} {p1 p2 p3 pos : Pos} (he : PE X e te) : PE X (.Subscript e (.Slice none none (some (.UnaryOp .USub (.Constant (.int 1) k p1) p2)) p3) pos) (tRev X.K te) := by
  refine ⟨fun pins s σ H Q I h => ?_⟩
  refine Subscript_ (thn (he.run pins s σ H _ I h) fun v s1 ⟨x, H1, I1, r1, q1⟩ => ?_)
  obtain ⟨a, xs, ex, hx⟩ := q1
  subst ex
  cases r1
  have hst : PO X (some (.UnaryOp .USub (.Constant (.int 1) k p1) p2)) (tPart (tUn (rU fun i => .int (-i)) (tC (.int 1)))) := po_some (pe_un un_neg pe_int)
  refine wpAny_Slice (thn (po_none.run pins s1 σ H1 (fun o H2 => o = none ∧ H2 = H1) I1 ⟨rfl, rfl⟩) fun vl s2 ⟨l, H2, I2, pl, el, e2⟩ => ?_)
  subst el e2
  refine thn (po_none.run pins s2 σ H2 (fun o H3 => o = none ∧ H3 = H2) I2 ⟨rfl, rfl⟩) fun vu s3 ⟨u, H3, I3, pu, eu, e3⟩ => ?_
  subst eu e3
  refine thn (hst.run pins s3 σ H3 (fun o H4 => o = some (-1) ∧ H4 = H3) I3 ⟨1, rfl, -1, rfl, rfl, rfl⟩) fun vs s4 ⟨o, H4, I4, ps, eo, e4⟩ => ?_
  subst eo e4
  have I5 : Inv X pins σ H4 { s4 with heap := s4.heap.push { cls := .type "slice", data := .fields #[vl, vu, vs] } } := I4.kept (t' := s4.toks) fun b ob q => Heap.get?_push_of_some _ q
  show wpAny (model X.prog X.w) X.A (subscriptTail e (.Slice none none (some (.UnaryOp .USub (.Constant (.int 1) k p1) p2)) p3) (.ref a) (.ref s4.heap.objs.size)) (EP X pins σ Q) X.xe { s4 with heap := s4.heap.push { cls := .type "slice", data := .fields #[vl, vu, vs] } }
  rcases hx with ⟨hx, q⟩ | ⟨hx, q⟩
  · obtain ⟨its, r, ht, hz⟩ := I5.list hx
    have hlen := r.length
    refine tail_any (ops := [.ref a, .ref s4.heap.objs.size]) ht.isList.typeIs (PySem.slot_list_getitem.lookup) ?_ (by with_unfolding_all rfl)
    refine wpAny_getItem_list_slice ht.isList (Heap.IsSliceOf.new _ vl vu vs) pl pu ps (by decide) ?_ (by rw [List.size_toArray]; omega)
    rw [PySem.W.krv_pick]
    refine ⟨.ref _, _, I5.laid (t' := s4.toks) (o := .lst xs.reverse) (fun b ob q => Heap.get?_push_of_some _ q) (Nat.le_refl _) ?_, rfl, q _ (I5.hok.fresh (Nat.le_refl _))⟩
    exact ⟨by rw [List.length_reverse]; exact hz, _, 0, r.reverse, Heap.get?_push_size _ rfl⟩
  · obtain ⟨its, r, ht, hz⟩ := I5.tuple hx
    have hlen := r.length
    refine tail_any (ops := [.ref a, .ref s4.heap.objs.size]) ht.typeIs (PyProof.Rows.slot_tuple_getitem.lookup) ?_ (by with_unfolding_all rfl)
    refine HT.getItem_tuple_rev ht (Heap.IsSliceOf.new _ vl vu vs) pl pu ps ?_ (by rw [List.size_toArray]; omega)
    refine ⟨.ref _, _, I5.laid (t' := s4.toks) (o := .tup xs.reverse) (fun b ob q => Heap.get?_push_of_some _ q) (Nat.le_refl _) ?_, rfl, q _ (I5.hok.fresh (Nat.le_refl _))⟩
    exact ⟨by rw [List.length_reverse]; exact hz, _, r.reverse, IsTup.new _ _⟩
theorem se_rev {e1 : Expr} {a : E} {k : Nat} {p1 p2 p3 pos : Pos} (h1 : PE X e1 (tE fa ca cl W .b a)) : PE X (.Subscript e1 (.Slice none none (some (.UnaryOp .USub (.Constant (.int 1) k p1) p2)) p3) pos) (tE fa ca cl W m (.rev a)) := by
  refine (pe_rev h1).weak fun σ H Q h => ?_
  obtain ⟨w, env, S, rfl, k, he, h⟩ := h
  unfold evE at h
  refine tE_bind k he h fun d1 S1 w1 v1 s1 k1 e1 r1 h1 => ?_
  cases f : revF d1 with
  | none =>
    rw [f] at h1
    exact h1.elim
  | some d =>
    rw [f] at h1
    cases d1 with
    | list xs =>
      cases f
      obtain ⟨p, vs, rfl, q1, q2, r⟩ := r1.lst (K := X.K)
      exact ⟨p, vs, rfl, .inl ⟨q1, fun l hl => h1.lst k1 r.reverse hl⟩⟩
    | tuple xs =>
      cases f
      obtain ⟨p, vs, rfl, q1, q2, r⟩ := r1.tup (K := X.K)
      exact ⟨p, vs, rfl, .inr ⟨q1, fun l hl => h1.tup k1 r.reverse hl⟩⟩
    | _ => cases f
end
end Mini
/-! min(..) of a list of plain data. -/
namespace Mini
open PySem L2
variable {fa : FA} {ca : CA} {cl : Calls}
def rMinD (K : PySem.W.Frag) : List V → Hp → VK → Prop := fun us H Q => ∃ a xs x ds, us = [.ref a] ∧ SqL K H a xs ∧ DpAll K H xs (x :: ds) ∧ PySem.W.AlikeAll (x :: ds) ∧ PyData.depthAll (x :: ds) ≤ 64 ∧
  ∀ (i : Nat) v, xs[i]? = some v → (x :: ds)[i]? = some (PySem.W.minD x ds) → Q v H
theorem vals_get : ∀ {xs : List V} {us : List Value} {i : Nat} {u : Value}, Vals xs us → us[i]? = some u → ∃ v, xs[i]? = some v ∧ RelV v u := by
  intro xs us i u r
  induction r generalizing i with
  | nil => intro h; simp at h
  | cons r t ih =>
    intro h
    cases i with
    | zero =>
      have := Option.some.inj h
      rw [← this]
      exact ⟨_, rfl, r⟩
    | succ i => exact ih (by simpa using h)
theorem cr_minD {X : Cx} (hc : X.calm = true) (hu : X.A.units + 100 < cLine) : CallR X (.builtin "min") (rMinD X.K) := by
  intro pins s σ H vs us Q I r h
  obtain ⟨a, xs, x, ds, rfl, hs, hd, h1, h3, q⟩ := h
  rw [Vals.ref1 r]
  obtain ⟨its, rv, hl, hz⟩ := I.list hs
  obtain ⟨e1, e2⟩ := each_zip I hd rv
  have em : ((x :: ds).zip xs).map (fun b => b.1) = x :: ds := List.map_fst_zip (by rw [dp_len hd]; exact Nat.le_refl _)
  obtain ⟨as, ra⟩ := PySem.W.each_readsAll (fun b : D × V => b.1) e2
  rw [em] at ra
  refine PySem.W.min_list_data (vs := its.toArray) (I.ok.hd hc) hl.isList (by simpa using ra) h1 (by omega) fun i v h' tk bs hv rd hk => ?_
  have hv : its[i]? = some v := by simpa using hv
  obtain ⟨y, hy, ry⟩ := vals_get rv hv
  have hi : i < (x :: ds).length := by
    rw [dp_len hd]
    exact (List.getElem?_eq_some_iff.mp hy).1
  obtain ⟨bs2, r2, _, _, _⟩ := PySem.W.readsAll_at ra i v hv
  have r3 : Reads h' v ((x :: ds).getD i .none) bs2 := PySem.W.reads_keeps hk r2
  have mm : (x :: ds).getD i .none ∈ x :: ds := by
    rw [List.getD_eq_getElem?_getD, List.getElem?_eq_getElem hi]
    exact List.getElem_mem _
  have mn : PySem.W.minD x ds ∈ x :: ds := by
    have : ∀ (l : List D) (m : D), m ∈ x :: ds → (∀ y ∈ l, y ∈ x :: ds) → l.foldl (fun a y => if PySem.W.dataLt y a then y else a) m ∈ x :: ds := fun l => by
      induction l with
      | nil => exact fun m hm _ => hm
      | cons y r ih =>
        intro m hm hl
        rw [List.foldl_cons]
        refine ih _ ?_ fun z hz => hl z (List.mem_cons_of_mem _ hz)
        split
        · exact hl y List.mem_cons_self
        · exact hm
    exact this ds x List.mem_cons_self fun y hy => List.mem_cons_of_mem _ hy
  have eq := PySem.W.alike_unique _ _ _ _ _ (h1.1 _ mm _ mn) r3 rd
  refine ⟨y, H, I.kept (h' := h') (t' := tk) hk, ry, q i y hy ?_⟩
  rw [List.getElem?_eq_getElem hi, ← eq, List.getD_eq_getElem?_getD, List.getElem?_eq_getElem hi]
  rfl
theorem leastD_min : ∀ (xs : List D) (x : D), leastD x xs = PySem.W.minD x xs
  | [], x => rfl
  | y :: r, x => by
    rw [leastD, leastD_min r]
    rfl
theorem depth_all : ∀ {ds : List D}, (∀ d ∈ ds, d.depth ≤ 64) → PyData.depthAll ds ≤ 64
  | [], _ => by simp [PyData.depthAll]
  | d :: r, h => by
    have h1 := h d List.mem_cons_self
    have h2 := depth_all (ds := r) fun x hx => h x (List.mem_cons_of_mem _ hx)
    rw [PyData.depthAll]
    omega
theorem v_min {K : PySem.W.Frag} : VP fa ca (rMinD K) .min := by
  intro w S vs ds d m W σ Q k rs e hm h
  unfold primF at e
  split at e <;> first | cases e | skip
  all_goals try contradiction
  split at e
  · rename_i x xs _ ha
    cases e
    obtain ⟨v, rfl, rb⟩ := rs.one
    obtain ⟨a, vs, rfl, q1, _, r⟩ := rb.lst (K := K)
    obtain ⟨a1, a2, a3, a4⟩ := alikes_ok ha
    have nn : ∀ y ∈ x :: xs, y ≠ .none := fun y hy e => by
      subst e
      unfold alikes at ha
      rw [Bool.and_eq_true, List.all_eq_true] at ha
      have := ha.1 _ hy
      simp [isNone] at this
    refine ⟨a, vs, x, xs, rfl, q1, r.dp a4, ⟨a1, nn⟩, depth_all a3, fun i v hv hd => ?_⟩
    obtain ⟨y, e1, ry⟩ := r.get hd
    rw [hv] at e1
    cases e1
    rw [leastD_min] at h
    have hmf : m ≠ .f := fun e => by
      have := hm e
      cases this
    exact h.ofR hmf k ry
  · cases e
end Mini
/-! Methods of texts: join, split, upper. -/
namespace Mini
open PySem L2
variable {fa : FA} {ca : CA} {cl : Calls}
section
variable {X : Cx} {W : WX} {m : Md}
theorem strs_rs {w : Wd} : ∀ {xs : List D} {vs : List V} {ss : List Str}, Rs fa w xs vs → strsOf xs = some ss → vs = ss.map V.str
  | [], _, ss, .nil, e => by
    cases e
    rfl
  | x :: xs, _, ss, .cons r t, e => by
    cases x with
    | str z =>
      have e : (strsOf xs).map (z :: ·) = some ss := e
      cases e1 : strsOf xs with
      | none => rw [e1] at e; cases e
      | some qs =>
        rw [e1] at e
        cases e
        cases r
        rw [strs_rs t e1]
        rfl
    | _ => cases e
theorem rs_strs {w : Wd} : ∀ (ss : List Str), Rs fa w (ss.map .str) (ss.map V.str)
  | [] => .nil
  | s :: ss => .cons (.str s) (rs_strs ss)
theorem se_join {o e : Expr} {a b : E} {apos pos : Pos} (ho : PE X o (tE fa ca cl W .b a)) (he : PE X e (tE fa ca cl W .b b)) (hs : starEach [e] X.env = [(false, eval e X.env)]) (hb : attributeBase o "join" X.env (eval o X.env) = eval o X.env) (hl : (apos.endLine == pos.line) = true) :
    PE X (.Call (.Attribute o "join" apos) [e] [] pos) (tE fa ca cl W m (.sm1 .join a b)) := by
  refine (pe_join ho he hs hb hl).weak fun σ H Q h => ?_
  obtain ⟨w, env, S, rfl, k, hE, h⟩ := h
  unfold evE at h
  refine tE_bind k hE h fun d1 S1 w1 v1 s1 k1 e1 r1 h1 => ?_
  cases d1 with
  | str z =>
    cases r1.str
    refine ⟨⟨z, rfl⟩, ?_⟩
    refine tE_bind k1 e1 h1 fun d2 S2 w2 v2 s2 k2 e2 r2 h2 => ?_
    cases f : smF1 .join z d2 with
    | none =>
      rw [f] at h2
      exact h2.elim
    | some d =>
      rw [f] at h2
      cases d2 with
      | list xs =>
        have f : ((strsOf xs).bind fun ss => if lim ((ss.map Str.length).sum + ss.length * z.length) then some (PyData.str (Txt.join z ss)) else none) = some d := f
        obtain ⟨ss, f1, f2⟩ : ∃ ss, strsOf xs = some ss ∧ (if lim ((ss.map Str.length).sum + ss.length * z.length) then some (PyData.str (Txt.join z ss)) else none) = some d := by
          cases e : strsOf xs with
          | none => rw [e] at f; cases f
          | some ss => rw [e] at f; exact ⟨ss, rfl, f⟩
        split at f2
        · rename_i hz
          cases f2
          obtain ⟨p, vs, rfl, q1, _, r⟩ := r2.lst (K := X.K)
          have ev := strs_rs r f1
          subst ev
          exact ⟨z, p, ss, rfl, rfl, .inl q1, by have := lim_ok hz; unfold sizeLine at this; omega, h2.sc k2 rfl (.str _)⟩
        · cases f2
      | _ => cases f
  | _ => exact h1.elim
theorem se_split {o e : Expr} {a b : E} {apos pos : Pos} (ho : PE X o (tE fa ca cl W .b a)) (he : PE X e (tE fa ca cl W .b b)) (hs : starEach [e] X.env = [(false, eval e X.env)]) (hb : attributeBase o "split" X.env (eval o X.env) = eval o X.env) (hl : (apos.endLine == pos.line) = true) :
    PE X (.Call (.Attribute o "split" apos) [e] [] pos) (tE fa ca cl W m (.sm1 .split a b)) := by
  refine (pe_split ho he hs hb hl).weak fun σ H Q h => ?_
  obtain ⟨w, env, S, rfl, k, hE, h⟩ := h
  unfold evE at h
  refine tE_bind k hE h fun d1 S1 w1 v1 s1 k1 e1 r1 h1 => ?_
  cases d1 with
  | str z =>
    cases r1.str
    refine ⟨⟨z, rfl⟩, ?_⟩
    refine tE_bind k1 e1 h1 fun d2 S2 w2 v2 s2 k2 e2 r2 h2 => ?_
    cases f : smF1 .split z d2 with
    | none =>
      rw [f] at h2
      exact h2.elim
    | some d =>
      rw [f] at h2
      cases d2 with
      | str y =>
        cases r2.str
        have f : (if lim z.length && !(y.length == 0) then some (PyData.list ((Txt.split z y).map .str)) else none) = some d := f
        split at f
        · rename_i hz
          cases f
          rw [Bool.and_eq_true] at hz
          have h1 : (y.length == 0) = false := by simpa using hz.2
          have h2' : z.length ≤ 1000000 := of_decide_eq_true hz.1
          exact ⟨z, y, rfl, rfl, h1, by unfold sizeLine; omega, fun p hp => h2.lst k2 (rs_strs _) hp⟩
        · cases f
      | _ => cases f
  | _ => exact h1.elim
theorem se_upper {o : Expr} {a : E} {apos pos : Pos} (ho : PE X o (tE fa ca cl W .b a)) (hb : attributeBase o "upper" X.env (eval o X.env) = eval o X.env) (hl : (apos.endLine == pos.line) = true) :
    PE X (.Call (.Attribute o "upper" apos) [] [] pos) (tE fa ca cl W m (.sm0 .upper a)) := by
  refine (pe_upper ho hb hl).weak fun σ H Q h => ?_
  obtain ⟨w, env, S, rfl, k, hE, h⟩ := h
  unfold evE at h
  refine tE_bind k hE h fun d1 S1 w1 v1 s1 k1 e1 r1 h1 => ?_
  cases d1 with
  | str z =>
    cases r1.str
    have h1 : PostE fa ca W σ m w1 (ofO (if lim z.length then some (.str (Txt.upper z)) else none) S1) Q := h1
    split at h1
    · rename_i hz
      have hz : z.length ≤ 1000000 := of_decide_eq_true hz
      exact ⟨⟨z, rfl⟩, z, rfl, rfl, by omega, h1.sc k1 rfl (.str _)⟩
    · exact h1.elim
  | _ => exact h1.elim
theorem se_lower {o : Expr} {a : E} {apos pos : Pos} (ho : PE X o (tE fa ca cl W .b a)) (hb : attributeBase o "lower" X.env (eval o X.env) = eval o X.env) (hl : (apos.endLine == pos.line) = true) :
    PE X (.Call (.Attribute o "lower" apos) [] [] pos) (tE fa ca cl W m (.sm0 .lower a)) := by
  refine (pe_lower ho hb hl).weak fun σ H Q h => ?_
  obtain ⟨w, env, S, rfl, k, hE, h⟩ := h
  unfold evE at h
  refine tE_bind k hE h fun d1 S1 w1 v1 s1 k1 e1 r1 h1 => ?_
  cases d1 with
  | str z =>
    cases r1.str
    have h1 : PostE fa ca W σ m w1 (ofO (if lim z.length then some (.str (Txt.lower z)) else none) S1) Q := h1
    split at h1
    · rename_i hz
      have hz : z.length ≤ 1000000 := of_decide_eq_true hz
      exact ⟨⟨z, rfl⟩, z, rfl, rfl, by omega, h1.sc k1 rfl (.str _)⟩
    · exact h1.elim
  | _ => exact h1.elim
theorem se_scount {o e : Expr} {a b : E} {apos pos : Pos} (ho : PE X o (tE fa ca cl W .b a)) (he : PE X e (tE fa ca cl W .b b)) (hs : starEach [e] X.env = [(false, eval e X.env)]) (hb : attributeBase o "count" X.env (eval o X.env) = eval o X.env) (hl : (apos.endLine == pos.line) = true) :
    PE X (.Call (.Attribute o "count" apos) [e] [] pos) (tE fa ca cl W m (.sm1 .count a b)) := by
  refine (pe_m1 F.slot_str_count F.type_str_count mt_count ho he hs hb hl).weak fun σ H Q h => ?_
  obtain ⟨w, env, S, rfl, k, hE, h⟩ := h
  unfold evE at h
  refine tE_bind k hE h fun d1 S1 w1 v1 s1 k1 e1 r1 h1 => ?_
  cases d1 with
  | str z =>
    cases r1.str
    refine ⟨⟨z, rfl⟩, ?_⟩
    refine tE_bind k1 e1 h1 fun d2 S2 w2 v2 s2 k2 e2 r2 h2 => ?_
    cases d2 with
    | str y =>
      cases r2.str
      have h2 : PostE fa ca W σ m w2 (ofO (some (.int (Txt.count z y))) S2) Q := h2
      exact ⟨z, y, rfl, rfl, h2.sc k2 rfl (.int _)⟩
    | _ => exact h2.elim
  | _ => exact h1.elim
end
end Mini
/-! Exceptions: kept by a name, asked for their class. -/
namespace Mini
open PySem PySem.Spec PyProof.Rows L2
section
variable {X : Cx} {pins : List (Addr × Obj)} {σ : L2.St} {H : Hp} {s : Shared}
theorem excO_ok {P : Program} {w : World} {H : Hp} {h : Heap} {a C : Addr} {oe : Obj} (e : h.get? a = some oe) (hc : oe.cls = .ref C) (hd : oe.dict = none) (hf : ∃ vs, oe.data = .fields vs) : ObjOk P w H h a (ExcO a C) := by
  have I : PySem.W.InstAt h a oe C none := by
    obtain ⟨c, d, dt, sl⟩ := oe
    obtain ⟨vs, hv⟩ := hf
    dsimp only at hc hd hv
    subst hc hd hv
    exact ⟨e, rfl, rfl, trivial⟩
  refine ⟨⟨oe, I⟩, ⟨oe, e⟩, fun h1 h2 ⟨ox, q⟩ st => ?_⟩
  obtain ⟨q1, q2, q3, q4⟩ := q
  refine ⟨ox, st _ q1, q2, q3, ?_⟩
  cases ed : ox.dict with
  | none => trivial
  | some dx =>
    rw [ed] at q4
    exact q4.elim
/-- what is pinned is told from now on -/
theorem inv_track {a C : Addr} {oe : Obj} (I : Inv X ((a, oe) :: pins) σ H s) (hn : X.s_0.heap.get? a = none) (hnp : ∀ p ∈ X.pn ++ pins, p.1 ≠ a) (hc : oe.cls = .ref C) (hd : oe.dict = none) (hf : ∃ vs, oe.data = .fields vs) : Inv X pins σ (upd H a (ExcO a C)) s := by
  obtain ⟨p1, p2, p3, p4, p5⟩ := I.pin (a, oe) (List.mem_append_right _ List.mem_cons_self)
  have nd : ∀ {p : Addr × Obj}, p ∈ X.pn ++ pins → p ∈ X.pn ++ (a, oe) :: pins := fun {p} hp => by
    rcases List.mem_append.mp hp with z | z
    · exact List.mem_append_left _ z
    · exact List.mem_append_right _ (List.mem_cons_of_mem _ z)
  have old : ∀ b o, X.s_0.heap.get? b = some o → b ≠ a := fun b o e z => by
    rw [z, hn] at e
    cases e
  have was : ∀ {b : Addr} {u : HO}, H b = some u → upd H a (ExcO a C) b = some u := fun {b u} e => by
    rw [upd_ne (ne_of_none e p2)]
    exact e
  have cne : ∀ x c, X.env.cells.lookup x = some c → c ≠ a := fun x c e z => by
    obtain ⟨v, o, ho, hv⟩ := I.cell x c e
    rw [z] at ho
    rw [show s.heap.get? a = some oe from p1] at ho
    cases ho
    exact p5 _ hv
  refine ⟨I.ok, I.os, I.bare, ⟨I.base.keep, I.base.slot, fun b o e n hb => ?_, I.base.there, fun b xs e => was (I.base.tups b xs e), fun b o u e => was (I.base.frzs b o u e), fun b ps e => ?_⟩, I.loc, I.cell, ?_, fun x c e => ?_, fun p hp => ?_, ?_, I.len⟩
  · rw [upd_ne (old b o e)]
    exact I.base.free b o e n hb
  · obtain ⟨more, q⟩ := I.base.tbls b ps e
    exact ⟨more, was q⟩
  · rw [upd_ne (Ne.symm p3)]
    exact I.free
  · rw [upd_ne (cne x c e)]
    exact I.freeC x c e
  · obtain ⟨q1, q2, q3⟩ := I.pin p (nd hp)
    exact ⟨q1, by rw [upd_ne (hnp p hp)]; exact q2, q3⟩
  · intro b u e
    by_cases hb : b = a
    · subst hb
      rw [upd_same] at e
      cases e
      exact excO_ok p1 hc hd hf
    · rw [upd_ne hb] at e
      exact (I.hok b u e).stay (fun c v _ q => q) (fun c q => was q) fun c xs q => was q
end
/-- what is wished of an exception: it is of the class, and kept by the slot j -/
def wKeep (K : PySem.W.Frag) (c : Value) (i j : Nat) (D : Ends) : WX := fun cls d σ H =>
  d = none ∧ ∃ C, cls = .ref C ∧ PySem.W.exmOne K cls c = some true ∧ ∀ a, H a = none → D.nx ((σ.set j (some (.ref a))).set i none) (upd H a (ExcO a C))
section
variable {X : Cx} {x n y : Str} {c : Value} {i j : Nat} {body : List Stmt} {np py pe pa ph pos : Pos} {tb : WX → TS}
theorem ps_try_keep (hs : X.stack = X.env :: X.outer) (hf : X.env.frame = some X.env.locals) (hx : X.ex = []) (hN : X.N.Nodup) (hi : X.N[i]? = some n) (hln : X.env.kindOf n = some .local)
    (hj : X.N[j]? = some y) (hjl : Loc X.env.scope y) (hjf : X.fn y = true ∨ X.env.scope.names.lookup y = some .local) (hd1 : (n == ("__debug__" : Str)) = false) (hd2 : (n == ("__classdict__" : Str)) = false) (hc : Names X x c)
    (hb : ∀ (W : WX) (pn : List (Addr × Obj)) (xe : Value → Shared → Prop), Takes (X.tr pn xe) W → PassesOwn (model X.prog X.w) X.A X.env xe → PSs (X.tr pn xe) body (tb W)) :
    PS X (.Try body [.ExceptHandler (some (.Name x np)) (some n) [.Assign [.Name y py] (.Name n pe) pa] ph] [] [] pos) (fun D σ H => tb (wKeep X.K c i j D) D σ H) := by
  refine ⟨fun pins s σ H D I h => ?_⟩
  have ok := I.ok
  have fr : X.A.frames = some (X.env :: X.outer) := by
    rw [ok.frames, hs]
  refine wpAny_Try_except (wpAny_mono ((hb (wKeep X.K c i j D) (X.pn ++ pins) _ (fun u s' xx => ?kat) PassesOwn.looking).run [] s σ H D (I.toTry _) h) (fun f s1 hsp => ?fine) (fun e s1 he => he))
  case fine =>
    rcases f with v | _ | _ | _
    all_goals first
      | (obtain ⟨σ1, H1, J1, q⟩ := hsp; first | exact wpAny_execs_nil ⟨σ1, H1, J1.ofTry ok, q⟩ | exact ⟨σ1, H1, J1.ofTry ok, q⟩)
      | (obtain ⟨v1, σ1, H1, J1, r, q⟩ := hsp; exact ⟨v1, σ1, H1, J1.ofTry ok, r, q⟩)
  case kat =>
    obtain ⟨a, B, sI, pins1, σ1, H1, cls, d, rfl, J1, nb, up, sky, na, os, ag, ed, C, ec, hm, hyes⟩ := xx
    subst ed ec
    have J : Inv X pins σ1 H1 sI := J1.ofTry ok
    rw [hs] at nb
    have sk : Sky B (X.env :: X.outer) a (Zc (.ref C) none) X.env.locals s'.heap := by
      rw [← hs]
      exact sky
    refine Sky.land Zc.steady fr hf sk fun g1 fl1 u1 => ?_
    obtain ⟨e1, v1, a1, z1, d1⟩ := fl1.there
    have nfr : a ∉ frs (X.env :: X.outer) := fun hm => by
      obtain ⟨_, o1, q1, q2⟩ := fl1.2.2.1.mem hm
      rw [a1] at q1
      cases q1
      exact q2 _ d1
    have nL : a ≠ X.env.locals := fun z => nfr (List.mem_filterMap.mpr ⟨X.env, List.mem_cons_self, by rw [hf, z]⟩)
    have nF : a ∉ X.fs := fun hm => by
      obtain ⟨e, he, q⟩ := List.mem_filterMap.mp hm
      exact nfr (List.mem_filterMap.mpr ⟨e, List.mem_cons_of_mem _ he, q⟩)
    have Ba : B.get? a = none := fl1.2.1
    have Bn : ∀ b o, sI.heap.get? b = some o → b ∉ frs (X.env :: X.outer) → b ≠ a := fun b o e hb z => by
      have q := nb b o e hb
      rw [z, Ba] at q
      cases q
    have s0 : X.s_0.heap.get? a = none := by
      cases q : X.s_0.heap.get? a with
      | none => rfl
      | some o =>
        obtain ⟨o2, q2⟩ := J.base.there a o q (by rw [hx]; simp)
        exact absurd rfl (Bn a o2 q2 nfr)
    have hnp : ∀ p ∈ X.pn ++ pins, p.1 ≠ a := fun p hp => by
      obtain ⟨q1, q2, q3, q4, q5⟩ := J.pin p hp
      refine Bn p.1 p.2 q1 fun hm => ?_
      obtain ⟨e, he, q⟩ := List.mem_filterMap.mp hm
      rcases List.mem_cons.mp he with z | z
      · rw [z, hf] at q
        exact q3 (Option.some.inj q).symm
      · exact q4 (List.mem_filterMap.mpr ⟨e, z, q⟩)
    have K1 : Inv X pins σ1 H1 { s' with heap := g1 } := J.landed (by rw [hs]; exact nb) fl1.1 (up.trans u1) os ag
    have T1 := K1.suite a1 d1 na nL nF
    refine wpAny_handleBy_cons (codeAny_handlers_test ?_) (by intro q; cases q)
    have lt : PySem.W.Looks (model X.prog X.w) g1 (typeOf (.ref a)) (.ref C) := fun A Q E s k q => wpAny_typeOf_ref (k _ _ a1) (by rw [z1.1]; exact q)
    have lm := PySem.W.exm_one (M := model X.prog X.w) K1.kIn lt hm
    have ask : ∀ {Q : Value → Shared → Prop} {E : Value → Shared → Prop}, Q c { s' with heap := g1 } → wpAny (model X.prog X.w) (X.A.mark (some (.ref a))) (eval (.Name x np) X.env) Q E { s' with heap := g1 } := fun {Q E} q => by
      obtain ⟨c1, c2, c3 | ⟨c3, c4, c5⟩⟩ := hc
      · exact ld_glob T1 c1 c3 q c2
      · exact ld_blt T1 c1 c3 c4 q c5 c2
    refine ask (lm.here (codeAny_handlers_suite_as (HandSPX.lands_againZ fl1 fun g2 fl2 u2 => ?_)))
    obtain ⟨e2, v2, a2, z2, d2⟩ := fl2.there
    have K2 : Inv X pins σ1 H1 { s' with heap := g2 } := J.landed (by rw [hs]; exact nb) fl2.1 ((up.trans u1).trans u2) os ag
    have T2 := K2.suite a2 d2 na nL nF
    refine store_ok (X := X.suite a ((a, e2) :: (X.pn ++ pins))) (v := .ref a) T2 hN hi (.inl hln) rfl (fun s5 T5 => ?_) (.inr hln)
    have hl : i < σ1.length := by
      rw [J.len]
      exact (List.getElem?_eq_some_iff.mp hi).1
    have put := (pss_one (ps_set (X := X.suite a ((a, e2) :: (X.pn ++ pins))) (pos := pa) (pos' := py) hN hj hjl (pe_var (pos := pe) hi (.inl hln) hd1 hd2) rfl hjf)).run [] s5 (σ1.set i (some (.ref a))) H1
      { nx := fun σ6 H6 => σ6 = (σ1.set i (some (.ref a))).set j (some (.ref a)) ∧ H6 = H1, rt := fun _ _ => False } T5 ⟨.ref a, List.getElem?_set_self hl, rfl, rfl⟩
    refine wpAny_mono put (fun f s6 hsp => ?_) (fun _ _ z => False.elim z)
    rcases f with _ | _ | _ | v
    · obtain ⟨σ6, H6, T6, rfl, rfl⟩ := hsp
      have I6 : Inv X ((a, e2) :: pins) ((σ1.set i (some (.ref a))).set j (some (.ref a))) H6 s6 := ⟨ok, T6.os, T6.bare, T6.base, T6.loc, T6.cell, T6.free, T6.freeC, fun p hp => T6.pin p (by
        rw [List.append_nil]
        rcases List.mem_append.mp hp with z | z
        · exact List.mem_cons_of_mem _ (List.mem_append_left _ z)
        · rcases List.mem_cons.mp z with z | z
          · rw [z]
            exact List.mem_cons_self
          · exact List.mem_cons_of_mem _ (List.mem_append_right _ z)), T6.hok, T6.len⟩
      refine gone_ok I6 hN hi hln fun s7 I7 => ?_
      have e : ((σ1.set i (some (V.ref a))).set j (some (.ref a))).set i none = (σ1.set j (some (.ref a))).set i none := by
        by_cases hij : i = j
        · subst hij
          simp
        · rw [List.set_comm _ _ hij, List.set_set]
      rw [e] at I7
      exact ⟨_, _, inv_track I7 s0 hnp z2.1 z2.2 ⟨_, d2⟩, hyes a na⟩
    · obtain ⟨_, _, _, q⟩ := hsp
      exact False.elim q
    · obtain ⟨_, _, _, q⟩ := hsp
      exact False.elim q
    · obtain ⟨_, _, _, _, _, q⟩ := hsp
      exact False.elim q
end
end Mini
/-! Exceptions asked for their class; lists of truth values counted. -/
namespace Mini
open PySem PySem.Spec PyProof.Rows L2
variable {fa : FA} {ca : CA} {cl : Calls}
section
variable {X : Cx} {W : WX} {m : Md}
/-! ### count, index -/
def eqB (k : Bool) : Value → Bool
  | .bool b => b == k
  | _ => false
theorem bl_vals : ∀ {bs : List Bool} {us : List Value}, Vals (bs.map V.bl) us → us = bs.map Value.bool
  | [], _, .nil => rfl
  | b :: bs, _, .cons r t => by
    have e : _ = Value.bool b := r
    rw [bl_vals t, e]
    rfl
def rCntB (K : PySem.W.Frag) : V → List V → Hp → VK → Prop := fun x xs H Q => ∃ (p : Addr) (bs : List Bool) (k : Bool), x = .ref p ∧ xs = [.bl k] ∧ SqL K H p (bs.map V.bl) ∧ Q (.int (bs.countP (· == k) : Nat)) H
theorem mt_bcount : MtR X "list.count" (rCntB X.K) := by
  intro pins s σ H x xs v us Q I rx rxs h
  obtain ⟨p, bs, k, rfl, rfl, hs, q⟩ := h
  cases rx
  obtain ⟨u, rfl, ru⟩ := rxs.one
  have eu : u = Value.bool k := ru
  subst eu
  obtain ⟨its, rv, ⟨⟨c, d, dt, sl⟩, n, ho, hc, hn, hd⟩, hz⟩ := I.list hs
  simp only at hc hd
  subst hc hd
  have ei := bl_vals rv
  subst ei
  refine call_meets PySem.F.slot_list_count ⟨_, ho, rfl⟩ PySem.F.entry_list_count (PySem.F.args_list_count_2 _ _) (SeqAt.list_countAt p _ n d sl (.bool k) (eqB k)) ⟨ho, fun y hy => ?_, ?_⟩
  · have hy : y ∈ bs.map Value.bool := by simpa using hy
    obtain ⟨b, _, rfl⟩ := List.mem_map.mp hy
    exact SeqAt.EqAt.bool_bool b k
  · have ec : ∀ l : List Bool, (l.map Value.bool).countP (eqB k) = l.countP (· == k) := fun l => by
      rw [List.countP_map]
      rfl
    refine ⟨.int (bs.countP (· == k) : Nat), H, I.tok _, ⟨s.toks, ?_⟩, q⟩
    rw [show ((bs.map Value.bool).toArray.toList.countP (eqB k)) = bs.countP (· == k) from ec bs]
theorem se_lm1 {p : Prim} {o : Expr} {a : E} {k : Bool} {f : Str} {j : Nat} {apos cpos pos : Pos} (hp : (p = .count ∧ f = "count") ∨ (p = .index ∧ f = "index")) (ho : PE X o (tE fa ca cl W .b a)) (hb : attributeBase o f X.env (eval o X.env) = eval o X.env) (hl : (apos.endLine == pos.line) = true) :
    PE X (.Call (.Attribute o f apos) [.Constant (.bool k) j cpos] [] pos) (tE fa ca cl W m (.lm1 p a k)) := by
  rcases hp with ⟨rfl, rfl⟩ | ⟨rfl, rfl⟩
  · refine (pe_bm PySem.F.plainAttrs_list PySem.F.slot_list_count PySem.F.type_list_count mt_bcount ho (pa_cons (pe_bl (pos := cpos)) pa_nil) hb rfl hl rfl rfl).weak fun σ H Q h => ?_
    obtain ⟨w, env, S, rfl, k0, hE, h⟩ := h
    unfold evE at h
    refine tE_bind k0 hE h fun d1 S1 w1 v1 s1 k1 e1 r1 h1 => ?_
    cases d1 with
    | list xs =>
      obtain ⟨q, vs, rfl, q1, _, r⟩ := r1.lst (K := X.K)
      have h1 : PostE fa ca W σ m w1 (ofO ((bools xs).map fun bs => .int (bs.countP (· == k) : Nat)) S1) Q := h1
      cases f : bools xs with
      | none =>
        rw [f] at h1
        exact h1.elim
      | some bs =>
        rw [f] at h1
        have ev := bools_vs r f
        subst ev
        exact ⟨.inl ⟨rfl, _, q1⟩, q, bs, k, rfl, rfl, q1, h1.int k1⟩
    | _ => exact h1.elim
  · refine (pe_bm PySem.F.plainAttrs_list PySem.F.slot_list_index PySem.F.type_list_index mt_index ho (pa_cons (pe_bl (pos := cpos)) pa_nil) hb rfl hl rfl rfl).weak fun σ H Q h => ?_
    obtain ⟨w, env, S, rfl, k0, hE, h⟩ := h
    unfold evE at h
    refine tE_bind k0 hE h fun d1 S1 w1 v1 s1 k1 e1 r1 h1 => ?_
    cases d1 with
    | list xs =>
      obtain ⟨q, vs, rfl, q1, _, r⟩ := r1.lst (K := X.K)
      have h1 : PostE fa ca W σ m w1 (ofO ((bools xs).bind fun bs => (bs.findIdx? (· == k)).map fun i => .int i) S1) Q := h1
      cases f : bools xs with
      | none =>
        rw [f] at h1
        exact h1.elim
      | some bs =>
        rw [f] at h1
        have ev := bools_vs r f
        subst ev
        cases g : bs.findIdx? (· == k) with
        | none =>
          simp only [Option.bind_some, g] at h1
          exact h1.elim
        | some i =>
          simp only [Option.bind_some, g] at h1
          obtain ⟨hi, g1, g2⟩ := List.findIdx?_eq_some_iff_getElem.mp g
          refine ⟨.inl ⟨rfl, _, q1⟩, q, _, .bl k, i, .bl bs[i], rfl, rfl, q1, rfl, ?_, ?_, ?_, ?_, h1.int k1⟩
          · rw [List.all_map]
            exact List.all_eq_true.mpr fun _ _ => rfl
          · rw [List.getElem?_map, List.getElem?_eq_getElem hi]
            rfl
          · exact g1
          · intro n z hn hz
            rw [List.getElem?_map] at hz
            have hn' : n < bs.length := by omega
            rw [List.getElem?_eq_getElem hn'] at hz
            cases hz
            have := g2 n hn
            show (bs[n] == k) = false
            simpa using this
    | _ => exact h1.elim
/-! ### isinstance -/
theorem call_isX : CallR X (.builtin "isinstance") (fun xs H Q => ∃ (a D : Addr) (c : V) (cv : Value) (b : Bool), xs = [.ref a, c] ∧ Rd H a (ExcO a D) ∧ ExcC X.K D ∧ (∀ u, RelV c u → u = cv) ∧ PySem.W.kitOne X.K (.ref D) cv = some b ∧ Q (.bl b) H) := by
  intro pins s σ H xs us Q I r h
  obtain ⟨a, D, c, cv, b, rfl, ha, C, hcv, e, q⟩ := h
  cases r with
  | cons rx rr =>
    cases rr with
    | cons rt rr =>
      cases rr
      cases rx
      have ec := hcv _ rt
      subst ec
      obtain ⟨⟨ox, J⟩, _, _⟩ := ha.ok I.hok
      exact PySem.W.kia_one (PySem.W.handS_kitx_exc C.hg C.hk C.hs C.hd C.ha C.hn C.ht C.hm) I.kIn J e (fun z => nomatch z) fun tk => ⟨.bl b, H, I.kept (t' := tk) fun _ _ z => z, rfl, q⟩
/-- what is known of the exceptions' classes -/
structure ExcI (fa : FA) (K : PySem.W.Frag) : Prop where
  c : ∀ x D, fa.x x = some D → ExcC K D
  s : ∀ x D t C, fa.x x = some D → fa.x t = some C → PySem.W.kitOne K (.ref D) (.ref C) = some (exSub x t)
  v : ∀ x D, fa.x x = some D → PySem.W.kitOne K (.ref D) (.type "ValueError") = some true
theorem boot_ve : bootBuiltins ("ValueError" : Str) = some (.type "ValueError") := by decide +kernel
theorem tE_imp {e : E} {σ : L2.St} {H : Hp} {Q Q' : VK} (hq : ∀ v H, Q v H → Q' v H) (h : tE fa ca cl W m e σ H Q) : tE fa ca cl W m e σ H Q' := by
  obtain ⟨w, env, S, h1, h2, h3, h⟩ := h
  refine ⟨w, env, S, h1, h2, h3, ?_⟩
  cases r : evE cl m e env S with
  | no =>
    rw [r] at h
    exact h
  | ex c S1 =>
    rw [r] at h
    exact h
  | ok d S1 =>
    rw [r] at h
    exact fun w1 v s1 k1 rb => hq _ _ (h w1 v s1 k1 rb)
theorem isx_bind {t : Str} {a : E} {c : V} {cv : Value} (G : ExcI fa X.K) (hcv : ∀ u, RelV c u → u = cv) (hk : ∀ x D, fa.x x = some D → PySem.W.kitOne X.K (.ref D) cv = some (exSub x t)) {σ : L2.St} {H : Hp} {Q : VK} (h : tE fa ca cl W m (.prim (.isx t) (.cons a .nil)) σ H Q) :
    tE fa ca cl W .b a σ H fun x H1 => ∃ (a D : Addr) (b : Bool), x = .ref a ∧ Rd H1 a (ExcO a D) ∧ ExcC X.K D ∧ PySem.W.kitOne X.K (.ref D) cv = some b ∧ Q (.bl b) H1 := by
  obtain ⟨w, env, S, rfl, k, he, h⟩ := h
  unfold evE at h
  refine ⟨w, env, S, rfl, k, he, ?_⟩
  unfold evE at h
  cases r : evE cl .b a env S with
  | no =>
    rw [r] at h
    exact h
  | ex c S1 =>
    rw [r] at h
    exact h
  | ok d S1 =>
    rw [r] at h
    intro w1 v s1 k1 rb
    have h : PostE fa ca W σ m w (ofO (primF (.isx t) [d]) S1) Q := h
    cases f : primF (.isx t) [d] with
    | none =>
      rw [f] at h
      exact h.elim
    | some d2 =>
      rw [f] at h
      unfold primF at f
      split at f
      all_goals first | (cases f; done) | skip
      all_goals rename_i heq1 heq2
      all_goals first | (cases heq1; done) | skip
      cases heq1
      cases heq2
      cases f
      rcases (RB.spec rb).spec with ⟨_, ⟨_, _, e, _⟩ | ⟨_, _, e, _⟩ | ⟨_, _, e, _⟩ | ⟨p, D, c', e, e1, z, hc, hH⟩⟩
      · cases e
      · cases e
      · cases e
      · cases e
        subst e1
        exact ⟨p, D, _, rfl, hH, G.c _ D hc, hk _ D hc, h w1 (.bl _) s1 k1 (.sc rfl (.bl _))⟩
theorem se_isx {t : Str} {e : Expr} {a : E} {p q pos : Pos} (G : ExcI fa X.K) (hg : Gl X "isinstance") (hmg : X.mg "isinstance" = none) (hg2 : Gl X t) (hdb2 : (t == ("__debug__" : Str)) = false) (ht : (∃ C, X.mg t = some (.ref C) ∧ fa.x t = some C) ∨ (t = "ValueError" ∧ X.mg t = none))
    (hs : ∀ env, starEach [e, .Name t q] env = [(false, eval e env), (false, eval (.Name t q) env)]) (h : PE X e (tE fa ca cl W .b a)) : PE X (.Call (.Name "isinstance" p) [e, .Name t q] [] pos) (tE fa ca cl W m (.prim (.isx t) (.cons a .nil))) := by
  rcases ht with ⟨C, h1, h2⟩ | ⟨rfl, h1⟩
  · have ha : PA X [e, .Name t q] _ := pa_cons h (pa_cons (pe_glob (v := .ref C) (pos := q) hg2 h1 rfl hdb2) pa_nil) (hs _)
    refine (pe_callB (p := p) (pos := pos) call_isX hg hmg PyProof.Rows.boot_isinstance ha (by decide) (by decide) (hs _) rfl).weak fun σ H Q h => ?_
    refine tE_imp (fun x H1 hx => ?_) (isx_bind (c := .ref C) (cv := .ref C) G (fun u r => r) (fun x D hx => G.s x D t C hx h2) h)
    obtain ⟨b, D, k, rfl, q1, q2, q3, q4⟩ := hx
    exact ⟨b, D, .ref C, .ref C, k, rfl, q1, q2, fun u r => r, q3, q4⟩
  · have ha : PA X [e, .Name ("ValueError" : Str) q] _ := pa_cons h (pa_cons (pe_bltn (v := .ty "ValueError") (pos := q) hg2 h1 boot_ve rfl (by decide) hdb2) pa_nil) (hs _)
    refine (pe_callB (p := p) (pos := pos) call_isX hg hmg PyProof.Rows.boot_isinstance ha (by decide) (by decide) (hs _) rfl).weak fun σ H Q h => ?_
    have ve : ∀ x : Str, exSub x "ValueError" = true := fun x => by
      unfold exSub
      rw [show ((("ValueError" : Str) == ("ValueError" : Str))) = true from by decide, Bool.or_true]
    refine tE_imp (fun x H1 hx => ?_) (isx_bind (c := .ty "ValueError") (cv := .type "ValueError") G (fun u r => r) (fun x D hx => by rw [ve]; exact G.v x D hx) h)
    obtain ⟨b, D, k, rfl, q1, q2, q3, q4⟩ := hx
    exact ⟨b, D, .ty "ValueError", .type "ValueError", k, rfl, q1, q2, fun u r => r, q3, q4⟩
end
end Mini
/-! What a deed tells, or how it is refused. -/
namespace Mini
open PySem PySem.Spec PyProof.Rows L2
section
variable {X : Cx} {pins : List (Addr × Obj)} {σ : L2.St} {H : Hp} {s : Shared}
/-- as inv_track, the object itself known -/
theorem inv_trackF {a C : Addr} {oe : Obj} (I : Inv X ((a, oe) :: pins) σ H s) (hn : X.s_0.heap.get? a = none) (hnp : ∀ p ∈ X.pn ++ pins, p.1 ≠ a) (hc : oe.cls = .ref C) (hd : oe.dict = none) (hf : ∃ vs, oe.data = .fields vs) : Inv X pins σ (upd H a (.frz oe (ExcO a C))) s := by
  obtain ⟨p1, p2, p3, p4, p5⟩ := I.pin (a, oe) (List.mem_append_right _ List.mem_cons_self)
  have nd : ∀ {p : Addr × Obj}, p ∈ X.pn ++ pins → p ∈ X.pn ++ (a, oe) :: pins := fun {p} hp => by
    rcases List.mem_append.mp hp with z | z
    · exact List.mem_append_left _ z
    · exact List.mem_append_right _ (List.mem_cons_of_mem _ z)
  have old : ∀ b o, X.s_0.heap.get? b = some o → b ≠ a := fun b o e z => by
    rw [z, hn] at e
    cases e
  have was : ∀ {b : Addr} {u : HO}, H b = some u → upd H a (.frz oe (ExcO a C)) b = some u := fun {b u} e => by
    rw [upd_ne (ne_of_none e p2)]
    exact e
  have cne : ∀ x c, X.env.cells.lookup x = some c → c ≠ a := fun x c e z => by
    obtain ⟨v, o, ho, hv⟩ := I.cell x c e
    rw [z] at ho
    rw [show s.heap.get? a = some oe from p1] at ho
    cases ho
    exact p5 _ hv
  refine ⟨I.ok, I.os, I.bare, ⟨I.base.keep, I.base.slot, fun b o e n hb => ?_, I.base.there, fun b xs e => was (I.base.tups b xs e), fun b o u e => was (I.base.frzs b o u e), fun b ps e => ?_⟩, I.loc, I.cell, ?_, fun x c e => ?_, fun p hp => ?_, ?_, I.len⟩
  · rw [upd_ne (old b o e)]
    exact I.base.free b o e n hb
  · obtain ⟨more, q⟩ := I.base.tbls b ps e
    exact ⟨more, was q⟩
  · rw [upd_ne (Ne.symm p3)]
    exact I.free
  · rw [upd_ne (cne x c e)]
    exact I.freeC x c e
  · obtain ⟨q1, q2, q3⟩ := I.pin p (nd hp)
    exact ⟨q1, by rw [upd_ne (hnp p hp)]; exact q2, q3⟩
  · intro b u e
    by_cases hb : b = a
    · subst hb
      rw [upd_same] at e
      cases e
      exact ⟨p1, excO_ok p1 hc hd hf⟩
    · rw [upd_ne hb] at e
      exact (I.hok b u e).stay (fun c v _ q => q) (fun c q => was q) fun c xs q => was q
end
/-- a def called while an exception is handled -/
def HotFn (P : Program) (w : World) (K : PySem.W.Frag) (mg : Str → Option Value) (base : Heap) (k : Nat) (g : Addr) (sp : List V → Hp → VK → Prop) : Prop :=
  ∀ (A : Around) (outer : List PySem.Env) (s : Shared) (H : Hp) (a : Addr) (Q : VK), L2H.RoomH k A → Env0 P w K mg base A outer s H → sp [.ref a] H Q → codeAny (model P w) A (.call (.ref g) ⟨[.ref a], []⟩) (CR C8.CX0 outer P w H s Q C8.E0) s
theorem pe_hot {X : Cx} {k : Nat} {g : Addr} {sp : List V → Hp → VK → Prop} {f n : Str} {i : Nat} {pf pe pc : Pos} (F : HotFn X.prog X.w X.K X.mg X.base k g sp) (hr : L2H.RoomH k X.A) (hg : Gl X f) (hm : X.mg f = some (.ref g)) (hk : PySem.W.keepIn X.K (.ref g) = true) (hdb : (f == ("__debug__" : Str)) = false)
    (hi : X.N[i]? = some n) (hv : Vis X.env.scope n) (hd1 : (n == ("__debug__" : Str)) = false) (hd2 : (n == ("__classdict__" : Str)) = false) :
    PE X (.Call (.Name f pf) [.Name n pe] [] pc) (fun σ H Q => ∃ a, σ[i]? = some (some (.ref a)) ∧ sp [.ref a] H Q) := by
  refine ⟨fun pins s σ H Q I h => ?_⟩
  obtain ⟨a, h1, h2⟩ := h
  refine wpAny_Call_Name_kw (ld_glob I hg hm ?_ hdb)
  have ha : PA X [.Name n pe] _ := pa_cons (pe_var (pos := pe) hi hv hd1 hd2) pa_nil
  refine PySem.W.callWith_K (h₀ := X.base) I.ok.mod.kin hk (thn (ha.run pc pins s σ H (fun vs H1 => vs = [.ref a] ∧ H1 = H) I ⟨.ref a, h1, rfl, rfl⟩) fun us s1 ⟨vs, H1, I1, r, ev, eH⟩ => ⟨I1.kIn, ?_⟩) rfl rfl
  subst ev eH
  obtain ⟨u, rfl, ru⟩ := r.one
  cases ru
  refine wpAny_call (codeAny_mono (F X.A X.stack s1 H1 a Q hr I1.env0 h2) fun r s' hq => ?_)
  cases r with
  | error e => exact False.elim hq
  | ok fl =>
    cases fl with
    | ret u => exact I1.after hq
    | next => exact False.elim hq
    | brk => exact False.elim hq
    | cont => exact False.elim hq
/-- what is wished of an exception: it is of the class, and told -/
def wTold (K : PySem.W.Frag) (c : Value) (sp : List V → Hp → VK → Prop) (D : Ends) : WX := fun cls d σ H =>
  d = none ∧ ∃ C, cls = .ref C ∧ PySem.W.exmOne K cls c = some true ∧ ∀ a oe, H a = none → sp [.ref a] (upd H a (.frz oe (ExcO a C))) D.rt
section
variable {X : Cx} {x n f : Str} {c : Value} {i k : Nat} {g : Addr} {sp : List V → Hp → VK → Prop} {body : List Stmt} {np pe pf pc pr ph pos : Pos} {tb : WX → TS}
theorem ps_try_told (hs : X.stack = X.env :: X.outer) (hf : X.env.frame = some X.env.locals) (hx : X.ex = []) (hN : X.N.Nodup) (hi : X.N[i]? = some n) (hln : X.env.kindOf n = some .local) (hd1 : (n == ("__debug__" : Str)) = false) (hd2 : (n == ("__classdict__" : Str)) = false)
    (F : HotFn X.prog X.w X.K X.mg X.base k g sp) (hr : L2H.RoomH k X.A) (hg : Gl X f) (hm : X.mg f = some (.ref g)) (hk : PySem.W.keepIn X.K (.ref g) = true) (hdb : (f == ("__debug__" : Str)) = false) (hc : Names X x c)
    (hb : ∀ (W : WX) (pn : List (Addr × Obj)) (xe : Value → Shared → Prop), Takes (X.tr pn xe) W → PassesOwn (model X.prog X.w) X.A X.env xe → PSs (X.tr pn xe) body (tb W)) :
    PS X (.Try body [.ExceptHandler (some (.Name x np)) (some n) [.Return (some (.Call (.Name f pf) [.Name n pe] [] pc)) pr] ph] [] [] pos) (fun D σ H => tb (wTold X.K c sp D) D σ H) := by
  refine ⟨fun pins s σ H D I h => ?_⟩
  have ok := I.ok
  have fr : X.A.frames = some (X.env :: X.outer) := by
    rw [ok.frames, hs]
  refine wpAny_Try_except (wpAny_mono ((hb (wTold X.K c sp D) (X.pn ++ pins) _ (fun u s' xx => ?kat) PassesOwn.looking).run [] s σ H D (I.toTry _) h) (fun f s1 hsp => ?fine) (fun e s1 he => he))
  case fine =>
    rcases f with v | _ | _ | _
    all_goals first
      | (obtain ⟨σ1, H1, J1, q⟩ := hsp; first | exact wpAny_execs_nil ⟨σ1, H1, J1.ofTry ok, q⟩ | exact ⟨σ1, H1, J1.ofTry ok, q⟩)
      | (obtain ⟨v1, σ1, H1, J1, r, q⟩ := hsp; exact ⟨v1, σ1, H1, J1.ofTry ok, r, q⟩)
  case kat =>
    obtain ⟨a, B, sI, pins1, σ1, H1, cls, d, rfl, J1, nb, up, sky, na, os, ag, ed, C, ec, hmx, hyes⟩ := xx
    subst ed ec
    have J : Inv X pins σ1 H1 sI := J1.ofTry ok
    rw [hs] at nb
    have sk : Sky B (X.env :: X.outer) a (Zc (.ref C) none) X.env.locals s'.heap := by
      rw [← hs]
      exact sky
    refine Sky.land Zc.steady fr hf sk fun g1 fl1 u1 => ?_
    obtain ⟨e1, v1, a1, z1, d1⟩ := fl1.there
    have nfr : a ∉ frs (X.env :: X.outer) := fun hm => by
      obtain ⟨_, o1, q1, q2⟩ := fl1.2.2.1.mem hm
      rw [a1] at q1
      cases q1
      exact q2 _ d1
    have nL : a ≠ X.env.locals := fun z => nfr (List.mem_filterMap.mpr ⟨X.env, List.mem_cons_self, by rw [hf, z]⟩)
    have nF : a ∉ X.fs := fun hm => by
      obtain ⟨e, he, q⟩ := List.mem_filterMap.mp hm
      exact nfr (List.mem_filterMap.mpr ⟨e, List.mem_cons_of_mem _ he, q⟩)
    have Ba : B.get? a = none := fl1.2.1
    have Bn : ∀ b o, sI.heap.get? b = some o → b ∉ frs (X.env :: X.outer) → b ≠ a := fun b o e hb z => by
      have q := nb b o e hb
      rw [z, Ba] at q
      cases q
    have s0 : X.s_0.heap.get? a = none := by
      cases q : X.s_0.heap.get? a with
      | none => rfl
      | some o =>
        obtain ⟨o2, q2⟩ := J.base.there a o q (by rw [hx]; simp)
        exact absurd rfl (Bn a o2 q2 nfr)
    have hnp : ∀ p ∈ X.pn ++ pins, p.1 ≠ a := fun p hp => by
      obtain ⟨q1, q2, q3, q4, q5⟩ := J.pin p hp
      refine Bn p.1 p.2 q1 fun hm => ?_
      obtain ⟨e, he, q⟩ := List.mem_filterMap.mp hm
      rcases List.mem_cons.mp he with z | z
      · rw [z, hf] at q
        exact q3 (Option.some.inj q).symm
      · exact q4 (List.mem_filterMap.mpr ⟨e, z, q⟩)
    have K1 : Inv X pins σ1 H1 { s' with heap := g1 } := J.landed (by rw [hs]; exact nb) fl1.1 (up.trans u1) os ag
    have T1 := K1.suite a1 d1 na nL nF
    refine wpAny_handleBy_cons (codeAny_handlers_test ?_) (by intro q; cases q)
    have lt : PySem.W.Looks (model X.prog X.w) g1 (typeOf (.ref a)) (.ref C) := fun A Q E s k q => wpAny_typeOf_ref (k _ _ a1) (by rw [z1.1]; exact q)
    have lm := PySem.W.exm_one (M := model X.prog X.w) K1.kIn lt hmx
    have ask : ∀ {Q : Value → Shared → Prop} {E : Value → Shared → Prop}, Q c { s' with heap := g1 } → wpAny (model X.prog X.w) (X.A.mark (some (.ref a))) (eval (.Name x np) X.env) Q E { s' with heap := g1 } := fun {Q E} q => by
      obtain ⟨c1, c2, c3 | ⟨c3, c4, c5⟩⟩ := hc
      · exact ld_glob T1 c1 c3 q c2
      · exact ld_blt T1 c1 c3 c4 q c5 c2
    refine ask (lm.here (codeAny_handlers_suite_as (HandSPX.lands_againZ fl1 fun g2 fl2 u2 => ?_)))
    obtain ⟨e2, v2, a2, z2, d2⟩ := fl2.there
    have K2 : Inv X pins σ1 H1 { s' with heap := g2 } := J.landed (by rw [hs]; exact nb) fl2.1 ((up.trans u1).trans u2) os ag
    have T2 := K2.suite a2 d2 na nL nF
    refine store_ok (X := X.suite a ((a, e2) :: (X.pn ++ pins))) (v := .ref a) T2 hN hi (.inl hln) rfl (fun s5 T5 => ?_) (.inr hln)
    have hl : i < σ1.length := by
      rw [J.len]
      exact (List.getElem?_eq_some_iff.mp hi).1
    have I5 : Inv X ((a, e2) :: pins) (σ1.set i (some (.ref a))) H1 s5 := ⟨ok, T5.os, T5.bare, T5.base, T5.loc, T5.cell, T5.free, T5.freeC, fun p hp => T5.pin p (by
      rw [List.append_nil]
      rcases List.mem_append.mp hp with z | z
      · exact List.mem_cons_of_mem _ (List.mem_append_left _ z)
      · rcases List.mem_cons.mp z with z | z
        · rw [z]
          exact List.mem_cons_self
        · exact List.mem_cons_of_mem _ (List.mem_append_right _ z)), T5.hok, T5.len⟩
    have I6 := inv_trackF I5 s0 hnp z2.1 z2.2 ⟨_, d2⟩
    have T6 : Inv (X.suite a (X.pn ++ pins)) [] (σ1.set i (some (.ref a))) (upd H1 a (.frz e2 (ExcO a C))) s5 := ⟨ok.suite _ _, I6.os, I6.bare, I6.base, I6.loc, I6.cell, I6.free, I6.freeC, fun p hp => I6.pin p (by rw [List.append_nil] at hp; exact hp), I6.hok, I6.len⟩
    have F' : HotFn (X.suite a (X.pn ++ pins)).prog (X.suite a (X.pn ++ pins)).w (X.suite a (X.pn ++ pins)).K (X.suite a (X.pn ++ pins)).mg (X.suite a (X.pn ++ pins)).base k g sp := F
    have ret := (pss_one (ps_ret (X := X.suite a (X.pn ++ pins)) (pos := pr) (pe_hot (pf := pf) (pe := pe) (pc := pc) F' ⟨hr.dp, hr.un⟩ hg hm hk hdb hi (.inl hln) hd1 hd2))).run [] s5 (σ1.set i (some (.ref a))) (upd H1 a (.frz e2 (ExcO a C)))
      { nx := fun _ _ => False, rt := D.rt } T6 ⟨a, List.getElem?_set_self hl, hyes a e2 na⟩
    refine wpAny_mono ret (fun f s6 hsp => ?_) (fun _ _ z => False.elim z)
    rcases f with _ | _ | _ | v
    · obtain ⟨_, _, _, q⟩ := hsp
      exact False.elim q
    · obtain ⟨_, _, _, q⟩ := hsp
      exact False.elim q
    · obtain ⟨_, _, _, q⟩ := hsp
      exact False.elim q
    · obtain ⟨v6, σ6, H6, S6, r6, q6⟩ := hsp
      have I7 : Inv X pins σ6 H6 s6 := ⟨ok, S6.os, S6.bare, S6.base, S6.loc, S6.cell, S6.free, S6.freeC, fun p hp => S6.pin p (by rw [List.append_nil]; exact hp), S6.hok, S6.len⟩
      exact gone_ok I7 hN hi hln fun s7 I8 => ⟨_, _, _, I8, r6, q6⟩
end
/-! ### the def itself -/
/-- a def's run, an exception being handled -/
theorem run_hot {P : Program} {w : World} {K : PySem.W.Frag} {mg : Str → Option Value} {base : Heap} {k : Nat} {f : Addr} {name qual : Str} {params : Arguments} {body : List Stmt} {scope : Scope} {dV kV doc pm cdv ct oc : Value} {an od : Option Addr} {osl : Array (Option Value)} {N ps : List Str} {sp : List V → Hp → VK → Prop} {y : Str}
    (lk : K.lookup f = some ⟨oc, od, .func (PySem.W.fnOf name qual params body scope dV kV doc pm an cdv ct), osl⟩) (hcd : PySem.W.codeIn K cdv qual = true) (S : FnScope N [y] scope)
    (hbind : ∀ (s : Shared) (u : Value), BindsTo s (PySem.W.fnOf name qual params body scope dV kV doc pm an cdv ct) ⟨[u], []⟩ [(y, u)])
    (hbody : ∀ (X : Cx) (a : Addr) (H : Hp) (Q : VK), X.prog = P → X.w = w → X.K = K → X.mg = mg → X.base = base → X.N = N → X.env.scope = scope → X.fn = (fun _ => true) → X.A.units + 16 * k + 200 < cLine → X.env.scope.kind = .function → (X.stack = X.env :: X.outer ∧ X.env.frame = some X.env.locals ∧ X.ex = []) → PassesOwn (model X.prog X.w) X.A X.env X.xe → sp [.ref a] H Q →
      ∃ t, PSs X body t ∧ t { nx := fun _ H' => Q .non H', rt := Q } (L2.start N [.ref a]) H) : HotFn P w K mg base (k + 1) f sp := by
  intro A outer s H a Q hr e0 hsp
  have KX : K.In s.heap := e0.mod.kin.keeps fun b o e => (e0.bs b o e).1
  have lim : s.heap.NoLimit := e0.mod.nolimit.keeps fun b o e => (e0.bs b o e).1
  have hkind : ∀ z ∈ [y].zip [Value.ref a], scope.names.lookup z.1 = some .local ∨ (scope.names.lookup z.1 = some .cell ∧ ((cellsFrom (s.heap.objs.size + 1) scope.names []).lookup z.1).isSome = true) := fun z hz => by
    rcases S.par z.1 (List.of_mem_zip hz).1 with q | q
    · exact .inl q
    · exact .inr ⟨q, PySem.W.cellsFrom_some _ _ _ (.inl q)⟩
  obtain ⟨oG, es, ep, hG, hdG, _⟩ := e0.mod.glob
  have hpin : L2H.PinOk outer H s (mainGlobals, oG) := by
    refine ⟨(e0.bs _ _ hG).1, (e0.bs _ _ hG).2, fun z => ?_, fun v z => ?_⟩
    · have q := (e0.funs.mem z).1
      rw [hG] at q
      cases q
    · have z : oG.data = .cell v := z
      rw [hdG] at z
      cases z
  refine codeAny_call_function hr.depth (KX _ _ lk) rfl S.co S.gen rfl (PySem.W.codeRec_of KX hcd) (hbind _ _ _ _ _ _ ?_)
  refine wpAny_newFunctionEnv_cells S.kind hkind fun env he s1 x => ?_
  subst he
  refine ⟨lim.keeps x.toInCall.keep, codeAny_func ?_⟩
  have J : Inv (L2H.cxH C8.CX0 P w K mg base N qual scope f cdv A outer s H C8.E0 (mainGlobals, oG)) [] (L2.start N [.ref a]) H s1 := L2H.inv_startH S hpin e0 rfl (.cons rfl .nil) x
  obtain ⟨t, ht, hq⟩ := hbody (L2H.cxH C8.CX0 P w K mg base N qual scope f cdv A outer s H C8.E0 (mainGlobals, oG)) a H Q rfl rfl rfl rfl rfl rfl rfl rfl (hr.deeper _).un S.kind ⟨rfl, rfl, rfl⟩ (passes_of rfl) hsp
  refine wpAny_mono (ht.run [] s1 _ H _ J hq) (fun fl s' hs => ?_) fun e s' hs => hs
  have fin : ∀ {σ' : L2.St} {H' : Hp} {v : V} {u : Value}, Inv (L2H.cxH C8.CX0 P w K mg base N qual scope f cdv A outer s H C8.E0 (mainGlobals, oG)) [] σ' H' s' → RelV v u → Q v H' → CE outer P w H s Q u s' := fun J rv q => ⟨_, _, J.os, J.bare, J.base, J.hok, rv, q⟩
  rcases fl with _ | _ | _ | u
  · obtain ⟨σ', H', J, q⟩ := hs
    exact fin (v := V.non) (u := Value.none) J rfl q
  · obtain ⟨_, _, _, q⟩ := hs
    exact False.elim q
  · obtain ⟨_, _, _, q⟩ := hs
    exact False.elim q
  · obtain ⟨v, σ', H', J, rv, q⟩ := hs
    exact fin J rv q
end Mini
/-! What a deed tells, or how it is refused: the lambda. -/
namespace Mini
open PySem PySem.Spec PyProof.Rows L2
variable {fa : FA} {ca : CA} {cl : Calls}
/-- what the refusal's word is -/
def spW (fa : FA) : List V → Hp → VK → Prop := fun vs H Q => ∃ (w : Wd) (S : Sto) (a : Addr) (c wd : Str), vs = [.ref a] ∧ w.H = H ∧ Ok fa w S ∧ R fa w (excD c) (.ref a) ∧ toldT.lookup c = some wd ∧ ∀ w', Step w w' → Ok fa w' S → Q (.str wd) w'.H
def EW (K : PySem.W.Frag) (c : Value) (sp : List V → Hp → VK → Prop) (Q : VK) : XK := fun cls d H => d = none ∧ ∃ C, cls = .ref C ∧ PySem.W.exmOne K cls c = some true ∧ ∀ a oe, H a = none → sp [.ref a] (upd H a (.frz oe (ExcO a C))) Q
def TTw (K : PySem.W.Frag) (c : Value) (sp : List V → Hp → VK → Prop) : (XK → Hp → VK → Prop) → Hp → VK → Prop := fun tl H Q => tl (EW K c sp Q) H Q
/-- the def's text -/
def toldBody (a e f n : Str) (p1 p2 p3 p4 p5 p6 p7 p8 p9 p10 : Pos) : List Stmt :=
  [.Try [.Return (some (.Call (.Name a p1) [] [] p2)) p3] [.ExceptHandler (some (.Name e p4)) (some n) [.Return (some (.Call (.Name f p5) [.Name n p6] [] p7)) p8] p9] [] [] p10]
section
variable {X : Cx}
theorem told_gives2 {Ng : List Str} {x a e f n q : Str} {sg : Scope} {g CS gc : Addr} {cdg : Value} {k : Nat} {sp : List V → Hp → VK → Prop} {p1 p2 p3 p4 p5 p6 p7 p8 p9 p10 : Pos}
    (hge : sg.names.lookup e = some .globalImplicit) (hme : X.mg e = some (.ref CS)) (hde : (e == ("__debug__" : Str)) = false) (h0 : ∀ f : Addr, (L2.start Ng [V.ref f])[0]? = some (some (V.ref f)))
    (hN : Ng.Nodup) (hi : Ng[1]? = some n) (hln : sg.names.lookup n = some .local) (hd1 : (n == ("__debug__" : Str)) = false) (hd2 : (n == ("__classdict__" : Str)) = false)
    (F : HotFn X.prog X.w X.K X.mg X.base k gc sp) (hr : Room (k + 1) X.A) (hgf : sg.names.lookup f = some .globalImplicit) (hm : X.mg f = some (.ref gc)) (hk : PySem.W.keepIn X.K (.ref gc) = true) (hdb : (f == ("__debug__" : Str)) = false) :
    LamX.GivesTo X Ng x sg g cdg (toldBody a e f n p1 p2 p3 p4 p5 p6 p7 p8 p9 p10) a q (TTw X.K (.ref CS) sp) := by
  intro fl c' s H Q tl act hc h
  refine ⟨_, pss_one (ps_try_told (X := (cxOf C8.CX0 X.prog X.w X.K X.mg X.base Ng x sg g cdg X.A X.stack s H C8.E0).nox) (c := .ref CS) (i := 1) (k := k) (g := gc) (sp := sp)
    (tb := fun W D σ H => ∃ Ech : XK, (∀ cls d σ' H', Ech cls d H' → W cls d σ' H') ∧ σ[0]? = some (some (.ref fl)) ∧ H c' = some (LamX.CodeO c' q) ∧ tl Ech H D.rt)
    rfl rfl rfl hN hi hln hd1 hd2 F (L2H.roomH_of (hr.deeper _)) hgf hm hk hdb ⟨hge, hde, .inl hme⟩ (fun W pn xe tk _ => ?_)), ?_⟩
  · refine ⟨fun pins s' σ H' D I h' => ?_⟩
    obtain ⟨Ech, hW, h1, h2, h3⟩ := h'
    exact (pss_one (ps_ret (pos := p3) (act W pn xe Ech p1 p2 tk hW))).run pins s' σ H' D I ⟨h1, h2, h3⟩
  · exact ⟨EW X.K (.ref CS) sp Q, fun cls d σ' H' hh => hh, h0 fl, hc, h⟩
end
/-- the tables' objects may change, all else stays -/
theorem told_world {w : Wd} {S : Sto} {H1 : Hp} (k : Ok fa w S) (e : LamX.ExtN w.H H1) (t : LamX.Tabs fa.T H1) : Step w { w with H := H1 } ∧ Ok fa { w with H := H1 } S := by
  have nn : ∀ x, Nn H1 x → Nn w.H x := fun x h => by
    cases q : w.H x with
    | none => exact .inl q
    | some o =>
      by_cases ho : ∃ ps, o = .tbl ps
      · obtain ⟨ps, rfl⟩ := ho
        exact .inr ⟨ps, q⟩
      · have := e x o q fun ps z => ho ⟨ps, z⟩
        exact (h.no this fun ps z => ho ⟨ps, z⟩).elim
  have st : Step w { w with H := H1 } := ⟨fun _ _ h => h, fun _ h => h, fun x o h _ ho => e x o h ho, fun _ h => .inl h, fun _ h => .inl h, nn⟩
  have same : ∀ x ∈ w.F, H1 x = w.H x := fun x hx => by
    cases q : w.H x with
    | none => exact (k.fs x hx (.inl q)).elim
    | some o => exact e x o q (nn_tbl (k.fs x hx) q)
  refine ⟨st, k.zf, fun a ha vs => ?_, fun a ha z => k.fs a ha (nn a z), fun a ha z => k.zs a ha (nn a z), t, ?_⟩
  · show H1 a ≠ _
    rw [same a ha]
    exact k.ft a ha vs
  · exact StoR.keep (w := w) (st.ext k) rfl (fun x hx => ⟨same x hx, hx⟩) k.sto
/-- what is known of the def that tells -/
structure TolB (fa : FA) (P : Program) (w : World) (K : PySem.W.Frag) (mg : Str → Option Value) (base : Heap) : Prop where
  ex : ∃ (g CW gc : Addr) (oc dV kV doc pm cdv ct : Value) (od an : Option Addr) (osl : Array (Option Value)) (pg : Arguments) (sg : Scope) (Ng : List Str) (p1 p2 p3 p4 p5 p6 p7 p8 p9 p10 : Pos),
    mg "_law_told" = some (.ref g) ∧ PySem.W.keepIn K (.ref g) = true ∧ K.lookup g = some ⟨oc, od, .func (PySem.W.fnOf "_law_told" "_law_told" pg (toldBody "deed" "WireError" "_law_class" "e" p1 p2 p3 p4 p5 p6 p7 p8 p9 p10) sg dV kV doc pm an cdv ct), osl⟩ ∧ PySem.W.codeIn K cdv "_law_told" = true ∧
    L2.Binds K (PySem.W.fnOf "_law_told" "_law_told" pg (toldBody "deed" "WireError" "_law_class" "e" p1 p2 p3 p4 p5 p6 p7 p8 p9 p10) sg dV kV doc pm an cdv ct) ["deed"] [] ∧ FnScope Ng ["deed"] sg ∧ Ng = [("deed" : Str), ("e" : Str)] ∧ sg.names.lookup ("deed" : Str) = some NameKind.local ∧ sg.names.lookup ("e" : Str) = some NameKind.local ∧
    sg.names.lookup ("WireError" : Str) = some NameKind.globalImplicit ∧ sg.names.lookup ("_law_class" : Str) = some NameKind.globalImplicit ∧ mg "WireError" = some (.ref CW) ∧ (∀ c C, fa.x c = some C → PySem.W.exmOne K (.ref C) (.ref CW) = some true) ∧ mg "_law_class" = some (.ref gc) ∧ PySem.W.keepIn K (.ref gc) = true ∧ HotFn P w K mg base 1 gc (spW fa)
/-- .. and of the def that makes the lambda -/
structure TolX (fa : FA) (X : Cx) : Prop where
  ex : ∃ c P, LamX.TabB X.base X.mg c P ∧ X.env.code = .ref c ∧ (P, X.env.qual ++ "<lambda>") ∈ fa.T ∧ ∀ p ∈ fa.T, p.1 = P → p.2 = X.env.qual ++ "<lambda>"
section
variable {X : Cx} {W : WX} {m : Md}
theorem se_told {a : E} {params : Arguments} {body : Expr} {scope : Scope} {k : Nat} {p lpos pos : Pos} (hm : m ≠ .f) (B : TolB fa X.prog X.w X.K X.mg X.base) (TX : TolX fa X) (hcx : ∀ c C, ca c = some C → fa.x c = some C) (hg : Gl X "_law_told") (hr : Room (k + 2) X.A) (L : LamX.LamS X.env.scope scope) (hdef : defaultsOf params X.env = ([], []))
    (hbind : ∀ (q : Str) (cl : List (Str × Addr)) (pm cv ctv : Value), bindArgs (PySem.W.kla_fn "<lambda>" q params body scope cl pm cv ctv) ⟨[], []⟩ = pure [])
    (hbody : ∀ (A : Around) (outer : List PySem.Env) (s : Shared) (H : Hp) (E : XK) (f c' : Addr), Room k (A.deeper (LamX.lamEnv X scope s.heap.objs.size f c')) → PE (LamX.lamCx X A outer s H E scope f c') body (tE fa ca cl (fun c d _ H => E c d H) .v a)) :
    PE X (.Call (.Name "_law_told" p) [.Lambda params body scope lpos] [] pos) (tE fa ca cl W m (.told a)) := by
  obtain ⟨g, CW, gc, oc, dV, kV, doc, pm, cdv, ct, od, an, osl, pg, sg, Ng, p1, p2, p3, p4, p5, p6, p7, p8, p9, p10, b1, b2, b3, b4, b5, b6, rfl, b8, b9, b10, b11, b12, b13, b14, b15, b16⟩ := B.ex
  obtain ⟨c, P, t1, t2, t3, t4⟩ := TX.ex
  have hG : LamX.GivesTo X ["deed", "e"] "_law_told" sg g cdv (toldBody "deed" "WireError" "_law_class" "e" p1 p2 p3 p4 p5 p6 p7 p8 p9 p10) "deed" (X.env.qual ++ "<lambda>") (TTw X.K (.ref CW) (spW fa)) :=
    told_gives2 b10 b12 (by decide) (fun _ => rfl) (by decide) rfl b9 (by decide) (by decide) b16 (hr.mono (by omega)) b11 b14 b15 (by decide)
  refine (LamX.pe_lamcall (T := fa.T) (k := k) (p := p) (lpos := lpos) (pos := pos) hg b1 b2 b3 b4 b5 b6 rfl (.inl b8) hG t1 t2 t3 t4 hr L hdef hbind hbody).weak fun σ H Q h => ?_
  obtain ⟨w, env, S, rfl, ok, er, h⟩ := h
  refine ⟨ok.tab, fun H1 eN T1 => ?_⟩
  obtain ⟨s1, k1⟩ := told_world ok eN T1
  refine ⟨{ w with H := H1 }, env, S, rfl, k1, er.mono s1 ok, ?_⟩
  unfold evE at h
  cases r : evE cl .v a env S with
  | no =>
    simp only [r] at h
    exact h
  | ok d S1 =>
    simp only [r] at h
    exact fun w' v s' k' rv => h w' v (s1.trans s') k' (RM.ofR hm rv)
  | ex x S1 =>
    simp only [r] at h
    intro w' C s' k' hC
    cases ew : toldT.lookup x with
    | none =>
      simp only [ew] at h
      exact h.elim
    | some wd =>
      simp only [ew] at h
      refine ⟨rfl, C, rfl, b13 x C (hcx x C hC), fun a oe ha => ?_⟩
      have nn : ¬ Nn (upd w'.H a (.frz oe (ExcO a C))) a := fun z => z.no upd_same fun ps e => by cases e
      refine ⟨{ w' with H := upd w'.H a (.frz oe (ExcO a C)), Z := fun b => w'.Z b ∨ b = a }, S1, a, x, wd, rfl, rfl, (k'.alloc (o := .frz oe (ExcO a C)) ha).frz (p := a) nn (k'.fresh ha).1, .exc (.inr rfl) (hcx x C hC) (.inr ⟨oe, upd_same⟩), ew, fun w2 s2 k2 => ?_⟩
      exact h w2 (.str wd) (((s1.trans s').trans (Step.allocZ ha)).trans s2) k2 (.sc rfl (.str wd))
end
end Mini
/-! The evaluator is sound: try, what is not served. -/
namespace Mini
open PySem PySem.Spec PyProof.Rows L2
variable {fa : FA} {ca : CA} {cl : Calls}
section
variable {X : Cx} {W : WX} {w0 : Wd}
theorem ss_stuck {st : Stmt} : PS X st (tS fa ca cl W w0 .stuck) := ⟨fun pins s σ H D I h => by
  obtain ⟨w, env, S, _, _, h⟩ := h
  exact h.elim⟩
theorem SInv.setNo {w : Wd} {env : Env} {σ : L2.St} {S : Sto} {i : Nat} {ov : Option V} (h : SInv fa w0 w env σ S) : SInv fa w0 w (env.set i .no) (σ.set i ov) S := by
  refine ⟨h.st, h.ok, h.er.setNo, fun j s p e1 o1 e2 => ?_⟩
  by_cases e : i = j
  · subst e
    have hi : i < env.length := by
      have := (List.getElem?_eq_some_iff.mp e1).1
      rwa [List.length_set] at this
    rw [List.getElem?_set_self hi] at e1
    cases e1
    cases o1
  · rw [List.getElem?_set_ne e] at e1 e2
    exact h.new j s p e1 o1 e2
theorem ss_tryK {x n y : Str} {c : Addr} {i j : Nat} {b : C} {body : List Stmt} {np py pe pa ph pos : Pos} (hs : X.stack = X.env :: X.outer) (hf : X.env.frame = some X.env.locals) (hx : X.ex = []) (hN : X.N.Nodup) (hi : X.N[i]? = some n) (hln : X.env.kindOf n = some .local)
    (hj : X.N[j]? = some y) (hjl : Loc X.env.scope y) (hjf : X.fn y = true ∨ X.env.scope.names.lookup y = some .local) (hd1 : (n == ("__debug__" : Str)) = false) (hd2 : (n == ("__classdict__" : Str)) = false) (hc : Names X x (.ref c))
    (hcx : ∀ c C, ca c = some C → fa.x c = some C) (hm : ∀ z D, fa.x z = some D → exSub z x = true → PySem.W.exmOne X.K (.ref D) (.ref c) = some true)
    (hb : ∀ (W : WX) (pn : List (Addr × Obj)) (xe : Value → Shared → Prop), Takes (X.tr pn xe) W → PassesOwn (model X.prog X.w) X.A X.env xe → PSs (X.tr pn xe) body (tS fa ca cl W w0 b)) :
    PS X (.Try body [.ExceptHandler (some (.Name x np)) (some n) [.Assign [.Name y py] (.Name n pe) pa] ph] [] [] pos) (tS fa ca cl W w0 (.tryK b x i j)) := by
  refine (ps_try_keep hs hf hx hN hi hln hj hjl hjf hd1 hd2 hc hb).weak fun D σ H h => ?_
  obtain ⟨w, env, S, rfl, si, h⟩ := h
  unfold exS at h
  refine ⟨w, env, S, rfl, si, ?_⟩
  cases r : exS cl b env S with
  | nx env1 S1 =>
    simp only [r] at h
    exact h
  | rt d S1 =>
    simp only [r] at h
    exact h
  | ct env1 S1 =>
    simp only [r] at h
    exact h
  | bk env1 S1 =>
    simp only [r] at h
    exact h
  | no =>
    simp only [r] at h
    exact h
  | ex z env1 S1 =>
    simp only [r] at h
    split at h
    · rename_i hz
      intro w1 σ1 C e1 i1 hC
      refine ⟨rfl, C, rfl, hm z C (hcx z C hC) hz, fun a ha => ?_⟩
      have nn : ¬ Nn (upd w1.H a (ExcO a C)) a := fun q => q.no upd_same fun ps e => by cases e
      have k2 := (i1.ok.alloc (o := ExcO a C) ha).frz (p := a) nn (i1.ok.fresh ha).1
      have i2 := i1.step (Step.allocZ (o := ExcO a C) ha) k2
      have i3 := (i2.setV (i := j) (d := excD z) (v := .ref a) (.exc (.inr rfl) (hcx z C hC) (.inl upd_same))).setNo (i := i) (ov := none)
      exact h _ _ (e1.trans ((Step.allocZ ha).ext i1.ok)) i3
    · exact h.elim
end
end Mini
/-! Objects: what the store tells. -/
namespace Mini
open PySem PySem.Spec PyProof.Rows L2
variable {fa : FA} {ca : CA} {cl : Calls}
theorem FsR.get {w : Wd} {f : Str} {s : Sl} : ∀ {r : List (Str × Sl)} {r' : List (Str × V)}, FsR fa w r r' → r.lookup f = some s → ∃ v, r'.lookup f = some v ∧ FldR fa w s v
  | _, _, .nil, e => by cases e
  | _, _, @FsR.cons _ _ g s' v r r' h t, e => by
    rw [List.lookup_cons] at e
    rw [List.lookup_cons]
    cases q : (f == g) with
    | true =>
      rw [q] at e
      cases e
      exact ⟨v, rfl, h⟩
    | false =>
      rw [q] at e
      exact FsR.get t e
theorem FsR.none {w : Wd} {f : Str} : ∀ {r : List (Str × Sl)} {r' : List (Str × V)}, FsR fa w r r' → r.lookup f = none → r'.lookup f = none
  | _, _, .nil, _ => rfl
  | _, _, @FsR.cons _ _ g s' v r r' h t, e => by
    rw [List.lookup_cons] at e
    rw [List.lookup_cons]
    cases q : (f == g) with
    | true =>
      rw [q] at e
      cases e
    | false =>
      rw [q] at e
      exact FsR.none t e
theorem FsR.len {w : Wd} : ∀ {r : List (Str × Sl)} {r' : List (Str × V)}, FsR fa w r r' → r.length = r'.length
  | _, _, .nil => rfl
  | _, _, .cons h t => by rw [List.length_cons, List.length_cons, FsR.len t]
theorem FsR.put {w : Wd} {f : Str} {s : Sl} {v : V} (hf : FldR fa w s v) : ∀ {r : List (Str × Sl)} {r' : List (Str × V)}, FsR fa w r r' → FsR fa w (putS f s r) (putF f v r')
  | _, _, .nil => .cons hf .nil
  | _, _, @FsR.cons _ _ g s' v' r r' h t => by
    show FsR fa w (if g = f then (g, s) :: r else (g, s') :: putS f s r) (if g = f then (g, v) :: r' else (g, v') :: putF f v r')
    by_cases e : g = f
    · rw [if_pos e, if_pos e]
      exact .cons hf t
    · rw [if_neg e, if_neg e]
      exact .cons h (FsR.put hf t)
theorem lookup_putS (f g : Str) (s : Sl) : ∀ r : List (Str × Sl), (putS f s r).lookup g = if g = f then some s else r.lookup g
  | [] => by
    show List.lookup g [(f, s)] = _
    rw [List.lookup_cons]
    by_cases h : g = f
    · rw [if_pos h, beq_iff_eq.mpr h]
    · rw [if_neg h, beq_eq_false_iff_ne.mpr h]
  | (k, x) :: r => by
    show (if k = f then (k, s) :: r else (k, x) :: putS f s r).lookup g = _
    by_cases hk : k = f
    · rw [if_pos hk, List.lookup_cons, List.lookup_cons]
      by_cases h : g = f
      · rw [if_pos h, hk, beq_iff_eq.mpr h]
      · have : (g == k) = false := beq_eq_false_iff_ne.mpr (by rw [hk]; exact h)
        rw [if_neg h, this]
    · rw [if_neg hk, List.lookup_cons, List.lookup_cons, lookup_putS f g s r]
      by_cases h : g = f
      · have : (g == k) = false := beq_eq_false_iff_ne.mpr (by rw [h]; exact fun e => hk e.symm)
        rw [if_pos h, this, if_pos h]
      · rw [if_neg h, if_neg h]
/-- the object that a value is -/
theorem obj_at {w : Wd} {S : Sto} {x : D} {v : V} {n : Nat} {ob : Ob} (k : Ok fa w S) (r : RB fa w x v) (hx : obOf x = some n) (hn : S[n]? = some ob) :
    x = objD n ∧ ∃ a CA dx fs, v = .ref a ∧ w.A[n]? = some a ∧ a ∈ w.F ∧ fa.c ob.cls = some CA ∧ w.H a = some (.ins CA dx fs) ∧ FsR fa w ob.fs fs := by
  unfold obOf at hx
  split at hx
  · rename_i m
    cases hx
    rcases (RB.spec r).spec with ⟨_, ⟨m, a, e, e1, hA⟩ | ⟨_, _, e, _⟩ | ⟨_, _, e, _⟩ | ⟨_, _, _, e, _⟩⟩
    · cases e
      obtain ⟨h1, CA, dx, fs, h2, h3, h4⟩ := k.sto.at_ _ ob a hn hA
      exact ⟨rfl, a, CA, dx, fs, e1, hA, h1, h2, h3, h4⟩
    · cases e
    · cases e
    · cases e
  · cases hx
theorem fieldAt_some {S : Sto} {d : D} {c f : Str} {s : Sl} (h : fieldAt S d c f = some s) : ∃ n ob, obOf d = some n ∧ S[n]? = some ob ∧ ob.cls = c ∧ ob.fs.lookup f = some s := by
  unfold fieldAt at h
  cases e : obOf d with
  | none =>
    rw [e] at h
    cases h
  | some n =>
    rw [e] at h
    simp only at h
    cases q : S[n]? with
    | none =>
      rw [q] at h
      cases h
    | some ob =>
      rw [q] at h
      simp only at h
      split at h
      · rename_i hc
        exact ⟨n, ob, rfl, q, hc, h⟩
      · cases h
/-- the class's address and what it is -/
structure ClsA (fa : FA) (K : PySem.W.Frag) (C : Str) (fs : List Str) : Prop where
  ex : ∃ A : Addr, fa.c C = some A ∧ Cls K A ∧ ∀ f ∈ fs, NoAttr K A f
section
variable {X : Cx} {W : WX} {m : Md}
theorem se_fld {C f : Str} {fs : List Str} {e : Expr} {a : E} {pos : Pos} (hm : m ≠ .f) (CA : ClsA fa X.K C fs) (hf : f ∈ fs) (h : PE X e (tE fa ca cl W .b a)) (hb : attributeBase e f X.env (eval e X.env) = eval e X.env) : PE X (.Attribute e f pos) (tE fa ca cl W m (.fld C a f)) := by
  obtain ⟨A, c1, c2, c3⟩ := CA.ex
  refine (pe_fld (pos := pos) h hb).weak fun σ H Q h => ?_
  obtain ⟨w, env, S, rfl, k, hE, h⟩ := h
  unfold evE at h
  refine tE_bind k hE h fun d1 S1 w1 v1 s1 k1 e1 r1 h1 => ?_
  cases q : fieldAt S1 d1 C f with
  | none =>
    rw [q] at h1
    exact h1.elim
  | some s =>
    rw [q] at h1
    cases s with
    | val d =>
      obtain ⟨n, ob, g1, g2, g3, g4⟩ := fieldAt_some q
      obtain ⟨_, p, CA, dx, fs', rfl, o1, o2, o3, o4, o5⟩ := obj_at k1 r1 g1 g2
      obtain ⟨v, l1, l2⟩ := o5.get g4
      rw [g3, c1] at o3
      cases o3
      exact ⟨p, A, dx, fs', v, rfl, o4, c2, c3 f hf, l1, h1.ofR hm k1 l2⟩
    | no => exact h1.elim
    | own xs => exact h1.elim
    | ownD t es => exact h1.elim
end
end Mini
/-! Objects: methods, new ones. -/
namespace Mini
open PySem PySem.Spec PyProof.Rows L2
variable {fa : FA} {ca : CA} {cl : Calls}
section
variable {X : Cx} {W : WX} {m : Md}
theorem meth_text {o : Expr} {nm : Str} {apos pos : Pos} {args : List Expr} {env : PySem.Env} (hb : attributeBase o nm env (eval o env) = eval o env) (hf : methodCallForm args.length (backTo pos (starEach args env)) (backToKw pos (keywordEach [] env)) = true) (hl : (apos.endLine == pos.line) = true) :
    eval (.Call (.Attribute o nm apos) args [] pos) env = (do
      let ov ← eval o env
      standAt apos.atName
      let (f, first) ← holding [ov] (getMethod ov nm (plainOf o env))
      callWith pos f first (backTo pos (starEach args env)) (backToKw pos (keywordEach [] env))) :=
  mcall_of hb fun ov => mcall_line hf hl
/-- o.m(..), what is raised wished for at the caller's slots -/
theorem pe_methW {CX : CXT} {k : Nat} {g C : Addr} {fd : FuncData} {ps : List Str} {sp : Sp} {E : L2.St → XK} {nm : Str} {o e : Expr} {r : List Expr} {ta : TE} {t : TA} {apos pos : Pos} (he : PE X o ta) (c : Cls X.K C) (hm : Meth X.K C nm g) (F : FnOk X.prog X.w X.K X.mg X.base CX k g fd ps sp) (hr : Room k X.A) (hbi : Binds X.K fd ps []) (hx : ∀ σ, PassesAt CX X σ (E σ)) (ha : PA X (e :: r) t)
    (h1 : starEach (e :: r) X.env = (false, eval e X.env) :: starEach r X.env) (h2 : (backTo pos (starEach r X.env)).any (·.1) = false)
    (hb : attributeBase o nm X.env (eval o X.env) = eval o X.env) (hf : methodCallForm (e :: r).length (backTo pos (starEach (e :: r) X.env)) (backToKw pos (keywordEach [] X.env)) = true) (hl : (apos.endLine == pos.line) = true) :
    PE X (.Call (.Attribute o nm apos) (e :: r) [] pos) (fun σ H Q => ta σ H fun x H1 => ∃ a dx fs, x = .ref a ∧ H1 a = some (.ins C dx fs) ∧ fs.lookup nm = none ∧ t σ H1 fun vs H2 => sp (x :: vs) H2 Q (E σ)) := by
  refine ⟨fun pins s σ H Q I h => ?_⟩
  refine PySem.W.methodCall_KW (pl := plainOf o X.env) (thn (he.run pins s σ H _ I h) fun u s1 ⟨x, H1, I1, rx, a, dx, fs, ex, ea, l, q⟩ => ?_) (meth_text hb hf hl)
  subst ex
  have eu : u = Value.ref a := rx
  subst eu
  refine getmeth_ok I1 ea c hm l ?_
  refine PySem.W.callWith_K (first := [.ref a]) (h₀ := X.base) I.ok.mod.kin hm.kp (thn (ha.run pos pins s1 σ H1 _ I1 q) fun us s2 ⟨vs, H2, I2, r2, q2⟩ => ⟨I2.kIn, ?_⟩) h1 h2
  exact run_fnS (us := .ref a :: us) (vs := .ref a :: vs) F hr hbi (hx σ) I2 (.cons rfl r2) q2
theorem pe_methW0 {CX : CXT} {k : Nat} {g C : Addr} {fd : FuncData} {ps : List Str} {sp : Sp} {E : L2.St → XK} {nm : Str} {o : Expr} {ta : TE} {apos pos : Pos} (he : PE X o ta) (c : Cls X.K C) (hm : Meth X.K C nm g) (F : FnOk X.prog X.w X.K X.mg X.base CX k g fd ps sp) (hr : Room k X.A) (hbi : Binds X.K fd ps []) (hx : ∀ σ, PassesAt CX X σ (E σ))
    (hb : attributeBase o nm X.env (eval o X.env) = eval o X.env) (hl : (apos.endLine == pos.line) = true) :
    PE X (.Call (.Attribute o nm apos) [] [] pos) (fun σ H Q => ta σ H fun x H1 => ∃ a dx fs, x = .ref a ∧ H1 a = some (.ins C dx fs) ∧ fs.lookup nm = none ∧ sp [x] H1 Q (E σ)) := by
  refine ⟨fun pins s σ H Q I h => ?_⟩
  refine PySem.W.methodCall_KW (pl := plainOf o X.env) (thn (he.run pins s σ H _ I h) fun u s1 ⟨x, H1, I1, rx, a, dx, fs, ex, ea, l, q⟩ => ?_) (meth_text hb rfl hl)
  subst ex
  have eu : u = Value.ref a := rx
  subst eu
  refine getmeth_ok I1 ea c hm l ?_
  exact PySem.W.callWith_K0 (first := [.ref a]) I1.kIn hm.kp (run_fnS (us := [.ref a]) (vs := [.ref a]) F hr hbi (hx σ) I1 (.cons rfl .nil) q)
/-- what is known of a method -/
structure MthF (X : Cx) (fa : FA) (ca : CA) (T : Str → Option Fn) (n : Nat) (C nm : Str) : Prop where
  ex : ∃ (A : Addr) (f : Addr) (fd : FuncData) (ps : List Str), fa.c C = some A ∧ Cls X.K A ∧ Meth X.K A nm f ∧ FnOk X.prog X.w X.K X.mg X.base (L2.CX X.prog X.w) (4 * n) f fd ps (spF fa ca T n (mName C nm)) ∧ Binds X.K fd ps []
theorem meth_fits {args : List Expr} {pos : Pos} {env : PySem.Env} (h1 : (backTo pos (starEach args env)).any (·.1) = false) (h2 : args.length < 20) : methodCallForm args.length (backTo pos (starEach args env)) (backToKw pos (keywordEach [] env)) = true := by
  unfold methodCallForm
  have a1 : (backTo pos (starEach args env)).all (fun x => !x.1) = true := by
    rw [List.all_eq_true]
    intro x hx
    have := List.any_eq_false.mp h1 x hx
    simpa using this
  have a2 : (backToKw pos (keywordEach [] env)) = [] := rfl
  rw [a1, a2]
  simp
  omega
/-- the call of a method, in the evaluator's words -/
theorem meth_bind {T : Str → Option Fn} {n : Nat} {C nm : Str} {a as : E} {A : Addr} (hA : fa.c C = some A) (hm : m ≠ .f) {σ : L2.St} {H : Hp} {Q : VK} (h : tE fa ca (callF T n) W m (.meth C a nm as) σ H Q) :
    tE fa ca (callF T n) W .b a σ H fun x H1 => ∃ p dx fs, x = .ref p ∧ H1 p = some (.ins A dx fs) ∧ fs.lookup nm = none ∧ tA fa ca (callF T n) W .v as σ H1 fun vs H2 => spF fa ca T n (mName C nm) (x :: vs) H2 Q (WE W σ) := by
  obtain ⟨w, env, S, rfl, k, hE, h⟩ := h
  unfold evE at h
  refine tE_bind k hE h fun d1 S1 w1 v1 s1 k1 e1 r1 h1 => ?_
  cases q : obOf d1 with
  | none =>
    rw [q] at h1
    exact h1.elim
  | some i =>
    simp only [q] at h1
    cases g : S1[i]? with
    | none =>
      simp only [g] at h1
      exact h1.elim
    | some ob =>
      simp only [g] at h1
      split at h1
      · rename_i hc
        obtain ⟨ed, p, CA, dx, fs', rfl, o1, o2, o3, o4, o5⟩ := obj_at k1 r1 q g
        rw [hc.1, hA] at o3
        cases o3
        refine ⟨p, dx, fs', rfl, o4, o5.none hc.2, ?_⟩
        refine tA_bind k1 e1 h1 (fun d S1 hn => ?_) fun ds S2 w2 vs s2 k2 e2 r2 h2 => ?_
        · cases d <;> first | rfl | exact absurd rfl (hn _)
        · have h2 : PostE fa ca W σ m w2 (callF T n (mName C nm) (d1 :: ds) S2) Q := h2
          have rd : R fa w2 d1 (.ref p) := by
            rw [ed]
            exact .obj (s2.a _ _ o1)
          refine ⟨w2, S2, d1 :: ds, rfl, k2, .cons rd r2, ?_⟩
          cases r : callF T n (mName C nm) (d1 :: ds) S2 with
          | ok d S3 =>
            rw [r] at h2
            exact fun w3 v s3 k3 rm => h2 w3 v s3 k3 (.ofR hm rm)
          | ex c S3 =>
            rw [r] at h2
            exact h2
          | no =>
            rw [r] at h2
            exact h2
      · exact h1.elim
theorem se_meth {T : Str → Option Fn} {n : Nat} {C nm : Str} {o : Expr} {args : List Expr} {a as : E} {apos pos : Pos} (hm : m ≠ .f) (M : MthF X fa ca T n C nm) (hr : Room (4 * n) X.A) (tk : Takes X W) (ho : PE X o (tE fa ca (callF T n) W .b a)) (ha : PA X args (tA fa ca (callF T n) W .v as))
    (hst : ∀ e r, args = e :: r → starEach args X.env = (false, eval e X.env) :: starEach r X.env ∧ (backTo pos (starEach r X.env)).any (·.1) = false) (hpl : (backTo pos (starEach args X.env)).any (·.1) = false) (hlen : args.length < 20) (has : args = [] → as = .nil)
    (hb : attributeBase o nm X.env (eval o X.env) = eval o X.env) (hl : (apos.endLine == pos.line) = true) :
    PE X (.Call (.Attribute o nm apos) args [] pos) (tE fa ca (callF T n) W m (.meth C a nm as)) := by
  obtain ⟨A, f, fd, ps, m1, m2, m3, m4, m5⟩ := M.ex
  cases args with
  | nil =>
    rw [has rfl]
    refine (pe_methW0 (E := WE W) ho m2 m3 m4 hr m5 (fun σ => passAt tk σ) hb hl).weak fun σ H Q h => ?_
    refine tE_imp (fun x H1 hx => ?_) (meth_bind m1 hm h)
    obtain ⟨p, dx, fs, h1, h2, h3, h4⟩ := hx
    refine ⟨p, dx, fs, h1, h2, h3, ?_⟩
    obtain ⟨w, env, S, e1, k, hE, h⟩ := h4
    subst e1
    unfold evE at h
    obtain ⟨ds, ed, h⟩ := h
    cases ed
    exact h w [] (Step.refl w) k Rs.nil
  | cons e r =>
    obtain ⟨h1, h2⟩ := hst e r rfl
    exact (pe_methW (E := WE W) ho m2 m3 m4 hr m5 (fun σ => passAt tk σ) ha h1 h2 hb (meth_fits hpl hlen) hl).weak fun σ H Q h => meth_bind m1 hm h
end
end Mini
/-! Objects: new ones. -/
namespace Mini
open PySem PySem.Spec PyProof.Rows L2
variable {fa : FA} {ca : CA} {cl : Calls}
section
variable {X : Cx} {W : WX} {m : Md}
theorem pe_makeW {CX : CXT} {k : Nat} {f C : Addr} {fd : FuncData} {ps : List Str} {sp : Sp} {E : L2.St → XK} {x : Str} {p pos : Pos} {e : Expr} {es : List Expr} {t : TA} (M : Mk X.K C f) (F : FnOk X.prog X.w X.K X.mg X.base CX k f fd ps sp) (hr : Room (k + 1) X.A) (hg : Gl X x) (hm : X.mg x = some (.ref C)) (hb : Binds X.K fd ps []) (hx : ∀ σ, PassesAt CX X σ (E σ))
    (ha : PA X (e :: es) t) (hdb : (x == ("__debug__" : Str)) = false) (he : starEach (e :: es) X.env = (false, eval e X.env) :: starEach es X.env) (hpl : (backTo pos (starEach es X.env)).any (·.1) = false) :
    PE X (.Call (.Name x p) (e :: es) [] pos) (fun σ H Q => t σ H fun vs H1 => ∀ y dy, H1 y = none → H1 dy = none → dy ≠ y → sp (.ref y :: vs) (upd (upd H1 dy (.own y)) y (.ins C dy [])) (fun v H2 => v = .non ∧ Q (.ref y) H2) (E σ)) := by
  refine ⟨fun pins s σ H Q I h => ?_⟩
  refine wpAny_Call_Name_kw (ld_glob I hg hm ?_ hdb)
  refine PySem.W.callWith_K (h₀ := X.base) I.ok.mod.kin M.kp (thn (ha.run pos pins s σ H _ I h) fun us s1 ⟨vs, H1, J, rv, q⟩ => ⟨J.kIn, ?_⟩) he hpl
  have h2 := q (s1.heap.objs.size + 1) s1.heap.objs.size (J.hok.fresh (Nat.le_succ _)) (J.hok.fresh (Nat.le_refl _)) (Nat.ne_of_lt (Nat.lt_succ_self _))
  have J2 := Inv.made (C := C) J
  have rr : Vals (V.ref (s1.heap.objs.size + 1) :: vs) (Value.ref (s1.heap.objs.size + 1) :: us) := .cons rfl rv
  have hl : (Value.ref (s1.heap.objs.size + 1) :: us).length = ps.length := rr.length.symm.trans (F.len _ _ _ _ h2)
  have bd := hb _ (Value.ref (s1.heap.objs.size + 1) :: us) J2.kIn (by rw [List.append_nil]; exact hl)
  rw [List.append_nil] at bd
  refine wpAny_call (make_map (f := f) J.kIn M.makes M.init (beq_iff_eq.mp M.fn) (codeAny_mono (F.run _ X.stack _ _ ⟨Value.ref (s1.heap.objs.size + 1) :: us, []⟩ _ _ _ (E σ) (hr.make C us []) (J2.env0.make C us []) bd rr h2) fun r s' hq => ?_))
  rcases r with e | (_ | _ | _ | u)
  · exact hx σ pins _ _ e s' J2 hq
  · exact False.elim hq
  · exact False.elim hq
  · exact False.elim hq
  · obtain ⟨v, H', J3, rv3, ev, q3⟩ := J2.after hq
    subst ev
    exact ⟨rv3, ⟨V.ref (s1.heap.objs.size + 1), H', J3, rfl, q3⟩⟩
/-- the world with one object more -/
theorem new_world {w : Wd} {S : Sto} {c : Str} {C y dy : Addr} (k : Ok fa w S) (hc : fa.c c = some C) (hy : w.H y = none) (hd : w.H dy = none) (hne : dy ≠ y) :
    Step w ⟨w.A ++ [y], w.Z, upd (upd w.H dy (.own y)) y (.ins C dy []), y :: w.F⟩ ∧ Ok fa ⟨w.A ++ [y], w.Z, upd (upd w.H dy (.own y)) y (.ins C dy []), y :: w.F⟩ (S ++ [⟨c, []⟩]) := by
  have at_ : ∀ {x : Addr} {o : HO}, w.H x = some o → upd (upd w.H dy (.own y)) y (.ins C dy []) x = some o := fun {x o} h => by
    rw [upd_ne (ne_of_none h hy), upd_ne (ne_of_none h hd)]
    exact h
  have nn : ∀ x, Nn (upd (upd w.H dy (.own y)) y (.ins C dy [])) x → Nn w.H x := fun x h => by
    by_cases e1 : x = y
    · rw [e1]
      exact .inl hy
    · by_cases e2 : x = dy
      · rw [e2]
        exact .inl hd
      · unfold Nn at h ⊢
        rw [upd_ne e1, upd_ne e2] at h
        exact h
  have st : Step w ⟨w.A ++ [y], w.Z, upd (upd w.H dy (.own y)) y (.ins C dy []), y :: w.F⟩ := by
    refine ⟨fun n x h => ?_, fun _ h => h, fun x o h _ _ => at_ h, fun _ h => .inl h, fun x h => ?_, nn⟩
    · show (w.A ++ [y])[n]? = some x
      rw [List.getElem?_append_left (List.getElem?_eq_some_iff.mp h).1]
      exact h
    · rcases List.mem_cons.mp h with e | h
      · rw [e]
        exact .inr (.inl hy)
      · exact .inl h
  have ne : ∀ a, ¬ Nn w.H a → a ≠ y := fun a h e => h (by rw [e]; exact .inl hy)
  have same : ∀ a, ¬ Nn w.H a → upd (upd w.H dy (.own y)) y (.ins C dy []) a = w.H a := fun a h => by
    rw [upd_ne (ne a h), upd_ne fun e => h (by rw [e]; exact .inl hd)]
  have ex := st.ext k
  refine ⟨st, fun a ha z => ?_, fun a ha vs z => ?_, fun a ha z => ?_, fun a ha z => k.zs a ha (nn a z), ?_, ?_⟩
  · rcases List.mem_cons.mp z with e | z
    · exact ne a (k.zs a ha) e
    · exact k.zf a ha z
  · rcases List.mem_cons.mp ha with e | ha
    · rw [e] at z
      have z : upd (upd w.H dy (.own y)) y (.ins C dy []) y = some (.tup vs) := z
      rw [upd_same] at z
      cases z
    · have z : upd (upd w.H dy (.own y)) y (.ins C dy []) a = some (.tup vs) := z
      rw [same a (k.fs a ha)] at z
      exact k.ft a ha vs z
  · rcases List.mem_cons.mp ha with e | ha
    · rw [e] at z
      exact z.no (show upd (upd w.H dy (.own y)) y (.ins C dy []) y = some _ from upd_same) fun ps e => by cases e
    · exact k.fs a ha (nn a z)
  · exact k.tab.ext fun b o e => at_ e
  · have old : ∀ {n : Nat} {ob : Ob} {a : Addr}, (S ++ [⟨c, []⟩])[n]? = some ob → (w.A ++ [y])[n]? = some a → (S[n]? = some ob ∧ w.A[n]? = some a) ∨ (ob = ⟨c, []⟩ ∧ a = y ∧ n = S.length) := fun {n ob a} e1 e2 => by
      by_cases hn : n < S.length
      · rw [List.getElem?_append_left hn] at e1
        rw [List.getElem?_append_left (by rw [← k.sto.len]; exact hn)] at e2
        exact .inl ⟨e1, e2⟩
      · have hl : n < (S ++ [(⟨c, []⟩ : Ob)]).length := (List.getElem?_eq_some_iff.mp e1).1
        rw [List.length_append, List.length_singleton] at hl
        have en : n = S.length := by omega
        subst en
        rw [List.getElem?_append_right (Nat.le_refl _), Nat.sub_self] at e1
        rw [List.getElem?_append_right (by rw [← k.sto.len]; exact Nat.le_refl _), k.sto.len, Nat.sub_self] at e2
        cases e1
        cases e2
        exact .inr ⟨rfl, rfl, rfl⟩
    have oldA : ∀ {n : Nat} {a : Addr}, (w.A ++ [y])[n]? = some a → (w.A[n]? = some a ∧ a ≠ y) ∨ (a = y ∧ n = S.length) := fun {n a} e => by
      by_cases hn : n < S.length
      · have e2 : w.A[n]? = some a := by
          rw [List.getElem?_append_left (by rw [← k.sto.len]; exact hn)] at e
          exact e
        obtain ⟨h1, _⟩ := k.sto.at_ n _ a (List.getElem?_eq_getElem hn) e2
        exact .inl ⟨e2, ne a (k.fs a h1)⟩
      · have hl : n < (w.A ++ [y]).length := (List.getElem?_eq_some_iff.mp e).1
        rw [List.length_append, List.length_singleton, ← k.sto.len] at hl
        have en : n = S.length := by omega
        subst en
        rw [List.getElem?_append_right (by rw [← k.sto.len]; exact Nat.le_refl _), k.sto.len, Nat.sub_self] at e
        cases e
        exact .inr ⟨rfl, rfl⟩
    refine ⟨?_, fun n ob a e1 e2 => ?_, fun n n' a e1 e2 => ?_, fun n ob e1 => ?_, fun n n' a b C1 d1 fs C' d' fs' f g p ob ob' s s' e1 e2 e3 e4 q1 q2 l1 l2 o1 o2 v1 v2 => ?_⟩
    · show (S ++ [(⟨c, []⟩ : Ob)]).length = (w.A ++ [y]).length
      rw [List.length_append, List.length_append, k.sto.len]
      rfl
    · rcases old e1 e2 with ⟨h1, h2⟩ | ⟨rfl, rfl, _⟩
      · obtain ⟨a1, C1, d1, fs, a2, a3, a4⟩ := k.sto.at_ n ob a h1 h2
        exact ⟨List.mem_cons_of_mem _ a1, C1, d1, fs, a2, at_ a3, a4.mono ex fun p hp => ⟨fun o q => at_ q, List.mem_cons_of_mem _ hp⟩⟩
      · exact ⟨List.mem_cons_self, C, dy, [], hc, upd_same, .nil⟩
    · rcases oldA e1 with ⟨h1, h2⟩ | ⟨h1, h2⟩
      · rcases oldA e2 with ⟨h3, h4⟩ | ⟨h3, h4⟩
        · exact k.sto.inj n n' a h1 h3
        · exact absurd h3 h2
      · rcases oldA e2 with ⟨h3, h4⟩ | ⟨h3, h4⟩
        · exact absurd h1 h4
        · rw [h2, h4]
    · by_cases hn : n < S.length
      · rw [List.getElem?_append_left hn] at e1
        exact k.sto.nd n ob e1
      · rw [List.getElem?_append_right (by omega)] at e1
        have e2 : n - S.length = 0 := by
          have := (List.getElem?_eq_some_iff.mp e1).1
          rw [List.length_singleton] at this
          omega
        rw [e2] at e1
        cases e1
        exact List.nodup_nil
    · rcases old q1 e1 with ⟨h1, h2⟩ | ⟨rfl, _, _⟩
      · rcases old q2 e2 with ⟨h3, h4⟩ | ⟨rfl, _, _⟩
        · have n1 := k.fs a (k.sto.at_ n ob a h1 h2).1
          have n2 := k.fs b (k.sto.at_ n' ob' b h3 h4).1
          have e3 : upd (upd w.H dy (.own y)) y (.ins C dy []) a = _ := e3
          have e4 : upd (upd w.H dy (.own y)) y (.ins C dy []) b = _ := e4
          rw [same a n1] at e3
          rw [same b n2] at e4
          exact k.sto.sep n n' a b C1 d1 fs C' d' fs' f g p ob ob' s s' h2 h4 e3 e4 h1 h3 l1 l2 o1 o2 v1 v2
        · cases l2
      · cases l1
/-- what is known of the class that is made -/
structure MakF (X : Cx) (fa : FA) (ca : CA) (T : Str → Option Fn) (n : Nat) (C : Str) : Prop where
  ex : ∃ (A f : Addr) (fd : FuncData) (ps : List Str), fa.c C = some A ∧ X.mg C = some (.ref A) ∧ Mk X.K A f ∧ FnOk X.prog X.w X.K X.mg X.base (L2.CX X.prog X.w) (4 * n) f fd ps (spF fa ca T n (mName C "__init__")) ∧ Binds X.K fd ps []
theorem se_new {T : Str → Option Fn} {n : Nat} {C : Str} {e : Expr} {es : List Expr} {as : E} {p pos : Pos} (hm : m ≠ .f) (M : MakF X fa ca T n C) (hr : Room (4 * n + 1) X.A) (hg : Gl X C) (tk : Takes X W) (hdb : (C == ("__debug__" : Str)) = false) (hs : starEach (e :: es) X.env = (false, eval e X.env) :: starEach es X.env) (hpl : (backTo pos (starEach es X.env)).any (·.1) = false)
    (h : PA X (e :: es) (tA fa ca (callF T n) W .v as)) : PE X (.Call (.Name C p) (e :: es) [] pos) (tE fa ca (callF T n) W m (.new C as)) := by
  obtain ⟨A, f, fd, ps, m1, m2, m3, m4, m5⟩ := M.ex
  refine (pe_makeW (E := WE W) (p := p) m3 m4 hr hg m2 m5 (fun σ => passAt tk σ) h hdb hs hpl).weak fun σ H Q h => ?_
  obtain ⟨w, env, S, rfl, k, hE, h⟩ := h
  unfold evE at h
  refine tA_bind k hE h (fun d S1 hn => ?_) fun ds S1 w1 vs s1 k1 e1 r1 h1 => ?_
  · cases d <;> first | rfl | exact absurd rfl (hn _)
  · intro y dy hy hd hne
    obtain ⟨s2, k2⟩ := new_world (c := C) k1 m1 hy hd hne
    have oA : (w1.A ++ [y])[S1.length]? = some y := by
      rw [List.getElem?_append_right (by rw [← k1.sto.len]; exact Nat.le_refl _), k1.sto.len, Nat.sub_self]
      rfl
    refine ⟨_, S1 ++ [⟨C, []⟩], objD S1.length :: ds, rfl, k2, .cons (.obj oA) (r1.mono (s2.ext k1)), ?_⟩
    simp only at h1
    cases r : callF T n (mName C "__init__") (objD S1.length :: ds) (S1 ++ [⟨C, []⟩]) with
    | no =>
      simp only [r] at h1
      exact h1.elim
    | ex c S2 =>
      simp only [r] at h1
      exact fun w3 C3 s3 k3 e3 => h1 w3 C3 (s2.trans s3) k3 e3
    | ok d S2 =>
      simp only [r] at h1
      cases d with
      | none =>
        intro w3 v s3 k3 rv
        cases (show R fa w3 .none v from rv)
        exact ⟨rfl, h1 w3 (.ref y) (s2.trans s3) k3 (.ofR hm (.obj (s3.a _ _ oA)))⟩
      | _ => exact h1.elim
end
end Mini
/-! Objects: fields set. -/
namespace Mini
open PySem PySem.Spec PyProof.Rows L2
variable {fa : FA} {ca : CA} {cl : Calls}
theorem putS_keys (f : Str) (s : Sl) : ∀ r : List (Str × Sl), ∀ g, g ∈ (putS f s r).map (·.1) → g = f ∨ g ∈ r.map (·.1)
  | [], g, h => by
    have h : g ∈ [f] := h
    exact .inl (List.mem_singleton.mp h)
  | (k, x) :: r, g, h => by
    have h : g ∈ (if k = f then (k, s) :: r else (k, x) :: putS f s r).map (·.1) := h
    by_cases hk : k = f
    · rw [if_pos hk] at h
      rcases List.mem_cons.mp h with e | e
      · exact .inl (e.trans hk)
      · exact .inr (List.mem_cons_of_mem _ e)
    · rw [if_neg hk] at h
      rcases List.mem_cons.mp h with e | e
      · exact .inr (by rw [e]; exact List.mem_cons_self)
      · rcases putS_keys f s r g e with z | z
        · exact .inl z
        · exact .inr (List.mem_cons_of_mem _ z)
theorem putS_nd (f : Str) (s : Sl) : ∀ r : List (Str × Sl), (r.map (·.1)).Nodup → ((putS f s r).map (·.1)).Nodup
  | [], _ => by
    show [f].Nodup
    simp
  | (k, x) :: r, h => by
    show ((if k = f then (k, s) :: r else (k, x) :: putS f s r).map (·.1)).Nodup
    by_cases hk : k = f
    · rw [if_pos hk]
      exact h
    · rw [if_neg hk]
      have h : (k :: r.map (·.1)).Nodup := h
      obtain ⟨h1, h2⟩ := List.nodup_cons.mp h
      refine List.nodup_cons.mpr ⟨fun z => ?_, putS_nd f s r h2⟩
      rcases putS_keys f s r k z with e | e
      · exact hk e
      · exact h1 e
theorem setFld_at {S : Sto} {n : Nat} {ob : Ob} {f : Str} {s : Sl} (h : S[n]? = some ob) : setFld S n f s = S.set n { ob with fs := putS f s ob.fs } := by
  unfold setFld
  rw [h]
/-- a field is set: to plain data, or to a list or dict that nobody else holds -/
theorem fset_world {w : Wd} {S : Sto} {n : Nat} {ob : Ob} {f : Str} {s : Sl} {v : V} {a CA dx : Addr} {fs : List (Str × V)} {ps : List Addr} (k : Ok fa w S) (hn : S[n]? = some ob) (hA : w.A[n]? = some a) (hc : fa.c ob.cls = some CA) (hH : w.H a = some (.ins CA dx fs)) (hF : FsR fa w ob.fs fs)
    (hp : ∀ p ∈ ps, LD (w.H p) ∧ p ∉ w.F ∧ ¬ w.Z p) (hf : FldR fa { w with F := ps ++ w.F } s v) (ho : isOwn s = true → ∃ p, v = .ref p ∧ p ∈ ps) :
    Ext w { w with H := upd w.H a (.ins CA dx (putF f v fs)), F := ps ++ w.F } ∧ Ok fa { w with H := upd w.H a (.ins CA dx (putF f v fs)), F := ps ++ w.F } (setFld S n f s) := by
  have aF := (k.sto.at_ n ob a hn hA).1
  have az : ¬ w.Z a := fun z => k.zf a z aF
  have ne : ∀ {x : Addr} {o : HO}, w.H x = some o → (∀ C d r, o ≠ .ins C d r) → x ≠ a := fun {x o} h q e => by
    rw [e, hH] at h
    exact q _ _ _ (Option.some.inj h).symm
  have ext : Ext w { w with H := upd w.H a (.ins CA dx (putF f v fs)), F := ps ++ w.F } := by
    refine ⟨fun _ _ h => h, fun _ h => h, fun x o z h => ?_, fun x vs h => ?_⟩
    · show upd w.H a _ x = _
      rw [upd_ne (show x ≠ a from fun e => az (by rw [← e]; exact z))]
      exact h
    · show upd w.H a _ x = _
      rw [upd_ne (ne h fun C d r e => by cases e)]
      exact h
  have nn : ∀ x, Nn (upd w.H a (.ins CA dx (putF f v fs))) x → Nn w.H x := fun x h => by
    by_cases e : x = a
    · rw [e] at h
      exact (h.no upd_same fun ps e => by cases e).elim
    · unfold Nn at h ⊢
      rw [upd_ne e] at h
      exact h
  have ext2 : Ext { w with F := ps ++ w.F } { w with H := upd w.H a (.ins CA dx (putF f v fs)), F := ps ++ w.F } := ⟨ext.a, ext.z, ext.h, ext.t⟩
  have ext1 : Ext w { w with F := ps ++ w.F } := ⟨fun _ _ h => h, fun _ h => h, fun _ _ _ h => h, fun _ _ h => h⟩
  have fld : ∀ {s' : Sl} {v' : V}, FldR fa { w with F := ps ++ w.F } s' v' → FldR fa { w with H := upd w.H a (.ins CA dx (putF f v fs)), F := ps ++ w.F } s' v' := fun {s' v'} h => by
    cases s' with
    | no => exact h
    | val d => exact R.mono ext2 h
    | own xs =>
      obtain ⟨p, vs, h1, h2, h3, h4⟩ := h
      refine ⟨p, vs, h1, ?_, h3.mono ext2, h4⟩
      show upd w.H a _ p = _
      rw [upd_ne (ne h2 fun C d r e => by cases e)]
      exact h2
    | ownD t es =>
      obtain ⟨p, h1, h2, h4⟩ := h
      have hpa : p ≠ a := fun e => by
        have h2 : LD (w.H p) := DR.ld (w := { w with F := ps ++ w.F }) h2
        rw [e, hH] at h2
        exact h2
      refine ⟨p, h1, h2.mono ext2 fun o h => ?_, h4⟩
      show upd w.H a _ p = _
      rw [upd_ne hpa]
      exact h
  have fs1 : ∀ {r : List (Str × Sl)} {r' : List (Str × V)}, FsR fa w r r' → FsR fa { w with F := ps ++ w.F } r r' := fun h => h.mono ext1 fun p hp => ⟨fun _ q => q, List.mem_append_right _ hp⟩
  have fs2 : ∀ {r : List (Str × Sl)} {r' : List (Str × V)}, FsR fa { w with F := ps ++ w.F } r r' → FsR fa { w with H := upd w.H a (.ins CA dx (putF f v fs)), F := ps ++ w.F } r r' := by
    intro r r' h
    induction h with
    | nil => exact .nil
    | cons h t ih => exact .cons (fld h) ih
  have hl : n < S.length := (List.getElem?_eq_some_iff.mp hn).1
  refine ⟨ext, fun x z hx => ?_, fun x hx vs z => ?_, fun x hx z => ?_, fun x z q => k.zs x z (nn x q), ?_, ?_⟩
  · rcases List.mem_append.mp hx with hx | hx
    · exact (hp x hx).2.2 z
    · exact k.zf x z hx
  · have z : upd w.H a _ x = some (.tup vs) := z
    by_cases e : x = a
    · rw [e, upd_same] at z
      cases z
    · rw [upd_ne e] at z
      rcases List.mem_append.mp hx with hx | hx
      · exact (hp x hx).1.tup vs z
      · exact k.ft x hx vs z
  · rcases List.mem_append.mp hx with hx | hx
    · exact (hp x hx).1.nn (nn x z)
    · exact k.fs x hx (nn x z)
  · refine tabs_but k.tab fun b u e hu => ?_
    show upd w.H a _ b = _
    rw [upd_ne (ne e fun C d r q => by rcases hu with ⟨_, hu⟩ | ⟨_, hu⟩ <;> rw [hu] at q <;> cases q)]
    exact e
  · rw [setFld_at hn]
    have get : ∀ {j : Nat} {o' : Ob}, (S.set n { ob with fs := putS f s ob.fs })[j]? = some o' → (j = n ∧ o' = { ob with fs := putS f s ob.fs }) ∨ (j ≠ n ∧ S[j]? = some o') := fun {j o'} h => by
      by_cases e : n = j
      · subst e
        rw [List.getElem?_set_self hl] at h
        cases h
        exact .inl ⟨rfl, rfl⟩
      · rw [List.getElem?_set_ne e] at h
        exact .inr ⟨fun q => e q.symm, h⟩
    have other : ∀ {j : Nat} {b : Addr}, j ≠ n → w.A[j]? = some b → b ≠ a := fun {j b} hj hb e => hj (k.sto.inj j n a (e ▸ hb) hA)
    -- an own field: an old one, or the new one
    have own : ∀ {j : Nat} {b C' d' : Addr} {r' : List (Str × V)} {o' : Ob} {g : Str} {s' : Sl} {p : Addr}, w.A[j]? = some b → upd w.H a (.ins CA dx (putF f v fs)) b = some (.ins C' d' r') → (S.set n { ob with fs := putS f s ob.fs })[j]? = some o' → o'.fs.lookup g = some s' → isOwn s' = true → r'.lookup g = some (.ref p) →
        (j = n ∧ g = f ∧ p ∈ ps) ∨ ∃ C1 d1 r1 o1, S[j]? = some o1 ∧ w.H b = some (.ins C1 d1 r1) ∧ o1.fs.lookup g = some s' ∧ r1.lookup g = some (.ref p) ∧ p ∈ w.F := by
      intro j b C' d' r' o' g s' p hb hH' ho' hl' hs' hv'
      have inF : ∀ {o1 : Ob} {r1 : List (Str × V)}, FsR fa w o1.fs r1 → o1.fs.lookup g = some s' → r1.lookup g = some (.ref p) → p ∈ w.F := fun {o1 r1} hr h1 h2 => by
        obtain ⟨v', q1, q2⟩ := hr.get h1
        rw [h2] at q1
        cases q1
        cases s' with
        | no => cases hs'
        | val d => cases hs'
        | own xs =>
          obtain ⟨p', vs, e1, _, _, e4⟩ := q2
          cases e1
          exact e4
        | ownD t es =>
          obtain ⟨p', e1, _, e4⟩ := q2
          cases e1
          exact e4
      rcases get ho' with ⟨rfl, rfl⟩ | ⟨hj, h1⟩
      · rw [hA] at hb
        cases hb
        rw [upd_same] at hH'
        cases hH'
        have hl' : (putS f s ob.fs).lookup g = some s' := hl'
        rw [lookup_putS] at hl'
        rw [lookup_putF] at hv'
        by_cases e : g = f
        · rw [if_pos e] at hl' hv'
          cases hl'
          obtain ⟨p', e1, e2⟩ := ho hs'
          rw [e1] at hv'
          cases hv'
          exact .inl ⟨rfl, e, e2⟩
        · rw [if_neg e] at hl' hv'
          exact .inr ⟨_, _, _, ob, hn, hH, hl', hv', inF hF hl' hv'⟩
      · rw [upd_ne (other hj hb)] at hH'
        obtain ⟨_, C1, d1, r1, _, q3, q4⟩ := k.sto.at_ j o' b h1 hb
        rw [hH'] at q3
        cases q3
        exact .inr ⟨_, _, _, o', h1, hH', hl', hv', inF q4 hl' hv'⟩
    refine ⟨by rw [List.length_set]; exact k.sto.len, fun j o' b e1 e2 => ?_, k.sto.inj, fun j o' e1 => ?_, fun j j' b b' C1 d1 r1 C2 d2 r2 g g' p o1 o2 s1 s2 e1 e2 e3 e4 q1 q2 l1 l2 w1 w2 v1 v2 => ?_⟩
    · rcases get e1 with ⟨rfl, rfl⟩ | ⟨hj, h1⟩
      · have e2 : w.A[j]? = some b := e2
        rw [hA] at e2
        cases e2
        exact ⟨List.mem_append_right _ aF, CA, dx, _, hc, upd_same, fs2 (FsR.put hf (fs1 hF))⟩
      · obtain ⟨a1, C1, d1, r1, a2, a3, a4⟩ := k.sto.at_ j o' b h1 e2
        refine ⟨List.mem_append_right _ a1, C1, d1, r1, a2, ?_, fs2 (fs1 a4)⟩
        show upd w.H a _ b = _
        rw [upd_ne (other hj e2)]
        exact a3
    · rcases get e1 with ⟨rfl, rfl⟩ | ⟨hj, h1⟩
      · exact putS_nd f s ob.fs (k.sto.nd _ ob hn)
      · exact k.sto.nd j o' h1
    · rcases own e1 e3 q1 l1 w1 v1 with ⟨x1, x2, x3⟩ | ⟨C3, d3, r3, o3, x1, x2, x3, x4, x5⟩
      · rcases own e2 e4 q2 l2 w2 v2 with ⟨y1, y2, y3⟩ | ⟨C4, d4, r4, o4, y1, y2, y3, y4, y5⟩
        · exact ⟨x1.trans y1.symm, x2.trans y2.symm⟩
        · exact ((hp p x3).2.1 y5).elim
      · rcases own e2 e4 q2 l2 w2 v2 with ⟨y1, y2, y3⟩ | ⟨C4, d4, r4, o4, y1, y2, y3, y4, y5⟩
        · exact ((hp p y3).2.1 x5).elim
        · exact k.sto.sep j j' b b' C3 d3 r3 C4 d4 r4 g g' p o3 o4 s1 s2 e1 e2 x2 y2 x1 y1 x3 y3 w1 w2 x4 y4
end Mini
/-! Objects: fields set, as statements. -/
namespace Mini
open PySem PySem.Spec PyProof.Rows L2
variable {fa : FA} {ca : CA} {cl : Calls}
section
variable {X : Cx} {W : WX} {w0 : Wd}
/-- the world goes on, a thing of the store written -/
theorem SInv.wrote {w w' : Wd} {env : Env} {σ : L2.St} {S S' : Sto} {a : Addr} {o : HO} {ps : List Addr} (h : SInv fa w0 w env σ S) (ew : w' = { w with H := upd w.H a o, F := ps ++ w.F }) (ok : Ok fa w' S') (ex : Ext w w') (aF : a ∈ w.F) (ho : ∀ ps, o ≠ .tbl ps)
    (hps : ∀ p ∈ ps, Nn w0.H p ∧ ∀ (j : Nat) s, env[j]? = some s → isOwn s = true → σ[j]? ≠ some (some (.ref p))) : SInv fa w0 w' env σ S' := by
  have st : Step w0 w' := by
    refine ⟨fun n x q => ?_, fun x q => ?_, fun x u q hx hu => ?_, fun x q => ?_, fun x q => ?_, fun x q => ?_⟩
    · rw [ew]
      exact h.st.a n x q
    · rw [ew]
      exact h.st.z x q
    · rw [ew]
      show upd w.H a o x = _
      have hxa : x ≠ a := fun e => by
        rcases h.st.fn a aF with z | z
        · exact hx (e ▸ z)
        · rw [← e] at z
          exact z.no q hu
      rw [upd_ne hxa]
      exact h.st.keep x u q hx hu
    · rw [ew] at q
      exact h.st.zn x q
    · rw [ew] at q
      rcases List.mem_append.mp q with q | q
      · exact .inr (hps x q).1
      · exact h.st.fn x q
    · rw [ew] at q
      refine h.st.live x ?_
      by_cases e : x = a
      · rw [e] at q
        exact (q.no (show upd w.H a o a = some o from upd_same) ho).elim
      · have q : Nn (upd w.H a o) x := q
        unfold Nn at q ⊢
        rw [upd_ne e] at q
        exact q
  refine ⟨st, ok, ⟨h.er.len, fun i s ov e1 e2 => ?_, h.er.sep⟩, h.new⟩
  have q := h.er.at_ i s ov e1 e2
  cases s with
  | no => trivial
  | val d =>
    obtain ⟨v, q1, q2⟩ := q
    exact ⟨v, q1, q2.mono ex⟩
  | own xs =>
    obtain ⟨p, vs, q1, q2, q3, q4, q5⟩ := q
    refine ⟨p, vs, q1, ?_, q3.mono ex, ?_, ?_⟩
    · rw [ew]
      show upd w.H a o p = _
      rw [upd_ne (show p ≠ a from fun e => q5 (by rw [e]; exact aF))]
      exact q2
    · rw [ew]
      exact q4
    · rw [ew]
      intro z
      rcases List.mem_append.mp z with z | z
      · rw [q1] at e2
        exact (hps p z).2 i _ e1 rfl e2
      · exact q5 z
  | ownD t es =>
    obtain ⟨p, q1, q2, q4, q5⟩ := q
    refine ⟨p, q1, q2.mono ex fun u q => ?_, ?_, ?_⟩
    · rw [ew]
      show upd w.H a o p = _
      rw [upd_ne (show p ≠ a from fun e => q5 (by rw [e]; exact aF))]
      exact q
    · rw [ew]
      exact q4
    · rw [ew]
      intro z
      rcases List.mem_append.mp z with z | z
      · rw [q1] at e2
        exact (hps p z).2 i _ e1 rfl e2
      · exact q5 z
/-- what an expression gave becomes a field -/
theorem SInv.fset {w1 w : Wd} {env : Env} {σ : L2.St} {S S1 : Sto} {n : Nat} {ob : Ob} {f : Str} {fr : Bool} {d : D} {v : V} {a CA dx : Addr} {fs : List (Str × V)} (h1 : SInv fa w0 w1 env σ S1) (st : Step w1 w) (h : SInv fa w0 w env σ S) (r : RM fa (if fr then .f else .v) w1 w d v)
    (hn : S[n]? = some ob) (hA : w.A[n]? = some a) (hc : fa.c ob.cls = some CA) (hH : w.H a = some (.ins CA dx fs)) (hF : FsR fa w ob.fs fs) :
    ∃ w', w'.H = upd w.H a (.ins CA dx (putF f v fs)) ∧ Ext w w' ∧ SInv fa w0 w' env σ (setFld S n f (slOf fr d)) := by
  have aF := (h.ok.sto.at_ n ob a hn hA).1
  have plain : ∀ d' : D, R fa w d' v → slOf fr d = .val d' → ∃ w', w'.H = upd w.H a (.ins CA dx (putF f v fs)) ∧ Ext w w' ∧ SInv fa w0 w' env σ (setFld S n f (slOf fr d)) := fun d' rv es => by
    have rv' : R fa { w with F := [] ++ w.F } d' v := R.mono ⟨fun _ _ h => h, fun _ h => h, fun _ _ _ h => h, fun _ _ h => h⟩ rv
    obtain ⟨q1, q2⟩ := fset_world (ps := []) (s := .val d') (f := f) (v := v) h.ok hn hA hc hH hF (fun p hp => by cases hp) rv' (fun z => by cases z)
    rw [es]
    exact ⟨_, rfl, q1, h.wrote rfl q2 q1 aF (fun ps e => by cases e) fun p hp => by cases hp⟩
  have own : ∀ (p : Addr) (s : Sl), v = .ref p → slOf fr d = s → LD (w.H p) → p ∉ w.F → ¬ w.Z p → Nn w1.H p → FldR fa { w with F := [p] ++ w.F } s v → ∃ w', w'.H = upd w.H a (.ins CA dx (putF f v fs)) ∧ Ext w w' ∧ SInv fa w0 w' env σ (setFld S n f (slOf fr d)) := fun p s ev es l1 l2 l3 l4 l5 => by
    obtain ⟨q1, q2⟩ := fset_world (ps := [p]) (s := s) (f := f) (v := v) h.ok hn hA hc hH hF (fun x hx => by rw [List.mem_singleton.mp hx]; exact ⟨l1, l2, l3⟩) l5 fun _ => ⟨p, ev, List.mem_singleton.mpr rfl⟩
    rw [es]
    refine ⟨_, rfl, q1, h.wrote rfl q2 q1 aF (fun ps e => by cases e) fun x hx => ?_⟩
    rw [List.mem_singleton.mp hx]
    refine ⟨h1.st.live p l4, fun j s' e1 o1 e2 => ?_⟩
    have q := h1.er.at_ j s' _ e1 e2
    cases s' with
    | no => cases o1
    | val _ => cases o1
    | own xs =>
      obtain ⟨p', vs, z1, z2, _⟩ := q
      cases z1
      exact l4.lst z2
    | ownD t es =>
      obtain ⟨p', z1, z2, _⟩ := q
      cases z1
      exact z2.nn l4
  cases fr with
  | false => exact plain d (show R fa w d v from r) rfl
  | true =>
    have r1 : RF fa w1 w d v := r
    have e1 : ∀ p, Ext w { w with F := [p] ++ w.F } := fun p => ⟨fun _ _ h => h, fun _ h => h, fun _ _ _ h => h, fun _ _ h => h⟩
    cases d with
    | list xs =>
      obtain ⟨p, vs, rfl, h2, h3, h4, h5, h6⟩ := r1
      exact own p (.own xs) rfl rfl (.lst h2) h5 h4 h6 ⟨p, vs, rfl, h2, h3.mono (e1 p), List.mem_cons_self⟩
    | dict es =>
      obtain ⟨p, t, es', rfl, rfl, h2, h4, h5, h6⟩ := r1
      exact own p (.ownD t es') rfl rfl h2.ld h5 h4 h6 ⟨p, rfl, h2.mono (e1 p) fun _ q => q, List.mem_cons_self⟩
    | none => exact plain _ r1 rfl
    | bool _ => exact plain _ r1 rfl
    | int _ => exact plain _ r1 rfl
    | str _ => exact plain _ r1 rfl
    | tuple _ => exact plain _ r1 rfl
theorem slotD_some {env : Env} {i : Nat} {d : D} (h : slotD env i = some d) : env[i]? = some (.val d) := by
  unfold slotD at h
  split at h
  · rename_i d' e
    cases h
    exact e
  · cases h
theorem ss_fset {C f x : Str} {fl : List Str} {i : Nat} {e : Expr} {a : E} {p pos' pos : Pos} (CA : ClsA fa X.K C fl) (hf : f ∈ fl) (hN : X.N[i]? = some x) (hv : Vis X.env.scope x) (hd : (x == ("__debug__" : Str)) = false) (hcd : (x == ("__classdict__" : Str)) = false) (hs : swapsWith e (some (.Attribute (.Name x p) f pos')) pos.line X.env = pure false)
    (h : PE X e (tE fa ca cl W (if fresh a then .f else .v) a)) : PS X (.Assign [.Attribute (.Name x p) f pos'] e pos) (tS fa ca cl W w0 (.fset C i f a)) := by
  obtain ⟨A, c1, c2, c3⟩ := CA.ex
  refine (ps_fld (pos := pos) (pos' := pos') (pe_var (pos := p) hN hv hd hcd) h hs).weak fun D σ H h => ?_
  obtain ⟨w, env, S, rfl, hi, h⟩ := h
  unfold exS at h
  refine ofE_bind hi h fun d S1 w1 v s1 i1 r1 h1 => ?_
  cases q : slotD env i with
  | none =>
    simp only [q] at h1
    exact h1.elim
  | some x1 =>
    simp only [q] at h1
    cases g : obOf x1 with
    | none =>
      simp only [g] at h1
      exact h1.elim
    | some n =>
      simp only [g] at h1
      cases gn : S1[n]? with
      | none =>
        simp only [gn] at h1
        exact h1.elim
      | some ob =>
        simp only [gn] at h1
        split at h1
        · rename_i hc
          obtain ⟨ov, e2, u, e3, ru⟩ := slot_at i1.er (slotD_some q)
          subst e3
          obtain ⟨_, p1, CB, dx, fs, rfl, o1, o2, o3, o4, o5⟩ := obj_at i1.ok (.r ru) g gn
          rw [hc.1, c1] at o3
          cases o3
          obtain ⟨w', ew, ex, sw⟩ := hi.fset (f := f) s1 i1 r1 gn o1 (by rw [hc.1]; exact c1) o4 o5
          refine ⟨.ref p1, e2, p1, A, dx, fs, rfl, o4, c2, c3 f hf, by rw [← o5.len]; exact hc.2, ?_⟩
          rw [← ew]
          exact h1 w' σ ex sw
        · exact h1.elim
end
end Mini
/-! Objects: what a field holds is changed. -/
namespace Mini
open PySem PySem.Spec PyProof.Rows L2
variable {fa : FA} {ca : CA} {cl : Calls}
theorem FldR.but {w w' : Wd} {p : Addr} (ex : Ext w w') (hF : w'.F = w.F) (hH : ∀ q, q ≠ p → w'.H q = w.H q) {s : Sl} {v : V} (h : FldR fa w s v) (hp : isOwn s = true → v ≠ .ref p) : FldR fa w' s v :=
  h.mono ex fun ho q ev hq => ⟨fun o e => by rw [hH q fun z => hp ho (by rw [ev, z])]; exact e, by rw [hF]; exact hq⟩
theorem FsR.but {w w' : Wd} {p : Addr} (ex : Ext w w') (hF : w'.F = w.F) (hH : ∀ q, q ≠ p → w'.H q = w.H q) : ∀ {r : List (Str × Sl)} {r' : List (Str × V)}, FsR fa w r r' → (r.map (·.1)).Nodup → (∀ g s v, r.lookup g = some s → r'.lookup g = some v → isOwn s = true → v ≠ .ref p) → FsR fa w' r r'
  | _, _, .nil, _, _ => .nil
  | _, _, @FsR.cons _ _ g s v r r' h t, nd, ho => by
    have nd : (g :: r.map (·.1)).Nodup := nd
    obtain ⟨n1, n2⟩ := List.nodup_cons.mp nd
    have self : ((g, s) :: r).lookup g = some s := by
      rw [List.lookup_cons, beq_self_eq_true]
    have self' : ((g, v) :: r').lookup g = some v := by
      rw [List.lookup_cons, beq_self_eq_true]
    refine .cons (h.but ex hF hH fun o => ho g s v self self' o) (FsR.but ex hF hH t n2 fun g2 s2 v2 e1 e2 o => ?_)
    have hne : (g2 == g) = false := beq_eq_false_iff_ne.mpr fun e => n1 (by
      rw [← e]
      exact List.mem_map.mpr ⟨_, PySem.mem_of_lookup e1, rfl⟩)
    exact ho g2 s2 v2 (by rw [List.lookup_cons, hne]; exact e1) (by rw [List.lookup_cons, hne]; exact e2) o
theorem FsR.mut {w w' : Wd} {p : Addr} (ex : Ext w w') (hF : w'.F = w.F) (hH : ∀ q, q ≠ p → w'.H q = w.H q) {f : Str} {s s' : Sl} (hs : FldR fa w' s' (.ref p)) : ∀ {r : List (Str × Sl)} {r' : List (Str × V)}, FsR fa w r r' → (r.map (·.1)).Nodup → r.lookup f = some s → r'.lookup f = some (.ref p) → (∀ g s v, g ≠ f → r.lookup g = some s → r'.lookup g = some v → isOwn s = true → v ≠ .ref p) → FsR fa w' (putS f s' r) r'
  | _, _, .nil, _, e, _, _ => by cases e
  | _, _, @FsR.cons _ _ g s1 v r r' h t, nd, e1, e2, ho => by
    have nd : (g :: r.map (·.1)).Nodup := nd
    obtain ⟨n1, n2⟩ := List.nodup_cons.mp nd
    have tail : ∀ {g2 : Str} {s2 : Sl}, r.lookup g2 = some s2 → (g2 == g) = false := fun {g2 s2} e => beq_eq_false_iff_ne.mpr fun z => n1 (by
      rw [← z]
      exact List.mem_map.mpr ⟨_, PySem.mem_of_lookup e, rfl⟩)
    show FsR fa w' (if g = f then (g, s') :: r else (g, s1) :: putS f s' r) ((g, v) :: r')
    by_cases e : g = f
    · rw [if_pos e]
      subst e
      rw [List.lookup_cons, beq_self_eq_true] at e2
      cases e2
      refine .cons hs (FsR.but ex hF hH t n2 fun g2 s2 v2 q1 q2 o => ?_)
      have hne := tail q1
      exact ho g2 s2 v2 (fun z => by rw [z, beq_self_eq_true] at hne; cases hne) (by rw [List.lookup_cons, hne]; exact q1) (by rw [List.lookup_cons, hne]; exact q2) o
    · rw [if_neg e]
      have hfg : (f == g) = false := beq_eq_false_iff_ne.mpr fun z => e z.symm
      rw [List.lookup_cons, hfg] at e1 e2
      refine .cons (h.but ex hF hH fun o => ho g s1 v e (by rw [List.lookup_cons, beq_self_eq_true]) (by rw [List.lookup_cons, beq_self_eq_true]) o) (FsR.mut ex hF hH hs t n2 e1 e2 fun g2 s2 v2 hg q1 q2 o => ?_)
      have hne := tail q1
      exact ho g2 s2 v2 hg (by rw [List.lookup_cons, hne]; exact q1) (by rw [List.lookup_cons, hne]; exact q2) o
/-- the list or dict of a field changes -/
theorem fmut_world {w : Wd} {S : Sto} {n : Nat} {ob : Ob} {f : Str} {s s' : Sl} {p a CA dx : Addr} {o : HO} {fs : List (Str × V)} (k : Ok fa w S) (hn : S[n]? = some ob) (hA : w.A[n]? = some a) (hH : w.H a = some (.ins CA dx fs)) (hF : FsR fa w ob.fs fs) (hl : ob.fs.lookup f = some s) (ho : isOwn s = true) (hv : fs.lookup f = some (.ref p)) (pF : p ∈ w.F) (hld : LD (w.H p)) (hldo : LD (some o))
    (hs' : FldR fa { w with H := upd w.H p o } s' (.ref p)) (ho' : isOwn s' = true) : Ext w { w with H := upd w.H p o } ∧ Ok fa { w with H := upd w.H p o } (setFld S n f s') := by
  have pz : ¬ w.Z p := fun z => k.zf p z pF
  have ex : Ext w { w with H := upd w.H p o } := Ext.own pz hld.tup
  have nno : ∀ ps, o ≠ .tbl ps := fun ps e => by
    rw [e] at hldo
    exact hldo
  have nn : ∀ x, Nn (upd w.H p o) x → Nn w.H x := fun x h => by
    by_cases e : x = p
    · rw [e] at h
      exact (h.no upd_same nno).elim
    · unfold Nn at h ⊢
      rw [upd_ne e] at h
      exact h
  have same : ∀ q, q ≠ p → upd w.H p o q = w.H q := fun q e => upd_ne e
  have ap : ∀ {b : Addr} {C d : Addr} {r : List (Str × V)}, w.H b = some (.ins C d r) → b ≠ p := fun {b C d r} h e => by
    rw [e] at h
    rw [h] at hld
    exact hld
  have hlen : n < S.length := (List.getElem?_eq_some_iff.mp hn).1
  refine ⟨ex, k.zf, fun x hx vs z => ?_, fun x hx z => k.fs x hx (nn x z), fun x z q => k.zs x z (nn x q), ?_, ?_⟩
  · have z : upd w.H p o x = some (.tup vs) := z
    by_cases e : x = p
    · rw [e, upd_same] at z
      rw [Option.some.inj z] at hldo
      exact hldo
    · rw [upd_ne e] at z
      exact k.ft x hx vs z
  · refine tabs_but k.tab fun b u e hu => ?_
    show upd w.H p o b = _
    rw [upd_ne fun z => by
      rw [z] at e
      rw [e] at hld
      rcases hu with ⟨_, hu⟩ | ⟨_, hu⟩ <;> rw [hu] at hld <;> exact hld]
    exact e
  · rw [setFld_at hn]
    have get : ∀ {j : Nat} {o' : Ob}, (S.set n { ob with fs := putS f s' ob.fs })[j]? = some o' → (j = n ∧ o' = { ob with fs := putS f s' ob.fs }) ∨ (j ≠ n ∧ S[j]? = some o') := fun {j o'} h => by
      by_cases e : n = j
      · subst e
        rw [List.getElem?_set_self hlen] at h
        cases h
        exact .inl ⟨rfl, rfl⟩
      · rw [List.getElem?_set_ne e] at h
        exact .inr ⟨fun q => e q.symm, h⟩
    refine ⟨by rw [List.length_set]; exact k.sto.len, fun j o' b e1 e2 => ?_, k.sto.inj, fun j o' e1 => ?_, fun j j' b b' C1 d1 r1 C2 d2 r2 g g' q o1 o2 s1 s2 e1 e2 e3 e4 q1 q2 l1 l2 w1 w2 v1 v2 => ?_⟩
    · rcases get e1 with ⟨rfl, rfl⟩ | ⟨hj, h1⟩
      · have e2 : w.A[j]? = some b := e2
        rw [hA] at e2
        cases e2
        obtain ⟨a1, C3, d3, r3, a2, a3, a4⟩ := k.sto.at_ j ob a hn hA
        rw [hH] at a3
        cases a3
        refine ⟨a1, CA, dx, fs, a2, by show upd w.H p o a = _; rw [upd_ne (ap hH)]; exact hH, FsR.mut ex rfl same hs' hF (k.sto.nd j ob hn) hl hv fun g s2 v2 hg q1 q2 o2 ev => ?_⟩
        rw [ev] at q2
        exact hg (k.sto.sep j j a a CA dx fs CA dx fs g f p ob ob s2 s hA hA hH hH hn hn q1 hl o2 ho q2 hv).2
      · obtain ⟨a1, C3, d3, r3, a2, a3, a4⟩ := k.sto.at_ j o' b h1 e2
        refine ⟨a1, C3, d3, r3, a2, by show upd w.H p o b = _; rw [upd_ne (ap a3)]; exact a3, FsR.but ex rfl same a4 (k.sto.nd j o' h1) fun g s2 v2 q1 q2 o2 ev => ?_⟩
        rw [ev] at q2
        exact hj (k.sto.sep j n b a C3 d3 r3 CA dx fs g f p o' ob s2 s e2 hA a3 hH h1 hn q1 hl o2 ho q2 hv).1
    · rcases get e1 with ⟨rfl, rfl⟩ | ⟨hj, h1⟩
      · exact putS_nd f s' ob.fs (k.sto.nd _ ob hn)
      · exact k.sto.nd j o' h1
    · have old : ∀ {j : Nat} {o' : Ob} {g : Str} {s1 : Sl}, (S.set n { ob with fs := putS f s' ob.fs })[j]? = some o' → o'.fs.lookup g = some s1 → isOwn s1 = true → ∃ o1 s2, S[j]? = some o1 ∧ o1.fs.lookup g = some s2 ∧ isOwn s2 = true := fun {j o' g s1} h h2 h3 => by
        rcases get h with ⟨rfl, rfl⟩ | ⟨hj, h1⟩
        · have h2 : (putS f s' ob.fs).lookup g = some s1 := h2
          rw [lookup_putS] at h2
          by_cases e : g = f
          · rw [e]
            exact ⟨ob, s, hn, hl, ho⟩
          · rw [if_neg e] at h2
            exact ⟨ob, s1, hn, h2, h3⟩
        · exact ⟨o', s1, h1, h2, h3⟩
      obtain ⟨x1, x2, x3, x4, x5⟩ := old q1 l1 w1
      obtain ⟨y1, y2, y3, y4, y5⟩ := old q2 l2 w2
      have insAt : ∀ {b C d : Addr} {r : List (Str × V)}, upd w.H p o b = some (.ins C d r) → w.H b = some (.ins C d r) := fun {b C d r} h => by
        by_cases e : b = p
        · rw [e, upd_same] at h
          rw [Option.some.inj h] at hldo
          exact hldo.elim
        · rw [upd_ne e] at h
          exact h
      exact k.sto.sep j j' b b' C1 d1 r1 C2 d2 r2 g g' q x1 y1 x2 y2 e1 e2 (insAt e3) (insAt e4) x3 y3 x4 y4 x5 y5 v1 v2
end Mini
/-! Objects: lists that fields hold. -/
namespace Mini
open PySem PySem.Spec PyProof.Rows L2
variable {fa : FA} {ca : CA} {cl : Calls}
structure FAt (fa : FA) (w : Wd) (env : Env) (σ : L2.St) (S : Sto) (C : Str) (i : Nat) (f : Str) (s : Sl) (A : Addr) (n : Nat) (ob : Ob) (x : D) (a dx : Addr) (fs : List (Str × V)) (v : V) : Prop where
  sl : slotD env i = some x
  ix : obOf x = some n
  obj : S[n]? = some ob
  cls : ob.cls = C
  look : ob.fs.lookup f = some s
  at_ : σ[i]? = some (some (.ref a))
  adr : w.A[n]? = some a
  aF : a ∈ w.F
  ins : w.H a = some (.ins A dx fs)
  fsr : FsR fa w ob.fs fs
  val : fs.lookup f = some v
  rel : FldR fa w s v
theorem fieldI_at {w : Wd} {env : Env} {σ : L2.St} {S : Sto} {C f : Str} {i : Nat} {s : Sl} {A : Addr} (k : Ok fa w S) (er : ER fa w env σ) (hA : fa.c C = some A) (h : fieldI env S C i f = some s) : ∃ n ob x a dx fs v, FAt fa w env σ S C i f s A n ob x a dx fs v := by
  unfold fieldI at h
  cases q : slotD env i with
  | none =>
    rw [q] at h
    cases h
  | some x =>
    rw [q] at h
    obtain ⟨n, ob, g1, g2, g3, g4⟩ := fieldAt_some h
    obtain ⟨ov, e2, u, e3, ru⟩ := slot_at er (slotD_some q)
    subst e3
    obtain ⟨_, p, CA, dx, fs, rfl, o1, o2, o3, o4, o5⟩ := obj_at k (.r ru) g1 g2
    rw [g3, hA] at o3
    cases o3
    obtain ⟨v, l1, l2⟩ := o5.get g4
    exact ⟨n, ob, x, p, dx, fs, v, q, g1, g2, g3, g4, e2, o1, o2, o4, o5, l1, l2⟩
section
variable {X : Cx} {W : WX} {m : Md} {w0 : Wd}
/-- x.f of a name, an own list or dict -/
theorem fld_read {C f : Str} {fl : List Str} {i n : Nat} {s : Sl} {A : Addr} {ob : Ob} {x : D} {a dx : Addr} {fs : List (Str × V)} {v : V} {w : Wd} {env : Env} {σ : L2.St} {S : Sto} {Q : VK} (c2 : Cls X.K A) (c3 : NoAttr X.K A f) (h : FAt fa w env σ S C i f s A n ob x a dx fs v) (q : Q v w.H) : tFld X.K (tVar i) f σ w.H Q :=
  ⟨.ref a, h.at_, a, A, dx, fs, v, rfl, h.ins, c2, c3, h.val, q⟩
theorem ss_fapp {C f g x y : Str} {fl : List Str} {i j kk : Nat} {p p2 p3 p4 p5 tp apos cpos pos : Pos} (CA : ClsA fa X.K C fl) (hf : f ∈ fl) (hg : g ∈ fl) (hN : X.N[i]? = some x) (hv : Vis X.env.scope x) (hd : (x == ("__debug__" : Str)) = false) (hcd : (x == ("__classdict__" : Str)) = false)
    (hN2 : X.N[j]? = some y) (hv2 : Vis X.env.scope y) (hd2 : (y == ("__debug__" : Str)) = false) (hcd2 : (y == ("__classdict__" : Str)) = false) (hl : (apos.endLine == cpos.line) = true) :
    PS X (.Expr (.Call (.Attribute (.Attribute (.Name x p) f p2) "append" apos) [.Tuple [.Name y p3, .Attribute (.Name x p4) g p5] kk tp] [] cpos) pos) (tS fa ca cl W w0 (.fapp C i f j g)) := by
  obtain ⟨A, c1, c2, c3⟩ := CA.ex
  refine (ps_expr (pos := pos) (pe_bm PySem.F.plainAttrs_list PySem.F.slot_list_append PySem.F.type_list_append mt_append (pe_fld (pos := p2) (pe_var (pos := p) hN hv hd hcd) rfl)
    (pa_cons (pe_tup (x1 := kk) (pos := tp) (pa_cons (pe_var (pos := p3) hN2 hv2 hd2 hcd2) (pa_cons (pe_fld (pos := p5) (pe_var (pos := p4) hN hv hd hcd) rfl) pa_nil))) pa_nil) rfl rfl hl rfl rfl) rfl).weak fun D σ H h => ?_
  obtain ⟨w, env, S, rfl, hi, h⟩ := h
  unfold exS at h
  split at h
  · rename_i x1 y1 xs z e1 e2 e3 e4
    obtain ⟨n, ob, x2, a, dx, fs, v, F⟩ := fieldI_at hi.ok hi.er c1 e3
    obtain ⟨n', ob', x2', a', dx', fs', v', F'⟩ := fieldI_at hi.ok hi.er c1 e4
    have ex : x2' = x2 := by
      have := F.sl.symm.trans F'.sl
      cases this
      rfl
    subst ex
    have en : n' = n := by
      have := F.ix.symm.trans F'.ix
      cases this
      rfl
    subst en
    have eo : ob' = ob := by
      have := F.obj.symm.trans F'.obj
      cases this
      rfl
    subst eo
    have ea : a' = a := by
      have := F.adr.symm.trans F'.adr
      cases this
      rfl
    subst ea
    have ei := F.ins.symm.trans F'.ins
    cases ei
    have eX : x1 = x2' := by
      have := e1.symm.trans F.sl
      cases this
      rfl
    subst eX
    simp only [F.ix] at h
    split at h
    · rename_i hlim
      obtain ⟨q, vs, ev, h1, h2, h3⟩ := F.rel
      subst ev
      obtain ⟨ov, s2, u, s3, ru⟩ := slot_at hi.er (slotD_some e2)
      subst s3
      have rz : R fa w z v' := F'.rel
      have nT : ∀ t, w.H t = none → q ≠ t := fun t ht e => by
        rw [e, ht] at h1
        cases h1
      refine ⟨.ref a', F.at_, a', A, dx, fs, .ref q, rfl, F.ins, c2, c3 f hf, F.val, .inl ⟨rfl, vs, .inl (.inl h1)⟩, ?_⟩
      refine ⟨u, s2, .ref a', F.at_, a', A, dx, fs, v', rfl, F.ins, c2, c3 g hg, F'.val, by show 2 ≤ sizeLine; decide, fun t ht => ?_⟩
      -- the tuple is laid, then put into the list
      have k2 := hi.ok.alloc (o := .tup [u, v']) ht
      have i2 := hi.step (Step.alloc (o := .tup [u, v']) ht) k2
      have e12 : Ext w { w with H := upd w.H t (.tup [u, v']) } := Ext.alloc hi.ok ht
      have h1' : upd w.H t (.tup [u, v']) q = some (.lst vs) := by rw [upd_ne (nT t ht)]; exact h1
      have hH' : upd w.H t (.tup [u, v']) a' = some (.ins A dx fs) := by rw [upd_ne (ne_of_none F.ins ht)]; exact F.ins
      have hF' : FsR fa { w with H := upd w.H t (.tup [u, v']) } ob'.fs fs := F.fsr.mono e12 fun p hp => ⟨fun o e => by
        show upd w.H t _ p = _
        rw [upd_ne (ne_of_none e ht)]
        exact e, hp⟩
      have rs : Rs fa { w with H := upd w.H t (.tup [u, v']) } (xs ++ [.tuple [y1, z]]) (vs ++ [.ref t]) := (h2.mono e12).append (.cons (.tup upd_same (.cons (ru.mono e12) (.cons (rz.mono e12) .nil))) .nil)
      have pz : ¬ w.Z q := fun z => hi.ok.zf q z h3
      have e23 : Ext { w with H := upd w.H t (.tup [u, v']) } { w with H := upd (upd w.H t (.tup [u, v'])) q (.lst (vs ++ [.ref t])) } := Ext.own (w := { w with H := upd w.H t (.tup [u, v']) }) pz fun us e => by
        have e : upd w.H t (.tup [u, v']) q = some (.tup us) := e
        rw [h1'] at e
        cases e
      obtain ⟨q1, q2⟩ := fmut_world (w := { w with H := upd w.H t (.tup [u, v']) }) (o := .lst (vs ++ [.ref t])) (s' := .own (xs ++ [.tuple [y1, z]])) k2 F.obj F.adr hH' hF' F.look rfl F.val h3 (.lst h1') trivial ⟨q, _, rfl, upd_same, rs.mono e23, h3⟩ rfl
      refine ⟨q, vs, .ref t, rfl, rfl, h1', by rw [← h2.length]; exact lim_lt hlim, ?_⟩
      exact h _ σ (e12.trans q1) (i2.wrote (ps := []) rfl q2 q1 h3 (fun ps e => by cases e) fun p hp => by cases hp)
    · exact h.elim
  · exact h.elim
end
end Mini
/-! Objects: lists that fields hold, popped, asked. -/
namespace Mini
open PySem PySem.Spec PyProof.Rows L2
variable {fa : FA} {ca : CA} {cl : Calls}
section
variable {X : Cx} {W : WX} {m : Md} {w0 : Wd}
theorem ss_fpop2 {C f x y z : Str} {fl : List Str} {i k l kk : Nat} {p p2 p3 p4 tp apos cpos pos : Pos} (CA : ClsA fa X.K C fl) (hf : f ∈ fl) (hcalm : X.calm = true) (hN : X.N[i]? = some x) (hv : Vis X.env.scope x) (hd : (x == ("__debug__" : Str)) = false) (hcd : (x == ("__classdict__" : Str)) = false)
    (hg : PGs X [.Name y p3, .Name z p4] (gsT [k, l])) (hgl : (assignEach [.Name y p3, .Name z p4] X.env).length = 2) (hgs : (assignEach [.Name y p3, .Name z p4] X.env).findIdx? (·.1) = none) (hl : (apos.endLine == cpos.line) = true) :
    PS X (.Assign [.Tuple [.Name y p3, .Name z p4] kk tp] (.Call (.Attribute (.Attribute (.Name x p) f p2) "pop" apos) [] [] cpos) pos) (tS fa ca cl W w0 (.fpop2 C k l i f)) := by
  obtain ⟨A, c1, c2, c3⟩ := CA.ex
  refine (ps_asg (pos := pos) (pe_bm0 PySem.F.plainAttrs_list PySem.F.slot_list_pop PySem.F.type_list_pop mt_pop (pe_fld (pos := p2) (pe_var (pos := p) hN hv hd hcd) rfl) rfl hl) (pg_tup (pos := tp) hcalm hg hgl hgs) rfl rfl rfl).weak fun D σ H h => ?_
  obtain ⟨w, env, S, rfl, hi, h⟩ := h
  unfold exS at h
  split at h
  · rename_i x1 xs e1 e3
    obtain ⟨n, ob, x2, a, dx, fs, v, F⟩ := fieldI_at hi.ok hi.er c1 e3
    have eX : x1 = x2 := by
      have := e1.symm.trans F.sl
      cases this
      rfl
    subst eX
    split at h
    · rename_i n2 d g1 g2
      have en : n2 = n := by
        have := g1.symm.trans F.ix
        cases this
        rfl
      subst en
      split at h
      · rename_i env1 es
        obtain ⟨q, vs, ev, h1, h2, h3⟩ := F.rel
        subst ev
        rw [List.getLast?_eq_getElem?] at g2
        obtain ⟨u, ev, rv⟩ := h2.get g2
        have pz : ¬ w.Z q := fun z => hi.ok.zf q z h3
        have e12 : Ext w { w with H := upd w.H q (.lst vs.dropLast) } := Ext.own pz fun us e => by
          rw [h1] at e
          cases e
        have rs : Rs fa w xs.dropLast vs.dropLast := by
          rw [List.dropLast_eq_take, List.dropLast_eq_take, h2.length]
          exact h2.take _
        obtain ⟨q1, q2⟩ := fmut_world (o := .lst vs.dropLast) (s' := .own xs.dropLast) hi.ok F.obj F.adr F.ins F.fsr F.look rfl F.val h3 (.lst h1) trivial ⟨q, _, rfl, upd_same, rs.mono e12, h3⟩ rfl
        have i2 := hi.wrote (ps := []) rfl q2 q1 h3 (fun ps e => by cases e) fun p hp => by cases hp
        refine ⟨.ref a, F.at_, a, A, dx, fs, .ref q, rfl, F.ins, c2, c3 f hf, F.val, .inl ⟨rfl, vs, .inl (.inl h1)⟩, q, vs, u, rfl, rfl, h1, by rw [← h2.length]; exact ev, ?_⟩
        exact gT_okS (K := X.K) (t := .tp [k, l]) es i2 (rv.mono e12) fun σ2 i3 => h _ σ2 e12 i3
      · exact h.elim
    · exact h.elim
  · exact h.elim
theorem dp_list {K : PySem.W.Frag} {w : Wd} {xs : List D} {vs : List V} {p : Addr} (h : w.H p = some (.lst vs)) (r : Rs fa w xs vs) (hp : pure1 (.list xs) = true) : Dp K w.H (.ref p) (.list xs) := by
  have e := pure1_lay hp
  rw [lay_list] at e
  exact .lst (.inl (.inl h)) (r.dp e)
theorem eqv_emp (xs : List D) : PyData.eqv (.list xs) (.list []) = xs.isEmpty := by
  cases xs <;> simp [PyData.eqv, PyData.eqvAll]
theorem fNil_bind {C f : Str} {i : Nat} {A : Addr} (hA : fa.c C = some A) {c2 : Cls X.K A} {c3 : NoAttr X.K A f} {σ : L2.St} {H : Hp} {Q : VK} (h : tE fa ca cl W m (.fNil C i f) σ H Q) :
    tFld X.K (tVar i) f σ H fun v H1 => ∀ l, H1 l = none → rEqD X.K v (.ref l) (upd H1 l (.lst [])) Q := by
  obtain ⟨w, env, S, rfl, k, hE, h⟩ := h
  unfold evE at h
  split at h
  · rename_i xs e3
    split at h
    · rename_i hp
      obtain ⟨n, ob, x2, a, dx, fs, v, F⟩ := fieldI_at k hE hA e3
      obtain ⟨q, vs, ev, h1, h2, h3⟩ := F.rel
      subst ev
      refine ⟨.ref a, F.at_, a, A, dx, fs, .ref q, rfl, F.ins, c2, c3, F.val, fun l hl => ?_⟩
      have e12 : Ext w { w with H := upd w.H l (.lst []) } := Ext.alloc k hl
      have h1' : ({ w with H := upd w.H l (.lst []) } : Wd).H q = some (.lst vs) := by
        show upd w.H l _ q = _
        rw [upd_ne (ne_of_none h1 hl)]
        exact h1
      refine ⟨.list xs, .list [], dp_list (fa := fa) (w := { w with H := upd w.H l (.lst []) }) h1' (h2.mono e12) hp, dp_list (fa := fa) (w := { w with H := upd w.H l (.lst []) }) upd_same .nil (by decide +kernel), hp, by decide +kernel, ?_⟩
      rw [eqv_emp]
      exact h _ (.bl _) (Step.alloc hl) (k.alloc hl) (.sc rfl (.bl _))
    · exact h.elim
  · exact h.elim
theorem se_fNil {C f x : Str} {fl : List Str} {i : Nat} {p p2 p3 pos : Pos} (hu : X.A.units + 64 < cLine) (CA : ClsA fa X.K C fl) (hf : f ∈ fl) (hN : X.N[i]? = some x) (hv : Vis X.env.scope x) (hd : (x == ("__debug__" : Str)) = false) (hcd : (x == ("__classdict__" : Str)) = false) :
    PE X (.Compare (.Attribute (.Name x p) f p2) [.Eq] [.List [] p3] pos) (tE fa ca cl W m (.fNil C i f)) ∧ PT X (.Compare (.Attribute (.Name x p) f p2) [.Eq] [.List [] p3] pos) (tT fa ca cl W (.fNil C i f)) := by
  obtain ⟨A, c1, c2, c3⟩ := CA.ex
  have h1 : PE X (.Attribute (.Name x p) f p2) _ := pe_fld (pos := p2) (pe_var (pos := p) hN hv hd hcd) rfl
  have h2 : PE X (.List [] p3) _ := pe_lst (pos := p3) pa_nil
  refine ⟨(pe_cmpR (pos := pos) (op_eqD hu) h1 h2 rfl).weak fun σ H Q h => ?_, (pt_cmpR (pos := pos) (op_eqD hu) h1 h2 rfl).weak fun σ H Q h => ?_⟩
  · obtain ⟨v, q1, a, C', dx, fs, u, q2, q3, q4, q5, q6, q7⟩ := fNil_bind (c2 := c2) (c3 := c3 f hf) c1 h
    exact ⟨v, q1, a, C', dx, fs, u, q2, q3, q4, q5, q6, Nat.zero_le _, fun l hl => q7 l hl⟩
  · obtain ⟨v, q1, a, C', dx, fs, u, q2, q3, q4, q5, q6, q7⟩ := fNil_bind (c2 := c2) (c3 := c3 f hf) c1 (tT_tE h)
    exact ⟨v, q1, a, C', dx, fs, u, q2, q3, q4, q5, q6, Nat.zero_le _, fun l hl => q7 l hl⟩
end
end Mini
/-! Objects: len and list of a field. -/
namespace Mini
open PySem PySem.Spec PyProof.Rows L2
variable {fa : FA} {ca : CA} {cl : Calls}
section
variable {X : Cx} {W : WX} {m : Md} {w0 : Wd}
theorem DR.keysL {K : PySem.W.Frag} {w : Wd} {S : Sto} {t : Bool} {es : List (D × D)} {p : Addr} {σ : L2.St} {Q : VK} (k : Ok fa w S) (dr : DR fa w t es p) (h : PostE fa ca W σ m w (.ok (.list (es.map (·.1))) S) Q) : rListX K [.ref p] w.H Q := by
  rcases dr with ⟨_, kvs, h1, h2⟩ | ⟨_, kvs, h1, h2⟩
  · exact .inl (.inr ⟨p, kvs, rfl, h1, fun l hl => h.lst k h2.keysR hl⟩)
  · exact .inr ⟨p, kvs, rfl, .inl h1, fun l bs hl hb => h.lst k (h2.keysR hb) hl⟩
theorem fList_bind {C f : Str} {i : Nat} {A : Addr} (hA : fa.c C = some A) {c2 : Cls X.K A} {c3 : NoAttr X.K A f} {σ : L2.St} {H : Hp} {Q : VK} (h : tE fa ca cl W m (.fList C i f) σ H Q) :
    tFld X.K (tVar i) f σ H fun v H1 => rListX X.K [v] H1 Q := by
  obtain ⟨w, env, S, rfl, k, hE, h⟩ := h
  unfold evE at h
  split at h
  · rename_i xs e3
    obtain ⟨n, ob, x2, a, dx, fs, v, F⟩ := fieldI_at k hE hA e3
    obtain ⟨q, vs, ev, h1, h2, h3⟩ := F.rel
    subst ev
    exact ⟨.ref a, F.at_, a, A, dx, fs, .ref q, rfl, F.ins, c2, c3, F.val, .inl (.inl ⟨q, vs, rfl, .inl (.inl (.inl h1)), fun l hl => h.lst k h2 hl⟩)⟩
  · rename_i t es e3
    obtain ⟨n, ob, x2, a, dx, fs, v, F⟩ := fieldI_at k hE hA e3
    obtain ⟨q, ev, h1, h2⟩ := F.rel
    subst ev
    exact ⟨.ref a, F.at_, a, A, dx, fs, .ref q, rfl, F.ins, c2, c3, F.val, h1.keysL k h⟩
  · exact h.elim
theorem fLen_bind {C f : Str} {i : Nat} {A : Addr} (hA : fa.c C = some A) {c2 : Cls X.K A} {c3 : NoAttr X.K A f} {σ : L2.St} {H : Hp} {Q : VK} (h : tE fa ca cl W m (.fLen C i f) σ H Q) :
    tFld X.K (tVar i) f σ H fun v H1 => rLenX X.K [v] H1 Q := by
  obtain ⟨w, env, S, rfl, k, hE, h⟩ := h
  unfold evE at h
  split at h
  · rename_i xs e3
    obtain ⟨n, ob, x2, a, dx, fs, v, F⟩ := fieldI_at k hE hA e3
    obtain ⟨q, vs, ev, h1, h2, h3⟩ := F.rel
    subst ev
    refine ⟨.ref a, F.at_, a, A, dx, fs, .ref q, rfl, F.ins, c2, c3, F.val, .inl (.inl ⟨q, vs, rfl, .inl (.inl (.inl h1)), ?_⟩)⟩
    rw [← h2.length]
    exact h.int k
  · exact h.elim
theorem se_fLen {C f x : Str} {fl : List Str} {i : Nat} {p p2 q pos : Pos} (CA : ClsA fa X.K C fl) (hf : f ∈ fl) (hN : X.N[i]? = some x) (hv : Vis X.env.scope x) (hd : (x == ("__debug__" : Str)) = false) (hcd : (x == ("__classdict__" : Str)) = false)
    (hg : Gl X "len") (hmg : X.mg "len" = none) :
    PE X (.Call (.Name "len" q) [.Attribute (.Name x p) f p2] [] pos) (tE fa ca cl W m (.fLen C i f)) := by
  obtain ⟨A, c1, c2, c3⟩ := CA.ex
  have h1 : PE X (.Attribute (.Name x p) f p2) _ := pe_fld (pos := p2) (pe_var (pos := p) hN hv hd hcd) rfl
  refine (pe_callB (p := q) (pos := pos) cr_lenX hg hmg PySem.boot_len (pa_cons h1 pa_nil) (by decide) rfl rfl rfl).weak fun σ H Q h => ?_
  exact fLen_bind (c2 := c2) (c3 := c3 f hf) c1 h
theorem se_fList {C f x : Str} {fl : List Str} {i : Nat} {p p2 q pos : Pos} (hc : X.calm = true) (CA : ClsA fa X.K C fl) (hf : f ∈ fl) (hN : X.N[i]? = some x) (hv : Vis X.env.scope x) (hd : (x == ("__debug__" : Str)) = false) (hcd : (x == ("__classdict__" : Str)) = false)
    (hg : Gl X "list") (hmg : X.mg "list" = none) :
    PE X (.Call (.Name "list" q) [.Attribute (.Name x p) f p2] [] pos) (tE fa ca cl W m (.fList C i f)) := by
  obtain ⟨A, c1, c2, c3⟩ := CA.ex
  have h1 : PE X (.Attribute (.Name x p) f p2) _ := pe_fld (pos := p2) (pe_var (pos := p) hN hv hd hcd) rfl
  refine (pe_callTy (p := q) (pos := pos) (cr_listX hc) hg hmg (by decide +kernel) (pa_cons h1 pa_nil) (by decide) rfl rfl rfl).weak fun σ H Q h => ?_
  exact fList_bind (c2 := c2) (c3 := c3 f hf) c1 h
end
end Mini
/-! Objects: dicts that fields hold. -/
namespace L2
open PySem PySem.Spec PyProof.Rows L2.DX
section
variable {X : Cx}
def tDPopT (td ty : TE) : TE := fun σ H Q => td σ H fun x H1 => ∃ a, x = .ref a ∧ IsD H1 a ∧ ty σ H1 fun y H2 => (∃ (kvs : List (List L2.Key × V)) (k : List L2.Key) (b : Addr) (v : V), H2 a = some (.dT kvs) ∧ y = .ref b ∧ H2 b = some (.tup (k.map kV)) ∧ valV kvs k = some v ∧ Q v (upd H2 a (.dT (dropK kvs k)))) ∨
  ∃ (kvs : List (L2.Key × V)) (k : L2.Key) (v : V), H2 a = some (.dK kvs) ∧ y = kV k ∧ valV kvs k = some v ∧ Q v (upd H2 a (.dK (dropK kvs k)))
theorem d_popT {pins : List (Addr × Obj)} {σ : St} {H : Hp} {s : Shared} {a b : Addr} {kvs : List (List L2.Key × V)} {k : List L2.Key} {v : V} {A : Around} {E : Value → Shared → Prop} {Q : Value → Shared → Prop} (hu : A.units + 1 < cLine) (I : Inv X pins σ H s) (ha : H a = some (.dT kvs)) (hb : H b = some (.tup (k.map kV))) (l : valV kvs k = some v)
    (h : ∀ w' s', Inv X pins σ (upd H a (.dT (dropK kvs k))) s' → RelV v w' → Q w' s') : wpAny (model X.prog X.w) A (call (.builtin "dict.pop") [.ref a, .ref b]) Q E s := by
  obtain ⟨z, hd, xs', rel, dd⟩ := dt_of I.hok ha
  have hz : xs'.length ≤ sizeLine := by rw [← Paired.length rel]; exact z
  obtain ⟨p, hp, rv⟩ : ∃ p, atKey xs' k = some p ∧ RelV v p.2 := by
    have r := rel.val k
    rw [l] at r
    cases ep : atKey xs' k with
    | none =>
      rw [ep] at r
      exact (show False from r).elim
    | some p =>
      rw [ep] at r
      exact ⟨p, rfl, r⟩
  refine call_pop_heap (knd := tupleKind (mixKind X.prog X.w)) (more := []) (.inl rfl) (PySem.F.args_dict_pop_2 _ _) (tupleKind_room_in1 hu) (key_of I.hok hb) hd dd hp (fun h' dd' hs => ?_) hz
  obtain ⟨o, es, ep, hq, h2, h3, h4, _, h5⟩ := dd'
  exact h _ _ (d_write I (by rw [ha]; exact True.intro) hs ⟨o, hq⟩ ⟨Nat.le_trans (dropK_le kvs k) z, hd, _, (KT_drop k rel).keeps (fun c ys ec => (by rw [upd_ne (ne_of ec ha (fun z => nomatch z))]; exact ec)), o, es, ep, hq, h2, h3, h4, h5⟩) rv
theorem pe_dpopT {o e : Expr} {apos cpos : Pos} {td ty : TE} (hu : X.A.units + 1 < cLine) (ho : PE X o td) (he : PE X e ty) (m : M1 X o "pop" apos e cpos) : PE X (.Call (.Attribute o "pop" apos) [e] [] cpos) (tDPopT td ty) := by
  refine ⟨fun pins s σ H Q I h => ?_⟩
  refine wpAny_Call_method m.base m.few m.line PySem.F.plainAttrs_dict PySem.F.slot_dict_pop PySem.F.type_dict_pop (thn (ho.run pins s σ H _ I h) fun u s1 ⟨x, H1, I1, rx, a, ex, d, q1⟩ => ?_)
  subst ex
  obtain rfl : u = Value.ref a := rx
  obtain ⟨t1, t2, _⟩ := isD_at I1 d
  refine ⟨t1, t2, ?_⟩
  rw [m.trees]
  refine Calls.callWith_builtin rfl (Calls.evalArgs_plain (Calls.spliced_cons (thn (he.run pins s1 σ H1 _ I1 q1) fun iv s2 ⟨y, H2, I2, ry, qq⟩ => Calls.spliced_nil ?_)))
  rcases qq with ⟨kvs, k, b, v, ea, ey, eb, l, q2⟩ | ⟨kvs, k, v, ea, ey, l, q2⟩
  · subst ey
    obtain rfl : iv = Value.ref b := ry
    exact d_popT hu I2 ea eb l fun w' s3 I3 rw' => ⟨v, _, I3, rw', q2⟩
  · subst ey
    exact d_pop I2 ea ry l (.inl rfl) fun w' s3 I3 rw' => ⟨v, _, I3, rw', q2⟩
end
end L2
namespace Mini
open PySem PySem.Spec PyProof.Rows L2
variable {fa : FA} {ca : CA} {cl : Calls}
theorem find_any {x : D} : ∀ {es : List (D × D)}, (es.any fun p => PyData.eqv p.1 x) = ((es.find? fun q => PyData.eqv q.1 x).map (·.2)).isSome
  | [] => rfl
  | p :: r => by
    rw [List.any_cons, List.find?_cons]
    cases h : PyData.eqv p.1 x with
    | true => rfl
    | false =>
      rw [Bool.false_or]
      exact find_any
theorem OR.some_iff {w : Wd} {a : Option D} {b : Option V} (h : OR fa w a b) : a.isSome = b.isSome := by
  cases a <;> cases b <;> first | rfl | exact h.elim
theorem DR.isD {w : Wd} {t : Bool} {es : List (D × D)} {p : Addr} (h : DR fa w t es p) : IsD w.H p := by
  rcases h with ⟨_, kvs, h1, _⟩ | ⟨_, kvs, h1, _⟩
  · exact .inl ⟨kvs, .inl h1⟩
  · exact .inr ⟨kvs, .inl h1⟩
theorem RT.drop {w : Wd} {k : List Key} : ∀ {es : List (D × D)} {kvs : List (List Key × V)}, RT fa w es kvs → RT fa w (es.filter fun p => !PyData.eqv p.1 (.tuple (k.map kD))) (dropK kvs k)
  | _, _, .nil => .nil
  | _, _, @RT.cons _ _ k' d v es kvs h r => by
    have ih := RT.drop (k := k) r
    by_cases e : k' = k
    · have e1 : PyData.eqv (.tuple (k'.map kD)) (.tuple (k.map kD)) = true := by rw [kT_eqv]; exact decide_eq_true e
      have z1 : dropK ((k', v) :: kvs) k = dropK kvs k := List.filter_cons_of_neg (by simp [e])
      rw [z1, List.filter_cons_of_neg (by simp [e1])]
      exact ih
    · have e1 : PyData.eqv (.tuple (k'.map kD)) (.tuple (k.map kD)) = false := by rw [kT_eqv]; exact decide_eq_false e
      have z1 : dropK ((k', v) :: kvs) k = (k', v) :: dropK kvs k := List.filter_cons_of_pos (by simp [e])
      rw [z1, List.filter_cons_of_pos (by simp [e1])]
      exact .cons h ih
theorem RK.drop {w : Wd} {k : Key} : ∀ {es : List (D × D)} {kvs : List (Key × V)}, RK fa w es kvs → RK fa w (es.filter fun p => !PyData.eqv p.1 (kD k)) (dropK kvs k)
  | _, _, .nil => .nil
  | _, _, @RK.cons _ _ k' d v es kvs h r => by
    have ih := RK.drop (k := k) r
    by_cases e : k' = k
    · have e1 : PyData.eqv (kD k') (kD k) = true := by rw [kD_eqv]; exact decide_eq_true e
      have z1 : dropK ((k', v) :: kvs) k = dropK kvs k := List.filter_cons_of_neg (by simp [e])
      rw [z1, List.filter_cons_of_neg (by simp [e1])]
      exact ih
    · have e1 : PyData.eqv (kD k') (kD k) = false := by rw [kD_eqv]; exact decide_eq_false e
      have z1 : dropK ((k', v) :: kvs) k = (k', v) :: dropK kvs k := List.filter_cons_of_pos (by simp [e])
      rw [z1, List.filter_cons_of_pos (by simp [e1])]
      exact .cons h ih
section
variable {X : Cx} {W : WX} {m : Md} {w0 : Wd}
theorem fIn_bind {C f : Str} {i j : Nat} {A : Addr} (hA : fa.c C = some A) {c2 : Cls X.K A} {c3 : NoAttr X.K A f} {σ : L2.St} {H : Hp} {Q : VK} (h : tE fa ca cl W m (.fIn C j i f) σ H Q) :
    tDIn (tVar j) (tFld X.K (tVar i) f) σ H Q := by
  obtain ⟨w, env, S, rfl, k, hE, h⟩ := h
  unfold evE at h
  split at h
  · rename_i x t es e1 e3
    split at h
    · rename_i hk
      obtain ⟨n, ob, x2, a, dx, fs, v, F⟩ := fieldI_at k hE hA e3
      obtain ⟨q, ev, h1, h2⟩ := F.rel
      subst ev
      obtain ⟨ov, s2, u, s3, ru⟩ := slot_at hE (slotD_some e1)
      subst s3
      obtain ⟨o, g, r⟩ := h1.get hk (.r ru)
      refine ⟨u, s2, .ref a, F.at_, a, A, dx, fs, .ref q, rfl, F.ins, c2, c3, F.val, q, o, rfl, g, ?_⟩
      rw [← r.some_iff, ← find_any]
      exact h.bl k
    · exact h.elim
  · exact h.elim
theorem se_fIn {C f x y : Str} {fl : List Str} {i j : Nat} {p p2 p3 pos : Pos} (hu : X.A.units + 64 < cLine) (CA : ClsA fa X.K C fl) (hf : f ∈ fl) (hN : X.N[i]? = some x) (hv : Vis X.env.scope x) (hd : (x == ("__debug__" : Str)) = false) (hcd : (x == ("__classdict__" : Str)) = false)
    (hN2 : X.N[j]? = some y) (hv2 : Vis X.env.scope y) (hd2 : (y == ("__debug__" : Str)) = false) (hcd2 : (y == ("__classdict__" : Str)) = false) :
    PE X (.Compare (.Name y p3) [.In] [.Attribute (.Name x p) f p2] pos) (tE fa ca cl W m (.fIn C j i f)) ∧ PT X (.Compare (.Name y p3) [.In] [.Attribute (.Name x p) f p2] pos) (tT fa ca cl W (.fIn C j i f)) := by
  obtain ⟨A, c1, c2, c3⟩ := CA.ex
  have h1 : PE X (.Attribute (.Name x p) f p2) _ := pe_fld (pos := p2) (pe_var (pos := p) hN hv hd hcd) rfl
  have h2 : PE X (.Name y p3) _ := pe_var (pos := p3) hN2 hv2 hd2 hcd2
  have pc := pc_din (X := X) (by omega) h2 h1
  refine ⟨(pe_cmp (pos := pos) pc rfl).weak fun σ H Q h => ?_, (pt_cmp (pos := pos) pc rfl).weak fun σ H Q h => ?_⟩
  · exact fIn_bind (c2 := c2) (c3 := c3 f hf) c1 h
  · exact fIn_bind (c2 := c2) (c3 := c3 f hf) c1 (tT_tE h)
theorem se_fIx {C f x y : Str} {fl : List Str} {i j : Nat} {p p2 p3 pos : Pos} (hm : m ≠ .f) (hu : X.A.units + 64 < cLine) (CA : ClsA fa X.K C fl) (hf : f ∈ fl) (hN : X.N[i]? = some x) (hv : Vis X.env.scope x) (hd : (x == ("__debug__" : Str)) = false) (hcd : (x == ("__classdict__" : Str)) = false)
    (hN2 : X.N[j]? = some y) (hv2 : Vis X.env.scope y) (hd2 : (y == ("__debug__" : Str)) = false) (hcd2 : (y == ("__classdict__" : Str)) = false) :
    PE X (.Subscript (.Attribute (.Name x p) f p2) (.Name y p3) pos) (tE fa ca cl W m (.fIx C i f j)) := by
  obtain ⟨A, c1, c2, c3⟩ := CA.ex
  have h1 : PE X (.Attribute (.Name x p) f p2) _ := pe_fld (pos := p2) (pe_var (pos := p) hN hv hd hcd) rfl
  have h2 : PE X (.Name y p3) _ := pe_var (pos := p3) hN2 hv2 hd2 hcd2
  refine (pe_dget (pos := pos) (by omega) h1 h2 fun _ _ => rfl).weak fun σ H Q h => ?_
  obtain ⟨w, env, S, rfl, k, hE, h⟩ := h
  unfold evE at h
  split at h
  · rename_i z t es e1 e3
    split at h
    · rename_i hk
      obtain ⟨n, ob, x2, a, dx, fs, v, F⟩ := fieldI_at k hE c1 e3
      obtain ⟨q, ev, h1, h2⟩ := F.rel
      subst ev
      obtain ⟨ov, s2, u, s3, ru⟩ := slot_at hE (slotD_some e1)
      subst s3
      obtain ⟨o, g, r⟩ := h1.get hk (.r ru)
      cases ef : ((es.find? fun q => PyData.eqv q.1 z).map (·.2)) with
      | none =>
        rw [ef] at h
        exact h.elim
      | some d =>
        rw [ef] at h r
        cases o with
        | none => exact r.elim
        | some v' => exact ⟨.ref a, F.at_, a, A, dx, fs, .ref q, rfl, F.ins, c2, c3 f hf, F.val, u, s2, q, v', rfl, g, h.ofR hm k r⟩
    · exact h.elim
  · exact h.elim
theorem se_fGet {C f x y : Str} {fl : List Str} {i j kk : Nat} {z : Int} {p p2 p3 p4 apos pos : Pos} (hm : m ≠ .f) (hu : X.A.units + 64 < cLine) (CA : ClsA fa X.K C fl) (hf : f ∈ fl) (hN : X.N[i]? = some x) (hv : Vis X.env.scope x) (hd : (x == ("__debug__" : Str)) = false) (hcd : (x == ("__classdict__" : Str)) = false)
    (hN2 : X.N[j]? = some y) (hv2 : Vis X.env.scope y) (hd2 : (y == ("__debug__" : Str)) = false) (hcd2 : (y == ("__classdict__" : Str)) = false) (hl : (apos.endLine == pos.line) = true) :
    PE X (.Call (.Attribute (.Attribute (.Name x p) f p2) "get" apos) [.Name y p3, .Constant (.int z) kk p4] [] pos) (tE fa ca cl W m (.fGet C i f j (.int z))) := by
  obtain ⟨A, c1, c2, c3⟩ := CA.ex
  have h1 : PE X (.Attribute (.Name x p) f p2) _ := pe_fld (pos := p2) (pe_var (pos := p) hN hv hd hcd) rfl
  have h2 : PE X (.Name y p3) _ := pe_var (pos := p3) hN2 hv2 hd2 hcd2
  have h3 : PE X (.Constant (.int z) kk p4) _ := pe_int
  refine (pe_dget2 (by omega) h1 h2 h3 ⟨rfl, rfl, hl, rfl⟩).weak fun σ H Q h => ?_
  obtain ⟨w, env, S, rfl, k, hE, h⟩ := h
  unfold evE at h
  split at h
  · rename_i z t es e1 e3
    split at h
    · rename_i hk
      obtain ⟨n, ob, x2, a, dx, fs, v, F⟩ := fieldI_at k hE c1 e3
      obtain ⟨q, ev, h1, h2⟩ := F.rel
      subst ev
      obtain ⟨ov, s2, u, s3, ru⟩ := slot_at hE (slotD_some e1)
      subst s3
      obtain ⟨o, g, r⟩ := h1.get hk (.r ru)
      refine ⟨.ref a, F.at_, a, A, dx, fs, .ref q, rfl, F.ins, c2, c3 f hf, F.val, q, rfl, h1.isD, u, s2, o, g, ?_⟩
      cases ef : ((es.find? fun q => PyData.eqv q.1 z).map (·.2)) with
      | none =>
        rw [ef] at h r
        cases o with
        | some _ => exact r.elim
        | none => exact h.int k
      | some d =>
        rw [ef] at h r
        cases o with
        | none => exact r.elim
        | some v' => exact h.ofR hm k r
    · exact h.elim
  · exact h.elim
theorem ss_fput {C f x y : Str} {fl : List Str} {i j : Nat} {e : Expr} {b : E} {p p2 p3 pos' pos : Pos} (hu : X.A.units + 64 < cLine) (CA : ClsA fa X.K C fl) (hf : f ∈ fl) (hN : X.N[i]? = some x) (hv : Vis X.env.scope x) (hd : (x == ("__debug__" : Str)) = false) (hcd : (x == ("__classdict__" : Str)) = false)
    (hN2 : X.N[j]? = some y) (hv2 : Vis X.env.scope y) (hd2 : (y == ("__debug__" : Str)) = false) (hcd2 : (y == ("__classdict__" : Str)) = false) (he : PE X e (tE fa ca cl W .v b))
    (hs : swapsWith e (some (.Subscript (.Attribute (.Name x p) f p2) (.Name y p3) pos')) pos.line X.env = pure false) :
    PS X (.Assign [.Subscript (.Attribute (.Name x p) f p2) (.Name y p3) pos'] e pos) (tS fa ca cl W w0 (.fput C i f j b)) := by
  obtain ⟨A, c1, c2, c3⟩ := CA.ex
  have h1 : PE X (.Attribute (.Name x p) f p2) _ := pe_fld (pos := p2) (pe_var (pos := p) hN hv hd hcd) rfl
  have h2 : PE X (.Name y p3) _ := pe_var (pos := p3) hN2 hv2 hd2 hcd2
  refine (ps_dput (pos := pos) (pos' := pos') (by omega) h1 h2 he hs).weak fun D σ H h => ?_
  obtain ⟨w, env, S, rfl, hi, h⟩ := h
  unfold exS at h
  refine ofE_bind hi h fun d S1 w1 v s1 i1 r1 h1 => ?_
  have r1' : R fa w1 d v := r1
  split at h1
  · rename_i x1 k1 t es e1 e2 e3
    obtain ⟨n, ob, x2, a, dx, fs, v', F⟩ := fieldI_at i1.ok i1.er c1 e3
    have eX : x1 = x2 := by
      have := e1.symm.trans F.sl
      cases this
      rfl
    subst eX
    simp only [F.ix] at h1
    split at h1
    · rename_i hq
      rw [Bool.and_eq_true] at hq
      obtain ⟨q, ev, dr, qF⟩ := F.rel
      subst ev
      obtain ⟨ov, s2, u, s3, ru⟩ := slot_at i1.er (slotD_some e2)
      subst s3
      have pz : ¬ w1.Z q := fun z => i1.ok.zf q z qF
      refine ⟨.ref a, F.at_, a, A, dx, fs, .ref q, rfl, F.ins, c2, c3 f hf, F.val, u, s2, q, ?_⟩
      rcases dr with ⟨rfl, kvs, a1, a2⟩ | ⟨rfl, kvs, a1, a2⟩
      · obtain ⟨k, rfl⟩ := isKey_of hq.2
        have eu := RB.key (.r ru)
        subst eu
        have ex : Ext w1 { w1 with H := upd w1.H q (.dK (putK kvs k v)) } := Ext.own pz fun us z => by rw [a1] at z; cases z
        obtain ⟨q1, q2⟩ := fmut_world (o := .dK (putK kvs k v)) (s' := .ownD false (putD es (kD k) d)) i1.ok F.obj F.adr F.ins F.fsr F.look rfl F.val qF (by rw [a1]; trivial) trivial ⟨q, rfl, .inl ⟨rfl, _, upd_same, (a2.put r1').mono ex⟩, qF⟩ rfl
        exact ⟨_, rfl, DPut.k a1 (by rw [← a2.length]; exact lim_lt hq.1), h1 _ σ q1 (i1.wrote (ps := []) rfl q2 q1 qF (fun ps e => by cases e) fun p hp => by cases hp)⟩
      · obtain ⟨k, rfl⟩ := hasKey_t hq.2
        cases ru with
        | @tup b vs _ hb rs =>
          have ev := rs.keys
          subst ev
          have ex : Ext w1 { w1 with H := upd w1.H q (.dT (putK kvs k v)) } := Ext.own pz fun us z => by rw [a1] at z; cases z
          obtain ⟨q1, q2⟩ := fmut_world (o := .dT (putK kvs k v)) (s' := .ownD true (putD es (.tuple (k.map kD)) d)) i1.ok F.obj F.adr F.ins F.fsr F.look rfl F.val qF (by rw [a1]; trivial) trivial ⟨q, rfl, .inr ⟨rfl, _, upd_same, (a2.put r1').mono ex⟩, qF⟩ rfl
          exact ⟨_, rfl, DPut.t a1 hb (by rw [← a2.length]; exact lim_lt hq.1), h1 _ σ q1 (i1.wrote (ps := []) rfl q2 q1 qF (fun ps e => by cases e) fun p hp => by cases hp)⟩
    · exact h1.elim
  · exact h1.elim
theorem ss_fdel {C f x y : Str} {fl : List Str} {i j : Nat} {p p2 p3 apos cpos pos : Pos} (hu : X.A.units + 64 < cLine) (CA : ClsA fa X.K C fl) (hf : f ∈ fl) (hN : X.N[i]? = some x) (hv : Vis X.env.scope x) (hd : (x == ("__debug__" : Str)) = false) (hcd : (x == ("__classdict__" : Str)) = false)
    (hN2 : X.N[j]? = some y) (hv2 : Vis X.env.scope y) (hd2 : (y == ("__debug__" : Str)) = false) (hcd2 : (y == ("__classdict__" : Str)) = false) (hl : (apos.endLine == cpos.line) = true) :
    PS X (.Expr (.Call (.Attribute (.Attribute (.Name x p) f p2) "pop" apos) [.Name y p3] [] cpos) pos) (tS fa ca cl W w0 (.fdel C i f j)) := by
  obtain ⟨A, c1, c2, c3⟩ := CA.ex
  have h1 : PE X (.Attribute (.Name x p) f p2) _ := pe_fld (pos := p2) (pe_var (pos := p) hN hv hd hcd) rfl
  have h2 : PE X (.Name y p3) _ := pe_var (pos := p3) hN2 hv2 hd2 hcd2
  refine (ps_expr (pos := pos) (pe_dpopT (by omega) h1 h2 ⟨rfl, rfl, hl, rfl⟩) rfl).weak fun D σ H h => ?_
  obtain ⟨w, env, S, rfl, hi, h⟩ := h
  unfold exS at h
  split at h
  · rename_i x1 k1 t es e1 e2 e3
    obtain ⟨n, ob, x2, a, dx, fs, v', F⟩ := fieldI_at hi.ok hi.er c1 e3
    have eX : x1 = x2 := by
      have := e1.symm.trans F.sl
      cases this
      rfl
    subst eX
    simp only [F.ix] at h
    split at h
    · rename_i hq
      rw [Bool.and_eq_true] at hq
      obtain ⟨hk, ha⟩ := hq
      obtain ⟨q, ev, dr, qF⟩ := F.rel
      subst ev
      obtain ⟨ov, s2, u, s3, ru⟩ := slot_at hi.er (slotD_some e2)
      subst s3
      have pz : ¬ w.Z q := fun z => hi.ok.zf q z qF
      refine ⟨.ref a, F.at_, a, A, dx, fs, .ref q, rfl, F.ins, c2, c3 f hf, F.val, q, rfl, dr.isD, u, s2, ?_⟩
      rcases dr with ⟨rfl, kvs, a1, a2⟩ | ⟨rfl, kvs, a1, a2⟩
      · obtain ⟨k, rfl⟩ := isKey_of hk
        have rv := a2.val k
        have eu := RB.key (.r ru)
        subst eu
        rw [find_any, rv.some_iff] at ha
        obtain ⟨v, ev⟩ := Option.isSome_iff_exists.mp ha
        have ex : Ext w { w with H := upd w.H q (.dK (dropK kvs k)) } := Ext.own pz fun us z => by rw [a1] at z; cases z
        obtain ⟨q1, q2⟩ := fmut_world (o := .dK (dropK kvs k)) (s' := .ownD false (es.filter fun p => !PyData.eqv p.1 (kD k))) hi.ok F.obj F.adr F.ins F.fsr F.look rfl F.val qF (by rw [a1]; trivial) trivial ⟨q, rfl, .inl ⟨rfl, _, upd_same, (a2.drop).mono ex⟩, qF⟩ rfl
        exact .inr ⟨kvs, k, v, a1, rfl, ev, h _ σ q1 (hi.wrote (ps := []) rfl q2 q1 qF (fun ps e => by cases e) fun p hp => by cases hp)⟩
      · obtain ⟨k, rfl⟩ := hasKey_t hk
        have rv := a2.val k
        cases ru with
        | @tup b vs _ hb rs =>
          have ev := rs.keys
          subst ev
          rw [find_any, rv.some_iff] at ha
          obtain ⟨v, ev⟩ := Option.isSome_iff_exists.mp ha
          have ex : Ext w { w with H := upd w.H q (.dT (dropK kvs k)) } := Ext.own pz fun us z => by rw [a1] at z; cases z
          obtain ⟨q1, q2⟩ := fmut_world (o := .dT (dropK kvs k)) (s' := .ownD true (es.filter fun p => !PyData.eqv p.1 (.tuple (k.map kD)))) hi.ok F.obj F.adr F.ins F.fsr F.look rfl F.val qF (by rw [a1]; trivial) trivial ⟨q, rfl, .inr ⟨rfl, _, upd_same, (a2.drop).mono ex⟩, qF⟩ rfl
          exact .inl ⟨kvs, k, b, v, a1, rfl, hb, ev, h _ σ q1 (hi.wrote (ps := []) rfl q2 q1 qF (fun ps e => by cases e) fun p hp => by cases hp)⟩
    · exact h.elim
  · exact h.elim
end
end Mini
/-! From Python's text to the evaluator's. -/
namespace Mini
open PySem L2
structure Cc where
  N : List Str
  sc : Scope
  fx : Str → Bool
  isF : Str → Bool
  cs : Str → Option D
  bl : Str → Bool
  ex : Str → Bool
  /-- an exception is handled around -/
  hot : Bool
  /-- lambdas are served -/
  tl : Bool
  /-- the class: its name, its fields, its methods -/
  cl : Option (Str × List Str × List Str)
def ixOf : List Str → Str → Option Nat
  | [], _ => none
  | y :: r, x => if y = x then some 0 else (ixOf r x).map (· + 1)
def kindB (sc : Scope) (x : Str) (k : NameKind) : Bool := decide (sc.names.lookup x = some k)
def visB (sc : Scope) (x : Str) : Bool := kindB sc x .local || kindB sc x .cell || kindB sc x .free
def locB (sc : Scope) (x : Str) : Bool := kindB sc x .local || kindB sc x .cell
def okName (x : Str) : Bool := !(x == ("__debug__" : Str)) && !(x == ("__classdict__" : Str))
def okGlob (x : Str) : Bool := !(x == ("__debug__" : Str)) && !(x == ("__name__" : Str))
/-- a global name that the program leaves to the built-ins -/
def gB (c : Cc) (x : Str) : Bool := kindB c.sc x .globalImplicit && c.bl x && okGlob x
def slot (c : Cc) (x : Str) : Option Nat := if visB c.sc x && okName x then ixOf c.N x else none
/-- a slot that may be set -/
def slotT (c : Cc) (x : Str) : Option Nat := if locB c.sc x && (c.fx x || kindB c.sc x .local) then ixOf c.N x else none
def slotsT (c : Cc) : List Expr → Option (List Nat)
  | [] => some []
  | .Name x _ :: r => (slotT c x).bind fun i => (slotsT c r).map (i :: ·)
  | _ :: _ => none
def cG (c : Cc) : Expr → Option Tg
  | .Name x _ => (slotT c x).map .nm
  | .Tuple es _ _ => if c.hot then none else (slotsT c es).map .tp
  | _ => none
def cName (c : Cc) (x : Str) : Option E := match slot c x with
  | some i => some (.var i)
  | none => if kindB c.sc x .globalImplicit && okGlob x then (c.cs x).map .cst else none
def bopF : Operator → Option Bop
  | .Add => some .add
  | .Sub => some .sub
  | .Mult => some .mul
  | .Mod => some .mod
  | .FloorDiv => some .fdiv
  | .Pow => some .pow
  | _ => none
def copF : CmpOp → Option Cop
  | .Eq => some .eq
  | .NotEq => some .ne
  | .Lt => some .lt
  | .LtE => some .le
  | .Gt => some .gt
  | .GtE => some .ge
  | .Is => some .isn
  | .IsNot => some .isnt
  | .In => some .inn
  | .NotIn => some .nin
def tyF (x : Str) : Option Ty := if x = ("int" : Str) then some .int else if x = ("bool" : Str) then some .bool else if x = ("str" : Str) then some .str else if x = ("tuple" : Str) then some .tuple else if x = ("list" : Str) then some .list else none
/-- built-ins of one argument -/
def prim1 (x : Str) : Option Prim := if x = ("len" : Str) then some .len else if x = ("sorted" : Str) then some .sorted else if x = ("tuple" : Str) then some .tuple else if x = ("all" : Str) then some .all
  else if x = ("any" : Str) then some .any else if x = ("sum" : Str) then some .sum else if x = ("abs" : Str) then some .abs else if x = ("int" : Str) then some .int else if x = ("list" : Str) then some .list else if x = ("min" : Str) then some .min else none
/-- dicts with tuples as keys -/
def tkN (x : Str) : Bool := ([("book" : Str), "since", "runs", "made", "spots"] : List Str).contains x
def prim2 (x : Str) : Option Prim := if x = ("min" : Str) then some .min2 else if x = ("max" : Str) then some .max2 else none
def relS (scope sc : Scope) : Scope := { scope with names := scope.names.map fun (n, k) => if (k == .free && sc.kind == .function && sc.names.lookup n == some .cell) then (n, .cell) else (n, k) }
def ownOf (N : List Str) : List (Str × NameKind) → List (Str × Nat)
  | [] => []
  | (x, k) :: r => match k, ixOf N x with
    | .local, some i => (x, i) :: ownOf N r
    | .cell, some i => (x, i) :: ownOf N r
    | _, _ => ownOf N r
def inC (c : Cc) (scope : Scope) : Cc := { c with sc := relS scope c.sc, fx := fun x => scope.names.lookup x == some .cell, tl := false }
/-- within a lambda -/
def lamC (c : Cc) (scope : Scope) : Cc := { c with sc := scope, fx := fun _ => false, tl := false }
def noPar (a : Arguments) : Bool := a.posonlyargs.isEmpty && a.args.isEmpty && a.vararg.isNone && a.kwonlyargs.isEmpty && a.kw_defaults.isEmpty && a.kwarg.isNone && a.defaults.isEmpty
/-- what is not an ordinary call -/
def spB (c : Cc) (f : Str) : Bool := (c.tl && f == ("_law_told" : Str)) || (match c.cl with
  | some (n, _, _) => f == n
  | none => false)
def isExc (c : Cc) (t : Str) : Bool := c.ex t || t == ("ValueError" : Str)
def noSet : Expr → Bool
  | .Set .. => false
  | _ => true
def plainI : Expr → Bool
  | .Slice .. => false
  | .Tuple .. => false
  | _ => true
def noStar : Expr → Bool
  | .Starred .. => false
  | _ => true
def map2 {α β γ : Type} (f : α → β → γ) (a : Option α) (b : Option β) : Option γ := match a, b with
  | some x, some y => some (f x y)
  | _, _ => none
def isT2 : Expr → Bool
  | .Tuple .. => true
  | _ => false
def tgsIn (t : Tg) (own : List (Str × Nat)) : Bool := (tgI t).all fun i => (own.map (·.2)).contains i
/-- an expression whose methods are looked up as they stand -/
def baseOk : Expr → Bool
  | .Constant .. => true
  | .Name .. => true
  | .Call _ (_ :: _) _ _ => true
  | _ => false
def meth0 (f : Str) : Option Prim := if f = ("upper" : Str) then some .upper else if f = ("lower" : Str) then some .lower else none
def lmeth (f : Str) : Option Prim := if f = ("count" : Str) then some .count else if f = ("index" : Str) then some .index else none
def meth1 (f : Str) : Option Prim := if f = ("join" : Str) then some .join else if f = ("split" : Str) then some .split else if f = ("count" : Str) then some .count else none
/-- fields that hold their own list or dict -/
def ownN (f : Str) : Bool := ([("past" : Str), "later", "since", "runs"] : List Str).contains f
def hasFld (c : Cc) (f : Str) : Bool := match c.cl with
  | some (_, fs, _) => fs.contains f
  | none => false
def hasMeth (c : Cc) (f : Str) : Bool := match c.cl with
  | some (_, _, ms) => ms.contains f
  | none => false
def clN (c : Cc) : Str := match c.cl with
  | some (n, _, _) => n
  | none => ""
/-- what speaks of objects -/
def objB (c : Cc) : Expr → Bool
  | .Attribute _ _ _ => c.cl.isSome
  | .Call (.Attribute (.Attribute (.Name _ _) f _) g _) [.Name _ _, .Constant (.int _) _ _] [] _ => hasFld c f && ownN f && g == ("get" : Str)
  | .Compare (.Name _ _) [.In] [.Attribute (.Name _ _) f _] _ => hasFld c f && ownN f
  | .Subscript (.Attribute (.Name _ _) f _) (.Name _ _) _ => hasFld c f && ownN f
  | .Call (.Attribute _ m _) _ [] _ => hasMeth c m
  | .Call (.Name _ _) [.Attribute (.Name _ _) f _] [] _ => hasFld c f && ownN f
  | .Compare (.Attribute (.Name _ _) f _) [.Eq] [.List [] _] _ => hasFld c f && ownN f
  | _ => false
mutual
def cE : Nat → Cc → Expr → Option E
  | 0, _, _ => none
  | n + 1, c, e => if objB c e then cOb n c e else match e with
    | .Name x _ => cName c x
    | .Constant k _ _ => (cD k).map .cst
    | .Tuple es _ _ => (cEs n c es).map .tup
    | .List es _ => (cEs n c es).map .lst
    | .BinOp a o b _ => (bopF o).bind fun o => map2 (.bin o) (cE n c a) (cE n c b)
    | .UnaryOp .USub a _ => (cE n c a).map .neg
    | .UnaryOp .Not a _ => (cE n c a).map .not_
    | .BoolOp o (x :: y :: r) _ => cB n c o (x :: y :: r)
    | .Compare a [o] [b] _ => if noSet b then (copF o).bind fun o => map2 (.cmp o) (cE n c a) (cE n c b) else none
    | .Compare a [o, o'] [b, d] _ => if noSet d then (copF o).bind fun o => (copF o').bind fun o' => (cE n c a).bind fun a => map2 (.chn o o' a) (cE n c b) (cE n c d) else none
    | .IfExp t a b _ => (cT n c t).bind fun t => map2 (.ite t) (cE n c a) (cE n c b)
    | .Subscript a (.Slice none none (some (.UnaryOp .USub (.Constant (.int 1) _ _) _)) _) _ => (cE n c a).map .rev
    | .Subscript a (.Slice lo hi none _) _ => (cE n c a).bind fun a => map2 (.cut a) (cO n c lo) (cO n c hi)
    | .Subscript a i _ => if plainI i then map2 .ix (cE n c a) (cE n c i) else none
    | .Call (.Name f _) args [] _ => if spB c f then cSp n c f args else
      if c.isF f then (if kindB c.sc f .globalImplicit && okGlob f && !args.isEmpty && !c.hot then (cEs n c args).map (.call f) else none) else
      if gB c f then (match args with
        | [.Call (.Name g _) [a] [] _] => if f = ("sorted" : Str) ∧ g = ("set" : Str) ∧ gB c g = true ∧ c.isF g = false ∧ c.hot = false then (cE n c a).map fun a => .prim .sortedSet (.cons a .nil)
          else if f = ("len" : Str) ∧ g = ("set" : Str) ∧ gB c g = true ∧ c.isF g = false ∧ c.hot = false then (cE n c a).map fun a => .prim .lenSet (.cons a .nil)
          else if c.hot then none else (prim1 f).bind fun p => (cEs n c args).map (.prim p)
        | [a, .Name t _] => if f = ("isinstance" : Str) then (if isExc c t then (if kindB c.sc t .globalImplicit && okGlob t && (c.ex t || c.bl t) then (cE n c a).map fun a => .prim (.isx t) (.cons a .nil) else none) else if gB c t then (tyF t).bind fun t => (cE n c a).map fun a => .prim (.isi t) (.cons a .nil) else none) else if c.hot then none else (prim2 f).bind fun p => (cEs n c args).map (.prim p)
        | [a, .Tuple [.Name t _, .Name u _] _ _] => if f = ("isinstance" : Str) ∧ gB c t = true ∧ gB c u = true ∧ ((t = ("list" : Str) ∧ u = ("tuple" : Str)) ∨ (t = ("tuple" : Str) ∧ u = ("list" : Str))) then (cE n c a).map fun a => .prim (.isi .lt) (.cons a .nil) else none
        | [_] => if c.hot then none else (prim1 f).bind fun p => (cEs n c args).map (.prim p)
        | [_, _] => if c.hot then none else (prim2 f).bind fun p => (cEs n c args).map (.prim p)
        | _ => none) else none
    | .Call (.Attribute o f ap) [] [] pos => if baseOk o && (ap.endLine == pos.line) then (meth0 f).bind fun p => (cE n c o).map (.sm0 p) else none
    | .Call (.Attribute o f ap) [.Constant (.bool k) _ _] [] pos => if baseOk o && (ap.endLine == pos.line) then (lmeth f).bind fun p => (cE n c o).map fun a => .lm1 p a k else none
    | .Call (.Attribute o f ap) [e] [] pos => if baseOk o && (ap.endLine == pos.line) then (meth1 f).bind fun p => map2 (.sm1 p) (cE n c o) (cE n c e) else none
    | .ListComp elt [⟨tg, iter, ifs, 0⟩] scope _ => if !c.hot && noSet iter && blkC c.N c.sc scope (ownOf c.N scope.names) then
        (cG (inC c scope) tg).bind fun t => if tgsIn t (ownOf c.N scope.names) then
          (cI n c tg iter).bind fun it => (cTs n (inC c scope) ifs).bind fun q => (cE n (inC c scope) elt).map fun e => .comp e t ((ownOf c.N scope.names).map (·.2)) it q
        else none
      else none
    | _ => none
def cSp : Nat → Cc → Str → List Expr → Option E
  | 0, _, _, _ => none
  | n + 1, c, f, args => if c.tl && f == ("_law_told" : Str) then (match args with
      | [.Lambda ps body scope _] => if noPar ps && LamX.lamSB c.sc scope && kindB c.sc f .globalImplicit && !c.hot then (cE n (lamC c scope) body).map .told else none
      | _ => none)
    else if c.cl.isSome && f == clN c && kindB c.sc f .globalImplicit && okGlob f && !args.isEmpty && !c.hot then (cEs n c args).map (.new (clN c)) else none
def cOb : Nat → Cc → Expr → Option E
  | 0, _, _ => none
  | n + 1, c, e => match e with
    | .Attribute o f _ => if hasFld c f && baseOk o then (cE n c o).map fun a => .fld (clN c) a f else none
    | .Call (.Attribute (.Attribute (.Name x _) f _) g ap) [.Name y _, .Constant (.int z) _ _] [] pos => if hasFld c f && g == ("get" : Str) && (ap.endLine == pos.line) then (slot c x).bind fun i => (slot c y).map fun j => .fGet (clN c) i f j (.int z) else none
    | .Compare (.Name y _) [.In] [.Attribute (.Name x _) f _] _ => if hasFld c f then (slot c x).bind fun i => (slot c y).map fun j => .fIn (clN c) j i f else none
    | .Subscript (.Attribute (.Name x _) f _) (.Name y _) _ => if hasFld c f then (slot c x).bind fun i => (slot c y).map fun j => .fIx (clN c) i f j else none
    | .Call (.Attribute o m ap) args [] pos => if hasMeth c m && baseOk o && (ap.endLine == pos.line) && decide (args.length < 20) && !c.hot then map2 (fun a b => .meth (clN c) a m b) (cE n c o) (cEs n c args) else none
    | .Call (.Name g _) [.Attribute (.Name x _) f _] [] _ => if hasFld c f && gB c g then (slot c x).bind fun i => if g = ("len" : Str) then some (.fLen (clN c) i f) else if g = ("list" : Str) ∧ c.hot = false then some (.fList (clN c) i f) else none else none
    | .Compare (.Attribute (.Name x _) f _) [.Eq] [.List [] _] _ => if hasFld c f then (slot c x).map fun i => .fNil (clN c) i f else none
    | _ => none
def cB : Nat → Cc → BoolOp → List Expr → Option E
  | 0, _, _, _ => none
  | n + 1, c, o, vs => match vs with
    | [] => none
    | [x] => cE n c x
    | x :: y :: r => match o with
      | .And => map2 .and_ (cE n c x) (cB n c o (y :: r))
      | .Or => map2 .or_ (cE n c x) (cB n c o (y :: r))
def cT : Nat → Cc → Expr → Option E
  | 0, _, _ => none
  | n + 1, c, e => match e with
    | .UnaryOp .Not a _ => (cT n c a).map .not_
    | .BoolOp o vs _ => cTB n c o vs
    | .IfExp .. => none
    | e => cE n c e
def cTB : Nat → Cc → BoolOp → List Expr → Option E
  | 0, _, _, _ => none
  | n + 1, c, o, vs => match vs with
    | [] => none
    | [x] => cT n c x
    | x :: y :: r => match o with
      | .And => map2 .and_ (cT n c x) (cTB n c o (y :: r))
      | .Or => map2 .or_ (cT n c x) (cTB n c o (y :: r))
def cTs : Nat → Cc → List Expr → Option E
  | 0, _, _ => none
  | n + 1, c, ifs => match ifs with
    | [] => some (.cst (.bool true))
    | [x] => cT n c x
    | _ => none
def cEs : Nat → Cc → List Expr → Option E
  | 0, _, _ => none
  | n + 1, c, es => match es with
    | [] => some .nil
    | e :: r => map2 .cons (cE n c e) (cEs n c r)
def cO : Nat → Cc → Option Expr → Option E
  | 0, _, _ => none
  | n + 1, c, o => match o with
    | none => some .nil
    | some e => (cE n c e).map fun a => .cons a .nil
def cI : Nat → Cc → Expr → Expr → Option E
  | 0, _, _, _ => none
  | n + 1, c, tg, e => match e with
    | .Call (.Name f _) args [] _ => if c.isF f then cE n c e else
      if f = ("range" : Str) then (if gB c f then (match args with
        | [a] => (cE n c a).map .rng1
        | [a, b] => map2 .rng2 (cE n c a) (cE n c b)
        | _ => none) else none)
      else if f = ("enumerate" : Str) then (if gB c f && isT2 tg then (match args with
        | [a] => (cE n c a).map .enm
        | _ => none) else none)
      else if f = ("zip" : Str) then (if gB c f && isT2 tg then (match args with
        | [a, b] => map2 .zip (cE n c a) (cE n c b)
        | _ => none) else none)
      else cE n c e
    | e => cE n c e
end
/-! ### what must be plain data before a statement -/
def vvE : Md → E → List Nat
  | _, .nil => []
  | m, .cons a r => vvE m a ++ vvE m r
  | m, .var i => match m with
    | .b => []
    | _ => [i]
  | _, .cst _ => []
  | _, .fn _ => []
  | _, .tup as => vvE .v as
  | _, .lst as => vvE .v as
  | _, .bin _ a b => vvE .b a ++ vvE .b b
  | _, .neg a => vvE .b a
  | _, .cmp _ a b => vvE .b a ++ vvE .b b
  | _, .chn _ _ a b c => vvE .b a ++ vvE .b b ++ vvE .b c
  | _, .and_ a b => vvE .b a ++ vvE .b b
  | _, .or_ a b => vvE .b a ++ vvE .b b
  | _, .not_ a => vvE .b a
  | m, .ite c a b => vvE .b c ++ vvE m a ++ vvE m b
  | _, .ix a i => vvE .b a ++ vvE .b i
  | _, .cut a l h => vvE .b a ++ vvE .b l ++ vvE .b h
  | _, .rev a => vvE .b a
  | _, .call _ as => vvE .v as
  | _, .callv f as => vvE .b f ++ vvE .v as
  | _, .prim _ as => vvE .b as
  | _, .rng1 a => vvE .b a
  | _, .rng2 a b => vvE .b a ++ vvE .b b
  | _, .rng3 a b c => vvE .b a ++ vvE .b b ++ vvE .b c
  | m, .enm a => vvE m a
  | m, .zip a b => vvE m a ++ vvE m b
  | _, .comp e _ own it c => (vvE .v e ++ vvE .b c).filter (fun i => !own.contains i) ++ vvE .b it
  | _, .dnew _ => []
  | _, .ddisp ks vs => vvE .v ks ++ vvE .v vs
  | _, .get2 d k x => vvE .b d ++ vvE .b k ++ vvE .v x
  | _, .sm0 _ a => vvE .b a
  | _, .sm1 _ a b => vvE .b a ++ vvE .b b
  | _, .lm1 _ a _ => vvE .b a
  | _, .told a => vvE .v a
  | _, .new _ as => vvE .v as
  | _, .meth _ o _ as => vvE .b o ++ vvE .v as
  | _, .fld _ o _ => vvE .b o
  | _, .fNil .. => []
  | _, .fLen .. => []
  | _, .fList .. => []
  | _, .fIn .. => []
  | _, .fIx .. => []
  | _, .fGet .. => []
def frzd (vs : List Nat) (c : C) : C := match vs with
  | [] => c
  | _ => .seq (.frz vs) c
def mdOf (e : E) : Md := if fresh e then .f else .v
def namesAt (sc : Scope) (line : Nat) : List Expr → List Str
  | [] => []
  | .Name x p :: r => if kindB sc x .local && p.line == line then x :: namesAt sc line r else namesAt sc line r
  | _ :: r => namesAt sc line r
def isStarred : Expr → Bool
  | .Starred .. => true
  | _ => false
/-- the names that a, b = x, y sets from behind -/
def swapF (sc : Scope) (ts vs : List Expr) : Option (Option (List Str)) :=
  if !(ts.length == 2 || ts.length == 3) || vs.length != ts.length then some none else
  if vs.any isStarred then none else
  let names := namesAt sc ((ts.head?.map (·.pos.line)).getD 0) ts
  if names.length != ts.length || names.eraseDups.length != names.length then some none else
  if vs.all (foldedForSure 8) then some none else
  if vs.all (constantsAlone 8) then none else some (some names)
def compSet (c : Cc) (e : Expr) (x : Str) (px : Pos) : Option Bool := match e with
  | .ListComp _ _ s pos => some (kindB c.sc x .local && px.line == pos.line && !(s.names.any fun (n, k) => n == x && (k == .local || k == .cell)))
  | .SetComp .. => none
  | .DictComp .. => none
  | _ => some false
def parC : List Nat → E → Option C
  | [i, j], .cons a (.cons b .nil) => if fresh a || fresh b then some (frzd (vvE (mdOf a) a ++ vvE (mdOf b) b) (.par2 i j a b)) else some (frzd (vvE .v (.cons a (.cons b .nil))) (.par [i, j] (.cons a (.cons b .nil))))
  | [i, j, l], .cons a (.cons b (.cons c .nil)) => if fresh a || fresh b || fresh c then some (frzd (vvE (mdOf a) a ++ vvE (mdOf b) b ++ vvE (mdOf c) c) (.par3 i j l a b c)) else some (frzd (vvE .v (.cons a (.cons b (.cons c .nil)))) (.par [i, j, l] (.cons a (.cons b (.cons c .nil)))))
  | _, _ => none
def noComp : Expr → Bool
  | .ListComp .. => false
  | .SetComp .. => false
  | .DictComp .. => false
  | _ => true
/-- a method on a name's own list -/
def cMeth (n : Nat) (c : Cc) (f : Str) (i : Nat) (args : List Expr) : Option C := match args with
  | [.Call (.Attribute (.Name y _) g ap) [e] [] cp] => if f = ("append" : Str) ∧ g = ("pop" : Str) ∧ (ap.endLine == cp.line) = true ∧ noStar e = true then map2 (fun l a => .appPop i l a) (slot c y) (cE n c e)
    else if f = ("append" : Str) then (cEs n c args).bind fun a => match a with
      | .cons a .nil => some (frzd (vvE .v a) (.app i a))
      | _ => none
    else if f = ("extend" : Str) then (cEs n c args).bind fun a => match a with
      | .cons a .nil => some (frzd (vvE .b a) (.ext i a))
      | _ => none
    else none
  | [e] => if f = ("append" : Str) then (cE n c e).map fun a => frzd (vvE .v a) (.app i a)
    else if f = ("extend" : Str) then (cE n c e).map fun a => frzd (vvE .b a) (.ext i a)
    else none
  | _ => none
def cAsg (n : Nat) (c : Cc) (x : Str) (px : Pos) (e : Expr) : Option C := match e with
  | .Call (.Attribute (.Name y _) g ap) args [] cp => if g = ("pop" : Str) ∧ (ap.endLine == cp.line) = true then (match args with
      | [] => map2 .popS (slotT c x) (slot c y)
      | [a] => (slotT c x).bind fun i => (slot c y).bind fun l => (cE n c a).map fun a => frzd (vvE .b a) (.popA i l a)
      | _ => none)
    else if hasMeth c g || g == ("split" : Str) then (slotT c x).bind fun i => (cE n c e).map fun a => frzd (vvE (mdOf a) a) (.set i a) else none
  | .Dict [] [] _ => (slotT c x).map fun i => .set i (.dnew (tkN x))
  | e => (compSet c e x px).bind fun b => if b then (slotT c x).bind fun i => (cE n c e).map fun a => frzd (vvE (mdOf a) a) (.set i a)
    else (slotT c x).bind fun i => (cE n c e).map fun a => frzd (vvE (mdOf a) a) (.set i a)
/-- statements that speak of objects -/
def objS (c : Cc) : Stmt → Bool
  | .Assign [.Attribute (.Name _ _) _ _] _ _ => c.cl.isSome
  | .Assign [.Tuple [.Name _ _, .Name _ _] _ _] (.Call (.Attribute (.Attribute (.Name _ _) f _) g _) [] [] _) _ => hasFld c f && g == ("pop" : Str)
  | .Assign [.Subscript (.Attribute (.Name _ _) f _) (.Name _ _) _] _ _ => hasFld c f && ownN f
  | .Expr (.Call (.Attribute (.Attribute (.Name _ _) f _) g _) [.Name _ _] [] _) _ => hasFld c f && g == ("pop" : Str)
  | .Expr (.Call (.Attribute (.Name _ _) m _) _ [] _) _ => hasMeth c m
  | .Expr (.Call (.Attribute (.Attribute (.Name _ _) f _) g _) [.Tuple [.Name _ _, .Attribute (.Name _ _) _ _] _ _] [] _) _ => hasFld c f && g == ("append" : Str)
  | _ => false
def cOs (n : Nat) (c : Cc) : Stmt → Option C
  | .Assign [.Attribute (.Name x _) f _] e _ => (match e with
    | .Dict [] [] _ => if hasFld c f then (slot c x).map fun i => .fset (clN c) i f (.dnew (tkN f)) else none
    | e => if hasFld c f && noComp e then (slot c x).bind fun i => (cE n c e).map fun a => frzd (vvE (mdOf a) a) (.fset (clN c) i f a) else none)
  | .Assign [.Tuple [.Name y q1, .Name z q2] _ _] (.Call (.Attribute (.Attribute (.Name x _) f _) g ap) [] [] cp) _ => if hasFld c f && g == ("pop" : Str) && (ap.endLine == cp.line) && !c.hot then
      (slot c x).bind fun i => (slotsT c [.Name y q1, .Name z q2]).bind fun is => (match is with
        | [k, l] => some (.fpop2 (clN c) k l i f)
        | _ => none) else none
  | .Assign [.Subscript (.Attribute (.Name x _) f _) (.Name y _) _] e _ => if hasFld c f && noComp e then (slot c x).bind fun i => (slot c y).bind fun j => (cE n c e).map fun a => frzd (vvE .v a) (.fput (clN c) i f j a) else none
  | .Expr (.Call (.Attribute (.Attribute (.Name x _) f _) g ap) [.Name y _] [] cp) _ => if hasFld c f && g == ("pop" : Str) && (ap.endLine == cp.line) then (slot c x).bind fun i => (slot c y).map fun j => .fdel (clN c) i f j else none
  | .Expr (.Call (.Attribute (.Name x p) m ap) args [] cp) _ => (cE n c (.Call (.Attribute (.Name x p) m ap) args [] cp)).map fun a => frzd (vvE .b a) (.ex a)
  | .Expr (.Call (.Attribute (.Attribute (.Name x _) f _) h ap) [.Tuple [.Name y _, .Attribute (.Name z _) g _] _ _] [] cp) _ => if hasFld c f && hasFld c g && h == ("append" : Str) && z == x && (ap.endLine == cp.line) then
      (slot c x).bind fun i => (slot c y).map fun j => .fapp (clN c) i f j g else none
  | _ => none
mutual
def cS : Nat → Cc → Stmt → Option C
  | 0, _, _ => none
  | n + 1, c, s => if objS c s then cOs n c s else match s with
    | .Pass _ => some .skip
    | .Break _ => some .brk
    | .Continue _ => some .cont
    | .Return none _ => some .retN
    | .Return (some e) _ => (cE n c e).map fun a => frzd (vvE .v a) (.ret a)
    | .If t a b _ => (cT n c t).bind fun t => map2 (fun a b => frzd (vvE .b t) (.ife t a b)) (cSs n c a) (cSs n c b)
    | .For tg it body [] _ => if !c.hot && noSet it then (cG c tg).bind fun t => (cI n c tg it).bind fun i => (cSs n c body).map fun b => frzd (vvE .v i) (.for_ t i b) else none
    | .While t body [] _ => (cT n c t).bind fun t => (cSs n c body).map fun b => .whl t b
    | .Expr (.Call (.Attribute (.Name x _) f ap) args [] cp) _ => if (ap.endLine == cp.line) = true then (slot c x).bind fun i => cMeth n c f i args else none
    | .Expr e _ => if noComp e then (cE n c e).map fun a => frzd (vvE .b a) (.ex a) else none
    | .Assign [.Name x px] e _ => cAsg n c x px e
    | .Assign [.Subscript (.Name x _) y _] e _ => if noComp e then (slot c x).bind fun i => map2 (fun a b => frzd (vvE .v a ++ vvE .v b) (.put i a b)) (cE n c y) (cE n c e) else none
    | .Assign [.Tuple ts _ _] e _ => if c.hot then none else (match e with
      | .Tuple vs _ _ => (swapF c.sc ts vs).bind fun o => (match o with
        | some _ => if (ts.length == 2 || ts.length == 3) then (slotsT c ts).bind fun is => if decide is.Nodup then (cEs n c vs).bind fun a => parC is a else none else none
        | none => (slotsT c ts).bind fun is => if is.length == 2 then (cEs n c vs).bind fun a => parC is a else (cE n c e).map fun a => frzd (vvE .v a) (.unp is a))
      | e => if noComp e then (slotsT c ts).bind fun is => (cE n c e).map fun a => frzd (vvE .v a) (.unp is a) else none)
    | .Raise (some (.Call (.Name x _) [.Constant (.str _) _ _] [] _)) none _ => if c.ex x && kindB c.sc x .globalImplicit && okGlob x && !c.hot then some (.rse x) else none
    | .Try body [.ExceptHandler (some (.Name x _)) (some n1) [.Assign [.Name y _] (.Name n2 _) _] _] [] [] _ => if c.ex x && kindB c.sc x .globalImplicit && okGlob x && !c.hot && n1 == n2 && kindB c.sc n1 .local && okName n1 then
        (ixOf c.N n1).bind fun i => (slotT c y).bind fun j => (cSs n c body).map fun b => .tryK b x i j else none
    | _ => none
def cSs : Nat → Cc → List Stmt → Option C
  | 0, _, _ => none
  | n + 1, c, ss => match ss with
    | [] => some .skip
    | s :: r => (cSs n c r).map (.seq ((cS n c s).getD .stuck))
end
end Mini
/-! The evaluator's text is sound: expressions. -/
namespace Mini
open PySem L2
structure ExcFact (X : Cx) (ca : CA) (x : Str) : Prop where
  ex : ∃ (C : Addr) (B newId initId : String) (bmB : List Value), ca x = some C ∧ ExcBaseFacts B newId initId bmB ∧ PySem.W.excIn X.K C bmB newId = true ∧ X.mg x = some (.ref C) ∧ PySem.W.keepIn X.K (.ref C) = true ∧ Raises X (.ref C)
/-- what is known of the class -/
structure ClsF (X : Cx) (fa : FA) (ca : CA) (T : Str → Option Fn) (n : Nat) (C : Str) (fs ms : List Str) : Prop where
  ex : ∃ A : Addr, fa.c C = some A ∧ X.mg C = some (.ref A) ∧ Cls X.K A ∧ (∀ f ∈ fs, NoAttr X.K A f) ∧
    (∃ f fd ps, Mk X.K A f ∧ FnOk X.prog X.w X.K X.mg X.base (L2.CX X.prog X.w) (4 * n) f fd ps (spF fa ca T n (mName C "__init__")) ∧ Binds X.K fd ps []) ∧
    ∀ m ∈ ms, ∃ f fd ps, Meth X.K A m f ∧ FnOk X.prog X.w X.K X.mg X.base (L2.CX X.prog X.w) (4 * n) f fd ps (spF fa ca T n (mName C m)) ∧ Binds X.K fd ps []
structure Good (fa : FA) (ca : CA) (T : Str → Option Fn) (n : Nat) (c : Cc) (X : Cx) : Prop where
  nn : X.N = c.N
  nd : X.N.Nodup
  sc : X.env.scope = c.sc
  fx : ∀ x, c.fx x = true → X.fn x = true
  calm : c.hot = false → X.calm = true
  rm : c.hot = false → Room (4 * n + 1) X.A
  un : X.A.units + 100 < cLine
  kf : KF fa X.K
  fns : ∀ f, c.isF f = true → FnFact X fa ca T n f
  csts : ∀ x d, c.cs x = some d → ∃ v u, X.mg x = some u ∧ RelV v u ∧ scalar d = true ∧ ∀ w, R fa w d v
  bls : ∀ x, c.bl x = true → X.mg x = none
  exs : ∀ x, c.ex x = true → ExcFact X ca x
  exi : ExcI fa X.K
  exm : ∀ x, c.ex x = true → ∃ C, X.mg x = some (.ref C) ∧ fa.x x = some C ∧ ∀ y D, fa.x y = some D → exSub y x = true → PySem.W.exmOne X.K (.ref D) (.ref C) = some true
  cax : ∀ c C, ca c = some C → fa.x c = some C
  cls : ∀ C fs ms, c.cl = some (C, fs, ms) → ClsF X fa ca T n C fs ms
  tol : c.tl = true → Room (4 * n + 3) X.A ∧ TolB fa X.prog X.w X.K X.mg X.base ∧ TolX fa X
variable {fa : FA} {ca : CA} {T : Str → Option Fn} {n : Nat}
theorem Good.blk {c : Cc} {X : Cx} (G : Good fa ca T n c X) (s : Shared) (H : Hp) (C : Addr) (cl : List (Str × Addr)) (fp : List Addr) (scope : Scope) : Good fa ca T n (inC c scope) (X.blk s H scope (compEnvC scope cl C X.env) fp) where
  nn := G.nn
  nd := G.nd
  sc := by
    show relabel scope X.env = relS scope c.sc
    rw [← G.sc]
    rfl
  fx := fun x h => h
  calm := G.calm
  rm := G.rm
  un := G.un
  kf := G.kf
  fns := fun f h => ⟨(G.fns f h).ex⟩
  csts := G.csts
  bls := G.bls
  exs := fun x h => ⟨(G.exs x h).ex⟩
  exi := G.exi
  exm := G.exm
  cax := G.cax
  cls := fun C fs ms h => ⟨(G.cls C fs ms h).ex⟩
  tol := fun h => (by cases h)
theorem map2_some {α β γ : Type} {f : α → β → γ} {a : Option α} {b : Option β} {z : γ} (h : map2 f a b = some z) : ∃ x y, a = some x ∧ b = some y ∧ z = f x y := by
  cases a with
  | none => cases h
  | some x =>
    cases b with
    | none => cases h
    | some y =>
      cases h
      exact ⟨x, y, rfl, rfl, rfl⟩
theorem omap_some {α β : Type} {f : α → β} {a : Option α} {z : β} (h : a.map f = some z) : ∃ x, a = some x ∧ z = f x := by
  cases a with
  | none => cases h
  | some x =>
    cases h
    exact ⟨x, rfl, rfl⟩
theorem obind_some {α β : Type} {f : α → Option β} {a : Option α} {z : β} (h : a.bind f = some z) : ∃ x, a = some x ∧ f x = some z := by
  cases a with
  | none => cases h
  | some x => exact ⟨x, rfl, h⟩
/-! ### names -/
theorem ixOf_some : ∀ {N : List Str} {x : Str} {i : Nat}, ixOf N x = some i → N[i]? = some x
  | [], _, _, h => by cases h
  | y :: r, x, i, h => by
    unfold ixOf at h
    split at h
    · rename_i e
      cases h
      rw [e]
      rfl
    · cases e : ixOf r x with
      | none =>
        rw [e] at h
        cases h
      | some j =>
        rw [e] at h
        cases h
        show (y :: r)[j + 1]? = some x
        rw [List.getElem?_cons_succ]
        exact ixOf_some e
theorem kindB_ok {sc : Scope} {x : Str} {k : NameKind} (h : kindB sc x k = true) : sc.names.lookup x = some k := of_decide_eq_true h
theorem visB_ok {sc : Scope} {x : Str} (h : visB sc x = true) : Vis sc x := by
  unfold visB at h
  rw [Bool.or_eq_true, Bool.or_eq_true] at h
  rcases h with (h | h) | h
  · exact .inl (kindB_ok h)
  · exact .inr (.inl (kindB_ok h))
  · exact .inr (.inr (kindB_ok h))
theorem locB_ok {sc : Scope} {x : Str} (h : locB sc x = true) : Loc sc x := by
  unfold locB at h
  rw [Bool.or_eq_true] at h
  rcases h with h | h
  · exact .inl (kindB_ok h)
  · exact .inr (kindB_ok h)
section
variable {c : Cc} {X : Cx} {W : WX} {m : Md}
theorem slot_ok {x : Str} {i : Nat} (G : Good fa ca T n c X) (h : slot c x = some i) : X.N[i]? = some x ∧ Vis X.env.scope x ∧ (x == ("__debug__" : Str)) = false ∧ (x == ("__classdict__" : Str)) = false := by
  unfold slot at h
  split at h
  · rename_i q
    rw [Bool.and_eq_true] at q
    have q2 := q.2
    unfold okName at q2
    rw [Bool.and_eq_true, Bool.not_eq_true', Bool.not_eq_true'] at q2
    rw [G.nn, G.sc]
    exact ⟨ixOf_some h, visB_ok q.1, q2.1, q2.2⟩
  · cases h
theorem slotT_ok {x : Str} {i : Nat} (G : Good fa ca T n c X) (h : slotT c x = some i) : X.N[i]? = some x ∧ Loc X.env.scope x ∧ (X.fn x = true ∨ X.env.scope.names.lookup x = some .local) := by
  unfold slotT at h
  split at h
  · rename_i q
    rw [Bool.and_eq_true, Bool.or_eq_true] at q
    rw [G.nn, G.sc]
    refine ⟨ixOf_some h, locB_ok q.1, ?_⟩
    rcases q.2 with q | q
    · exact .inl (G.fx x q)
    · exact .inr (kindB_ok q)
  · cases h
theorem glob_ok {x : Str} (G : Good fa ca T n c X) (h : kindB c.sc x .globalImplicit = true) : Gl X x := by
  show X.env.scope.names.lookup x = _
  rw [G.sc]
  exact kindB_ok h
theorem okGlob_ok {x : Str} (h : okGlob x = true) : (x == ("__debug__" : Str)) = false ∧ x ≠ "__name__" := by
  unfold okGlob at h
  rw [Bool.and_eq_true, Bool.not_eq_true', Bool.not_eq_true'] at h
  exact ⟨h.1, fun e => by rw [e] at h; exact absurd h.2 (by decide)⟩
theorem gB_ok {x : Str} (G : Good fa ca T n c X) (h : gB c x = true) : Gl X x ∧ X.mg x = none ∧ (x == ("__debug__" : Str)) = false ∧ x ≠ "__name__" := by
  unfold gB at h
  rw [Bool.and_eq_true, Bool.and_eq_true] at h
  exact ⟨glob_ok G h.1.1, G.bls x h.1.2, okGlob_ok h.2⟩
theorem pgs_ok (G : Good fa ca T n c X) : ∀ {es : List Expr} {is : List Nat}, slotsT c es = some is → PGs X es (gsT is) ∧ (∀ env, (assignEach es env).length = is.length) ∧ ∀ env, (assignEach es env).findIdx? (·.1) = none
  | [], is, h => by
    cases h
    exact ⟨pgs_nil, fun _ => rfl, fun _ => rfl⟩
  | e :: r, is, h => by
    cases e <;> first | cases h | skip
    rename_i x p
    unfold slotsT at h
    cases e1 : slotT c x with
    | none =>
      rw [e1] at h
      cases h
    | some i =>
      rw [e1] at h
      cases e2 : slotsT c r with
      | none =>
        rw [e2] at h
        cases h
      | some js =>
        rw [e2] at h
        cases h
        obtain ⟨h1, h2, h3⟩ := slotT_ok G e1
        obtain ⟨q1, q2, q3⟩ := pgs_ok G e2
        refine ⟨pgs_cons (pg_name (pos := p) G.nd h1 h2 h3) q1, fun env => ?_, fun env => ?_⟩
        · show (assignEach r env).length + 1 = js.length + 1
          rw [q2]
        · show List.findIdx? (·.1) ((false, assign (.Name x p) env) :: assignEach r env) = none
          rw [List.findIdx?_cons, q3]
          rfl
theorem hot_no {α : Type} {b : Bool} {o : Option α} {x : α} (h : (if b = true then none else o) = some x) : b = false ∧ o = some x := by
  cases b with
  | true => cases h
  | false => exact ⟨rfl, h⟩
theorem pg_ok {tg : Expr} {t : Tg} (G : Good fa ca T n c X) (h : cG c tg = some t) : PG X tg (gT X.K t) := by
  cases tg <;> first | cases h | skip
  · rename_i x p
    obtain ⟨i, e, rfl⟩ := omap_some (show (slotT c x).map .nm = some t from h)
    · obtain ⟨h1, h2, h3⟩ := slotT_ok G e
      exact pg_name (pos := p) G.nd h1 h2 h3
  · rename_i es k p
    obtain ⟨hh, h⟩ := hot_no (show (if c.hot = true then none else (slotsT c es).map .tp) = some t from h)
    obtain ⟨is, e, rfl⟩ := omap_some h
    · obtain ⟨q1, q2, q3⟩ := pgs_ok G e
      exact pg_tup (G.calm hh) q1 (q2 _) (q3 _)
/-! ### operators -/
theorem bin_ok {op : Operator} {o : Bop} (h : bopF op = some o) : ∃ r, OpR X (binaryOp op) r ∧ V2 fa ca r (binF o) := by
  cases op <;> first | cases h | skip
  · exact ⟨_, op_addX, v_add⟩
  · exact ⟨_, op_sub, v_sub⟩
  · exact ⟨_, op_mulX, v_mul⟩
  · exact ⟨_, op_mod, v_mod⟩
  · exact ⟨_, op_pow, v_pow⟩
  · exact ⟨_, op_fdiv, v_fdiv⟩
theorem cmp_ok {op : CmpOp} {o : Cop} (hK : KF fa X.K) (hu : X.A.units + 100 < cLine) (h : copF op = some o) : ∃ r, OpR X (compareOp op) r ∧ V2 fa ca r (fun x y => (cmpF o x y).map .bool) := by
  cases op <;> cases h
  · exact ⟨_, op_eqX (by omega), v_eq hK⟩
  · exact ⟨_, op_neD (by omega), v_ne⟩
  · exact ⟨_, op_ltX (by omega), v_ord fun _ _ => rfl⟩
  · exact ⟨_, op_leX (by omega), v_ord fun _ _ => rfl⟩
  · exact ⟨_, op_gtX (by omega), v_ord fun _ _ => rfl⟩
  · exact ⟨_, op_geX (by omega), v_ord fun _ _ => rfl⟩
  · exact ⟨_, op_isX, v_is⟩
  · exact ⟨_, op_notX, v_isnt⟩
  · exact ⟨_, op_inY (by omega), v_in⟩
  · exact ⟨_, op_ninY (by omega), v_nin⟩
theorem noSet_mark {e : Expr} {op : CmpOp} (h : noSet e = true) : behindInMarks op e = false := by
  cases e <;> first | rfl | cases h
theorem noSet_fold {e : Expr} {env : PySem.Env} {x : Value} (h : noSet e = true) : foldedSetIterable e env x = pure x := by
  cases e <;> first | rfl | cases h
theorem plainI_ok {e : Expr} (h : plainI e = true) : PlainIx e := by
  intro o i
  cases e <;> first | rfl | cases h
theorem star_ok {e : Expr} (h : noStar e = true) (rest : List Expr) (env : PySem.Env) : starEach (e :: rest) env = (false, eval e env) :: starEach rest env := by
  cases e <;> first | rfl | cases h
theorem cE_star {k : Nat} {e : Expr} {ir : E} (h : cE k c e = some ir) : noStar e = true := by
  cases k with
  | zero => cases h
  | succ k => cases e <;> first | rfl | cases h
theorem any_backTo {pos : Pos} {env : PySem.Env} : ∀ {es : List Expr}, (∀ e ∈ es, noStar e = true) → (backTo pos (starEach es env)).any (·.1) = false
  | [], _ => rfl
  | e :: r, h => by
    rw [star_ok (h e List.mem_cons_self)]
    exact any_backTo fun e he => h e (List.mem_cons_of_mem _ he)
theorem cEs_star : ∀ {k : Nat} {es : List Expr} {ir : E}, cEs k c es = some ir → ∀ e ∈ es, noStar e = true
  | 0, _, _, h => by cases h
  | k + 1, [], _, _ => fun e he => by cases he
  | k + 1, e :: r, ir, h => by
    obtain ⟨a, b, e1, e2, rfl⟩ := map2_some (show map2 .cons (cE k c e) (cEs k c r) = some ir from h)
    intro x hx
    rcases List.mem_cons.mp hx with rfl | hx
    · exact cE_star e1
    · exact cEs_star e2 x hx
/-! ### built-ins -/
def PrimOk (fa : FA) (ca : CA) (X : Cx) (f : Str) (p : Prim) : Prop := (∃ id r, CallR X (.builtin id) r ∧ VP fa ca r p ∧ bootBuiltins f = some (.builtin id)) ∨ ∃ id r, CallR X (.type id) r ∧ VP fa ca r p ∧ bootBuiltins f = some (.type id)
theorem prim1_ok {f : Str} {p : Prim} (hK : KF fa X.K) (hc : X.calm = true) (hu : X.A.units + 100 < cLine) (h : prim1 f = some p) : PrimOk fa ca X f p := by
  unfold prim1 at h
  split at h
  · rename_i e; subst e; cases h; exact .inl ⟨_, _, cr_lenX, v_len hK, PySem.boot_len⟩
  split at h
  · rename_i e; subst e; cases h; exact .inl ⟨_, _, cr_sortD hu, v_sorted, PyProof.Rows.boot_sorted⟩
  split at h
  · rename_i e; subst e; cases h; exact .inr ⟨_, _, call_tuple_of, v_tuple, PyProof.Rows.boot_tuple⟩
  split at h
  · rename_i e; subst e; cases h; exact .inl ⟨_, _, cr_all hc, v_all, PyProof.Rows.boot_all⟩
  split at h
  · rename_i e; subst e; cases h; exact .inl ⟨_, _, cr_any hc, v_any, PyProof.Rows.boot_any⟩
  split at h
  · rename_i e; subst e; cases h; exact .inl ⟨_, _, cr_sum hc, v_sum, PyProof.Rows.boot_sum⟩
  split at h
  · rename_i e; subst e; cases h; exact .inl ⟨_, _, call_abs, v_abs, PyProof.Rows.boot_abs⟩
  split at h
  · rename_i e; subst e; cases h; exact .inr ⟨_, _, call_int1, v_int, PyProof.Rows.boot_int⟩
  split at h
  · rename_i e; subst e; cases h; exact .inr ⟨_, _, cr_listX hc, v_list, by decide +kernel⟩
  split at h
  · rename_i e; subst e; cases h; exact .inl ⟨_, _, cr_minD hc hu, v_min, PyProof.Rows.boot_min⟩
  cases h
theorem prim2_ok {f : Str} {p : Prim} (hc : X.calm = true) (h : prim2 f = some p) : PrimOk fa ca X f p := by
  unfold prim2 at h
  split at h
  · rename_i e; subst e; cases h; exact .inl ⟨_, _, call_min2 hc, v_min2, PyProof.Rows.boot_min⟩
  split at h
  · rename_i e; subst e; cases h; exact .inl ⟨_, _, call_max2 hc, v_max2, PyProof.Rows.boot_max⟩
  cases h
theorem se_prim {cl : Calls} {f : Str} {p : Prim} {as : E} {e : Expr} {es : List Expr} {q pos : Pos} (P : PrimOk fa ca X f p) (G : Good fa ca T n c X) (hg : gB c f = true) (hs : ∀ x ∈ e :: es, noStar x = true) (hm : m = .f → fresh (.prim p as) = true)
    (h : PA X (e :: es) (tA fa ca cl W .b as)) : PE X (.Call (.Name f q) (e :: es) [] pos) (tE fa ca cl W m (.prim p as)) := by
  obtain ⟨g1, g2, g3, g4⟩ := gB_ok G hg
  have s1 : ∀ env, starEach (e :: es) env = (false, eval e env) :: starEach es env := star_ok (hs e List.mem_cons_self) es
  have s2 : (backTo pos (starEach es X.env)).any (·.1) = false := any_backTo fun x hx => hs x (List.mem_cons_of_mem _ hx)
  rcases P with ⟨id, r, h1, h2, h3⟩ | ⟨id, r, h1, h2, h3⟩
  · exact se_primB h1 h2 hm g1 g2 h3 g4 g3 s1 s2 h
  · exact se_primT h1 h2 hm g1 g2 h3 g4 g3 s1 s2 h
theorem tyF_ok {x : Str} {t : Ty} (h : tyF x = some t) : t ≠ .lt ∧ t ≠ .dict ∧ x = Str.ofString (tyS t) := by
  unfold tyF at h
  split at h
  · rename_i e; subst e; cases h; exact ⟨by decide, by decide, rfl⟩
  split at h
  · rename_i e; subst e; cases h; exact ⟨by decide, by decide, rfl⟩
  split at h
  · rename_i e; subst e; cases h; exact ⟨by decide, by decide, rfl⟩
  split at h
  · rename_i e; subst e; cases h; exact ⟨by decide, by decide, rfl⟩
  split at h
  · rename_i e; subst e; cases h; exact ⟨by decide, by decide, rfl⟩
  cases h
end
/-! ### all expressions -/
section
variable (fa ca T n)
structure Snd (k : Nat) : Prop where
  e : ∀ {c e ir X W m}, Good fa ca T n c X → Takes X W → cE k c e = some ir → (m = .f → fresh ir = true) → PE X e (tE fa ca (callF T n) W m ir)
  tc : ∀ {c a ops cs pos ir X W}, Good fa ca T n c X → Takes X W → cE k c (.Compare a ops cs pos) = some ir → PT X (.Compare a ops cs pos) (tT fa ca (callF T n) W ir)
  ob : ∀ {c e ir X W m}, Good fa ca T n c X → Takes X W → cOb k c e = some ir → (m = .f → fresh ir = true) → PE X e (tE fa ca (callF T n) W m ir)
  obt : ∀ {c a ops cs pos ir X W}, Good fa ca T n c X → Takes X W → cOb k c (.Compare a ops cs pos) = some ir → PT X (.Compare a ops cs pos) (tT fa ca (callF T n) W ir)
  sp : ∀ {c f args ir X W m q pos}, Good fa ca T n c X → Takes X W → spB c f = true → cSp k c f args = some ir → m ≠ .f → PE X (.Call (.Name f q) args [] pos) (tE fa ca (callF T n) W m ir)
  b : ∀ {c o vs ir X W m pos}, Good fa ca T n c X → Takes X W → cB k c o vs = some ir → m ≠ .f → PE X (.BoolOp o vs pos) (tE fa ca (callF T n) W m ir)
  t : ∀ {c e ir X W}, Good fa ca T n c X → Takes X W → cT k c e = some ir → PT X e (tT fa ca (callF T n) W ir)
  tb : ∀ {c o vs ir X W pos}, Good fa ca T n c X → Takes X W → cTB k c o vs = some ir → PW X (.BoolOp o vs pos) (tT fa ca (callF T n) W ir)
  ts : ∀ {c ifs ir X W}, Good fa ca T n c X → Takes X W → cTs k c ifs = some ir → PTs X ifs (tT fa ca (callF T n) W ir)
  es : ∀ {c es ir X W m}, Good fa ca T n c X → Takes X W → cEs k c es = some ir → m ≠ .f → PA X es (tA fa ca (callF T n) W m ir)
  o : ∀ {c o ir X W}, Good fa ca T n c X → Takes X W → cO k c o = some ir → PO X o (tO fa ca (callF T n) W ir)
  i : ∀ {c tg e ir X W m}, Good fa ca T n c X → Takes X W → cI k c tg e = some ir → m ≠ .f → PI X tg e (tI fa ca (callF T n) W m ir)
end
theorem not_f {m : Md} {ir : E} (h : m = .f → fresh ir = true) (hf : fresh ir = false) : m ≠ .f := fun e => by
  rw [h e] at hf
  cases hf
theorem b_f : Md.b ≠ Md.f := by decide
theorem v_f : Md.v ≠ Md.f := by decide
theorem pe_one {X : Cx} {o : BoolOp} {x : Expr} {t : TE} {pos : Pos} (h : PE X x t) : PE X (.BoolOp o [x] pos) t := ⟨fun pins s σ H Q I q => h.run pins s σ H Q I q⟩
end Mini
/-! The evaluator's text is sound: all expressions. -/
namespace Mini
open PySem L2
variable {fa : FA} {ca : CA} {T : Str → Option Fn} {n : Nat}
theorem snd_b {k : Nat} (S : Snd fa ca T n k) {c : Cc} {o : BoolOp} {vs : List Expr} {ir : E} {X : Cx} {W : WX} {m : Md} {pos : Pos} (G : Good fa ca T n c X) (tk : Takes X W) (h : cB (k + 1) c o vs = some ir) (hm : m ≠ .f) : PE X (.BoolOp o vs pos) (tE fa ca (callF T n) W m ir) := by
  match vs, h with
  | [x], h => exact pe_one (S.e G tk (show cE k c x = some ir from h) fun e => absurd e hm)
  | x :: y :: r, h =>
    cases o with
    | And =>
      obtain ⟨a, b, e1, e2, rfl⟩ := map2_some (show map2 .and_ (cE k c x) (cB k c .And (y :: r)) = some ir from h)
      exact se_and (S.e G tk e1 fun e => absurd e b_f) (S.b G tk e2 b_f)
    | Or =>
      obtain ⟨a, b, e1, e2, rfl⟩ := map2_some (show map2 .or_ (cE k c x) (cB k c .Or (y :: r)) = some ir from h)
      exact se_or (S.e G tk e1 fun e => absurd e b_f) (S.b G tk e2 b_f)
theorem snd_tb {k : Nat} (S : Snd fa ca T n k) {c : Cc} {o : BoolOp} {vs : List Expr} {ir : E} {X : Cx} {W : WX} {pos : Pos} (G : Good fa ca T n c X) (tk : Takes X W) (h : cTB (k + 1) c o vs = some ir) : PW X (.BoolOp o vs pos) (tT fa ca (callF T n) W ir) := by
  match vs, h with
  | [x], h =>
    have q := S.t G tk (show cT k c x = some ir from h)
    cases o with
    | And => exact pw_and1 q
    | Or => exact pw_or1 q
  | x :: y :: r, h =>
    cases o with
    | And =>
      obtain ⟨a, b, e1, e2, rfl⟩ := map2_some (show map2 .and_ (cT k c x) (cTB k c .And (y :: r)) = some ir from h)
      exact sw_and (S.t G tk e1) (S.tb G tk e2)
    | Or =>
      obtain ⟨a, b, e1, e2, rfl⟩ := map2_some (show map2 .or_ (cT k c x) (cTB k c .Or (y :: r)) = some ir from h)
      exact sw_or (S.t G tk e1) (S.tb G tk e2)
theorem snd_ts {k : Nat} (S : Snd fa ca T n k) {c : Cc} {ifs : List Expr} {ir : E} {X : Cx} {W : WX} (G : Good fa ca T n c X) (tk : Takes X W) (h : cTs (k + 1) c ifs = some ir) : PTs X ifs (tT fa ca (callF T n) W ir) := by
  match ifs, h with
  | [], h =>
    cases h
    refine ⟨fun pins s σ H Q I q => pts_nil.run pins s σ H Q I ?_⟩
    obtain ⟨w, env, S1, rfl, k1, he, b, e, q⟩ := q
    cases e
    exact q w (Step.refl w) k1
  | [x], h => exact pts_one (S.t G tk (show cT k c x = some ir from h))
theorem snd_es {k : Nat} (S : Snd fa ca T n k) {c : Cc} {es : List Expr} {ir : E} {X : Cx} {W : WX} {m : Md} (G : Good fa ca T n c X) (tk : Takes X W) (h : cEs (k + 1) c es = some ir) (hm : m ≠ .f) : PA X es (tA fa ca (callF T n) W m ir) := by
  match es, h with
  | [], h =>
    cases h
    exact sa_nil hm
  | e :: r, h =>
    obtain ⟨a, b, e1, e2, rfl⟩ := map2_some (show map2 .cons (cE k c e) (cEs k c r) = some ir from h)
    exact sa_cons hm (star_ok (cE_star e1) r) (S.e G tk e1 fun e => absurd e hm) (S.es G tk e2 hm)
theorem snd_o {k : Nat} (S : Snd fa ca T n k) {c : Cc} {o : Option Expr} {ir : E} {X : Cx} {W : WX} (G : Good fa ca T n c X) (tk : Takes X W) (h : cO (k + 1) c o = some ir) : PO X o (tO fa ca (callF T n) W ir) := by
  match o, h with
  | none, h =>
    cases h
    exact so_none
  | some e, h =>
    obtain ⟨a, e1, rfl⟩ := omap_some (show (cE k c e).map (fun a => E.cons a .nil) = some ir from h)
    exact so_some (S.e G tk e1 fun e => absurd e b_f)
theorem isT2_ok {tg : Expr} (h : isT2 tg = true) : ∃ es k p, tg = .Tuple es k p := by
  cases tg <;> first | exact ⟨_, _, _, rfl⟩ | cases h
theorem star1 {e : Expr} (h : noStar e = true) (env : PySem.Env) : starEach [e] env = [(false, eval e env)] := star_ok h [] env
theorem star2 {e f : Expr} (h : noStar e = true) (h' : noStar f = true) (env : PySem.Env) : starEach [e, f] env = [(false, eval e env), (false, eval f env)] := by rw [star_ok h, star1 h']
theorem snd_i {k : Nat} (S : Snd fa ca T n k) {c : Cc} {tg e : Expr} {ir : E} {X : Cx} {W : WX} {m : Md} (G : Good fa ca T n c X) (tk : Takes X W) (h : cI (k + 1) c tg e = some ir) (hm : m ≠ .f) : PI X tg e (tI fa ca (callF T n) W m ir) := by
  have plain : cE k c e = some ir → PI X tg e (tI fa ca (callF T n) W m ir) := fun h => si_val hm (S.e G tk h fun e => absurd e hm)
  unfold cI at h
  split at h
  · rename_i f q args pos
    split at h
    · exact plain h
    · rename_i hF
      split at h
      · rename_i ef
        subst ef
        split at h
        · rename_i hg
          obtain ⟨g1, g2, g3, g4⟩ := gB_ok G hg
          split at h
          · obtain ⟨a, e1, rfl⟩ := omap_some h
            exact si_range1 g1 g2 (star1 (cE_star e1)) (S.e G tk e1 fun e => absurd e b_f)
          · obtain ⟨a, b, e1, e2, rfl⟩ := map2_some h
            exact si_range2 g1 g2 (star2 (cE_star e1) (cE_star e2)) (star1 (cE_star e2)) (S.e G tk e1 fun e => absurd e b_f) (S.e G tk e2 fun e => absurd e b_f)
          · cases h
        · cases h
      · split at h
        · rename_i ef
          subst ef
          split at h
          · rename_i hg
            rw [Bool.and_eq_true] at hg
            obtain ⟨g1, g2, g3, g4⟩ := gB_ok G hg.1
            obtain ⟨es, kk, p, rfl⟩ := isT2_ok hg.2
            split at h
            · obtain ⟨a, e1, rfl⟩ := omap_some h
              exact si_enum hm g1 g2 (star1 (cE_star e1)) (S.e G tk e1 fun e => absurd e hm)
            · cases h
          · cases h
        · split at h
          · rename_i ef
            subst ef
            split at h
            · rename_i hg
              rw [Bool.and_eq_true] at hg
              obtain ⟨g1, g2, g3, g4⟩ := gB_ok G hg.1
              obtain ⟨es, kk, p, rfl⟩ := isT2_ok hg.2
              split at h
              · obtain ⟨a, b, e1, e2, rfl⟩ := map2_some h
                exact si_zip hm g1 g2 (star_ok (cE_star e1) _) (star1 (cE_star e2)) (any_backTo fun x hx => by rw [List.mem_singleton.mp hx]; exact cE_star e2) (S.e G tk e1 fun e => absurd e hm) (S.e G tk e2 fun e => absurd e hm)
              · cases h
            · cases h
          · exact plain h
  · exact plain h
theorem snd_name {c : Cc} {x : Str} {ir : E} {X : Cx} {W : WX} {m : Md} {pos : Pos} {cl : Calls} (G : Good fa ca T n c X) (h : cName c x = some ir) (hm : m = .f → fresh ir = true) : PE X (.Name x pos) (tE fa ca cl W m ir) := by
  unfold cName at h
  cases e : slot c x with
  | some i =>
    rw [e] at h
    cases h
    obtain ⟨h1, h2, h3, h4⟩ := slot_ok G e
    exact se_var h1 h2 h3 h4 (not_f hm rfl)
  | none =>
    rw [e] at h
    have h : (if kindB c.sc x .globalImplicit && okGlob x then (c.cs x).map E.cst else none) = some ir := h
    split at h
    · rename_i q
      rw [Bool.and_eq_true] at q
      obtain ⟨d, ed, rfl⟩ := omap_some h
      obtain ⟨v, u, h1, h2, h3, h4⟩ := G.csts x d ed
      exact (pe_glob (pos := pos) (glob_ok G q.1) h1 h2 (okGlob_ok q.2).1).weak fun σ H Q h => tE_c h3 h4 h
    · cases h
theorem cSp_fresh {k : Nat} {c : Cc} {f : Str} {args : List Expr} {ir : E} (h : cSp (k + 1) c f args = some ir) : fresh ir = false := by
  unfold cSp at h
  split at h
  · split at h
    · split at h
      · obtain ⟨a, _, rfl⟩ := omap_some h
        rfl
      · cases h
    · cases h
  · split at h
    · obtain ⟨a, _, rfl⟩ := omap_some h
      rfl
    · cases h
theorem hasFld_ok {c : Cc} {f : Str} (h : hasFld c f = true) : ∃ fs ms, c.cl = some (clN c, fs, ms) ∧ f ∈ fs := by
  unfold hasFld at h
  unfold clN
  split at h
  · rename_i n fs ms e
    rw [e]
    exact ⟨fs, ms, rfl, List.contains_iff_mem.mp h⟩
  · cases h
theorem hasMeth_ok {c : Cc} {f : Str} (h : hasMeth c f = true) : ∃ fs ms, c.cl = some (clN c, fs, ms) ∧ f ∈ ms := by
  unfold hasMeth at h
  unfold clN
  split at h
  · rename_i n fs ms e
    rw [e]
    exact ⟨fs, ms, rfl, List.contains_iff_mem.mp h⟩
  · cases h
theorem Good.fld {c : Cc} {X : Cx} {f : Str} (G : Good fa ca T n c X) (h : hasFld c f = true) : ∃ fs, ClsA fa X.K (clN c) fs ∧ f ∈ fs := by
  obtain ⟨fs, ms, e, hf⟩ := hasFld_ok h
  obtain ⟨A, h1, h2, h3, h4, h5, h6⟩ := (G.cls _ _ _ e).ex
  exact ⟨fs, ⟨A, h1, h3, h4⟩, hf⟩
theorem Good.mth {c : Cc} {X : Cx} {f : Str} (G : Good fa ca T n c X) (h : hasMeth c f = true) : MthF X fa ca T n (clN c) f := by
  obtain ⟨fs, ms, e, hf⟩ := hasMeth_ok h
  obtain ⟨A, h1, h2, h3, h4, h5, h6⟩ := (G.cls _ _ _ e).ex
  obtain ⟨g, fd, ps, g1, g2, g3⟩ := h6 f hf
  exact ⟨A, g, fd, ps, h1, h3, g1, g2, g3⟩
theorem Good.mak {c : Cc} {X : Cx} (G : Good fa ca T n c X) (h : c.cl.isSome = true) : MakF X fa ca T n (clN c) := by
  have : ∃ fs ms, c.cl = some (clN c, fs, ms) := by
    unfold clN
    cases e : c.cl with
    | none =>
      rw [e] at h
      cases h
    | some p => exact ⟨p.2.1, p.2.2, rfl⟩
  obtain ⟨fs, ms, e⟩ := this
  obtain ⟨A, h1, h2, h3, h4, ⟨g, fd, ps, g1, g2, g3⟩, h6⟩ := (G.cls _ _ _ e).ex
  exact ⟨A, g, fd, ps, h1, h2, g1, g2, g3⟩
theorem Good.lam {c : Cc} {X : Cx} (G : Good fa ca T n c X) {A : Around} {outer : List PySem.Env} {s : Shared} {H : Hp} {E : XK} {scope : Scope} {f c' : Addr} (hr : Room (4 * n + 1) (A.deeper (LamX.lamEnv X scope s.heap.objs.size f c'))) :
    Good fa ca T n (lamC c scope) (LamX.lamCx X A outer s H E scope f c') where
  nn := G.nn
  nd := G.nd
  sc := rfl
  fx := fun x h => (by cases h)
  calm := fun _ => rfl
  rm := fun _ => hr
  un := by
    have := hr.un
    show (A.deeper (LamX.lamEnv X scope s.heap.objs.size f c')).units + 100 < cLine
    omega
  kf := G.kf
  fns := fun f h => ⟨(G.fns f h).ex⟩
  csts := G.csts
  bls := G.bls
  exs := fun x h => by
    obtain ⟨C, B, newId, initId, bmB, x1, x2, x3, x4, x5, x6⟩ := (G.exs x h).ex
    exact ⟨C, B, newId, initId, bmB, x1, x2, x3, x4, x5, x6⟩
  exi := G.exi
  exm := G.exm
  cax := G.cax
  cls := fun C fs ms h => ⟨(G.cls C fs ms h).ex⟩
  tol := fun h => (by cases h)
theorem noPar_ok {a : Arguments} (h : noPar a = true) (env : PySem.Env) : defaultsOf a env = ([], []) ∧ ∀ (body : Expr) (scope : Scope) (q : Str) (cl : List (Str × Addr)) (pm cv ctv : Value), bindArgs (PySem.W.kla_fn "<lambda>" q a body scope cl pm cv ctv) ⟨[], []⟩ = pure [] := by
  obtain ⟨a1, a2, a3, a4, a5, a6, a7⟩ := a
  unfold noPar at h
  simp only [Bool.and_eq_true, List.isEmpty_iff, Option.isNone_iff_eq_none] at h
  obtain ⟨⟨⟨⟨⟨⟨rfl, rfl⟩, rfl⟩, rfl⟩, rfl⟩, rfl⟩, rfl⟩ := h
  exact ⟨rfl, fun _ _ _ _ _ _ _ => rfl⟩
theorem snd_sp {k : Nat} (S : Snd fa ca T n k) {c : Cc} {f : Str} {args : List Expr} {ir : E} {X : Cx} {W : WX} {m : Md} {q pos : Pos} (G : Good fa ca T n c X) (tk : Takes X W) (hsp : spB c f = true) (h : cSp (k + 1) c f args = some ir) (hm : m ≠ .f) : PE X (.Call (.Name f q) args [] pos) (tE fa ca (callF T n) W m ir) := by
  unfold cSp at h
  split at h
  · rename_i hq
    rw [Bool.and_eq_true, beq_iff_eq] at hq
    obtain ⟨ht, rfl⟩ := hq
    split at h
    · rename_i ps body scope lpos
      split at h
      · rename_i hq
        rw [Bool.and_eq_true, Bool.and_eq_true, Bool.and_eq_true] at hq
        obtain ⟨a, e1, rfl⟩ := omap_some h
        obtain ⟨r1, r2, r3⟩ := G.tol ht
        obtain ⟨d1, d2⟩ := noPar_ok hq.1.1.1 X.env
        refine se_told (k := 4 * n + 1) hm r2 r3 G.cax (glob_ok G hq.1.2) r1 (LamX.lamS_by (by rw [G.sc]; exact hq.1.1.2)) d1 (d2 body scope) fun A outer s H E f c' hr => ?_
        exact S.e (G.lam hr) (takes_of rfl rfl rfl rfl) e1 fun e => absurd e v_f
      · cases h
    · cases h
  · split at h
    · rename_i hq
      rw [Bool.and_eq_true, Bool.and_eq_true, Bool.and_eq_true, Bool.and_eq_true, Bool.and_eq_true, beq_iff_eq] at hq
      obtain ⟨⟨⟨⟨⟨q1, q2⟩, q3⟩, q4⟩, q5⟩, q6⟩ := hq
      subst q2
      obtain ⟨as, e1, rfl⟩ := omap_some h
      cases args with
      | nil => exact absurd q5 (by decide)
      | cons e es =>
        have st := cEs_star e1
        exact se_new hm (G.mak q1) (G.rm (by simpa using q6)) (glob_ok G q3) tk (okGlob_ok q4).1 (star_ok (st e List.mem_cons_self) es _) (any_backTo fun x hx => st x (List.mem_cons_of_mem _ hx)) (S.es G tk e1 v_f)
    · cases h
theorem snd_call {k : Nat} (S : Snd fa ca T n k) {c : Cc} {f : Str} {args : List Expr} {ir : E} {X : Cx} {W : WX} {m : Md} {q pos : Pos} (G : Good fa ca T n c X) (tk : Takes X W) (h : cE (k + 1) c (.Call (.Name f q) args [] pos) = some ir) (hob : ¬ objB c (.Call (.Name f q) args [] pos) = true) (hm : m = .f → fresh ir = true) :
    PE X (.Call (.Name f q) args [] pos) (tE fa ca (callF T n) W m ir) := by
  unfold cE at h
  rw [if_neg hob] at h
  simp only at h
  split at h
  · rename_i hsp
    refine S.sp G tk hsp h (not_f hm ?_)
    cases k with
    | zero => cases h
    | succ k => exact cSp_fresh h
  split at h
  · rename_i hF
    split at h
    · rename_i hq
      rw [Bool.and_eq_true, Bool.and_eq_true, Bool.and_eq_true, Bool.not_eq_true'] at hq
      obtain ⟨hq, hh⟩ := hq
      obtain ⟨as, e1, rfl⟩ := omap_some h
      cases args with
      | nil => exact absurd hq.2 (by decide)
      | cons e es =>
        have st := cEs_star e1
        exact se_call (not_f hm rfl) (G.fns f hF) ((G.rm (by simpa using hh)).mono (by omega)) (glob_ok G hq.1.1) tk (okGlob_ok hq.1.2).1 (star_ok (st e List.mem_cons_self) es) (any_backTo fun x hx => st x (List.mem_cons_of_mem _ hx)) (S.es G tk e1 v_f)
    · cases h
  · rename_i hF
    split at h
    · rename_i hg
      have p1 : ∀ {e : Expr} {ir : E}, (if c.hot = true then none else (prim1 f).bind (fun p => (cEs k c [e]).map (.prim p))) = some ir → (m = .f → fresh ir = true) → PE X (.Call (.Name f q) [e] [] pos) (tE fa ca (callF T n) W m ir) := fun {e ir} h hm => by
        obtain ⟨hh, h⟩ := hot_no h
        obtain ⟨p, e1, h⟩ := obind_some h
        obtain ⟨as, e2, rfl⟩ := omap_some h
        exact se_prim (prim1_ok G.kf (G.calm hh) G.un e1) G hg (cEs_star e2) hm (S.es G tk e2 b_f)
      have p2 : ∀ {e e' : Expr} {ir : E}, (if c.hot = true then none else (prim2 f).bind (fun p => (cEs k c [e, e']).map (.prim p))) = some ir → (m = .f → fresh ir = true) → PE X (.Call (.Name f q) [e, e'] [] pos) (tE fa ca (callF T n) W m ir) := fun {e e' ir} h hm => by
        obtain ⟨hh, h⟩ := hot_no h
        obtain ⟨p, e1, h⟩ := obind_some h
        obtain ⟨as, e2, rfl⟩ := omap_some h
        exact se_prim (prim2_ok (G.calm hh) e1) G hg (cEs_star e2) hm (S.es G tk e2 b_f)
      split at h
      · rename_i g q2 a q3
        split at h
        · rename_i hq
          obtain ⟨ef, eg, hg2, _, hh⟩ := hq
          subst ef eg
          obtain ⟨g1, g2, _, _⟩ := gB_ok G hg
          obtain ⟨g5, g6, _, _⟩ := gB_ok G hg2
          obtain ⟨x, e1, rfl⟩ := omap_some h
          exact se_sset (G.calm hh) G.un g1 g2 g5 g6 (star1 (cE_star e1)) (S.e G tk e1 fun e => absurd e b_f)
        · split at h
          · rename_i hq
            obtain ⟨ef, eg, hg2, _, hh⟩ := hq
            subst ef eg
            obtain ⟨g1, g2, _, _⟩ := gB_ok G hg
            obtain ⟨g5, g6, _, _⟩ := gB_ok G hg2
            obtain ⟨x, e1, rfl⟩ := omap_some h
            exact se_lset (G.calm hh) g1 g2 g5 g6 (star1 (cE_star e1)) (S.e G tk e1 fun e => absurd e b_f)
          · exact p1 h hm
      · rename_i a t q2
        split at h
        · rename_i ef
          subst ef
          split at h
          · split at h
            · rename_i hx hq
              rw [Bool.and_eq_true, Bool.and_eq_true] at hq
              obtain ⟨g1, g2, _, _⟩ := gB_ok G hg
              obtain ⟨x, e1, rfl⟩ := omap_some h
              refine se_isx G.exi g1 g2 (glob_ok G hq.1.1) (okGlob_ok hq.1.2).1 ?_ (star2 (cE_star e1) rfl) (S.e G tk e1 fun e => absurd e b_f)
              cases he : c.ex t with
              | true =>
                obtain ⟨C, q1, q2, _⟩ := G.exm t he
                exact .inl ⟨C, q1, q2⟩
              | false =>
                unfold isExc at hx
                rw [he, Bool.false_or, beq_iff_eq] at hx
                have q3 := hq.2
                rw [he, Bool.false_or] at q3
                exact .inr ⟨hx, G.bls t q3⟩
            · cases h
          split at h
          · rename_i hg2
            obtain ⟨g1, g2, _, _⟩ := gB_ok G hg
            obtain ⟨g5, g6, g7, g8⟩ := gB_ok G hg2
            obtain ⟨ty, e0, h⟩ := obind_some h
            obtain ⟨x, e1, rfl⟩ := omap_some h
            obtain ⟨t1, t2, t3⟩ := tyF_ok e0
            exact se_isi t1 t2 t3 g1 g2 g5 g6 g8 g7 (star2 (cE_star e1) rfl) (S.e G tk e1 fun e => absurd e b_f)
          · cases h
        · exact p2 h hm
      · rename_i a t q2 u q3 j q4
        split at h
        · rename_i hq
          obtain ⟨ef, hgt, hgu, htu⟩ := hq
          subst ef
          obtain ⟨g1, g2, _, _⟩ := gB_ok G hg
          obtain ⟨g5, g6, g7, g8⟩ := gB_ok G hgt
          obtain ⟨g9, g10, g11, g12⟩ := gB_ok G hgu
          obtain ⟨x, e1, rfl⟩ := omap_some h
          rcases htu with ⟨et, eu⟩ | ⟨et, eu⟩
          · exact se_isiLT (t1 := .list) (t2 := .tuple) (.inl ⟨rfl, rfl⟩) et eu g1 g2 g5 g6 g9 g10 g8 g7 g12 g11 (fun env x => star2 (cE_star e1) rfl env) (S.e G tk e1 fun e => absurd e b_f)
          · exact se_isiLT (t1 := .tuple) (t2 := .list) (.inr ⟨rfl, rfl⟩) et eu g1 g2 g5 g6 g9 g10 g8 g7 g12 g11 (fun env x => star2 (cE_star e1) rfl env) (S.e G tk e1 fun e => absurd e b_f)
        · cases h
      · exact p1 h hm
      · exact p2 h hm
      · cases h
    · cases h
theorem snd_comp {k : Nat} (S : Snd fa ca T n k) {c : Cc} {elt tg iter : Expr} {ifs : List Expr} {scope : Scope} {ir : E} {X : Cx} {W : WX} {pos : Pos} (G : Good fa ca T n c X) (tk : Takes X W) (h : cE (k + 1) c (.ListComp elt [⟨tg, iter, ifs, 0⟩] scope pos) = some ir) :
    ∃ e t it q, ir = .comp e t ((ownOf c.N scope.names).map (·.2)) it q ∧ PI X tg iter (tI fa ca (callF T n) W .b it) ∧ BlkOk X.N X.env.scope scope (ownOf c.N scope.names) ∧
      (∀ (s : Shared) (H : Hp) (C : Addr) (cl : List (Str × Addr)) (fp : List Addr), PG (X.blk s H scope (compEnvC scope cl C X.env) fp) tg (gT X.K t)) ∧
      (∀ (s : Shared) (H : Hp) (C : Addr) (cl : List (Str × Addr)) (fp : List Addr), PTs (X.blk s H scope (compEnvC scope cl C X.env) fp) ifs (tT fa ca (callF T n) W0 q)) ∧
      (∀ (s : Shared) (H : Hp) (C : Addr) (cl : List (Str × Addr)) (fp : List Addr), PE (X.blk s H scope (compEnvC scope cl C X.env) fp) elt (tE fa ca (callF T n) W0 .v e)) ∧
      X.calm = true ∧ (∀ x, foldedSetIterable iter X.env x = pure x) ∧ ∀ i ∈ tgI t, i ∈ (ownOf c.N scope.names).map (·.2) := by
  unfold cE at h
  rw [if_neg (show ¬ objB c (.ListComp elt [⟨tg, iter, ifs, 0⟩] scope pos) = true from fun e => by cases e)] at h
  simp only at h
  split at h
  · rename_i hq
    rw [Bool.and_eq_true, Bool.and_eq_true] at hq
    obtain ⟨⟨hhot, hq1⟩, hq2⟩ := hq
    have hq : noSet iter = true ∧ blkC c.N c.sc scope (ownOf c.N scope.names) = true := ⟨hq1, hq2⟩
    obtain ⟨t, et, h⟩ := obind_some h
    split at h
    · rename_i htg
      obtain ⟨it, ei, h⟩ := obind_some h
      obtain ⟨q, eq, h⟩ := obind_some h
      obtain ⟨e, ee, rfl⟩ := omap_some h
      refine ⟨e, t, it, q, rfl, S.i G tk ei b_f, blkOk_by (by rw [G.nn, G.sc]; exact hq.2), fun s H C cl fp => pg_ok (G.blk s H C cl fp scope) et, fun s H C cl fp => S.ts (G.blk s H C cl fp scope) takes0 eq, fun s H C cl fp => S.e (G.blk s H C cl fp scope) takes0 ee fun e => absurd e v_f, G.calm (by simpa using ‹(!c.hot) = true›), fun x => noSet_fold hq.1, fun i hi => ?_⟩
      have q2 := List.all_eq_true.mp htg i hi
      exact List.contains_iff_mem.mp q2
    · cases h
  · cases h
theorem base_ok {o : Expr} (h : baseOk o = true) (f : Str) (env : PySem.Env) : attributeBase o f env (eval o env) = eval o env := by
  cases o <;> first | rfl | skip
  rename_i g args kw pos
  cases args with
  | nil => cases h
  | cons a r => cases g <;> rfl
theorem snd_e {k : Nat} (S : Snd fa ca T n k) {c : Cc} {e : Expr} {ir : E} {X : Cx} {W : WX} {m : Md} (G : Good fa ca T n c X) (tk : Takes X W) (h : cE (k + 1) c e = some ir) (hm : m = .f → fresh ir = true) : PE X e (tE fa ca (callF T n) W m ir) := by
  have hh := h
  unfold cE at h
  by_cases hob : objB c e = true
  · rw [if_pos hob] at h
    exact S.ob G tk h hm
  rw [if_neg hob] at h
  split at h
  · exact snd_name G h hm
  · obtain ⟨d, e1, rfl⟩ := omap_some h
    exact se_cst e1
  · obtain ⟨as, e1, rfl⟩ := omap_some h
    exact se_tup (S.es G tk e1 v_f)
  · obtain ⟨as, e1, rfl⟩ := omap_some h
    exact se_lst (S.es G tk e1 v_f)
  · obtain ⟨o, e0, h⟩ := obind_some h
    obtain ⟨a, b, e1, e2, rfl⟩ := map2_some h
    obtain ⟨r, h1, h2⟩ := bin_ok (fa := fa) (ca := ca) (X := X) e0
    exact se_bin h1 h2 (S.e G tk e1 fun e => absurd e b_f) (S.e G tk e2 fun e => absurd e b_f)
  · obtain ⟨a, e1, rfl⟩ := omap_some h
    exact se_neg (S.e G tk e1 fun e => absurd e b_f)
  · obtain ⟨a, e1, rfl⟩ := omap_some h
    exact se_not (S.e G tk e1 fun e => absurd e b_f)
  · rename_i o x y r pos
    refine S.b G tk h (not_f hm ?_)
    cases k with
    | zero => cases h
    | succ k =>
      cases o with
      | And =>
        obtain ⟨a, b, e1, e2, rfl⟩ := map2_some (show map2 .and_ (cE k c x) (cB k c .And (y :: r)) = some ir from h)
        rfl
      | Or =>
        obtain ⟨a, b, e1, e2, rfl⟩ := map2_some (show map2 .or_ (cE k c x) (cB k c .Or (y :: r)) = some ir from h)
        rfl
  · split at h
    · rename_i hs
      obtain ⟨o, e0, h⟩ := obind_some h
      obtain ⟨a, b, e1, e2, rfl⟩ := map2_some h
      obtain ⟨r, h1, h2⟩ := cmp_ok (ca := ca) G.kf G.un e0
      exact se_cmp h1 h2 (noSet_mark hs) (S.e G tk e1 fun e => absurd e b_f) (S.e G tk e2 fun e => absurd e b_f)
    · cases h
  · split at h
    · rename_i hs
      obtain ⟨o, e0, h⟩ := obind_some h
      obtain ⟨o', e0', h⟩ := obind_some h
      obtain ⟨a, e1, h⟩ := obind_some h
      obtain ⟨b, d, e2, e3, rfl⟩ := map2_some h
      obtain ⟨r, h1, h2⟩ := cmp_ok (ca := ca) G.kf G.un e0
      obtain ⟨r', h1', h2'⟩ := cmp_ok (ca := ca) G.kf G.un e0'
      refine (pe_chain h1 h1' (S.e G tk e1 fun e => absurd e b_f) (S.e G tk e2 fun e => absurd e b_f) (S.e G tk e3 fun e => absurd e b_f) (noSet_mark hs)).weak fun σ H Q h => ?_
      obtain ⟨w, env, S1, rfl, k1, he, h⟩ := h
      exact chain_bind h2 h2' k1 he h
    · cases h
  · obtain ⟨t, e0, h⟩ := obind_some h
    obtain ⟨a, b, e1, e2, rfl⟩ := map2_some h
    have hf : m = .f → fresh a = true ∧ fresh b = true := fun e => by
      have q := hm e
      exact (Bool.and_eq_true_iff.mp (show (fresh a && fresh b) = true from q))
    exact se_ite (S.t G tk e0) (S.e G tk e1 fun e => (hf e).1) (S.e G tk e2 fun e => (hf e).2)
  · obtain ⟨a, e1, rfl⟩ := omap_some h
    exact se_rev (S.e G tk e1 fun e => absurd e b_f)
  · obtain ⟨a, e1, h⟩ := obind_some h
    obtain ⟨l, u, e2, e3, rfl⟩ := map2_some h
    exact se_cut (S.e G tk e1 fun e => absurd e b_f) (S.o G tk e2) (S.o G tk e3)
  · split at h
    · rename_i hp
      obtain ⟨a, b, e1, e2, rfl⟩ := map2_some h
      exact se_ix G.kf (not_f hm rfl) (by have := G.un; omega) (plainI_ok hp) (S.e G tk e1 fun e => absurd e b_f) (S.e G tk e2 fun e => absurd e b_f)
    · cases h
  · exact snd_call S G tk hh hob hm
  · split at h
    · rename_i hb
      rw [Bool.and_eq_true] at hb
      obtain ⟨p, e0, h⟩ := obind_some h
      obtain ⟨a, e1, rfl⟩ := omap_some h
      unfold meth0 at e0
      split at e0
      · rename_i ef
        subst ef
        cases e0
        exact se_upper (S.e G tk e1 fun e => absurd e b_f) (base_ok hb.1 _ _) hb.2
      · split at e0
        · rename_i ef
          subst ef
          cases e0
          exact se_lower (S.e G tk e1 fun e => absurd e b_f) (base_ok hb.1 _ _) hb.2
        · cases e0
    · cases h
  · split at h
    · rename_i hb
      rw [Bool.and_eq_true] at hb
      obtain ⟨p, e0, h⟩ := obind_some h
      obtain ⟨a, e1, rfl⟩ := omap_some h
      refine se_lm1 ?_ (S.e G tk e1 fun e => absurd e b_f) (base_ok hb.1 _ _) hb.2
      unfold lmeth at e0
      split at e0
      · rename_i ef
        cases e0
        exact .inl ⟨rfl, ef⟩
      · split at e0
        · rename_i ef
          cases e0
          exact .inr ⟨rfl, ef⟩
        · cases e0
    · cases h
  · split at h
    · rename_i hb
      rw [Bool.and_eq_true] at hb
      obtain ⟨p, e0, h⟩ := obind_some h
      obtain ⟨a, b, e1, e2, rfl⟩ := map2_some h
      unfold meth1 at e0
      split at e0
      · rename_i ef
        subst ef
        cases e0
        exact se_join (S.e G tk e1 fun e => absurd e b_f) (S.e G tk e2 fun e => absurd e b_f) (star1 (cE_star e2) _) (base_ok hb.1 _ _) hb.2
      · split at e0
        · rename_i ef
          subst ef
          cases e0
          exact se_split (S.e G tk e1 fun e => absurd e b_f) (S.e G tk e2 fun e => absurd e b_f) (star1 (cE_star e2) _) (base_ok hb.1 _ _) hb.2
        · split at e0
          · rename_i ef
            subst ef
            cases e0
            exact se_scount (S.e G tk e1 fun e => absurd e b_f) (S.e G tk e2 fun e => absurd e b_f) (star1 (cE_star e2) _) (base_ok hb.1 _ _) hb.2
          · cases e0
    · cases h
  · obtain ⟨e, t, it, q, rfl, h1, h2, h3, h4, h5, h0, h6, h7⟩ := snd_comp S G tk hh
    exact se_comp h0 G.nd h1 h2 h3 h4 h5 h6 h7
  · cases h
theorem snd_t {k : Nat} (S : Snd fa ca T n k) {c : Cc} {e : Expr} {ir : E} {X : Cx} {W : WX} (G : Good fa ca T n c X) (tk : Takes X W) (h : cT (k + 1) c e = some ir) : PT X e (tT fa ca (callF T n) W ir) := by
  have val : ∀ {e : Expr}, cE k c e = some ir → (∀ whole, isTrue e X.env whole = (do let v ← whole; standAt e.pos; holding [v] (truthy v))) → PT X e (tT fa ca (callF T n) W ir) := fun {e} h hw => st_val (S.e G tk h fun e => absurd e b_f) hw
  cases e with
  | UnaryOp o a pos =>
    cases o with
    | Not =>
      obtain ⟨a, e1, rfl⟩ := omap_some (show (cT k c a).map .not_ = some ir from h)
      exact st_not (S.t G tk e1)
    | _ => exact val h fun _ => rfl
  | BoolOp o vs pos => exact (S.tb G tk (show cTB k c o vs = some ir from h)).pt
  | IfExp _ _ _ _ => cases h
  | Compare a ops cs pos =>
    have h : cE k c (.Compare a ops cs pos) = some ir := h
    exact S.tc G tk h
  | _ => exact val h fun _ => rfl
theorem snd_tc {k : Nat} (S : Snd fa ca T n k) {c : Cc} {a : Expr} {ops : List CmpOp} {cs : List Expr} {pos : Pos} {ir : E} {X : Cx} {W : WX} (G : Good fa ca T n c X) (tk : Takes X W) (h : cE (k + 1) c (.Compare a ops cs pos) = some ir) : PT X (.Compare a ops cs pos) (tT fa ca (callF T n) W ir) := by
  unfold cE at h
  by_cases hob : objB c (.Compare a ops cs pos) = true
  · rw [if_pos hob] at h
    exact S.obt G tk h
  rw [if_neg hob] at h
  match ops, cs, h with
  | [o], [b], h =>
    have h : (if noSet b then (copF o).bind fun o => map2 (.cmp o) (cE k c a) (cE k c b) else none) = some ir := h
    split at h
    · rename_i hs
      obtain ⟨o, e0, h⟩ := obind_some h
      obtain ⟨a, b, e1, e2, rfl⟩ := map2_some h
      obtain ⟨r, h1, h2⟩ := cmp_ok (ca := ca) G.kf G.un e0
      exact st_cmp h1 h2 (noSet_mark hs) (S.e G tk e1 fun e => absurd e b_f) (S.e G tk e2 fun e => absurd e b_f)
    · cases h
  | [o, o'], [b, d], h =>
    have h : (if noSet d then (copF o).bind fun o => (copF o').bind fun o' => (cE k c a).bind fun a => map2 (.chn o o' a) (cE k c b) (cE k c d) else none) = some ir := h
    split at h
    · rename_i hs
      obtain ⟨o, e0, h⟩ := obind_some h
      obtain ⟨o', e0', h⟩ := obind_some h
      obtain ⟨a, e1, h⟩ := obind_some h
      obtain ⟨b, d, e2, e3, rfl⟩ := map2_some h
      obtain ⟨r, h1, h2⟩ := cmp_ok (ca := ca) G.kf G.un e0
      obtain ⟨r', h1', h2'⟩ := cmp_ok (ca := ca) G.kf G.un e0'
      refine (pt_chain h1 h1' (S.e G tk e1 fun e => absurd e b_f) (S.e G tk e2 fun e => absurd e b_f) (S.e G tk e3 fun e => absurd e b_f) (noSet_mark hs)).weak fun σ H Q h => ?_
      obtain ⟨w, env, S1, rfl, k1, he, h⟩ := tT_tE h
      exact chain_bind h2 h2' k1 he h
    · cases h
theorem snd_ob {k : Nat} (S : Snd fa ca T n k) {c : Cc} {e : Expr} {ir : E} {X : Cx} {W : WX} {m : Md} (G : Good fa ca T n c X) (tk : Takes X W) (h : cOb (k + 1) c e = some ir) (hm : m = .f → fresh ir = true) : PE X e (tE fa ca (callF T n) W m ir) := by
  unfold cOb at h
  split at h
  · split at h
    · rename_i hq
      rw [Bool.and_eq_true] at hq
      obtain ⟨a, e1, rfl⟩ := omap_some h
      obtain ⟨fs, g1, g2⟩ := G.fld hq.1
      exact se_fld (not_f hm rfl) g1 g2 (S.e G tk e1 fun e => absurd e b_f) (base_ok hq.2 _ _)
    · cases h
  · split at h
    · rename_i hq
      rw [Bool.and_eq_true, Bool.and_eq_true, beq_iff_eq] at hq
      obtain ⟨⟨q1, q2⟩, q3⟩ := hq
      subst q2
      obtain ⟨fs, f1, f2⟩ := G.fld q1
      obtain ⟨i, e1, h⟩ := obind_some h
      obtain ⟨j, e2, rfl⟩ := omap_some h
      obtain ⟨x1, x2, x3, x4⟩ := slot_ok G e1
      obtain ⟨y1, y2, y3, y4⟩ := slot_ok G e2
      exact se_fGet (not_f hm rfl) (by have := G.un; omega) f1 f2 x1 x2 x3 x4 y1 y2 y3 y4 q3
    · cases h
  · split at h
    · rename_i hq
      obtain ⟨fs, f1, f2⟩ := G.fld hq
      obtain ⟨i, e1, h⟩ := obind_some h
      obtain ⟨j, e2, rfl⟩ := omap_some h
      obtain ⟨x1, x2, x3, x4⟩ := slot_ok G e1
      obtain ⟨y1, y2, y3, y4⟩ := slot_ok G e2
      exact (se_fIn (by have := G.un; omega) f1 f2 x1 x2 x3 x4 y1 y2 y3 y4).1
    · cases h
  · split at h
    · rename_i hq
      obtain ⟨fs, f1, f2⟩ := G.fld hq
      obtain ⟨i, e1, h⟩ := obind_some h
      obtain ⟨j, e2, rfl⟩ := omap_some h
      obtain ⟨x1, x2, x3, x4⟩ := slot_ok G e1
      obtain ⟨y1, y2, y3, y4⟩ := slot_ok G e2
      exact se_fIx (not_f hm rfl) (by have := G.un; omega) f1 f2 x1 x2 x3 x4 y1 y2 y3 y4
    · cases h
  · split at h
    · rename_i args _ hq
      rw [Bool.and_eq_true, Bool.and_eq_true, Bool.and_eq_true, Bool.and_eq_true, decide_eq_true_eq] at hq
      obtain ⟨⟨⟨⟨q1, q2⟩, q3⟩, q4⟩, q5⟩ := hq
      obtain ⟨a, b, e1, e2, rfl⟩ := map2_some h
      have st := cEs_star e2
      refine se_meth (not_f hm rfl) (G.mth q1) ((G.rm (by simpa using q5)).mono (by omega)) tk (S.e G tk e1 fun e => absurd e b_f) (S.es G tk e2 v_f) (fun x r er => ?_) (any_backTo fun x hx => st x hx) q4 (fun er => ?_) (base_ok q2 _ _) q3
      · subst er
        exact ⟨star_ok (st x List.mem_cons_self) r _, any_backTo fun y hy => st y (List.mem_cons_of_mem _ hy)⟩
      · subst er
        cases k with
        | zero => cases e2
        | succ k =>
          cases e2
          rfl
    · cases h
  · split at h
    · rename_i hq
      rw [Bool.and_eq_true] at hq
      obtain ⟨g1, g2, _, _⟩ := gB_ok G hq.2
      obtain ⟨fs, f1, f2⟩ := G.fld hq.1
      obtain ⟨i, e1, h2⟩ := obind_some h
      obtain ⟨x1, x2, x3, x4⟩ := slot_ok G e1
      split at h2
      · rename_i eg
        subst eg
        cases h2
        exact se_fLen f1 f2 x1 x2 x3 x4 g1 g2
      · split at h2
        · rename_i eg
          obtain ⟨eg, hh⟩ := eg
          subst eg
          cases h2
          exact se_fList (G.calm hh) f1 f2 x1 x2 x3 x4 g1 g2
        · cases h2
    · cases h
  · split at h
    · rename_i hq
      obtain ⟨fs, f1, f2⟩ := G.fld hq
      obtain ⟨i, e1, rfl⟩ := omap_some h
      obtain ⟨x1, x2, x3, x4⟩ := slot_ok G e1
      exact (se_fNil (by have := G.un; omega) f1 f2 x1 x2 x3 x4).1
    · cases h
  · cases h
theorem snd_obt {k : Nat} (S : Snd fa ca T n k) {c : Cc} {a : Expr} {ops : List CmpOp} {cs : List Expr} {pos : Pos} {ir : E} {X : Cx} {W : WX} (G : Good fa ca T n c X) (tk : Takes X W) (h : cOb (k + 1) c (.Compare a ops cs pos) = some ir) : PT X (.Compare a ops cs pos) (tT fa ca (callF T n) W ir) := by
  unfold cOb at h
  split at h
  all_goals rename_i he
  all_goals first | cases he | skip
  · split at h
    · rename_i hq
      obtain ⟨fs, f1, f2⟩ := G.fld hq
      obtain ⟨i, e1, h⟩ := obind_some h
      obtain ⟨j, e2, rfl⟩ := omap_some h
      obtain ⟨x1, x2, x3, x4⟩ := slot_ok G e1
      obtain ⟨y1, y2, y3, y4⟩ := slot_ok G e2
      exact (se_fIn (m := .b) (by have := G.un; omega) f1 f2 x1 x2 x3 x4 y1 y2 y3 y4).2
    · cases h
  · split at h
    · rename_i hq
      obtain ⟨fs, f1, f2⟩ := G.fld hq
      obtain ⟨i, e1, rfl⟩ := omap_some h
      obtain ⟨x1, x2, x3, x4⟩ := slot_ok G e1
      exact (se_fNil (m := .b) (by have := G.un; omega) f1 f2 x1 x2 x3 x4).2
    · cases h
  · cases h
theorem snd_all : ∀ k : Nat, Snd fa ca T n k
  | 0 => ⟨fun _ _ h => (by cases h), fun _ _ h => (by cases h), fun _ _ h => (by cases h), fun _ _ h => (by cases h), fun _ _ _ h => (by cases h), fun _ _ h => (by cases h), fun _ _ h => (by cases h), fun _ _ h => (by cases h), fun _ _ h => (by cases h), fun _ _ h => (by cases h), fun _ _ h => (by cases h), fun _ _ h => (by cases h)⟩
  | k + 1 =>
    have S := snd_all k
    ⟨snd_e S, snd_tc S, snd_ob S, snd_obt S, snd_sp S, snd_b S, snd_t S, snd_tb S, snd_ts S, snd_es S, snd_o S, snd_i S⟩
end Mini
/-! The evaluator's text is sound: statements, defs. -/
namespace Mini
open PySem L2
variable {fa : FA} {ca : CA} {T : Str → Option Fn} {n : Nat}
section
variable {c : Cc} {X : Cx} {W : WX} {w0 : Wd} {cl : Calls}
theorem frzd_ok {st : Stmt} {vs : List Nat} {ir : C} (h : PS X st (tS fa ca cl W w0 ir)) : PS X st (tS fa ca cl W w0 (frzd vs ir)) := by
  cases vs with
  | nil => exact h
  | cons i r => exact ss_frz h
theorem blk_fun {env : PySem.Env} (hk : env.scope.kind = .function) : env.blockKind = .function := by
  unfold PySem.Env.blockKind
  rw [hk]
  rfl
theorem kindB_eq {sc : Scope} {x : Str} {k : NameKind} : kindB sc x k = (sc.names.lookup x == some k) := by
  unfold kindB
  cases e : sc.names.lookup x with
  | none => rfl
  | some k' => cases k' <;> cases k <;> rfl
theorem comp_swaps {e : Expr} {x : Str} {px : Pos} {b : Bool} {line : Nat} (hsc : X.env.scope = c.sc) (hk : X.env.scope.kind = .function) (h : compSet c e x px = some b) : swapsWith e (some (.Name x px)) line X.env = pure b := by
  cases e with
  | ListComp elt gens s pos =>
    have h : (kindB c.sc x .local && px.line == pos.line && !(s.names.any fun (n, k) => n == x && (k == .local || k == .cell))) = b := Option.some.inj h
    rw [← h, kindB_eq, ← hsc]
    show (pure (X.env.blockKind == .function && X.env.kindOf x == some .local && px.line == pos.line && !(s.names.any fun (n, k) => n == x && (k == .local || k == .cell))) : Sem Bool) = _
    rw [blk_fun hk]
    rfl
  | SetComp _ _ _ _ => cases h
  | DictComp _ _ _ _ _ => cases h
  | _ =>
    cases h
    rfl
theorem noComp_swaps {e : Expr} {t : Option Expr} {line : Nat} {env : PySem.Env} (h : noComp e = true) : swapsWith e t line env = pure false := by
  cases e <;> first | rfl | cases h
def nmF (env : PySem.Env) (line : Nat) : Expr → Option Str
  | .Name id pos => if env.scope.names.lookup id == some NameKind.local && pos.line == line then some id else none
  | _ => none
def swapM (env : PySem.Env) (ts vs : List Expr) : Sem (Option (List Str)) :=
  if (!(ts.length == 2 || ts.length == 3) || vs.length != ts.length || env.blockKind != .function) = true then pure none else
  if vs.any isStarred = true then pure none else
  if ((ts.filterMap (nmF env ((ts.head?.map (·.pos.line)).getD 0))).length != ts.length || (ts.filterMap (nmF env ((ts.head?.map (·.pos.line)).getD 0))).eraseDups.length != (ts.filterMap (nmF env ((ts.head?.map (·.pos.line)).getD 0))).length) = true then pure none else
  if vs.all (foldedForSure 8) = true then pure none else
  if vs.all (constantsAlone 8) = true then (do
    let _ : Unit ← unsupported "assign.tuple-of-constant-expressions:order-of-the-stores"
    pure (some (ts.filterMap (nmF env ((ts.head?.map (·.pos.line)).getD 0)))))
  else pure (some (ts.filterMap (nmF env ((ts.head?.map (·.pos.line)).getD 0))))
theorem swapM_eq {ts vs : List Expr} {k k2 : Nat} {p p2 : Pos} {env : PySem.Env} : swappedStores [.Tuple ts k p] (.Tuple vs k2 p2) env = swapM env ts vs := rfl
theorem nmF_eq {env : PySem.Env} {line : Nat} : ∀ ts : List Expr, ts.filterMap (nmF env line) = namesAt env.scope line ts
  | [] => rfl
  | e :: r => by
    have ih := nmF_eq (env := env) (line := line) r
    cases e with
    | Name x p =>
      rw [List.filterMap_cons]
      unfold namesAt
      rw [kindB_eq, ih]
      have e : nmF env line (.Name x p) = if env.scope.names.lookup x == some NameKind.local && p.line == line then some x else none := rfl
      rw [e]
      cases (env.scope.names.lookup x == some NameKind.local && p.line == line) <;> simp
    | _ =>
      rw [List.filterMap_cons]
      exact ih
theorem swap_ok {ts vs : List Expr} {k k2 : Nat} {p p2 : Pos} {o : Option (List Str)} (hsc : X.env.scope = c.sc) (hk : X.env.scope.kind = .function) (h : swapF c.sc ts vs = some o) : swappedStores [.Tuple ts k p] (.Tuple vs k2 p2) X.env = pure o := by
  rw [swapM_eq]
  unfold swapF at h
  unfold swapM
  rw [blk_fun hk, nmF_eq, hsc]
  split at h
  · rename_i h1
    cases h
    rw [if_pos (by rw [h1]; rfl)]
  · rename_i h1
    rw [if_neg (by simpa using h1)]
    split at h
    · cases h
    · rename_i h2
      rw [if_neg h2]
      simp only at h
      split at h
      · rename_i h3
        cases h
        rw [if_pos h3]
      · rename_i h3
        rw [if_neg h3]
        split at h
        · rename_i h4
          cases h
          rw [if_pos h4]
        · rename_i h4
          rw [if_neg h4]
          split at h
          · cases h
          · rename_i h5
            cases h
            rw [if_neg h5]
theorem swap_none {ts : List Expr} {e : Expr} {k : Nat} {p : Pos} {env : PySem.Env} (h : ∀ vs k2 p2, e ≠ .Tuple vs k2 p2) : swappedStores [.Tuple ts k p] e env = pure none := by
  cases e <;> first | rfl | exact absurd rfl (h _ _ _)
theorem swapF_names {sc : Scope} {ts vs : List Expr} {names : List Str} (h : swapF sc ts vs = some (some names)) : ∃ line, names = namesAt sc line ts ∧ names.length = ts.length ∧ vs.length = ts.length := by
  unfold swapF at h
  split at h
  · cases h
  · rename_i h1
    split at h
    · cases h
    · simp only at h
      split at h
      · cases h
      · rename_i h3
        split at h
        · cases h
        · split at h
          · cases h
          · cases h
            refine ⟨_, rfl, ?_, ?_⟩
            · simp only [Bool.or_eq_true, not_or, bne_iff_ne, ne_eq, Decidable.not_not] at h3
              exact h3.1
            · simp only [Bool.or_eq_true, not_or, bne_iff_ne, ne_eq, Decidable.not_not] at h1
              exact h1.2
theorem namesAt_le {sc : Scope} {line : Nat} : ∀ ts : List Expr, (namesAt sc line ts).length ≤ ts.length
  | [] => Nat.le_refl _
  | e :: r => by
    have ih := namesAt_le (sc := sc) (line := line) r
    cases e <;> unfold namesAt <;> first | exact Nat.le_succ_of_le ih | skip
    split
    · exact Nat.succ_le_succ ih
    · exact Nat.le_succ_of_le ih
theorem namesAt_all {sc : Scope} {line : Nat} : ∀ {ts : List Expr}, (namesAt sc line ts).length = ts.length → ∀ {e : Expr} {r : List Expr}, ts = e :: r → ∃ x p, e = .Name x p ∧ sc.names.lookup x = some .local ∧ namesAt sc line ts = x :: namesAt sc line r ∧ (namesAt sc line r).length = r.length := by
  intro ts h e r et
  subst et
  have le := namesAt_le (sc := sc) (line := line) r
  cases e with
  | Name x p =>
    unfold namesAt at h
    split at h
    · rename_i hq
      refine ⟨x, p, rfl, kindB_ok (Bool.and_eq_true_iff.mp hq).1, ?_, by simpa using h⟩
      conv => lhs; unfold namesAt
      rw [if_pos hq]
    · simp at h
      omega
  | _ =>
    unfold namesAt at h
    simp at h
    omega
theorem meth_ok {k : Nat} {x f : Str} {i : Nat} {args : List Expr} {ir : C} {p ap cp pos : Pos} (G : Good fa ca T n c X) (tk : Takes X W) (hi : slot c x = some i) (hl : (ap.endLine == cp.line) = true) (h : cMeth k c f i args = some ir) :
    PS X (.Expr (.Call (.Attribute (.Name x p) f ap) args [] cp) pos) (tS fa ca (callF T n) W w0 ir) := by
  have S := snd_all (fa := fa) (ca := ca) (T := T) (n := n) k
  obtain ⟨x1, x2, x3, x4⟩ := slot_ok G hi
  have app : ∀ {e : Expr} {a : E}, f = "append" → cE k c e = some a → PS X (.Expr (.Call (.Attribute (.Name x p) f ap) [e] [] cp) pos) (tS fa ca (callF T n) W w0 (frzd (vvE .v a) (.app i a))) := fun {e a} ef e1 => by
    subst ef
    exact frzd_ok (ss_app x1 x2 x3 x4 (star1 (cE_star e1)) hl (S.e G tk e1 fun e => absurd e v_f))
  have ext : ∀ {e : Expr} {a : E}, f = "extend" → cE k c e = some a → PS X (.Expr (.Call (.Attribute (.Name x p) f ap) [e] [] cp) pos) (tS fa ca (callF T n) W w0 (frzd (vvE .b a) (.ext i a))) := fun {e a} ef e1 => by
    subst ef
    exact frzd_ok (ss_ext x1 x2 x3 x4 (star1 (cE_star e1)) hl (S.e G tk e1 fun e => absurd e b_f))
  have one : ∀ {e : Expr} {a : E}, cEs k c [e] = some (.cons a .nil) → ∃ j, k = j + 1 ∧ cE j c e = some a := fun {e a} h => by
    cases k with
    | zero => cases h
    | succ j =>
      obtain ⟨a', b, e1, e2, e3⟩ := map2_some (show map2 E.cons (cE j c e) (cEs j c []) = some (.cons a .nil) from h)
      cases e3
      exact ⟨j, rfl, e1⟩
  unfold cMeth at h
  split at h
  · rename_i y q g ap2 e cp2
    split at h
    · rename_i hq
      obtain ⟨ef, eg, hl2, hst⟩ := hq
      subst ef eg
      obtain ⟨l, a, e1, e2, rfl⟩ := map2_some h
      obtain ⟨y1, y2, y3, y4⟩ := slot_ok G e1
      exact ss_appPop x1 x2 x3 x4 y1 y2 y3 y4 (star1 hst) hl2 hl (S.e G tk e2 fun e => absurd e b_f)
    · split at h
      · rename_i ef
        obtain ⟨a, e1, h⟩ := obind_some h
        split at h
        · cases h
          obtain ⟨j, rfl, e2⟩ := one e1
          subst ef
          exact frzd_ok (ss_app x1 x2 x3 x4 (star1 (cE_star e2)) hl ((snd_all j).e G tk e2 fun e => absurd e v_f))
        · cases h
      · split at h
        · rename_i ef
          obtain ⟨a, e1, h⟩ := obind_some h
          split at h
          · cases h
            obtain ⟨j, rfl, e2⟩ := one e1
            subst ef
            exact frzd_ok (ss_ext x1 x2 x3 x4 (star1 (cE_star e2)) hl ((snd_all j).e G tk e2 fun e => absurd e b_f))
          · cases h
        · cases h
  · split at h
    · rename_i ef
      obtain ⟨a, e1, rfl⟩ := omap_some h
      exact app ef e1
    · split at h
      · rename_i ef
        obtain ⟨a, e1, rfl⟩ := omap_some h
        exact ext ef e1
      · cases h
  · cases h
theorem asg_ok {k : Nat} {x : Str} {e : Expr} {ir : C} {px pos : Pos} (G : Good fa ca T n c X) (hk : X.env.scope.kind = .function) (tk : Takes X W) (h : cAsg k c x px e = some ir) :
    PS X (.Assign [.Name x px] e pos) (tS fa ca (callF T n) W w0 ir) := by
  have S := snd_all (fa := fa) (ca := ca) (T := T) (n := n) k
  unfold cAsg at h
  split at h
  · rename_i y q g ap args cp
    split at h
    · rename_i hq
      obtain ⟨eg, hl⟩ := hq
      subst eg
      split at h
      · obtain ⟨i, l, e1, e2, rfl⟩ := map2_some h
        obtain ⟨x1, x2, x3⟩ := slotT_ok G e1
        obtain ⟨y1, y2, y3, y4⟩ := slot_ok G e2
        exact ss_popS G.nd x1 x2 x3 y1 y2 y3 y4 hl
      · obtain ⟨i, e1, h⟩ := obind_some h
        obtain ⟨l, e2, h⟩ := obind_some h
        obtain ⟨a, e3, rfl⟩ := omap_some h
        obtain ⟨x1, x2, x3⟩ := slotT_ok G e1
        obtain ⟨y1, y2, y3, y4⟩ := slot_ok G e2
        exact frzd_ok (ss_popA G.nd x1 x2 x3 y1 y2 y3 y4 (star1 (cE_star e3)) hl (S.e G tk e3 fun e => absurd e b_f))
      · cases h
    · split at h
      · obtain ⟨i, e1, h⟩ := obind_some h
        obtain ⟨a, e2, rfl⟩ := omap_some h
        obtain ⟨x1, x2, x3⟩ := slotT_ok G e1
        have md : (if fresh a then Md.f else Md.v) = .f → fresh a = true := fun h => by
          cases e : fresh a with
          | true => rfl
          | false =>
            rw [e] at h
            cases h
        exact frzd_ok (ss_set (ps_set (pos := pos) (pos' := px) G.nd x1 x2 (S.e G tk e2 md) (comp_swaps G.sc hk (b := false) rfl) x3))
      · cases h
  · obtain ⟨i, e1, rfl⟩ := omap_some h
    obtain ⟨x1, x2, x3⟩ := slotT_ok G e1
    exact ss_set (ps_set (pos := pos) (pos' := px) G.nd x1 x2 se_dnew rfl x3)
  · obtain ⟨b, e0, h⟩ := obind_some h
    have md : ∀ a : E, (if fresh a then Md.f else Md.v) = .f → fresh a = true := fun a h => by
      cases e : fresh a with
      | true => rfl
      | false =>
        rw [e] at h
        cases h
    cases b with
    | false =>
      rw [if_neg Bool.false_ne_true] at h
      obtain ⟨i, e1, h⟩ := obind_some h
      obtain ⟨a, e2, rfl⟩ := omap_some h
      obtain ⟨x1, x2, x3⟩ := slotT_ok G e1
      exact frzd_ok (ss_set (ps_set (pos := pos) (pos' := px) G.nd x1 x2 (S.e G tk e2 (md a)) (comp_swaps G.sc hk e0) x3))
    | true =>
      rw [if_pos rfl] at h
      obtain ⟨i, e1, h⟩ := obind_some h
      obtain ⟨a, e2, rfl⟩ := omap_some h
      obtain ⟨x1, x2, x3⟩ := slotT_ok G e1
      have hsw := comp_swaps (line := pos.line) G.sc hk e0
      refine frzd_ok (ss_set ?_)
      cases k with
      | zero => cases e2
      | succ k =>
        have hh := e2
        unfold cE at e2
        have hob : ¬ objB c e = true := fun hob => by cases e <;> first | cases e0 | cases hob
        rw [if_neg hob] at e2
        split at e2
        case h_19 =>
          obtain ⟨e, t, it, q, rfl, h1, h2, h3, h4, h5, h0, h6, h7⟩ := snd_comp (snd_all k) G tk hh
          have hy : X.env.scope.names.lookup x = some .local := by
            have h : (kindB c.sc x .local && _ && _) = true := Option.some.inj e0
            rw [Bool.and_eq_true, Bool.and_eq_true] at h
            rw [G.sc]
            exact kindB_ok h.1.1
          exact (ps_setLc h0 G.nd x1 hy hsw h1 h2 h3 h4 h5 h6).weak fun D σ H h => lc_bind h7 h
        all_goals first | cases e0 | cases e2
end
end Mini
/-! The evaluator's text is sound: all statements, defs. -/
namespace Mini
open PySem L2
variable {fa : FA} {ca : CA} {T : Str → Option Fn} {n : Nat}
section
variable {X : Cx} {W : WX} {w0 : Wd}
theorem slotsT_len {c : Cc} : ∀ {ts : List Expr} {is : List Nat}, slotsT c ts = some is → ts.length = is.length
  | [], is, h => by cases h; rfl
  | e :: r, is, h => by
    cases e <;> first | cases h | skip
    rename_i x p
    obtain ⟨i, e1, h⟩ := obind_some (show (slotT c x).bind (fun i => (slotsT c r).map (i :: ·)) = some is from h)
    obtain ⟨js, e2, rfl⟩ := omap_some h
    rw [List.length_cons, List.length_cons, slotsT_len e2]
theorem slotsT_cons {c : Cc} {e : Expr} {r : List Expr} {is : List Nat} (h : slotsT c (e :: r) = some is) : ∃ x p i js, e = .Name x p ∧ slotT c x = some i ∧ slotsT c r = some js ∧ is = i :: js := by
  cases e <;> first | cases h | skip
  rename_i x p
  obtain ⟨i, e1, h⟩ := obind_some (show (slotT c x).bind (fun i => (slotsT c r).map (i :: ·)) = some is from h)
  obtain ⟨js, e2, rfl⟩ := omap_some h
  exact ⟨x, p, i, js, rfl, e1, e2, rfl⟩
theorem cEs_cons {c : Cc} {k : Nat} {e : Expr} {r : List Expr} {ir : E} (h : cEs k c (e :: r) = some ir) : ∃ k' a b, cE k' c e = some a ∧ cEs k' c r = some b ∧ ir = .cons a b := by
  cases k with
  | zero => cases h
  | succ k =>
    obtain ⟨a, b, e1, e2, e3⟩ := map2_some (show map2 E.cons (cE k c e) (cEs k c r) = some ir from h)
    exact ⟨k, a, b, e1, e2, e3⟩
theorem md_ok (a : E) : (if fresh a then Md.f else Md.v) = .f → fresh a = true := fun h => by
  cases e : fresh a with
  | true => rfl
  | false =>
    rw [e] at h
    cases h
theorem par_ok {c : Cc} {k : Nat} {ts vs : List Expr} {is : List Nat} {a : E} {ir : C} {names : List Str} {kt k2 : Nat} {pt p2 pos : Pos} (G : Good fa ca T n c X) (hh : c.hot = false) (hk : X.env.scope.kind = .function) (tk : Takes X W) (ho : swapF c.sc ts vs = some (some names)) (hi : slotsT c ts = some is) (hn : is.Nodup) (hl : (ts.length == 2 || ts.length == 3) = true) (h : cEs k c vs = some a) (hp : parC is a = some ir) :
    PS X (.Assign [.Tuple ts kt pt] (.Tuple vs k2 p2) pos) (tS fa ca (callF T n) W w0 ir) := by
  have hw := swap_ok (X := X) (k := kt) (k2 := k2) (p := pt) (p2 := p2) G.sc hk ho
  obtain ⟨line, e1, e2, e3⟩ := swapF_names ho
  have ha := (snd_all k).es G tk h (m := .v) v_f
  subst e1
  rw [Bool.or_eq_true, beq_iff_eq, beq_iff_eq] at hl
  rcases hl with hl | hl
  · match ts, hl with
    | [t1, t2], _ =>
      match vs, e3 with
      | [v1, v2], _ =>
        obtain ⟨x, p, rfl, l1, n1, m1⟩ := namesAt_all e2 rfl
        obtain ⟨y, q, rfl, l2, n2, m2⟩ := namesAt_all m1 rfl
        obtain ⟨x', p', i, js, ex, s1, hi1, rfl⟩ := slotsT_cons hi
        cases ex
        obtain ⟨y', q', j, js', ey, s2, hi2, rfl⟩ := slotsT_cons hi1
        cases ey
        cases hi2
        rw [n1, n2] at hw
        have hij : i ≠ j := fun e => by
          subst e
          simp at hn
        obtain ⟨ka, x1, r1, c1, h1, rfl⟩ := cEs_cons h
        obtain ⟨kb, x2, r2, c2, h2, rfl⟩ := cEs_cons h1
        have : r2 = .nil := by
          cases kb with
          | zero => cases h2
          | succ kb => cases h2; rfl
        subst this
        have hp : (if fresh x1 || fresh x2 then some (frzd (vvE (mdOf x1) x1 ++ vvE (mdOf x2) x2) (.par2 i j x1 x2)) else some (frzd (vvE .v (.cons x1 (.cons x2 .nil))) (.par [i, j] (.cons x1 (.cons x2 .nil))))) = some ir := hp
        split at hp
        · cases hp
          exact frzd_ok (ss_parF2 (ps_par (G.calm hh) G.nd (slotT_ok G s1).1 (slotT_ok G s2).1 hij (by rw [G.sc]; exact l1) (by rw [G.sc]; exact l2) (pa_cons ((snd_all ka).e G tk c1 (md_ok x1)) (pa_cons ((snd_all kb).e G tk c2 (md_ok x2)) pa_nil (star1 (cE_star c2) _)) (star_ok (cE_star c1) _ _)) hw rfl))
        · cases hp
          exact frzd_ok (ss_par2 (ps_par (G.calm hh) G.nd (slotT_ok G s1).1 (slotT_ok G s2).1 hij (by rw [G.sc]; exact l1) (by rw [G.sc]; exact l2) ha hw rfl))
  · match ts, hl with
    | [t1, t2, t3], _ =>
      match vs, e3 with
      | [v1, v2, v3], _ =>
        obtain ⟨x, p, rfl, l1, n1, m1⟩ := namesAt_all e2 rfl
        obtain ⟨y, q, rfl, l2, n2, m2⟩ := namesAt_all m1 rfl
        obtain ⟨z, r, rfl, l3, n3, m3⟩ := namesAt_all m2 rfl
        obtain ⟨x', p', i, js, ex, s1, hi1, rfl⟩ := slotsT_cons hi
        cases ex
        obtain ⟨y', q', j, js', ey, s2, hi2, rfl⟩ := slotsT_cons hi1
        cases ey
        obtain ⟨z', r', l, js'', ez, s3, hi3, rfl⟩ := slotsT_cons hi2
        cases ez
        cases hi3
        rw [n1, n2, n3] at hw
        have hij : i ≠ j ∧ i ≠ l ∧ j ≠ l := by
          simp at hn
          exact ⟨hn.1.1, hn.1.2, hn.2⟩
        obtain ⟨ka, x1, r1, c1, h1, rfl⟩ := cEs_cons h
        obtain ⟨kb, x2, r2, c2, h2, rfl⟩ := cEs_cons h1
        obtain ⟨kc, x3, r3, c3, h3, rfl⟩ := cEs_cons h2
        have : r3 = .nil := by
          cases kc with
          | zero => cases h3
          | succ kc => cases h3; rfl
        subst this
        have hp : (if fresh x1 || fresh x2 || fresh x3 then some (frzd (vvE (mdOf x1) x1 ++ vvE (mdOf x2) x2 ++ vvE (mdOf x3) x3) (.par3 i j l x1 x2 x3)) else some (frzd (vvE .v (.cons x1 (.cons x2 (.cons x3 .nil)))) (.par [i, j, l] (.cons x1 (.cons x2 (.cons x3 .nil)))))) = some ir := hp
        split at hp
        · cases hp
          exact frzd_ok (ss_parF3 (ps_par3 (G.calm hh) G.nd (slotT_ok G s1).1 (slotT_ok G s2).1 (slotT_ok G s3).1 hij.1 hij.2.1 hij.2.2 (by rw [G.sc]; exact l1) (by rw [G.sc]; exact l2) (by rw [G.sc]; exact l3) (pa_cons ((snd_all ka).e G tk c1 (md_ok x1)) (pa_cons ((snd_all kb).e G tk c2 (md_ok x2)) (pa_cons ((snd_all kc).e G tk c3 (md_ok x3)) pa_nil (star1 (cE_star c3) _)) (star_ok (cE_star c2) _ _)) (star_ok (cE_star c1) _ _)) hw rfl))
        · cases hp
          exact frzd_ok (ss_par3 (ps_par3 (G.calm hh) G.nd (slotT_ok G s1).1 (slotT_ok G s2).1 (slotT_ok G s3).1 hij.1 hij.2.1 hij.2.2 (by rw [G.sc]; exact l1) (by rw [G.sc]; exact l2) (by rw [G.sc]; exact l3) ha hw rfl))
/-- a, b = x, y, stored from the left; the pair itself is not tracked -/
theorem ps_par0 {i j : Nat} {ts : List Expr} {a b : Expr} {ta : TA} {pt pos : Pos} {kt k2 pt2} (hc : X.calm = true) (hg : PGs X ts (gsT [i, j])) (hl : (assignEach ts X.env).length = 2) (hst : (assignEach ts X.env).findIdx? (·.1) = none) (ha : PA X [a, b] ta)
    (hw : swappedStores [.Tuple ts kt pt] (.Tuple [a, b] k2 pt2) X.env = pure none) :
    PS X (.Assign [.Tuple ts kt pt] (.Tuple [a, b] k2 pt2) pos) (tPar i j ta) := by
  refine ⟨fun pins s σ H D I h => ?_⟩
  refine PySem.wpAny_Assign_stores (PyProof.Rows.Tuple_ (thn (ha.run _ pins s σ H _ I h) fun us s1 ⟨vs, H1, I1, r1, q1⟩ => ?_)) rfl hw
  obtain ⟨v, w, e1, q1⟩ := q1
  subst e1
  obtain ⟨u1, u2, rfl, rv, rw'⟩ : ∃ u1 u2, us = [u1, u2] ∧ RelV v u1 ∧ RelV w u2 := by
    cases r1 with
    | cons p q =>
      cases q with
      | cons p' q' =>
        cases q'
        exact ⟨_, _, rfl, p, p'⟩
  refine wpAny_newObj_type ?_ (by show 2 ≤ sizeLine; decide)
  have I2 : Inv X pins σ H1 { s1 with heap := s1.heap.push { cls := .type "tuple", data := .seq [u1, u2].toArray } } := I1.kept (t' := s1.toks) fun b o e => Heap.get?_push_of_some _ e
  show wpAny (model X.prog X.w) X.A (assign (.Tuple ts kt pt) X.env (.ref s1.heap.objs.size)) _ _ _
  refine PyProof.Rows.assign_Tuple_tuple (items := #[u1, u2]) (I.ok.hd hc) (PyProof.Rows.IsTup.new s1.heap _) hl hst fun h' hx' => ?_
  have I3 := I2.kept (h' := h') (t' := s1.toks) fun b o e => hx' b o (Nat.ne_of_lt (Heap.lt_size e)) e
  refine thn (hg.run pins _ σ H1 [v, w] [u1, u2] (fun σ' H' => D.nx σ' H') I3 (.cons rv (.cons rw' .nil)) ⟨_, _, rfl, _, _, rfl, rfl, q1⟩) fun _ s4 ⟨σ', H', I4, q⟩ => ⟨σ', H', I4, q⟩
theorem par0_ok {c : Cc} {k : Nat} {ts vs : List Expr} {is : List Nat} {a : E} {ir : C} {kt k2 : Nat} {pt p2 pos : Pos} (G : Good fa ca T n c X) (hh : c.hot = false) (hk : X.env.scope.kind = .function) (tk : Takes X W) (ho : swapF c.sc ts vs = some none) (hi : slotsT c ts = some is) (hl : is.length = 2) (h : cEs k c vs = some a) (hp : parC is a = some ir) :
    PS X (.Assign [.Tuple ts kt pt] (.Tuple vs k2 p2) pos) (tS fa ca (callF T n) W w0 ir) := by
  have hw := swap_ok (X := X) (k := kt) (k2 := k2) (p := pt) (p2 := p2) G.sc hk ho
  have ha := (snd_all k).es G tk h (m := .v) v_f
  obtain ⟨q1, q2, q3⟩ := pgs_ok G hi
  match is, hl with
  | [i, j], _ =>
    match vs, h with
    | [], h =>
      cases k with
      | zero => cases h
      | succ k => cases h; cases hp
    | v1 :: r, h =>
      obtain ⟨ka, x1, r1, c1, h1, rfl⟩ := cEs_cons h
      match r, h1 with
      | [], h1 =>
        cases ka with
        | zero => cases h1
        | succ ka => cases h1; cases hp
      | v2 :: r', h1 =>
        obtain ⟨kb, x2, r2, c2, h2, rfl⟩ := cEs_cons h1
        match r', h2 with
        | v3 :: r3, h2 =>
          obtain ⟨kc, x3, r3, c3, h3, rfl⟩ := cEs_cons h2
          cases hp
        | [], h2 =>
          have : r2 = .nil := by
            cases kb with
            | zero => cases h2
            | succ kb => cases h2; rfl
          subst this
          have hp : (if fresh x1 || fresh x2 then some (frzd (vvE (mdOf x1) x1 ++ vvE (mdOf x2) x2) (.par2 i j x1 x2)) else some (frzd (vvE .v (.cons x1 (.cons x2 .nil))) (.par [i, j] (.cons x1 (.cons x2 .nil))))) = some ir := hp
          split at hp
          · cases hp
            exact frzd_ok (ss_parF2 (ps_par0 (G.calm hh) q1 (q2 _) (q3 _) (pa_cons ((snd_all ka).e G tk c1 (md_ok x1)) (pa_cons ((snd_all kb).e G tk c2 (md_ok x2)) pa_nil (star1 (cE_star c2) _)) (star_ok (cE_star c1) _ _)) hw))
          · cases hp
            exact frzd_ok (ss_par2 (ps_par0 (G.calm hh) q1 (q2 _) (q3 _) ha hw))
theorem unp_ok {c : Cc} {k : Nat} {ts : List Expr} {e : Expr} {is : List Nat} {a : E} {kt : Nat} {pt pos : Pos} (G : Good fa ca T n c X) (hh : c.hot = false) (tk : Takes X W) (hw : swappedStores [.Tuple ts kt pt] e X.env = pure none) (hc : noComp e = true) (hi : slotsT c ts = some is) (h : cE k c e = some a) :
    PS X (.Assign [.Tuple ts kt pt] e pos) (tS fa ca (callF T n) W w0 (.unp is a)) := by
  obtain ⟨q1, q2, q3⟩ := pgs_ok G hi
  exact ss_unp (ps_asg ((snd_all k).e G tk h fun e => absurd e v_f) (pg_tup (G.calm hh) q1 (q2 _) (q3 _)) (show swapsWith e (some (.Tuple ts kt pt)) pos.line X.env = pure false from noComp_swaps hc) hw rfl)
end
/-- a def's own frame -/
structure FrOk (X : Cx) : Prop where
  kind : X.env.scope.kind = .function
  stack : X.stack = X.env :: X.outer
  frame : X.env.frame = some X.env.locals
  ex : X.ex = []
section
variable (fa ca T n)
structure SndS (k : Nat) : Prop where
  s : ∀ {c st ir X W w0}, Good fa ca T n c X → FrOk X → Takes X W → PassesOwn (model X.prog X.w) X.A X.env X.xe → cS k c st = some ir → PS X st (tS fa ca (callF T n) W w0 ir)
  ss : ∀ {c sts ir X W w0}, Good fa ca T n c X → FrOk X → Takes X W → PassesOwn (model X.prog X.w) X.A X.env X.xe → cSs k c sts = some ir → PSs X sts (tS fa ca (callF T n) W w0 ir)
end
theorem Good.tr {c : Cc} {X : Cx} (G : Good fa ca T n c X) (pn : List (Addr × Obj)) (xe : Value → Shared → Prop) : Good fa ca T n c (X.tr pn xe) where
  nn := G.nn
  nd := G.nd
  sc := G.sc
  fx := G.fx
  calm := G.calm
  rm := G.rm
  un := G.un
  kf := G.kf
  fns := fun f h => ⟨(G.fns f h).ex⟩
  csts := G.csts
  bls := G.bls
  exs := fun x h => by
    obtain ⟨C, B, newId, initId, bmB, x1, x2, x3, x4, x5, x6⟩ := (G.exs x h).ex
    exact ⟨C, B, newId, initId, bmB, x1, x2, x3, x4, x5, x6⟩
  exi := G.exi
  exm := G.exm
  cax := G.cax
  cls := fun C fs ms h => ⟨(G.cls C fs ms h).ex⟩
  tol := fun h => by
    obtain ⟨h1, h2, h3⟩ := G.tol h
    exact ⟨h1, h2, ⟨h3.ex⟩⟩
theorem os_ok {k : Nat} {c : Cc} {st : Stmt} {ir : C} {X : Cx} {W : WX} {w0 : Wd} (G : Good fa ca T n c X) (fr : FrOk X) (tk : Takes X W) (h : cOs k c st = some ir) : PS X st (tS fa ca (callF T n) W w0 ir) := by
  have S := snd_all (fa := fa) (ca := ca) (T := T) (n := n) k
  unfold cOs at h
  split at h
  · split at h
    · split at h
      · rename_i hq
        obtain ⟨i, e1, rfl⟩ := omap_some h
        obtain ⟨fs, f1, f2⟩ := G.fld hq
        obtain ⟨x1, x2, x3, x4⟩ := slot_ok G e1
        exact ss_fset f1 f2 x1 x2 x3 x4 rfl se_dnew
      · cases h
    · split at h
      · rename_i hq
        rw [Bool.and_eq_true] at hq
        obtain ⟨i, e1, h⟩ := obind_some h
        obtain ⟨a, e2, rfl⟩ := omap_some h
        obtain ⟨fs, f1, f2⟩ := G.fld hq.1
        obtain ⟨x1, x2, x3, x4⟩ := slot_ok G e1
        exact frzd_ok (ss_fset f1 f2 x1 x2 x3 x4 (noComp_swaps hq.2) (S.e G tk e2 (md_ok a)))
      · cases h
  · split at h
    · rename_i hq
      rw [Bool.and_eq_true, Bool.and_eq_true, Bool.and_eq_true, beq_iff_eq] at hq
      obtain ⟨⟨⟨q1, q2⟩, q3⟩, q4⟩ := hq
      subst q2
      obtain ⟨i, e1, h⟩ := obind_some h
      obtain ⟨is, e2, h⟩ := obind_some h
      obtain ⟨fs, f1, f2⟩ := G.fld q1
      obtain ⟨x1, x2, x3, x4⟩ := slot_ok G e1
      split at h
      · cases h
        obtain ⟨g1, g2, g3⟩ := pgs_ok G e2
        exact ss_fpop2 f1 f2 (G.calm (by simpa using q4)) x1 x2 x3 x4 g1 (g2 _) (g3 _) q3
      · cases h
    · cases h
  · split at h
    · rename_i hq
      rw [Bool.and_eq_true] at hq
      obtain ⟨i, e1, h⟩ := obind_some h
      obtain ⟨j, e2, h⟩ := obind_some h
      obtain ⟨a, e3, rfl⟩ := omap_some h
      obtain ⟨fs, f1, f2⟩ := G.fld hq.1
      obtain ⟨x1, x2, x3, x4⟩ := slot_ok G e1
      obtain ⟨y1, y2, y3, y4⟩ := slot_ok G e2
      exact frzd_ok (ss_fput (by have := G.un; omega) f1 f2 x1 x2 x3 x4 y1 y2 y3 y4 (S.e G tk e3 fun e => absurd e v_f) (noComp_swaps hq.2))
    · cases h
  · split at h
    · rename_i hq
      rw [Bool.and_eq_true, Bool.and_eq_true, beq_iff_eq] at hq
      obtain ⟨⟨q1, q2⟩, q3⟩ := hq
      subst q2
      obtain ⟨i, e1, h⟩ := obind_some h
      obtain ⟨j, e2, rfl⟩ := omap_some h
      obtain ⟨fs, f1, f2⟩ := G.fld q1
      obtain ⟨x1, x2, x3, x4⟩ := slot_ok G e1
      obtain ⟨y1, y2, y3, y4⟩ := slot_ok G e2
      exact ss_fdel (by have := G.un; omega) f1 f2 x1 x2 x3 x4 y1 y2 y3 y4 q3
    · cases h
  · obtain ⟨a, e1, rfl⟩ := omap_some h
    exact frzd_ok (ss_ex (noComp_swaps rfl) (S.e G tk e1 fun e => absurd e b_f))
  · split at h
    · rename_i hq
      rw [Bool.and_eq_true, Bool.and_eq_true, Bool.and_eq_true, Bool.and_eq_true, beq_iff_eq, beq_iff_eq] at hq
      obtain ⟨⟨⟨⟨q1, q2⟩, q3⟩, q4⟩, q5⟩ := hq
      subst q3 q4
      obtain ⟨i, e1, h⟩ := obind_some h
      obtain ⟨j, e2, rfl⟩ := omap_some h
      obtain ⟨fs, f1, f2⟩ := G.fld q1
      obtain ⟨fs', ms, e, f3⟩ := hasFld_ok q2
      obtain ⟨x1, x2, x3, x4⟩ := slot_ok G e1
      obtain ⟨y1, y2, y3, y4⟩ := slot_ok G e2
      obtain ⟨fs2, ms2, e', f4⟩ := hasFld_ok q1
      rw [e] at e'
      cases e'
      obtain ⟨A, a1, a2, a3, a4, a5, a6⟩ := (G.cls _ _ _ e).ex
      exact ss_fapp ⟨A, a1, a3, a4⟩ f4 f3 x1 x2 x3 x4 y1 y2 y3 y4 q5
    · cases h
  · cases h
theorem sndS_s {k : Nat} (Q : SndS fa ca T n k) {c : Cc} {st : Stmt} {ir : C} {X : Cx} {W : WX} {w0 : Wd} (G : Good fa ca T n c X) (fr : FrOk X) (tk : Takes X W) (po : PassesOwn (model X.prog X.w) X.A X.env X.xe) (h : cS (k + 1) c st = some ir) : PS X st (tS fa ca (callF T n) W w0 ir) := by
  have S := snd_all (fa := fa) (ca := ca) (T := T) (n := n) k
  unfold cS at h
  by_cases hob : objS c st = true
  · rw [if_pos hob] at h
    exact os_ok G fr tk h
  rw [if_neg hob] at h
  split at h
  · cases h; exact ss_pass
  · cases h; exact ss_brk
  · cases h; exact ss_cont
  · cases h; exact ss_retN
  · obtain ⟨a, e1, rfl⟩ := omap_some h
    exact frzd_ok (ss_ret (S.e G tk e1 fun e => absurd e v_f))
  · obtain ⟨t, e0, h⟩ := obind_some h
    obtain ⟨a, b, e1, e2, rfl⟩ := map2_some h
    exact frzd_ok (ss_if (S.t G tk e0) (Q.ss G fr tk po e1) (Q.ss G fr tk po e2))
  · split at h
    · rename_i hs
      rw [Bool.and_eq_true] at hs
      obtain ⟨hh, hs⟩ := hs
      obtain ⟨t, e0, h⟩ := obind_some h
      obtain ⟨i, e1, h⟩ := obind_some h
      obtain ⟨b, e2, rfl⟩ := omap_some h
      exact frzd_ok (ss_for po (G.calm (by simpa using hh)) (S.i G tk e1 v_f) (pg_ok G e0) (Q.ss G fr tk po e2) fun x => noSet_fold hs)
    · cases h
  · obtain ⟨t, e0, h⟩ := obind_some h
    obtain ⟨b, e2, rfl⟩ := omap_some h
    exact ss_whl po (S.t G tk e0) (Q.ss G fr tk po e2)
  · split at h
    · rename_i hl
      obtain ⟨i, e1, h⟩ := obind_some h
      exact meth_ok G tk e1 hl h
    · cases h
  · split at h
    · rename_i hc
      obtain ⟨a, e1, rfl⟩ := omap_some h
      exact frzd_ok (ss_ex (noComp_swaps hc) (S.e G tk e1 fun e => absurd e b_f))
    · cases h
  · exact asg_ok G fr.kind tk h
  · split at h
    · rename_i hc
      obtain ⟨i, e0, h⟩ := obind_some h
      obtain ⟨a, b, e1, e2, rfl⟩ := map2_some h
      obtain ⟨x1, x2, x3, x4⟩ := slot_ok G e0
      exact frzd_ok (ss_put (by have := G.un; omega) x1 x2 x3 x4 (noComp_swaps hc) (S.e G tk e1 fun e => absurd e v_f) (S.e G tk e2 fun e => absurd e v_f))
    · cases h
  · obtain ⟨hh, h⟩ := hot_no h
    split at h
    · rename_i vs k2 p2
      obtain ⟨o, e0, h⟩ := obind_some h
      split at h
      · rename_i names
        split at h
        · rename_i hl
          obtain ⟨is, e1, h⟩ := obind_some h
          split at h
          · rename_i hn
            obtain ⟨a, e2, h⟩ := obind_some h
            exact par_ok G hh fr.kind tk e0 e1 (of_decide_eq_true hn) hl e2 h
          · cases h
        · cases h
      · obtain ⟨is, e1, h⟩ := obind_some h
        split at h
        · rename_i hl
          obtain ⟨a, e2, h⟩ := obind_some h
          exact par0_ok G hh fr.kind tk e0 e1 (by simpa using hl) e2 h
        · obtain ⟨a, e2, rfl⟩ := omap_some h
          exact frzd_ok (unp_ok G hh tk (swap_ok G.sc fr.kind e0) rfl e1 e2)
    · rename_i hne
      split at h
      · rename_i hc
        obtain ⟨is, e1, h⟩ := obind_some h
        obtain ⟨a, e2, rfl⟩ := omap_some h
        exact frzd_ok (unp_ok G hh tk (swap_none hne) hc e1 e2)
      · cases h
  · rename_i x p m j p2 pos pos2
    split at h
    · rename_i hq
      cases h
      rw [Bool.and_eq_true, Bool.and_eq_true, Bool.and_eq_true] at hq
      obtain ⟨hq, hh⟩ := hq
      obtain ⟨C, B, newId, initId, bmB, x1, x2, x3, x4, x5, x6⟩ := (G.exs x hq.1.1).ex
      exact ss_rse x1 (ps_raise (G.calm (by simpa using hh)) tk (pmk_own x2 x3 x4 x5 x6 (glob_ok G hq.1.2) (okGlob_ok hq.2).1))
    · cases h
  · rename_i body x p n1 y p2 n2 p3 p4 p5 p6
    split at h
    · rename_i hq
      simp only [Bool.and_eq_true, beq_iff_eq] at hq
      obtain ⟨⟨⟨⟨⟨⟨h1, h2⟩, h3⟩, h4⟩, rfl⟩, h6⟩, h7⟩ := hq
      obtain ⟨i, e0, h⟩ := obind_some h
      obtain ⟨j, e1, h⟩ := obind_some h
      obtain ⟨b, e2, rfl⟩ := omap_some h
      obtain ⟨C, q1, q2, q3⟩ := G.exm x h1
      obtain ⟨x1, x2, x3⟩ := slotT_ok G e1
      unfold okName at h7
      rw [Bool.and_eq_true, Bool.not_eq_true', Bool.not_eq_true'] at h7
      exact ss_tryK fr.stack fr.frame fr.ex G.nd (by rw [G.nn]; exact ixOf_some e0) (by show X.env.scope.names.lookup n1 = _; rw [G.sc]; exact kindB_ok h6) x1 x2 x3 h7.1 h7.2 ⟨glob_ok G h2, (okGlob_ok h3).1, .inl q1⟩ G.cax q3
        fun W pn xe tk' po' => Q.ss (G.tr pn xe) ⟨fr.kind, fr.stack, fr.frame, fr.ex⟩ tk' po' e2
    · cases h
  · cases h
theorem sndS_all : ∀ k : Nat, SndS fa ca T n k
  | 0 => ⟨fun _ _ _ _ h => (by cases h), fun _ _ _ _ h => (by cases h)⟩
  | k + 1 =>
    have Q := sndS_all k
    ⟨sndS_s Q, fun {c sts ir X W w0} G fr tk po h => by
      match sts, h with
      | [], h =>
        cases h
        exact ss_nil
      | s :: r, h =>
        obtain ⟨b, e2, rfl⟩ := omap_some (show (cSs k c r).map (C.seq ((cS k c s).getD .stuck)) = some ir from h)
        refine ss_cons ?_ (Q.ss G fr tk po e2)
        cases e1 : cS k c s with
        | none => exact ss_stuck
        | some a => exact Q.s G fr tk po e1⟩
/-! ### defs -/
/-- what is known of the text: the defs' names, constants, built-ins, exceptions, the class, which defs make lambdas -/
structure Txt9 where
  isF : Str → Bool
  cs : Str → Option D
  bl : Str → Bool
  ex : Str → Bool
  cl : Option (Str × List Str × List Str)
  tl : Str → Bool
def ctxOf (N : List Str) (sc : Scope) (t : Txt9) (tl : Bool) : Cc := ⟨N, sc, fun _ => true, t.isF, t.cs, t.bl, t.ex, false, tl, t.cl⟩
/-- .. where an exception is handled -/
def ctxH (N : List Str) (sc : Scope) (t : Txt9) : Cc := ⟨N, sc, fun _ => true, fun _ => false, t.cs, t.bl, t.ex, true, false, none⟩
structure ExcK (K : PySem.W.Frag) (mg : Str → Option Value) (ca : CA) (x : Str) : Prop where
  ex : ∃ (C : Addr) (B newId initId : String) (bmB : List Value), ca x = some C ∧ ExcBaseFacts B newId initId bmB ∧ PySem.W.excIn K C bmB newId = true ∧ mg x = some (.ref C) ∧ PySem.W.keepIn K (.ref C) = true ∧ PySem.W.subIn K (.ref C) (.type "BaseException") = some true ∧ PySem.W.typeIn K (.ref C) = some (.type "type")
/-- the name of a lambda of the def -/
def lamQ (qual : Str) : Str := qual ++ ".<locals>." ++ "<lambda>"
/-- a def of the text, as the head leaves it -/
structure Def9 (K : PySem.W.Frag) (mg : Str → Option Value) (base : Heap) (fa : FA) (T : Str → Option Fn) (t : Txt9) (key x qual : Str) (A : Addr) (fd : FuncData) (ps : List Str) : Prop where
  ex : ∃ (g : Fn) (st : Stmt) (N : List Str) (k : Nat), T key = some g ∧ Fun K x qual st A fd ∧ FnScope N ps (defScope st) ∧ Binds K fd ps [] ∧ g.ps = ps.length ∧ g.ns = N.length ∧ cSs k (ctxOf N (defScope st) t (t.tl key)) (defBody st) = some g.body
  tab : t.tl key = true → ∃ c P, fd.code = .ref c ∧ LamX.TabB base mg c P ∧ (P, lamQ qual) ∈ fa.T ∧ ∀ p ∈ fa.T, p.1 = P → p.2 = lamQ qual
/-- all that is known -/
structure All9 (P : Program) (w : World) (K : PySem.W.Frag) (mg : Str → Option Value) (base : Heap) (fa : FA) (ca : CA) (T : Str → Option Fn) (t : Txt9) : Prop where
  kf : KF fa K
  fns : ∀ f, t.isF f = true → ∃ A fd ps, fa f = some A ∧ mg f = some (.ref A) ∧ PySem.W.keepIn K (.ref A) = true ∧ Def9 K mg base fa T t f f f A fd ps
  cs : ∀ x d, t.cs x = some d → ∃ v u, mg x = some u ∧ RelV v u ∧ scalar d = true ∧ ∀ w, R fa w d v
  bl : ∀ x, t.bl x = true → mg x = none
  exs : ∀ x, t.ex x = true → ExcK K mg ca x
  exi : ExcI fa K
  exm : ∀ x, t.ex x = true → ∃ C, mg x = some (.ref C) ∧ fa.x x = some C ∧ ∀ y D, fa.x y = some D → exSub y x = true → PySem.W.exmOne K (.ref D) (.ref C) = some true
  cax : ∀ c C, ca c = some C → fa.x c = some C
  cls : ∀ C fs ms, t.cl = some (C, fs, ms) → ∃ A : Addr, fa.c C = some A ∧ mg C = some (.ref A) ∧ Cls K A ∧ (∀ f ∈ fs, NoAttr K A f) ∧
    (∃ f fd ps, Mk K A f ∧ Def9 K mg base fa T t (mName C "__init__") "__init__" (mName C "__init__") f fd ps) ∧ ∀ m ∈ ms, ∃ f fd ps, Meth K A m f ∧ Def9 K mg base fa T t (mName C m) m (mName C m) f fd ps
  tol : (∃ f, t.tl f = true) → TolB fa P w K mg base
theorem er_start {w : Wd} {ds : List D} {vs : List V} {N : List Str} {ps ns : Nat} (r : Rs fa w ds vs) (h1 : ds.length = ps) (h2 : ns = N.length) (h3 : ps ≤ ns) : ER fa w (ds.map .val ++ List.replicate (ns - ps) .no) (L2.start N vs) where
  len := by
    unfold L2.start
    rw [List.length_append, List.length_append, List.length_map, List.length_map, List.length_replicate, List.length_replicate, ← r.length, h1, h2]
  at_ := fun i s ov e1 e2 => by
    unfold L2.start at e2
    by_cases hi : i < ds.length
    · rw [List.getElem?_append_left (by rw [List.length_map]; exact hi), List.getElem?_map, List.getElem?_eq_getElem hi] at e1
      cases e1
      obtain ⟨v, q1, q2⟩ := r.get (List.getElem?_eq_getElem hi)
      rw [List.getElem?_append_left (by rw [List.length_map, ← r.length]; exact hi), List.getElem?_map, q1] at e2
      cases e2
      exact ⟨v, rfl, q2⟩
    · rw [List.getElem?_append_right (by rw [List.length_map]; omega), List.getElem?_replicate] at e1
      split at e1
      · cases e1
        trivial
      · cases e1
  sep := fun i j p s s' e1 o1 => by
    exfalso
    by_cases hi : i < ds.length
    · rw [List.getElem?_append_left (by rw [List.length_map]; exact hi), List.getElem?_map, List.getElem?_eq_getElem hi] at e1
      cases e1
      cases o1
    · rw [List.getElem?_append_right (by rw [List.length_map]; omega), List.getElem?_replicate] at e1
      split at e1
      · cases e1
        cases o1
      · cases e1
theorem no_own {ds : List D} {k i : Nat} {s : Sl} (e1 : (ds.map Sl.val ++ List.replicate k .no)[i]? = some s) (o1 : isOwn s = true) : False := by
  by_cases hi : i < ds.length
  · rw [List.getElem?_append_left (by rw [List.length_map]; exact hi), List.getElem?_map, List.getElem?_eq_getElem hi] at e1
    cases e1
    cases o1
  · rw [List.getElem?_append_right (by rw [List.length_map]; omega), List.getElem?_replicate] at e1
    split at e1
    · cases e1
      cases o1
    · cases e1
section
variable {P : Program} {w : World} {K : PySem.W.Frag} {mg : Str → Option Value} {base : Heap} {t : Txt9}
theorem Def9.binds {key x qual : Str} {A : Addr} {fd : FuncData} {ps : List Str} (d : Def9 K mg base fa T t key x qual A fd ps) : Binds K fd ps [] := by
  obtain ⟨g, st, N, k, h1, h2, h3, h4, _⟩ := d.ex
  exact h4
theorem tolX_of {CX : CXT} {N : List Str} {qual : Str} {sc : Scope} {A : Addr} {cdv : Value} {A' : Around} {outer : List PySem.Env} {s : Shared} {H : Hp} {E : XK} (h : ∃ c Pt, LamX.TabB base mg c Pt ∧ cdv = .ref c ∧ (Pt, lamQ qual) ∈ fa.T ∧ ∀ p ∈ fa.T, p.1 = Pt → p.2 = lamQ qual) :
    TolX fa (cxOf CX P w K mg base N qual sc A cdv A' outer s H E) := by
  obtain ⟨c, Pt, e1, e2, e3, e4⟩ := h
  exact ⟨c, Pt, e1, e2, e3, e4⟩
/-- every def does what the evaluator tells -/
theorem def_ok (L : All9 P w K mg base fa ca T t) : ∀ (n : Nat) {key x qual : Str} {A : Addr} {fd : FuncData} {ps : List Str}, Def9 K mg base fa T t key x qual A fd ps → FnOk P w K mg base (L2.CX P w) (4 * n) A fd ps (spF fa ca T n key) := by
  intro n
  induction n with
  | zero =>
    intro key x qual A fd ps d
    refine ⟨fun vs H Q E h => ?_, fun A outer s H args us vs Q E hr he hb hv h => ?_⟩
    · obtain ⟨w, S, ds, _, _, _, z⟩ := h
      exact z.elim
    · obtain ⟨w, S, ds, _, _, _, z⟩ := h
      exact z.elim
  | succ n ih =>
    intro key x qual A fd ps d
    obtain ⟨g, st, N, k, hg, F, S, hbi, hps, hns, hc⟩ := d.ex
    have hle : ps.length ≤ N.length := by
      have q := congrArg List.length S.pre
      rw [List.length_take] at q
      omega
    rw [show 4 * (n + 1) = 4 * n + 3 + 1 from rfl]
    obtain ⟨oc, od, kV, doc, pm, an, cdv, ct, osl, efd, lk, hcd⟩ := F.ex
    have htol : t.tl key = true → TolB fa P w K mg base := fun h => L.tol ⟨key, h⟩
    have htab : t.tl key = true → ∃ c Pt, LamX.TabB base mg c Pt ∧ cdv = .ref c ∧ (Pt, lamQ qual) ∈ fa.T ∧ ∀ p ∈ fa.T, p.1 = Pt → p.2 = lamQ qual := fun h => by
      obtain ⟨c, Pt, e1, e2, e3, e4⟩ := d.tab h
      have e5 : fd.code = cdv := by
        rw [efd]
      rw [e5] at e1
      exact ⟨c, Pt, e2, e1, e3, e4⟩
    rw [efd] at lk ⊢
    refine fn_of lk hcd S (fun vs H Q E h => ?_) (fun A' outer s H vs Q E hr h => ?_)
    · obtain ⟨w, S0, ds, _, _, r, z⟩ := h
      unfold callF at z
      rw [hg] at z
      simp only at z
      split at z
      · rename_i hl
        rw [← r.length, hl, hps]
      · exact z.elim
    · obtain ⟨w1, S0, ds, rfl, hok, r, z⟩ := h
      unfold callF at z
      rw [hg] at z
      simp only at z
      split at z
      · rename_i hl
        have G : Good fa ca T n (ctxOf N (defScope st) t (t.tl key)) (cxOf (L2.CX P w) P w K mg base N qual (defScope st) A cdv A' outer s w1.H E) := {
          nn := rfl
          nd := S.nd
          sc := rfl
          fx := fun _ _ => rfl
          calm := fun _ => rfl
          rm := fun _ => hr.mono (by omega)
          un := by
            have := hr.un
            show (A'.deeper (PyProof.Rows.envOfC qual (defScope st) s.heap.objs.size A cdv)).units + 100 < cLine
            omega
          kf := L.kf
          fns := fun f' hf' => by
            obtain ⟨A2, fd2, ps2, q1, q2, q3, q4⟩ := L.fns f' hf'
            exact ⟨A2, fd2, ps2, q1, ih q4, q2, q3, q4.binds⟩
          csts := L.cs
          bls := L.bl
          exs := fun x hx => by
            obtain ⟨C, B, newId, initId, bmB, x1, x2, x3, x4, x5, x6, x7⟩ := (L.exs x hx).ex
            exact ⟨C, B, newId, initId, bmB, x1, x2, x3, x4, x5, raises_own x6 x7⟩
          exi := L.exi
          exm := L.exm
          cax := L.cax
          cls := fun C fs ms h => by
            obtain ⟨A2, q1, q2, q3, q4, ⟨f2, fd2, ps2, q5, q6⟩, q7⟩ := L.cls C fs ms h
            refine ⟨A2, q1, q2, q3, q4, ⟨f2, fd2, ps2, q5, ih q6, q6.binds⟩, fun m hm => ?_⟩
            obtain ⟨f3, fd3, ps3, r1, r2⟩ := q7 m hm
            exact ⟨f3, fd3, ps3, r1, ih r2, r2.binds⟩
          tol := fun h => ⟨hr, htol h, tolX_of (htab h)⟩ }
        refine ⟨tS fa ca (callF T n) (fun c d _ H => E c d H) w1 g.body, (sndS_all k).ss G ⟨S.kind, rfl, rfl, rfl⟩ (takes_of rfl rfl rfl rfl) (passes_of rfl) hc, w1, _, S0, rfl, ⟨Step.refl w1, hok, er_start (ps := g.ps) (ns := g.ns) r hl hns (by omega), fun i s p e1 o1 _ => (no_own e1 o1).elim⟩, ?_⟩
        cases e : exS (callF T n) g.body (ds.map .val ++ List.replicate (g.ns - g.ps) .no) S0 with
        | nx env S1 =>
          simp only [e] at z
          exact fun w' σ _ i => z w' .non i.st i.ok .non
        | rt d S1 =>
          simp only [e] at z
          exact fun w' v st k r => z w' v st k r
        | ct env S1 =>
          simp only [e] at z
          exact z.elim
        | bk env S1 =>
          simp only [e] at z
          exact z.elim
        | ex c env S1 =>
          simp only [e] at z
          exact fun w' σ C _ i e => z w' C i.st i.ok e
        | no =>
          simp only [e] at z
          exact z.elim
      · exact z.elim
end
end Mini
/-! The end of a law. -/
namespace Mini
open PySem PySem.Spec PyProof.Rows L2
def AllL {α : Type} (P : α → Prop) : List α → Prop
  | [] => True
  | x :: r => P x ∧ AllL P r
theorem AllL.mem {α : Type} {P : α → Prop} : ∀ {l : List α}, AllL P l → ∀ x ∈ l, P x
  | [], _, x, h => by cases h
  | y :: r, h, x, hx => by
    rcases List.mem_cons.mp hx with rfl | hx
    · exact h.1
    · exact AllL.mem h.2 x hx
def tabF (t : List (Str × Fn)) (f : Str) : Option Fn := t.lookup f
theorem lookup_mem {α : Type} : ∀ {t : List (Str × α)} {f : Str} {g : α}, t.lookup f = some g → (f, g) ∈ t
  | [], _, _, h => by cases h
  | (x, y) :: r, f, g, h => by
    rw [List.lookup_cons] at h
    split at h
    · rename_i e
      cases h
      rw [beq_iff_eq.mp e]
      exact List.mem_cons_self
    · exact List.mem_cons_of_mem _ (lookup_mem h)
/-- the defs' addresses, as the written part has them -/
def nmK (K : PySem.W.Frag) (x : Str) : Option Addr := match PySem.W.nsIn K mainGlobals x with
  | some (some (.ref A)) => some A
  | _ => none
theorem nmK_some {K : PySem.W.Frag} {x : Str} {A : Addr} (h : nmK K x = some A) : PySem.W.nsIn K mainGlobals x = some (some (.ref A)) := by
  unfold nmK at h
  split at h
  · rename_i B e
    cases h
    exact e
  · cases h
/-- makers: a def's name, its code object, its table -/
abbrev Mkr := List (Str × Addr × Addr)
def excA (K : PySem.W.Frag) (exs : List Str) (x : Str) : Option Addr := if exs.contains x then nmK K x else none
def clsA (K : PySem.W.Frag) (cl : Option (Str × List Str × List Str)) (x : Str) : Option Addr := match cl with
  | some (n, _, _) => if x == n then nmK K x else none
  | none => none
def faK (K : PySem.W.Frag) (exs : List Str) (cl : Option (Str × List Str × List Str)) (mk : Mkr) : FA :=
  ⟨nmK K, fun a ns => ∃ (o : Obj) (its : Array Value) (n : Nat), K.lookup a = some o ∧ o.cls = .type "list" ∧ o.dict = none ∧ o.data = .seq its n ∧ its.size ≤ sizeLine ∧ Vals (ns.map V.int) its.toList, clsA K cl, excA K exs, mk.map fun q => (q.2.2, lamQ q.1)⟩
/-- what is known of a def's text alone -/
structure Stat (t : Txt9) (tl : Bool) (st : Stmt) (f qual : Str) (g : Fn) (ps : List Str) : Prop where
  ex : ∃ (N : List Str) (k : Nat), FnScope N ps (defScope st) ∧ g.ps = ps.length ∧ g.ns = N.length ∧ cSs k (ctxOf N (defScope st) t tl) (defBody st) = some g.body
  bind : ∀ (kV doc pm : Value) (an : Option Addr) (cdv ct : Value) (us : List Value), us.length = ps.length → bindArgs (PySem.W.fnOf f qual (defArgs st) (defBody st) (defScope st) .none kV doc pm an cdv ct) ⟨us, []⟩ = pure (ps.zip us)
/-- .. and of where it stands -/
def AtA (K : PySem.W.Frag) (st : Stmt) (f qual : Str) (A : Addr) : Prop := ∃ (oc : Value) (od an : Option Addr) (kV dc pm cd ct : Value) (sl : Array (Option Value)), K.lookup A = some ⟨oc, od, .func (PySem.W.fnOf f qual (defArgs st) (defBody st) (defScope st) .none kV dc pm an cd ct), sl⟩ ∧ PySem.W.codeIn K cd qual = true ∧ PySem.W.keepIn K (.ref A) = true
def AtK (K : PySem.W.Frag) (st : Stmt) (f : Str) : Prop := ∃ A : Addr, PySem.W.nsIn K mainGlobals f = some (some (.ref A)) ∧ AtA K st f f A
theorem atK_mk {K : PySem.W.Frag} {st : Stmt} {f : Str} {A : Addr} {oc : Value} {od an : Option Addr} {kV dc pm cd ct : Value} {sl : Array (Option Value)} (a : PySem.W.nsIn K mainGlobals f = some (some (.ref A))) (l : K.lookup A = some ⟨oc, od, .func (PySem.W.fnOf f f (defArgs st) (defBody st) (defScope st) .none kV dc pm an cd ct), sl⟩)
    (c : PySem.W.codeIn K cd f = true) (k : PySem.W.keepIn K (.ref A) = true) : AtK K st f := ⟨A, a, oc, od, an, kV, dc, pm, cd, ct, sl, l, c, k⟩
def CstK (K : PySem.W.Frag) (x : Str) (d : D) : Prop := ∃ v u, PySem.W.nsIn K mainGlobals x = some (some u) ∧ RelV v u ∧ scalar d = true ∧ ∀ fa w, R fa w d v
theorem cstK_int {K : PySem.W.Frag} {x : Str} {i : Int} {t : Tok} (h : PySem.W.nsIn K mainGlobals x = some (some (.int i t))) : CstK K x (.int i) := ⟨.int i, _, h, ⟨t, rfl⟩, rfl, fun _ _ => .int i⟩
theorem cstK_str {K : PySem.W.Frag} {x z : Str} {t : Tok} (h : PySem.W.nsIn K mainGlobals x = some (some (.str z t))) : CstK K x (.str z) := ⟨.str z, _, h, ⟨t, rfl⟩, rfl, fun _ _ => .str z⟩
def BlK (K : PySem.W.Frag) (x : Str) : Prop := PySem.W.nsIn K mainGlobals x = some none
theorem blK_mk {K : PySem.W.Frag} {x : Str} (h : PySem.W.nsIn K mainGlobals x = some none) : BlK K x := h
def ExK (K : PySem.W.Frag) (x : Str) : Prop := ∃ (C : Addr) (B newId initId : String) (bmB : List Value), PySem.W.nsIn K mainGlobals x = some (some (.ref C)) ∧ ExcBaseFacts B newId initId bmB ∧ PySem.W.excIn K C bmB newId = true ∧ PySem.W.keepIn K (.ref C) = true ∧ PySem.W.subIn K (.ref C) (.type "BaseException") = some true ∧ PySem.W.typeIn K (.ref C) = some (.type "type")
theorem exK_mk {K : PySem.W.Frag} {x : Str} {C : Addr} {B newId initId : String} {bmB : List Value} (F : ExcBaseFacts B newId initId bmB) (a : PySem.W.nsIn K mainGlobals x = some (some (.ref C))) (q : PySem.W.excIn K C bmB newId = true) (k : PySem.W.keepIn K (.ref C) = true) (s : PySem.W.subIn K (.ref C) (.type "BaseException") = some true) (t : PySem.W.typeIn K (.ref C) = some (.type "type")) : ExK K x :=
  ⟨C, B, newId, initId, bmB, a, F, q, k, s, t⟩
/-- a statement of a class's body -/
def clsS : Stmt → Nat → Stmt
  | .ClassDef _ _ _ body .., j => body.getD j (.Pass ⟨0, 0, 0, 0⟩)
  | _, _ => .Pass ⟨0, 0, 0, 0⟩
/-- .. of a method -/
def AtM (K : PySem.W.Frag) (C : Str) (st : Stmt) (m : Str) : Prop := ∃ A f : Addr, nmK K C = some A ∧ PySem.W.findIn K (.ref A) m = some (some (.ref f)) ∧ AtA K st m (mName C m) f
theorem atM_mk {K : PySem.W.Frag} {C m q : Str} {st : Stmt} {A f : Addr} {oc : Value} {od an : Option Addr} {kV dc pm cd ct : Value} {sl : Array (Option Value)} (eq : q = mName C m) (a : PySem.W.nsIn K mainGlobals C = some (some (.ref A))) (b : PySem.W.findIn K (.ref A) m = some (some (.ref f))) (l : K.lookup f = some ⟨oc, od, .func (PySem.W.fnOf m q (defArgs st) (defBody st) (defScope st) .none kV dc pm an cd ct), sl⟩)
    (c : PySem.W.codeIn K cd q = true) (k : PySem.W.keepIn K (.ref f) = true) : AtM K C st m := by
  subst eq
  refine ⟨A, f, ?_, b, oc, od, an, kV, dc, pm, cd, ct, sl, l, c, k⟩
  unfold nmK
  rw [a]
def clsB (K : PySem.W.Frag) (cl : Option (Str × List Str × List Str)) : Bool := match cl with
  | none => true
  | some (C, fs, ms) => match nmK K C with
    | none => false
    | some A => PySem.W.plainGet K A Str.empty && (PySem.W.hasDictIn K A && (PySem.W.plainOver K A && (PySem.W.findIn K (.ref A) "__setattr__" == some (some (.builtin "object.__setattr__")) && ((fs.all fun f => PySem.W.findIn K (.ref A) f == some none) && (PySem.W.makesIn K A && (PySem.W.keepIn K (.ref A) &&
      (("__init__" : Str) :: ms).all fun m => match PySem.W.findIn K (.ref A) m with
        | some (some (.ref f)) => PySem.W.isFn K (.ref f) && PySem.W.keepIn K (.ref f)
        | _ => false))))))
theorem clsB_ok {K : PySem.W.Frag} {C : Str} {fs ms : List Str} (h : clsB K (some (C, fs, ms)) = true) : ∃ A, nmK K C = some A ∧ Cls K A ∧ (∀ f ∈ fs, NoAttr K A f) ∧ (∀ f, PySem.W.findIn K (.ref A) "__init__" = some (some (.ref f)) → Mk K A f) ∧ ∀ m ∈ ms, ∀ f, PySem.W.findIn K (.ref A) m = some (some (.ref f)) → Meth K A m f := by
  unfold clsB at h
  simp only at h
  split at h
  · cases h
  · rename_i A e
    simp only [Bool.and_eq_true, beq_iff_eq] at h
    obtain ⟨h1, h2, h3, h4, h5, h6, h7, h8⟩ := h
    rw [List.all_cons, Bool.and_eq_true] at h8
    refine ⟨A, e, ⟨h1, h2, h3, h4⟩, fun f hf => beq_iff_eq.mp (List.all_eq_true.mp h5 f hf), fun f hf => ?_, fun m hm f hf => ?_⟩
    · have q := h8.1
      rw [hf, Bool.and_eq_true] at q
      exact ⟨h6, hf, q.1, h7⟩
    · have q := List.all_eq_true.mp h8.2 m hm
      rw [hf, Bool.and_eq_true] at q
      exact ⟨hf, q.1, q.2⟩
def scrD (ns : List Int) : D := .dict [(.list [], .list (ns.map .int))]
/-! ### the exceptions' classes -/
def excCB (K : PySem.W.Frag) (D : Addr) : Bool :=
  PySem.W.findIn K (.ref D) "__getattribute__" == some (some (.builtin "BaseException.__getattribute__")) && (PySem.W.findIn K (.ref D) "__getattr__" == some none && (PySem.W.subIn K (.ref D) (.type "BaseException") == some true && (PySem.W.hasDictIn K D && (PySem.W.findIn K (.ref D) "__class__" == some (some (.builtin "object.__class__")) &&
  (PySem.W.specialIn K (.builtin "object.__class__") "__get__" == some (some (.builtin "getset_descriptor.__get__")) && (PySem.W.takesIn K (.builtin "object.__class__") == some true && PySem.W.mroIn K D (.type "object") == some true))))))
theorem excCB_ok {K : PySem.W.Frag} {D : Addr} (h : excCB K D = true) : ExcC K D := by
  unfold excCB at h
  simp only [Bool.and_eq_true, beq_iff_eq] at h
  obtain ⟨h1, h2, h3, h4, h5, h6, h7, h8⟩ := h
  exact ⟨h1, h2, h3, h4, h5, h6, h7, h8⟩
def excP (K : PySem.W.Frag) (x t : Str) (D C : Addr) : Bool := PySem.W.kitOne K (.ref D) (.ref C) == some (exSub x t) && (!exSub x t || PySem.W.exmOne K (.ref D) (.ref C) == some true)
def excB (K : PySem.W.Frag) (exs : List Str) : Bool := exs.all fun x => match nmK K x with
  | some D => excCB K D && (PySem.W.kitOne K (.ref D) (.type "ValueError") == some true && exs.all fun t => match nmK K t with
    | some C => excP K x t D C
    | none => false)
  | none => false
section
variable {K : PySem.W.Frag} {exs : List Str}
theorem excA_some {x : Str} {D : Addr} (h : excA K exs x = some D) : x ∈ exs ∧ nmK K x = some D := by
  unfold excA at h
  split at h
  · rename_i q
    exact ⟨List.contains_iff_mem.mp q, h⟩
  · cases h
theorem excB_at (hb : excB K exs = true) {x : Str} {D : Addr} (h : excA K exs x = some D) : excCB K D = true ∧ PySem.W.kitOne K (.ref D) (.type "ValueError") = some true ∧ ∀ t C, excA K exs t = some C → PySem.W.kitOne K (.ref D) (.ref C) = some (exSub x t) ∧ (exSub x t = true → PySem.W.exmOne K (.ref D) (.ref C) = some true) := by
  obtain ⟨h1, h2⟩ := excA_some h
  have q := List.all_eq_true.mp hb x h1
  simp only [h2, Bool.and_eq_true, beq_iff_eq] at q
  refine ⟨q.1, q.2.1, fun t C ht => ?_⟩
  obtain ⟨t1, t2⟩ := excA_some ht
  have r := List.all_eq_true.mp q.2.2 t t1
  simp only [t2] at r
  unfold excP at r
  simp only [Bool.and_eq_true, Bool.or_eq_true, Bool.not_eq_true', beq_iff_eq] at r
  exact ⟨r.1, fun e => by
    rcases r.2 with z | z
    · rw [e] at z
      cases z
    · exact z⟩
end
/-! ### the word of a refusal -/
def classIr : C := .seq (.set 1 (.lst (.cons (.prim (.isx "IsDown") (.cons (.var 0) .nil)) (.cons (.prim (.isx "NoBack") (.cons (.var 0) .nil)) (.cons (.prim (.isx "NoBook") (.cons (.var 0) .nil)) (.cons (.prim (.isx "NoKey") (.cons (.var 0) .nil)) .nil))))))
  (.seq (.set 1 (.bin .add (.var 1) (.lst (.cons (.prim (.isx "NoLayout") (.cons (.var 0) .nil)) (.cons (.prim (.isx "NoNumber") (.cons (.var 0) .nil)) (.cons (.prim (.isx "NoPad") (.cons (.var 0) .nil)) .nil))))))
  (.seq (.set 1 (.bin .add (.var 1) (.lst (.cons (.prim (.isx "NoText") (.cons (.var 0) .nil)) (.cons (.prim (.isx "NotDown") (.cons (.var 0) .nil)) .nil)))))
  (.seq (.ife (.or_ (.cmp .ne (.lm1 .count (.var 1) true) (.cst (.int 1))) (.not_ (.prim (.isx "ValueError") (.cons (.var 0) .nil))))
  (.seq (.ret (.cst (.str "wrong")))
  .skip) .skip)
  (.seq (.set 2 (.lst (.cons (.cst (.str "is down")) (.cons (.cst (.str "no back")) (.cons (.cst (.str "no book")) (.cons (.cst (.str "no key")) (.cons (.cst (.str "no layout")) (.cons (.cst (.str "no number")) (.cons (.cst (.str "no pad")) (.cons (.cst (.str "no text")) (.cons (.cst (.str "not down")) .nil)))))))))))
  (.seq (.ret (.ix (.var 2) (.lm1 .index (.var 1) true)))
  .skip)))))
theorem class_tells (cl : Calls) (S : Sto) : ∀ {c wd : Str}, toldT.lookup c = some wd → exS cl classIr [.val (excD c), .no, .no] S = .rt (.str wd) S := by
  intro c wd h
  have hm := lookup_mem h
  simp only [toldT, List.mem_cons, Prod.mk.injEq, List.not_mem_nil, or_false] at hm
  rcases hm with ⟨rfl, rfl⟩ | ⟨rfl, rfl⟩ | ⟨rfl, rfl⟩ | ⟨rfl, rfl⟩ | ⟨rfl, rfl⟩ | ⟨rfl, rfl⟩ | ⟨rfl, rfl⟩ | ⟨rfl, rfl⟩ | ⟨rfl, rfl⟩ <;> kernel_rfl
end Mini
/-! The end of a law, with lambdas. -/
namespace Mini
open PySem PySem.Spec PyProof.Rows L2
/-- the texts of the defs that tell -/
structure ToldSt (t : Txt9) (stT stC : Stmt) : Prop where
  body : ∃ p1 p2 p3 p4 p5 p6 p7 p8 p9 p10, defBody stT = toldBody "deed" "WireError" "_law_class" "e" p1 p2 p3 p4 p5 p6 p7 p8 p9 p10
  scT : FnScope ["deed", "e"] ["deed"] (defScope stT)
  nm : (defScope stT).names.lookup ("deed" : Str) = some NameKind.local ∧ (defScope stT).names.lookup ("e" : Str) = some NameKind.local ∧ (defScope stT).names.lookup ("WireError" : Str) = some NameKind.globalImplicit ∧ (defScope stT).names.lookup ("_law_class" : Str) = some NameKind.globalImplicit
  scC : FnScope ["kept", "kinds", "some"] ["kept"] (defScope stC)
  ir : ∃ k, cSs k (ctxH ["kept", "kinds", "some"] (defScope stC) t) (defBody stC) = some classIr
  bT : ∀ (kV doc pm : Value) (an : Option Addr) (cdv ct : Value) (u : Value), bindArgs (PySem.W.fnOf "_law_told" "_law_told" (defArgs stT) (defBody stT) (defScope stT) .none kV doc pm an cdv ct) ⟨[u], []⟩ = pure [(("deed" : Str), u)]
  bC : ∀ (kV doc pm : Value) (an : Option Addr) (cdv ct : Value) (u : Value), bindArgs (PySem.W.fnOf "_law_class" "_law_class" (defArgs stC) (defBody stC) (defScope stC) .none kV doc pm an cdv ct) ⟨[u], []⟩ = pure [(("kept" : Str), u)]
section
variable {P : Program} {w : World} {K : PySem.W.Frag} {mg : Str → Option Value} {base : Heap} {fa : FA} {ca : CA} {T : Str → Option Fn} {t : Txt9}
theorem hot_class {stT stC : Stmt} {gc : Addr} (S : ToldSt t stT stC) (A : AtA K stC "_law_class" "_law_class" gc) (kf : KF fa K) (cs : ∀ x d, t.cs x = some d → ∃ v u, mg x = some u ∧ RelV v u ∧ scalar d = true ∧ ∀ w, R fa w d v) (bl : ∀ x, t.bl x = true → mg x = none) (exs : ∀ x, t.ex x = true → ExcK K mg ca x) (exi : ExcI fa K)
    (exm : ∀ x, t.ex x = true → ∃ C, mg x = some (.ref C) ∧ fa.x x = some C ∧ ∀ y D, fa.x y = some D → exSub y x = true → PySem.W.exmOne K (.ref D) (.ref C) = some true) (cax : ∀ c C, ca c = some C → fa.x c = some C) : HotFn P w K mg base 1 gc (spW fa) := by
  obtain ⟨oc, od, an, kV, dc, pm, cd, ct, sl, lk, hcd, hk⟩ := A
  obtain ⟨k, hc⟩ := S.ir
  refine run_hot (k := 0) (ps := []) lk hcd S.scC (fun s u => .of_eq (S.bC _ _ _ _ _ _ u)) fun X a H Q eP ew eK em eb eN es ef hun hkind hfr po hsp => ?_
  have G : Good fa ca (fun _ => none) 0 (ctxH ["kept", "kinds", "some"] (defScope stC) t) X := {
    nn := eN
    nd := by rw [eN]; exact S.scC.nd
    sc := es
    fx := fun x _ => by rw [ef]
    calm := fun h => (by cases h)
    rm := fun h => (by cases h)
    un := by omega
    kf := by rw [eK]; exact kf
    fns := fun f h => (by cases h)
    csts := by rw [em]; exact cs
    bls := by rw [em]; exact bl
    exs := fun x hx => by
      obtain ⟨C, B, newId, initId, bmB, x1, x2, x3, x4, x5, x6, x7⟩ := (exs x hx).ex
      exact ⟨C, B, newId, initId, bmB, x1, x2, by rw [eK]; exact x3, by rw [em]; exact x4, by rw [eK]; exact x5, raises_own (by rw [eK]; exact x6) (by rw [eK]; exact x7)⟩
    exi := by rw [eK]; exact exi
    exm := by rw [em, eK]; exact exm
    cax := cax
    cls := fun C fs ms h => (by cases h)
    tol := fun h => (by cases h) }
  obtain ⟨w1, S1, a1, c, wd, ev, rfl, ok, r, hw, fin⟩ := hsp
  cases ev
  refine ⟨tS fa ca (callF (fun _ => none) 0) (fun _ _ _ _ => False) w1 classIr, (sndS_all k).ss G ⟨hkind, hfr.1, hfr.2.1, hfr.2.2⟩ takes0 po hc, w1, [.val (excD c), .no, .no], S1, rfl, ⟨Step.refl w1, ok, er_start (ds := [excD c]) (ps := 1) (ns := 3) (.cons r .nil) rfl rfl (by decide), fun i s p e1 o1 _ => ?_⟩, ?_⟩
  · exact (no_own (ds := [excD c]) (k := 2) e1 o1).elim
  · rw [class_tells (callF (fun _ => none) 0) S1 hw]
    intro w' v st k' r'
    cases (show R fa w' (.str wd) v from r')
    exact fin w' st k'
theorem tolB_of {stT stC : Stmt} {g gc CW : Addr} (S : ToldSt t stT stC) (aT : AtA K stT "_law_told" "_law_told" g) (hg : mg "_law_told" = some (.ref g)) (aC : AtA K stC "_law_class" "_law_class" gc) (hgc : mg "_law_class" = some (.ref gc)) (hCW : mg "WireError" = some (.ref CW)) (hx : ∀ c C, fa.x c = some C → PySem.W.exmOne K (.ref C) (.ref CW) = some true) (F : HotFn P w K mg base 1 gc (spW fa)) : TolB fa P w K mg base := by
  obtain ⟨oc, od, an, kV, dc, pm, cd, ct, sl, lk, hcd, hk⟩ := aT
  obtain ⟨p1, p2, p3, p4, p5, p6, p7, p8, p9, p10, hb⟩ := S.body
  obtain ⟨oc2, od2, an2, kV2, dc2, pm2, cd2, ct2, sl2, lk2, hcd2, hk2⟩ := aC
  rw [hb] at lk
  refine ⟨g, CW, gc, oc, .none, kV, dc, pm, cd, ct, od, an, sl, defArgs stT, defScope stT, ["deed", "e"], p1, p2, p3, p4, p5, p6, p7, p8, p9, p10, hg, hk, lk, hcd, ?_, S.scT, rfl, S.nm.1, S.nm.2.1, S.nm.2.2.1, S.nm.2.2.2, hCW, hx, hgc, hk2, F⟩
  refine .all fun us hl => ?_
  match us, hl with
  | [u], _ =>
    have q := S.bT kV dc pm an cd ct u
    rw [hb] at q
    exact q
end
/-! ### the end -/
def clNm (cl : Option (Str × List Str × List Str)) : Str := match cl with
  | some (n, _, _) => n
  | none => ""
section
variable {tab tabA mtab : List (Str × Fn)} {sts msts : List (Str × Stmt)} {cl : Option (Str × List Str × List Str)} {cst : List (Str × D)} {bls exs mkN : List Str}
def txt9 (tab : List (Str × Fn)) (cst : List (Str × D)) (bls exs : List Str) (cl : Option (Str × List Str × List Str)) (mk : List Str) : Txt9 :=
  ⟨fun f => (tab.lookup f).isSome, fun x => cst.lookup x, fun x => bls.contains x, fun x => exs.contains x, cl, fun f => mk.contains f⟩
def mkOf (K : PySem.W.Frag) (mkN : List Str) : Mkr := mkN.filterMap fun f => (PySem.W.tabIn K f).map fun q => (f, q)
theorem mkOf_mem {K : PySem.W.Frag} {mkN : List Str} {q : Str × Addr × Addr} (h : q ∈ mkOf K mkN) : q.1 ∈ mkN ∧ PySem.W.tabIn K q.1 = some q.2 := by
  obtain ⟨f, hf, e⟩ := List.mem_filterMap.mp h
  obtain ⟨p, e1, e2⟩ := Option.map_eq_some_iff.mp e
  rw [← e2]
  exact ⟨hf, e1⟩
def makB (K : PySem.W.Frag) (mkN : List Str) : Bool := mkN.all fun f => match PySem.W.tabIn K f with
  | some (c, P) => PySem.W.codeHdIn K c P && ((K.lookup P).isNone && mkN.all fun f' => match PySem.W.tabIn K f' with
    | some (_, P') => !(P' == P) || f' == f
    | none => false)
  | none => false
theorem makB_ok {K : PySem.W.Frag} {mkN : List Str} (h : makB K mkN = true) : (∀ f ∈ mkN, ∃ p, PySem.W.tabIn K f = some p) ∧ (∀ q ∈ mkOf K mkN, PySem.W.codeHdIn K q.2.1 q.2.2 = true ∧ K.lookup q.2.2 = none) ∧ ∀ q ∈ mkOf K mkN, ∀ p ∈ mkOf K mkN, p.2.2 = q.2.2 → p.1 = q.1 := by
  have at_ : ∀ f ∈ mkN, ∃ c P, PySem.W.tabIn K f = some (c, P) ∧ PySem.W.codeHdIn K c P = true ∧ K.lookup P = none ∧ ∀ f' ∈ mkN, ∀ c' P', PySem.W.tabIn K f' = some (c', P') → P' = P → f' = f := fun f hf => by
    have q := List.all_eq_true.mp h f hf
    split at q
    · rename_i c P e
      simp only [Bool.and_eq_true, Option.isNone_iff_eq_none] at q
      refine ⟨c, P, e, q.1, q.2.1, fun f' hf' c' P' e' eP => ?_⟩
      have r := List.all_eq_true.mp q.2.2 f' hf'
      simp only [e', Bool.or_eq_true, Bool.not_eq_true', beq_eq_false_iff_ne, beq_iff_eq] at r
      rcases r with r | r
      · exact absurd eP r
      · exact r
    · cases q
  refine ⟨fun f hf => ?_, fun q hq => ?_, fun q hq p hp e => ?_⟩
  · obtain ⟨c, P, e, _⟩ := at_ f hf
    exact ⟨_, e⟩
  · obtain ⟨h1, h2⟩ := mkOf_mem hq
    obtain ⟨c, P, e, e1, e2, _⟩ := at_ q.1 h1
    rw [h2] at e
    rw [Option.some.inj e]
    exact ⟨e1, e2⟩
  · obtain ⟨h1, h2⟩ := mkOf_mem hq
    obtain ⟨g1, g2⟩ := mkOf_mem hp
    obtain ⟨c, P, e0, e1, e2, e3⟩ := at_ q.1 h1
    rw [h2] at e0
    have eP : q.2.2 = P := congrArg (·.2) (Option.some.inj e0)
    exact e3 p.1 g1 p.2.1 p.2.2 g2 (e.trans eP)
def tabsB (K : PySem.W.Frag) (mkN : List Str) (ts : List Addr) : Bool := mkN.all fun f => match PySem.W.tabIn K f with
  | some (_, P) => ts.contains P
  | none => false
theorem tabs_in {K : PySem.W.Frag} {mkN : List Str} {ts : List Addr} (h : tabsB K mkN ts = true) : ∀ f ∈ mkN, ∀ p, PySem.W.tabIn K f = some p → p.2 ∈ ts := fun f hf p e => by
  have q := List.all_eq_true.mp h f hf
  obtain ⟨c, P⟩ := p
  simp only [e] at q
  exact List.contains_iff_mem.mp q
/-- the end: all is known of the written part, and the evaluator says True -/
theorem end9 {l : PySem.W.OpenLaw} {q : Program} {loose : List Str} {XP : (Str → Option Value) → Heap → Prop} {YP : World → Heap → Prop} {d : DefRec} {K : Params → PySem.W.Frag} (n : Nat) {gL : Fn} {stL stT stC : Stmt}
    (hn : l.most = some 63) (hdf : d.params.defaults = []) (hd : d.name = "law") (hr : Room (4 * (n + 1)) callerA) (hY : ∀ (w : World) (h : Heap), YP w h → (K w.params).In h)
    (hYT : ∀ (w : World) (h : Heap), YP w h → ∀ f ∈ mkN, ∀ p, PySem.W.tabIn (K w.params) f = some p → h.get? p.2 = some (PySem.W.tabObj #[]))
    (hst : AllL (fun p => ∃ st ps, sts.lookup p.1 = some st ∧ Stat (txt9 tab cst bls exs cl mkN) (mkN.contains p.1) st p.1 p.1 p.2 ps) tab)
    (hL : tab.lookup ("law" : Str) = some gL) (hsL : sts.lookup ("law" : Str) = some stL) (hstL : Stat (txt9 tab cst bls exs cl mkN) (mkN.contains ("law" : Str)) stL "law" "law" gL ["script"])
    (hT : mkN ≠ [] → sts.lookup ("_law_told" : Str) = some stT ∧ sts.lookup ("_law_class" : Str) = some stC ∧ ToldSt (txt9 tab cst bls exs cl mkN) stT stC ∧ exs.contains ("WireError" : Str) = true)
    (hK : ∀ (w : World) (mg : Str → Option Value) (fa : Addr) (h : Heap), (K w.params).In h → h.Ns mainGlobals mg → mg d.name = some (.ref fa) →
      AllL (fun p => AtK (K w.params) p.2 p.1) sts ∧ AllL (fun p => CstK (K w.params) p.1 p.2) cst ∧ AllL (BlK (K w.params)) bls ∧ AllL (ExK (K w.params)) exs ∧ excB (K w.params) exs = true ∧ makB (K w.params) mkN = true ∧ clsB (K w.params) cl = true ∧ AllL (fun p => AtM (K w.params) (clNm cl) p.2 p.1) msts)
    (hA : AllL (fun p : Str × Fn => tabA.lookup p.1 = some p.2) tab)
    (hM : ∀ C fs ms, cl = some (C, fs, ms) → (∀ m ∈ ("__init__" : Str) :: ms, (mtab.lookup m).isSome = true ∧ mkN.contains (mName C m) = false) ∧ AllL (fun p => ∃ st ps, msts.lookup p.1 = some st ∧ tabA.lookup (mName C p.1) = some p.2 ∧ Stat (txt9 tab cst bls exs cl mkN) false st p.1 (mName C p.1) p.2 ps) mtab)
    (law : ∀ ns : List Int, ns.length ≤ 63 → ∃ S, callF (tabF tabA) (n + 1) "law" [scrD ns] [] = .ok (.bool true) S) :
    PySem.W.WalkO q loose XP YP l.row.toRowW d [] (fun f vs => PySem.call f vs) := by
  refine LamX.walk_ofTs (l := l) (n := 63) (k := 4 * (n + 1)) (x := "script") (CX := fun w => L2.CX l.prog w) hn (by decide) hdf hr hY ?F (fun w H s e s' h => ?C)
  case C =>
    obtain ⟨_, _, _, _, _, _, _, _, _, _, _, _, z⟩ := h
    exact z
  case F =>
    intro w mg f0 h hy KX G hmg
    obtain ⟨k1, k2, k3, k4, k5, k6, k7, k8⟩ := hK w mg f0 h KX G hmg
    obtain ⟨m1, m2, hmk⟩ := makB_ok k6
    let KK := K w.params
    let mk := mkOf KK mkN
    let fa := faK KK exs cl mk
    let t := txt9 tab cst bls exs cl mkN
    have at1 : ∀ {f : Str} {st : Stmt}, sts.lookup f = some st → AtK KK st f := fun {f st} e => k1.mem (f, st) (lookup_mem e)
    have hcs : ∀ x d, t.cs x = some d → ∃ v u, mg x = some u ∧ RelV v u ∧ scalar d = true ∧ ∀ w1, R fa w1 d v := fun x d e => by
      obtain ⟨v, u, h1, h2, h3, h4⟩ := k2.mem (x, d) (lookup_mem e)
      exact ⟨v, u, PySem.W.mg_of KX G h1, h2, h3, h4 _⟩
    have hbl : ∀ x, t.bl x = true → mg x = none := fun x e => PySem.W.mg_none_of KX G (k3.mem x (List.contains_iff_mem.mp e))
    have hxA : ∀ x, t.ex x = true → ∃ C, PySem.W.nsIn KK mainGlobals x = some (some (.ref C)) ∧ fa.x x = some C := fun x e => by
      obtain ⟨C, B, newId, initId, bmB, h1, _⟩ := k4.mem x (List.contains_iff_mem.mp e)
      refine ⟨C, h1, ?_⟩
      show excA KK exs x = some C
      unfold excA
      rw [if_pos (show exs.contains x = true from e)]
      unfold nmK
      rw [show PySem.W.nsIn KK mainGlobals x = _ from h1]
    have hex : ∀ x, t.ex x = true → ExcK KK mg fa.x x := fun x e => by
      obtain ⟨C, B, newId, initId, bmB, h1, h2, h3, h4, h5, h6⟩ := k4.mem x (List.contains_iff_mem.mp e)
      obtain ⟨C', q1, q2⟩ := hxA x e
      have eC : C' = C := by
        rw [show PySem.W.nsIn KK mainGlobals x = _ from h1] at q1
        cases q1
        rfl
      subst eC
      exact ⟨C', B, newId, initId, bmB, q2, h2, h3, PySem.W.mg_of KX G h1, h4, h5, h6⟩
    have hxi : ExcI fa KK := ⟨fun x D hx => excCB_ok (excB_at k5 hx).1, fun x D t C hx ht => ((excB_at k5 hx).2.2 t C ht).1, fun x D hx => (excB_at k5 hx).2.1⟩
    have hxm : ∀ x, t.ex x = true → ∃ C, mg x = some (.ref C) ∧ fa.x x = some C ∧ ∀ y D, fa.x y = some D → exSub y x = true → PySem.W.exmOne KK (.ref D) (.ref C) = some true := fun x e => by
      obtain ⟨C, q1, q2⟩ := hxA x e
      exact ⟨C, PySem.W.mg_of KX G q1, q2, fun y D hy hs => ((excB_at k5 hy).2.2 x C q2).2 hs⟩
    have hkf : KF fa KK := fun a ns h => h
    have fun1 : ∀ {f : Str} {st : Stmt}, sts.lookup f = some st → ∃ A fd, PySem.W.nsIn KK mainGlobals f = some (some (.ref A)) ∧ Fun KK f f st A fd ∧ fa f = some A ∧ mg f = some (.ref A) := fun {f st} e => by
      obtain ⟨A, a, oc, od, an, kV, dc, pm, cd, ct, sl, lk, hcd, hk⟩ := at1 e
      refine ⟨A, _, a, fun_mk (st := st) lk hcd hk, ?_, PySem.W.mg_of KX G a⟩
      show nmK KK f = some A
      unfold nmK
      rw [a]
    have def9 : ∀ base : Heap, (∀ p ∈ mk.map (·.2), LamX.TabB base mg p.1 p.2) → ∀ {f : Str} {g : Fn} {st : Stmt} {ps : List Str} {A : Addr} {fd : FuncData}, tab.lookup f = some g → PySem.W.nsIn KK mainGlobals f = some (some (.ref A)) → Fun KK f f st A fd → Stat t (t.tl f) st f f g ps → Def9 KK mg base fa (tabF tabA) t f f f A fd ps := by
      intro base TB f g st ps A fd e1 a F s1
      obtain ⟨N, k, s2, s3, s4, s5⟩ := s1.ex
      refine ⟨⟨g, st, N, k, hA.mem (f, g) (lookup_mem e1), F, s2, F.binds s1.bind, s3, s4, s5⟩, fun htl => ?_⟩
      have hm : f ∈ mkN := List.contains_iff_mem.mp htl
      obtain ⟨p2, m1⟩ := m1 f hm
      have hp : (f, p2) ∈ mk := List.mem_filterMap.mpr ⟨f, hm, by rw [m1]; rfl⟩
      obtain ⟨p, ep⟩ : ∃ p : Str × Addr × Addr, p = (f, p2) := ⟨_, rfl⟩
      rw [← ep] at hp
      have ef : p.1 = f := by rw [ep]
      have m5 : PySem.W.tabIn (K w.params) p.1 = some p.2 := by rw [ep]; exact m1
      subst ef
      refine ⟨p.2.1, p.2.2, ?_, TB p.2 (List.mem_map.mpr ⟨p, hp, rfl⟩), List.mem_map.mpr ⟨p, hp, rfl⟩, fun q' hq' e => ?_⟩
      · obtain ⟨oc, od, kV, doc, pm, an, cdv, ct, osl, efd, lk, hcd⟩ := F.ex
        unfold PySem.W.tabIn at m5
        rw [show PySem.W.nsIn (K w.params) mainGlobals p.1 = _ from a] at m5
        simp only [show (K w.params).lookup A = _ from lk] at m5
        split at m5
        · rename_i c hc
          split at m5
          · split at m5
            · have e2 : _ = p.2 := Option.some.inj m5
              rw [hc, show p.2.1 = _ from congrArg (·.1) e2.symm]
            · cases m5
          · cases m5
        · cases m5
      · obtain ⟨p', hp', rfl⟩ := List.mem_map.mp hq'
        show lamQ p'.1 = lamQ p.1
        rw [hmk p hp p' hp' e]
    have all9 : ∀ base : Heap, (∀ p ∈ mk.map (·.2), LamX.TabB base mg p.1 p.2) → All9 l.prog w KK mg base fa fa.x (tabF tabA) t := fun base TB => {
      kf := hkf
      fns := fun f hf => by
        obtain ⟨g, hg⟩ := Option.isSome_iff_exists.mp hf
        obtain ⟨st, ps, e1, s1⟩ := hst.mem (f, g) (lookup_mem hg)
        obtain ⟨A, fd, q1, q2, q3, q4⟩ := fun1 e1
        exact ⟨A, fd, ps, q3, q4, q2.kp, def9 base TB hg q1 q2 s1⟩
      cs := hcs
      bl := hbl
      exs := hex
      exi := hxi
      exm := hxm
      cax := fun _ _ h => h
      cls := fun C fs ms h => by
        have h : cl = some (C, fs, ms) := h
        obtain ⟨n1, n2⟩ := hM C fs ms h
        have k7' := k7
        rw [h] at k7'
        obtain ⟨A, a1, a2, a3, a4, a5⟩ := clsB_ok k7'
        have one : ∀ m ∈ ("__init__" : Str) :: ms, ∃ f fd ps, PySem.W.findIn KK (.ref A) m = some (some (.ref f)) ∧ Def9 KK mg base fa (tabF tabA) t (mName C m) m (mName C m) f fd ps := fun m hm => by
          obtain ⟨i1, i2⟩ := n1 m hm
          obtain ⟨g, hg⟩ := Option.isSome_iff_exists.mp i1
          obtain ⟨st, ps, e1, e2, s1⟩ := n2.mem (m, g) (lookup_mem hg)
          obtain ⟨A', f, b1, b2, oc, od, an, kV, dc, pm, cd, ct, sl, lk, hcd, hk⟩ := k8.mem (m, st) (lookup_mem e1)
          rw [show clNm cl = C by rw [h]; rfl] at b1 lk hcd
          rw [show nmK KK C = some A from a1] at b1
          cases b1
          obtain ⟨N, k, s2, s3, s4, s5⟩ := s1.ex
          have F := fun_mk (st := st) lk hcd hk
          have htl : t.tl (mName C m) = false := i2
          refine ⟨f, _, ps, b2, ⟨⟨g, st, N, k, e2, F, s2, F.binds s1.bind, s3, s4, ?_⟩, fun z => ?_⟩⟩
          · rw [htl]
            exact s5
          · rw [htl] at z
            cases z
        refine ⟨A, ?_, PySem.W.mg_of KX G (nmK_some a1), a2, a3, ?_, fun m hm => ?_⟩
        · show clsA KK cl C = some A
          unfold clsA
          rw [h]
          simp only [beq_self_eq_true, if_true]
          exact a1
        · obtain ⟨f, fd, ps, o1, o2⟩ := one "__init__" List.mem_cons_self
          exact ⟨f, fd, ps, a4 f o1, o2⟩
        · obtain ⟨f, fd, ps, o1, o2⟩ := one m (List.mem_cons_of_mem _ hm)
          exact ⟨f, fd, ps, a5 m hm f o1, o2⟩
      tol := fun ⟨f, hf⟩ => by
        have hne : mkN ≠ [] := fun e => by
          subst e
          cases hf
        obtain ⟨e1, e2, e3, e4⟩ := hT hne
        obtain ⟨A, a, aT⟩ := at1 e1
        obtain ⟨B, b, aC⟩ := at1 e2
        obtain ⟨CW, c1, c2, c3⟩ := hxm "WireError" e4
        exact tolB_of e3 aT (PySem.W.mg_of KX G a) aC (PySem.W.mg_of KX G b) c1 (fun x C hx => c3 x C hx (by
          unfold exSub
          rw [show ((("WireError" : Str) == ("WireError" : Str))) = true from by decide, Bool.or_true, Bool.true_or])) (hot_class e3 aC hkf hcs hbl hex hxi hxm fun _ _ h => h) }
    obtain ⟨A, fd, q1, q2, q3, q4⟩ := fun1 hsL
    have eA : A = f0 := by
      rw [hd, q4] at hmg
      cases hmg
      rfl
    subst eA
    refine ⟨fd, mk.map (·.2), spF fa fa.x (tabF tabA) (n + 1) "law", fun p hp => ?_, fun p hp => ?_, fun p hp => ?_, fun s u => ?_, fun H a ns hl _ hH hS => ?_, fun base _ _ TB => ?_⟩
    · obtain ⟨p', hp', rfl⟩ := List.mem_map.mp hp
      obtain ⟨g1, g2⟩ := mkOf_mem hp'
      exact hYT w h hy p'.1 g1 p'.2 g2
    · obtain ⟨p', hp', rfl⟩ := List.mem_map.mp hp
      exact (m2 p' hp').2
    · obtain ⟨p', hp', rfl⟩ := List.mem_map.mp hp
      exact PySem.W.codeHd_of_K KX (m2 p' hp').1
    · obtain ⟨oc, od, kV, doc, pm, an, cdv, ct, osl, efd, lk, hcd⟩ := q2.ex
      rw [efd]
      exact .of_eq (hstL.bind _ _ _ _ _ _ [u] rfl)
    · have tabs : LamX.Tabs fa.T H := fun p hp => by
        obtain ⟨p', hp', rfl⟩ := List.mem_map.mp hp
        exact .nil (hH p'.2 (List.mem_map.mpr ⟨p', hp', rfl⟩))
      have sto : ∀ Z : Addr → Prop, StoR fa ⟨[], Z, H, []⟩ [] := fun Z => ⟨rfl, (fun n ob a e _ => by cases e), (fun n m a e _ => by cases e), (fun n ob e => by cases e), (fun n m a b C dx fs C' dx' fs' f g p ob ob' s s' e => by cases e)⟩
      have fin : ∀ w1 : Wd, w1.H = H → Ok fa w1 [] → R fa w1 (scrD ns) (.ref a) → spF fa fa.x (tabF tabA) (n + 1) "law" [.ref a] H (fun v _ => v = .bl true) fun _ _ _ => False := fun w1 e k r => by
        refine ⟨w1, [], [scrD ns], e, k, .cons r .nil, ?_⟩
        obtain ⟨Sz, hz⟩ := law ns hl
        rw [hz]
        intro w' v st k' rv
        cases (show R _ w' (.bool true) v from rv)
        rfl
      rcases hS with h | h
      · refine fin ⟨[], fun b => b = a, H, []⟩ rfl ⟨fun b hb => (by simp), fun b hb => (by cases hb), fun b hb => (by cases hb), fun b hb => ?_, tabs, sto _⟩ (.scr (.inl ⟨rfl, h⟩))
        have hb : b = a := hb
        subst hb
        rcases h with h | ⟨o, h⟩
        · exact nn_lst h
        · exact fun z => z.no h fun ps e => by cases e
      · exact fin ⟨[], fun b => False, H, []⟩ rfl ⟨fun b hb => hb.elim, fun b hb => (by cases hb), fun b hb => (by cases hb), fun b hb => hb.elim, tabs, sto _⟩ (.scr (.inr h))
    · exact def_ok (all9 base TB) (n + 1) (def9 base TB hL q1 q2 hstL)
end
end Mini
/-! Running the evaluator: loops, keys as data. -/
namespace Mini
open PySem L2
/-! ### loops -/
theorem loopC_ok {f : D → Sto → Res (Option D)} {g : D → Option D} {S : Sto} : ∀ {xs : List D}, (∀ x ∈ xs, f x S = .ok (g x) S) → loopC f xs S = .ok (xs.filterMap g) S
  | [], _ => rfl
  | x :: r, h => by
    unfold loopC
    have ih := loopC_ok (xs := r) fun y hy => h y (List.mem_cons_of_mem _ hy)
    simp only [h x List.mem_cons_self, ih]
    cases e : g x <;> simp [e]
/-- items that are told by a list of plain things -/
theorem loopC_map {α : Type} {f : D → Sto → Res (Option D)} {enc : α → D} {g : α → Option D} {S : Sto} : ∀ {xs : List α}, (∀ x ∈ xs, f (enc x) S = .ok (g x) S) → loopC f (xs.map enc) S = .ok (xs.filterMap g) S
  | [], _ => rfl
  | x :: r, h => by
    show loopC f (enc x :: r.map enc) S = _
    unfold loopC
    have ih := loopC_map (xs := r) fun y hy => h y (List.mem_cons_of_mem _ hy)
    simp only [h x List.mem_cons_self, ih]
    cases e : g x <;> simp [e]
theorem forL_inv {f : D → Mini.Env → Sto → RS} {S : Sto} (P : Nat → Mini.Env → Prop) : ∀ {xs : List D} {env : Mini.Env} (k : Nat), P k env → (∀ (i : Nat) x env, xs[i]? = some x → P (k + i) env → ∃ env', f x env S = .nx env' S ∧ P (k + i + 1) env') → ∃ env', forL f xs env S = .nx env' S ∧ P (k + xs.length) env'
  | [], env, k, h0, _ => ⟨env, rfl, h0⟩
  | x :: r, env, k, h0, hs => by
    obtain ⟨e1, h1, p1⟩ := hs 0 x env rfl h0
    obtain ⟨e2, h2, p2⟩ := forL_inv P (xs := r) (k + 1) p1 fun i y env' hi hp => by
      have q := hs (i + 1) y env' (by simpa using hi) (by rw [show k + (i + 1) = k + 1 + i by omega]; exact hp)
      rw [show k + (i + 1) + 1 = k + 1 + i + 1 by omega] at q
      exact q
    refine ⟨e2, ?_, by rw [List.length_cons, show k + (r.length + 1) = k + 1 + r.length by omega]; exact p2⟩
    unfold forL
    rw [h1]
    exact h2
theorem forL_each {α : Type} {f : D → Mini.Env → Sto → RS} {S : Sto} {enc : α → D} (P : Mini.Env → Prop) : ∀ {xs : List α} {env : Mini.Env}, P env → (∀ x ∈ xs, ∀ env, P env → ∃ env', (f (enc x) env S = .nx env' S ∨ f (enc x) env S = .ct env' S) ∧ P env') → ∃ env', forL f (xs.map enc) env S = .nx env' S ∧ P env'
  | [], env, h0, _ => ⟨env, rfl, h0⟩
  | x :: r, env, h0, hs => by
    obtain ⟨e1, h1, p1⟩ := hs x List.mem_cons_self env h0
    obtain ⟨e2, h2, p2⟩ := forL_each P (xs := r) p1 fun y hy => hs y (List.mem_cons_of_mem _ hy)
    refine ⟨e2, ?_, p2⟩
    show forL f (enc x :: r.map enc) env S = _
    unfold forL
    rcases h1 with h1 | h1 <;> rw [h1] <;> exact h2
/-! ### keys -/
abbrev Key2 := Int × Int
theorem lay_encP (p : Key2) : (encP p).canLay0 = true := by simp [encP, PyData.canLay0, PyData.canLayAll0]
theorem lay_keys : ∀ ks : List Key2, PyData.canLayAll0 (ks.map encP) = true
  | [] => by simp [PyData.canLayAll0]
  | k :: r => by
    show PyData.canLayAll0 (encP k :: r.map encP) = true
    rw [PyData.canLayAll0, Bool.and_eq_true]
    exact ⟨lay_encP k, lay_keys r⟩
theorem depth_encP (p : Key2) : (encP p).depth = 1 := by simp [encP, PyData.depth, PyData.depthAll]
theorem depth_keys : ∀ ks : List Key2, PyData.depthAll (ks.map encP) ≤ 1
  | [] => by simp [PyData.depthAll]
  | k :: r => by
    show PyData.depthAll (encP k :: r.map encP) ≤ 1
    have := depth_keys r
    rw [PyData.depthAll, depth_encP]
    omega
theorem pure_encP (p : Key2) : pure1 (encP p) = true := by
  unfold pure1 SeqAt.shaped
  rw [lay_encP, depth_encP]
  rfl
theorem pure_tup (ks : List Key2) : pure1 (.tuple (ks.map encP)) = true := by
  unfold pure1 SeqAt.shaped
  rw [lay_tuple, lay_keys, PyData.depth]
  have := depth_keys ks
  simp
  omega
theorem pure_lst (ks : List Key2) : pure1 (.list (ks.map encP)) = true := by
  unfold pure1 SeqAt.shaped
  rw [lay_list, lay_keys, PyData.depth]
  have := depth_keys ks
  simp
  omega
theorem eqv_encP (p q : Key2) : PyData.eqv (encP p) (encP q) = decide (p = q) := by
  obtain ⟨a, b⟩ := p
  obtain ⟨c, d⟩ := q
  simp only [encP, PyData.eqv, PyData.eqvAll, Bool.and_true, Prod.mk.injEq]
  by_cases h1 : a = c <;> by_cases h2 : b = d <;> simp [h1, h2]
theorem any_keys (ks : List Key2) (k : Key2) : ((ks.map encP).any fun y => PyData.eqv y (encP k)) = decide (k ∈ ks) := by
  rw [List.any_map]
  induction ks with
  | nil => rfl
  | cons x r ih =>
    rw [List.any_cons, ih, Function.comp_apply, eqv_encP]
    by_cases h1 : x = k
    · simp [h1]
    · simp [h1, Ne.symm h1]
theorem in_tup (ks : List Key2) (k : Key2) : isInF (encP k) (.tuple (ks.map encP)) = some (decide (k ∈ ks)) := by
  show (if pure1 _ && pure1 _ then some _ else none) = _
  rw [pure_encP, pure_tup, any_keys]
  rfl
theorem in_lst (ks : List Key2) (k : Key2) : isInF (encP k) (.list (ks.map encP)) = some (decide (k ∈ ks)) := by
  show (if pure1 _ && pure1 _ then some _ else none) = _
  rw [pure_encP, pure_lst, any_keys]
  rfl
theorem lt_encP (p q : Key2) : ltOk (encP p) (encP q) = true ∧ W.dataLt (encP p) (encP q) = ltP p q := by
  refine ⟨?_, W.dataLt_ii _ _ _ _⟩
  unfold ltOk
  rw [pure_encP, pure_encP]
  simp [encP, W.alike, W.alikeAll, isNone]
theorem alikes_keys (ks : List Key2) : alikes (ks.map encP) = true := by
  unfold alikes
  rw [Bool.and_eq_true, Bool.or_eq_true]
  refine ⟨List.all_eq_true.mpr fun x hx => ?_, .inl (List.all_eq_true.mpr fun x hx => ?_)⟩
  · obtain ⟨p, _, rfl⟩ := List.mem_map.mp hx
    rw [Bool.and_eq_true, Bool.and_eq_true]
    refine ⟨⟨pure_encP p, rfl⟩, List.all_eq_true.mpr fun y hy => ?_⟩
    obtain ⟨q, _, rfl⟩ := List.mem_map.mp hy
    simp [encP, W.alike, W.alikeAll]
  · obtain ⟨p, _, rfl⟩ := List.mem_map.mp hx
    rfl
/-- sorted keys -/
def leP (p q : Key2) : Bool := !ltP q p
def sortK (ks : List Key2) : List Key2 := ks.mergeSort leP
theorem sortD_keys (ks : List Key2) : sortD (ks.map encP) = (sortK ks).map encP := by
  rw [sortD_eq]
  unfold sortK
  rw [List.map_mergeSort (s := W.dataLe false id) (f := encP)]
  intro a _ b _
  show leP a b = _
  unfold leP
  rw [← (lt_encP b a).2]
  rfl
theorem leP_trans (a b c : Key2) (h1 : leP a b = true) (h2 : leP b c = true) : leP a c = true := by
  simp only [leP, ltP, Bool.not_eq_true', decide_eq_false_iff_not] at *
  omega
theorem leP_total (a b : Key2) : (leP a b || leP b a) = true := by
  simp only [leP, ltP, Bool.or_eq_true, Bool.not_eq_true', decide_eq_false_iff_not]
  omega
theorem sortK_perm (ks : List Key2) : (sortK ks).Perm ks := List.mergeSort_perm _ _
theorem sortK_up {ks : List Key2} (h : ks.Nodup) : (sortK ks).Pairwise (fun a b => ltP a b = true) := by
  have h1 : (sortK ks).Pairwise (fun a b => leP a b = true) := List.pairwise_mergeSort leP_trans leP_total ks
  have h2 : (sortK ks).Nodup := (sortK_perm ks).nodup_iff.mpr h
  refine (h1.and h2).imp fun {a b} q => ?_
  cases e : ltP a b with
  | true => rfl
  | false =>
    have q1 : ltP b a = false := by simpa [leP] using q.1
    have := ltP_tri (Ne.symm q.2) q1
    rw [e] at this
    cases this
theorem up_nodup {ks : List Key2} (h : ks.Pairwise (fun a b => ltP a b = true)) : ks.Nodup := h.imp fun {a b} q e => by
  subst e
  rw [ltP_irr] at q
  cases q
theorem prs_keys : ∀ {ks : List Key2}, (∀ k ∈ ks, Small k) → prsOf (ks.map encP) = some ks
  | [], _ => rfl
  | k :: r, h => by
    show prsOf (encP k :: r.map encP) = _
    have s := h k List.mem_cons_self
    unfold encP
    unfold prsOf
    rw [if_pos ⟨s.1.1, s.1.2, s.2.1, s.2.2⟩]
    have ih := prs_keys (ks := r) fun k hk => h k (List.mem_cons_of_mem _ hk)
    rw [show (r.map fun p => PyData.tuple [.int p.1, .int p.2]) = r.map encP from rfl, ih]
    rfl
end Mini
/-! Running the evaluator: its steps as rewritings. -/
namespace Mini
open PySem L2
section
variable {cl : Calls} {env : Mini.Env} {S : Sto} {m : Md}
@[simp] theorem x_skip : exS cl .skip env S = .nx env S := by rw [exS] <;> rfl
@[simp] theorem x_seq {a b : C} : exS cl (.seq a b) env S = (match exS cl a env S with
    | .nx env1 S1 => exS cl b env1 S1
    | q => q) := by rw [exS] <;> rfl
@[simp] theorem x_frz {is : List Nat} : exS cl (.frz is) env S = .nx (is.foldl frz1 env) S := by rw [exS] <;> rfl
@[simp] theorem x_set {i : Nat} {e : E} : exS cl (.set i e) env S = RS.ofE env (evE cl (if fresh e then .f else .v) e env S) fun d S1 => .nx (env.set i (slOf (fresh e) d)) S1 := by rw [exS] <;> rfl
@[simp] theorem x_unp {is : List Nat} {e : E} : exS cl (.unp is e) env S = RS.ofE env (evE cl .v e env S) fun d S1 => match setT (.tp is) d env with
    | some env1 => .nx env1 S1
    | none => .no := by rw [exS] <;> rfl
@[simp] theorem x_par {is : List Nat} {e : E} : exS cl (.par is e) env S = RS.ofE env (evE cl .v e env S) fun d S1 => match setT (.tp is) d env with
    | some env1 => .nx env1 S1
    | none => .no := by rw [exS] <;> rfl
@[simp] theorem x_ret {e : E} : exS cl (.ret e) env S = RS.ofE env (evE cl .v e env S) fun d S1 => .rt d S1 := by rw [exS] <;> rfl
@[simp] theorem x_retN : exS cl .retN env S = .rt .none S := by rw [exS] <;> rfl
@[simp] theorem x_ex {e : E} : exS cl (.ex e) env S = RS.ofE env (evE cl .b e env S) fun _ S1 => .nx env S1 := by rw [exS] <;> rfl
@[simp] theorem x_ife {c : E} {a b : C} : exS cl (.ife c a b) env S = RS.ofE env (evE cl .b c env S) fun d S1 => match d with
    | .bool true => exS cl a env S1
    | .bool false => exS cl b env S1
    | _ => .no := by rw [exS] <;> rfl
@[simp] theorem x_rse {c : Str} : exS cl (.rse c) env S = .ex c env S := by rw [exS] <;> rfl
@[simp] theorem x_cont : exS cl .cont env S = .ct env S := by rw [exS] <;> rfl
@[simp] theorem x_brk : exS cl .brk env S = .bk env S := by rw [exS] <;> rfl
theorem x_for {t : Tg} {it : E} {b : C} : exS cl (.for_ t it b) env S = RS.ofE env (evE cl .v it env S) fun d S1 => match itemsOf d with
    | some items => forL (fun x env S => match setT t x env with
      | some env1 => exS cl b env1 S
      | none => .no) items env S1
    | none => .no := by rw [exS] <;> rfl
@[simp] theorem x_app {i : Nat} {e : E} : exS cl (.app i e) env S = (match env[i]? with
    | some (.own _) => RS.ofE env (evE cl .v e env S) fun d S1 => (match env[i]? with
      | some (.own xs) => if lim xs.length then .nx (env.set i (.own (xs ++ [d]))) S1 else .no
      | _ => .no)
    | _ => .no) := by rw [exS] <;> rfl
@[simp] theorem x_ext {i : Nat} {e : E} : exS cl (.ext i e) env S = (match env[i]? with
    | some (.own _) => RS.ofE env (evE cl .b e env S) fun d S1 => (match env[i]?, d with
      | some (.own xs), .list ys => if lim (xs.length + ys.length) then .nx (env.set i (.own (xs ++ ys))) S1 else .no
      | _, _ => .no)
    | _ => .no) := by rw [exS] <;> rfl
@[simp] theorem x_popA {i l : Nat} {e : E} : exS cl (.popA i l e) env S = (match env[l]? with
    | some (.own _) => RS.ofE env (evE cl .b e env S) fun d S1 => (match env[l]? with
      | some (.own xs) => (match popK xs d with
        | some (y, r) => .nx ((env.set l (.own r)).set i (.val y)) S1
        | none => .no)
      | _ => .no)
    | _ => .no) := by rw [exS] <;> rfl
@[simp] theorem x_appPop {i l : Nat} {e : E} : exS cl (.appPop i l e) env S = (match env[i]?, env[l]? with
    | some (.own _), some (.own _) => if i = l then .no else RS.ofE env (evE cl .b e env S) fun d S1 => (match env[i]?, env[l]? with
      | some (.own ys), some (.own xs) => (match popK xs d with
        | some (y, r) => if lim ys.length then .nx ((env.set l (.own r)).set i (.own (ys ++ [y]))) S1 else .no
        | none => .no)
      | _, _ => .no)
    | _, _ => .no) := by rw [exS] <;> rfl
@[simp] theorem x_par2 {i j : Nat} {a b : E} : exS cl (.par2 i j a b) env S = RS.ofE env (evE cl (if fresh a then .f else .v) a env S) fun d S1 => RS.ofE env (evE cl (if fresh b then .f else .v) b env S1) fun d2 S2 => .nx ((env.set i (slOf (fresh a) d)).set j (slOf (fresh b) d2)) S2 := by rw [exS] <;> rfl
@[simp] theorem x_par3 {i j l : Nat} {a b c : E} : exS cl (.par3 i j l a b c) env S = RS.ofE env (evE cl (if fresh a then .f else .v) a env S) fun d S1 => RS.ofE env (evE cl (if fresh b then .f else .v) b env S1) fun d2 S2 => RS.ofE env (evE cl (if fresh c then .f else .v) c env S2) fun d3 S3 => .nx (((env.set i (slOf (fresh a) d)).set j (slOf (fresh b) d2)).set l (slOf (fresh c) d3)) S3 := by rw [exS] <;> rfl
@[simp] theorem x_popS {i l : Nat} : exS cl (.popS i l) env S = (match env[l]? with
    | some (.own xs) => (match xs.getLast? with
      | some d => .nx ((env.set l (.own xs.dropLast)).set i (.val d)) S
      | none => .no)
    | _ => .no) := by rw [exS] <;> rfl
@[simp] theorem x_put {i : Nat} {k v : E} : exS cl (.put i k v) env S = (match env[i]? with
    | some (.ownD ..) => RS.ofE env (evE cl .v v env S) fun d S1 => RS.ofE env (evE cl .v k env S1) fun x S2 => (match env[i]? with
      | some (.ownD t kvs) => if lim kvs.length && hasKey t x then .nx (env.set i (.ownD t (putD kvs x d))) S2 else .no
      | _ => .no)
    | _ => .no) := by rw [exS] <;> rfl
theorem x_whl {c : E} {b : C} : exS cl (.whl c b) env S = whlL (evE cl .b c) (exS cl b) 100000 env S := by rw [exS] <;> rfl
@[simp] theorem e_dnew {t : Bool} : evE cl m (.dnew t) env S = .ok (.dict [(.none, .bool t)]) S := by rw [evE] <;> rfl
@[simp] theorem e_rev {a : E} : evE cl m (.rev a) env S = (evE cl .b a env S).bind fun x S1 => ofO (revF x) S1 := by rw [evE] <;> rfl
@[simp] theorem ofE_ok {d : D} {k : D → Sto → RS} : RS.ofE env (.ok d S) k = k d S := rfl
@[simp] theorem ofE_ex {c : Str} {k : D → Sto → RS} : RS.ofE env (.ex c S) k = .ex c env S := rfl
@[simp] theorem bind_ok {α β : Type} {d : α} {k : α → Sto → Res β} : Res.bind (.ok d S) k = k d S := rfl
@[simp] theorem bind_ex {α β : Type} {c : Str} {k : α → Sto → Res β} : Res.bind (.ex c S) k = .ex c S := rfl
@[simp] theorem ofO_some {d : D} : ofO (some d) S = .ok d S := rfl
@[simp] theorem e_nil : evE cl m .nil env S = .ok (.tuple []) S := by rw [evE] <;> rfl
@[simp] theorem e_cons {a r : E} : evE cl m (.cons a r) env S = (evE cl m a env S).bind fun d S1 => (evE cl m r env S1).bind fun ds S2 => match ds with
    | .tuple xs => .ok (.tuple (d :: xs)) S2
    | _ => .no := by rw [evE] <;> rfl
theorem e_varV {i : Nat} {d : D} (h : env[i]? = some (.val d)) : evE cl m (.var i) env S = .ok d S := by
  rw [evE, h]
theorem e_varO {i : Nat} {xs : List D} (h : env[i]? = some (.own xs)) : evE cl .b (.var i) env S = .ok (.list xs) S := by
  rw [evE, h]
  rfl
@[simp] theorem e_var {i : Nat} : evE cl m (.var i) env S = (match env[i]? with
    | some (.val d) => .ok d S
    | some (.own xs) => if m = .b then .ok (.list xs) S else .no
    | some (.ownD t kvs) => if m = .b then .ok (.dict ((.none, .bool t) :: kvs)) S else .no
    | _ => .no) := by rw [evE] <;> rfl
@[simp] theorem e_cst {d : D} : evE cl m (.cst d) env S = .ok d S := by rw [evE] <;> rfl
@[simp] theorem e_tup {as : E} : evE cl m (.tup as) env S = (evE cl .v as env S).bind fun d S1 => match d with
    | .tuple xs => if lim xs.length then .ok (.tuple xs) S1 else .no
    | _ => .no := by rw [evE] <;> rfl
@[simp] theorem e_lst {as : E} : evE cl m (.lst as) env S = (evE cl .v as env S).bind fun d S1 => match d with
    | .tuple xs => if lim xs.length then .ok (.list xs) S1 else .no
    | _ => .no := by rw [evE] <;> rfl
@[simp] theorem e_bin {o : Bop} {a b : E} : evE cl m (.bin o a b) env S = (evE cl .b a env S).bind fun x S1 => (evE cl .b b env S1).bind fun y S2 => ofO (binF o x y) S2 := by rw [evE] <;> rfl
@[simp] theorem e_neg {a : E} : evE cl m (.neg a) env S = (evE cl .b a env S).bind fun x S1 => match x with
    | .int i => .ok (.int (-i)) S1
    | _ => .no := by rw [evE] <;> rfl
@[simp] theorem e_cmp {o : Cop} {a b : E} : evE cl m (.cmp o a b) env S = (evE cl .b a env S).bind fun x S1 => (evE cl .b b env S1).bind fun y S2 => ofO ((cmpF o x y).map .bool) S2 := by rw [evE] <;> rfl
@[simp] theorem e_chn {o o' : Cop} {a b c : E} : evE cl m (.chn o o' a b c) env S = (evE cl .b a env S).bind fun x S1 => (evE cl .b b env S1).bind fun y S2 => match cmpF o x y with
    | some true => (evE cl .b c env S2).bind fun z S3 => ofO ((cmpF o' y z).map .bool) S3
    | some false => .ok (.bool false) S2
    | none => .no := by rw [evE] <;> rfl
@[simp] theorem e_and {a b : E} : evE cl m (.and_ a b) env S = (evE cl .b a env S).bind fun x S1 => match x with
    | .bool true => (evE cl .b b env S1).bind fun y S2 => match y with
      | .bool c => .ok (.bool c) S2
      | _ => .no
    | .bool false => .ok (.bool false) S1
    | _ => .no := by rw [evE] <;> rfl
@[simp] theorem e_or {a b : E} : evE cl m (.or_ a b) env S = (evE cl .b a env S).bind fun x S1 => match x with
    | .bool false => (evE cl .b b env S1).bind fun y S2 => match y with
      | .bool c => .ok (.bool c) S2
      | _ => .no
    | .bool true => .ok (.bool true) S1
    | _ => .no := by rw [evE] <;> rfl
@[simp] theorem e_not {a : E} : evE cl m (.not_ a) env S = (evE cl .b a env S).bind fun x S1 => match x with
    | .bool c => .ok (.bool (!c)) S1
    | _ => .no := by rw [evE] <;> rfl
@[simp] theorem e_ite {c a b : E} : evE cl m (.ite c a b) env S = (evE cl .b c env S).bind fun x S1 => match x with
    | .bool true => evE cl m a env S1
    | .bool false => evE cl m b env S1
    | _ => .no := by rw [evE] <;> rfl
@[simp] theorem e_ix {a i : E} : evE cl m (.ix a i) env S = (evE cl .b a env S).bind fun x S1 => (evE cl .b i env S1).bind fun y S2 => ofO (getF x y) S2 := by rw [evE] <;> rfl
@[simp] theorem e_cut {a l h : E} : evE cl m (.cut a l h) env S = (evE cl .b a env S).bind fun x S1 => (evE cl .b l env S1).bind fun l S2 => match optI l with
    | some l => (evE cl .b h env S2).bind fun h S3 => (match optI h with
      | some h => ofO (cutF x l h) S3
      | none => .no)
    | none => .no := by rw [evE] <;> rfl
@[simp] theorem e_call {f : Str} {as : E} : evE cl m (.call f as) env S = (evE cl .v as env S).bind fun d S1 => match d with
    | .tuple xs => cl f xs S1
    | _ => .no := by rw [evE] <;> rfl
@[simp] theorem e_prim {p : Prim} {as : E} : evE cl m (.prim p as) env S = (evE cl .b as env S).bind fun d S1 => match d with
    | .tuple xs => ofO (primF p xs) S1
    | _ => .no := by rw [evE] <;> rfl
@[simp] theorem e_rng1 {a : E} : evE cl m (.rng1 a) env S = (evE cl .b a env S).bind fun x S1 => match x with
    | .int n => if n ≤ 100000 ∧ -100000 ≤ n then .ok (.list (rangeD 0 n.toNat)) S1 else .no
    | _ => .no := by rw [evE] <;> rfl
@[simp] theorem e_rng2 {a b : E} : evE cl m (.rng2 a b) env S = (evE cl .b a env S).bind fun x S1 => (evE cl .b b env S1).bind fun y S2 => match x, y with
    | .int lo, .int hi => if 0 ≤ lo ∧ lo ≤ 100000 ∧ hi ≤ 100000 ∧ -100000 ≤ hi then .ok (.list (rangeD lo.toNat (hi - lo).toNat)) S2 else .no
    | _, _ => .no := by rw [evE] <;> rfl
@[simp] theorem e_enm {a : E} : evE cl m (.enm a) env S = (evE cl m a env S).bind fun x S1 => match itemsOf x with
    | some xs => .ok (.list (enumD xs)) S1
    | none => .no := by rw [evE] <;> rfl
@[simp] theorem e_zip {a b : E} : evE cl m (.zip a b) env S = (evE cl m a env S).bind fun x S1 => (evE cl m b env S1).bind fun y S2 => zres x y S2 := by rw [evE] <;> rfl
@[simp] theorem e_sm0 {p : Prim} {a : E} : evE cl m (.sm0 p a) env S = (evE cl .b a env S).bind fun x S1 => match x with
    | .str z => ofO (smF p z) S1
    | _ => .no := by rw [evE] <;> rfl
@[simp] theorem e_sm1 {p : Prim} {a b : E} : evE cl m (.sm1 p a b) env S = (evE cl .b a env S).bind fun x S1 => match x with
    | .str z => (evE cl .b b env S1).bind fun y S2 => ofO (smF1 p z y) S2
    | _ => .no := by rw [evE] <;> rfl
theorem e_comp {e it c : E} {t : Tg} {own : List Nat} : evE cl m (.comp e t own it c) env S = (evE cl .b it env S).bind fun d S1 => match itemsOf d with
    | some items => if lim items.length then (match loopC (fun x S => turnC (setT t x (wipeS env own)) (evE cl .b c) (evE cl .v e) S) items S1 with
      | .ok ys S2 => .ok (.list ys) S2
      | _ => .no) else .no
    | none => .no := by rw [evE] <;> rfl
/-- a comprehension over plain things -/
theorem comp_run {α : Type} {e it c : E} {t : Tg} {own : List Nat} {d : D} {enc : α → D} {xs : List α} {g : α → Option D} (h1 : evE cl .b it env S = .ok d S) (h2 : itemsOf d = some (xs.map enc)) (h3 : xs.length ≤ 1000000)
    (h4 : ∀ x ∈ xs, turnC (setT t (enc x) (wipeS env own)) (evE cl .b c) (evE cl .v e) S = .ok (g x) S) : evE cl m (.comp e t own it c) env S = .ok (.list (xs.filterMap g)) S := by
  rw [e_comp, h1, bind_ok, h2]
  have hl : lim (xs.map enc).length = true := by
    rw [List.length_map]
    exact decide_eq_true h3
  simp only [hl, if_true]
  rw [loopC_map (g := g) h4]
end
theorem appPop_run {cl : Calls} {env : Mini.Env} {S : Sto} {i l : Nat} {e : E} {xs ys r : List D} {d y : D} (h1 : env[i]? = some (.own ys)) (h2 : env[l]? = some (.own xs)) (h3 : i ≠ l) (h4 : evE cl .b e env S = .ok d S) (h5 : popK xs d = some (y, r)) (h6 : lim ys.length = true) :
    exS cl (.appPop i l e) env S = .nx ((env.set l (.own r)).set i (.own (ys ++ [y]))) S := by
  rw [x_appPop, h1, h2]
  simp only [if_neg h3, h4, ofE_ok, h1, h2, h5, h6, if_true]
theorem ext_run {cl : Calls} {env : Mini.Env} {S : Sto} {i : Nat} {e : E} {xs ys : List D} (h1 : env[i]? = some (.own xs)) (h2 : evE cl .b e env S = .ok (.list ys) S) (h3 : lim (xs.length + ys.length) = true) : exS cl (.ext i e) env S = .nx (env.set i (.own (xs ++ ys))) S := by
  rw [x_ext, h1]
  simp only [h2, ofE_ok, h1, h3, if_true]
theorem app_run {cl : Calls} {env : Mini.Env} {S : Sto} {i : Nat} {e : E} {xs : List D} {d : D} (h1 : env[i]? = some (.own xs)) (h2 : evE cl .v e env S = .ok d S) (h3 : lim xs.length = true) : exS cl (.app i e) env S = .nx (env.set i (.own (xs ++ [d]))) S := by
  rw [x_app, h1]
  simp only [h2, ofE_ok, h1, h3, if_true]
/-- a while: a number falls -/
theorem whlL_inv {c : Mini.Env → Sto → Res D} {f : Mini.Env → Sto → RS} {S : Sto} (P : Nat → Mini.Env → Prop) (hs : ∀ n env, P n env → c env S = .ok (.bool false) S ∨ (c env S = .ok (.bool true) S ∧ ∃ env' m, f env S = .nx env' S ∧ m < n ∧ P m env')) :
    ∀ (fuel n : Nat) (env : Mini.Env), P n env → n < fuel → ∃ env' m, whlL c f fuel env S = .nx env' S ∧ P m env' ∧ c env' S = .ok (.bool false) S
  | 0, n, env, _, h => by omega
  | fuel + 1, n, env, hp, h => by
    unfold whlL
    rcases hs n env hp with h1 | ⟨h1, env', m, h2, h3, h4⟩
    · refine ⟨env, n, ?_, hp, h1⟩
      rw [h1]
      rfl
    · obtain ⟨env2, m2, e1, e2, e3⟩ := whlL_inv P hs fuel m env' h4 (by omega)
      refine ⟨env2, m2, ?_, e2, e3⟩
      rw [h1]
      simp only [RS.ofE, h2]
      exact e1
theorem whl_inv {cl : Calls} {env : Mini.Env} {S : Sto} {w : C} {c : E} {b : C} (hw : w = .whl c b) (P : Nat → Mini.Env → Prop) {n : Nat} (h0 : P n env) (hn : n < 100000)
    (hs : ∀ n env, P n env → evE cl .b c env S = .ok (.bool false) S ∨ (evE cl .b c env S = .ok (.bool true) S ∧ ∃ env' m, exS cl b env S = .nx env' S ∧ m < n ∧ P m env')) :
    ∃ env' m, exS cl w env S = .nx env' S ∧ P m env' ∧ evE cl .b c env' S = .ok (.bool false) S := by
  rw [hw, x_whl]
  exact whlL_inv P hs 100000 n env h0 hn
theorem put_run {cl : Calls} {env : Mini.Env} {S : Sto} {i : Nat} {k v : E} {t : Bool} {kvs : List (D × D)} {x d : D} (h1 : env[i]? = some (.ownD t kvs)) (h2 : evE cl .v v env S = .ok d S) (h3 : evE cl .v k env S = .ok x S) (h4 : lim kvs.length = true) (h5 : hasKey t x = true) :
    exS cl (.put i k v) env S = .nx (env.set i (.ownD t (putD kvs x d))) S := by
  rw [x_put, h1]
  simp only [h2, ofE_ok, h3, h1, h4, h5, Bool.and_self, if_true]
theorem lim_small {n : Nat} (h : n ≤ 1000) : lim n = true := decide_eq_true (by omega)
/-- one turn of a for -/
def stepF (cl : Calls) (t : Tg) (b : C) : D → Mini.Env → Sto → RS := fun x env S => match setT t x env with
  | some env1 => exS cl b env1 S
  | none => .no
theorem for_run {cl : Calls} {env : Mini.Env} {S : Sto} {c : C} {t : Tg} {it : E} {b : C} {d : D} {items : List D} (hc : c = .for_ t it b) (h1 : evE cl .v it env S = .ok d S) (h2 : itemsOf d = some items) : exS cl c env S = forL (stepF cl t b) items env S := by
  rw [hc, x_for, h1, ofE_ok]
  simp only [h2]
  rfl
theorem for_inv {cl : Calls} {env : Mini.Env} {S : Sto} {c : C} {t : Tg} {it : E} {b : C} {d : D} {items : List D} (hc : c = .for_ t it b) (P : Nat → Mini.Env → Prop) (h1 : evE cl .v it env S = .ok d S) (h2 : itemsOf d = some items) (h0 : P 0 env)
    (hs : ∀ (i : Nat) x env1, items[i]? = some x → P i env1 → ∃ env', stepF cl t b x env1 S = .nx env' S ∧ P (i + 1) env') : ∃ env', exS cl c env S = .nx env' S ∧ P items.length env' := by
  obtain ⟨env', e1, e2⟩ := forL_inv (f := stepF cl t b) (S := S) P (xs := items) (env := env) 0 h0 fun i x env1 hx hp => by
    rw [Nat.zero_add] at hp ⊢
    exact hs i x env1 hx hp
  rw [Nat.zero_add] at e2
  exact ⟨env', by rw [for_run hc h1 h2, e1], e2⟩
/-! ### values -/
@[simp] theorem add_int (a b : Int) : binF .add (.int a) (.int b) = some (.int (a + b)) := rfl
@[simp] theorem sub_int' (a b : Int) : binF .sub (.int a) (.int b) = some (.int (a - b)) := rfl
theorem lt_int (a b : Int) : ltOk (.int a) (.int b) = true ∧ W.dataLt (.int a) (.int b) = decide (a < b) := by
  refine ⟨?_, ?_⟩
  · simp [ltOk, W.alike, pure1, SeqAt.shaped, PyData.canLay0, PyData.depth, isNone]
  · simp [W.dataLt, W.keyToks, PyProof.Rows.lexLt, PyProof.Rows.itemLt]
theorem c_lt (x y : D) : cmpF .lt x y = if ltOk x y then some (W.dataLt x y) else none := rfl
theorem c_gt (x y : D) : cmpF .gt x y = if ltOk x y then some (W.dataLt y x) else none := rfl
theorem c_le (x y : D) : cmpF .le x y = if ltOk x y then some (!W.dataLt y x) else none := rfl
theorem c_ge (x y : D) : cmpF .ge x y = if ltOk x y then some (!W.dataLt x y) else none := rfl
theorem c_ne (x y : D) : cmpF .ne x y = if pure1 x && pure1 y then some (!PyData.eqv x y) else none := rfl
@[simp] theorem cmp_lt (a b : Int) : cmpF .lt (.int a) (.int b) = some (decide (a < b)) := by
  rw [c_lt, (lt_int a b).1, (lt_int a b).2]
  rfl
@[simp] theorem cmp_gt (a b : Int) : cmpF .gt (.int a) (.int b) = some (decide (b < a)) := by
  rw [c_gt, (lt_int a b).1, (lt_int b a).2]
  rfl
@[simp] theorem cmp_le (a b : Int) : cmpF .le (.int a) (.int b) = some (decide (a ≤ b)) := by
  rw [c_le, (lt_int a b).1, (lt_int b a).2]
  by_cases h : a ≤ b
  · have h2 : ¬ b < a := by omega
    simp [h, h2]
  · have h2 : b < a := by omega
    simp [h, h2]
@[simp] theorem cmp_ge (a b : Int) : cmpF .ge (.int a) (.int b) = some (decide (b ≤ a)) := by
  rw [c_ge, (lt_int a b).1, (lt_int a b).2]
  by_cases h : b ≤ a
  · have h2 : ¬ a < b := by omega
    simp [h, h2]
  · have h2 : a < b := by omega
    simp [h, h2]
theorem pure_int (a : Int) : pure1 (.int a) = true := by simp [pure1, SeqAt.shaped, PyData.canLay0, PyData.depth]
@[simp] theorem cmp_eqI (a b : Int) : cmpF .eq (.int a) (.int b) = some (decide (a = b)) := by
  have e : cmpF .eq (.int a) (.int b) = if pure1 (.int a) && pure1 (.int b) then some (PyData.eqv (.int a) (.int b)) else none := rfl
  rw [e, pure_int, pure_int]
  by_cases h : a = b <;> simp [PyData.eqv, h]
@[simp] theorem cmp_neI (a b : Int) : cmpF .ne (.int a) (.int b) = some (!decide (a = b)) := by
  rw [c_ne, pure_int, pure_int]
  by_cases h : a = b <;> simp [PyData.eqv, h]
@[simp] theorem cmp_ltK (p q : Key2) : cmpF .lt (encP p) (encP q) = some (ltP p q) := by
  rw [c_lt, (lt_encP p q).1, (lt_encP p q).2]
  rfl
@[simp] theorem cmp_eqK (p q : Key2) : cmpF .eq (encP p) (encP q) = some (decide (p = q)) := by
  have e : cmpF .eq (encP p) (encP q) = if pure1 (encP p) && pure1 (encP q) then some (PyData.eqv (encP p) (encP q)) else none := rfl
  rw [e, pure_encP, pure_encP, eqv_encP]
  rfl
@[simp] theorem cmp_neK (p q : Key2) : cmpF .ne (encP p) (encP q) = some (!decide (p = q)) := by
  rw [c_ne, pure_encP, pure_encP, eqv_encP]
  rfl
@[simp] theorem cmp_inT (ks : List Key2) (k : Key2) : cmpF .inn (encP k) (.tuple (ks.map encP)) = some (decide (k ∈ ks)) := in_tup ks k
@[simp] theorem cmp_inL (ks : List Key2) (k : Key2) : cmpF .inn (encP k) (.list (ks.map encP)) = some (decide (k ∈ ks)) := in_lst ks k
@[simp] theorem cmp_ninT (ks : List Key2) (k : Key2) : cmpF .nin (encP k) (.tuple (ks.map encP)) = some (!decide (k ∈ ks)) := by
  show (isInF _ _).map _ = _
  rw [in_tup]
  rfl
@[simp] theorem cmp_ninL (ks : List Key2) (k : Key2) : cmpF .nin (encP k) (.list (ks.map encP)) = some (!decide (k ∈ ks)) := by
  show (isInF _ _).map _ = _
  rw [in_lst]
  rfl
theorem mul_int {a b : Int} (h : (-(2 ^ 64) < a ∧ a < 2 ^ 64) ∨ (-(2 ^ 64) < b ∧ b < 2 ^ 64)) : binF .mul (.int a) (.int b) = some (.int (a * b)) := by
  show (if _ then _ else _) = _
  rw [if_pos]
  rw [Bool.or_eq_true, Bool.and_eq_true, Bool.and_eq_true, decide_eq_true_eq, decide_eq_true_eq, decide_eq_true_eq, decide_eq_true_eq]
  exact h
theorem mod_int {a b : Int} (h : 0 < b) : binF .mod (.int a) (.int b) = some (.int (a % b)) := by
  show (if _ then _ else _) = _
  rw [if_pos h]
theorem fdiv_int {a b : Int} (h : 0 < b ∧ b < 1073741824) : binF .fdiv (.int a) (.int b) = some (.int (a / b)) := by
  show (if _ then _ else _) = _
  rw [if_pos h]
@[simp] theorem p_lenL (xs : List D) : primF .len [.list xs] = some (.int xs.length) := rfl
@[simp] theorem p_lenT (xs : List D) : primF .len [.tuple xs] = some (.int xs.length) := rfl
@[simp] theorem p_tupL (xs : List D) : primF .tuple [.list xs] = some (.tuple xs) := rfl
@[simp] theorem p_tupT (xs : List D) : primF .tuple [.tuple xs] = some (.tuple xs) := rfl
@[simp] theorem p_min2 (i j : Int) : primF .min2 [.int i, .int j] = some (.int (if j < i then j else i)) := rfl
@[simp] theorem p_sortL (ks : List Key2) : primF .sorted [.list (ks.map encP)] = some (.list ((sortK ks).map encP)) := by
  show (if alikes _ then some _ else none) = _
  rw [alikes_keys, sortD_keys]
  rfl
@[simp] theorem p_sortT (ks : List Key2) : primF .sorted [.tuple (ks.map encP)] = some (.list ((sortK ks).map encP)) := by
  show (if alikes _ then some _ else none) = _
  rw [alikes_keys, sortD_keys]
  rfl
theorem p_setL {ks : List Key2} (h : ∀ k ∈ ks, Small k) (hl : ks.length < 64) : primF .sortedSet [.list (ks.map encP)] = some (.list ((setP ks).map encP)) := by
  show (if decide _ then (match prsOf _ with
    | some ps => some (PyData.list ((setP ps).map encP))
    | none => _) else none) = _
  rw [List.length_map, prs_keys h, decide_eq_true hl]
  rfl
theorem ints_of (ns : List Int) : intsOf (ns.map .int) = some ns := by
  induction ns with
  | nil => rfl
  | cons x r ih =>
    show (intsOf (r.map .int)).map _ = _
    rw [ih]
    rfl
theorem p_setI {ns : List Int} (hl : ns.length < 64) : primF .sortedSet [.list (ns.map .int)] = some (.list ((setI ns).map .int)) := by
  have e : primF .sortedSet [.list (ns.map .int)] = if decide ((ns.map PyData.int).length < 64) then (match prsOf (ns.map PyData.int) with
    | some ps => some (PyData.list ((setP ps).map encP))
    | none => (intsOf (ns.map PyData.int)).map fun ns => PyData.list ((setI ns).map .int)) else none := rfl
  rw [e, List.length_map, decide_eq_true hl, ints_of]
  cases ns with
  | nil => rfl
  | cons x r => rfl
theorem p_setT {ks : List Key2} (h : ∀ k ∈ ks, Small k) (hl : ks.length < 64) : primF .sortedSet [.tuple (ks.map encP)] = some (.list ((setP ks).map encP)) := by
  show (if decide _ then (prsOf _).map _ else none) = _
  rw [List.length_map, prs_keys h, decide_eq_true hl]
  rfl
@[simp] theorem p_isi (t : Ty) (d : D) : primF (.isi t) [d] = (isiF t d).map .bool := rfl
theorem bools_map {α : Type} (f : α → Bool) : ∀ xs : List α, bools (xs.map fun x => .bool (f x)) = some (xs.map f)
  | [] => rfl
  | x :: r => by
    show (bools (r.map fun x => .bool (f x))).map _ = _
    rw [bools_map f r]
    rfl
theorem p_all {α : Type} (f : α → Bool) (xs : List α) : primF .all [.list (xs.map fun x => .bool (f x))] = some (.bool (xs.all f)) := by
  show (bools _).map _ = _
  rw [bools_map]
  simp [List.all_map]
theorem p_any {α : Type} (f : α → Bool) (xs : List α) : primF .any [.list (xs.map fun x => .bool (f x))] = some (.bool (xs.any f)) := by
  show (bools _).map _ = _
  rw [bools_map]
  simp [List.any_map]
end Mini
namespace Mini
open PySem L2
def f_is_whole : Fn := ⟨3, 3, (.seq (.ret (.and_ (.prim (.isi .int) (.cons (.var 0) .nil)) (.and_ (.not_ (.prim (.isi .bool) (.cons (.var 0) .nil))) (.chn .le .le (.var 1) (.var 0) (.var 2))))) .skip)⟩
def f_is_key : Fn := ⟨3, 3, (.seq (.ife (.or_ (.not_ (.prim (.isi .tuple) (.cons (.var 0) .nil))) (.cmp .ne (.prim .len (.cons (.var 0) .nil)) (.cst (.int 2)))) (.seq (.ret (.cst (.bool false))) .skip) .skip) (.seq (.ret (.and_ (.call "is_whole" (.cons (.ix (.var 0) (.cst (.int 0))) (.cons (.cst (.int 0)) (.cons (.bin .sub (.var 1) (.cst (.int 1))) .nil)))) (.call "is_whole" (.cons (.ix (.var 0) (.cst (.int 1))) (.cons (.cst (.int 0)) (.cons (.bin .sub (.var 2) (.cst (.int 1))) .nil)))))) .skip))⟩
def k_are_rising_1 : E := .comp (.cmp .lt (.var 1) (.var 2)) (.tp [1, 2]) [1, 2] (.zip (.var 0) (.cut (.var 0) (.cons (.cst (.int 1)) .nil) .nil)) (.cst (.bool true))
def f_are_rising : Fn := ⟨1, 3, (.seq (.ret (.prim .all (.cons k_are_rising_1 .nil))) .skip)⟩
def k_is_pad_1 : E := .comp (.call "is_key" (.cons (.var 5) (.cons (.var 1) (.cons (.var 2) .nil)))) (.nm 5) [5] (.bin .add (.var 3) (.var 4)) (.cst (.bool true))
def k_is_pad_2 : E := .comp (.cmp .inn (.var 5) (.var 3)) (.nm 5) [5] (.var 4) (.cst (.bool true))
def f_is_pad : Fn := ⟨1, 6, (.seq (.ife (.or_ (.not_ (.prim (.isi .tuple) (.cons (.var 0) .nil))) (.cmp .ne (.prim .len (.cons (.var 0) .nil)) (.cst (.int 4)))) (.seq (.ret (.cst (.bool false))) .skip) .skip) (.seq (.seq (.frz [0]) (.unp [1, 2, 3, 4] (.var 0))) (.seq (.seq (.frz [1, 2]) (.ife (.or_ (.not_ (.call "is_whole" (.cons (.var 1) (.cons (.cst (.int 1)) (.cons (.cst (.int 4)) .nil))))) (.not_ (.call "is_whole" (.cons (.var 2) (.cons (.cst (.int 1)) (.cons (.cst (.int 4)) .nil)))))) (.seq (.ret (.cst (.bool false))) .skip) .skip)) (.seq (.ife (.or_ (.not_ (.prim (.isi .tuple) (.cons (.var 3) .nil))) (.or_ (.not_ (.chn .le .le (.cst (.int 1)) (.prim .len (.cons (.var 3) .nil)) (.cst (.int 8)))) (.not_ (.prim (.isi .tuple) (.cons (.var 4) .nil))))) (.seq (.ret (.cst (.bool false))) .skip) .skip) (.seq (.seq (.frz [1, 2]) (.ife (.not_ (.prim .all (.cons k_is_pad_1 .nil))) (.seq (.ret (.cst (.bool false))) .skip) .skip)) (.seq (.seq (.frz [3, 4]) (.ret (.and_ (.call "are_rising" (.cons (.var 3) .nil)) (.and_ (.call "are_rising" (.cons (.var 4) .nil)) (.prim .all (.cons k_is_pad_2 .nil)))))) .skip))))))⟩
def f_look_pad : Fn := ⟨1, 1, (.seq (.seq (.frz [0]) (.ife (.not_ (.call "is_pad" (.cons (.var 0) .nil))) (.seq (.rse "NoPad") .skip) .skip)) .skip)⟩
def k_keys_in_1 : E := .comp (.call "is_key" (.cons (.var 2) (.cons (.ix (.var 0) (.cst (.int 0))) (.cons (.ix (.var 0) (.cst (.int 1))) .nil)))) (.nm 2) [2] (.var 1) (.cst (.bool true))
def k_keys_in_2 : E := .comp (.cmp .inn (.var 2) (.ix (.var 0) (.cst (.int 2)))) (.nm 2) [2] (.var 1) (.cst (.bool true))
def f_keys_in : Fn := ⟨2, 3, (.seq (.ife (.or_ (.not_ (.prim (.isi .lt) (.cons (.var 1) .nil))) (.not_ (.prim .all (.cons k_keys_in_1 .nil)))) (.seq (.rse "NoKey") .skip) .skip) (.seq (.ife (.not_ (.prim .all (.cons k_keys_in_2 .nil))) (.seq (.rse "NoKey") .skip) .skip) (.seq (.ret (.prim .tuple (.cons (.prim .sortedSet (.cons (.var 1) .nil)) .nil))) .skip)))⟩
def f_with_diodes : Fn := ⟨2, 2, (.seq (.seq (.frz [0]) (.ex (.call "look_pad" (.cons (.var 0) .nil)))) (.seq (.seq (.frz [0, 1]) (.ret (.bin .add (.cut (.var 0) .nil (.cons (.cst (.int 3)) .nil)) (.tup (.cons (.call "keys_in" (.cons (.var 0) (.cons (.var 1) .nil))) .nil))))) .skip))⟩
def k_turned_1 : E := .comp (.tup (.cons (.var 2) (.cons (.var 1) .nil))) (.tp [1, 2]) [1, 2] (.ix (.var 0) (.cst (.int 2))) (.cst (.bool true))
def f_turned : Fn := ⟨1, 3, (.seq (.seq (.frz [0]) (.ex (.call "look_pad" (.cons (.var 0) .nil)))) (.seq (.ret (.tup (.cons (.ix (.var 0) (.cst (.int 1))) (.cons (.ix (.var 0) (.cst (.int 0))) (.cons (.prim .tuple (.cons (.prim .sorted (.cons k_turned_1 .nil)) .nil)) (.cons (.tup .nil) .nil)))))) .skip))⟩
def k_columns_from_1 : E := .comp (.ix (.var 7) (.cst (.int 0))) (.nm 7) [7] (.var 1) (.and_ (.cmp .eq (.ix (.var 7) (.cst (.int 1))) (.ix (.var 6) (.cst (.int 1)))) (.cmp .nin (.var 7) (.ix (.var 0) (.cst (.int 3)))))
def l_columns_from_1 : C := .for_ (.nm 6) (.var 1) (.seq (.ife (.and_ (.cmp .eq (.ix (.var 6) (.cst (.int 0))) (.var 5)) (.cmp .nin (.ix (.var 6) (.cst (.int 1))) (.var 3))) (.seq (.put 3 (.ix (.var 6) (.cst (.int 1))) (.cst (.bool true))) (.seq (.ext 4 k_columns_from_1) .skip)) .skip) .skip)
def l_columns_from_2 : C := .whl (.cmp .ne (.var 4) (.lst .nil)) (.seq (.popS 5 4) (.seq (.seq (.frz [1]) l_columns_from_1) .skip))
def f_columns_from : Fn := ⟨3, 8, (.seq (.set 3 (.dnew false)) (.seq (.seq (.frz [2]) (.set 4 (.lst (.cons (.var 2) .nil)))) (.seq l_columns_from_2 (.seq (.ret (.prim .sorted (.cons (.prim .list (.cons (.var 3) .nil)) .nil))) .skip))))⟩
def k_seen_of_1 : E := .comp (.tup (.cons (.var 3) (.cons (.var 4) .nil))) (.nm 4) [4] (.call "columns_from" (.cons (.var 0) (.cons (.var 1) (.cons (.var 3) .nil)))) (.cst (.bool true))
def l_seen_of_1 : C := .for_ (.nm 3) (.rng1 (.ix (.var 0) (.cst (.int 0)))) (.seq (.seq (.frz [3, 0, 1, 3]) (.ext 2 k_seen_of_1)) .skip)
def f_seen_of : Fn := ⟨2, 5, (.seq (.set 2 (.lst .nil)) (.seq l_seen_of_1 (.seq (.seq (.frz [2]) (.ret (.var 2))) .skip)))⟩
def f_seen : Fn := ⟨2, 2, (.seq (.seq (.frz [0]) (.ex (.call "look_pad" (.cons (.var 0) .nil)))) (.seq (.seq (.frz [0, 0, 1]) (.ret (.call "seen_of" (.cons (.var 0) (.cons (.call "keys_in" (.cons (.var 0) (.cons (.var 1) .nil))) .nil))))) .skip))⟩
def k_ghosts_of_1 : E := .comp (.var 2) (.nm 2) [2] (.call "seen_of" (.cons (.var 0) (.cons (.var 1) .nil))) (.cmp .nin (.var 2) (.var 1))
def f_ghosts_of : Fn := ⟨2, 3, (.seq (.seq (.frz [0, 1]) (.ret k_ghosts_of_1)) .skip)⟩
def f_ghosts : Fn := ⟨2, 2, (.seq (.seq (.frz [0]) (.ex (.call "look_pad" (.cons (.var 0) .nil)))) (.seq (.seq (.frz [0, 0, 1]) (.ret (.call "ghosts_of" (.cons (.var 0) (.cons (.call "keys_in" (.cons (.var 0) (.cons (.var 1) .nil))) .nil))))) .skip))⟩
def f__law_cell : Fn := ⟨2, 2, (.seq (.ife (.cmp .lt (.var 1) (.prim .len (.cons (.var 0) .nil))) (.seq (.ret (.ix (.var 0) (.var 1))) .skip) .skip) (.seq (.ife (.cmp .eq (.var 0) (.lst .nil)) (.seq (.ret (.cst (.int 0))) .skip) .skip) (.seq (.ret (.bin .add (.bin .mul (.ix (.var 0) (.bin .mod (.var 1) (.prim .len (.cons (.var 0) .nil)))) (.cst (.int 31))) (.var 1))) .skip)))⟩
def f__law_pick : Fn := ⟨3, 4, (.seq (.seq (.frz [0, 1]) (.set 3 (.bin .mod (.bin .mul (.bin .add (.call "_law_cell" (.cons (.var 0) (.cons (.var 1) .nil))) (.bin .mul (.cst (.int 6151)) (.bin .add (.var 1) (.cst (.int 1))))) (.cst (.int 40692))) (.cst (.int 2147483399))))) (.seq (.ret (.bin .mod (.bin .mod (.bin .add (.bin .mul (.var 3) (.var 3)) (.bin .fdiv (.var 3) (.cst (.int 31)))) (.cst (.int 2147483629))) (.var 2))) .skip))⟩
def k__law_pad_1 : E := .comp (.tup (.cons (.var 6) (.cons (.var 7) .nil))) (.nm 7) [7] (.rng1 (.var 4)) (.cst (.bool true))
def l__law_pad_1 : C := .for_ (.nm 6) (.rng1 (.var 3)) (.seq (.seq (.frz [6]) (.ext 5 k__law_pad_1)) .skip)
def l__law_pad_2 : C := .for_ (.nm 10) (.rng1 (.prim .min2 (.cons (.var 8) (.cons (.prim .len (.cons (.var 5) .nil)) .nil)))) (.seq (.appPop 9 5 (.call "_law_pick" (.cons (.var 0) (.cons (.bin .add (.bin .add (.var 1) (.cst (.int 4))) (.var 10)) (.cons (.prim .len (.cons (.var 5) .nil)) .nil))))) .skip)
def l__law_pad_3 : C := .for_ (.tp [10, 13]) (.enm (.prim .sorted (.cons (.var 9) .nil))) (.seq (.seq (.frz [0, 11, 13]) (.ext 12 (.ite (.or_ (.cmp .eq (.var 11) (.cst (.int 0))) (.and_ (.cmp .gt (.var 11) (.cst (.int 1))) (.cmp .eq (.call "_law_pick" (.cons (.var 0) (.cons (.bin .add (.bin .add (.var 1) (.cst (.int 20))) (.var 10)) (.cons (.var 11) .nil)))) (.cst (.int 0))))) (.lst (.cons (.var 13) .nil)) (.lst .nil)))) .skip)
def f__law_pad : Fn := ⟨3, 14, (.seq (.seq (.frz [0, 1, 0]) (.par2 3 4 (.bin .add (.cst (.int 2)) (.call "_law_pick" (.cons (.var 0) (.cons (.var 1) (.cons (.cst (.int 2)) .nil))))) (.bin .add (.cst (.int 2)) (.call "_law_pick" (.cons (.var 0) (.cons (.bin .add (.var 1) (.cst (.int 1))) (.cons (.cst (.int 2)) .nil))))))) (.seq (.seq (.frz [0]) (.ife (.cmp .eq (.call "_law_pick" (.cons (.var 0) (.cons (.bin .add (.var 1) (.cst (.int 40))) (.cons (.cst (.int 3)) .nil)))) (.cst (.int 0))) (.seq (.seq (.frz [0, 1, 0]) (.par2 3 4 (.bin .add (.cst (.int 1)) (.call "_law_pick" (.cons (.var 0) (.cons (.var 1) (.cons (.cst (.int 4)) .nil))))) (.bin .add (.cst (.int 1)) (.call "_law_pick" (.cons (.var 0) (.cons (.bin .add (.var 1) (.cst (.int 1))) (.cons (.cst (.int 4)) .nil))))))) .skip) .skip)) (.seq (.set 5 (.lst .nil)) (.seq l__law_pad_1 (.seq (.seq (.frz [2, 2, 0, 2, 0]) (.set 8 (.ix (.lst (.cons (.var 2) (.cons (.var 2) (.cons (.bin .sub (.var 2) (.cst (.int 1))) (.cons (.bin .sub (.var 2) (.cst (.int 2))) (.cons (.bin .add (.cst (.int 1)) (.call "_law_pick" (.cons (.var 0) (.cons (.bin .add (.var 1) (.cst (.int 41))) (.cons (.var 2) .nil))))) .nil)))))) (.call "_law_pick" (.cons (.var 0) (.cons (.bin .add (.var 1) (.cst (.int 2))) (.cons (.cst (.int 5)) .nil))))))) (.seq (.set 9 (.lst .nil)) (.seq l__law_pad_2 (.seq (.seq (.frz [0]) (.set 11 (.call "_law_pick" (.cons (.var 0) (.cons (.bin .add (.var 1) (.cst (.int 3))) (.cons (.cst (.int 4)) .nil)))))) (.seq (.set 12 (.lst .nil)) (.seq l__law_pad_3 (.seq (.seq (.frz [3, 4]) (.ret (.tup (.cons (.var 3) (.cons (.var 4) (.cons (.prim .tuple (.cons (.prim .sorted (.cons (.var 9) .nil)) .nil)) (.cons (.prim .tuple (.cons (.var 12) .nil)) .nil))))))) .skip)))))))))))⟩
def k__law_keys_1 : E := .comp (.var 5) (.tp [4, 5]) [4, 5] (.enm (.ix (.var 2) (.cst (.int 2)))) (.cmp .gt (.call "_law_pick" (.cons (.var 0) (.cons (.bin .add (.var 1) (.var 4)) (.cons (.cst (.int 5)) .nil)))) (.cst (.int 1)))
def f__law_keys : Fn := ⟨3, 7, (.seq (.seq (.frz [0]) (.set 3 k__law_keys_1)) (.seq (.seq (.frz [0]) (.ife (.and_ (.cmp .ne (.var 3) (.lst .nil)) (.cmp .eq (.call "_law_pick" (.cons (.var 0) (.cons (.bin .add (.var 1) (.cst (.int 9))) (.cons (.cst (.int 2)) .nil)))) (.cst (.int 0)))) (.seq (.seq (.frz [0]) (.app 3 (.ix (.var 3) (.call "_law_pick" (.cons (.var 0) (.cons (.bin .add (.var 1) (.cst (.int 10))) (.cons (.prim .len (.cons (.var 3) .nil)) .nil))))))) .skip) .skip)) (.seq (.seq (.frz [0]) (.set 6 (.call "_law_pick" (.cons (.var 0) (.cons (.bin .add (.var 1) (.cst (.int 11))) (.cons (.bin .add (.prim .len (.cons (.var 3) .nil)) (.cst (.int 1))) .nil)))))) (.seq (.ret (.bin .add (.cut (.var 3) (.cons (.var 6) .nil) .nil) (.cut (.var 3) .nil (.cons (.var 6) .nil)))) .skip))))⟩
def l__law_seen_1 : C := .for_ (.nm 7) (.var 1) (.seq (.ife (.and_ (.cmp .inn (.ix (.var 7) (.cst (.int 0))) (.var 4)) (.cmp .nin (.ix (.var 7) (.cst (.int 1))) (.var 5))) (.seq (.app 5 (.ix (.var 7) (.cst (.int 1)))) .skip) .skip) (.seq (.ife (.and_ (.cmp .inn (.ix (.var 7) (.cst (.int 1))) (.var 5)) (.and_ (.cmp .nin (.ix (.var 7) (.cst (.int 0))) (.var 4)) (.cmp .nin (.var 7) (.ix (.var 0) (.cst (.int 3)))))) (.seq (.app 4 (.ix (.var 7) (.cst (.int 0)))) .skip) .skip) .skip))
def l__law_seen_2 : C := .for_ (.nm 6) (.rng1 (.bin .add (.prim .len (.cons (.var 1) .nil)) (.cst (.int 1)))) (.seq (.seq (.frz [1]) l__law_seen_1) .skip)
def k__law_seen_1 : E := .comp (.tup (.cons (.var 3) (.cons (.var 8) .nil))) (.nm 8) [8] (.prim .sorted (.cons (.var 5) .nil)) (.cst (.bool true))
def l__law_seen_3 : C := .for_ (.nm 3) (.rng1 (.ix (.var 0) (.cst (.int 0)))) (.seq (.seq (.frz [3]) (.par2 4 5 (.lst (.cons (.var 3) .nil)) (.lst .nil))) (.seq l__law_seen_2 (.seq (.seq (.frz [3]) (.ext 2 k__law_seen_1)) .skip)))
def f__law_seen : Fn := ⟨2, 9, (.seq (.set 2 (.lst .nil)) (.seq l__law_seen_3 (.seq (.seq (.frz [2]) (.ret (.var 2))) .skip)))⟩
def k_all_sets_1 : E := .comp (.bin .add (.var 3) (.tup (.cons (.var 2) .nil))) (.nm 3) [3] (.var 1) (.cst (.bool true))
def l_all_sets_1 : C := .for_ (.nm 2) (.var 0) (.seq (.seq (.frz [2]) (.set 1 (.bin .add (.var 1) k_all_sets_1))) .skip)
def f_all_sets : Fn := ⟨1, 4, (.seq (.set 1 (.lst (.cons (.tup .nil) .nil))) (.seq (.seq (.frz [0]) l_all_sets_1) (.seq (.ret (.prim .sorted (.cons (.var 1) .nil))) .skip)))⟩
def k_is_spot_1 : E := .comp (.and_ (.prim (.isi .int) (.cons (.var 1) .nil)) (.not_ (.prim (.isi .bool) (.cons (.var 1) .nil)))) (.nm 1) [1] (.var 0) (.cst (.bool true))
def f_is_spot : Fn := ⟨1, 2, (.seq (.ife (.or_ (.not_ (.prim (.isi .tuple) (.cons (.var 0) .nil))) (.cmp .ne (.prim .len (.cons (.var 0) .nil)) (.cst (.int 2)))) (.seq (.ret (.cst (.bool false))) .skip) .skip) (.seq (.ret (.prim .all (.cons k_is_spot_1 .nil))) .skip))⟩
def k_sets_seen_1 : E := .comp (.call "is_spot" (.cons (.var 2) .nil)) (.nm 2) [2] (.var 1) (.cst (.bool true))
def k_sets_seen_2 : E := .comp (.var 5) (.nm 5) [5] (.ix (.var 0) (.cst (.int 2))) (.cmp .inn (.var 5) (.var 3))
def k_sets_seen_3 : E := .comp (.var 2) (.nm 2) [2] (.call "all_sets" (.cons k_sets_seen_2 .nil)) (.cmp .eq (.call "seen_of" (.cons (.var 0) (.cons (.var 2) .nil))) (.var 3))
def f_sets_seen : Fn := ⟨2, 6, (.seq (.ife (.or_ (.not_ (.prim (.isi .lt) (.cons (.var 1) .nil))) (.not_ (.prim .all (.cons k_sets_seen_1 .nil)))) (.seq (.rse "NoScan") .skip) .skip) (.seq (.set 3 (.prim .sortedSet (.cons (.var 1) .nil))) (.seq (.seq (.frz [0]) (.set 4 k_sets_seen_3)) (.seq (.ife (.cmp .eq (.var 4) (.lst .nil)) (.seq (.rse "NoScan") .skip) .skip) (.seq (.seq (.frz [4]) (.ret (.var 4))) .skip)))))⟩
def f_sets_of : Fn := ⟨2, 2, (.seq (.seq (.frz [0]) (.ex (.call "look_pad" (.cons (.var 0) .nil)))) (.seq (.seq (.frz [0, 1]) (.ret (.call "sets_seen" (.cons (.var 0) (.cons (.var 1) .nil))))) .skip))⟩
def k_must_1 : E := .comp (.cmp .inn (.var 3) (.var 4)) (.nm 4) [4] (.var 2) (.cst (.bool true))
def k_must_2 : E := .comp (.var 3) (.nm 3) [3] (.ix (.var 0) (.cst (.int 2))) (.prim .all (.cons k_must_1 .nil))
def f_must : Fn := ⟨2, 5, (.seq (.seq (.frz [0]) (.ex (.call "look_pad" (.cons (.var 0) .nil)))) (.seq (.seq (.frz [0, 1]) (.set 2 (.call "sets_seen" (.cons (.var 0) (.cons (.var 1) .nil))))) (.seq (.ret k_must_2) .skip)))⟩
def k_may_1 : E := .comp (.cmp .inn (.var 3) (.var 4)) (.nm 4) [4] (.var 2) (.cst (.bool true))
def k_may_2 : E := .comp (.var 3) (.nm 3) [3] (.ix (.var 0) (.cst (.int 2))) (.prim .any (.cons k_may_1 .nil))
def f_may : Fn := ⟨2, 5, (.seq (.seq (.frz [0]) (.ex (.call "look_pad" (.cons (.var 0) .nil)))) (.seq (.seq (.frz [0, 1]) (.set 2 (.call "sets_seen" (.cons (.var 0) (.cons (.var 1) .nil))))) (.seq (.ret k_may_2) .skip)))⟩
def f_is_sure : Fn := ⟨2, 2, (.seq (.seq (.frz [0]) (.ex (.call "look_pad" (.cons (.var 0) .nil)))) (.seq (.seq (.frz [0, 0, 0, 1]) (.ret (.cmp .eq (.prim .len (.cons (.call "sets_seen" (.cons (.var 0) (.cons (.call "seen_of" (.cons (.var 0) (.cons (.call "keys_in" (.cons (.var 0) (.cons (.var 1) .nil))) .nil))) .nil))) .nil)) (.cst (.int 1))))) .skip))⟩
def k_leads_back_1 : E := .comp (.var 5) (.nm 5) [5] (.ix (.var 0) (.cst (.int 2))) (.and_ (.cmp .eq (.ix (.var 5) (.cst (.int 1))) (.var 3)) (.cmp .ne (.ix (.var 5) (.cst (.int 0))) (.var 2)))
def k_leads_back_2 : E := .comp (.var 5) (.nm 5) [5] (.ix (.var 0) (.cst (.int 2))) (.and_ (.cmp .eq (.ix (.var 5) (.cst (.int 0))) (.var 2)) (.cmp .ne (.ix (.var 5) (.cst (.int 1))) (.var 3)))
def f_leads_back : Fn := ⟨2, 7, (.seq (.seq (.frz [1]) (.unp [2, 3] (.var 1))) (.seq (.set 4 k_leads_back_1) (.seq (.set 6 k_leads_back_2) (.seq (.ret (.and_ (.cmp .ne (.var 4) (.lst .nil)) (.cmp .ne (.var 6) (.lst .nil)))) .skip))))⟩
def k_needed_1 : E := .comp (.var 1) (.nm 1) [1] (.ix (.var 0) (.cst (.int 2))) (.call "leads_back" (.cons (.var 0) (.cons (.var 1) .nil)))
def f_needed : Fn := ⟨1, 2, (.seq (.seq (.frz [0]) (.ex (.call "look_pad" (.cons (.var 0) .nil)))) (.seq (.seq (.frz [0]) (.ret k_needed_1)) .skip))⟩
def k_is_clean_1 : E := .comp (.cmp .inn (.var 1) (.ix (.var 0) (.cst (.int 3)))) (.nm 1) [1] (.call "needed" (.cons (.var 0) .nil)) (.cst (.bool true))
def f_is_clean : Fn := ⟨1, 2, (.seq (.seq (.frz [0]) (.ret (.prim .all (.cons k_is_clean_1 .nil)))) .skip)⟩
def k_first_ghost_1 : E := .comp (.tup (.cons (.prim .len (.cons (.var 2) .nil)) (.cons (.var 2) .nil))) (.nm 2) [2] (.call "all_sets" (.cons (.ix (.var 0) (.cst (.int 2))) .nil)) (.and_ (.cmp .lt (.prim .len (.cons (.var 2) .nil)) (.cst (.int 4))) (.cmp .ne (.call "ghosts_of" (.cons (.var 0) (.cons (.var 2) .nil))) (.lst .nil)))
def f_first_ghost : Fn := ⟨1, 3, (.seq (.seq (.frz [0]) (.ex (.call "look_pad" (.cons (.var 0) .nil)))) (.seq (.seq (.frz [0]) (.set 1 k_first_ghost_1)) (.seq (.ret (.ite (.cmp .ne (.var 1) (.lst .nil)) (.ix (.prim .min (.cons (.var 1) .nil)) (.cst (.int 1))) (.cst .none))) .skip)))⟩
def f_most_safe : Fn := ⟨1, 2, (.seq (.seq (.frz [0]) (.set 1 (.call "first_ghost" (.cons (.var 0) .nil)))) (.seq (.ret (.ite (.cmp .isn (.var 1) (.cst .none)) (.prim .len (.cons (.ix (.var 0) (.cst (.int 2))) .nil)) (.bin .sub (.prim .len (.cons (.var 1) .nil)) (.cst (.int 1))))) .skip))⟩
def f_are_rules : Fn := ⟨1, 1, (.seq (.ife (.or_ (.not_ (.prim (.isi .tuple) (.cons (.var 0) .nil))) (.cmp .ne (.prim .len (.cons (.var 0) .nil)) (.cst (.int 3)))) (.seq (.ret (.cst (.bool false))) .skip) .skip) (.seq (.ret (.and_ (.call "is_whole" (.cons (.ix (.var 0) (.cst (.int 0))) (.cons (.cst (.int 1)) (.cons (.cst (.int 9)) .nil)))) (.and_ (.call "is_whole" (.cons (.ix (.var 0) (.cst (.int 1))) (.cons (.cst (.int 0)) (.cons (.cst (.int 99)) .nil)))) (.call "is_whole" (.cons (.ix (.var 0) (.cst (.int 2))) (.cons (.cst (.int 1)) (.cons (.cst (.int 99)) .nil))))))) .skip))⟩
def f_with_key : Fn := ⟨2, 6, (.seq (.seq (.frz [0]) (.ex (.call "look_pad" (.cons (.var 0) .nil)))) (.seq (.seq (.frz [0]) (.unp [2, 3, 4, 5] (.var 0))) (.seq (.seq (.frz [1, 2, 3]) (.ife (.or_ (.not_ (.call "is_key" (.cons (.var 1) (.cons (.var 2) (.cons (.var 3) .nil))))) (.or_ (.cmp .inn (.var 1) (.var 4)) (.cmp .eq (.prim .len (.cons (.var 4) .nil)) (.cst (.int 8))))) (.seq (.rse "NoKey") .skip) .skip)) (.seq (.seq (.frz [2, 3, 1, 5]) (.ret (.tup (.cons (.var 2) (.cons (.var 3) (.cons (.prim .tuple (.cons (.prim .sorted (.cons (.bin .add (.var 4) (.tup (.cons (.var 1) .nil))) .nil)) .nil)) (.cons (.var 5) .nil))))))) .skip))))⟩
def k_only_of_1 : E := .comp (.var 3) (.nm 3) [3] (.ix (.var 0) (.cst (.int 2))) (.cmp .inn (.var 3) (.var 1))
def k_only_of_2 : E := .comp (.var 3) (.nm 3) [3] (.ix (.var 0) (.cst (.int 3))) (.cmp .inn (.var 3) (.var 1))
def f_only_of : Fn := ⟨2, 4, (.seq (.set 2 (.prim .tuple (.cons k_only_of_1 .nil))) (.seq (.seq (.frz [2]) (.ret (.tup (.cons (.ix (.var 0) (.cst (.int 0))) (.cons (.ix (.var 0) (.cst (.int 1))) (.cons (.var 2) (.cons (.prim .tuple (.cons k_only_of_2 .nil)) .nil))))))) .skip))⟩
def k_without_key_1 : E := .comp (.var 2) (.nm 2) [2] (.ix (.var 0) (.cst (.int 2))) (.cmp .ne (.var 2) (.var 1))
def f_without_key : Fn := ⟨2, 3, (.seq (.seq (.frz [0]) (.ex (.call "look_pad" (.cons (.var 0) .nil)))) (.seq (.seq (.frz [1]) (.ife (.or_ (.not_ (.call "is_key" (.cons (.var 1) (.cons (.ix (.var 0) (.cst (.int 0))) (.cons (.ix (.var 0) (.cst (.int 1))) .nil))))) (.or_ (.cmp .nin (.var 1) (.ix (.var 0) (.cst (.int 2)))) (.cmp .eq (.prim .len (.cons (.ix (.var 0) (.cst (.int 2))) .nil)) (.cst (.int 1))))) (.seq (.rse "NoKey") .skip) .skip)) (.seq (.seq (.frz [0]) (.ret (.call "only_of" (.cons (.var 0) (.cons k_without_key_1 .nil))))) .skip)))⟩
def f_only_keys : Fn := ⟨2, 3, (.seq (.seq (.frz [0]) (.ex (.call "look_pad" (.cons (.var 0) .nil)))) (.seq (.seq (.frz [0, 1]) (.set 2 (.call "keys_in" (.cons (.var 0) (.cons (.var 1) .nil))))) (.seq (.ife (.cmp .eq (.prim .len (.cons (.var 2) .nil)) (.cst (.int 0))) (.seq (.rse "NoKey") .skip) .skip) (.seq (.seq (.frz [0, 2]) (.ret (.call "only_of" (.cons (.var 0) (.cons (.var 2) .nil))))) .skip))))⟩
def k_groups_of_1 : E := .comp (.or_ (.cmp .eq (.ix (.var 2) (.cst (.int 0))) (.ix (.var 5) (.cst (.int 0)))) (.cmp .eq (.ix (.var 2) (.cst (.int 1))) (.ix (.var 5) (.cst (.int 1))))) (.nm 5) [5] (.var 4) (.cst (.bool true))
def k_groups_of_2 : E := .comp (.var 4) (.nm 4) [4] (.var 1) (.prim .any (.cons k_groups_of_1 .nil))
def k_groups_of_3 : E := .comp (.var 4) (.nm 4) [4] (.var 1) (.cmp .nin (.var 4) (.var 3))
def l_groups_of_1 : C := .for_ (.nm 4) (.var 3) (.seq (.ext 7 (.var 4)) .skip)
def l_groups_of_2 : C := .for_ (.nm 2) (.ix (.var 0) (.cst (.int 2))) (.seq (.set 3 k_groups_of_2) (.seq (.set 6 k_groups_of_3) (.seq (.seq (.frz [2]) (.set 7 (.lst (.cons (.var 2) .nil)))) (.seq (.seq (.frz [3]) l_groups_of_1) (.seq (.set 1 (.bin .add (.var 6) (.lst (.cons (.prim .sorted (.cons (.var 7) .nil)) .nil)))) .skip)))))
def f_groups_of : Fn := ⟨1, 8, (.seq (.seq (.frz [0]) (.ex (.call "look_pad" (.cons (.var 0) .nil)))) (.seq (.set 1 (.lst .nil)) (.seq l_groups_of_2 (.seq (.ret (.prim .sorted (.cons (.var 1) .nil))) .skip))))⟩
def k_sure_chords_1 : E := .comp (.var 2) (.nm 2) [2] (.call "all_sets" (.cons (.ix (.var 0) (.cst (.int 2))) .nil)) (.and_ (.chn .le .le (.cst (.int 1)) (.prim .len (.cons (.var 2) .nil)) (.var 1)) (.call "is_sure" (.cons (.var 0) (.cons (.var 2) .nil))))
def f_sure_chords : Fn := ⟨2, 3, (.seq (.seq (.frz [0]) (.ex (.call "look_pad" (.cons (.var 0) .nil)))) (.seq (.seq (.frz [1]) (.ife (.not_ (.call "is_whole" (.cons (.var 1) (.cons (.cst (.int 1)) (.cons (.cst (.int 4)) .nil))))) (.seq (.rse "NoNumber") .skip) .skip)) (.seq (.seq (.frz [0]) (.ret (.prim .sorted (.cons k_sure_chords_1 .nil)))) .skip)))⟩
def f_Scanner___init__ : Fn := ⟨3, 3, (.seq (.seq (.frz [1]) (.ex (.call "look_pad" (.cons (.var 1) .nil)))) (.seq (.seq (.frz [2]) (.ife (.not_ (.call "are_rules" (.cons (.var 2) .nil))) (.seq (.rse "NoRules") .skip) .skip)) (.seq (.seq (.frz [1]) (.fset "Scanner" 0 "pad" (.var 1))) (.seq (.seq (.frz [2]) (.fset "Scanner" 0 "rules" (.var 2))) (.seq (.fset "Scanner" 0 "since" (.dnew true)) (.seq (.fset "Scanner" 0 "runs" (.dnew true)) (.seq (.fset "Scanner" 0 "scans" (.cst (.int 0))) .skip)))))))⟩
def f_Scanner_read : Fn := ⟨3, 3, (.seq (.ife (.cmp .eq (.var 2) (.fIn "Scanner" 1 0 "since")) (.seq (.fput "Scanner" 0 "runs" 1 (.cst (.int 0))) (.seq (.ret (.cst (.bool false))) .skip)) .skip) (.seq (.fput "Scanner" 0 "runs" 1 (.bin .add (.fGet "Scanner" 0 "runs" 1 (.int 0)) (.cst (.int 1)))) (.seq (.ife (.cmp .lt (.fIx "Scanner" 0 "runs" 1) (.ix (.fld "Scanner" (.var 0) "rules") (.cst (.int 0)))) (.seq (.ret (.cst (.bool false))) .skip) .skip) (.seq (.fput "Scanner" 0 "runs" 1 (.cst (.int 0))) (.seq (.ife (.var 2) (.seq (.fput "Scanner" 0 "since" 1 (.fld "Scanner" (.var 0) "scans")) .skip) (.seq (.fdel "Scanner" 0 "since" 1) .skip)) (.seq (.ret (.cst (.bool true))) .skip))))))⟩
def f_Scanner_is_again : Fn := ⟨2, 3, (.seq (.set 2 (.bin .sub (.bin .sub (.fld "Scanner" (.var 0) "scans") (.fIx "Scanner" 0 "since" 1)) (.ix (.fld "Scanner" (.var 0) "rules") (.cst (.int 1))))) (.seq (.ret (.and_ (.cmp .gt (.ix (.fld "Scanner" (.var 0) "rules") (.cst (.int 1))) (.cst (.int 0))) (.and_ (.cmp .ge (.var 2) (.cst (.int 0))) (.cmp .eq (.bin .mod (.var 2) (.ix (.fld "Scanner" (.var 0) "rules") (.cst (.int 2)))) (.cst (.int 0)))))) .skip))⟩
def f_Scanner_event : Fn := ⟨4, 4, (.seq (.seq (.frz [1, 2]) (.ife (.and_ (.or_ (.var 2) (.var 3)) (.meth "Scanner" (.var 0) "read" (.cons (.var 1) (.cons (.var 2) .nil)))) (.seq (.ret (.ite (.var 2) (.cst (.str "down")) (.cst (.str "up")))) .skip) .skip)) (.seq (.seq (.frz [1]) (.ret (.ite (.and_ (.fIn "Scanner" 1 0 "since") (.meth "Scanner" (.var 0) "is_again" (.cons (.var 1) .nil))) (.cst (.str "again")) (.cst (.str ""))))) .skip))⟩
def k_Scanner_scan_1 : E := .comp (.tup (.cons (.var 6) (.cons (.meth "Scanner" (.var 0) "event" (.cons (.var 6) (.cons (.cmp .inn (.var 6) (.var 3)) (.cons (.cmp .nin (.var 6) (.var 4)) .nil)))) .nil))) (.nm 6) [6] (.ix (.fld "Scanner" (.var 0) "pad") (.cst (.int 2))) (.cst (.bool true))
def k_Scanner_scan_2 : E := .comp (.tup (.cons (.var 6) (.cons (.var 7) .nil))) (.tp [6, 7]) [6, 7] (.var 5) (.cmp .ne (.var 7) (.cst (.str "")))
def f_Scanner_scan : Fn := ⟨2, 8, (.seq (.seq (.frz [1]) (.set 2 (.call "seen_of" (.cons (.fld "Scanner" (.var 0) "pad") (.cons (.call "keys_in" (.cons (.fld "Scanner" (.var 0) "pad") (.cons (.var 1) .nil))) .nil))))) (.seq (.seq (.frz [2, 2]) (.par [3, 4] (.cons (.call "must" (.cons (.fld "Scanner" (.var 0) "pad") (.cons (.var 2) .nil))) (.cons (.call "may" (.cons (.fld "Scanner" (.var 0) "pad") (.cons (.var 2) .nil))) .nil)))) (.seq (.fset "Scanner" 0 "scans" (.bin .add (.fld "Scanner" (.var 0) "scans") (.cst (.int 1)))) (.seq (.set 5 k_Scanner_scan_1) (.seq (.ret k_Scanner_scan_2) .skip)))))⟩
def f_Scanner_down : Fn := ⟨1, 1, (.seq (.ret (.prim .sorted (.cons (.fList "Scanner" 0 "since") .nil))) .skip)⟩
def f_Scanner_many : Fn := ⟨1, 1, (.seq (.ret (.fld "Scanner" (.var 0) "scans")) .skip)⟩
def k_law_1 : E := .comp (.tup (.cons (.var 6) (.cons (.cst (.str "down")) .nil))) (.nm 6) [6] (.var 5) (.cst (.bool true))
def k_law_2 : E := .comp (.tup (.cons (.var 6) (.cons (.cst (.str "up")) .nil))) (.nm 6) [6] (.var 5) (.cst (.bool true))
def k_law_3 : E := .comp (.var 6) (.tp [6, 9]) [6, 9] (.var 8) (.or_ (.cmp .nin (.var 6) (.var 7)) (.cmp .ne (.var 9) (.cst (.str "down"))))
def k_law_4 : E := .comp (.var 6) (.nm 6) [6] (.var 7) (.cmp .nin (.var 6) (.call "may" (.cons (.var 1) (.cons (.var 10) .nil))))
def k_law_5 : E := .comp (.var 6) (.tp [6, 9]) [6, 9] (.var 8) (.cst (.bool true))
def l_law_1 : C := .for_ (.nm 3) (.rng1 (.cst (.int 2))) (.seq (.seq (.frz [1]) (.set 4 (.new "Scanner" (.cons (.var 1) (.cons (.tup (.cons (.cst (.int 1)) (.cons (.cst (.int 0)) (.cons (.cst (.int 1)) .nil)))) .nil))))) (.seq (.ife (.cmp .ne (.var 2) (.lst .nil)) (.seq (.seq (.frz [0]) (.set 5 (.ix (.var 2) (.call "_law_pick" (.cons (.var 0) (.cons (.bin .add (.cst (.int 1)) (.var 3)) (.cons (.prim .len (.cons (.var 2) .nil)) .nil))))))) (.seq (.seq (.frz [1, 5, 1, 1, 5]) (.ife (.or_ (.cmp .isnt (.call "is_sure" (.cons (.var 1) (.cons (.var 5) .nil))) (.cst (.bool true))) (.cmp .ne (.call "must" (.cons (.var 1) (.cons (.call "seen" (.cons (.var 1) (.cons (.var 5) .nil))) .nil))) (.prim .list (.cons (.var 5) .nil)))) (.seq (.ret (.cst (.bool false))) .skip) .skip)) (.seq (.seq (.frz [5]) (.ife (.or_ (.cmp .ne (.meth "Scanner" (.var 4) "scan" (.cons (.var 5) .nil)) k_law_1) (.cmp .ne (.meth "Scanner" (.var 4) "down" .nil) (.prim .list (.cons (.var 5) .nil)))) (.seq (.ret (.cst (.bool false))) .skip) .skip)) (.seq (.ife (.or_ (.cmp .ne (.meth "Scanner" (.var 4) "scan" (.cons (.lst .nil) .nil)) k_law_2) (.cmp .ne (.meth "Scanner" (.var 4) "down" .nil) (.lst .nil))) (.seq (.ret (.cst (.bool false))) .skip) .skip) .skip)))) .skip) (.seq (.seq (.frz [0, 1]) (.set 7 (.prim .sortedSet (.cons (.call "_law_keys" (.cons (.var 0) (.cons (.bin .add (.cst (.int 60)) (.bin .mul (.cst (.int 15)) (.var 3))) (.cons (.var 1) .nil)))) .nil)))) (.seq (.seq (.frz [7]) (.set 8 (.meth "Scanner" (.var 4) "scan" (.cons (.var 7) .nil)))) (.seq (.ife (.cmp .ne k_law_3 (.lst .nil)) (.seq (.ret (.cst (.bool false))) .skip) .skip) (.seq (.seq (.frz [1, 7]) (.set 10 (.call "seen" (.cons (.var 1) (.cons (.var 7) .nil))))) (.seq (.seq (.frz [1, 10]) (.set 11 k_law_4)) (.seq (.seq (.frz [1, 10]) (.ife (.or_ (.cmp .ne k_law_5 (.call "must" (.cons (.var 1) (.cons (.var 10) .nil)))) (.cmp .ne (.var 11) (.lst .nil))) (.seq (.ret (.cst (.bool false))) .skip) .skip)) .skip))))))))
def f_law : Fn := ⟨1, 12, (.seq (.seq (.frz [0]) (.set 1 (.call "_law_pad" (.cons (.var 0) (.cons (.cst (.int 10)) (.cons (.cst (.int 5)) .nil)))))) (.seq (.seq (.frz [1]) (.set 2 (.call "sure_chords" (.cons (.var 1) (.cons (.cst (.int 4)) .nil))))) (.seq l_law_1 (.seq (.ret (.cst (.bool true))) .skip))))⟩
end Mini
/-! What the defs of pads.py compute. -/
namespace Mini
open PySem L2
structure TPad0 (T : Str → Option Fn) : Prop where
  is_whole : T "is_whole" = some f_is_whole
  is_key : T "is_key" = some f_is_key
  are_rising : T "are_rising" = some f_are_rising
  is_pad : T "is_pad" = some f_is_pad
  look_pad : T "look_pad" = some f_look_pad
structure TPads (T : Str → Option Fn) : Prop extends TPad0 T where
  keys_in : T "keys_in" = some f_keys_in
structure TDraw (T : Str → Option Fn) : Prop where
  cell : T "_law_cell" = some f__law_cell
  pick : T "_law_pick" = some f__law_pick
/-- a def's end -/
def endF : RS → Res D
  | .nx _ S1 => .ok .none S1
  | .rt d S1 => .ok d S1
  | .ex c _ S1 => .ex c S1
  | _ => .no
@[simp] theorem endF_nx {env : Mini.Env} {S : Sto} : endF (.nx env S) = .ok .none S := rfl
@[simp] theorem endF_rt {d : D} {S : Sto} : endF (.rt d S) = .ok d S := rfl
@[simp] theorem endF_ex {c : Str} {env : Mini.Env} {S : Sto} : endF (.ex c env S) = .ex c S := rfl
theorem callF_eq {T : Str → Option Fn} {n : Nat} {f : Str} {g : Fn} {ds : List D} {S : Sto} (hg : T f = some g) (hl : ds.length = g.ps) : callF T (n + 1) f ds S = endF (exS (callF T n) g.body (ds.map .val ++ List.replicate (g.ns - g.ps) .no) S) := by
  unfold callF
  rw [hg]
  simp only [hl, if_true]
  rfl
section
variable {T : Str → Option Fn} {n : Nat} {S : Sto}
theorem c_is_whole0 (hT : TPad0 T) (hn : 1 ≤ n) (i lo hi : Int) : callF T n "is_whole" [.int i, .int lo, .int hi] S = .ok (.bool (decide (lo ≤ i) && decide (i ≤ hi))) S := by
  obtain ⟨m, rfl⟩ : ∃ m, n = m + 1 := ⟨n - 1, by omega⟩
  rw [callF_eq hT.is_whole rfl]
  by_cases h : lo ≤ i <;> simp [f_is_whole, isiF, h]
theorem atT {xs : List D} {i : Nat} {a : D} (h : xs[i]? = some a) : getF (.tuple xs) (.int i) = some a := by
  show L2.atI xs (i : Int) = some a
  exact atI_nat h
theorem atL {xs : List D} {i : Nat} {a : D} (h : xs[i]? = some a) : getF (.list xs) (.int i) = some a := by
  show L2.atI xs (i : Int) = some a
  exact atI_nat h
theorem at0 {a : D} {r : List D} : getF (.tuple (a :: r)) (.int 0) = some a := atT (i := 0) rfl
theorem at1 {a b : D} {r : List D} : getF (.tuple (a :: b :: r)) (.int 1) = some b := atT (i := 1) rfl
theorem at2 {a b c : D} {r : List D} : getF (.tuple (a :: b :: c :: r)) (.int 2) = some c := atT (i := 2) rfl
theorem at3 {a b c d : D} {r : List D} : getF (.tuple (a :: b :: c :: d :: r)) (.int 3) = some d := atT (i := 3) rfl
theorem cut1 {xs : List D} : cutL xs (some 1) none = xs.drop 1 := by
  unfold cutL
  rw [show HT.sIx xs.length 0 (some 1) = min 1 xs.length from HT.sIx_nat xs.length 0 1, HT.sIx_none]
  cases xs with
  | nil => rfl
  | cons x r =>
    have e : min 1 (x :: r).length = 1 := by
      rw [List.length_cons]
      omega
    rw [e]
    simp
def inR (r c : Int) (k : Key2) : Bool := (decide (0 ≤ k.1) && decide (k.1 ≤ r - 1)) && (decide (0 ≤ k.2) && decide (k.2 ≤ c - 1))
theorem c_is_key0 (hT : TPad0 T) (hn : 2 ≤ n) (k : Key2) (r c : Int) : callF T n "is_key" [encP k, .int r, .int c] S = .ok (.bool (inR r c k)) S := by
  obtain ⟨m, rfl⟩ : ∃ m, n = m + 1 := ⟨n - 1, by omega⟩
  rw [callF_eq hT.is_key rfl]
  have hm : 1 ≤ m := by omega
  by_cases h : 0 ≤ k.1 ∧ k.1 ≤ r - 1
  · simp [f_is_key, isiF, encP, at0, at1, c_is_whole0 hT hm, inR, h]
  · have h2 : (decide (0 ≤ k.1) && decide (k.1 ≤ r - 1)) = false := by
      rw [← Bool.not_eq_true, Bool.and_eq_true, decide_eq_true_eq, decide_eq_true_eq]
      exact h
    simp [f_is_key, isiF, encP, at0, at1, c_is_whole0 hT hm, inR, h2]
def risesB (ks : List Key2) : Bool := (ks.zip (ks.drop 1)).all fun x => ltP x.1 x.2
def encPP (x : Key2 × Key2) : D := .tuple [encP x.1, encP x.2]
theorem zipD_keys (xs ys : List Key2) : zipD (xs.map encP) (ys.map encP) = (xs.zip ys).map encPP := by
  unfold zipD
  rw [List.zip_map, List.map_map]
  rfl
theorem filterMap_some {α : Type} (f : α → D) (xs : List α) : (xs.filterMap fun x => some (f x)) = xs.map f := by
  induction xs with
  | nil => rfl
  | cons x r ih => simp [ih]
theorem c_are_rising0 (hT : TPad0 T) (hn : 1 ≤ n) (ks : List Key2) (hl : ks.length ≤ 1000) : callF T n "are_rising" [.tuple (ks.map encP)] S = .ok (.bool (risesB ks)) S := by
  obtain ⟨m, rfl⟩ : ∃ m, n = m + 1 := ⟨n - 1, by omega⟩
  rw [callF_eq hT.are_rising rfl]
  have hc : evE (callF T m) .b (.comp (.cmp .lt (.var 1) (.var 2)) (.tp [1, 2]) [1, 2] (.zip (.var 0) (.cut (.var 0) (.cons (.cst (.int 1)) .nil) .nil)) (.cst (.bool true))) [.val (.tuple (ks.map encP)), .no, .no] S
      = .ok (.list ((ks.zip (ks.drop 1)).map fun x => .bool (ltP x.1 x.2))) S := by
    rw [comp_run (enc := encPP) (xs := ks.zip (ks.drop 1)) (g := fun x => some (.bool (ltP x.1 x.2))) (d := .list ((ks.zip (ks.drop 1)).map encPP)) ?_ rfl ?_ ?_]
    · rw [filterMap_some]
    · simp [optI, cutF, cut1, zres]
      rw [← List.map_tail, zipD_keys]
    · rw [List.length_zip, List.length_drop]
      omega
    · intro x _
      simp [turnC, setT, wipeS, encPP]
  simp only [f_are_rising, k_are_rising_1]
  simp [hc, p_all, risesB]
/-! ### pads -/
structure PadR where
  r : Int
  c : Int
  ks : List Key2
  ds : List Key2
def encPad (p : PadR) : D := .tuple [.int p.r, .int p.c, .tuple (p.ks.map encP), .tuple (p.ds.map encP)]
abbrev Up (ks : List Key2) : Prop := ks.Pairwise (fun a b => ltP a b = true)
structure WF (p : PadR) : Prop where
  r1 : 1 ≤ p.r ∧ p.r ≤ 4
  c1 : 1 ≤ p.c ∧ p.c ≤ 4
  kn : 1 ≤ p.ks.length
  k8 : p.ks.length ≤ 8
  ku : Up p.ks
  du : Up p.ds
  kr : ∀ k ∈ p.ks, 0 ≤ k.1 ∧ k.1 < p.r ∧ 0 ≤ k.2 ∧ k.2 < p.c
  dk : ∀ d ∈ p.ds, d ∈ p.ks
theorem rises_up : ∀ {ks : List Key2}, Up ks → risesB ks = true
  | [], _ => rfl
  | [_], _ => rfl
  | a :: b :: r, h => by
    have h1 := List.pairwise_cons.mp h
    have ih := rises_up h1.2
    unfold risesB at ih ⊢
    simp only [List.drop_one, List.tail_cons, List.zip_cons_cons, List.all_cons] at ih ⊢
    rw [h1.1 b List.mem_cons_self]
    exact ih
theorem up_sub {ks ls : List Key2} (hk : Up ks) (h : ∀ k ∈ ks, k ∈ ls) : ks.length ≤ ls.length := by
  have hn := up_nodup hk
  clear hk
  induction ks generalizing ls with
  | nil => exact Nat.zero_le _
  | cons a r ih =>
    have h1 := List.nodup_cons.mp hn
    have ha : a ∈ ls := h a List.mem_cons_self
    have q := ih (ls := ls.erase a) (fun k hk => by
      have : k ≠ a := fun e => h1.1 (e ▸ hk)
      exact (List.mem_erase_of_ne this).mpr (h k (List.mem_cons_of_mem _ hk))) h1.2
    rw [List.length_erase_of_mem ha] at q
    have : 0 < ls.length := List.length_pos_of_mem ha
    rw [List.length_cons]
    omega
theorem WF.d8 {p : PadR} (h : WF p) : p.ds.length ≤ 8 := Nat.le_trans (up_sub h.du h.dk) h.k8
theorem WF.inR {p : PadR} (h : WF p) : ∀ k ∈ p.ks, Mini.inR p.r p.c k = true := fun k hk => by
  have q := h.kr k hk
  unfold Mini.inR
  simp
  omega
theorem all_map2 {α : Type} {f : α → Bool} {xs : List α} (h : ∀ x ∈ xs, f x = true) : xs.all f = true := List.all_eq_true.mpr h
theorem c_is_pad0 (hT : TPad0 T) (hn : 3 ≤ n) {p : PadR} (h : WF p) : callF T n "is_pad" [encPad p] S = .ok (.bool true) S := by
  obtain ⟨m, rfl⟩ : ∃ m, n = m + 1 := ⟨n - 1, by omega⟩
  rw [callF_eq hT.is_pad rfl]
  have hd := h.d8
  have h8 := h.k8
  have hm1 : 1 ≤ m := by omega
  have hm2 : 2 ≤ m := by omega
  obtain ⟨r, c, ks, ds⟩ := p
  obtain ⟨al, hal⟩ : ∃ al, al = ks ++ ds := ⟨_, rfl⟩
  have c1 : evE (callF T m) .b (.comp (.call "is_key" (.cons (.var 5) (.cons (.var 1) (.cons (.var 2) .nil)))) (.nm 5) [5] (.bin .add (.var 3) (.var 4)) (.cst (.bool true))) [.val (encPad ⟨r, c, ks, ds⟩), .val (.int r), .val (.int c), .val (.tuple (ks.map encP)), .val (.tuple (ds.map encP)), .no] S
      = .ok (.list (al.map fun x => .bool (inR r c x))) S := by
    subst hal
    rw [comp_run (enc := encP) (xs := ks ++ ds) (g := fun x => some (.bool (inR r c x))) (d := .tuple ((ks ++ ds).map encP)) ?_ rfl ?_ ?_]
    · rw [filterMap_some]
    · have hl : lim (ks.length + ds.length) = true := decide_eq_true (by show ks.length + ds.length ≤ 1000000; simp only at hd h8; omega)
      simp [binF, addF, hl]
    · rw [List.length_append]
      simp only at hd h8
      omega
    · intro x _
      simp [turnC, setT, wipeS, c_is_key0 hT hm2]
  have c2 : evE (callF T m) .b (.comp (.cmp .inn (.var 5) (.var 3)) (.nm 5) [5] (.var 4) (.cst (.bool true))) [.val (encPad ⟨r, c, ks, ds⟩), .val (.int r), .val (.int c), .val (.tuple (ks.map encP)), .val (.tuple (ds.map encP)), .no] S
      = .ok (.list (ds.map fun x => .bool (decide (x ∈ ks)))) S := by
    rw [comp_run (enc := encP) (xs := ds) (g := fun x => some (.bool (decide (x ∈ ks)))) (d := .tuple (ds.map encP)) ?_ rfl ?_ ?_]
    · rw [filterMap_some]
    · simp
    · simp only at hd
      omega
    · intro x _
      simp [turnC, setT, wipeS]
  have a1 : al.all (inR r c) = true := all_map2 fun x hx => by
    rw [hal] at hx
    rcases List.mem_append.mp hx with q | q
    · exact h.inR x q
    · exact h.inR x (h.dk x q)
  have a2 : ds.all (fun x => decide (x ∈ ks)) = true := all_map2 fun x hx => decide_eq_true (h.dk x hx)
  have r1 := h.r1
  have r2 := h.c1
  have r3 := h.kn
  have e1 : risesB ks = true := rises_up h.ku
  have e2 : risesB ds = true := rises_up h.du
  simp only at r1 r2 r3 hd h8
  have i1 : (1 : Int) ≤ ks.length := by omega
  have i2 : (ks.length : Int) ≤ 8 := by omega
  have n1 : encPad ⟨r, c, ks, ds⟩ = .tuple [.int r, .int c, .tuple (ks.map encP), .tuple (ds.map encP)] := rfl
  simp only [f_is_pad, k_is_pad_1, k_is_pad_2]
  simp [isiF, n1, setT, frz1, c_is_whole0 hT hm1, r1, r2, i1, i2]
  rw [n1] at c1 c2
  simp [c1, c2, p_all, a1, a2, frz1, c_are_rising0 hT hm1 ks (by omega), c_are_rising0 hT hm1 ds (by omega), e1, e2]
theorem c_look_pad0 (hT : TPad0 T) (hn : 4 ≤ n) {p : PadR} (h : WF p) : callF T n "look_pad" [encPad p] S = .ok .none S := by
  obtain ⟨m, rfl⟩ : ∃ m, n = m + 1 := ⟨n - 1, by omega⟩
  rw [callF_eq hT.look_pad rfl]
  simp [f_look_pad, frz1, c_is_pad0 hT (show 3 ≤ m by omega) h]
theorem c_is_whole (hT : TPads T) (hn : 1 ≤ n) (i lo hi : Int) : callF T n "is_whole" [.int i, .int lo, .int hi] S = .ok (.bool (decide (lo ≤ i) && decide (i ≤ hi))) S := c_is_whole0 hT.toTPad0 hn i lo hi
theorem c_is_key (hT : TPads T) (hn : 2 ≤ n) (k : Key2) (r c : Int) : callF T n "is_key" [encP k, .int r, .int c] S = .ok (.bool (inR r c k)) S := c_is_key0 hT.toTPad0 hn k r c
theorem c_are_rising (hT : TPads T) (hn : 1 ≤ n) (ks : List Key2) (hl : ks.length ≤ 1000) : callF T n "are_rising" [.tuple (ks.map encP)] S = .ok (.bool (risesB ks)) S := c_are_rising0 hT.toTPad0 hn ks hl
theorem c_is_pad (hT : TPads T) (hn : 3 ≤ n) {p : PadR} (h : WF p) : callF T n "is_pad" [encPad p] S = .ok (.bool true) S := c_is_pad0 hT.toTPad0 hn h
theorem c_look_pad (hT : TPads T) (hn : 4 ≤ n) {p : PadR} (h : WF p) : callF T n "look_pad" [encPad p] S = .ok .none S := c_look_pad0 hT.toTPad0 hn h
end
end Mini
/-! keys_in, and the defs of building.py. -/
namespace Mini
open PySem L2
structure TWk (T : Str → Option Fn) : Prop where
  with_key : T "with_key" = some f_with_key
structure TOo (T : Str → Option Fn) : Prop where
  only_of : T "only_of" = some f_only_of
structure TWo (T : Str → Option Fn) : Prop where
  without_key : T "without_key" = some f_without_key
structure TOk (T : Str → Option Fn) : Prop where
  only_keys : T "only_keys" = some f_only_keys
/-- a list or a tuple of keys -/
structure KSeq (d : D) (l : List Key2) : Prop where
  it : itemsOf d = some (l.map encP)
  lt : isiF .lt d = some true
  inn : ∀ k : Key2, isInF (encP k) d = some (decide (k ∈ l))
  sset : (∀ k ∈ l, Small k) → l.length < 64 → primF .sortedSet [d] = some (.list ((setP l).map encP))
theorem kseqL (l : List Key2) : KSeq (.list (l.map encP)) l := ⟨rfl, rfl, in_lst l, p_setL⟩
theorem kseqT (l : List Key2) : KSeq (.tuple (l.map encP)) l := ⟨rfl, rfl, in_tup l, p_setT⟩
@[simp] theorem pad0 (p : PadR) : getF (encPad p) (.int 0) = some (.int p.r) := at0
@[simp] theorem pad1 (p : PadR) : getF (encPad p) (.int 1) = some (.int p.c) := at1
@[simp] theorem pad2 (p : PadR) : getF (encPad p) (.int 2) = some (.tuple (p.ks.map encP)) := at2
@[simp] theorem pad3 (p : PadR) : getF (encPad p) (.int 3) = some (.tuple (p.ds.map encP)) := at3
theorem pad_set {a b c d : Nat} {env : Mini.Env} (p : PadR) : setT (.tp [a, b, c, d]) (encPad p) env = some ((((env.set a (.val (.int p.r))).set b (.val (.int p.c))).set c (.val (.tuple (p.ks.map encP)))).set d (.val (.tuple (p.ds.map encP)))) := rfl
section
variable {T : Str → Option Fn} {n : Nat} {S : Sto}
theorem WF.small {p : PadR} (h : WF p) : ∀ k ∈ p.ks, Small k := fun k hk => by
  have q := h.kr k hk
  have r1 := h.r1
  have c1 := h.c1
  exact ⟨⟨q.1, by omega⟩, q.2.2.1, by omega⟩
theorem c_keys_in (hT : TPads T) (hn : 3 ≤ n) {p : PadR} (h : WF p) {d : D} {l : List Key2} (hd : KSeq d l) (hl : ∀ k ∈ l, k ∈ p.ks) (hl2 : l.length < 64) : callF T n "keys_in" [encPad p, d] S = .ok (.tuple ((setP l).map encP)) S := by
  obtain ⟨m, rfl⟩ : ∃ m, n = m + 1 := ⟨n - 1, by omega⟩
  rw [callF_eq hT.keys_in rfl]
  have hm2 : 2 ≤ m := by omega
  have c1 : evE (callF T m) .b (.comp (.call "is_key" (.cons (.var 2) (.cons (.ix (.var 0) (.cst (.int 0))) (.cons (.ix (.var 0) (.cst (.int 1))) .nil)))) (.nm 2) [2] (.var 1) (.cst (.bool true))) [.val (encPad p), .val d, .no] S
      = .ok (.list (l.map fun x => .bool (inR p.r p.c x))) S := by
    rw [comp_run (enc := encP) (xs := l) (g := fun x => some (.bool (inR p.r p.c x))) (d := d) ?_ hd.it ?_ ?_]
    · rw [filterMap_some]
    · simp
    · omega
    · intro x _
      simp [turnC, setT, wipeS, c_is_key hT hm2]
  have c2 : evE (callF T m) .b (.comp (.cmp .inn (.var 2) (.ix (.var 0) (.cst (.int 2)))) (.nm 2) [2] (.var 1) (.cst (.bool true))) [.val (encPad p), .val d, .no] S
      = .ok (.list (l.map fun x => .bool (decide (x ∈ p.ks)))) S := by
    rw [comp_run (enc := encP) (xs := l) (g := fun x => some (.bool (decide (x ∈ p.ks)))) (d := d) ?_ hd.it ?_ ?_]
    · rw [filterMap_some]
    · simp
    · omega
    · intro x _
      simp [turnC, setT, wipeS]
  have a1 : l.all (inR p.r p.c) = true := all_map2 fun x hx => h.inR x (hl x hx)
  have a2 : l.all (fun x => decide (x ∈ p.ks)) = true := all_map2 fun x hx => decide_eq_true (hl x hx)
  have s1 := hd.sset (fun k hk => h.small k (hl k hk)) hl2
  simp only [f_keys_in, k_keys_in_1, k_keys_in_2]
  simp [hd.lt, c1, c2, p_all, a1, a2, s1]
theorem filterMap_if {α : Type} (f : α → D) (q : α → Bool) (xs : List α) : (xs.filterMap fun x => if q x then some (f x) else none) = (xs.filter q).map f := by
  induction xs with
  | nil => rfl
  | cons x r ih => cases e : q x <;> simp [e, ih]
theorem turn_if {e : D} {b : Bool} {env : Mini.Env} {c f : Mini.Env → Sto → Res D} (h1 : c env S = .ok (.bool b) S) (h2 : f env S = .ok e S) : turnC (some env) c f S = .ok (if b then some e else none) S := by
  unfold turnC
  cases b <;> simp [h1, h2]
theorem in_cmp {d : D} {l : List Key2} (hd : KSeq d l) (k : Key2) : cmpF .inn (encP k) d = some (decide (k ∈ l)) := hd.inn k
theorem c_only_of (hT : TOo T) (hn : 1 ≤ n) {p : PadR} (h : WF p) {d : D} {l : List Key2} (hd : KSeq d l) : callF T n "only_of" [encPad p, d] S = .ok (encPad ⟨p.r, p.c, p.ks.filter (fun k => decide (k ∈ l)), p.ds.filter (fun k => decide (k ∈ l))⟩) S := by
  obtain ⟨m, rfl⟩ : ∃ m, n = m + 1 := ⟨n - 1, by omega⟩
  rw [callF_eq hT.only_of rfl]
  have h8 := h.k8
  have d8 := h.d8
  have c1 : ∀ o, evE (callF T m) .b (.comp (.var 3) (.nm 3) [3] (.ix (.var 0) (.cst (.int 2))) (.cmp .inn (.var 3) (.var 1))) [.val (encPad p), .val d, o, .no] S = .ok (.list ((p.ks.filter (fun k => decide (k ∈ l))).map encP)) S := fun o => by
    rw [comp_run (enc := encP) (xs := p.ks) (g := fun x => if decide (x ∈ l) then some (encP x) else none) (d := .tuple (p.ks.map encP)) ?_ rfl ?_ ?_]
    · rw [filterMap_if]
    · simp
    · omega
    · intro x _
      refine turn_if ?_ ?_
      · simp [wipeS, in_cmp hd]
      · simp [wipeS]
  have c2 : ∀ o, evE (callF T m) .b (.comp (.var 3) (.nm 3) [3] (.ix (.var 0) (.cst (.int 3))) (.cmp .inn (.var 3) (.var 1))) [.val (encPad p), .val d, o, .no] S = .ok (.list ((p.ds.filter (fun k => decide (k ∈ l))).map encP)) S := fun o => by
    rw [comp_run (enc := encP) (xs := p.ds) (g := fun x => if decide (x ∈ l) then some (encP x) else none) (d := .tuple (p.ds.map encP)) ?_ rfl ?_ ?_]
    · rw [filterMap_if]
    · simp
    · omega
    · intro x _
      refine turn_if ?_ ?_
      · simp [wipeS, in_cmp hd]
      · simp [wipeS]
  simp only [f_only_of, k_only_of_1, k_only_of_2]
  simp [c1, c2, fresh, slOf, frz1, lim]
  rfl
theorem WF.only {p : PadR} (h : WF p) (q : Key2 → Bool) (hn : ∃ k ∈ p.ks, q k = true) : WF ⟨p.r, p.c, p.ks.filter q, p.ds.filter q⟩ where
  r1 := h.r1
  c1 := h.c1
  kn := by
    obtain ⟨k, h1, h2⟩ := hn
    exact List.length_pos_of_mem (List.mem_filter.mpr ⟨h1, h2⟩)
  k8 := Nat.le_trans (List.length_filter_le _ _) h.k8
  ku := h.ku.filter _
  du := h.du.filter _
  kr := fun k hk => h.kr k (List.mem_filter.mp hk).1
  dk := fun d hd => List.mem_filter.mpr ⟨h.dk d (List.mem_filter.mp hd).1, (List.mem_filter.mp hd).2⟩
theorem c_without_key (hP : TPads T) (hO : TOo T) (hT : TWo T) (hn : 5 ≤ n) {p : PadR} (h : WF p) {k : Key2} (hk : k ∈ p.ks) (h2 : 2 ≤ p.ks.length) : callF T n "without_key" [encPad p, encP k] S = .ok (encPad ⟨p.r, p.c, p.ks.filter (fun x => !decide (x = k)), p.ds.filter (fun x => !decide (x = k))⟩) S := by
  obtain ⟨m, rfl⟩ : ∃ m, n = m + 1 := ⟨n - 1, by omega⟩
  rw [callF_eq hT.without_key rfl]
  have h8 := h.k8
  have c1 : evE (callF T m) .v (.comp (.var 2) (.nm 2) [2] (.ix (.var 0) (.cst (.int 2))) (.cmp .ne (.var 2) (.var 1))) [.val (encPad p), .val (encP k), .no] S = .ok (.list ((p.ks.filter (fun x => !decide (x = k))).map encP)) S := by
    rw [comp_run (enc := encP) (xs := p.ks) (g := fun x => if !decide (x = k) then some (encP x) else none) (d := .tuple (p.ks.map encP)) ?_ rfl ?_ ?_]
    · rw [filterMap_if]
    · simp
    · omega
    · intro x _
      refine turn_if ?_ ?_
      · simp [wipeS]
      · simp [wipeS]
  have k1 := h.inR k hk
  have l1 : ¬ ((p.ks.length : Int) = 1) := by omega
  have o1 := c_only_of (S := S) hO (show 1 ≤ m by omega) h (kseqL (p.ks.filter (fun x => !decide (x = k))))
  simp only [f_without_key, k_without_key_1]
  simp [frz1, c_look_pad hP (show 4 ≤ m by omega) h, c_is_key hP (show 2 ≤ m by omega), k1, hk, l1, c1, o1]
  unfold encPad
  have ek : p.ks.filter (fun x => decide (x ∈ p.ks) && !decide (x = k)) = p.ks.filter (fun x => !decide (x = k)) := List.filter_congr fun x hx => by simp [hx]
  have ed : p.ds.filter (fun x => decide (x ∈ p.ks) && !decide (x = k)) = p.ds.filter (fun x => !decide (x = k)) := List.filter_congr fun x hx => by simp [h.dk x hx]
  simp [ek, ed]
theorem add_key {ks : List Key2} {k : Key2} (hl : ks.length ≤ 1000) : binF .add (.tuple (ks.map encP)) (.tuple [encP k]) = some (.tuple ((ks ++ [k]).map encP)) := by
  have e : binF .add (.tuple (ks.map encP)) (.tuple [encP k]) = if lim ((ks.map encP).length + 1) then some (.tuple (ks.map encP ++ [encP k])) else none := rfl
  rw [e, List.length_map, if_pos (show lim (ks.length + 1) = true from decide_eq_true (by omega)), List.map_append]
  rfl
theorem c_with_key (hP : TPads T) (hT : TWk T) (hn : 5 ≤ n) {p : PadR} (h : WF p) {k : Key2} (hk : inR p.r p.c k = true) (hk2 : k ∉ p.ks) (h8 : p.ks.length < 8) : callF T n "with_key" [encPad p, encP k] S = .ok (encPad ⟨p.r, p.c, sortK (p.ks ++ [k]), p.ds⟩) S := by
  obtain ⟨m, rfl⟩ : ∃ m, n = m + 1 := ⟨n - 1, by omega⟩
  rw [callF_eq hT.with_key rfl]
  have l1 : ¬ ((p.ks.length : Int) = 8) := by omega
  simp only [f_with_key]
  simp [-List.map_append, frz1, c_look_pad hP (show 4 ≤ m by omega) h, pad_set, c_is_key hP (show 2 ≤ m by omega), hk, hk2, l1, lim, add_key (show p.ks.length ≤ 1000 by omega)]
  rfl
theorem WF.with {p : PadR} (h : WF p) {k : Key2} (hk : Mini.inR p.r p.c k = true) (hk2 : k ∉ p.ks) (h8 : p.ks.length < 8) : WF ⟨p.r, p.c, sortK (p.ks ++ [k]), p.ds⟩ := by
  have pm := sortK_perm (p.ks ++ [k])
  have nd : (p.ks ++ [k]).Nodup := by
    rw [List.nodup_append]
    refine ⟨up_nodup h.ku, by simp, fun a ha b hb e => ?_⟩
    rw [List.mem_singleton.mp hb] at e
    exact hk2 (e ▸ ha)
  refine ⟨h.r1, h.c1, ?_, ?_, sortK_up nd, h.du, fun x hx => ?_, fun d hd => ?_⟩
  · rw [pm.length_eq]
    simp
  · rw [pm.length_eq]
    simp
    omega
  · rcases List.mem_append.mp (pm.mem_iff.mp hx) with q | q
    · exact h.kr x q
    · rw [List.mem_singleton.mp q]
      unfold Mini.inR at hk
      simp at hk
      show 0 ≤ k.1 ∧ k.1 < p.r ∧ 0 ≤ k.2 ∧ k.2 < p.c
      omega
  · exact pm.mem_iff.mpr (List.mem_append_left _ (h.dk d hd))
theorem c_only_keys (hP : TPads T) (hO : TOo T) (hT : TOk T) (hn : 5 ≤ n) {p : PadR} (h : WF p) {d : D} {l : List Key2} (hd : KSeq d l) (hl : ∀ k ∈ l, k ∈ p.ks) (hl2 : l.length < 64) (hl3 : l ≠ []) : callF T n "only_keys" [encPad p, d] S = .ok (encPad ⟨p.r, p.c, p.ks.filter (fun k => decide (k ∈ l)), p.ds.filter (fun k => decide (k ∈ l))⟩) S := by
  obtain ⟨m, rfl⟩ : ∃ m, n = m + 1 := ⟨n - 1, by omega⟩
  rw [callF_eq hT.only_keys rfl]
  have l1 : ¬ ((setP l) = []) := fun e => by
    obtain ⟨x, r, rfl⟩ := List.exists_cons_of_ne_nil hl3
    have q := (setP_mem (q := x) (xs := x :: r)).mpr List.mem_cons_self
    rw [e] at q
    cases q
  have o1 := c_only_of (S := S) hO (show 1 ≤ m by omega) h (kseqT (setP l))
  have e1 : (fun k => decide (k ∈ setP l)) = fun k => decide (k ∈ l) := funext fun k => by simp only [setP_mem]
  rw [e1] at o1
  simp only [f_only_keys]
  simp [frz1, c_look_pad hP (show 4 ≤ m by omega) h, c_keys_in hP (show 3 ≤ m by omega) h hd hl hl2, fresh, slOf, l1, o1]
end
end Mini
/-! What the laws draw. -/
namespace Mini
open PySem L2
section
variable {T : Str → Option Fn} {n : Nat} {S : Sto}
theorem lenS (ns : List Int) : primF .len [scrD ns] = some (.int ns.length) := by
  show some (PyData.int (ns.map PyData.int).length) = _
  rw [List.length_map]
theorem atS {ns : List Int} {i : Nat} (h : i < ns.length) : getF (scrD ns) (.int i) = some (.int ns[i]) := by
  show L2.atI (ns.map PyData.int) (i : Int) = _
  exact atI_nat (by rw [List.getElem?_map, List.getElem?_eq_getElem h]; rfl)
theorem eqS (ns : List Int) : cmpF .eq (scrD ns) (.list []) = some ns.isEmpty := by
  show some (ns.map PyData.int).isEmpty = _
  rw [List.isEmpty_map]
def cellZ (ns : List Int) (k : Nat) : Int := if k < ns.length then ns.getD k 0 else if ns = [] then 0 else ns.getD (k % ns.length) 0 * 31 + k
theorem c_cell (hT : TDraw T) (hn : 1 ≤ n) (ns : List Int) (k : Nat) : callF T n "_law_cell" [scrD ns, .int k] S = .ok (.int (cellZ ns k)) S := by
  obtain ⟨m, rfl⟩ : ∃ m, n = m + 1 := ⟨n - 1, by omega⟩
  rw [callF_eq hT.cell rfl]
  unfold cellZ
  by_cases h : k < ns.length
  · have h2 : (k : Int) < ns.length := by omega
    simp [f__law_cell, lenS, h, h2, atS h]
  · have h2 : ¬ (k : Int) < ns.length := by omega
    by_cases h3 : ns = []
    · subst h3
      have h4 : ¬ (k : Int) < 0 := by omega
      simp [f__law_cell, lenS, eqS, lim, h4]
    · have h4 : ns.isEmpty = false := by simp [h3]
      have h5 : 0 < ns.length := List.length_pos_iff.mpr h3
      have h6 : k % ns.length < ns.length := Nat.mod_lt _ h5
      have e1 : binF .mod (.int k) (.int ns.length) = some (.int ((k % ns.length : Nat) : Int)) := by
        rw [mod_int (by omega)]
        simp
      have e2 : ∀ x : Int, binF .mul (.int x) (.int 31) = some (.int (x * 31)) := fun x => mul_int (.inr ⟨by decide, by decide⟩)
      have a6 := atS h6
      rw [Int.natCast_emod] at a6
      simp [f__law_cell, lenS, h, h2, h3, eqS, lim, h4, e1, a6, e2, List.getElem?_eq_getElem h6]
def pickN (ns : List Int) (k : Nat) (many : Nat) : Nat :=
  let d := (cellZ ns k + 6151 * (k + 1)) * 40692 % 2147483399
  ((d * d + d / 31) % 2147483629 % many).toNat
theorem pick_lt {ns : List Int} {k many : Nat} (h : 0 < many) : pickN ns k many < many := by
  unfold pickN
  have h1 : (0 : Int) < many := by omega
  have a := Int.emod_nonneg ((((cellZ ns k + 6151 * (k + 1)) * 40692 % 2147483399) * ((cellZ ns k + 6151 * (k + 1)) * 40692 % 2147483399) + ((cellZ ns k + 6151 * (k + 1)) * 40692 % 2147483399) / 31) % 2147483629) (show (many : Int) ≠ 0 by omega)
  have b := Int.emod_lt_of_pos ((((cellZ ns k + 6151 * (k + 1)) * 40692 % 2147483399) * ((cellZ ns k + 6151 * (k + 1)) * 40692 % 2147483399) + ((cellZ ns k + 6151 * (k + 1)) * 40692 % 2147483399) / 31) % 2147483629) h1
  simp only
  omega
theorem c_pick (hT : TDraw T) (hn : 2 ≤ n) (ns : List Int) (k : Nat) {many : Nat} (h : 0 < many) : callF T n "_law_pick" [scrD ns, .int k, .int many] S = .ok (.int (pickN ns k many)) S := by
  obtain ⟨m, rfl⟩ : ∃ m, n = m + 1 := ⟨n - 1, by omega⟩
  rw [callF_eq hT.pick rfl]
  have e1 : ∀ x : Int, binF .mul (.int 6151) (.int x) = some (.int (6151 * x)) := fun x => mul_int (.inl ⟨by decide, by decide⟩)
  have e2 : ∀ x : Int, binF .mul (.int x) (.int 40692) = some (.int (x * 40692)) := fun x => mul_int (.inr ⟨by decide, by decide⟩)
  have e3 : ∀ x : Int, binF .mod (.int x) (.int 2147483399) = some (.int (x % 2147483399)) := fun x => mod_int (by decide)
  have e4 : ∀ x : Int, binF .mod (.int x) (.int 2147483629) = some (.int (x % 2147483629)) := fun x => mod_int (by decide)
  have e5 : ∀ x : Int, binF .mod (.int x) (.int many) = some (.int (x % many)) := fun x => mod_int (by omega)
  have e6 : ∀ x : Int, binF .fdiv (.int x) (.int 31) = some (.int (x / 31)) := fun x => fdiv_int ⟨by decide, by decide⟩
  have e7 : ∀ x : Int, binF .mul (.int (x % 2147483399)) (.int (x % 2147483399)) = some (.int ((x % 2147483399) * (x % 2147483399))) := fun x => mul_int (.inl ⟨by omega, by omega⟩)
  simp [f__law_pick, frz1, c_cell hT (show 1 ≤ m by omega), e1, e2, e3, e4, e5, e6, e7, fresh, slOf]
  unfold pickN
  simp only
  rw [Int.toNat_of_nonneg]
  exact Int.emod_nonneg _ (by omega)
/-- some number below many -/
theorem c_pickE (hT : TDraw T) (hn : 2 ≤ n) (ns : List Int) {x : Int} (k : Nat) (hx : x = k) {y : Int} {many : Nat} (hy : y = many) (h : 0 < many) : ∃ j : Nat, j < many ∧ callF T n "_law_pick" [scrD ns, .int x, .int y] S = .ok (.int j) S := by
  subst hx hy
  exact ⟨_, pick_lt h, c_pick hT hn ns k h⟩
end
end Mini
/-! The drawn pad. -/
namespace Mini
open PySem L2
structure TDraw2 (T : Str → Option Fn) : Prop where
  one : TDraw T
  pad : T "_law_pad" = some f__law_pad
  keys : T "_law_keys" = some f__law_keys
def rowK (c i : Nat) : List Key2 := (List.range c).map fun (j : Nat) => ((i : Int), (j : Int))
def gridK (r c : Nat) : List Key2 := (List.range r).flatMap (rowK c)
theorem grid_succ (r c : Nat) : gridK (r + 1) c = gridK r c ++ rowK c r := by
  unfold gridK
  rw [List.range_succ, List.flatMap_append]
  simp
theorem rowK_len (c i : Nat) : (rowK c i).length = c := by simp [rowK]
theorem grid_len (r c : Nat) : (gridK r c).length = r * c := by
  induction r with
  | zero => simp [gridK]
  | succ r ih => rw [grid_succ, List.length_append, ih, rowK_len, Nat.succ_mul]
theorem mem_grid {r c : Nat} {k : Key2} : k ∈ gridK r c ↔ (0 ≤ k.1 ∧ k.1 < r ∧ 0 ≤ k.2 ∧ k.2 < c) := by
  unfold gridK rowK
  simp only [List.mem_flatMap, List.mem_range, List.mem_map]
  constructor
  · rintro ⟨i, hi, j, hj, rfl⟩
    simp only
    omega
  · rintro ⟨h1, h2, h3, h4⟩
    exact ⟨k.1.toNat, by omega, k.2.toNat, by omega, by ext <;> simp <;> omega⟩
theorem grid_up (r c : Nat) : (gridK r c).Pairwise (fun a b => ltP a b = true) := by
  induction r with
  | zero => simp [gridK]
  | succ r ih =>
    rw [grid_succ, List.pairwise_append]
    refine ⟨ih, ?_, fun a ha b hb => ?_⟩
    · unfold rowK
      rw [List.pairwise_map]
      refine List.pairwise_lt_range.imp fun {i j} h => ?_
      simp only [ltP, decide_eq_true_eq]
      exact .inr ⟨trivial, by omega⟩
    · have q := mem_grid.mp ha
      unfold rowK at hb
      obtain ⟨j, _, rfl⟩ := List.mem_map.mp hb
      simp only [ltP, decide_eq_true_eq]
      omega
theorem rangeD_get {n i : Nat} {x : D} (h : (rangeD 0 n)[i]? = some x) : i < n ∧ x = .int i := by
  unfold rangeD at h
  rw [List.getElem?_map] at h
  by_cases hi : i < n
  · rw [List.getElem?_range hi] at h
    cases h
    exact ⟨hi, by simp⟩
  · rw [List.getElem?_eq_none (by simpa using hi)] at h
    cases h
section
variable {T : Str → Option Fn} {m : Nat} {S : Sto}
theorem k_pad1 {a0 a1 a2 a3 a5 a8 a9 a10 a11 a12 a13 a7 : Sl} {c i : Nat} (hc : c ≤ 100) : evE (callF T m) .b k__law_pad_1 [a0, a1, a2, a3, .val (.int c), a5, .val (.int i), a7, a8, a9, a10, a11, a12, a13] S = .ok (.list ((rowK c i).map encP)) S := by
  unfold k__law_pad_1
  rw [comp_run (enc := fun j : Nat => .int ((0 : Nat) + (j : Int))) (xs := List.range c) (g := fun j => some (encP ((i : Int), (j : Int)))) (d := .list (rangeD 0 c)) ?_ rfl ?_ ?_]
  · rw [filterMap_some, rowK, List.map_map]
    rfl
  · have h1 : (c : Int) ≤ 100000 := by omega
    simp [h1]
  · simp
    omega
  · intro j hj
    simp [turnC, setT, wipeS, lim, encP]
theorem l_pad1 {a0 a1 a2 a6 a7 a8 a9 a10 a11 a12 a13 : Sl} {r c : Nat} (hr : r ≤ 100) (hc : c ≤ 100) : ∃ o, exS (callF T m) l__law_pad_1 [a0, a1, a2, .val (.int r), .val (.int c), .own [], a6, a7, a8, a9, a10, a11, a12, a13] S
    = .nx [a0, a1, a2, .val (.int r), .val (.int c), .own ((gridK r c).map encP), o, a7, a8, a9, a10, a11, a12, a13] S := by
  obtain ⟨env', e1, ⟨o, e2⟩⟩ := for_inv (c := l__law_pad_1) (cl := callF T m) (S := S) (env := [a0, a1, a2, .val (.int r), .val (.int c), .own [], a6, a7, a8, a9, a10, a11, a12, a13]) (d := .list (rangeD 0 r)) (items := rangeD 0 r) rfl
    (fun i env => ∃ o, env = [a0, a1, a2, .val (.int r), .val (.int c), .own ((gridK i c).map encP), o, a7, a8, a9, a10, a11, a12, a13]) (by
      have h1 : (r : Int) ≤ 100000 ∧ -100000 ≤ (r : Int) := by omega
      simp [h1]) rfl ⟨a6, rfl⟩ fun i x env hx he => by
      obtain ⟨hi, rfl⟩ := rangeD_get hx
      obtain ⟨o, rfl⟩ := he
      refine ⟨_, ?_, .val (.int i), rfl⟩
      have hl : lim ((gridK i c).length + (rowK c i).length) = true := by
        rw [grid_len, rowK_len]
        refine decide_eq_true ?_
        have : i * c ≤ 100 * 100 := Nat.mul_le_mul (by omega) hc
        omega
      simp [-List.map_append, stepF, setT, frz1, k_pad1 hc, hl]
      rw [grid_succ, List.map_append]
  rw [show (rangeD 0 r).length = r by simp [rangeD]] at e2
  exact ⟨o, by rw [← e2]; exact e1⟩
theorem erase_map {α β : Type} (f : α → β) : ∀ (xs : List α) (j : Nat), (xs.map f).eraseIdx j = (xs.eraseIdx j).map f
  | [], _ => rfl
  | _ :: _, 0 => rfl
  | x :: r, j + 1 => by
    show f x :: (r.map f).eraseIdx j = f x :: (r.eraseIdx j).map f
    rw [erase_map f r j]
theorem popK_keys {sp : List Key2} {j : Nat} (h : j < sp.length) (h2 : sp.length ≤ 1000) : popK (sp.map encP) (.int j) = some (encP sp[j], (sp.eraseIdx j).map encP) := by
  have e : popK (sp.map encP) (.int j) = if 0 ≤ (j : Int) ∧ (j : Int) < 1000000 then ((sp.map encP)[(j : Int).toNat]?).map fun y => (y, (sp.map encP).eraseIdx (j : Int).toNat) else none := rfl
  rw [e, if_pos ⟨by omega, by omega⟩, Int.toNat_natCast, List.getElem?_map, List.getElem?_eq_getElem h, erase_map]
  rfl
theorem perm_erase {α : Type} {sp : List α} {j : Nat} (h : j < sp.length) : (sp[j] :: sp.eraseIdx j).Perm sp := by
  induction sp generalizing j with
  | nil => simp at h
  | cons a r ih =>
    cases j with
    | zero => simp
    | succ j =>
      simp only [List.getElem_cons_succ, List.eraseIdx_cons_succ]
      exact (List.Perm.swap _ _ _).trans ((ih (by simpa using h)).cons a)
theorem l_pad2 (hT : TDraw T) (hm : 2 ≤ m) {ns : List Int} {a2 a3 a4 a6 a7 a10 a11 a12 a13 : Sl} {at_ sz : Nat} {g : List Key2} (hg : g.length ≤ 100) (hs : sz ≤ 100) : ∃ (o : Sl) (sp ks : List Key2), exS (callF T m) l__law_pad_2 [.val (scrD ns), .val (.int at_), a2, a3, a4, .own (g.map encP), a6, a7, .val (.int sz), .own [], a10, a11, a12, a13] S
    = .nx [.val (scrD ns), .val (.int at_), a2, a3, a4, .own (sp.map encP), a6, a7, .val (.int sz), .own (ks.map encP), o, a11, a12, a13] S ∧ (ks ++ sp).Perm g ∧ ks.length = min sz g.length := by
  obtain ⟨N, hN⟩ : ∃ N, N = min sz g.length := ⟨_, rfl⟩
  obtain ⟨env', e1, ⟨o, sp, ks, e2, e3, e4⟩⟩ := for_inv (c := l__law_pad_2) (cl := callF T m) (S := S) (env := [.val (scrD ns), .val (.int at_), a2, a3, a4, .own (g.map encP), a6, a7, .val (.int sz), .own [], a10, a11, a12, a13]) (d := .list (rangeD 0 N)) (items := rangeD 0 N) rfl
    (fun i env => ∃ (o : Sl) (sp ks : List Key2), env = [.val (scrD ns), .val (.int at_), a2, a3, a4, .own (sp.map encP), a6, a7, .val (.int sz), .own (ks.map encP), o, a11, a12, a13] ∧ (ks ++ sp).Perm g ∧ ks.length = i) (by
      have e0 : primF .min2 [.int sz, .int g.length] = some (.int N) := by
        rw [p_min2]
        congr 2
        split <;> omega
      have h1 : (N : Int) ≤ 100000 ∧ -100000 ≤ (N : Int) := by omega
      simp [-p_min2, e0, h1]) rfl ⟨a10, g, [], rfl, by simp, rfl⟩ fun i x env hx he => by
      obtain ⟨hi, rfl⟩ := rangeD_get hx
      obtain ⟨o, sp, ks, rfl, pm, hk⟩ := he
      have hl := pm.length_eq
      rw [List.length_append] at hl
      have hsp : 0 < sp.length := by omega
      obtain ⟨j, pl, pk⟩ := c_pickE (S := S) hT hm ns (x := (at_ : Int) + 4 + i) (at_ + 4 + i) (by omega) (y := sp.length) rfl hsp
      have pp := popK_keys pl (by omega)
      refine ⟨_, ?_, .val (.int i), sp.eraseIdx j, ks ++ [sp[j]], rfl, ?_, by simp; omega⟩
      · have hlk : lim ks.length = true := decide_eq_true (by omega)
        have hlk2 : lim (ks.map encP).length = true := by
          rw [List.length_map]
          exact hlk
        simp only [stepF, setT]
        rw [x_seq, appPop_run (xs := sp.map encP) (ys := ks.map encP) rfl rfl (by decide) (d := .int j) (by simp [pk]) pp hlk2]
        simp
      · refine List.Perm.trans ?_ pm
        rw [List.append_assoc]
        exact List.Perm.append_left ks (perm_erase pl)
  rw [show (rangeD 0 N).length = N by simp [rangeD]] at e4
  exact ⟨o, sp, ks, by rw [← e2]; exact e1, e3, by omega⟩
theorem enumD_get {xs : List Key2} {i : Nat} {x : D} (h : (enumD (xs.map encP))[i]? = some x) : ∃ hi : i < xs.length, x = .tuple [.int i, encP xs[i]] := by
  have hi : i < xs.length := by
    have := (List.getElem?_eq_some_iff.mp h).1
    rwa [enumD_len, List.length_map] at this
  have e := enumD_at (xs := xs.map encP) (i := i) (d := encP xs[i]) (by rw [List.getElem?_map, List.getElem?_eq_getElem hi]; rfl)
  rw [h] at e
  exact ⟨hi, Option.some.inj e⟩
theorem l_pad3 (hT : TDraw T) (hm : 2 ≤ m) {ns : List Int} {a2 a3 a4 a5 a6 a7 a8 a10 a13 : Sl} {at_ w : Nat} {ks : List Key2} (hk : ks.length ≤ 100) : ∃ (o10 o13 : Sl) (ds : List Key2), exS (callF T m) l__law_pad_3 [.val (scrD ns), .val (.int at_), a2, a3, a4, a5, a6, a7, a8, .own (ks.map encP), a10, .val (.int w), .own [], a13] S
    = .nx [.val (scrD ns), .val (.int at_), a2, a3, a4, a5, a6, a7, a8, .own (ks.map encP), o10, .val (.int w), .own (ds.map encP), o13] S ∧ ds.Sublist (sortK ks) := by
  obtain ⟨sk, hsk⟩ : ∃ sk, sk = sortK ks := ⟨_, rfl⟩
  have hl : sk.length = ks.length := by
    rw [hsk]
    exact (sortK_perm ks).length_eq
  obtain ⟨env', e1, ⟨o10, o13, ds, e2, e3⟩⟩ := for_inv (c := l__law_pad_3) (cl := callF T m) (S := S) (env := [.val (scrD ns), .val (.int at_), a2, a3, a4, a5, a6, a7, a8, .own (ks.map encP), a10, .val (.int w), .own [], a13]) (d := .list (enumD (sk.map encP))) (items := enumD (sk.map encP)) rfl
    (fun i env => ∃ (o10 o13 : Sl) (ds : List Key2), env = [.val (scrD ns), .val (.int at_), a2, a3, a4, a5, a6, a7, a8, .own (ks.map encP), o10, .val (.int w), .own (ds.map encP), o13] ∧ ds.Sublist (sk.take i)) (by
      subst hsk
      simp [itemsOf]) rfl ⟨a10, a13, [], rfl, List.nil_sublist _⟩ fun i x env hx he => by
      obtain ⟨hi, rfl⟩ := enumD_get hx
      obtain ⟨o10, o13, ds, rfl, hs⟩ := he
      have hdl : ds.length ≤ 100 := by
        have := hs.length_le
        rw [List.length_take] at this
        omega
      have et : sk.take (i + 1) = sk.take i ++ [sk[i]] := by rw [List.take_succ, List.getElem?_eq_getElem hi]; rfl
      have fin : ∀ b : Bool, evE (callF T m) .b (.ite (.or_ (.cmp .eq (.var 11) (.cst (.int 0))) (.and_ (.cmp .gt (.var 11) (.cst (.int 1))) (.cmp .eq (.call "_law_pick" (.cons (.var 0) (.cons (.bin .add (.bin .add (.var 1) (.cst (.int 20))) (.var 10)) (.cons (.var 11) .nil)))) (.cst (.int 0))))) (.lst (.cons (.var 13) .nil)) (.lst .nil))
          [.val (scrD ns), .val (.int at_), a2, a3, a4, a5, a6, a7, a8, .own (ks.map encP), .val (.int i), .val (.int w), .own (ds.map encP), .val (encP sk[i])] S = .ok (.list (if b then [encP sk[i]] else [])) S →
          ∃ env', stepF (callF T m) (.tp [10, 13]) (.seq (.seq (.frz [0, 11, 13]) (.ext 12 (.ite (.or_ (.cmp .eq (.var 11) (.cst (.int 0))) (.and_ (.cmp .gt (.var 11) (.cst (.int 1))) (.cmp .eq (.call "_law_pick" (.cons (.var 0) (.cons (.bin .add (.bin .add (.var 1) (.cst (.int 20))) (.var 10)) (.cons (.var 11) .nil)))) (.cst (.int 0))))) (.lst (.cons (.var 13) .nil)) (.lst .nil)))) .skip) (.tuple [.int i, encP sk[i]]) [.val (scrD ns), .val (.int at_), a2, a3, a4, a5, a6, a7, a8, .own (ks.map encP), o10, .val (.int w), .own (ds.map encP), o13] S = .nx env' S ∧
            ∃ (o10 o13 : Sl) (ds : List Key2), env' = [.val (scrD ns), .val (.int at_), a2, a3, a4, a5, a6, a7, a8, .own (ks.map encP), o10, .val (.int w), .own (ds.map encP), o13] ∧ ds.Sublist (sk.take (i + 1)) := fun b hb => by
        refine ⟨_, ?_, .val (.int i), .val (encP sk[i]), ds ++ (if b then [sk[i]] else []), rfl, ?_⟩
        · have q := ext_run (i := 12) (xs := ds.map encP) (by rfl) hb (by
            rw [List.length_map]
            refine lim_small ?_
            cases b <;> simp <;> omega)
          simp [stepF, setT, frz1]
          simp at q
          rw [q]
          cases b <;> simp
        · rw [et]
          refine List.Sublist.append hs ?_
          cases b
          · exact List.nil_sublist _
          · exact List.Sublist.refl _
      by_cases h0 : w = 0
      · refine fin true ?_
        subst h0
        simp [lim_small]
      · by_cases h1 : 1 < w
        · obtain ⟨j, pl, pk⟩ := c_pickE (S := S) hT hm ns (x := (at_ : Int) + 20 + i) (at_ + 20 + i) (by omega) (y := w) rfl (show 0 < w by omega)
          refine fin (decide (j = 0)) ?_
          have g1 : ¬ ((w : Int) = 0) := by omega
          have g2 : (1 : Int) < w := by omega
          by_cases hj : j = 0
          · subst hj
            simp [g1, g2, pk, lim_small, h0, h1]
          · simp [g1, g2, pk, lim_small, hj, h0, h1]
        · refine fin false ?_
          have g1 : ¬ ((w : Int) = 0) := by omega
          have g2 : ¬ (1 : Int) < w := by omega
          simp [g1, g2, lim_small, h0, h1]
  rw [enumD_len, List.length_map, List.take_length] at e3
  exact ⟨o10, o13, ds, by rw [← e2]; exact e1, hsk ▸ e3⟩
end
end Mini
/-! The drawn pad, the drawn keys. -/
namespace Mini
open PySem L2
section
variable {T : Str → Option Fn} {n m : Nat} {S : Sto}
theorem size_ok {most j q : Nat} (hj : j < 5) (hq : q < most) (hm : 3 ≤ most) : ∃ sz : Nat, 1 ≤ sz ∧ sz ≤ most ∧ getF (.list [.int most, .int most, .int ((most : Int) - 1), .int ((most : Int) - 2), .int (1 + (q : Int))]) (.int j) = some (.int sz) := by
  have e1 : ((most : Int) - 1) = ((most - 1 : Nat) : Int) := by omega
  have e2 : ((most : Int) - 2) = ((most - 2 : Nat) : Int) := by omega
  have e3 : (1 + (q : Int)) = ((1 + q : Nat) : Int) := by omega
  rw [e1, e2, e3]
  match j, hj with
  | 0, _ => exact ⟨most, by omega, by omega, atL rfl⟩
  | 1, _ => exact ⟨most, by omega, by omega, atL rfl⟩
  | 2, _ => exact ⟨most - 1, by omega, by omega, atL rfl⟩
  | 3, _ => exact ⟨most - 2, by omega, by omega, atL rfl⟩
  | 4, _ => exact ⟨1 + q, by omega, by omega, atL rfl⟩
/-- behind rows and columns -/
def padTail : C := match f__law_pad.body with
  | .seq _ (.seq _ r) => r
  | _ => .skip
theorem pad_tail (hT : TDraw T) (hm : 2 ≤ m) {ns : List Int} {at_ most r c : Nat} (h3 : 3 ≤ most) (h8 : most ≤ 8) (hr : 1 ≤ r ∧ r ≤ 4) (hc : 1 ≤ c ∧ c ≤ 4) :
    ∃ p : PadR, WF p ∧ p.ks.length ≤ most ∧ exS (callF T m) padTail [.val (scrD ns), .val (.int at_), .val (.int most), .val (.int r), .val (.int c), .no, .no, .no, .no, .no, .no, .no, .no, .no] S = .rt (encPad p) S := by
  obtain ⟨o6, e1⟩ := l_pad1 (T := T) (m := m) (S := S) (a0 := .val (scrD ns)) (a1 := .val (.int at_)) (a2 := .val (.int most)) (a6 := .no) (a7 := .no) (a8 := .no) (a9 := .no) (a10 := .no) (a11 := .no) (a12 := .no) (a13 := .no) (r := r) (c := c) (by omega) (by omega)
  obtain ⟨q, hq, pq⟩ := c_pickE (S := S) hT hm ns (x := (at_ : Int) + 41) (at_ + 41) (by omega) (y := most) rfl (show 0 < most by omega)
  obtain ⟨j, hj, pj⟩ := c_pickE (S := S) hT hm ns (x := (at_ : Int) + 2) (at_ + 2) (by omega) (y := 5) (many := 5) rfl (by omega)
  obtain ⟨sz, s1, s2, es⟩ := size_ok hj hq h3
  have gl := grid_len r c
  have g1 : 1 ≤ r * c := Nat.mul_le_mul hr.1 hc.1
  have g2 : r * c ≤ 4 * 4 := Nat.mul_le_mul hr.2 hc.2
  obtain ⟨o10, sp, ks, e2, pm, hkl⟩ := l_pad2 (T := T) (m := m) (S := S) hT hm (ns := ns) (a2 := .val (.int most)) (a3 := .val (.int r)) (a4 := .val (.int c)) (a6 := o6) (a7 := .no) (a10 := .no) (a11 := .no) (a12 := .no) (a13 := .no) (at_ := at_) (sz := sz) (g := gridK r c) (by omega) (by omega)
  obtain ⟨w, hw, pw⟩ := c_pickE (S := S) hT hm ns (x := (at_ : Int) + 3) (at_ + 3) (by omega) (y := 4) (many := 4) rfl (by omega)
  obtain ⟨o10', o13, ds, e3, hds⟩ := l_pad3 (T := T) (m := m) (S := S) hT hm (ns := ns) (a2 := .val (.int most)) (a3 := .val (.int r)) (a4 := .val (.int c)) (a5 := .own (sp.map encP)) (a6 := o6) (a7 := .no) (a8 := .val (.int sz)) (a10 := o10) (a13 := .no) (at_ := at_) (w := w) (ks := ks) (by omega)
  have nd : ks.Nodup := by
    have q := pm.nodup_iff.mpr (up_nodup (grid_up r c))
    exact (List.nodup_append.mp q).1
  have inG : ∀ k ∈ ks, k ∈ gridK r c := fun k hk => pm.mem_iff.mp (List.mem_append_left _ hk)
  have spm := sortK_perm ks
  have sup := sortK_up nd
  refine ⟨⟨r, c, sortK ks, ds⟩, ⟨(show 1 ≤ (r : Int) ∧ (r : Int) ≤ 4 by omega), (show 1 ≤ (c : Int) ∧ (c : Int) ≤ 4 by omega), ?_, ?_, sup, sup.sublist hds, fun k hk => ?_, fun d hd => hds.subset hd⟩, ?_, ?_⟩
  · show 1 ≤ (sortK ks).length
    rw [spm.length_eq]
    omega
  · show (sortK ks).length ≤ 8
    rw [spm.length_eq]
    omega
  · exact mem_grid.mp (inG k (spm.mem_iff.mp hk))
  · show (sortK ks).length ≤ most
    rw [spm.length_eq]
    omega
  · simp only [padTail, f__law_pad]
    simp [fresh, slOf, lim_small]
    simp [e1]
    simp [frz1, pq, pj, es, lim_small]
    simp [e2]
    simp [frz1, pw]
    simp [e3]
    simp [frz1, lim_small]
    rfl
theorem c_law_padO (hT : TDraw T) (hp : T "_law_pad" = some f__law_pad) (hn : 3 ≤ n) (ns : List Int) {at_ most : Nat} (h3 : 3 ≤ most) (h8 : most ≤ 8) : ∃ p : PadR, WF p ∧ p.ks.length ≤ most ∧ callF T n "_law_pad" [scrD ns, .int at_, .int most] S = .ok (encPad p) S := by
  obtain ⟨m, rfl⟩ : ∃ m, n = m + 1 := ⟨n - 1, by omega⟩
  have hm : 2 ≤ m := by omega
  obtain ⟨a, ha, pa⟩ := c_pickE (S := S) hT hm ns (x := at_) at_ rfl (y := 2) (many := 2) rfl (by omega)
  obtain ⟨b, hb, pb⟩ := c_pickE (S := S) hT hm ns (x := (at_ : Int) + 1) (at_ + 1) (by omega) (y := 2) (many := 2) rfl (by omega)
  obtain ⟨q, hq, pq⟩ := c_pickE (S := S) hT hm ns (x := (at_ : Int) + 40) (at_ + 40) (by omega) (y := 3) (many := 3) rfl (by omega)
  obtain ⟨a', ha', pa'⟩ := c_pickE (S := S) hT hm ns (x := at_) at_ rfl (y := 4) (many := 4) rfl (by omega)
  obtain ⟨b', hb', pb'⟩ := c_pickE (S := S) hT hm ns (x := (at_ : Int) + 1) (at_ + 1) (by omega) (y := 4) (many := 4) rfl (by omega)
  rw [callF_eq hp rfl]
  have eb : f__law_pad.body = .seq (.seq (.frz [0, 1, 0]) (.par2 3 4 (.bin .add (.cst (.int 2)) (.call "_law_pick" (.cons (.var 0) (.cons (.var 1) (.cons (.cst (.int 2)) .nil))))) (.bin .add (.cst (.int 2)) (.call "_law_pick" (.cons (.var 0) (.cons (.bin .add (.var 1) (.cst (.int 1))) (.cons (.cst (.int 2)) .nil))))))) (.seq (.seq (.frz [0]) (.ife (.cmp .eq (.call "_law_pick" (.cons (.var 0) (.cons (.bin .add (.var 1) (.cst (.int 40))) (.cons (.cst (.int 3)) .nil)))) (.cst (.int 0))) (.seq (.seq (.frz [0, 1, 0]) (.par2 3 4 (.bin .add (.cst (.int 1)) (.call "_law_pick" (.cons (.var 0) (.cons (.var 1) (.cons (.cst (.int 4)) .nil))))) (.bin .add (.cst (.int 1)) (.call "_law_pick" (.cons (.var 0) (.cons (.bin .add (.var 1) (.cst (.int 1))) (.cons (.cst (.int 4)) .nil))))))) .skip) .skip)) padTail) := rfl
  rw [eb]
  by_cases h0 : q = 0
  · obtain ⟨p, w1, w2, w3⟩ := pad_tail (S := S) hT hm (ns := ns) (at_ := at_) (r := 1 + a') (c := 1 + b') h3 h8 (by omega) (by omega)
    refine ⟨p, w1, w2, ?_⟩
    subst h0
    simp [frz1, pa, pb, pq, pa', pb', setT, f__law_pad, fresh, slOf]
    simp at w3
    simp [w3]
  · obtain ⟨p, w1, w2, w3⟩ := pad_tail (S := S) hT hm (ns := ns) (at_ := at_) (r := 2 + a) (c := 2 + b) h3 h8 (by omega) (by omega)
    refine ⟨p, w1, w2, ?_⟩
    simp [frz1, pa, pb, pq, h0, setT, f__law_pad, fresh, slOf]
    simp at w3
    simp [w3]
theorem c_law_pad (hT : TDraw2 T) (hn : 3 ≤ n) (ns : List Int) {at_ most : Nat} (h3 : 3 ≤ most) (h8 : most ≤ 8) : ∃ p : PadR, WF p ∧ p.ks.length ≤ most ∧ callF T n "_law_pad" [scrD ns, .int at_, .int most] S = .ok (encPad p) S := c_law_padO hT.one hT.pad hn ns h3 h8
/-! ### the drawn keys -/
theorem k_keys1 (hT : TDraw T) (hm : 2 ≤ m) {ns : List Int} {at_ : Nat} {p : PadR} (h : WF p) : ∃ l : List Key2, l.Sublist p.ks ∧ evE (callF T m) .f k__law_keys_1 [.val (scrD ns), .val (.int at_), .val (encPad p), .no, .no, .no, .no] S = .ok (.list (l.map encP)) S := by
  have h8 := h.k8
  have hp : ∀ i : Nat, ∃ j : Nat, callF T m "_law_pick" [scrD ns, .int ((at_ : Int) + i), .int 5] S = .ok (.int j) S := fun i => by
    obtain ⟨j, _, e⟩ := c_pickE (S := S) hT hm ns (x := (at_ : Int) + i) (at_ + i) (by omega) (y := 5) (many := 5) rfl (by omega)
    exact ⟨j, e⟩
  have hp2 := Classical.axiomOfChoice hp
  obtain ⟨f, hf⟩ := hp2
  refine ⟨((p.ks.zipIdx).filter fun x => decide (1 < (f x.2 : Int))).map (·.1), ?_, ?_⟩
  · have := (List.filter_sublist (p := fun x : Key2 × Nat => decide (1 < (f x.2 : Int))) (l := p.ks.zipIdx)).map (·.1)
    rwa [List.zipIdx_map_fst] at this
  · unfold k__law_keys_1
    rw [comp_run (enc := fun x : Key2 × Nat => .tuple [.int x.2, encP x.1]) (xs := p.ks.zipIdx) (g := fun x => if decide (1 < (f x.2 : Int)) then some (encP x.1) else none) (d := .list (enumD (p.ks.map encP))) ?_ ?_ ?_ ?_]
    · rw [filterMap_if, List.map_map]
      rfl
    · simp [itemsOf]
    · show some (enumD (p.ks.map encP)) = _
      unfold enumD
      rw [List.zipIdx_map, List.map_map]
      rfl
    · rw [List.length_zipIdx]
      omega
    · intro x _
      refine turn_if ?_ ?_
      · simp [wipeS, hf]
      · simp [wipeS]
theorem ne_nilL (ks : List Key2) : cmpF .ne (.list (ks.map encP)) (.list []) = some (!ks.isEmpty) := by
  have e2 : pure1 (.list []) = true := pure_lst []
  rw [c_ne, pure_lst, e2]
  cases ks <;> simp [PyData.eqv, PyData.eqvAll]
def keysTail : C := match f__law_keys.body with
  | .seq _ (.seq _ r) => r
  | _ => .skip
def keysIf : C := match f__law_keys.body with
  | .seq _ (.seq r _) => r
  | _ => .skip
theorem keys_body : f__law_keys.body = .seq (.seq (.frz [0]) (.set 3 k__law_keys_1)) (.seq keysIf keysTail) := rfl
theorem c_law_keys (hT : TDraw2 T) (hn : 3 ≤ n) (ns : List Int) {at_ : Nat} {p : PadR} (h : WF p) : ∃ l : List Key2, (∀ k ∈ l, k ∈ p.ks) ∧ l.length ≤ p.ks.length + 1 ∧ callF T n "_law_keys" [scrD ns, .int at_, encPad p] S = .ok (.list (l.map encP)) S := by
  obtain ⟨m, rfl⟩ : ∃ m, n = m + 1 := ⟨n - 1, by omega⟩
  have hm : 2 ≤ m := by omega
  have h8 := h.k8
  obtain ⟨l0, hs, e0⟩ := k_keys1 (S := S) hT.one hm (ns := ns) (at_ := at_) h
  have hll := hs.length_le
  -- behind the first two statements
  have tail : ∀ l : List Key2, (∀ k ∈ l, k ∈ p.ks) → l.length ≤ p.ks.length + 1 → ∃ l2 : List Key2, (∀ k ∈ l2, k ∈ p.ks) ∧ l2.length ≤ p.ks.length + 1 ∧ exS (callF T m) keysTail [.val (scrD ns), .val (.int at_), .val (encPad p), .own (l.map encP), .no, .no, .no] S = .rt (.list (l2.map encP)) S := fun l h1 h2 => by
    obtain ⟨j, hj, pj⟩ := c_pickE (S := S) hT.one hm ns (x := (at_ : Int) + 11) (at_ + 11) (by omega) (y := (l.length : Int) + 1) (many := l.length + 1) (by omega) (by omega)
    refine ⟨l.drop j ++ l.take j, fun k hk => ?_, ?_, ?_⟩
    · rcases List.mem_append.mp hk with q | q
      · exact h1 k (List.mem_of_mem_drop q)
      · exact h1 k (List.mem_of_mem_take q)
    · rw [List.length_append, List.length_drop, List.length_take]
      omega
    · have c1 : cutF (.list (l.map encP)) (some (j : Int)) none = some (.list ((l.drop j).map encP)) := by
        show some (PyData.list (cutL (l.map encP) (some (j : Int)) none)) = _
        unfold cutL
        rw [show HT.sIx (l.map encP).length 0 (some (j : Int)) = min j (l.map encP).length from HT.sIx_nat _ 0 j, HT.sIx_none, List.length_map, Nat.min_eq_left (by omega), List.take_of_length_le (by simp), List.map_drop]
      have c2 : cutF (.list (l.map encP)) none (some (j : Int)) = some (.list ((l.take j).map encP)) := by
        show some (PyData.list (cutL (l.map encP) none (some (j : Int)))) = _
        unfold cutL
        rw [show HT.sIx (l.map encP).length (l.map encP).length (some (j : Int)) = min j (l.map encP).length from HT.sIx_nat _ _ j, HT.sIx_none, List.length_map, Nat.min_eq_left (by omega), List.drop_zero, Nat.sub_zero, List.map_take]
      have c3 : binF .add (.list ((l.drop j).map encP)) (.list ((l.take j).map encP)) = some (.list ((l.drop j ++ l.take j).map encP)) := by
        have e : binF .add (.list ((l.drop j).map encP)) (.list ((l.take j).map encP)) = if lim (((l.drop j).map encP).length + ((l.take j).map encP).length) then some (.list ((l.drop j).map encP ++ (l.take j).map encP)) else none := rfl
        rw [e, if_pos (lim_small (by simp; omega)), List.map_append]
      simp only [keysTail, f__law_keys]
      simp [-List.map_append, -List.map_drop, -List.map_take, frz1, pj, fresh, slOf, optI, c1, c2, c3]
  rw [callF_eq hT.keys rfl, keys_body]
  have ef : fresh k__law_keys_1 = true := rfl
  obtain ⟨j9, hj9, p9⟩ := c_pickE (S := S) hT.one hm ns (x := (at_ : Int) + 9) (at_ + 9) (by omega) (y := 2) (many := 2) rfl (by omega)
  have mem0 : ∀ k ∈ l0, k ∈ p.ks := fun k hk => hs.subset hk
  have fin : ∀ l1 : List Key2, (∀ k ∈ l1, k ∈ p.ks) → l1.length ≤ p.ks.length + 1 → exS (callF T m) keysIf [.val (scrD ns), .val (.int at_), .val (encPad p), .own (l0.map encP), .no, .no, .no] S = .nx [.val (scrD ns), .val (.int at_), .val (encPad p), .own (l1.map encP), .no, .no, .no] S →
      ∃ l : List Key2, (∀ k ∈ l, k ∈ p.ks) ∧ l.length ≤ p.ks.length + 1 ∧ endF (exS (callF T m) (.seq (.seq (.frz [0]) (.set 3 k__law_keys_1)) (.seq keysIf keysTail)) (([scrD ns, .int at_, encPad p].map .val) ++ List.replicate (f__law_keys.ns - f__law_keys.ps) .no) S) = .ok (.list (l.map encP)) S := fun l1 a1 a2 a3 => by
    obtain ⟨l2, t1, t2, t3⟩ := tail l1 a1 a2
    refine ⟨l2, t1, t2, ?_⟩
    simp [f__law_keys, frz1, ef, e0, slOf, a3, t3]
  by_cases hn0 : l0 = []
  · refine fin l0 mem0 (by omega) ?_
    have hne : cmpF .ne (.list (l0.map encP)) (.list []) = some false := by rw [ne_nilL, hn0]; rfl
    simp only [keysIf, f__law_keys]
    simp [frz1, lim_small, hne]
  · have hne : cmpF .ne (.list (l0.map encP)) (.list []) = some true := by rw [ne_nilL]; simp [hn0]
    by_cases h9 : j9 = 0
    · have hpos : 0 < l0.length := List.length_pos_iff.mpr hn0
      obtain ⟨j, hj, pj⟩ := c_pickE (S := S) hT.one hm ns (x := (at_ : Int) + 10) (at_ + 10) (by omega) (y := l0.length) rfl hpos
      refine fin (l0 ++ [l0[j]]) (fun k hk => ?_) (by simp; omega) ?_
      · rcases List.mem_append.mp hk with q | q
        · exact mem0 k q
        · rw [List.mem_singleton.mp q]
          exact mem0 _ (List.getElem_mem _)
      · have g1 : getF (.list (l0.map encP)) (.int j) = some (encP l0[j]) := atL (by rw [List.getElem?_map, List.getElem?_eq_getElem hj]; rfl)
        subst h9
        simp only [keysIf, f__law_keys]
        simp [frz1, lim_small, hne, p9, pj, g1, lim_small (show l0.length ≤ 1000 by omega)]
    · refine fin l0 mem0 (by omega) ?_
      simp only [keysIf, f__law_keys]
      simp [frz1, lim_small, hne, p9, h9]
end
end Mini
/-! Where one is led, in plain words. -/
namespace Mini
open PySem L2
/-- the rows to which one is led from a row -/
inductive LedR (ds pr : List Key2) (row : Int) : Int → Prop
  | here : LedR ds pr row row
  | on {r c r2 : Int} : LedR ds pr row r → (r, c) ∈ pr → (r2, c) ∈ pr → (r2, c) ∉ ds → LedR ds pr row r2
/-- a spot that is seen -/
def Led (ds pr : List Key2) (k : Key2) : Prop := ∃ r, LedR ds pr k.1 r ∧ (r, k.2) ∈ pr
theorem LedR.mono {ds ds' pr pr' : List Key2} {row r : Int} (h : ∀ k ∈ pr, k ∈ pr') (hd : ∀ k ∈ pr, k ∉ ds → k ∉ ds') (q : LedR ds pr row r) : LedR ds' pr' row r := by
  induction q with
  | here => exact .here
  | on _ h1 h2 h3 ih => exact .on ih (h _ h1) (h _ h2) (hd _ h2 h3)
theorem Led.mono {ds ds' pr pr' : List Key2} {k : Key2} (h : ∀ k ∈ pr, k ∈ pr') (hd : ∀ k ∈ pr, k ∉ ds → k ∉ ds') (q : Led ds pr k) : Led ds' pr' k := by
  obtain ⟨r, h1, h2⟩ := q
  exact ⟨r, h1.mono h hd, h _ h2⟩
theorem Led.congr {ds pr pr' : List Key2} {k : Key2} (h : ∀ k, k ∈ pr ↔ k ∈ pr') : Led ds pr k ↔ Led ds pr' k :=
  ⟨Led.mono (fun k hk => (h k).mp hk) fun _ _ q => q, Led.mono (fun k hk => (h k).mpr hk) fun _ _ q => q⟩
theorem led_self {ds pr : List Key2} {k : Key2} (h : k ∈ pr) : Led ds pr k := ⟨k.1, .here, h⟩
theorem LedR.row {ds pr : List Key2} {row r : Int} (q : LedR ds pr row r) : r = row ∨ ∃ c, (row, c) ∈ pr := by
  induction q with
  | here => exact .inl rfl
  | on _ h1 h2 h3 ih =>
    rcases ih with rfl | h
    · exact .inr ⟨_, h1⟩
    · exact .inr h
theorem Led.row {ds pr : List Key2} {k : Key2} (q : Led ds pr k) : ∃ c, (k.1, c) ∈ pr := by
  obtain ⟨r, h1, h2⟩ := q
  rcases h1.row with rfl | h
  · exact ⟨_, h2⟩
  · exact h
theorem Led.col {ds pr : List Key2} {k : Key2} (q : Led ds pr k) : ∃ r, (r, k.2) ∈ pr := by
  obtain ⟨r, h1, h2⟩ := q
  exact ⟨r, h2⟩
/-- with diodes everywhere -/
theorem led_all {ds pr : List Key2} {k : Key2} (h : ∀ k ∈ pr, k ∈ ds) : Led ds pr k ↔ k ∈ pr := by
  refine ⟨fun q => ?_, led_self⟩
  obtain ⟨r, h1, h2⟩ := q
  have : r = k.1 := by
    cases h1 with
    | here => rfl
    | on _ _ a b => exact absurd (h _ a) b
  rw [this] at h2
  exact h2
/-- keys of a pad lie in the square -/
def In4 (ks : List Key2) : Prop := ∀ k ∈ ks, 0 ≤ k.1 ∧ k.1 < 4 ∧ 0 ≤ k.2 ∧ k.2 < 4
theorem WF.in4 {p : PadR} (h : WF p) : In4 p.ks := fun k hk => by
  have q := h.kr k hk
  have r1 := h.r1
  have c1 := h.c1
  omega
theorem In4.sub {ks ls : List Key2} (h : In4 ks) (hs : ∀ k ∈ ls, k ∈ ks) : In4 ls := fun k hk => h k (hs k hk)
open Classical in
noncomputable def seenK (ds pr : List Key2) : List Key2 := (gridK 4 4).filter fun k => decide (Led ds pr k)
theorem seenK_up (ds pr : List Key2) : Up (seenK ds pr) := (grid_up 4 4).filter _
open Classical in
theorem mem_seenK {ds pr : List Key2} (h : In4 pr) {k : Key2} : k ∈ seenK ds pr ↔ Led ds pr k := by
  unfold seenK
  rw [List.mem_filter, mem_grid, decide_eq_true_eq]
  refine ⟨fun q => q.2, fun q => ⟨?_, q⟩⟩
  obtain ⟨c, hc⟩ := q.row
  obtain ⟨r, hr⟩ := q.col
  have h1 := h _ hc
  have h2 := h _ hr
  simp only at h1 h2
  omega
open Classical in
theorem seenK_congr {ds ds' pr pr' : List Key2} (h : ∀ k, Led ds pr k ↔ Led ds' pr' k) : seenK ds pr = seenK ds' pr' := by
  unfold seenK
  refine List.filter_congr fun k _ => ?_
  by_cases q : Led ds pr k
  · rw [decide_eq_true q, decide_eq_true ((h k).mp q)]
  · rw [decide_eq_false q, decide_eq_false fun z => q ((h k).mpr z)]
theorem seenK_mem {ds pr pr' : List Key2} (h : ∀ k, k ∈ pr ↔ k ∈ pr') : seenK ds pr = seenK ds pr' := seenK_congr fun _ => Led.congr h
theorem seenK_len (ds pr : List Key2) : (seenK ds pr).length ≤ 16 := Nat.le_trans (List.length_filter_le _ _) (by rw [grid_len]; decide)
theorem seenK_in4 (ds pr : List Key2) : In4 (seenK ds pr) := fun k hk => by
  have := mem_grid.mp (List.mem_filter.mp hk).1
  omega
/-- a list that rises and has just the spots that are seen -/
theorem seenK_is {ds pr l : List Key2} (h : In4 pr) (hu : Up l) (hm : ∀ k, k ∈ l ↔ Led ds pr k) : l = seenK ds pr :=
  up_unique hu (seenK_up ds pr) fun k => by rw [hm, mem_seenK h]
theorem small4 {ks : List Key2} (h : In4 ks) : ∀ k ∈ ks, Small k := fun k hk => by
  have := h k hk
  exact ⟨⟨this.1, by omega⟩, this.2.2.1, by omega⟩
/-! ### whole numbers, rising -/
def leI (a b : Int) : Bool := decide (a ≤ b)
def sortI (ns : List Int) : List Int := ns.mergeSort leI
theorem sortI_perm (ns : List Int) : (sortI ns).Perm ns := List.mergeSort_perm _ _
theorem sortI_le (ns : List Int) : (sortI ns).Pairwise (· ≤ ·) := by
  have := List.pairwise_mergeSort (le := leI) (fun a b c h1 h2 => by simp only [leI, decide_eq_true_eq] at *; omega) (fun a b => by simp only [leI, Bool.or_eq_true, decide_eq_true_eq]; omega) ns
  exact this.imp fun h => by simpa [leI] using h
theorem sortI_lt {ns : List Int} (h : ns.Nodup) : (sortI ns).Pairwise (· < ·) := by
  have h1 := sortI_le ns
  have h2 : (sortI ns).Nodup := (sortI_perm ns).nodup_iff.mpr h
  exact (h1.and h2).imp fun {a b} q => by
    have := q.2
    omega
theorem dataLt_int2 (a b : Int) : W.dataLt (.int a) (.int b) = decide (a < b) := (lt_int a b).2
theorem alikes_ints (ns : List Int) : alikes (ns.map .int) = true := by
  unfold alikes
  rw [Bool.and_eq_true, Bool.or_eq_true]
  refine ⟨List.all_eq_true.mpr fun x hx => ?_, .inr (List.all_eq_true.mpr fun x hx => ?_)⟩
  · obtain ⟨p, _, rfl⟩ := List.mem_map.mp hx
    rw [Bool.and_eq_true, Bool.and_eq_true]
    refine ⟨⟨pure_int p, rfl⟩, List.all_eq_true.mpr fun y hy => ?_⟩
    obtain ⟨q, _, rfl⟩ := List.mem_map.mp hy
    simp [W.alike]
  · obtain ⟨p, _, rfl⟩ := List.mem_map.mp hx
    rfl
theorem sortD_ints (ns : List Int) : sortD (ns.map .int) = (sortI ns).map .int := by
  rw [sortD_eq]
  unfold sortI
  rw [List.map_mergeSort (s := W.dataLe false id) (f := PyData.int)]
  intro a _ b _
  show leI a b = !(W.dataLt (.int b) (.int a))
  rw [dataLt_int2]
  unfold leI
  by_cases h : a ≤ b
  · simp [h, show ¬ b < a by omega]
  · simp [h, show b < a by omega]
@[simp] theorem p_sortIL (ns : List Int) : primF .sorted [.list (ns.map .int)] = some (.list ((sortI ns).map .int)) := by
  show (if alikes _ then some _ else none) = _
  rw [alikes_ints, sortD_ints]
  rfl
end Mini
/-! columns_from: what its loops keep. -/
namespace Mini
open PySem L2
structure CF (ds pr : List Key2) (row : Int) (D F L : List Int) : Prop where
  nd : F.Nodup
  led : ∀ c ∈ F, Led ds pr (row, c)
  rows : ∀ r ∈ L, LedR ds pr row r
  st : row ∈ D ∨ row ∈ L
  dn : ∀ r ∈ D, ∀ c, (r, c) ∈ pr → c ∈ F
  on : ∀ c ∈ F, ∀ r, (r, c) ∈ pr → (r, c) ∉ ds → r ∈ D ∨ r ∈ L
structure CI (ds pr : List Key2) (row here : Int) (D F L : List Int) (i : Nat) : Prop where
  nd : F.Nodup
  led : ∀ c ∈ F, Led ds pr (row, c)
  rows : ∀ r ∈ L, LedR ds pr row r
  hr : LedR ds pr row here
  st : row = here ∨ row ∈ D ∨ row ∈ L
  dn : ∀ r ∈ D, ∀ c, (r, c) ∈ pr → c ∈ F
  on : ∀ c ∈ F, ∀ r, (r, c) ∈ pr → (r, c) ∉ ds → r = here ∨ r ∈ D ∨ r ∈ L
  up : ∀ k ∈ pr.take i, k.1 = here → k.2 ∈ F
/-- the rows to which a column leads -/
def rowsOn (ds pr : List Key2) (c : Int) : List Int := (pr.filter fun t => decide (t.2 = c) && !decide (t ∈ ds)).map (·.1)
theorem mem_rowsOn {ds pr : List Key2} {c r : Int} : r ∈ rowsOn ds pr c ↔ (r, c) ∈ pr ∧ (r, c) ∉ ds := by
  unfold rowsOn
  simp only [List.mem_map, List.mem_filter, Bool.and_eq_true, decide_eq_true_eq, Bool.not_eq_true', decide_eq_false_iff_not]
  constructor
  · rintro ⟨⟨a, b⟩, ⟨h1, h2, h3⟩, rfl⟩
    simp only at h2
    subst h2
    exact ⟨h1, h3⟩
  · rintro ⟨h1, h2⟩
    exact ⟨(r, c), ⟨h1, rfl, h2⟩, rfl⟩
theorem rowsOn_len (ds pr : List Key2) (c : Int) : (rowsOn ds pr c).length ≤ pr.length := by
  unfold rowsOn
  rw [List.length_map]
  exact List.length_filter_le _ _
theorem CF.start (ds pr : List Key2) (row : Int) : CF ds pr row [] [] [row] where
  nd := .nil
  led := fun c h => by cases h
  rows := fun r h => by
    rw [List.mem_singleton.mp h]
    exact .here
  st := .inr (by simp)
  dn := fun r h => by cases h
  on := fun c h => by cases h
theorem CF.pop {ds pr : List Key2} {row here : Int} {D F L : List Int} (h : CF ds pr row D F (L ++ [here])) : CI ds pr row here D F L 0 where
  nd := h.nd
  led := h.led
  rows := fun r hr => h.rows r (List.mem_append_left _ hr)
  hr := h.rows here (by simp)
  st := by
    rcases h.st with q | q
    · exact .inr (.inl q)
    · rcases List.mem_append.mp q with q | q
      · exact .inr (.inr q)
      · exact .inl (List.mem_singleton.mp q)
  dn := h.dn
  on := fun c hc r h1 h2 => by
    rcases h.on c hc r h1 h2 with q | q
    · exact .inr (.inl q)
    · rcases List.mem_append.mp q with q | q
      · exact .inr (.inr q)
      · exact .inl (List.mem_singleton.mp q)
  up := fun k hk => by simp at hk
theorem CI.done {ds pr : List Key2} {row here : Int} {D F L : List Int} {i : Nat} (h : CI ds pr row here D F L i) (hi : pr.length ≤ i) : CF ds pr row (here :: D) F L where
  nd := h.nd
  led := h.led
  rows := h.rows
  st := by
    rcases h.st with q | q | q
    · exact .inl (by rw [q]; exact List.mem_cons_self)
    · exact .inl (List.mem_cons_of_mem _ q)
    · exact .inr q
  dn := fun r hr c hc => by
    rcases List.mem_cons.mp hr with rfl | hr
    · exact h.up (r, c) (by rw [List.take_of_length_le hi]; exact hc) rfl
    · exact h.dn r hr c hc
  on := fun c hc r h1 h2 => by
    rcases h.on c hc r h1 h2 with q | q | q
    · exact .inl (by rw [q]; exact List.mem_cons_self)
    · exact .inl (List.mem_cons_of_mem _ q)
    · exact .inr q
theorem CI.skip {ds pr : List Key2} {row here : Int} {D F L : List Int} {i : Nat} {k : Key2} (h : CI ds pr row here D F L i) (hk : pr[i]? = some k) (hq : k.1 = here → k.2 ∈ F) : CI ds pr row here D F L (i + 1) :=
  ⟨h.nd, h.led, h.rows, h.hr, h.st, h.dn, h.on, fun x hx he => by
      rw [List.take_succ, hk] at hx
      rcases List.mem_append.mp hx with q | q
      · exact h.up x q he
      · have : x = k := by simpa using q
        subst this
        exact hq he⟩
theorem CI.take {ds pr : List Key2} {row here : Int} {D F L : List Int} {i : Nat} {k : Key2} (h : CI ds pr row here D F L i) (hk : pr[i]? = some k) (h1 : k.1 = here) (h2 : k.2 ∉ F) : CI ds pr row here D (F ++ [k.2]) (L ++ rowsOn ds pr k.2) (i + 1) := by
  have hm : k ∈ pr := List.mem_of_getElem? hk
  have hm' : (here, k.2) ∈ pr := by rw [← h1]; exact hm
  refine ⟨?_, fun c hc => ?_, fun r hr => ?_, h.hr, ?_, fun r hr c hc => List.mem_append_left _ (h.dn r hr c hc), fun c hc r a b => ?_, fun x hx he => ?_⟩
  · rw [List.nodup_append]
    refine ⟨h.nd, by simp, fun a ha b hb e => ?_⟩
    rw [List.mem_singleton.mp hb] at e
    exact h2 (e ▸ ha)
  · rcases List.mem_append.mp hc with q | q
    · exact h.led c q
    · rw [List.mem_singleton.mp q]
      exact ⟨here, h.hr, hm'⟩
  · rcases List.mem_append.mp hr with q | q
    · exact h.rows r q
    · obtain ⟨a, b⟩ := mem_rowsOn.mp q
      exact .on h.hr hm' a b
  · rcases h.st with q | q | q
    · exact .inl q
    · exact .inr (.inl q)
    · exact .inr (.inr (List.mem_append_left _ q))
  · rcases List.mem_append.mp hc with q | q
    · rcases h.on c q r a b with q | q | q
      · exact .inl q
      · exact .inr (.inl q)
      · exact .inr (.inr (List.mem_append_left _ q))
    · rw [List.mem_singleton.mp q] at a b
      exact .inr (.inr (List.mem_append_right _ (mem_rowsOn.mpr ⟨a, b⟩)))
  · rw [List.take_succ, hk] at hx
    rcases List.mem_append.mp hx with q | q
    · exact List.mem_append_left _ (h.up x q he)
    · have : x = k := by simpa using q
      subst this
      simp
theorem CF.end {ds pr : List Key2} {row : Int} {D F : List Int} (h : CF ds pr row D F []) (c : Int) : c ∈ F ↔ Led ds pr (row, c) := by
  refine ⟨h.led c, ?_⟩
  have hr : ∀ r, LedR ds pr row r → r ∈ D := fun r q => by
    induction q with
    | here =>
      rcases h.st with q | q
      · exact q
      · cases q
    | on _ h1 h2 h3 ih =>
      rcases h.on _ (h.dn _ ih _ h1) _ h2 h3 with q | q
      · exact q
      · cases q
  rintro ⟨r, h1, h2⟩
  exact h.dn r (hr r h1) c h2
theorem nodup_sub {α : Type} [DecidableEq α] {xs ys : List α} (hn : xs.Nodup) (h : ∀ k ∈ xs, k ∈ ys) : xs.length ≤ ys.length := by
  induction xs generalizing ys with
  | nil => exact Nat.zero_le _
  | cons a r ih =>
    have h1 := List.nodup_cons.mp hn
    have ha : a ∈ ys := h a List.mem_cons_self
    have q := ih (ys := ys.erase a) h1.2 (fun k hk => by
      have : k ≠ a := fun e => h1.1 (e ▸ hk)
      exact (List.mem_erase_of_ne this).mpr (h k (List.mem_cons_of_mem _ hk)))
    rw [List.length_erase_of_mem ha] at q
    have : 0 < ys.length := List.length_pos_of_mem ha
    rw [List.length_cons]
    omega
theorem cols_len {ds pr : List Key2} {row : Int} {F : List Int} (nd : F.Nodup) (led : ∀ c ∈ F, Led ds pr (row, c)) : F.length ≤ pr.length := by
  have := nodup_sub (ys := pr.map (·.2)) nd fun c hc => by
    obtain ⟨r, hr⟩ := (led c hc).col
    exact List.mem_map.mpr ⟨_, hr, rfl⟩
  simpa using this
end Mini
/-! What scans.py computes: columns_from, seen_of, seen, ghosts. -/
namespace Mini
open PySem L2
structure TScan (T : Str → Option Fn) : Prop where
  columns_from : T "columns_from" = some f_columns_from
  seen_of : T "seen_of" = some f_seen_of
structure TSeenF (T : Str → Option Fn) : Prop where
  seen : T "seen" = some f_seen
structure TGhO (T : Str → Option Fn) : Prop where
  ghosts_of : T "ghosts_of" = some f_ghosts_of
structure TGh (T : Str → Option Fn) : Prop where
  ghosts : T "ghosts" = some f_ghosts
section
variable {T : Str → Option Fn} {n m : Nat} {S : Sto}
def encB (F : List Int) : List (D × D) := F.map fun c => (.int c, .bool true)
theorem encB_any (F : List Int) (c : Int) : ((encB F).any fun p => PyData.eqv p.1 (.int c)) = decide (c ∈ F) := by
  unfold encB
  rw [List.any_map]
  induction F with
  | nil => rfl
  | cons x r ih =>
    rw [List.any_cons, ih, Function.comp_apply]
    show (PyData.eqv (.int x) (.int c) || _) = _
    by_cases h : x = c
    · simp [PyData.eqv, h]
    · simp [PyData.eqv, h, Ne.symm h]
theorem nin_dict (F : List Int) (c : Int) : cmpF .nin (.int c) (.dict ((.none, .bool false) :: encB F)) = some (!decide (c ∈ F)) := by
  show (if hasKey false (.int c) then some ((encB F).any fun p => PyData.eqv p.1 (.int c)) else none).map (!·) = _
  rw [encB_any]
  rfl
theorem putD_new {F : List Int} {c : Int} (h : c ∉ F) : putD (encB F) (.int c) (.bool true) = encB (F ++ [c]) := by
  unfold putD
  rw [encB_any, if_neg (by simpa using h)]
  unfold encB
  rw [List.map_append]
  rfl
theorem list_dict (F : List Int) : primF .list [.dict ((.none, .bool false) :: encB F)] = some (.list (F.map .int)) := by
  show some (PyData.list ((encB F).map (·.1))) = _
  unfold encB
  rw [List.map_map]
  rfl
@[simp] theorem key0 (k : Key2) : getF (encP k) (.int 0) = some (.int k.1) := at0
@[simp] theorem key1 (k : Key2) : getF (encP k) (.int 1) = some (.int k.2) := at1
abbrev envC (p : PadR) (pr : List Key2) (row : Int) (F L : List Int) (o5 o6 : Sl) : Mini.Env := [.val (encPad p), .val (.tuple (pr.map encP)), .val (.int row), .ownD false (encB F), .own (L.map .int), o5, o6, .no]
theorem k_cols {p : PadR} {pr : List Key2} {row : Int} {F L : List Int} {o5 : Sl} {k : Key2} (hp : pr.length ≤ 1000) : evE (callF T m) .b k_columns_from_1 (envC p pr row F L o5 (.val (encP k))) S = .ok (.list ((rowsOn p.ds pr k.2).map .int)) S := by
  unfold k_columns_from_1
  rw [comp_run (enc := encP) (xs := pr) (g := fun t => if decide (t.2 = k.2) && !decide (t ∈ p.ds) then some (.int t.1) else none) (d := .tuple (pr.map encP)) ?_ rfl ?_ ?_]
  · rw [filterMap_if, rowsOn, List.map_map]
    rfl
  · simp
  · omega
  · intro t _
    refine turn_if ?_ ?_
    · by_cases h : t.2 = k.2 <;> simp [wipeS, h]
    · simp [wipeS]
theorem l_cols1 {p : PadR} {pr : List Key2} {row here : Int} {F L : List Int} {D : List Int} {o6 : Sl} (hp : pr.length ≤ 20) (hL : L.length + (pr.length - F.length) * pr.length ≤ 500) (hI : CI p.ds pr row here D F L 0) :
    ∃ (F' L' : List Int) (o' : Sl), exS (callF T m) l_columns_from_1 (envC p pr row F L (.val (.int here)) o6) S = .nx (envC p pr row F' L' (.val (.int here)) o') S ∧ CI p.ds pr row here D F' L' pr.length ∧ L'.length + (pr.length - F'.length) * pr.length ≤ L.length + (pr.length - F.length) * pr.length := by
  obtain ⟨env', e1, ⟨F', L', o', e2, e3, e4⟩⟩ := for_inv (c := l_columns_from_1) (cl := callF T m) (S := S) (env := envC p pr row F L (.val (.int here)) o6) (d := .tuple (pr.map encP)) (items := pr.map encP) rfl
    (fun i env => ∃ (F' L' : List Int) (o' : Sl), env = envC p pr row F' L' (.val (.int here)) o' ∧ CI p.ds pr row here D F' L' i ∧ L'.length + (pr.length - F'.length) * pr.length ≤ L.length + (pr.length - F.length) * pr.length) (by simp) rfl ⟨F, L, o6, rfl, hI, Nat.le_refl _⟩ fun i x env hx he => by
      obtain ⟨F', L', o', rfl, hc, hm⟩ := he
      rw [List.getElem?_map] at hx
      obtain ⟨k, hk, rfl⟩ : ∃ k, pr[i]? = some k ∧ encP k = x := by
        cases e : pr[i]? with
        | none => rw [e] at hx; cases hx
        | some k => rw [e] at hx; exact ⟨k, rfl, Option.some.inj hx⟩
      have fl := cols_len hc.nd hc.led
      by_cases h1 : k.1 = here
      · by_cases h2 : k.2 ∈ F'
        · refine ⟨envC p pr row F' L' (.val (.int here)) (.val (encP k)), ?_, F', L', _, rfl, hc.skip hk fun _ => h2, hm⟩
          simp [stepF, setT, h1, nin_dict, h2]
        · have ht := hc.take hk h1 h2
          have fl2 := cols_len ht.nd ht.led
          rw [List.length_append, List.length_singleton] at fl2
          have rl := rowsOn_len p.ds pr k.2
          have es : (pr.length - F'.length) * pr.length = (pr.length - (F'.length + 1)) * pr.length + pr.length := by
            rw [← Nat.succ_mul]
            congr 1
            omega
          have Ll : L'.length ≤ 500 := by omega
          refine ⟨envC p pr row (F' ++ [k.2]) (L' ++ rowsOn p.ds pr k.2) (.val (.int here)) (.val (encP k)), ?_, _, _, _, rfl, ht, ?_⟩
          · have q1 := put_run (cl := callF T m) (S := S) (env := envC p pr row F' L' (.val (.int here)) (.val (encP k))) (i := 3) (k := .ix (.var 6) (.cst (.int 1))) (v := .cst (.bool true)) (t := false) (kvs := encB F') (x := .int k.2) (d := .bool true) rfl (by simp) (by simp) (lim_small (by unfold encB; rw [List.length_map]; omega)) rfl
            rw [putD_new h2] at q1
            have q2 := ext_run (cl := callF T m) (S := S) (i := 4) (e := k_columns_from_1) (xs := L'.map .int) (env := envC p pr row (F' ++ [k.2]) L' (.val (.int here)) (.val (encP k))) rfl (k_cols (by omega)) (lim_small (by simp only [List.length_map]; omega))
            simp only [envC] at q1 q2
            simp only [List.set_cons_succ, List.set_cons_zero] at q1 q2
            rw [← List.map_append] at q2
            have q0 : evE (callF T m) .b (.and_ (.cmp .eq (.ix (.var 6) (.cst (.int 0))) (.var 5)) (.cmp .nin (.ix (.var 6) (.cst (.int 1))) (.var 3))) (envC p pr row F' L' (.val (.int here)) (.val (encP k))) S = .ok (.bool true) S := by
              simp [h1, nin_dict, h2]
            simp only [envC] at q0 ⊢
            simp only [stepF, setT, List.set_cons_succ, List.set_cons_zero, x_seq, x_ife, q0, ofE_ok, q1, q2, x_skip]
          · rw [List.length_append, List.length_append, List.length_singleton]
            omega
      · refine ⟨envC p pr row F' L' (.val (.int here)) (.val (encP k)), ?_, F', L', _, rfl, hc.skip hk fun h => absurd h h1, hm⟩
        simp [stepF, setT, h1]
  rw [List.length_map] at e3
  exact ⟨F', L', o', by rw [← e2]; exact e1, e3, e4⟩
theorem cmp_neI0 (L : List Int) : cmpF .ne (.list (L.map .int)) (.list []) = some (!L.isEmpty) := by
  have hp : ∀ L : List Int, PyData.canLayAll0 (L.map .int) = true ∧ PyData.depthAll (L.map .int) = 0 := fun L => by
    induction L with
    | nil => simp [PyData.canLayAll0, PyData.depthAll]
    | cons x r ih =>
      show PyData.canLayAll0 (.int x :: r.map .int) = true ∧ PyData.depthAll (.int x :: r.map .int) = 0
      rw [PyData.canLayAll0, PyData.depthAll, ih.1, ih.2]
      simp [PyData.canLay0, PyData.depth]
  have h1 : pure1 (.list (L.map .int)) = true := by
    unfold pure1 SeqAt.shaped
    rw [lay_list, (hp L).1, PyData.depth, (hp L).2]
    rfl
  have h2 : pure1 (.list []) = true := by
    unfold pure1 SeqAt.shaped
    rw [lay_list, PyData.depth]
    simp [PyData.canLayAll0, PyData.depthAll]
  rw [c_ne, h1, h2]
  cases L <;> simp [PyData.eqv, PyData.eqvAll]
theorem c_columns_from (hT : TScan T) (hn : 1 ≤ n) (p : PadR) {pr : List Key2} (hp : pr.length ≤ 20) (row : Int) : ∃ cs : List Int, cs.Pairwise (· < ·) ∧ (∀ c, c ∈ cs ↔ Led p.ds pr (row, c)) ∧ cs.length ≤ 20 ∧
    callF T n "columns_from" [encPad p, .tuple (pr.map encP), .int row] S = .ok (.list (cs.map .int)) S := by
  obtain ⟨m, rfl⟩ : ∃ m, n = m + 1 := ⟨n - 1, by omega⟩
  have hM : pr.length * pr.length ≤ 20 * 20 := Nat.mul_le_mul hp hp
  obtain ⟨env', _, e1, ⟨F, L, D, o5, o6, rfl, hc, _, _⟩, e3⟩ := whl_inv (w := l_columns_from_2) (cl := callF T m) (S := S) (env := envC p pr row [] [row] .no .no) (n := 1 + pr.length * pr.length) rfl
    (fun n env => ∃ (F L D : List Int) (o5 o6 : Sl), env = envC p pr row F L o5 o6 ∧ CF p.ds pr row D F L ∧ n = L.length + (pr.length - F.length) * pr.length ∧ n ≤ 500)
    ⟨[], [row], [], .no, .no, rfl, CF.start _ _ _, by simp, by omega⟩ (by omega) fun n env hP => by
      obtain ⟨F, L, D, o5, o6, rfl, hc, rfl, hl⟩ := hP
      rcases List.eq_nil_or_concat L with rfl | ⟨L0, here, rfl⟩
      · left
        have q : cmpF .ne (.list []) (.list []) = some false := cmp_neI0 []
        simp [envC, lim_small, q]
      · right
        rw [List.concat_eq_append] at hc hl ⊢
        have hcnd : evE (callF T m) .b (.cmp .ne (.var 4) (.lst .nil)) (envC p pr row F (L0 ++ [here]) o5 o6) S = .ok (.bool true) S := by
          have q := cmp_neI0 (L0 ++ [here])
          have hi : (L0 ++ [here]).isEmpty = false := by simp
          rw [hi] at q
          simp only [e_cmp, e_var, e_lst, e_nil, envC]
          simp [-List.map_append, lim_small, q]
        refine ⟨hcnd, ?_⟩
        rw [List.length_append, List.length_singleton] at hl
        obtain ⟨F', L', o', e1, e2, e3⟩ := l_cols1 (T := T) (m := m) (S := S) (o6 := o6) hp (by omega) hc.pop
        refine ⟨envC p pr row F' L' (.val (.int here)) o', _, ?_, ?_, F', L', here :: D, _, _, rfl, e2.done (Nat.le_refl _), rfl, by omega⟩
        · simp only [envC] at e1
          have hg : (List.map PyData.int (L0 ++ [here])).getLast? = some (.int here) := by simp
          have hd : (List.map PyData.int (L0 ++ [here])).dropLast = L0.map .int := by simp
          simp only [x_seq, x_popS, envC, List.getElem?_cons_succ, List.getElem?_cons_zero, hg, hd, List.set_cons_succ, List.set_cons_zero, x_frz, List.foldl_cons, List.foldl_nil, frz1, e1, x_skip]
        · rw [List.length_append, List.length_singleton]
          omega
  have hL : L = [] := by
    have q := cmp_neI0 L
    simp only [e_cmp, e_var, e_lst, e_nil, envC] at e3
    simp [lim_small, q] at e3
    exact e3
  subst hL
  refine ⟨sortI F, sortI_lt hc.nd, fun c => by rw [(sortI_perm F).mem_iff]; exact hc.end c, ?_, ?_⟩
  · rw [(sortI_perm F).length_eq]
    exact Nat.le_trans (cols_len hc.nd hc.led) hp
  · rw [callF_eq hT.columns_from rfl]
    simp only [envC] at e1
    simp only [f_columns_from]
    simp [frz1, fresh, slOf, lim_small]
    have e0 : encB [] = [] := rfl
    rw [e0] at e1
    simp only [List.map_cons, List.map_nil] at e1
    rw [e1]
    simp [list_dict]
end
end Mini
/-! seen_of, seen, ghosts_of, ghosts; with_diodes, turned. -/
namespace Mini
open PySem L2
def rowsK (cs : Nat → List Int) (i : Nat) : List Key2 := (List.range i).flatMap fun j => (cs j).map fun c => ((j : Int), c)
theorem rowsK_succ (cs : Nat → List Int) (i : Nat) : rowsK cs (i + 1) = rowsK cs i ++ (cs i).map fun c => ((i : Int), c) := by
  unfold rowsK
  rw [List.range_succ, List.flatMap_append]
  simp
theorem mem_rowsK {cs : Nat → List Int} {i : Nat} {k : Key2} : k ∈ rowsK cs i ↔ ∃ j : Nat, j < i ∧ k.1 = j ∧ k.2 ∈ cs j := by
  unfold rowsK
  simp only [List.mem_flatMap, List.mem_range, List.mem_map]
  constructor
  · rintro ⟨j, hj, c, hc, rfl⟩
    exact ⟨j, hj, rfl, hc⟩
  · rintro ⟨j, hj, h1, h2⟩
    exact ⟨j, hj, k.2, h2, by rw [← h1]⟩
theorem rowsK_up {cs : Nat → List Int} (h : ∀ j, (cs j).Pairwise (· < ·)) (i : Nat) : Up (rowsK cs i) := by
  induction i with
  | zero => simp [rowsK, Up]
  | succ i ih =>
    rw [rowsK_succ]
    unfold Up
    rw [List.pairwise_append]
    refine ⟨ih, ?_, fun a ha b hb => ?_⟩
    · rw [List.pairwise_map]
      refine (h i).imp fun {a b} q => ?_
      simp only [ltP, decide_eq_true_eq]
      exact .inr ⟨trivial, q⟩
    · obtain ⟨j, hj, h1, _⟩ := mem_rowsK.mp ha
      obtain ⟨c, _, rfl⟩ := List.mem_map.mp hb
      simp only [ltP, decide_eq_true_eq]
      left
      omega
theorem rowsK_len {cs : Nat → List Int} {b : Nat} (h : ∀ j, (cs j).length ≤ b) (i : Nat) : (rowsK cs i).length ≤ i * b := by
  induction i with
  | zero => simp [rowsK]
  | succ i ih =>
    rw [rowsK_succ, List.length_append, List.length_map, Nat.succ_mul]
    have := h i
    omega
/-- rows that rise tell just the spots seen -/
theorem rowsK_seen {p : PadR} (h : WF p) {pr : List Key2} (hs : ∀ k ∈ pr, k ∈ p.ks) {cs : Nat → List Int} (h1 : ∀ j, (cs j).Pairwise (· < ·)) (h2 : ∀ (j : Nat) c, c ∈ cs j ↔ Led p.ds pr ((j : Int), c)) : rowsK cs p.r.toNat = seenK p.ds pr := by
  refine seenK_is (h.in4.sub hs) (rowsK_up h1 _) fun k => ?_
  rw [mem_rowsK]
  constructor
  · rintro ⟨j, _, e1, e2⟩
    have := (h2 j k.2).mp e2
    rw [← e1] at this
    exact this
  · intro q
    obtain ⟨c, hc⟩ := q.row
    have hr := h.kr _ (hs _ hc)
    simp only at hr
    refine ⟨k.1.toNat, by omega, by omega, (h2 _ _).mpr ?_⟩
    rw [show ((k.1.toNat : Nat) : Int) = k.1 by omega]
    exact q
section
variable {T : Str → Option Fn} {n m : Nat} {S : Sto}
theorem c_seen_of (hT : TScan T) (hn : 2 ≤ n) {p : PadR} (h : WF p) {pr : List Key2} (hp : pr.length ≤ 20) (hs : ∀ k ∈ pr, k ∈ p.ks) : callF T n "seen_of" [encPad p, .tuple (pr.map encP)] S = .ok (.list ((seenK p.ds pr).map encP)) S := by
  obtain ⟨m, rfl⟩ : ∃ m, n = m + 1 := ⟨n - 1, by omega⟩
  have r1 := h.r1
  obtain ⟨cs, hcs⟩ := Classical.axiomOfChoice fun i : Nat => c_columns_from (S := S) hT (show 1 ≤ m by omega) p hp (i : Int)
  have k1 : ∀ (i : Nat) (o2 : Sl), evE (callF T m) .b k_seen_of_1 [.val (encPad p), .val (.tuple (pr.map encP)), o2, .val (.int i), .no] S = .ok (.list (((cs i).map fun c => ((i : Int), c)).map encP)) S := fun i o2 => by
    unfold k_seen_of_1
    have cc := (hcs i).2.2.2
    rw [comp_run (enc := PyData.int) (xs := cs i) (g := fun c => some (encP ((i : Int), c))) (d := .list ((cs i).map .int)) ?_ rfl ?_ ?_]
    · rw [filterMap_some, List.map_map]
      rfl
    · simp [cc]
    · have := (hcs i).2.2.1
      omega
    · intro x _
      simp [turnC, setT, wipeS, lim_small, encP]
  obtain ⟨env', e1, ⟨o3, e2⟩⟩ := for_inv (c := l_seen_of_1) (cl := callF T m) (S := S) (env := [.val (encPad p), .val (.tuple (pr.map encP)), .own [], .no, .no]) (d := .list (rangeD 0 p.r.toNat)) (items := rangeD 0 p.r.toNat) rfl
    (fun i env => ∃ o3, env = [.val (encPad p), .val (.tuple (pr.map encP)), .own ((rowsK cs i).map encP), o3, .no]) (by
      have h1 : p.r ≤ 100000 ∧ -100000 ≤ p.r := by omega
      simp [h1]) rfl ⟨.no, rfl⟩ fun i x env hx he => by
      obtain ⟨hi, rfl⟩ := rangeD_get hx
      obtain ⟨o3, rfl⟩ := he
      refine ⟨_, ?_, .val (.int i), rfl⟩
      have hl := rowsK_len (cs := cs) (fun j => (hcs j).2.2.1) i
      have hl2 := (hcs i).2.2.1
      have hi4 : i * 20 ≤ 4 * 20 := Nat.mul_le_mul (by omega) (Nat.le_refl _)
      have q := ext_run (cl := callF T m) (S := S) (i := 2) (e := k_seen_of_1) (xs := (rowsK cs i).map encP) (env := [.val (encPad p), .val (.tuple (pr.map encP)), .own ((rowsK cs i).map encP), .val (.int i), .no]) rfl (k1 i _) (lim_small (by simp only [List.length_map]; omega))
      rw [← List.map_append, ← rowsK_succ] at q
      simp only [List.set_cons_succ, List.set_cons_zero] at q
      simp [stepF, setT, frz1, q]
  rw [show (rangeD 0 p.r.toNat).length = p.r.toNat by simp [rangeD]] at e2
  rw [callF_eq hT.seen_of rfl]
  simp only [f_seen_of]
  simp [fresh, slOf, lim_small, e1, e2, frz1]
  rw [rowsK_seen h hs (fun j => (hcs j).1) fun j c => (hcs j).2.1 c]
theorem setP_sub {l ks : List Key2} (h : ∀ k ∈ l, k ∈ ks) : ∀ k ∈ setP l, k ∈ ks := fun k hk => h k (setP_mem.mp hk)
theorem setP_len8 {p : PadR} (h : WF p) {l : List Key2} (hl : ∀ k ∈ l, k ∈ p.ks) : (setP l).length ≤ 8 := Nat.le_trans (up_sub (setP_up l) (setP_sub hl)) h.k8
theorem seenK_set (ds l : List Key2) : seenK ds (setP l) = seenK ds l := seenK_mem fun k => setP_mem
theorem c_seen (hP : TPads T) (hT : TScan T) (hF : TSeenF T) (hn : 5 ≤ n) {p : PadR} (h : WF p) {d : D} {l : List Key2} (hd : KSeq d l) (hl : ∀ k ∈ l, k ∈ p.ks) (hl2 : l.length < 64) : callF T n "seen" [encPad p, d] S = .ok (.list ((seenK p.ds l).map encP)) S := by
  obtain ⟨m, rfl⟩ : ∃ m, n = m + 1 := ⟨n - 1, by omega⟩
  rw [callF_eq hF.seen rfl]
  have h8 := setP_len8 h hl
  have s1 := c_seen_of (S := S) hT (show 2 ≤ m by omega) h (pr := setP l) (by omega) (setP_sub hl)
  simp only [f_seen]
  simp [frz1, c_look_pad hP (show 4 ≤ m by omega) h, c_keys_in hP (show 3 ≤ m by omega) h hd hl hl2, s1, seenK_set]
theorem c_ghosts_of (hT : TScan T) (hG : TGhO T) (hn : 3 ≤ n) {p : PadR} (h : WF p) {pr : List Key2} (hp : pr.length ≤ 20) (hs : ∀ k ∈ pr, k ∈ p.ks) : callF T n "ghosts_of" [encPad p, .tuple (pr.map encP)] S = .ok (.list (((seenK p.ds pr).filter fun k => !decide (k ∈ pr)).map encP)) S := by
  obtain ⟨m, rfl⟩ : ∃ m, n = m + 1 := ⟨n - 1, by omega⟩
  rw [callF_eq hG.ghosts_of rfl]
  have s1 := c_seen_of (S := S) hT (show 2 ≤ m by omega) h (pr := pr) hp hs
  have k1 : evE (callF T m) .v k_ghosts_of_1 [.val (encPad p), .val (.tuple (pr.map encP)), .no] S = .ok (.list (((seenK p.ds pr).filter fun k => !decide (k ∈ pr)).map encP)) S := by
    unfold k_ghosts_of_1
    rw [comp_run (enc := encP) (xs := seenK p.ds pr) (g := fun k => if !decide (k ∈ pr) then some (encP k) else none) (d := .list ((seenK p.ds pr).map encP)) ?_ rfl ?_ ?_]
    · rw [filterMap_if]
    · simp [s1]
    · have := seenK_len p.ds pr
      omega
    · intro x _
      refine turn_if ?_ ?_
      · simp [wipeS]
      · simp [wipeS]
  simp only [f_ghosts_of]
  simp [frz1, k1]
theorem c_ghosts (hP : TPads T) (hT : TScan T) (hO : TGhO T) (hG : TGh T) (hn : 5 ≤ n) {p : PadR} (h : WF p) {d : D} {l : List Key2} (hd : KSeq d l) (hl : ∀ k ∈ l, k ∈ p.ks) (hl2 : l.length < 64) : callF T n "ghosts" [encPad p, d] S = .ok (.list (((seenK p.ds l).filter fun k => !decide (k ∈ l)).map encP)) S := by
  obtain ⟨m, rfl⟩ : ∃ m, n = m + 1 := ⟨n - 1, by omega⟩
  rw [callF_eq hG.ghosts rfl]
  have h8 := setP_len8 h hl
  have s1 := c_ghosts_of (S := S) hT hO (show 3 ≤ m by omega) h (pr := setP l) (by omega) (setP_sub hl)
  have e : (fun k => !decide (k ∈ setP l)) = fun k => !decide (k ∈ l) := funext fun k => by simp only [setP_mem]
  rw [seenK_set, e] at s1
  simp only [f_ghosts]
  simp [frz1, c_look_pad hP (show 4 ≤ m by omega) h, c_keys_in hP (show 3 ≤ m by omega) h hd hl hl2, s1]
/-! ### with_diodes, turned -/
theorem cut3 {a b c : D} {r : List D} : cutL (a :: b :: c :: r) none (some 3) = [a, b, c] := by
  unfold cutL
  rw [show HT.sIx (a :: b :: c :: r).length (a :: b :: c :: r).length (some 3) = min 3 (a :: b :: c :: r).length from HT.sIx_nat _ _ 3, HT.sIx_none]
  have e : min 3 (a :: b :: c :: r).length = 3 := by
    simp only [List.length_cons]
    omega
  rw [e]
  rfl
theorem cut_pad (p : PadR) : cutF (encPad p) none (some 3) = some (.tuple [.int p.r, .int p.c, .tuple (p.ks.map encP)]) := by
  show some (PyData.tuple (cutL _ none (some 3))) = _
  rw [cut3]
structure TMore (T : Str → Option Fn) : Prop where
  with_diodes : T "with_diodes" = some f_with_diodes
theorem c_with_diodes (hP : TPads T) (hT : TMore T) (hn : 5 ≤ n) {p : PadR} (h : WF p) {d : D} {l : List Key2} (hd : KSeq d l) (hl : ∀ k ∈ l, k ∈ p.ks) (hl2 : l.length < 64) : callF T n "with_diodes" [encPad p, d] S = .ok (encPad ⟨p.r, p.c, p.ks, setP l⟩) S := by
  obtain ⟨m, rfl⟩ : ∃ m, n = m + 1 := ⟨n - 1, by omega⟩
  rw [callF_eq hT.with_diodes rfl]
  have e : binF .add (.tuple [.int p.r, .int p.c, .tuple (p.ks.map encP)]) (.tuple [.tuple ((setP l).map encP)]) = some (encPad ⟨p.r, p.c, p.ks, setP l⟩) := by
    show (if lim 4 then some _ else none) = _
    rw [lim_small (by omega)]
    rfl
  simp only [f_with_diodes]
  simp [frz1, c_look_pad hP (show 4 ≤ m by omega) h, c_keys_in hP (show 3 ≤ m by omega) h hd hl hl2, optI, cut_pad, lim_small, e]
theorem WF.diodes {p : PadR} (h : WF p) {l : List Key2} (hl : ∀ k ∈ l, k ∈ p.ks) : WF ⟨p.r, p.c, p.ks, setP l⟩ :=
  ⟨h.r1, h.c1, h.kn, h.k8, h.ku, setP_up l, h.kr, setP_sub hl⟩
def swapK (k : Key2) : Key2 := (k.2, k.1)
structure TTurn (T : Str → Option Fn) : Prop where
  turned : T "turned" = some f_turned
theorem c_turned (hP : TPads T) (hT : TTurn T) (hn : 5 ≤ n) {p : PadR} (h : WF p) : callF T n "turned" [encPad p] S = .ok (encPad ⟨p.c, p.r, sortK (p.ks.map swapK), []⟩) S := by
  obtain ⟨m, rfl⟩ : ∃ m, n = m + 1 := ⟨n - 1, by omega⟩
  rw [callF_eq hT.turned rfl]
  have h8 := h.k8
  have k1 : evE (callF T m) .b k_turned_1 [.val (encPad p), .no, .no] S = .ok (.list ((p.ks.map swapK).map encP)) S := by
    unfold k_turned_1
    rw [comp_run (enc := encP) (xs := p.ks) (g := fun k => some (encP (swapK k))) (d := .tuple (p.ks.map encP)) ?_ rfl ?_ ?_]
    · rw [filterMap_some, List.map_map]
      rfl
    · simp
    · omega
    · intro x _
      simp [turnC, setT, wipeS, encP, swapK, lim_small]
  simp only [f_turned]
  simp only [x_seq, x_frz, List.foldl_cons, List.foldl_nil]
  simp [-List.map_map, frz1, c_look_pad hP (show 4 ≤ m by omega) h, k1, lim_small]
  rfl
theorem swap_swap (k : Key2) : swapK (swapK k) = k := rfl
theorem swap_inj {a b : Key2} (h : swapK a = swapK b) : a = b := by
  rw [← swap_swap a, h, swap_swap]
theorem nodup_map {α β : Type} {f : α → β} (hf : ∀ a b, f a = f b → a = b) {l : List α} (h : l.Nodup) : (l.map f).Nodup := by
  unfold List.Nodup
  rw [List.pairwise_map]
  exact h.imp fun {a b} q e => q (hf a b e)
theorem mem_swap {ks : List Key2} {k : Key2} : k ∈ ks.map swapK ↔ swapK k ∈ ks := by
  rw [List.mem_map]
  exact ⟨fun ⟨a, h, e⟩ => by rw [← e]; exact h, fun h => ⟨swapK k, h, rfl⟩⟩
theorem mem_sortK {ks : List Key2} {k : Key2} : k ∈ sortK ks ↔ k ∈ ks := (sortK_perm ks).mem_iff
theorem WF.turned {p : PadR} (h : WF p) : WF ⟨p.c, p.r, sortK (p.ks.map swapK), []⟩ where
  r1 := h.c1
  c1 := h.r1
  kn := by
    show 1 ≤ (sortK _).length
    rw [(sortK_perm _).length_eq, List.length_map]
    exact h.kn
  k8 := by
    show (sortK _).length ≤ 8
    rw [(sortK_perm _).length_eq, List.length_map]
    exact h.k8
  ku := sortK_up (nodup_map (fun a b => swap_inj) (up_nodup h.ku))
  du := .nil
  kr := fun k hk => by
    have := h.kr _ (mem_swap.mp (mem_sortK.mp hk))
    unfold swapK at this
    simp only at this ⊢
    omega
  dk := fun d hd => by cases hd
end
end Mini
/-! The laws' own going over all keys. -/
namespace Mini
open PySem L2
def goC (s : List Int × List Int) (k : Key2) : List Int := if k.1 ∈ s.1 ∧ k.2 ∉ s.2 then s.2 ++ [k.2] else s.2
def goR (ds : List Key2) (R C : List Int) (k : Key2) : List Int := if k.2 ∈ C ∧ k.1 ∉ R ∧ k ∉ ds then R ++ [k.1] else R
def goS (ds : List Key2) (s : List Int × List Int) (k : Key2) : List Int × List Int := (goR ds s.1 (goC s k) k, goC s k)
def passS (ds l : List Key2) (s : List Int × List Int) : List Int × List Int := l.foldl (goS ds) s
def passN (ds l : List Key2) (s : List Int × List Int) : Nat → List Int × List Int
  | 0 => s
  | n + 1 => passS ds l (passN ds l s n)
theorem filt_lt {l : List Key2} {p q : Key2 → Bool} (h : ∀ k, p k = true → q k = true) {k : Key2} (hk : k ∈ l) (h1 : p k = false) (h2 : q k = true) : (l.filter p).length + 1 ≤ (l.filter q).length := by
  have mono : ∀ l : List Key2, (l.filter p).length ≤ (l.filter q).length := fun l => by
    induction l with
    | nil => exact Nat.le_refl _
    | cons x r ih =>
      rw [List.filter_cons, List.filter_cons]
      cases e : p x with
      | true =>
        rw [h x e]
        simpa using ih
      | false =>
        cases e2 : q x with
        | true =>
          simp
          omega
        | false => simpa using ih
  induction l with
  | nil => cases hk
  | cons x r ih =>
    rw [List.filter_cons, List.filter_cons]
    rcases List.mem_cons.mp hk with rfl | hk
    · rw [h1, h2]
      have := mono r
      simp
      omega
    · have q1 := ih hk
      cases e : p x with
      | true =>
        rw [h x e]
        simpa using q1
      | false =>
        cases e2 : q x with
        | true =>
          simp
          omega
        | false => simpa using q1
def cov (s : List Int × List Int) (k : Key2) : Bool := decide (k.1 ∈ s.1) && decide (k.2 ∈ s.2)
structure GS (ds l : List Key2) (row : Int) (s : List Int × List Int) : Prop where
  nd : s.2.Nodup
  led : ∀ c ∈ s.2, Led ds l (row, c)
  rows : ∀ r ∈ s.1, LedR ds l row r
  st : row ∈ s.1
  few : s.1.length + s.2.length ≤ 1 + (l.filter (cov s)).length
theorem cov_iff {s : List Int × List Int} {k : Key2} : cov s k = true ↔ k.1 ∈ s.1 ∧ k.2 ∈ s.2 := by simp [cov]
theorem cov_no {s : List Int × List Int} {k : Key2} : cov s k = false ↔ ¬ (k.1 ∈ s.1 ∧ k.2 ∈ s.2) := by rw [← cov_iff]; simp
theorem GS.go {ds l : List Key2} {row : Int} {s : List Int × List Int} (h : GS ds l row s) {k : Key2} (hk : k ∈ l) : GS ds l row (goS ds s k) := by
  have hC : GS ds l row (s.1, goC s k) := by
    unfold goC
    split
    · rename_i q
      refine ⟨?_, fun c hc => ?_, h.rows, h.st, ?_⟩
      · rw [List.nodup_append]
        refine ⟨h.nd, by simp, fun a ha b hb e => ?_⟩
        rw [List.mem_singleton.mp hb] at e
        exact q.2 (e ▸ ha)
      · rcases List.mem_append.mp hc with z | z
        · exact h.led c z
        · rw [List.mem_singleton.mp z]
          exact ⟨k.1, h.rows _ q.1, hk⟩
      · have f := filt_lt (p := cov s) (q := cov (s.1, s.2 ++ [k.2])) (fun x hx => by
          rw [cov_iff] at hx ⊢
          exact ⟨hx.1, List.mem_append_left _ hx.2⟩) hk (cov_no.mpr fun z => q.2 z.2) (cov_iff.mpr ⟨q.1, by simp⟩)
        have := h.few
        simp only [List.length_append, List.length_singleton]
        omega
    · exact h
  obtain ⟨C, eC⟩ : ∃ C, C = goC s k := ⟨_, rfl⟩
  rw [← eC] at hC
  unfold goS goR
  rw [← eC]
  split
  · rename_i q
    refine ⟨hC.nd, hC.led, fun r hr => ?_, List.mem_append_left _ h.st, ?_⟩
    · rcases List.mem_append.mp hr with z | z
      · exact h.rows r z
      · rw [List.mem_singleton.mp z]
        obtain ⟨r', h1, h2⟩ := hC.led _ q.1
        exact .on h1 h2 hk q.2.2
    · have f := filt_lt (p := cov (s.1, C)) (q := cov (s.1 ++ [k.1], C)) (fun x hx => by
        rw [cov_iff] at hx ⊢
        exact ⟨List.mem_append_left _ hx.1, hx.2⟩) hk (cov_no.mpr fun z => q.2.1 z.1) (cov_iff.mpr ⟨by simp, q.1⟩)
      have := hC.few
      simp only [List.length_append, List.length_singleton] at this ⊢
      omega
  · exact hC
theorem GS.pass {ds l : List Key2} {row : Int} : ∀ (ks : List Key2) {s : List Int × List Int}, (∀ k ∈ ks, k ∈ l) → GS ds l row s → GS ds l row (ks.foldl (goS ds) s)
  | [], _, _, h => h
  | k :: r, s, hs, h => GS.pass r (fun x hx => hs x (List.mem_cons_of_mem _ hx)) (h.go (hs k List.mem_cons_self))
theorem GS.start (ds l : List Key2) (row : Int) : GS ds l row ([row], []) where
  nd := .nil
  led := fun c h => by cases h
  rows := fun r h => by
    rw [List.mem_singleton.mp h]
    exact .here
  st := by simp
  few := by simp
def szS (s : List Int × List Int) : Nat := s.1.length + s.2.length
def okK (ds : List Key2) (s : List Int × List Int) (k : Key2) : Prop := (k.1 ∈ s.1 → k.2 ∈ s.2) ∧ (k.2 ∈ s.2 → k ∉ ds → k.1 ∈ s.1)
theorem go_ok {ds : List Key2} {s : List Int × List Int} {k : Key2} (h : okK ds s k) : goS ds s k = s := by
  have e : goC s k = s.2 := by
    unfold goC
    rw [if_neg fun q => q.2 (h.1 q.1)]
  unfold goS goR
  rw [e, if_neg fun q => q.2.1 (h.2 q.1 q.2.2)]
theorem go_no {ds : List Key2} {s : List Int × List Int} {k : Key2} (h : ¬ okK ds s k) : szS s + 1 ≤ szS (goS ds s k) := by
  unfold goS goR goC szS
  by_cases h1 : k.1 ∈ s.1 ∧ k.2 ∉ s.2
  · rw [if_pos h1, if_neg fun q => q.2.1 h1.1]
    simp only [List.length_append, List.length_singleton]
    omega
  · rw [if_neg h1]
    split
    · simp only [List.length_append, List.length_singleton]
      omega
    · rename_i h2
      refine absurd ⟨fun a => ?_, fun a b => ?_⟩ h
      · exact Classical.byContradiction fun z => h1 ⟨a, z⟩
      · exact Classical.byContradiction fun z => h2 ⟨a, z, b⟩
theorem go_le (ds : List Key2) (s : List Int × List Int) (k : Key2) : szS s ≤ szS (goS ds s k) := by
  by_cases h : okK ds s k
  · rw [go_ok h]
    exact Nat.le_refl _
  · have := go_no h
    omega
theorem pass_le (ds : List Key2) : ∀ (ks : List Key2) (s : List Int × List Int), szS s ≤ szS (ks.foldl (goS ds) s)
  | [], s => Nat.le_refl _
  | k :: r, s => Nat.le_trans (go_le ds s k) (pass_le ds r _)
theorem pass_ok {ds : List Key2} : ∀ {ks : List Key2} {s : List Int × List Int}, (∀ k ∈ ks, okK ds s k) → ks.foldl (goS ds) s = s
  | [], _, _ => rfl
  | k :: r, s, h => by
    rw [List.foldl_cons, go_ok (h k List.mem_cons_self)]
    exact pass_ok fun x hx => h x (List.mem_cons_of_mem _ hx)
theorem pass_grow {ds : List Key2} : ∀ {ks : List Key2} {s : List Int × List Int}, szS (ks.foldl (goS ds) s) ≤ szS s → ∀ k ∈ ks, okK ds s k
  | [], _, _, k, hk => by cases hk
  | x :: r, s, h, k, hk => by
    rw [List.foldl_cons] at h
    have h1 := pass_le ds r (goS ds s x)
    have hx : okK ds s x := Classical.byContradiction fun z => by
      have := go_no z
      omega
    rcases List.mem_cons.mp hk with rfl | hk
    · exact hx
    · rw [go_ok hx] at h
      exact pass_grow h k hk
theorem passN_ok {ds l : List Key2} {row : Int} : ∀ n, GS ds l row (passN ds l ([row], []) n) ∧ ((∀ k ∈ l, okK ds (passN ds l ([row], []) n) k) ∨ 1 + n ≤ szS (passN ds l ([row], []) n))
  | 0 => ⟨GS.start ds l row, .inr (by simp [passN, szS])⟩
  | n + 1 => by
    obtain ⟨h1, h2⟩ := passN_ok (ds := ds) (l := l) (row := row) n
    refine ⟨h1.pass l fun k hk => hk, ?_⟩
    show (∀ k ∈ l, okK ds (passS ds l _) k) ∨ 1 + (n + 1) ≤ szS (passS ds l _)
    unfold passS
    rcases h2 with h2 | h2
    · rw [pass_ok h2]
      exact .inl h2
    · by_cases h3 : szS (l.foldl (goS ds) (passN ds l ([row], []) n)) ≤ szS (passN ds l ([row], []) n)
      · have h4 := pass_grow h3
        rw [pass_ok h4]
        exact .inl h4
      · right
        omega
/-- the columns in the end -/
def colsN (ds l : List Key2) (row : Int) : List Int := (passN ds l ([row], []) (l.length + 1)).2
theorem colsN_ok (ds l : List Key2) (row : Int) : (colsN ds l row).Nodup ∧ ∀ c, c ∈ colsN ds l row ↔ Led ds l (row, c) := by
  obtain ⟨h1, h2⟩ := passN_ok (ds := ds) (l := l) (row := row) (l.length + 1)
  have h3 : ∀ k ∈ l, okK ds (passN ds l ([row], []) (l.length + 1)) k := by
    rcases h2 with h2 | h2
    · exact h2
    · have := h1.few
      have := List.length_filter_le (cov (passN ds l ([row], []) (l.length + 1))) l
      unfold szS at h2
      omega
  refine ⟨h1.nd, fun c => ⟨h1.led c, ?_⟩⟩
  have hr : ∀ r, LedR ds l row r → r ∈ (passN ds l ([row], []) (l.length + 1)).1 := fun r q => by
    induction q with
    | here => exact h1.st
    | on _ a b d ih => exact (h3 _ b).2 ((h3 _ a).1 ih) d
  rintro ⟨r, a, b⟩
  exact (h3 _ b).1 (hr r a)
theorem colsN_len (ds l : List Key2) (row : Int) : (colsN ds l row).length ≤ l.length := cols_len (colsN_ok ds l row).1 fun c hc => ((colsN_ok ds l row).2 c).mp hc
end Mini
/-! The laws' own going over all keys, run. -/
namespace Mini
open PySem L2
theorem ints_lay : ∀ L : List Int, PyData.canLayAll0 (L.map .int) = true ∧ PyData.depthAll (L.map .int) = 0
  | [] => by simp [PyData.canLayAll0, PyData.depthAll]
  | x :: r => by
    have ih := ints_lay r
    show PyData.canLayAll0 (.int x :: r.map .int) = true ∧ PyData.depthAll (.int x :: r.map .int) = 0
    rw [PyData.canLayAll0, PyData.depthAll, ih.1, ih.2]
    simp [PyData.canLay0, PyData.depth]
theorem pure_ints (L : List Int) : pure1 (.list (L.map .int)) = true := by
  unfold pure1 SeqAt.shaped
  rw [lay_list, (ints_lay L).1, PyData.depth, (ints_lay L).2]
  rfl
theorem any_ints (L : List Int) (c : Int) : ((L.map PyData.int).any fun y => PyData.eqv y (.int c)) = decide (c ∈ L) := by
  rw [List.any_map]
  induction L with
  | nil => rfl
  | cons x r ih =>
    rw [List.any_cons, ih, Function.comp_apply]
    by_cases h : x = c
    · simp [PyData.eqv, h]
    · simp [PyData.eqv, h, Ne.symm h]
theorem in_ints (L : List Int) (c : Int) : isInF (.int c) (.list (L.map .int)) = some (decide (c ∈ L)) := by
  show (if pure1 _ && pure1 _ then some _ else none) = _
  rw [pure_int, pure_ints, any_ints]
  rfl
@[simp] theorem cmp_inI (L : List Int) (c : Int) : cmpF .inn (.int c) (.list (L.map .int)) = some (decide (c ∈ L)) := in_ints L c
@[simp] theorem cmp_ninI (L : List Int) (c : Int) : cmpF .nin (.int c) (.list (L.map .int)) = some (!decide (c ∈ L)) := by
  show (isInF _ _).map _ = _
  rw [in_ints]
  rfl
section
variable {T : Str → Option Fn} {n m : Nat} {S : Sto}
abbrev envS (p : PadR) (d : D) (made : Sl) (row : Int) (s : List Int × List Int) (o6 o7 : Sl) : Mini.Env := [.val (encPad p), .val d, made, .val (.int row), .own (s.1.map .int), .own (s.2.map .int), o6, o7, .no]
def body1 : C := match l__law_seen_1 with
  | .for_ _ _ b => b
  | _ => .skip
def ifC : C := match body1 with
  | .seq a _ => a
  | _ => .skip
def ifR : C := match body1 with
  | .seq _ (.seq a _) => a
  | _ => .skip
theorem body1_eq : body1 = .seq ifC (.seq ifR .skip) := rfl
theorem ifC_run {p : PadR} {d : D} {made : Sl} {row : Int} {s : List Int × List Int} {o6 : Sl} {k : Key2} (hl : s.2.length ≤ 500) : exS (callF T m) ifC (envS p d made row s o6 (.val (encP k))) S = .nx (envS p d made row (s.1, goC s k) o6 (.val (encP k))) S := by
  simp only [ifC, body1, l__law_seen_1, goC]
  by_cases h1 : k.1 ∈ s.1
  · by_cases h2 : k.2 ∈ s.2
    · simp [h1, h2]
    · have q := app_run (cl := callF T m) (S := S) (i := 5) (e := .ix (.var 7) (.cst (.int 1))) (xs := s.2.map .int) (d := .int k.2) (env := envS p d made row s o6 (.val (encP k))) rfl (by simp) (lim_small (by rw [List.length_map]; omega))
      simp only [envS, List.set_cons_succ, List.set_cons_zero] at q
      simp only [x_ife, x_seq]
      have c : evE (callF T m) .b (.and_ (.cmp .inn (.ix (.var 7) (.cst (.int 0))) (.var 4)) (.cmp .nin (.ix (.var 7) (.cst (.int 1))) (.var 5))) (envS p d made row s o6 (.val (encP k))) S = .ok (.bool true) S := by
        simp [h1, h2]
      rw [c]
      simp only [ofE_ok, envS, q, x_skip]
      simp [h1, h2]
  · simp [h1]
theorem ifR_run {p : PadR} {d : D} {made : Sl} {row : Int} {R C : List Int} {o6 : Sl} {k : Key2} (hl : R.length ≤ 500) : exS (callF T m) ifR (envS p d made row (R, C) o6 (.val (encP k))) S = .nx (envS p d made row (goR p.ds R C k, C) o6 (.val (encP k))) S := by
  simp only [ifR, body1, l__law_seen_1, goR]
  by_cases h1 : k.2 ∈ C
  · by_cases h2 : k.1 ∈ R
    · simp [h1, h2]
    · by_cases h3 : k ∈ p.ds
      · simp [h1, h2, h3]
      · have q := app_run (cl := callF T m) (S := S) (i := 4) (e := .ix (.var 7) (.cst (.int 0))) (xs := R.map .int) (d := .int k.1) (env := envS p d made row (R, C) o6 (.val (encP k))) rfl (by simp) (lim_small (by rw [List.length_map]; omega))
        simp only [envS, List.set_cons_succ, List.set_cons_zero] at q
        simp only [x_ife, x_seq]
        have c : evE (callF T m) .b (.and_ (.cmp .inn (.ix (.var 7) (.cst (.int 1))) (.var 5)) (.and_ (.cmp .nin (.ix (.var 7) (.cst (.int 0))) (.var 4)) (.cmp .nin (.var 7) (.ix (.var 0) (.cst (.int 3)))))) (envS p d made row (R, C) o6 (.val (encP k))) S = .ok (.bool true) S := by
          simp [h1, h2, h3]
        rw [c]
        simp only [ofE_ok, envS, q, x_skip]
        simp [h1, h2, h3]
  · simp [h1]
theorem map_get {α : Type} {enc : α → D} {l : List α} {i : Nat} {x : D} (h : (l.map enc)[i]? = some x) : ∃ k, l[i]? = some k ∧ enc k = x := by
  rw [List.getElem?_map] at h
  cases e : l[i]? with
  | none => rw [e] at h; cases h
  | some k => rw [e] at h; exact ⟨k, rfl, Option.some.inj h⟩
theorem fold_take {α β : Type} (f : β → α → β) (s : β) {l : List α} {i : Nat} {k : α} (h : l[i]? = some k) : (l.take (i + 1)).foldl f s = f ((l.take i).foldl f s) k := by
  rw [List.take_succ, h, List.foldl_append]
  rfl
theorem go_sz (ds : List Key2) (s : List Int × List Int) (k : Key2) : szS (goS ds s k) ≤ szS s + 2 := by
  unfold goS goR goC szS
  repeat' split
  all_goals simp only [List.length_append, List.length_singleton]; omega
theorem pass_sz (ds : List Key2) : ∀ (ks : List Key2) (s : List Int × List Int), szS (ks.foldl (goS ds) s) ≤ szS s + 2 * ks.length
  | [], s => by simp
  | k :: r, s => by
    have h1 := pass_sz ds r (goS ds s k)
    have h2 := go_sz ds s k
    rw [List.foldl_cons, List.length_cons]
    omega
theorem l_seen1 {p : PadR} {d : D} {l : List Key2} (hd : itemsOf d = some (l.map encP)) (hl : l.length ≤ 20) {made : Sl} {row : Int} {s : List Int × List Int} {o6 o7 : Sl} (hs : szS s ≤ 100) : ∃ o', exS (callF T m) l__law_seen_1 (envS p d made row s o6 o7) S = .nx (envS p d made row (passS p.ds l s) o6 o') S := by
  obtain ⟨env', e1, ⟨o', e2⟩⟩ := for_inv (c := l__law_seen_1) (b := body1) (cl := callF T m) (S := S) (env := envS p d made row s o6 o7) (d := d) (items := l.map encP) rfl
    (fun i env => ∃ o', env = envS p d made row ((l.take i).foldl (goS p.ds) s) o6 o') (by simp) hd ⟨o7, rfl⟩ fun i x env hx he => by
      obtain ⟨o', rfl⟩ := he
      obtain ⟨k, hk, rfl⟩ := map_get hx
      refine ⟨_, ?_, .val (encP k), rfl⟩
      rw [fold_take _ _ hk]
      have hz := pass_sz p.ds (l.take i) s
      have hti : (l.take i).length ≤ l.length := by rw [List.length_take]; omega
      obtain ⟨s', es⟩ : ∃ s', s' = (l.take i).foldl (goS p.ds) s := ⟨_, rfl⟩
      rw [← es] at hz ⊢
      unfold szS at hz hs
      have q1 := ifC_run (T := T) (m := m) (S := S) (p := p) (d := d) (made := made) (row := row) (s := s') (o6 := o6) (k := k) (by omega)
      have q2 := ifR_run (T := T) (m := m) (S := S) (p := p) (d := d) (made := made) (row := row) (R := s'.1) (C := goC s' k) (o6 := o6) (k := k) (by omega)
      simp only [envS] at q1 q2
      simp only [stepF, setT, envS, List.set_cons_succ, List.set_cons_zero, body1_eq, x_seq, q1, q2, x_skip]
      rfl
  rw [List.length_map, List.take_length] at e2
  exact ⟨o', by rw [e1, e2]; rfl⟩
theorem passN_sz {ds l : List Key2} {row : Int} (n : Nat) : szS (passN ds l ([row], []) n) ≤ 1 + l.length := by
  have h := (passN_ok (ds := ds) (l := l) (row := row) n).1.few
  have := List.length_filter_le (cov (passN ds l ([row], []) n)) l
  unfold szS
  omega
theorem l_seen2 {p : PadR} {d : D} {l : List Key2} (hd : itemsOf d = some (l.map encP)) (hn : primF .len [d] = some (.int l.length)) (hl : l.length ≤ 20) {made : Sl} {row : Int} {o6 o7 : Sl} : ∃ o o', exS (callF T m) l__law_seen_2 (envS p d made row ([row], []) o6 o7) S = .nx (envS p d made row (passN p.ds l ([row], []) (l.length + 1)) o o') S := by
  obtain ⟨env', e1, ⟨o, o', e2⟩⟩ := for_inv (c := l__law_seen_2) (cl := callF T m) (S := S) (env := envS p d made row ([row], []) o6 o7) (d := .list (rangeD 0 (l.length + 1))) (items := rangeD 0 (l.length + 1)) rfl
    (fun i env => ∃ o o', env = envS p d made row (passN p.ds l ([row], []) i) o o') (by
      have h1 : ((l.length : Int) + 1) ≤ 100000 ∧ -100000 ≤ (l.length : Int) + 1 := by omega
      have h2 : ((l.length : Int) + 1).toNat = l.length + 1 := by omega
      simp [hn, h1, h2]) rfl ⟨o6, o7, rfl⟩ fun i x env hx he => by
      obtain ⟨hi, rfl⟩ := rangeD_get hx
      obtain ⟨o, o', rfl⟩ := he
      have hz := passN_sz (ds := p.ds) (l := l) (row := row) i
      obtain ⟨o2, q⟩ := l_seen1 (T := T) (m := m) (S := S) (p := p) hd hl (made := made) (row := row) (s := passN p.ds l ([row], []) i) (o6 := .val (.int i)) (o7 := o') (by omega)
      refine ⟨_, ?_, .val (.int i), o2, rfl⟩
      simp only [envS] at q
      simp [stepF, setT, envS, frz1, q]
      exact ⟨rfl, rfl⟩
  rw [show (rangeD 0 (l.length + 1)).length = l.length + 1 by simp [rangeD]] at e2
  exact ⟨o, o', by rw [e1, e2]⟩
structure TSeen (T : Str → Option Fn) : Prop where
  law_seen : T "_law_seen" = some f__law_seen
theorem c_law_seen (hT : TSeen T) (hn : 1 ≤ n) {p : PadR} (h : WF p) {d : D} {l : List Key2} (hd : itemsOf d = some (l.map encP)) (hN : primF .len [d] = some (.int l.length)) (hl : l.length ≤ 20) (hs : ∀ k ∈ l, k ∈ p.ks) : callF T n "_law_seen" [encPad p, d] S = .ok (.list ((seenK p.ds l).map encP)) S := by
  obtain ⟨m, rfl⟩ : ∃ m, n = m + 1 := ⟨n - 1, by omega⟩
  have r1 := h.r1
  obtain ⟨cs, hcs⟩ : ∃ cs : Nat → List Int, cs = fun (i : Nat) => sortI (colsN p.ds l (i : Int)) := ⟨_, rfl⟩
  have cl20 : ∀ i, (cs i).length ≤ 20 := fun i => by
    rw [hcs]
    show (sortI _).length ≤ 20
    rw [(sortI_perm _).length_eq]
    exact Nat.le_trans (colsN_len _ _ _) hl
  have k1 : ∀ (i : Nat) (o2 o4 o6 o7 : Sl), evE (callF T m) .b k__law_seen_1 [.val (encPad p), .val d, o2, .val (.int i), o4, .own ((colsN p.ds l (i : Int)).map .int), o6, o7, .no] S = .ok (.list (((cs i).map fun c => ((i : Int), c)).map encP)) S := fun i o2 o4 o6 o7 => by
    unfold k__law_seen_1
    rw [comp_run (enc := PyData.int) (xs := cs i) (g := fun c => some (encP ((i : Int), c))) (d := .list ((cs i).map .int)) ?_ rfl ?_ ?_]
    · rw [filterMap_some, List.map_map]
      rfl
    · rw [hcs]
      simp
    · have := cl20 i
      omega
    · intro x _
      simp [turnC, setT, wipeS, lim_small, encP]
  obtain ⟨env', e1, ⟨o3, o4, o5, o6, o7, e2⟩⟩ := for_inv (c := l__law_seen_3) (cl := callF T m) (S := S) (env := [.val (encPad p), .val d, .own [], .no, .no, .no, .no, .no, .no]) (d := .list (rangeD 0 p.r.toNat)) (items := rangeD 0 p.r.toNat) rfl
    (fun i env => ∃ o3 o4 o5 o6 o7, env = [.val (encPad p), .val d, .own ((rowsK cs i).map encP), o3, o4, o5, o6, o7, .no]) (by
      have h1 : p.r ≤ 100000 ∧ -100000 ≤ p.r := by omega
      simp [h1]) rfl ⟨.no, .no, .no, .no, .no, rfl⟩ fun i x env hx he => by
      obtain ⟨hi, rfl⟩ := rangeD_get hx
      obtain ⟨o3, o4, o5, o6, o7, rfl⟩ := he
      obtain ⟨q6, q7, e⟩ := l_seen2 (T := T) (m := m) (S := S) (p := p) hd hN hl (made := .own ((rowsK cs i).map encP)) (row := (i : Int)) (o6 := o6) (o7 := o7)
      have hl1 := rowsK_len (cs := cs) cl20 i
      have hl2 := cl20 i
      have hi4 : i * 20 ≤ 4 * 20 := Nat.mul_le_mul (by omega) (Nat.le_refl _)
      obtain ⟨fs, efs⟩ : ∃ fs, fs = passN p.ds l ([(i : Int)], []) (l.length + 1) := ⟨_, rfl⟩
      have ef2 : fs.2 = colsN p.ds l (i : Int) := by rw [efs]; rfl
      rw [← efs] at e
      have q := ext_run (cl := callF T m) (S := S) (i := 2) (e := k__law_seen_1) (xs := (rowsK cs i).map encP) (env := [.val (encPad p), .val d, .own ((rowsK cs i).map encP), .val (.int i), .own (fs.1.map .int), .own ((colsN p.ds l (i : Int)).map .int), q6, q7, .no]) rfl (k1 i _ _ _ _) (lim_small (by simp only [List.length_map]; omega))
      rw [← List.map_append, ← rowsK_succ] at q
      simp only [List.set_cons_succ, List.set_cons_zero] at q
      refine ⟨_, ?_, .val (.int i), .own (fs.1.map .int), .own ((colsN p.ds l (i : Int)).map .int), q6, q7, rfl⟩
      simp only [envS, ef2, List.map_cons, List.map_nil] at e
      simp [stepF, setT, frz1, fresh, slOf, lim_small, e, q]
  rw [show (rangeD 0 p.r.toNat).length = p.r.toNat by simp [rangeD]] at e2
  rw [callF_eq hT.law_seen rfl]
  simp only [f__law_seen]
  simp [fresh, slOf, lim_small, e1, e2, frz1]
  rw [rowsK_seen h hs]
  · intro j
    rw [hcs]
    exact sortI_lt (colsN_ok _ _ _).1
  · intro j c
    rw [hcs]
    show c ∈ sortI _ ↔ _
    rw [(sortI_perm _).mem_iff]
    exact (colsN_ok _ _ _).2 c
end
end Mini
/-! Comparing lists of keys; comprehensions that pick keys. -/
namespace Mini
open PySem L2
theorem eqv_keys : ∀ a b : List Key2, PyData.eqvAll (a.map encP) (b.map encP) = decide (a = b)
  | [], [] => by simp [PyData.eqvAll]
  | [], y :: r => by simp [PyData.eqvAll]
  | x :: r, [] => by simp [PyData.eqvAll]
  | x :: r, y :: t => by
    show PyData.eqvAll (encP x :: r.map encP) (encP y :: t.map encP) = _
    rw [PyData.eqvAll, eqv_keys r t, eqv_encP]
    by_cases h1 : x = y <;> by_cases h2 : r = t <;> simp [h1, h2]
theorem eqv_lst (a b : List Key2) : PyData.eqv (.list (a.map encP)) (.list (b.map encP)) = decide (a = b) := by
  rw [PyData.eqv, eqv_keys]
theorem eqv_tup (a b : List Key2) : PyData.eqv (.tuple (a.map encP)) (.tuple (b.map encP)) = decide (a = b) := by
  rw [PyData.eqv, eqv_keys]
theorem cmp_neL (a b : List Key2) : cmpF .ne (.list (a.map encP)) (.list (b.map encP)) = some (!decide (a = b)) := by
  rw [c_ne, pure_lst, pure_lst, eqv_lst]
  rfl
theorem c_eq {x y : D} (hx : ∀ es, x ≠ .dict es) : cmpF .eq x y = if pure1 x && pure1 y then some (PyData.eqv x y) else none := by
  cases x with
  | dict es => exact absurd rfl (hx es)
  | _ => rfl
theorem cmp_eqL (a b : List Key2) : cmpF .eq (.list (a.map encP)) (.list (b.map encP)) = some (decide (a = b)) := by
  rw [c_eq (fun es h => by cases h), pure_lst, pure_lst, eqv_lst]
  rfl
theorem cmp_neT (a b : List Key2) : cmpF .ne (.tuple (a.map encP)) (.tuple (b.map encP)) = some (!decide (a = b)) := by
  rw [c_ne, pure_tup, pure_tup, eqv_tup]
  rfl
theorem cmp_eqT (a b : List Key2) : cmpF .eq (.tuple (a.map encP)) (.tuple (b.map encP)) = some (decide (a = b)) := by
  rw [c_eq (fun es h => by cases h), pure_tup, pure_tup, eqv_tup]
  rfl
theorem cmp_neL0 (a : List Key2) : cmpF .ne (.list (a.map encP)) (.list []) = some (!decide (a = [])) := cmp_neL a []
theorem cmp_eqL0 (a : List Key2) : cmpF .eq (.list (a.map encP)) (.list []) = some (decide (a = [])) := cmp_eqL a []
theorem set_wipe {env : Mini.Env} {v : Nat} {x : Sl} : (wipeS env [v]).set v x = env.set v x := by
  unfold wipeS wipeS
  rw [List.set_set]
section
variable {cl : Calls} {env : Mini.Env} {S : Sto} {m : Md}
/-- a comprehension that picks keys -/
theorem comp_filter {v : Nat} {it c : E} {d : D} {xs : List Key2} (f : Key2 → Bool) (hv : v < env.length) (h1 : evE cl .b it env S = .ok d S) (h2 : itemsOf d = some (xs.map encP)) (h3 : xs.length ≤ 1000)
    (h4 : ∀ x ∈ xs, evE cl .b c (env.set v (.val (encP x))) S = .ok (.bool (f x)) S) : evE cl m (.comp (.var v) (.nm v) [v] it c) env S = .ok (.list ((xs.filter f).map encP)) S := by
  rw [comp_run (enc := encP) (xs := xs) (g := fun x => if f x then some (encP x) else none) h1 h2 (by omega) fun x hx => ?_, filterMap_if]
  show turnC (some ((wipeS env [v]).set v (.val (encP x)))) _ _ S = _
  rw [set_wipe]
  refine turn_if (h4 x hx) ?_
  rw [e_varV]
  rw [List.getElem?_set_self hv]
/-- a comprehension that changes keys -/
theorem comp_map {α : Type} {v : Nat} {e it : E} {d : D} {enc : α → D} {xs : List α} (f : α → D) (h1 : evE cl .b it env S = .ok d S) (h2 : itemsOf d = some (xs.map enc)) (h3 : xs.length ≤ 1000)
    (h4 : ∀ x ∈ xs, evE cl .v e (env.set v (.val (enc x))) S = .ok (f x) S) : evE cl m (.comp e (.nm v) [v] it (.cst (.bool true))) env S = .ok (.list (xs.map f)) S := by
  rw [comp_run (enc := enc) (xs := xs) (g := fun x => some (f x)) h1 h2 (by omega) fun x hx => ?_, filterMap_some]
  show turnC (some ((wipeS env [v]).set v (.val (enc x)))) _ _ S = _
  rw [set_wipe]
  simp [turnC, h4 x hx]
end
theorem mulL {a b : Int} (h : -(2 ^ 64) < a ∧ a < 2 ^ 64) : binF .mul (.int a) (.int b) = some (.int (a * b)) := mul_int (.inl h)
theorem rev_key (k : Key2) : revF (encP k) = some (encP (swapK k)) := rfl
theorem add_L {a b : List Key2} (h : a.length + b.length ≤ 1000) : binF .add (.list (a.map encP)) (.list (b.map encP)) = some (.list ((a ++ b).map encP)) := by
  show (if lim ((a.map encP).length + (b.map encP).length) then some _ else none) = _
  rw [List.length_map, List.length_map, if_pos (lim_small h), List.map_append]
theorem add_T {a b : List Key2} (h : a.length + b.length ≤ 1000) : binF .add (.tuple (a.map encP)) (.tuple (b.map encP)) = some (.tuple ((a ++ b).map encP)) := by
  show (if lim ((a.map encP).length + (b.map encP).length) then some _ else none) = _
  rw [List.length_map, List.length_map, if_pos (lim_small h), List.map_append]
theorem add_L1 {a : List Key2} {k : Key2} (h : a.length ≤ 900) : binF .add (.list (a.map encP)) (.list [encP k]) = some (.list ((a ++ [k]).map encP)) := add_L (b := [k]) (by simp; omega)
theorem add_T1 {a : List Key2} {k : Key2} (h : a.length ≤ 900) : binF .add (.tuple (a.map encP)) (.tuple [encP k]) = some (.tuple ((a ++ [k]).map encP)) := add_T (b := [k]) (by simp; omega)
theorem at_keys {ks : List Key2} {j : Nat} (h : j < ks.length) : getF (.tuple (ks.map encP)) (.int j) = some (encP ks[j]) := atT (by rw [List.getElem?_map, List.getElem?_eq_getElem h]; rfl)
theorem at_keysL {ks : List Key2} {j : Nat} (h : j < ks.length) : getF (.list (ks.map encP)) (.int j) = some (encP ks[j]) := atL (by rw [List.getElem?_map, List.getElem?_eq_getElem h]; rfl)
/-! ### more of what is seen -/
theorem LedR.trans {ds pr : List Key2} {a b c : Int} (h : LedR ds pr a b) (h' : LedR ds pr b c) : LedR ds pr a c := by
  induction h' with
  | here => exact h
  | on _ h1 h2 h3 ih => exact .on ih h1 h2 h3
theorem mem_swap2 {l : List Key2} {a b : Int} : (a, b) ∈ l.map swapK ↔ (b, a) ∈ l := mem_swap (k := (a, b))
theorem led_swap1 {l : List Key2} {r0 r : Int} (h : LedR [] l r0 r) : ∀ {c : Int}, (r, c) ∈ l → ∃ c', LedR [] (l.map swapK) c c' ∧ (r0, c') ∈ l := by
  induction h with
  | here => exact fun {c} hc => ⟨c, .here, hc⟩
  | on _ h1 h2 _ ih =>
    intro c hc
    obtain ⟨c', q1, q2⟩ := ih h1
    refine ⟨c', LedR.trans (.on .here (mem_swap2.mpr hc) (mem_swap2.mpr h2) (by simp)) q1, q2⟩
theorem led_swap {l : List Key2} {k : Key2} : Led [] (l.map swapK) (swapK k) ↔ Led [] l k := by
  have go : ∀ {l : List Key2} {k : Key2}, Led [] l k → Led [] (l.map swapK) (swapK k) := fun {l k} h => by
    obtain ⟨r, h1, h2⟩ := h
    obtain ⟨c', q1, q2⟩ := led_swap1 h1 h2
    exact ⟨c', q1, mem_swap2.mpr q2⟩
  refine ⟨fun h => ?_, go⟩
  have := go h
  rw [List.map_map, show swapK ∘ swapK = id from funext fun k => rfl, List.map_id] at this
  exact this
theorem In4.swap {l : List Key2} (h : In4 l) : In4 (l.map swapK) := fun k hk => by
  have := h _ (mem_swap.mp hk)
  unfold swapK at this
  simp only at this
  omega
theorem seen_swap {l : List Key2} (h : In4 l) : seenK [] (l.map swapK) = sortK ((seenK [] l).map swapK) := by
  refine (seenK_is h.swap (sortK_up (nodup_map (fun a b => swap_inj) (up_nodup (seenK_up _ _)))) fun k => ?_).symm
  rw [mem_sortK, mem_swap, mem_seenK h, ← led_swap, swap_swap]
theorem seen_all {ds l : List Key2} (h : In4 l) (hd : ∀ k ∈ l, k ∈ ds) : seenK ds l = setP l :=
  (seenK_is h (setP_up l) fun k => by rw [led_all hd, setP_mem]).symm
theorem led_nil {ds : List Key2} {k : Key2} : ¬ Led ds [] k := fun h => by
  obtain ⟨r, hr⟩ := h.col
  cases hr
theorem seen_nil (ds : List Key2) : seenK ds [] = [] :=
  (seenK_is (fun k h => by cases h) .nil fun k => ⟨fun h => (by cases h), fun h => absurd h led_nil⟩).symm
end Mini
/-! Lists of lists of keys: their order, all sets. -/
namespace Mini
open PySem L2
/-! ### any order -/
section
variable {α : Type} {lt : α → α → Bool}
theorem upG_unique (irr : ∀ a, lt a a = false) (tr : ∀ a b c, lt a b = true → lt b c = true → lt a c = true) : ∀ {xs ys : List α}, xs.Pairwise (fun a b => lt a b = true) → ys.Pairwise (fun a b => lt a b = true) → (∀ q, q ∈ xs ↔ q ∈ ys) → xs = ys
  | [], [], _, _, _ => rfl
  | [], y :: r, _, _, h => absurd ((h y).mpr List.mem_cons_self) (by simp)
  | x :: r, [], _, _, h => absurd ((h x).mp List.mem_cons_self) (by simp)
  | x :: r, y :: t, hx, hy, h => by
    have hx' := List.pairwise_cons.mp hx
    have hy' := List.pairwise_cons.mp hy
    have e : x = y := by
      rcases List.mem_cons.mp ((h x).mp List.mem_cons_self) with q | q
      · exact q
      · rcases List.mem_cons.mp ((h y).mpr List.mem_cons_self) with q' | q'
        · exact q'.symm
        · have a := hx'.1 y q'
          have b := hy'.1 x q
          have := tr _ _ _ a b
          rw [irr] at this
          cases this
    subst e
    refine congrArg (x :: ·) (upG_unique irr tr hx'.2 hy'.2 fun q => ⟨fun hq => ?_, fun hq => ?_⟩)
    · rcases List.mem_cons.mp ((h q).mp (List.mem_cons_of_mem _ hq)) with z | z
      · have := hx'.1 q hq
        rw [z, irr] at this
        cases this
      · exact z
    · rcases List.mem_cons.mp ((h q).mpr (List.mem_cons_of_mem _ hq)) with z | z
      · have := hy'.1 q hq
        rw [z, irr] at this
        cases this
      · exact z
theorem sortG_up (tr : ∀ a b c, lt a b = true → lt b c = true → lt a c = true) (irr : ∀ a, lt a a = false) (tri : ∀ a b, a ≠ b → lt a b = false → lt b a = true) {xs : List α} (h : xs.Nodup) : (xs.mergeSort fun a b => !lt b a).Pairwise (fun a b => lt a b = true) := by
  have h1 : (xs.mergeSort fun a b => !lt b a).Pairwise (fun a b => (!lt b a) = true) := by
    refine List.pairwise_mergeSort (fun a b c q1 q2 => ?_) (fun a b => ?_) xs
    · cases e : lt c a with
      | false => rfl
      | true =>
        have q1 : lt b a = false := by simpa using q1
        have q2 : lt c b = false := by simpa using q2
        by_cases h : a = b
        · subst h
          rw [e] at q2
          cases q2
        · have := tri b a (Ne.symm h) q1
          have := tr _ _ _ e this
          rw [q2] at this
          cases this
    · cases e : lt b a with
      | false => rfl
      | true =>
        cases e2 : lt a b with
        | false => rfl
        | true =>
          have := tr _ _ _ e e2
          rw [irr] at this
          cases this
  have h2 : (xs.mergeSort fun a b => !lt b a).Nodup := (List.mergeSort_perm _ _).nodup_iff.mpr h
  refine (h1.and h2).imp fun {a b} q => ?_
  have q1 : lt b a = false := by simpa using q.1
  exact tri b a (Ne.symm q.2) q1
end
/-! ### lists of keys -/
def ltS : List Key2 → List Key2 → Bool
  | [], [] => false
  | [], _ :: _ => true
  | _ :: _, [] => false
  | x :: r, y :: t => if x = y then ltS r t else ltP x y
theorem ltS_irr : ∀ a, ltS a a = false
  | [] => rfl
  | x :: r => by
    unfold ltS
    rw [if_pos rfl]
    exact ltS_irr r
theorem ltS_trans : ∀ a b c, ltS a b = true → ltS b c = true → ltS a c = true
  | [], [], _, h, _ => by cases h
  | _ :: _, [], _, h, _ => by cases h
  | [], _ :: _, [], _, h => by cases h
  | [], _ :: _, _ :: _, _, _ => rfl
  | _ :: _, _ :: _, [], _, h => by cases h
  | x :: r, y :: t, z :: u, h1, h2 => by
    unfold ltS at h1 h2 ⊢
    split at h1
    · rename_i e
      subst e
      split at h2
      · rename_i e
        subst e
        rw [if_pos rfl]
        exact ltS_trans r t u h1 h2
      · rename_i e
        rw [if_neg e]
        exact h2
    · rename_i e
      split at h2
      · rename_i e2
        subst e2
        rw [if_neg e]
        exact h1
      · have q := ltP_trans h1 h2
        rw [if_neg]
        · exact q
        · rintro rfl
          rw [ltP_irr] at q
          cases q
theorem ltS_tri : ∀ a b, a ≠ b → ltS a b = false → ltS b a = true
  | [], [], h, _ => absurd rfl h
  | [], _ :: _, _, h => by cases h
  | _ :: _, [], _, _ => rfl
  | x :: r, y :: t, h, h1 => by
    unfold ltS at h1 ⊢
    split at h1
    · rename_i e
      subst e
      rw [if_pos rfl]
      exact ltS_tri r t (fun z => h (by rw [z])) h1
    · rename_i e
      rw [if_neg (Ne.symm e)]
      exact ltP_tri e h1
def encT (s : List Key2) : D := .tuple (s.map encP)
def encLs (s : List Key2) : D := .list (s.map encP)
theorem alike_encP (a b : Key2) : W.alike (encP a) (encP b) = true := by simp [encP, W.alike, W.alikeAll]
theorem alike_keys : ∀ a b : List Key2, W.alikeAll (a.map encP) (b.map encP) = true
  | [], _ => by simp [W.alikeAll]
  | _ :: _, [] => by simp [W.alikeAll]
  | x :: r, y :: t => by
    show W.alikeAll (encP x :: r.map encP) (encP y :: t.map encP) = true
    rw [W.alikeAll, alike_keys r t, alike_encP]
    rfl
theorem rowLt_keys : ∀ a b : List Key2, PyProof.Rows.lexLt PyProof.Rows.itemOrd (W.keyToksAll (a.map encP)) (W.keyToksAll (b.map encP)) = ltS a b
  | [], [] => PyProof.Rows.lex_irrefl _
  | [], y :: t => by
    show PyProof.Rows.lexLt PyProof.Rows.itemOrd (W.keyToksAll []) (W.keyToksAll (encP y :: t.map encP)) = true
    rw [W.toks_all_cons]
    rfl
  | x :: r, [] => by
    show PyProof.Rows.lexLt PyProof.Rows.itemOrd (W.keyToksAll (encP x :: r.map encP)) (W.keyToksAll []) = false
    rw [W.toks_all_cons]
    rfl
  | x :: r, y :: t => by
    show PyProof.Rows.lexLt PyProof.Rows.itemOrd (W.keyToksAll (encP x :: r.map encP)) (W.keyToksAll (encP y :: t.map encP)) = _
    rw [W.dataLt_cons (alike_encP x y), rowLt_keys r t, eqv_encP, (lt_encP x y).2]
    have e : ltS (x :: r) (y :: t) = if x = y then ltS r t else ltP x y := by rw [ltS]
    rw [e]
    by_cases h : x = y <;> simp [h]
theorem dataLt_encT (a b : List Key2) : W.dataLt (encT a) (encT b) = ltS a b := by
  unfold encT
  rw [W.dataLt_tuple, rowLt_keys]
theorem dataLt_encL (a b : List Key2) : W.dataLt (encLs a) (encLs b) = ltS a b := by
  unfold encLs
  rw [W.dataLt_list, rowLt_keys]
theorem pure_encT (a : List Key2) : pure1 (encT a) = true := pure_tup a
theorem pure_encL (a : List Key2) : pure1 (encLs a) = true := pure_lst a
theorem alikes_encT (xs : List (List Key2)) : alikes (xs.map encT) = true := by
  unfold alikes
  rw [Bool.and_eq_true, Bool.or_eq_true]
  refine ⟨List.all_eq_true.mpr fun x hx => ?_, .inl (List.all_eq_true.mpr fun x hx => ?_)⟩
  · obtain ⟨p, _, rfl⟩ := List.mem_map.mp hx
    rw [Bool.and_eq_true, Bool.and_eq_true]
    refine ⟨⟨pure_encT p, rfl⟩, List.all_eq_true.mpr fun y hy => ?_⟩
    obtain ⟨q, _, rfl⟩ := List.mem_map.mp hy
    unfold encT
    rw [W.alike, alike_keys]
  · obtain ⟨p, _, rfl⟩ := List.mem_map.mp hx
    rfl
theorem alikes_encL (xs : List (List Key2)) : alikes (xs.map encLs) = true := by
  unfold alikes
  rw [Bool.and_eq_true, Bool.or_eq_true]
  refine ⟨List.all_eq_true.mpr fun x hx => ?_, .inr (List.all_eq_true.mpr fun x hx => ?_)⟩
  · obtain ⟨p, _, rfl⟩ := List.mem_map.mp hx
    rw [Bool.and_eq_true, Bool.and_eq_true]
    refine ⟨⟨pure_encL p, rfl⟩, List.all_eq_true.mpr fun y hy => ?_⟩
    obtain ⟨q, _, rfl⟩ := List.mem_map.mp hy
    unfold encLs
    rw [W.alike, alike_keys]
  · obtain ⟨p, _, rfl⟩ := List.mem_map.mp hx
    rfl
def sortS (xs : List (List Key2)) : List (List Key2) := xs.mergeSort fun a b => !ltS b a
abbrev UpS (xs : List (List Key2)) : Prop := xs.Pairwise (fun a b => ltS a b = true)
theorem sortS_up {xs : List (List Key2)} (h : xs.Nodup) : UpS (sortS xs) := sortG_up ltS_trans ltS_irr ltS_tri h
theorem sortS_perm (xs : List (List Key2)) : (sortS xs).Perm xs := List.mergeSort_perm _ _
theorem mem_sortS {xs : List (List Key2)} {s : List Key2} : s ∈ sortS xs ↔ s ∈ xs := (sortS_perm xs).mem_iff
theorem upS_unique {xs ys : List (List Key2)} (h1 : UpS xs) (h2 : UpS ys) (h : ∀ q, q ∈ xs ↔ q ∈ ys) : xs = ys := upG_unique ltS_irr ltS_trans h1 h2 h
theorem upS_nodup {xs : List (List Key2)} (h : UpS xs) : xs.Nodup := h.imp fun {a b} q e => by
  subst e
  rw [ltS_irr] at q
  cases q
theorem sortS_of_up {xs : List (List Key2)} (h : UpS xs) : sortS xs = xs := upS_unique (sortS_up (upS_nodup h)) h fun q => mem_sortS
theorem sortD_encT (xs : List (List Key2)) : sortD (xs.map encT) = (sortS xs).map encT := by
  rw [sortD_eq]
  unfold sortS
  rw [List.map_mergeSort (s := W.dataLe false id) (f := encT)]
  intro a _ b _
  show (!ltS b a) = !(W.dataLt (encT b) (encT a))
  rw [dataLt_encT]
theorem sortD_encL (xs : List (List Key2)) : sortD (xs.map encLs) = (sortS xs).map encLs := by
  rw [sortD_eq]
  unfold sortS
  rw [List.map_mergeSort (s := W.dataLe false id) (f := encLs)]
  intro a _ b _
  show (!ltS b a) = !(W.dataLt (encLs b) (encLs a))
  rw [dataLt_encL]
@[simp] theorem p_sortTs (xs : List (List Key2)) : primF .sorted [.list (xs.map encT)] = some (.list ((sortS xs).map encT)) := by
  show (if alikes _ then some _ else none) = _
  rw [alikes_encT, sortD_encT]
  rfl
@[simp] theorem p_sortLs (xs : List (List Key2)) : primF .sorted [.list (xs.map encLs)] = some (.list ((sortS xs).map encLs)) := by
  show (if alikes _ then some _ else none) = _
  rw [alikes_encL, sortD_encL]
  rfl
/-! ### comparing -/
theorem lay_encT : ∀ xs : List (List Key2), PyData.canLayAll0 (xs.map encT) = true ∧ PyData.depthAll (xs.map encT) ≤ 2
  | [] => by simp [PyData.canLayAll0, PyData.depthAll]
  | x :: r => by
    have ih := lay_encT r
    show PyData.canLayAll0 (encT x :: r.map encT) = true ∧ PyData.depthAll (encT x :: r.map encT) ≤ 2
    have h1 : (encT x).canLay0 = true := by unfold encT; rw [lay_tuple, lay_keys]
    have h2 : (encT x).depth ≤ 2 := by
      unfold encT
      rw [PyData.depth]
      have := depth_keys x
      omega
    rw [PyData.canLayAll0, PyData.depthAll, h1, ih.1]
    exact ⟨rfl, by omega⟩
theorem lay_encLs : ∀ xs : List (List Key2), PyData.canLayAll0 (xs.map encLs) = true ∧ PyData.depthAll (xs.map encLs) ≤ 2
  | [] => by simp [PyData.canLayAll0, PyData.depthAll]
  | x :: r => by
    have ih := lay_encLs r
    show PyData.canLayAll0 (encLs x :: r.map encLs) = true ∧ PyData.depthAll (encLs x :: r.map encLs) ≤ 2
    have h1 : (encLs x).canLay0 = true := by unfold encLs; rw [lay_list, lay_keys]
    have h2 : (encLs x).depth ≤ 2 := by
      unfold encLs
      rw [PyData.depth]
      have := depth_keys x
      omega
    rw [PyData.canLayAll0, PyData.depthAll, h1, ih.1]
    exact ⟨rfl, by omega⟩
theorem pure_Ts (xs : List (List Key2)) : pure1 (.list (xs.map encT)) = true := by
  unfold pure1 SeqAt.shaped
  rw [lay_list, (lay_encT xs).1, PyData.depth]
  have := (lay_encT xs).2
  simp
  omega
theorem pure_Ls (xs : List (List Key2)) : pure1 (.list (xs.map encLs)) = true := by
  unfold pure1 SeqAt.shaped
  rw [lay_list, (lay_encLs xs).1, PyData.depth]
  have := (lay_encLs xs).2
  simp
  omega
theorem eqv_Ts : ∀ a b : List (List Key2), PyData.eqvAll (a.map encT) (b.map encT) = decide (a = b)
  | [], [] => by simp [PyData.eqvAll]
  | [], y :: r => by simp [PyData.eqvAll]
  | x :: r, [] => by simp [PyData.eqvAll]
  | x :: r, y :: t => by
    show PyData.eqvAll (encT x :: r.map encT) (encT y :: t.map encT) = _
    rw [PyData.eqvAll, eqv_Ts r t, show PyData.eqv (encT x) (encT y) = decide (x = y) from eqv_tup x y]
    by_cases h1 : x = y <;> by_cases h2 : r = t <;> simp [h1, h2]
theorem eqv_Ls : ∀ a b : List (List Key2), PyData.eqvAll (a.map encLs) (b.map encLs) = decide (a = b)
  | [], [] => by simp [PyData.eqvAll]
  | [], y :: r => by simp [PyData.eqvAll]
  | x :: r, [] => by simp [PyData.eqvAll]
  | x :: r, y :: t => by
    show PyData.eqvAll (encLs x :: r.map encLs) (encLs y :: t.map encLs) = _
    rw [PyData.eqvAll, eqv_Ls r t, show PyData.eqv (encLs x) (encLs y) = decide (x = y) from eqv_lst x y]
    by_cases h1 : x = y <;> by_cases h2 : r = t <;> simp [h1, h2]
theorem cmp_neTs (a b : List (List Key2)) : cmpF .ne (.list (a.map encT)) (.list (b.map encT)) = some (!decide (a = b)) := by
  rw [c_ne, pure_Ts, pure_Ts, PyData.eqv, eqv_Ts]
  rfl
theorem cmp_eqTs (a b : List (List Key2)) : cmpF .eq (.list (a.map encT)) (.list (b.map encT)) = some (decide (a = b)) := by
  rw [c_eq (fun es h => by cases h), pure_Ts, pure_Ts, PyData.eqv, eqv_Ts]
  rfl
theorem cmp_neLs (a b : List (List Key2)) : cmpF .ne (.list (a.map encLs)) (.list (b.map encLs)) = some (!decide (a = b)) := by
  rw [c_ne, pure_Ls, pure_Ls, PyData.eqv, eqv_Ls]
  rfl
theorem in_Ts (xs : List (List Key2)) (s : List Key2) : isInF (encT s) (.list (xs.map encT)) = some (decide (s ∈ xs)) := by
  show (if pure1 _ && pure1 _ then some _ else none) = _
  rw [pure_encT, pure_Ts]
  have : ((xs.map encT).any fun y => PyData.eqv y (encT s)) = decide (s ∈ xs) := by
    rw [List.any_map]
    induction xs with
    | nil => rfl
    | cons x r ih =>
      rw [List.any_cons, ih, Function.comp_apply, show PyData.eqv (encT x) (encT s) = decide (x = s) from eqv_tup x s]
      by_cases h1 : x = s
      · simp [h1]
      · simp [h1, Ne.symm h1]
  rw [this]
  rfl
theorem in_Ls (xs : List (List Key2)) (s : List Key2) : isInF (encLs s) (.list (xs.map encLs)) = some (decide (s ∈ xs)) := by
  show (if pure1 _ && pure1 _ then some _ else none) = _
  rw [pure_encL, pure_Ls]
  have : ((xs.map encLs).any fun y => PyData.eqv y (encLs s)) = decide (s ∈ xs) := by
    rw [List.any_map]
    induction xs with
    | nil => rfl
    | cons x r ih =>
      rw [List.any_cons, ih, Function.comp_apply, show PyData.eqv (encLs x) (encLs s) = decide (x = s) from eqv_lst x s]
      by_cases h1 : x = s
      · simp [h1]
      · simp [h1, Ne.symm h1]
  rw [this]
  rfl
theorem cmp_inTs (xs : List (List Key2)) (s : List Key2) : cmpF .inn (encT s) (.list (xs.map encT)) = some (decide (s ∈ xs)) := in_Ts xs s
theorem cmp_ninTs (xs : List (List Key2)) (s : List Key2) : cmpF .nin (encT s) (.list (xs.map encT)) = some (!decide (s ∈ xs)) := by
  show (isInF _ _).map _ = _
  rw [in_Ts]
  rfl
theorem cmp_ninLs (xs : List (List Key2)) (s : List Key2) : cmpF .nin (encLs s) (.list (xs.map encLs)) = some (!decide (s ∈ xs)) := by
  show (isInF _ _).map _ = _
  rw [in_Ls]
  rfl
end Mini
/-! all_sets, sets_seen, must, may, is_sure. -/
namespace Mini
open PySem L2
def addS (M : List (List Key2)) (k : Key2) : List (List Key2) := M ++ M.map (· ++ [k])
def setsU (ks : List Key2) : List (List Key2) := ks.foldl addS [[]]
theorem setsU_snoc (ks : List Key2) (k : Key2) : setsU (ks ++ [k]) = addS (setsU ks) k := by
  unfold setsU
  rw [List.foldl_append]
  rfl
theorem mem_setsU {s : List Key2} : ∀ {n : Nat} {ks : List Key2}, ks.length = n → (s ∈ setsU ks ↔ s.Sublist ks)
  | 0, ks, h => by
    rw [List.length_eq_zero_iff.mp h]
    simp [setsU]
  | n + 1, ks, h => by
    rcases List.eq_nil_or_concat ks with rfl | ⟨r, k, rfl⟩
    · cases h
    · rw [List.concat_eq_append] at h ⊢
      rw [setsU_snoc, List.sublist_append_iff]
      have hr : r.length = n := by simpa using h
      unfold addS
      rw [List.mem_append, List.mem_map]
      constructor
      · rintro (q | ⟨t, q, rfl⟩)
        · exact ⟨s, [], by simp, (mem_setsU hr).mp q, List.nil_sublist _⟩
        · exact ⟨t, [k], rfl, (mem_setsU hr).mp q, List.Sublist.refl _⟩
      · rintro ⟨a, b, rfl, q1, q2⟩
        rcases (show b = [] ∨ b = [k] from by
          cases b with
          | nil => exact .inl rfl
          | cons y t =>
            have hl := q2.length_le
            have : t = [] := List.length_eq_zero_iff.mp (by simp at hl; simpa using hl)
            subst this
            have hy : y ∈ [k] := q2.subset (by simp)
            rw [List.mem_singleton.mp hy]
            exact .inr rfl) with rfl | rfl
        · left
          rw [List.append_nil]
          exact (mem_setsU hr).mpr q1
        · exact .inr ⟨a, (mem_setsU hr).mpr q1, rfl⟩
theorem setsU_len : ∀ {n : Nat} {ks : List Key2}, ks.length = n → (setsU ks).length = 2 ^ n
  | 0, ks, h => by
    rw [List.length_eq_zero_iff.mp h]
    rfl
  | n + 1, ks, h => by
    rcases List.eq_nil_or_concat ks with rfl | ⟨r, k, rfl⟩
    · cases h
    · rw [List.concat_eq_append] at h ⊢
      rw [setsU_snoc]
      have hr : r.length = n := by simpa using h
      unfold addS
      rw [List.length_append, List.length_map, setsU_len hr, Nat.pow_succ]
      omega
theorem setsU_nodup : ∀ {n : Nat} {ks : List Key2}, ks.length = n → ks.Nodup → (setsU ks).Nodup
  | 0, ks, h, _ => by
    rw [List.length_eq_zero_iff.mp h]
    simp [setsU]
  | n + 1, ks, h, hn => by
    rcases List.eq_nil_or_concat ks with rfl | ⟨r, k, rfl⟩
    · cases h
    · rw [List.concat_eq_append] at h hn ⊢
      rw [setsU_snoc]
      have hr : r.length = n := by simpa using h
      rw [List.nodup_append] at hn
      have ih := setsU_nodup hr hn.1
      unfold addS
      rw [List.nodup_append]
      refine ⟨ih, nodup_map (fun a b e => List.append_cancel_right e) ih, fun a ha b hb e => ?_⟩
      obtain ⟨t, _, rfl⟩ := List.mem_map.mp hb
      have hs := (mem_setsU hr).mp ha
      rw [e] at hs
      have hk : k ∈ r := hs.subset (by simp)
      exact hn.2.2 k hk k (by simp) rfl
def allS (ks : List Key2) : List (List Key2) := sortS (setsU ks)
theorem allS_up {ks : List Key2} (h : ks.Nodup) : UpS (allS ks) := sortS_up (setsU_nodup rfl h)
theorem mem_allS {ks s : List Key2} : s ∈ allS ks ↔ s.Sublist ks := by
  unfold allS
  rw [mem_sortS, mem_setsU rfl]
theorem allS_len {ks : List Key2} (h : ks.length ≤ 8) : (allS ks).length ≤ 256 := by
  unfold allS
  rw [(sortS_perm _).length_eq, setsU_len rfl]
  exact Nat.pow_le_pow_right (by decide) h
theorem sub_filter {s ks : List Key2} (hk : Up ks) (hs : Up s) (h : ∀ k ∈ s, k ∈ ks) : s = ks.filter fun k => decide (k ∈ s) :=
  up_unique hs (hk.filter _) fun q => by
    rw [List.mem_filter, decide_eq_true_eq]
    exact ⟨fun z => ⟨h q z, z⟩, fun z => z.2⟩
theorem sublist_iff {s ks : List Key2} (hk : Up ks) : s.Sublist ks ↔ Up s ∧ ∀ k ∈ s, k ∈ ks :=
  ⟨fun h => ⟨hk.sublist h, fun k q => h.subset q⟩, fun h => by
    rw [sub_filter hk h.1 h.2]
    exact List.filter_sublist⟩
section
variable {T : Str → Option Fn} {n m : Nat} {S : Sto}
structure TAll (T : Str → Option Fn) : Prop where
  all_sets : T "all_sets" = some f_all_sets
structure TSets (T : Str → Option Fn) : Prop where
  is_spot : T "is_spot" = some f_is_spot
  sets_seen : T "sets_seen" = some f_sets_seen
structure TSure (T : Str → Option Fn) : Prop where
  is_sure : T "is_sure" = some f_is_sure
structure TMust (T : Str → Option Fn) : Prop where
  must : T "must" = some f_must
  may : T "may" = some f_may
structure TSetsOf (T : Str → Option Fn) : Prop where
  sets_of : T "sets_of" = some f_sets_of
theorem add_encT {s : List Key2} {k : Key2} (h : s.length ≤ 100) : binF .add (encT s) (.tuple [encP k]) = some (encT (s ++ [k])) := add_T1 (by omega)
theorem setsU_small {ks s : List Key2} (h : ks.length ≤ 8) (hs : s ∈ setsU ks) : s.length ≤ 8 := Nat.le_trans ((mem_setsU rfl).mp hs).length_le h
theorem k_all {ks : List Key2} {k : Key2} (h : ks.length ≤ 8) {o0 : Sl} : evE (callF T m) .b k_all_sets_1 [o0, .own ((setsU ks).map encT), .val (encP k), .no] S = .ok (.list (((setsU ks).map (· ++ [k])).map encT)) S := by
  have hl : (setsU ks).length ≤ 256 := by
    rw [setsU_len rfl]
    exact Nat.pow_le_pow_right (by decide) h
  have q := comp_map (cl := callF T m) (S := S) (m := .b) (env := [o0, .own ((setsU ks).map encT), .val (encP k), .no]) (v := 3) (e := .bin .add (.var 3) (.tup (.cons (.var 2) .nil))) (it := .var 1) (enc := encT) (xs := setsU ks) (d := .list ((setsU ks).map encT)) (fun s => encT (s ++ [k])) (by simp) rfl (by omega) fun x hx => by
    have := setsU_small h hx
    simp [lim_small, add_encT (show x.length ≤ 100 by omega)]
  rw [List.map_map]
  exact q
theorem add_Ts {a b : List (List Key2)} (h : a.length + b.length ≤ 1000) : binF .add (.list (a.map encT)) (.list (b.map encT)) = some (.list ((a ++ b).map encT)) := by
  show (if lim ((a.map encT).length + (b.map encT).length) then some _ else none) = _
  rw [List.length_map, List.length_map, if_pos (lim_small h), List.map_append]
theorem pow8 {n : Nat} (h : n ≤ 8) : 2 ^ n ≤ 256 := Nat.pow_le_pow_right (by decide) h
theorem c_all_sets (hT : TAll T) (hn : 1 ≤ n) {d : D} {ks : List Key2} (hd : itemsOf d = some (ks.map encP)) (h : ks.length ≤ 8) : callF T n "all_sets" [d] S = .ok (.list ((allS ks).map encT)) S := by
  obtain ⟨m, rfl⟩ : ∃ m, n = m + 1 := ⟨n - 1, by omega⟩
  obtain ⟨env', e1, ⟨o2, e2⟩⟩ := for_inv (c := l_all_sets_1) (cl := callF T m) (S := S) (env := [.val d, .own [encT []], .no, .no]) (d := d) (items := ks.map encP) rfl
    (fun i env => ∃ o2, env = [.val d, .own ((setsU (ks.take i)).map encT), o2, .no]) (by simp) hd ⟨.no, rfl⟩ fun i x env hx he => by
      obtain ⟨o2, rfl⟩ := he
      obtain ⟨k, hk, rfl⟩ := map_get hx
      refine ⟨_, ?_, .val (encP k), rfl⟩
      have ht : (ks.take i).length ≤ 8 := by rw [List.length_take]; omega
      have et : ks.take (i + 1) = ks.take i ++ [k] := by rw [List.take_succ, hk]; rfl
      have hl := setsU_len (ks := ks.take i) rfl
      have hp := pow8 ht
      have q := k_all (T := T) (m := m) (S := S) (k := k) ht (o0 := .val d)
      have ad := add_Ts (a := setsU (ks.take i)) (b := (setsU (ks.take i)).map (· ++ [k])) (by rw [List.length_map]; omega)
      rw [et, setsU_snoc]
      unfold addS
      simp [-List.map_append, -List.map_map, stepF, setT, frz1, fresh, slOf, q, ad]
  rw [List.length_map, List.take_length] at e2
  have e0 : encT [] = PyData.tuple [] := rfl
  rw [e0] at e1
  rw [callF_eq hT.all_sets rfl]
  simp only [f_all_sets]
  simp [-List.map_map, fresh, slOf, lim_small, frz1, e1, e2]
  rfl
theorem c_is_spot (hT : TSets T) (hn : 1 ≤ n) (k : Key2) : callF T n "is_spot" [encP k] S = .ok (.bool true) S := by
  obtain ⟨m, rfl⟩ : ∃ m, n = m + 1 := ⟨n - 1, by omega⟩
  rw [callF_eq hT.is_spot rfl]
  have q := comp_map (cl := callF T m) (S := S) (m := .b) (env := [.val (encP k), .no]) (v := 1) (e := .and_ (.prim (.isi .int) (.cons (.var 1) .nil)) (.not_ (.prim (.isi .bool) (.cons (.var 1) .nil)))) (it := .var 0) (enc := PyData.int) (xs := [k.1, k.2]) (d := encP k) (fun _ => .bool true) (by simp) rfl (by simp) fun x _ => by simp [isiF]
  have pa : primF .all [.list ([k.1, k.2].map fun _ => PyData.bool true)] = some (.bool true) := rfl
  have i1 : isiF .tuple (encP k) = some true := rfl
  have i2 : primF .len [encP k] = some (.int 2) := rfl
  simp only [List.map_cons, List.map_nil] at q pa
  simp only [f_is_spot, k_is_spot_1]
  simp [i1, i2, q, pa]
theorem c_sets_seen (hP : TScan T) (hA : TAll T) (hT : TSets T) (hn : 3 ≤ n) {p : PadR} (h : WF p) {d : D} {l : List Key2} (hd : KSeq d l) (h4 : In4 l) (hl2 : l.length < 64) {t : List Key2} (ht : t.Sublist (p.ks.filter fun k => decide (k ∈ setP l))) (ht2 : seenK p.ds t = setP l) :
    callF T n "sets_seen" [encPad p, d] S = .ok (.list (((allS (p.ks.filter fun k => decide (k ∈ l))).filter fun s => decide (seenK p.ds s = setP l)).map encT)) S := by
  obtain ⟨m, rfl⟩ : ∃ m, n = m + 1 := ⟨n - 1, by omega⟩
  have h8 := h.k8
  have e1 : (fun k => decide (k ∈ setP l)) = fun k => decide (k ∈ l) := funext fun k => by simp only [setP_mem]
  rw [e1] at ht
  obtain ⟨fk, efk⟩ : ∃ fk, fk = p.ks.filter fun k => decide (k ∈ l) := ⟨_, rfl⟩
  rw [← efk] at ht ⊢
  have fk8 : fk.length ≤ 8 := by rw [efk]; exact Nat.le_trans (List.length_filter_le _ _) h8
  have k1 := comp_map (cl := callF T m) (S := S) (m := .b) (env := [.val (encPad p), .val d, .no, .no, .no, .no]) (v := 2) (e := .call "is_spot" (.cons (.var 2) .nil)) (it := .var 1) (enc := encP) (xs := l) (d := d) (fun _ => .bool true) (by simp) hd.it (by omega) fun x _ => by simp [c_is_spot hT (show 1 ≤ m by omega)]
  have k2 : ∀ o2 o4, evE (callF T m) .v k_sets_seen_2 [.val (encPad p), .val d, o2, .own ((setP l).map encP), o4, .no] S = .ok (.list (fk.map encP)) S := fun o2 o4 => by
    rw [efk, ← e1]
    exact comp_filter (v := 5) (xs := p.ks) (d := .tuple (p.ks.map encP)) _ (by simp) (by simp) rfl (by omega) fun x _ => by simp
  have ss := hd.sset (small4 h4) hl2
  obtain ⟨A, eA⟩ : ∃ A, A = allS fk := ⟨_, rfl⟩
  have Al : A.length ≤ 256 := by rw [eA]; exact allS_len fk8
  have al := c_all_sets (S := S) hA (show 1 ≤ m by omega) (d := .list (fk.map encP)) rfl fk8
  have k3 : ∀ o4, evE (callF T m) .f k_sets_seen_3 [.val (encPad p), .val d, .no, .own ((setP l).map encP), o4, .no] S = .ok (.list ((A.filter fun s => decide (seenK p.ds s = setP l)).map encT)) S := fun o4 => by
    unfold k_sets_seen_3
    rw [comp_run (enc := encT) (xs := A) (g := fun s => if decide (seenK p.ds s = setP l) then some (encT s) else none) (d := .list (A.map encT)) ?_ rfl (by omega) ?_]
    · rw [filterMap_if]
    · rw [eA]
      simp [k2, al]
    · intro s hs
      rw [eA, mem_allS] at hs
      have sl := hs.length_le
      have so := c_seen_of (S := S) hP (show 2 ≤ m by omega) h (pr := s) (by omega) fun k hk => by
        have := hs.subset hk
        rw [efk] at this
        exact (List.mem_filter.mp this).1
      have so : callF T m "seen_of" [encPad p, encT s] S = .ok (.list ((seenK p.ds s).map encP)) S := so
      refine turn_if ?_ ?_
      · simp [wipeS, so, cmp_eqL]
      · simp [wipeS]
  have ne : (A.filter fun s => decide (seenK p.ds s = setP l)) ≠ [] := fun e => by
    have : t ∈ A.filter fun s => decide (seenK p.ds s = setP l) := List.mem_filter.mpr ⟨by rw [eA, mem_allS]; exact ht, decide_eq_true ht2⟩
    rw [e] at this
    cases this
  have pa : primF .all [.list (l.map fun _ => PyData.bool true)] = some (.bool true) := by
    have := p_all (fun _ : Key2 => true) l
    rw [this]
    simp
  obtain ⟨R, eR⟩ : ∃ R, R = A.filter fun s => decide (seenK p.ds s = setP l) := ⟨_, rfl⟩
  rw [← eA]
  rw [← eR] at ne k3 ⊢
  have n0 : cmpF .eq (.list (R.map encT)) (.list []) = some (decide (R = [])) := cmp_eqTs R []
  rw [callF_eq hT.sets_seen rfl]
  simp only [f_sets_seen, k_sets_seen_1]
  simp only [x_seq, x_ife]
  simp [hd.lt, k1, pa, ss, fresh, slOf]
  simp [frz1, k3, slOf, lim_small, n0, ne, fresh]
  rw [show fresh k_sets_seen_3 = true from rfl]
  simp [frz1, k3, slOf, lim_small, n0, ne, fresh]
end
end Mini
/-! The sets that are seen alike; must, may, is_sure, sure_chords. -/
namespace Mini
open PySem L2
/-- all sets that are seen as these keys are -/
noncomputable def setsAs (p : PadR) (l : List Key2) : List (List Key2) := (allS p.ks).filter fun s => decide (seenK p.ds s = seenK p.ds l)
theorem setsAs_up {p : PadR} (h : WF p) (l : List Key2) : UpS (setsAs p l) := (allS_up (up_nodup h.ku)).filter _
theorem mem_setsAs {p : PadR} {l s : List Key2} : s ∈ setsAs p l ↔ s.Sublist p.ks ∧ seenK p.ds s = seenK p.ds l := by
  unfold setsAs
  rw [List.mem_filter, mem_allS, decide_eq_true_eq]
theorem setsAs_congr {p : PadR} {l l' : List Key2} (h : seenK p.ds l = seenK p.ds l') : setsAs p l = setsAs p l' := by
  unfold setsAs
  rw [h]
theorem setP_of_up {l : List Key2} (h : Up l) : setP l = l := up_unique (setP_up l) h fun q => setP_mem
theorem setP_sublist {p : PadR} (h : WF p) {l : List Key2} (hl : ∀ k ∈ l, k ∈ p.ks) : (setP l).Sublist p.ks := (sublist_iff h.ku).mpr ⟨setP_up l, setP_sub hl⟩
theorem set_in {p : PadR} (h : WF p) {l : List Key2} (hl : ∀ k ∈ l, k ∈ p.ks) : setP l ∈ setsAs p l := mem_setsAs.mpr ⟨setP_sublist h hl, seenK_set _ _⟩
theorem sub_len {p : PadR} (h : WF p) {s : List Key2} (hs : s.Sublist p.ks) : s.length ≤ 8 := Nat.le_trans hs.length_le h.k8
section
variable {T : Str → Option Fn} {n m : Nat} {S : Sto}
theorem setsAs_len {p : PadR} (h : WF p) (l : List Key2) : (setsAs p l).length ≤ 256 := Nat.le_trans (List.length_filter_le _ _) (allS_len h.k8)
theorem c_sets_as (hP : TScan T) (hA : TAll T) (hT : TSets T) (hn : 3 ≤ n) {p : PadR} (h : WF p) {d : D} {l sp : List Key2} (hd : KSeq d sp) (hl : ∀ k ∈ l, k ∈ p.ks) (hs : ∀ k, k ∈ sp ↔ k ∈ seenK p.ds l) (hsl : sp.length < 64) : callF T n "sets_seen" [encPad p, d] S = .ok (.list ((setsAs p l).map encT)) S := by
  have e : setP sp = seenK p.ds l := up_unique (setP_up sp) (seenK_up _ _) fun q => by rw [setP_mem, hs]
  have i4 : In4 sp := fun k hk => seenK_in4 _ _ k ((hs k).mp hk)
  have l4 := h.in4.sub hl
  have hsub : ∀ {s : List Key2}, s.Sublist p.ks → seenK p.ds s = seenK p.ds l → s.Sublist (p.ks.filter fun k => decide (k ∈ sp)) := fun {s} q1 q2 => by
    refine (sublist_iff (h.ku.filter _)).mpr ⟨h.ku.sublist q1, fun k hk => List.mem_filter.mpr ⟨q1.subset hk, decide_eq_true ?_⟩⟩
    rw [hs, ← q2, mem_seenK (h.in4.sub fun k hk => q1.subset hk)]
    exact led_self hk
  have q := c_sets_seen (S := S) hP hA hT hn h hd i4 hsl (t := setP l) (by
    have e1 : (fun k => decide (k ∈ setP sp)) = fun k => decide (k ∈ sp) := funext fun k => by simp only [setP_mem]
    rw [e1]
    exact hsub (setP_sublist h hl) (seenK_set _ _)) (by rw [e, seenK_set])
  rw [q]
  congr 3
  refine upS_unique ((allS_up ((up_nodup h.ku).filter _)).filter _) (setsAs_up h l) fun s => ?_
  rw [List.mem_filter, mem_allS, decide_eq_true_eq, e, mem_setsAs]
  exact ⟨fun z => ⟨z.1.trans List.filter_sublist, z.2⟩, fun z => ⟨hsub z.1 z.2, z.2⟩⟩
theorem c_is_sure (hP : TPads T) (hC : TScan T) (hA : TAll T) (hS : TSets T) (hT : TSure T) (hn : 5 ≤ n) {p : PadR} (h : WF p) {d : D} {l : List Key2} (hd : KSeq d l) (hl : ∀ k ∈ l, k ∈ p.ks) (hl2 : l.length < 64) : callF T n "is_sure" [encPad p, d] S = .ok (.bool (decide ((setsAs p l).length = 1))) S := by
  obtain ⟨m, rfl⟩ : ∃ m, n = m + 1 := ⟨n - 1, by omega⟩
  rw [callF_eq hT.is_sure rfl]
  have h8 := setP_len8 h hl
  have s1 := c_seen_of (S := S) hC (show 2 ≤ m by omega) h (pr := setP l) (by omega) (setP_sub hl)
  rw [seenK_set] at s1
  have s2 := c_sets_as (S := S) hC hA hS (show 3 ≤ m by omega) h (kseqL (seenK p.ds l)) hl (fun k => Iff.rfl) (by have := seenK_len p.ds l; omega)
  have e : decide (((setsAs p l).length : Int) = 1) = decide ((setsAs p l).length = 1) := by
    by_cases q : (setsAs p l).length = 1 <;> simp [q]
    omega
  simp only [f_is_sure]
  simp [frz1, c_look_pad hP (show 4 ≤ m by omega) h, c_keys_in hP (show 3 ≤ m by omega) h hd hl hl2, s1, s2, e]
theorem in_encT (s : List Key2) (k : Key2) : cmpF .inn (encP k) (encT s) = some (decide (k ∈ s)) := cmp_inT s k
noncomputable def mustK (p : PadR) (l : List Key2) : List Key2 := p.ks.filter fun k => (setsAs p l).all fun s => decide (k ∈ s)
noncomputable def mayK (p : PadR) (l : List Key2) : List Key2 := p.ks.filter fun k => (setsAs p l).any fun s => decide (k ∈ s)
theorem c_must (hP : TPads T) (hC : TScan T) (hA : TAll T) (hS : TSets T) (hT : TMust T) (hn : 5 ≤ n) {p : PadR} (h : WF p) {d : D} {l sp : List Key2} (hd : KSeq d sp) (hl : ∀ k ∈ l, k ∈ p.ks) (hs : ∀ k, k ∈ sp ↔ k ∈ seenK p.ds l) (hsl : sp.length < 64) : callF T n "must" [encPad p, d] S = .ok (.list ((mustK p l).map encP)) S := by
  obtain ⟨m, rfl⟩ : ∃ m, n = m + 1 := ⟨n - 1, by omega⟩
  rw [callF_eq hT.must rfl]
  have h8 := h.k8
  have s2 := c_sets_as (S := S) hC hA hS (show 3 ≤ m by omega) h hd hl hs hsl
  have sl := setsAs_len h l
  have k1 : ∀ k, evE (callF T m) .b k_must_1 [.val (encPad p), .val d, .val (.list ((setsAs p l).map encT)), .val (encP k), .no] S = .ok (.list ((setsAs p l).map fun s => .bool (decide (k ∈ s)))) S := fun k =>
    comp_map (v := 4) (enc := encT) (xs := setsAs p l) (d := .list ((setsAs p l).map encT)) _ (by simp) rfl (by omega) fun x _ => by simp [in_encT]
  have k2 : evE (callF T m) .v k_must_2 [.val (encPad p), .val d, .val (.list ((setsAs p l).map encT)), .no, .no] S = .ok (.list ((mustK p l).map encP)) S :=
    comp_filter (v := 3) (xs := p.ks) (d := .tuple (p.ks.map encP)) _ (by simp) (by simp) rfl (by omega) fun x _ => by simp [k1, p_all]
  simp only [f_must]
  simp [frz1, c_look_pad hP (show 4 ≤ m by omega) h, s2, k2, fresh, slOf]
theorem c_may (hP : TPads T) (hC : TScan T) (hA : TAll T) (hS : TSets T) (hT : TMust T) (hn : 5 ≤ n) {p : PadR} (h : WF p) {d : D} {l sp : List Key2} (hd : KSeq d sp) (hl : ∀ k ∈ l, k ∈ p.ks) (hs : ∀ k, k ∈ sp ↔ k ∈ seenK p.ds l) (hsl : sp.length < 64) : callF T n "may" [encPad p, d] S = .ok (.list ((mayK p l).map encP)) S := by
  obtain ⟨m, rfl⟩ : ∃ m, n = m + 1 := ⟨n - 1, by omega⟩
  rw [callF_eq hT.may rfl]
  have h8 := h.k8
  have s2 := c_sets_as (S := S) hC hA hS (show 3 ≤ m by omega) h hd hl hs hsl
  have sl := setsAs_len h l
  have k1 : ∀ k, evE (callF T m) .b k_may_1 [.val (encPad p), .val d, .val (.list ((setsAs p l).map encT)), .val (encP k), .no] S = .ok (.list ((setsAs p l).map fun s => .bool (decide (k ∈ s)))) S := fun k =>
    comp_map (v := 4) (enc := encT) (xs := setsAs p l) (d := .list ((setsAs p l).map encT)) _ (by simp) rfl (by omega) fun x _ => by simp [in_encT]
  have k2 : evE (callF T m) .v k_may_2 [.val (encPad p), .val d, .val (.list ((setsAs p l).map encT)), .no, .no] S = .ok (.list ((mayK p l).map encP)) S :=
    comp_filter (v := 3) (xs := p.ks) (d := .tuple (p.ks.map encP)) _ (by simp) (by simp) rfl (by omega) fun x _ => by simp [k1, p_any]
  simp only [f_may]
  simp [frz1, c_look_pad hP (show 4 ≤ m by omega) h, s2, k2, fresh, slOf]
theorem c_sets_of (hP : TPads T) (hC : TScan T) (hA : TAll T) (hS : TSets T) (hT : TSetsOf T) (hn : 5 ≤ n) {p : PadR} (h : WF p) {d : D} {l sp : List Key2} (hd : KSeq d sp) (hl : ∀ k ∈ l, k ∈ p.ks) (hs : ∀ k, k ∈ sp ↔ k ∈ seenK p.ds l) (hsl : sp.length < 64) : callF T n "sets_of" [encPad p, d] S = .ok (.list ((setsAs p l).map encT)) S := by
  obtain ⟨m, rfl⟩ : ∃ m, n = m + 1 := ⟨n - 1, by omega⟩
  rw [callF_eq hT.sets_of rfl]
  have s2 := c_sets_as (S := S) hC hA hS (show 3 ≤ m by omega) h hd hl hs hsl
  simp only [f_sets_of]
  simp [frz1, c_look_pad hP (show 4 ≤ m by omega) h, s2]
structure TSureC (T : Str → Option Fn) : Prop where
  sure_chords : T "sure_chords" = some f_sure_chords
/-- surely seen -/
def Sure (p : PadR) (s : List Key2) : Prop := ∀ t, t.Sublist p.ks → seenK p.ds t = seenK p.ds s → t = s
theorem sure_iff {p : PadR} (h : WF p) {s : List Key2} (hs : s.Sublist p.ks) : (setsAs p s).length = 1 ↔ Sure p s := by
  have hm : s ∈ setsAs p s := mem_setsAs.mpr ⟨hs, rfl⟩
  constructor
  · intro e t ht hq
    have ht : t ∈ setsAs p s := mem_setsAs.mpr ⟨ht, hq⟩
    obtain ⟨a, ea⟩ := List.length_eq_one_iff.mp e
    rw [ea] at hm ht
    rw [List.mem_singleton.mp hm, List.mem_singleton.mp ht]
  · intro q
    have := upS_unique (setsAs_up h s) (List.pairwise_singleton _ s) fun t => ⟨fun ht => ?_, fun ht => ?_⟩
    · rw [this]
      rfl
    · obtain ⟨a, b⟩ := mem_setsAs.mp ht
      rw [q t a b]
      simp
    · rw [List.mem_singleton.mp ht]
      exact hm
noncomputable def sureC (p : PadR) (many : Nat) : List (List Key2) := (allS p.ks).filter fun s => (decide (1 ≤ s.length) && decide (s.length ≤ many)) && decide ((setsAs p s).length = 1)
theorem sureC_up {p : PadR} (h : WF p) (many : Nat) : UpS (sureC p many) := (allS_up (up_nodup h.ku)).filter _
theorem mem_sureC {p : PadR} (h : WF p) {many : Nat} {s : List Key2} : s ∈ sureC p many ↔ s.Sublist p.ks ∧ 1 ≤ s.length ∧ s.length ≤ many ∧ Sure p s := by
  unfold sureC
  rw [List.mem_filter, mem_allS, Bool.and_eq_true, Bool.and_eq_true, decide_eq_true_eq, decide_eq_true_eq, decide_eq_true_eq]
  constructor
  · rintro ⟨a, ⟨b, c⟩, d⟩
    exact ⟨a, b, c, (sure_iff h a).mp d⟩
  · rintro ⟨a, b, c, d⟩
    exact ⟨a, ⟨b, c⟩, (sure_iff h a).mpr d⟩
theorem c_sure_chords (hP : TPads T) (hC : TScan T) (hA : TAll T) (hS : TSets T) (hU : TSure T) (hT : TSureC T) (hn : 6 ≤ n) {p : PadR} (h : WF p) {many : Nat} (h1 : 1 ≤ many) (h4 : many ≤ 4) : callF T n "sure_chords" [encPad p, .int many] S = .ok (.list ((sureC p many).map encT)) S := by
  obtain ⟨m, rfl⟩ : ∃ m, n = m + 1 := ⟨n - 1, by omega⟩
  rw [callF_eq hT.sure_chords rfl]
  have h8 := h.k8
  have al := c_all_sets (S := S) hA (show 1 ≤ m by omega) (d := .tuple (p.ks.map encP)) rfl h8
  have A8 := allS_len h8
  have k1 : evE (callF T m) .b k_sure_chords_1 [.val (encPad p), .val (.int many), .no] S = .ok (.list ((sureC p many).map encT)) S := by
    unfold k_sure_chords_1
    rw [comp_run (enc := encT) (xs := allS p.ks) (g := fun s => if (decide (1 ≤ s.length) && decide (s.length ≤ many)) && decide ((setsAs p s).length = 1) then some (encT s) else none) (d := .list ((allS p.ks).map encT)) ?_ rfl (by omega) ?_]
    · rw [filterMap_if]
      rfl
    · simp [al]
    · intro s hs
      have hs := mem_allS.mp hs
      have sl := sub_len h hs
      have su := c_is_sure (S := S) hP hC hA hS hU (show 5 ≤ m by omega) h (kseqT s) (fun k hk => hs.subset hk) (by omega)
      have su : callF T m "is_sure" [encPad p, encT s] S = .ok (.bool (decide ((setsAs p s).length = 1))) S := su
      have le : primF .len [encT s] = some (.int s.length) := by
        show some (PyData.int (s.map encP).length) = _
        rw [List.length_map]
      refine turn_if ?_ ?_
      · by_cases a : 1 ≤ s.length
        · have a' : (1 : Int) ≤ s.length := by omega
          by_cases b : s.length ≤ many
          · have b' : (s.length : Int) ≤ many := by omega
            simp [wipeS, le, a, a', b, b', su]
          · have b' : ¬ (s.length : Int) ≤ many := by omega
            simp [wipeS, le, a, a', b, b']
        · have a' : ¬ (1 : Int) ≤ s.length := by omega
          simp [wipeS, le, a, a']
      · simp [wipeS]
  have iw := c_is_whole (S := S) hP (show 1 ≤ m by omega) (many : Int) 1 4
  have w1 : (1 : Int) ≤ many := by omega
  have w4 : (many : Int) ≤ 4 := by omega
  simp only [f_sure_chords]
  simp [frz1, c_look_pad hP (show 4 ≤ m by omega) h, iw, w1, w4, k1, sortS_of_up (sureC_up h many)]
end
end Mini
/-! Boards: the evaluator's steps with objects, one lemma for each method. -/
namespace Mini
open PySem L2
section
variable {cl : Calls} {env : Mini.Env} {S : Sto} {m : Md}
@[simp] theorem e_meth {c : Str} {o : E} {f : Str} {as : E} : evE cl m (.meth c o f as) env S = (evE cl .b o env S).bind fun x S1 => match obOf x with
    | some n => (match S1[n]? with
      | some ob => if ob.cls = c ∧ ob.fs.lookup f = none then (evE cl .v as env S1).bind fun d S2 => (match d with
        | .tuple xs => cl (mName c f) (x :: xs) S2
        | _ => .no) else .no
      | none => .no)
    | none => .no := by rw [evE] <;> rfl
@[simp] theorem e_fld {c : Str} {o : E} {f : Str} : evE cl m (.fld c o f) env S = (evE cl .b o env S).bind fun x S1 => match fieldAt S1 x c f with
    | some (.val d) => .ok d S1
    | _ => .no := by rw [evE] <;> rfl
@[simp] theorem e_new {c : Str} {as : E} : evE cl m (.new c as) env S = (evE cl .v as env S).bind fun d S1 => match d with
    | .tuple xs => (match cl (mName c "__init__") (objD S1.length :: xs) (S1 ++ [⟨c, []⟩]) with
      | .ok .none S2 => .ok (objD S1.length) S2
      | .ex x S2 => .ex x S2
      | _ => .no)
    | _ => .no := by rw [evE] <;> rfl
@[simp] theorem e_told {a : E} : evE cl m (.told a) env S = match evE cl .v a env S with
    | .ok d S1 => .ok d S1
    | .ex c S1 => (match toldT.lookup c with
      | some w => .ok (.str w) S1
      | none => .no)
    | .no => .no := by rw [evE] <;> rfl
@[simp] theorem e_fNil {c : Str} {i : Nat} {f : Str} : evE cl m (.fNil c i f) env S = match fieldI env S c i f with
    | some (.own xs) => if pure1 (.list xs) then .ok (.bool xs.isEmpty) S else .no
    | _ => .no := by rw [evE] <;> rfl
@[simp] theorem e_fLen {c : Str} {i : Nat} {f : Str} : evE cl m (.fLen c i f) env S = match fieldI env S c i f with
    | some (.own xs) => .ok (.int xs.length) S
    | _ => .no := by rw [evE] <;> rfl
@[simp] theorem e_fList {c : Str} {i : Nat} {f : Str} : evE cl m (.fList c i f) env S = match fieldI env S c i f with
    | some (.own xs) => .ok (.list xs) S
    | some (.ownD _ es) => .ok (.list (es.map (·.1))) S
    | _ => .no := by rw [evE] <;> rfl
@[simp] theorem x_fset {c : Str} {i : Nat} {f : Str} {e : E} : exS cl (.fset c i f e) env S = RS.ofE env (evE cl (if fresh e then .f else .v) e env S) fun d S1 => match slotD env i with
    | some x => (match obOf x with
      | some n => (match S1[n]? with
        | some ob => if ob.cls = c ∧ ob.fs.length < 1000 then .nx env (setFld S1 n f (slOf (fresh e) d)) else .no
        | none => .no)
      | none => .no)
    | none => .no := by rw [exS] <;> rfl
@[simp] theorem x_fapp {c : Str} {i j : Nat} {f g : Str} : exS cl (.fapp c i f j g) env S = match slotD env i, slotD env j, fieldI env S c i f, fieldI env S c i g with
    | some x, some y, some (.own xs), some (.val z) => (match obOf x with
      | some n => if lim xs.length then .nx env (setFld S n f (.own (xs ++ [.tuple [y, z]]))) else .no
      | none => .no)
    | _, _, _, _ => .no := by rw [exS] <;> rfl
@[simp] theorem x_fpop2 {c : Str} {k l i : Nat} {f : Str} : exS cl (.fpop2 c k l i f) env S = match slotD env i, fieldI env S c i f with
    | some x, some (.own xs) => (match obOf x, xs.getLast? with
      | some n, some d => (match setT (.tp [k, l]) d env with
        | some env1 => .nx env1 (setFld S n f (.own xs.dropLast))
        | none => .no)
      | _, _ => .no)
    | _, _ => .no := by rw [exS] <;> rfl
end
@[simp] theorem obOf_objD (n : Nat) : obOf (objD n) = some n := rfl
/-- a board, by its slots -/
def obj3 (a b c : Sl) : Ob := ⟨"Board", [("now", a), ("past", b), ("later", c)]⟩
section
variable {S : Sto} {i : Nat} {a b c v : Sl}
@[simp] theorem obj3_cls : (obj3 a b c).cls = "Board" := rfl
@[simp] theorem obj3_len : (obj3 a b c).fs.length = 3 := rfl
theorem fa_now (h : S[i]? = some (obj3 a b c)) : fieldAt S (objD i) "Board" "now" = some a := by
  unfold fieldAt
  rw [obOf_objD]
  simp only [h]
  kernel_rfl
theorem fa_past (h : S[i]? = some (obj3 a b c)) : fieldAt S (objD i) "Board" "past" = some b := by
  unfold fieldAt
  rw [obOf_objD]
  simp only [h]
  kernel_rfl
theorem fa_later (h : S[i]? = some (obj3 a b c)) : fieldAt S (objD i) "Board" "later" = some c := by
  unfold fieldAt
  rw [obOf_objD]
  simp only [h]
  kernel_rfl
theorem sf_now (h : S[i]? = some (obj3 a b c)) : setFld S i "now" v = S.set i (obj3 v b c) := by
  unfold setFld
  simp only [h]
  kernel_rfl
theorem sf_past (h : S[i]? = some (obj3 a b c)) : setFld S i "past" v = S.set i (obj3 a v c) := by
  unfold setFld
  simp only [h]
  kernel_rfl
theorem sf_later (h : S[i]? = some (obj3 a b c)) : setFld S i "later" v = S.set i (obj3 a b v) := by
  unfold setFld
  simp only [h]
  kernel_rfl
theorem set_at {x y : Ob} (h : S[i]? = some x) : (S.set i y)[i]? = some y := List.getElem?_set_self (List.getElem?_eq_some_iff.mp h).1
theorem set_self {x : Ob} (h : S[i]? = some x) : S.set i x = S := by
  obtain ⟨h1, h2⟩ := List.getElem?_eq_some_iff.mp h
  rw [← h2]
  exact List.set_getElem_self h1
theorem fI {env : Mini.Env} {f : Str} {d : D} {j : Nat} (h : env[j]? = some (.val d)) : fieldI env S "Board" j f = fieldAt S d "Board" f := by
  unfold fieldI slotD
  rw [h]
end
/-! ### loops that change the store -/
theorem forL_invS {f : D → Mini.Env → Sto → RS} (P : Nat → Mini.Env → Sto → Prop) : ∀ {xs : List D} {env : Mini.Env} {S : Sto} (k : Nat), P k env S → (∀ (i : Nat) x env S, xs[i]? = some x → P (k + i) env S → ∃ env' S', (f x env S = .nx env' S' ∨ f x env S = .ct env' S') ∧ P (k + i + 1) env' S') → ∃ env' S', forL f xs env S = .nx env' S' ∧ P (k + xs.length) env' S'
  | [], env, S, k, h0, _ => ⟨env, S, rfl, h0⟩
  | x :: r, env, S, k, h0, hs => by
    obtain ⟨e1, S1, h1, p1⟩ := hs 0 x env S rfl h0
    obtain ⟨e2, S2, h2, p2⟩ := forL_invS P (xs := r) (k + 1) p1 fun i y env' S' hi hp => by
      have q := hs (i + 1) y env' S' (by simpa using hi) (by rw [show k + (i + 1) = k + 1 + i by omega]; exact hp)
      rw [show k + (i + 1) + 1 = k + 1 + i + 1 by omega] at q
      exact q
    refine ⟨e2, S2, ?_, by rw [List.length_cons, show k + (r.length + 1) = k + 1 + r.length by omega]; exact p2⟩
    unfold forL
    rcases h1 with h1 | h1 <;> rw [h1] <;> exact h2
theorem for_invS {cl : Calls} {env : Mini.Env} {S S1 : Sto} {c : C} {t : Tg} {it : E} {b : C} {d : D} {items : List D} (hc : c = .for_ t it b) (P : Nat → Mini.Env → Sto → Prop) (h1 : evE cl .v it env S = .ok d S1) (h2 : itemsOf d = some items) (h0 : P 0 env S1)
    (hs : ∀ (i : Nat) x env1 S1, items[i]? = some x → P i env1 S1 → ∃ env' S', (stepF cl t b x env1 S1 = .nx env' S' ∨ stepF cl t b x env1 S1 = .ct env' S') ∧ P (i + 1) env' S') : ∃ env' S', exS cl c env S = .nx env' S' ∧ P items.length env' S' := by
  obtain ⟨env', S', e1, e2⟩ := forL_invS (f := stepF cl t b) P (xs := items) (env := env) (S := S1) 0 h0 fun i x env1 S1 hx hp => by
    rw [Nat.zero_add] at hp ⊢
    exact hs i x env1 S1 hx hp
  rw [Nat.zero_add] at e2
  refine ⟨env', S', ?_, e2⟩
  rw [hc, x_for, h1, ofE_ok]
  simp only [h2]
  exact e1
theorem whlL_invS {c : Mini.Env → Sto → Res D} {f : Mini.Env → Sto → RS} (P : Nat → Mini.Env → Sto → Prop) (hs : ∀ n env S, P n env S → c env S = .ok (.bool false) S ∨ (c env S = .ok (.bool true) S ∧ ∃ env' S' m, f env S = .nx env' S' ∧ m < n ∧ P m env' S')) :
    ∀ (fuel n : Nat) (env : Mini.Env) (S : Sto), P n env S → n < fuel → ∃ env' S' m, whlL c f fuel env S = .nx env' S' ∧ P m env' S' ∧ c env' S' = .ok (.bool false) S'
  | 0, n, env, S, _, h => by omega
  | fuel + 1, n, env, S, hp, h => by
    unfold whlL
    rcases hs n env S hp with h1 | ⟨h1, env', S', m, h2, h3, h4⟩
    · refine ⟨env, S, n, ?_, hp, h1⟩
      rw [h1]
      rfl
    · obtain ⟨env2, S2, m2, e1, e2, e3⟩ := whlL_invS P hs fuel m env' S' h4 (by omega)
      refine ⟨env2, S2, m2, ?_, e2, e3⟩
      rw [h1]
      simp only [RS.ofE, h2]
      exact e1
theorem whl_invS {cl : Calls} {env : Mini.Env} {S : Sto} {w : C} {c : E} {b : C} (hw : w = .whl c b) (P : Nat → Mini.Env → Sto → Prop) {n : Nat} (h0 : P n env S) (hn : n < 100000)
    (hs : ∀ n env S, P n env S → evE cl .b c env S = .ok (.bool false) S ∨ (evE cl .b c env S = .ok (.bool true) S ∧ ∃ env' S' m, exS cl b env S = .nx env' S' ∧ m < n ∧ P m env' S')) :
    ∃ env' S' m, exS cl w env S = .nx env' S' ∧ P m env' S' ∧ evE cl .b c env' S' = .ok (.bool false) S' := by
  rw [hw, x_whl]
  exact whlL_invS P hs 100000 n env S h0 hn
/-! ### comparing a thing with itself -/
mutual
theorem eqv_refl : ∀ d : D, d.canLay0 = true → PyData.eqv d d = true
  | .none, _ => by simp [PyData.eqv]
  | .bool _, _ => by simp [PyData.eqv]
  | .int _, _ => by simp [PyData.eqv]
  | .str _, _ => by simp [PyData.eqv]
  | .list xs, h => by
    rw [PyData.eqv]
    exact eqvAll_refl xs (by rw [lay_list] at h; exact h)
  | .tuple xs, h => by
    rw [PyData.eqv]
    exact eqvAll_refl xs (by rw [lay_tuple] at h; exact h)
  | .dict es, h => by simp [PyData.canLay0] at h
theorem eqvAll_refl : ∀ xs : List D, PyData.canLayAll0 xs = true → PyData.eqvAll xs xs = true
  | [], _ => by simp [PyData.eqvAll]
  | x :: r, h => by
    rw [PyData.canLayAll0, Bool.and_eq_true] at h
    rw [PyData.eqvAll, eqv_refl x h.1, eqvAll_refl r h.2]
    rfl
end
theorem pure_lay {d : D} (h : pure1 d = true) : d.canLay0 = true := by
  unfold pure1 SeqAt.shaped at h
  rw [Bool.and_eq_true] at h
  exact h.1
theorem ne_same {d : D} (h : pure1 d = true) : cmpF .ne d d = some false := by
  rw [c_ne, h, eqv_refl d (pure_lay h)]
  rfl
theorem eq_same {d : D} (h : pure1 d = true) : cmpF .eq d d = some true := by
  rw [c_eq (fun es e => by
    have := pure_lay h
    rw [e] at this
    simp [PyData.canLay0] at this), h, eqv_refl d (pure_lay h)]
  rfl
/-! ### what a board has -/
abbrev nowD (p : PadR) (hs : List Key2) : D := .tuple [encPad p, .tuple (hs.map encP)]
inductive Way where
  | press | lift | wire
def Way.s : Way → Str
  | .press => "press"
  | .lift => "lift"
  | .wire => "wire"
theorem Way.ok (w : Way) : PyData.strOk w.s = true := by cases w <;> kernel_rfl
structure Stp where
  w : Way
  p : PadR
  hs : List Key2
def encW (s : Stp) : D := .tuple [.str s.w.s, nowD s.p s.hs]
def brd (p : PadR) (hs : List Key2) (past later : List Stp) : Ob := obj3 (.val (nowD p hs)) (.own (past.map encW)) (.own (later.map encW))
theorem lay_encPad (p : PadR) : (encPad p).canLay0 = true := by
  simp [encPad, PyData.canLay0, PyData.canLayAll0, lay_keys]
theorem depth_encPad (p : PadR) : (encPad p).depth ≤ 3 := by
  have h1 := depth_keys p.ks
  have h2 := depth_keys p.ds
  simp only [encPad, PyData.depth, PyData.depthAll]
  omega
theorem lay_nowD (p : PadR) (hs : List Key2) : (nowD p hs).canLay0 = true := by
  simp [nowD, PyData.canLay0, PyData.canLayAll0, lay_keys, lay_encPad]
theorem depth_nowD (p : PadR) (hs : List Key2) : (nowD p hs).depth ≤ 4 := by
  have h1 := depth_encPad p
  have h2 := depth_keys hs
  simp only [nowD, PyData.depth, PyData.depthAll]
  omega
theorem lay_encW (s : Stp) : (encW s).canLay0 = true := by
  simp [encW, PyData.canLay0, PyData.canLayAll0, lay_keys, lay_encPad, s.w.ok]
theorem depth_encW (s : Stp) : (encW s).depth ≤ 5 := by
  have h1 := depth_nowD s.p s.hs
  simp only [encW, PyData.depth, PyData.depthAll] at h1 ⊢
  omega
theorem lay_Ws : ∀ ss : List Stp, PyData.canLayAll0 (ss.map encW) = true
  | [] => by simp [PyData.canLayAll0]
  | k :: r => by
    show PyData.canLayAll0 (encW k :: r.map encW) = true
    rw [PyData.canLayAll0, Bool.and_eq_true]
    exact ⟨lay_encW k, lay_Ws r⟩
theorem depth_Ws : ∀ ss : List Stp, PyData.depthAll (ss.map encW) ≤ 5
  | [] => by simp [PyData.depthAll]
  | k :: r => by
    show PyData.depthAll (encW k :: r.map encW) ≤ 5
    have := depth_Ws r
    have := depth_encW k
    rw [PyData.depthAll]
    omega
theorem pure_Ws (ss : List Stp) : pure1 (.list (ss.map encW)) = true := by
  unfold pure1 SeqAt.shaped
  rw [lay_list, lay_Ws, PyData.depth]
  have := depth_Ws ss
  simp
  omega
theorem pure_nowD (p : PadR) (hs : List Key2) : pure1 (nowD p hs) = true := by
  unfold pure1 SeqAt.shaped
  rw [lay_nowD]
  have := depth_nowD p hs
  simp
  omega
theorem pure_encPad (p : PadR) : pure1 (encPad p) = true := by
  unfold pure1 SeqAt.shaped
  rw [lay_encPad]
  have := depth_encPad p
  simp
  omega
end Mini
/-! Scanners: the evaluator's steps with dicts in fields, reading and telling. -/
namespace Mini
open PySem L2
section
variable {cl : Calls} {env : Mini.Env} {S : Sto} {m : Md}
@[simp] theorem e_fIn {c : Str} {j i : Nat} {f : Str} : evE cl m (.fIn c j i f) env S = match slotD env j, fieldI env S c i f with
    | some k, some (.ownD t es) => if hasKey t k then .ok (.bool (es.any fun p => PyData.eqv p.1 k)) S else .no
    | _, _ => .no := by rw [evE] <;> rfl
@[simp] theorem e_fIx {c : Str} {j i : Nat} {f : Str} : evE cl m (.fIx c i f j) env S = match slotD env j, fieldI env S c i f with
    | some k, some (.ownD t es) => if hasKey t k then ofO ((es.find? fun p => PyData.eqv p.1 k).map (·.2)) S else .no
    | _, _ => .no := by rw [evE] <;> rfl
@[simp] theorem e_fGet {c : Str} {j i : Nat} {f : Str} {d : D} : evE cl m (.fGet c i f j d) env S = match slotD env j, fieldI env S c i f with
    | some k, some (.ownD t es) => if hasKey t k then .ok (((es.find? fun p => PyData.eqv p.1 k).map (·.2)).getD d) S else .no
    | _, _ => .no := by rw [evE] <;> rfl
@[simp] theorem x_fput {c : Str} {i j : Nat} {f : Str} {e : E} : exS cl (.fput c i f j e) env S = RS.ofE env (evE cl .v e env S) fun d S1 => match slotD env i, slotD env j, fieldI env S1 c i f with
    | some x, some k, some (.ownD t es) => (match obOf x with
      | some n => if lim es.length && hasKey t k then .nx env (setFld S1 n f (.ownD t (putD es k d))) else .no
      | none => .no)
    | _, _, _ => .no := by rw [exS] <;> rfl
@[simp] theorem x_fdel {c : Str} {i j : Nat} {f : Str} : exS cl (.fdel c i f j) env S = match slotD env i, slotD env j, fieldI env S c i f with
    | some x, some k, some (.ownD t es) => (match obOf x with
      | some n => if hasKey t k && es.any (fun p => PyData.eqv p.1 k) then .nx env (setFld S n f (.ownD t (es.filter fun p => !PyData.eqv p.1 k))) else .no
      | none => .no)
    | _, _, _ => .no := by rw [exS] <;> rfl
end
/-- a scanner, by its slots -/
def obj5 (a b c d e : Sl) : Ob := ⟨"Scanner", [("pad", a), ("rules", b), ("since", c), ("runs", d), ("scans", e)]⟩
section
variable {S : Sto} {i : Nat} {a b c d e v : Sl}
@[simp] theorem obj5_cls : (obj5 a b c d e).cls = "Scanner" := rfl
@[simp] theorem obj5_len : (obj5 a b c d e).fs.length = 5 := rfl
theorem ga_pad (h : S[i]? = some (obj5 a b c d e)) : fieldAt S (objD i) "Scanner" "pad" = some a := by
  unfold fieldAt
  rw [obOf_objD]
  simp only [h]
  kernel_rfl
theorem ga_rules (h : S[i]? = some (obj5 a b c d e)) : fieldAt S (objD i) "Scanner" "rules" = some b := by
  unfold fieldAt
  rw [obOf_objD]
  simp only [h]
  kernel_rfl
theorem ga_since (h : S[i]? = some (obj5 a b c d e)) : fieldAt S (objD i) "Scanner" "since" = some c := by
  unfold fieldAt
  rw [obOf_objD]
  simp only [h]
  kernel_rfl
theorem ga_runs (h : S[i]? = some (obj5 a b c d e)) : fieldAt S (objD i) "Scanner" "runs" = some d := by
  unfold fieldAt
  rw [obOf_objD]
  simp only [h]
  kernel_rfl
theorem ga_scans (h : S[i]? = some (obj5 a b c d e)) : fieldAt S (objD i) "Scanner" "scans" = some e := by
  unfold fieldAt
  rw [obOf_objD]
  simp only [h]
  kernel_rfl
theorem gf_since (h : S[i]? = some (obj5 a b c d e)) : setFld S i "since" v = S.set i (obj5 a b v d e) := by
  unfold setFld
  simp only [h]
  kernel_rfl
theorem gf_runs (h : S[i]? = some (obj5 a b c d e)) : setFld S i "runs" v = S.set i (obj5 a b c v e) := by
  unfold setFld
  simp only [h]
  kernel_rfl
theorem gf_scans (h : S[i]? = some (obj5 a b c d e)) : setFld S i "scans" v = S.set i (obj5 a b c d v) := by
  unfold setFld
  simp only [h]
  kernel_rfl
theorem gI {env : Mini.Env} {f : Str} {d : D} {j : Nat} (h : env[j]? = some (.val d)) : fieldI env S "Scanner" j f = fieldAt S d "Scanner" f := by
  unfold fieldI slotD
  rw [h]
end
/-! ### dicts of keys -/
def encKI (x : Key2 × Int) : D × D := (encP x.1, .int x.2)
def getA (l : List (Key2 × Int)) (k : Key2) : Option Int := (l.find? fun x => decide (x.1 = k)).map (·.2)
def putA (l : List (Key2 × Int)) (k : Key2) (v : Int) : List (Key2 × Int) := if (l.any fun x => decide (x.1 = k)) = true then l.map (fun x => if decide (x.1 = k) = true then (x.1, v) else x) else l ++ [(k, v)]
def delA (l : List (Key2 × Int)) (k : Key2) : List (Key2 × Int) := l.filter fun x => !decide (x.1 = k)
@[simp] theorem hasKey_encP (k : Key2) : hasKey true (encP k) = true := rfl
theorem find_A (l : List (Key2 × Int)) (k : Key2) : ((l.map encKI).find? fun p => PyData.eqv p.1 (encP k)).map (·.2) = (getA l k).map PyData.int := by
  induction l with
  | nil => rfl
  | cons x r ih =>
    show (List.find? _ (encKI x :: r.map encKI)).map _ = _
    unfold getA
    rw [List.find?_cons, List.find?_cons]
    have e : PyData.eqv (encKI x).1 (encP k) = decide (x.1 = k) := eqv_encP x.1 k
    rw [e]
    by_cases h : x.1 = k
    · simp [h, encKI]
    · simp only [h, decide_false]
      exact ih
theorem any_A (l : List (Key2 × Int)) (k : Key2) : ((l.map encKI).any fun p => PyData.eqv p.1 (encP k)) = (getA l k).isSome := by
  rw [find_any, find_A]
  cases getA l k <;> rfl
theorem any_A2 (l : List (Key2 × Int)) (k : Key2) : (l.any fun x => decide (x.1 = k)) = (getA l k).isSome := by
  rw [← any_A, List.any_map]
  congr 1
  funext x
  exact (eqv_encP x.1 k).symm
theorem put_A (l : List (Key2 × Int)) (k : Key2) (v : Int) : putD (l.map encKI) (encP k) (.int v) = (putA l k v).map encKI := by
  unfold putD putA
  rw [any_A, any_A2]
  cases h : (getA l k).isSome with
  | false =>
    simp [encKI]
  | true =>
    simp only [if_true, List.map_map]
    congr 1
    funext x
    have e : PyData.eqv (encKI x).1 (encP k) = decide (x.1 = k) := eqv_encP x.1 k
    show (if PyData.eqv (encKI x).1 (encP k) = true then _ else _) = encKI (if decide (x.1 = k) = true then _ else _)
    rw [e]
    cases decide (x.1 = k) <;> rfl
theorem del_A (l : List (Key2 × Int)) (k : Key2) : ((l.map encKI).filter fun p => !PyData.eqv p.1 (encP k)) = (delA l k).map encKI := by
  unfold delA
  rw [List.filter_map]
  congr 2
  funext x
  show (!PyData.eqv (encKI x).1 (encP k)) = _
  rw [show PyData.eqv (encKI x).1 (encP k) = decide (x.1 = k) from eqv_encP x.1 k]
theorem getA_cons (x : Key2 × Int) (r : List (Key2 × Int)) (k : Key2) : getA (x :: r) k = if x.1 = k then some x.2 else getA r k := by
  unfold getA
  rw [List.find?_cons]
  by_cases h : x.1 = k <;> simp [h]
theorem getA_map (l : List (Key2 × Int)) (k k' : Key2) (v : Int) : getA (l.map fun x => if decide (x.1 = k) = true then (x.1, v) else x) k' = if k' = k then (getA l k').map (fun _ => v) else getA l k' := by
  induction l with
  | nil => simp [getA]
  | cons x r ih =>
    rw [List.map_cons, getA_cons, getA_cons, ih]
    by_cases q : x.1 = k <;> by_cases e : k' = k
    · subst e
      simp [q]
    · have : ¬ k = k' := fun z => e z.symm
      simp [q, e, this]
    · subst e
      simp [q]
    · simp [q, e]
theorem getA_snoc (l : List (Key2 × Int)) (k k' : Key2) (v : Int) : getA (l ++ [(k, v)]) k' = match getA l k' with
    | some y => some y
    | none => if k = k' then some v else none := by
  induction l with
  | nil => simp [getA_cons, getA]
  | cons x r ih =>
    rw [List.cons_append, getA_cons, getA_cons, ih]
    by_cases q : x.1 = k' <;> simp [q]
theorem get_put (l : List (Key2 × Int)) (k k' : Key2) (v : Int) : getA (putA l k v) k' = if k' = k then some v else getA l k' := by
  unfold putA
  rw [any_A2]
  cases h : getA l k with
  | some y =>
    simp only [Option.isSome_some, if_true]
    rw [getA_map]
    by_cases e : k' = k
    · rw [if_pos e, if_pos e, e, h]
      rfl
    · rw [if_neg e, if_neg e]
  | none =>
    simp only [Option.isSome_none, if_neg (show ¬ (false = true) by decide)]
    rw [getA_snoc]
    by_cases e : k' = k
    · subst e
      simp [h]
    · have : ¬ k = k' := fun z => e z.symm
      rw [if_neg e]
      cases getA l k' <;> simp [this]
theorem get_del (l : List (Key2 × Int)) (k k' : Key2) : getA (delA l k) k' = if k' = k then none else getA l k' := by
  unfold delA getA
  induction l with
  | nil => simp
  | cons x r ih =>
    by_cases q : x.1 = k
    · rw [List.filter_cons_of_neg (by simp [q]), ih]
      by_cases e : k' = k
      · simp [e]
      · rw [if_neg e, if_neg e, List.find?_cons]
        have : ¬ x.1 = k' := fun z => e (z ▸ q)
        simp [this]
    · rw [List.filter_cons_of_pos (by simp [q]), List.find?_cons, List.find?_cons]
      by_cases e : k' = k
      · have : ¬ x.1 = k' := fun z => q (z.trans e)
        simp only [this, decide_false, ih]
      · rw [if_neg e]
        rw [if_neg e] at ih
        cases decide (x.1 = k') with
        | true => rfl
        | false => exact ih
theorem keys_putA (l : List (Key2 × Int)) (k : Key2) (v : Int) : (putA l k v).map (·.1) = if (getA l k).isSome then l.map (·.1) else l.map (·.1) ++ [k] := by
  unfold putA
  rw [any_A2]
  cases (getA l k).isSome with
  | true =>
    simp only [if_true, List.map_map]
    congr 1
    funext x
    show (if decide (x.1 = k) = true then (x.1, v) else x).1 = x.1
    split <;> rfl
  | false => simp
theorem getA_mem {l : List (Key2 × Int)} {k : Key2} : (getA l k).isSome = true ↔ k ∈ l.map (·.1) := by
  rw [← any_A2, List.any_eq_true, List.mem_map]
  constructor
  · rintro ⟨x, h1, h2⟩
    exact ⟨x, h1, of_decide_eq_true h2⟩
  · rintro ⟨x, h1, h2⟩
    exact ⟨x, h1, decide_eq_true h2⟩
/-! ### a scanner's state -/
/-- what is known of each key: since when it is down, how many readings otherwise -/
structure Kst where
  s : Option Int
  r : Int
structure SRel (p : PadR) (since runs : List (Key2 × Int)) (st : Key2 → Kst) : Prop where
  s : ∀ k, getA since k = (st k).s
  r : ∀ k, (getA runs k).getD 0 = (st k).r
  sn : (since.map (·.1)).Nodup
  rn : (runs.map (·.1)).Nodup
  ss : ∀ k ∈ since.map (·.1), k ∈ p.ks
  rs : ∀ k ∈ runs.map (·.1), k ∈ p.ks
theorem nodup_len : ∀ {a b : List Key2}, a.Nodup → (∀ k ∈ a, k ∈ b) → a.length ≤ b.length
  | [], b, _, _ => Nat.zero_le _
  | x :: r, b, h, hs => by
    rw [List.nodup_cons] at h
    have hx := hs x (List.mem_cons_self ..)
    have := nodup_len (b := b.erase x) h.2 fun k hk => (List.mem_erase_of_ne (show k ≠ x from fun e => h.1 (e ▸ hk))).mpr (hs k (List.mem_cons_of_mem _ hk))
    rw [List.length_erase_of_mem hx] at this
    have : 0 < b.length := List.length_pos_of_mem hx
    rw [List.length_cons]
    omega
theorem SRel.sl {p : PadR} {since runs : List (Key2 × Int)} {st : Key2 → Kst} (h : SRel p since runs st) (w : WF p) : since.length ≤ 8 := by
  have := nodup_len h.sn h.ss
  rw [List.length_map] at this
  exact Nat.le_trans this w.k8
theorem SRel.rl {p : PadR} {since runs : List (Key2 × Int)} {st : Key2 → Kst} (h : SRel p since runs st) (w : WF p) : runs.length ≤ 8 := by
  have := nodup_len h.rn h.rs
  rw [List.length_map] at this
  exact Nat.le_trans this w.k8
def setK (st : Key2 → Kst) (k : Key2) (v : Kst) : Key2 → Kst := fun x => if x = k then v else st x
theorem nodup_putA {l : List (Key2 × Int)} {k : Key2} {v : Int} (h : (l.map (·.1)).Nodup) : ((putA l k v).map (·.1)).Nodup := by
  rw [keys_putA]
  split
  · exact h
  · rename_i q
    rw [List.nodup_append]
    refine ⟨h, by simp, fun a ha b hb e => ?_⟩
    rw [List.mem_singleton.mp hb] at e
    exact q (getA_mem.mpr (e ▸ ha))
theorem sub_putA {l : List (Key2 × Int)} {k : Key2} {v : Int} {p : PadR} (h : ∀ x ∈ l.map (·.1), x ∈ p.ks) (hk : k ∈ p.ks) : ∀ x ∈ (putA l k v).map (·.1), x ∈ p.ks := by
  intro x hx
  rw [keys_putA] at hx
  split at hx
  · exact h x hx
  · rcases List.mem_append.mp hx with q | q
    · exact h x q
    · rw [List.mem_singleton.mp q]
      exact hk
theorem SRel.putR {p : PadR} {since runs : List (Key2 × Int)} {st : Key2 → Kst} (h : SRel p since runs st) {k : Key2} (hk : k ∈ p.ks) (v : Int) : SRel p since (putA runs k v) (setK st k ⟨(st k).s, v⟩) where
  s := fun x => by
    unfold setK
    rw [h.s]
    split
    · rename_i e
      rw [e]
    · rfl
  r := fun x => by
    unfold setK
    rw [get_put]
    split
    · rfl
    · exact h.r x
  sn := h.sn
  rn := nodup_putA h.rn
  ss := h.ss
  rs := sub_putA h.rs hk
theorem SRel.putS {p : PadR} {since runs : List (Key2 × Int)} {st : Key2 → Kst} (h : SRel p since runs st) {k : Key2} (hk : k ∈ p.ks) (v : Int) : SRel p (putA since k v) runs (setK st k ⟨some v, (st k).r⟩) where
  s := fun x => by
    unfold setK
    rw [get_put]
    split
    · rfl
    · exact h.s x
  r := fun x => by
    unfold setK
    rw [h.r]
    split
    · rename_i e
      rw [e]
    · rfl
  sn := nodup_putA h.sn
  rn := h.rn
  ss := sub_putA h.ss hk
  rs := h.rs
theorem SRel.delS {p : PadR} {since runs : List (Key2 × Int)} {st : Key2 → Kst} (h : SRel p since runs st) {k : Key2} : SRel p (delA since k) runs (setK st k ⟨none, (st k).r⟩) where
  s := fun x => by
    unfold setK
    rw [get_del]
    split
    · rfl
    · exact h.s x
  r := fun x => by
    unfold setK
    rw [h.r]
    split
    · rename_i e
      rw [e]
    · rfl
  sn := ((List.filter_sublist).map _).nodup h.sn
  rn := h.rn
  ss := fun x hx => h.ss x (((List.filter_sublist).map _).subset hx)
  rs := h.rs
theorem setK_setK {st : Key2 → Kst} {k : Key2} {a b : Kst} : setK (setK st k a) k b = setK st k b := by
  funext x
  unfold setK
  split <;> rfl
@[simp] theorem setK_at {st : Key2 → Kst} {k : Key2} {a : Kst} : setK st k a k = a := by simp [setK]
def rulD (h f q : Int) : D := .tuple [.int h, .int f, .int q]
def scn (p : PadR) (h f q : Int) (since runs : List (Key2 × Int)) (n : Int) : Ob := obj5 (.val (encPad p)) (.val (rulD h f q)) (.ownD true (since.map encKI)) (.ownD true (runs.map encKI)) (.val (.int n))
/-- the object is a scanner in this state -/
def IsS (o : Ob) (p : PadR) (h f q : Int) (st : Key2 → Kst) (n : Int) : Prop := ∃ since runs, o = scn p h f q since runs n ∧ SRel p since runs st
/-! ### one key's step -/
inductive Evt where
  | down | up | again
  deriving DecidableEq
def Evt.s : Evt → Str
  | .down => "down"
  | .up => "up"
  | .again => "again"
def evS : Option Evt → Str
  | none => ""
  | some e => e.s
/-- the key has become so -/
def rdB (h : Int) (t : Kst) (d : Bool) : Bool := (d != t.s.isSome) && decide (h ≤ t.r + 1)
def rdS (h n : Int) (t : Kst) (d : Bool) : Kst := if d = t.s.isSome then ⟨t.s, 0⟩ else if t.r + 1 < h then ⟨t.s, t.r + 1⟩ else ⟨if d then some n else none, 0⟩
def agB (f q n : Int) (s : Int) : Bool := decide (0 < f) && (decide (0 ≤ n - s - f) && decide ((n - s - f) % q = 0))
def stS (h n : Int) (t : Kst) (sure free : Bool) : Kst := if sure || free then rdS h n t sure else t
def stW (h f q n : Int) (t : Kst) (sure free : Bool) : Option Evt := if (sure || free) && rdB h t sure then some (if sure then .down else .up) else match t.s with
  | some s => if agB f q n s then some .again else none
  | none => none
@[simp] theorem lk_read {a b c d e : Sl} : (obj5 a b c d e).fs.lookup ("read" : Str) = none := by kernel_rfl
@[simp] theorem lk_again {a b c d e : Sl} : (obj5 a b c d e).fs.lookup ("is_again" : Str) = none := by kernel_rfl
@[simp] theorem lk_event {a b c d e : Sl} : (obj5 a b c d e).fs.lookup ("event" : Str) = none := by kernel_rfl
@[simp] theorem lk_scan {a b c d e : Sl} : (obj5 a b c d e).fs.lookup ("scan" : Str) = none := by kernel_rfl
@[simp] theorem lk_down {a b c d e : Sl} : (obj5 a b c d e).fs.lookup ("down" : Str) = none := by kernel_rfl
@[simp] theorem lk_many {a b c d e : Sl} : (obj5 a b c d e).fs.lookup ("many" : Str) = none := by kernel_rfl
structure TScr (T : Str → Option Fn) : Prop where
  read : T (mName "Scanner" "read") = some f_Scanner_read
  again : T (mName "Scanner" "is_again") = some f_Scanner_is_again
  event : T (mName "Scanner" "event") = some f_Scanner_event
  scan : T (mName "Scanner" "scan") = some f_Scanner_scan
end Mini
/-! Scanners: one lemma for each method. -/
namespace Mini
open PySem L2
section
variable {T : Str → Option Fn} {n m : Nat} {S : Sto} {i : Nat} {p : PadR} {h f q nn : Int} {st : Key2 → Kst} {k : Key2}
theorem s_read (hM : TScr T) (hn : 1 ≤ n) (hp : WF p) (hk : k ∈ p.ks) {o : Ob} (hS : S[i]? = some o) (hO : IsS o p h f q st nn) (d : Bool) :
    ∃ o', callF T n (mName "Scanner" "read") [objD i, encP k, .bool d] S = .ok (.bool (rdB h (st k) d)) (S.set i o') ∧ IsS o' p h f q (setK st k (rdS h nn (st k) d)) nn := by
  obtain ⟨m, rfl⟩ : ∃ m, n = m + 1 := ⟨n - 1, by omega⟩
  obtain ⟨since, runs, rfl, R⟩ := hO
  have sl := R.sl hp
  have rl := R.rl hp
  have l1 : lim (since.map encKI).length = true := lim_small (by rw [List.length_map]; omega)
  have l2 : ∀ v, lim ((putA runs k v).map encKI).length = true := fun v => by
    have := (R.putR hk v).rl hp
    exact lim_small (by rw [List.length_map]; omega)
  have l3 : lim (runs.map encKI).length = true := lim_small (by rw [List.length_map]; omega)
  unfold scn at hS
  have stt : ∀ x : Ob, (S.set i x)[i]? = some x := fun x => set_at hS
  have eb : ∀ a b : Bool, cmpF .eq (.bool a) (.bool b) = some (decide (a = b)) := by decide
  have g1 : getF (rulD h f q) (.int 0) = some (.int h) := at0
  rw [callF_eq hM.read rfl]
  have es := R.s k
  have er := R.r k
  by_cases c1 : d = (st k).s.isSome
  · refine ⟨scn p h f q since (putA runs k 0) nn, ?_, since, _, rfl, by
      have := R.putR hk 0
      unfold rdS
      rw [if_pos c1]
      exact this⟩
    have e1 : decide (d = (st k).s.isSome) = true := decide_eq_true c1
    have e2 : rdB h (st k) d = false := by simp [rdB, c1]
    rw [e2]
    simp [-List.any_map, -List.length_map, -List.find?_map, f_Scanner_read, fieldI, slotD, ga_since hS, ga_runs hS, any_A, es, eb, e1, l3, put_A, gf_runs hS, endF, scn]
  · have e1 : decide (d = (st k).s.isSome) = false := decide_eq_false c1
    have w1 := gf_runs (v := .ownD true ((putA runs k ((st k).r + 1)).map encKI)) hS
    have hS1 := stt (obj5 (.val (encPad p)) (.val (rulD h f q)) (.ownD true (since.map encKI)) (.ownD true ((putA runs k ((st k).r + 1)).map encKI)) (.val (.int nn)))
    have gg : getA (putA runs k ((st k).r + 1)) k = some ((st k).r + 1) := by rw [get_put, if_pos rfl]
    have gd : ((getA runs k).map PyData.int).getD (.int 0) = .int (st k).r := by
      rw [← er]
      cases getA runs k <;> rfl
    by_cases c2 : (st k).r + 1 < h
    · refine ⟨scn p h f q since (putA runs k ((st k).r + 1)) nn, ?_, since, _, rfl, by
        have := R.putR hk ((st k).r + 1)
        unfold rdS
        rw [if_neg c1, if_pos c2]
        exact this⟩
      have e2 : rdB h (st k) d = false := by
        have : ¬ h ≤ (st k).r + 1 := by omega
        simp [rdB, this]
      rw [e2]
      simp [-List.any_map, -List.length_map, -List.find?_map, f_Scanner_read, fieldI, slotD, ga_since hS, ga_runs hS, ga_rules hS, any_A, es, eb, e1, l3, put_A, find_A, gd, w1, ga_runs hS1, ga_rules hS1, gg, g1, c2, scn, endF]
    · have e2 : rdB h (st k) d = true := by
        have q1 : h ≤ (st k).r + 1 := by omega
        have q2 : (d != (st k).s.isSome) = true := by simpa using c1
        simp [rdB, q1, q2]
      have w2 := gf_runs (v := .ownD true ((putA (putA runs k ((st k).r + 1)) k 0).map encKI)) hS1
      rw [List.set_set] at w2
      have hS2 := stt (obj5 (.val (encPad p)) (.val (rulD h f q)) (.ownD true (since.map encKI)) (.ownD true ((putA (putA runs k ((st k).r + 1)) k 0).map encKI)) (.val (.int nn)))
      have l4 := l2 ((st k).r + 1)
      have R1 := (R.putR hk ((st k).r + 1)).putR hk 0
      rw [setK_setK, setK_at] at R1
      have c3 : ¬ (st k).r + 1 < h := c2
      cases d with
      | true =>
        have w3 := gf_since (v := .ownD true ((putA since k nn).map encKI)) hS2
        rw [List.set_set] at w3
        have sm : (st k).s.isSome = false := by
          cases z : (st k).s.isSome with
          | false => rfl
          | true => exact absurd z.symm c1
        refine ⟨scn p h f q (putA since k nn) (putA (putA runs k ((st k).r + 1)) k 0) nn, ?_, _, _, rfl, by
          have := R1.putS hk nn
          rw [setK_setK, setK_at] at this
          unfold rdS
          rw [if_neg c1, if_neg c2]
          exact this⟩
        rw [e2]
        simp [-List.any_map, -List.length_map, -List.find?_map, f_Scanner_read, fieldI, slotD, ga_since hS, ga_runs hS, any_A, es, eb, e1, l3, put_A, find_A, gd, w1, ga_runs hS1, ga_rules hS1, gg, g1, c3, w2, ga_since hS2, sm, ga_scans hS2, l1, w3, scn, endF, l4]
      | false =>
        have w3 := gf_since (v := .ownD true ((delA since k).map encKI)) hS2
        rw [List.set_set] at w3
        have sm : (st k).s.isSome = true := by
          cases z : (st k).s.isSome with
          | true => rfl
          | false => exact absurd z.symm c1
        refine ⟨scn p h f q (delA since k) (putA (putA runs k ((st k).r + 1)) k 0) nn, ?_, _, _, rfl, by
          have := R1.delS (k := k)
          rw [setK_setK, setK_at] at this
          unfold rdS
          rw [if_neg c1, if_neg c2]
          exact this⟩
        rw [e2]
        simp [-List.any_map, -List.length_map, -List.find?_map, f_Scanner_read, fieldI, slotD, ga_since hS, ga_runs hS, any_A, es, eb, e1, l3, put_A, find_A, gd, w1, ga_runs hS1, ga_rules hS1, gg, g1, c3, w2, ga_since hS2, sm, del_A, w3, scn, endF, l4]
theorem s_again (hM : TScr T) (hn : 1 ≤ n) (hq : 0 < q) {o : Ob} (hS : S[i]? = some o) (hO : IsS o p h f q st nn) {s : Int} (hs : (st k).s = some s) :
    callF T n (mName "Scanner" "is_again") [objD i, encP k] S = .ok (.bool (agB f q nn s)) S := by
  obtain ⟨m, rfl⟩ : ∃ m, n = m + 1 := ⟨n - 1, by omega⟩
  obtain ⟨since, runs, rfl, R⟩ := hO
  unfold scn at hS
  have es := R.s k
  rw [hs] at es
  rw [callF_eq hM.again rfl]
  have a1 : getF (rulD h f q) (.int 1) = some (.int f) := at1
  have a2 : getF (rulD h f q) (.int 2) = some (.int q) := at2
  cases c1 : decide (0 < f) with
  | false => simp [-Int.sub_nonneg, -List.any_map, -List.length_map, -List.find?_map, f_Scanner_is_again, fieldI, slotD, ga_since hS, ga_scans hS, ga_rules hS, find_A, es, a1, a2, fresh, slOf, c1, endF, agB]
  | true =>
    cases c2 : decide (0 ≤ nn - s - f) with
    | false => simp [-Int.sub_nonneg, -List.any_map, -List.length_map, -List.find?_map, f_Scanner_is_again, fieldI, slotD, ga_since hS, ga_scans hS, ga_rules hS, find_A, es, a1, a2, fresh, slOf, c1, c2, endF, agB]
    | true => simp [-Int.sub_nonneg, -List.any_map, -List.length_map, -List.find?_map, f_Scanner_is_again, fieldI, slotD, ga_since hS, ga_scans hS, ga_rules hS, find_A, es, a1, a2, fresh, slOf, c1, c2, endF, agB, mod_int hq]
def tW (f q nn : Int) : Option Int → Str
  | some s => if agB f q nn s then "again" else ""
  | none => ""
theorem s_event (hM : TScr T) (hn : 2 ≤ n) (hq : 0 < q) (hp : WF p) (hk : k ∈ p.ks) {o : Ob} (hS : S[i]? = some o) (hO : IsS o p h f q st nn) (sure free : Bool) :
    ∃ o', callF T n (mName "Scanner" "event") [objD i, encP k, .bool sure, .bool free] S = .ok (.str (evS (stW h f q nn (st k) sure free))) (S.set i o') ∧ IsS o' p h f q (setK st k (stS h nn (st k) sure free)) nn := by
  obtain ⟨m, rfl⟩ : ∃ m, n = m + 1 := ⟨n - 1, by omega⟩
  rw [callF_eq hM.event rfl]
  have hO0 := hO
  obtain ⟨since, runs, eo, R⟩ := hO0
  have g0 : S[i]? = some (obj5 (.val (encPad p)) (.val (rulD h f q)) (.ownD true (since.map encKI)) (.ownD true (runs.map encKI)) (.val (.int nn))) := by rw [hS, eo]; rfl
  have tail : ∀ (S : Sto) (o : Ob) (st2 : Key2 → Kst), S[i]? = some o → IsS o p h f q st2 nn → (st2 k).s = (st k).s →
      evE (callF T m) .v (.ite (.and_ (.fIn "Scanner" 1 0 "since") (.meth "Scanner" (.var 0) "is_again" (.cons (.var 1) .nil))) (.cst (.str "again")) (.cst (.str ""))) [.val (objD i), .val (encP k), .val (.bool sure), .val (.bool free)] S = .ok (.str (tW f q nn (st k).s)) S := by
    intro S o st2 hS hO e
    have hO0 := hO
    obtain ⟨since, runs, rfl, R⟩ := hO
    have g0 : S[i]? = some (obj5 (.val (encPad p)) (.val (rulD h f q)) (.ownD true (since.map encKI)) (.ownD true (runs.map encKI)) (.val (.int nn))) := by rw [hS]; rfl
    have es := R.s k
    rw [e] at es
    cases c : (st k).s with
    | none =>
      rw [c] at es
      simp [-List.any_map, -List.length_map, -List.find?_map, fieldI, slotD, ga_since g0, any_A, es, tW]
    | some s =>
      rw [c] at es
      have e1 := s_again (T := T) (n := m) (S := S) (i := i) (k := k) hM (by omega) hq hS hO0 (e.trans c)
      cases c2 : agB f q nn s <;> rw [c2] at e1 <;> simp [-List.any_map, -List.length_map, -List.find?_map, fieldI, slotD, ga_since g0, any_A, es, g0, e1, c2, tW]
  by_cases c : (sure || free) = true
  · obtain ⟨o', e1, e2⟩ := s_read (T := T) (n := m) (S := S) (i := i) hM (by omega) hp hk hS hO sure
    have g1 : (S.set i o')[i]? = some o' := set_at hS
    have t1 := tail (S.set i o') o' _ g1 e2
    refine ⟨o', ?_, by unfold stS; rw [if_pos c]; exact e2⟩
    cases c2 : rdB h (st k) sure with
    | true =>
      rw [c2] at e1
      have : stW h f q nn (st k) sure free = some (if sure then .down else .up) := by simp [stW, c, c2]
      rw [this]
      cases sure <;> cases free <;> simp at c <;> simp [f_Scanner_event, frz1, g0, e1, endF, evS, Evt.s]
    | false =>
      rw [c2] at e1
      have es : (rdS h nn (st k) sure).s = (st k).s := by
        unfold rdB at c2
        unfold rdS
        split
        · rfl
        · rename_i q1
          split
          · rfl
          · rename_i q2
            exfalso
            have : (sure != (st k).s.isSome) = true := by simpa using q1
            rw [this, Bool.true_and] at c2
            have := of_decide_eq_false c2
            omega
      have t1 := t1 (by rw [setK_at]; exact es)
      have : evS (stW h f q nn (st k) sure free) = (tW f q nn (st k).s) := by
        unfold stW
        rw [c2, Bool.and_false, if_neg (by decide)]
        cases (st k).s with
        | none => rfl
        | some s => cases z : agB f q nn s <;> simp [z, evS, Evt.s, tW]
      rw [this]
      have b1 : exS (callF T m) (.ret (.ite (.and_ (.fIn "Scanner" 1 0 "since") (.meth "Scanner" (.var 0) "is_again" (.cons (.var 1) .nil))) (.cst (.str "again")) (.cst (.str "")))) [.val (objD i), .val (encP k), .val (.bool sure), .val (.bool free)] (S.set i o') = .rt (.str (tW f q nn (st k).s)) (S.set i o') := by
        rw [x_ret, t1, ofE_ok]
      simp only [f_Scanner_event]
      cases sure <;> cases free <;> simp at c <;> simp [-e_ite, -x_ret, -e_fIn, frz1, g0, e1, endF, b1]
  · have c' : sure = false ∧ free = false := by cases sure <;> cases free <;> simp at c <;> simp
    obtain ⟨rfl, rfl⟩ := c'
    have t1 := tail S o st hS hO rfl
    refine ⟨o, ?_, by
      unfold stS
      rw [if_neg (by decide)]
      have : setK st k (st k) = st := by
        funext x
        unfold setK
        split
        · rename_i z
          rw [z]
        · rfl
      rw [this]
      exact hO⟩
    have : evS (stW h f q nn (st k) false false) = (tW f q nn (st k).s) := by
      unfold stW
      rw [Bool.or_false, Bool.false_and, if_neg (by decide)]
      cases (st k).s with
      | none => rfl
      | some s => cases z : agB f q nn s <;> simp [z, evS, Evt.s, tW]
    rw [this, set_self hS]
    have b1 : exS (callF T m) (.ret (.ite (.and_ (.fIn "Scanner" 1 0 "since") (.meth "Scanner" (.var 0) "is_again" (.cons (.var 1) .nil))) (.cst (.str "again")) (.cst (.str "")))) [.val (objD i), .val (encP k), .val (.bool false), .val (.bool false)] S = .rt (.str (tW f q nn (st k).s)) S := by
      rw [x_ret, t1, ofE_ok]
    simp only [f_Scanner_event]
    simp [-e_ite, -x_ret, -e_fIn, frz1, g0, endF, b1]
end
end Mini
/-! Scanners: a whole scan, down, many, new ones. -/
namespace Mini
open PySem L2
def encEv (x : Key2 × Evt) : D := .tuple [encP x.1, .str x.2.s]
def encEo (x : Key2 × Option Evt) : D := .tuple [encP x.1, .str (evS x.2)]
noncomputable def sureB (p : PadR) (l : List Key2) (k : Key2) : Bool := decide (k ∈ mustK p l)
noncomputable def freeB (p : PadR) (l : List Key2) (k : Key2) : Bool := !decide (k ∈ mayK p l)
noncomputable def wrdK (p : PadR) (h f q n : Int) (st : Key2 → Kst) (l : List Key2) (k : Key2) : Option Evt := stW h f q n (st k) (sureB p l k) (freeB p l k)
/-- what a scan tells -/
noncomputable def evsK (p : PadR) (h f q n : Int) (st : Key2 → Kst) (l : List Key2) : List (Key2 × Evt) := p.ks.filterMap fun k => (wrdK p h f q n st l k).map fun e => (k, e)
/-- the state behind it -/
noncomputable def stL (p : PadR) (h n : Int) (st : Key2 → Kst) (l : List Key2) : Key2 → Kst := fun k => if k ∈ p.ks then stS h n (st k) (sureB p l k) (freeB p l k) else st k
section
variable {T : Str → Option Fn} {n m : Nat} {S : Sto} {i : Nat} {p : PadR} {h f q nn : Int} {st : Key2 → Kst} {k : Key2} {l : List Key2}
noncomputable def stP (p : PadR) (h n : Int) (st : Key2 → Kst) (l r : List Key2) : Key2 → Kst := fun k => if k ∈ r then stS h n (st k) (sureB p l k) (freeB p l k) else st k
theorem scan_loop (hM : TScr T) (hm : 2 ≤ m) (hq : 0 < q) (hp : WF p) {a1 a2 a5 : Sl} : ∀ (r : List Key2) (st : Key2 → Kst) (S : Sto) (o : Ob), r.Nodup → (∀ k ∈ r, k ∈ p.ks) → S[i]? = some o → IsS o p h f q st nn →
    ∃ o', loopC (fun x S => turnC (setT (.nm 6) x (wipeS [.val (objD i), a1, a2, .val (.list ((mustK p l).map encP)), .val (.list ((mayK p l).map encP)), a5, .no, .no] [6])) (evE (callF T m) .b (.cst (.bool true)))
      (evE (callF T m) .v (.tup (.cons (.var 6) (.cons (.meth "Scanner" (.var 0) "event" (.cons (.var 6) (.cons (.cmp .inn (.var 6) (.var 3)) (.cons (.cmp .nin (.var 6) (.var 4)) .nil)))) .nil)))) S) (r.map encP) S
      = .ok (r.map fun k => encEo (k, wrdK p h f q nn st l k)) (S.set i o') ∧ IsS o' p h f q (stP p h nn st l r) nn
  | [], st, S, o, _, _, hS, hO => ⟨o, by rw [set_self hS]; rfl, by
      have : stP p h nn st l [] = st := by funext k; simp [stP]
      rw [this]
      exact hO⟩
  | k :: r, st, S, o, nd, hs, hS, hO => by
    rw [List.nodup_cons] at nd
    obtain ⟨o1, e1, e2⟩ := s_event (T := T) (n := m) (S := S) (i := i) hM hm hq hp (hs k (List.mem_cons_self ..)) hS hO (sureB p l k) (freeB p l k)
    have hS1 : (S.set i o1)[i]? = some o1 := set_at hS
    obtain ⟨o2, e3, e4⟩ := scan_loop hM hm hq hp (a1 := a1) (a2 := a2) (a5 := a5) r _ (S.set i o1) o1 nd.2 (fun x hx => hs x (List.mem_cons_of_mem _ hx)) hS1 e2
    rw [List.set_set] at e3
    refine ⟨o2, ?_, ?_⟩
    · rw [List.map_cons, loopC]
      obtain ⟨since, runs, rfl, R⟩ := hO
      have g0 : S[i]? = some (obj5 (.val (encPad p)) (.val (rulD h f q)) (.ownD true (since.map encKI)) (.ownD true (runs.map encKI)) (.val (.int nn))) := by rw [hS]; rfl
      have t1 : turnC (setT (.nm 6) (encP k) (wipeS [.val (objD i), a1, a2, .val (.list ((mustK p l).map encP)), .val (.list ((mayK p l).map encP)), a5, .no, .no] [6])) (evE (callF T m) .b (.cst (.bool true)))
          (evE (callF T m) .v (.tup (.cons (.var 6) (.cons (.meth "Scanner" (.var 0) "event" (.cons (.var 6) (.cons (.cmp .inn (.var 6) (.var 3)) (.cons (.cmp .nin (.var 6) (.var 4)) .nil)))) .nil)))) S = .ok (some (encEo (k, wrdK p h f q nn st l k))) (S.set i o1) := by
        have e1' : callF T m (mName "Scanner" "event") [objD i, encP k, .bool (decide (k ∈ mustK p l)), .bool (!decide (k ∈ mayK p l))] S = _ := e1
        simp [setT, wipeS, turnC, g0, e1', lim_small, encEo, wrdK]
      rw [t1]
      have ec : (r.map fun k_1 => encEo (k_1, wrdK p h f q nn (setK st k (stS h nn (st k) (sureB p l k) (freeB p l k))) l k_1)) = r.map fun k_1 => encEo (k_1, wrdK p h f q nn st l k_1) := by
        refine List.map_congr_left fun x hx => ?_
        have : x ≠ k := fun z => nd.1 (z ▸ hx)
        simp [wrdK, setK, this]
      rw [ec] at e3
      simp only [e3]
      rfl
    · have : stP p h nn st l (k :: r) = stP p h nn (setK st k (stS h nn (st k) (sureB p l k) (freeB p l k))) l r := by
        funext x
        unfold stP setK
        by_cases z : x = k
        · subst z
          simp [nd.1]
        · simp [z]
      rw [this]
      exact e4
theorem ev_ne (o : Option Evt) : cmpF .ne (.str (evS o)) (.str "") = some o.isSome := by
  cases o with
  | none => kernel_rfl
  | some e => cases e <;> kernel_rfl
theorem s_scan (hP : TPads T) (hC : TScan T) (hA : TAll T) (hSe : TSets T) (hMu : TMust T) (hM : TScr T) (hn : 6 ≤ n) (hq : 0 < q) (hp : WF p) {d : D} (hd : KSeq d l) (hl : ∀ k ∈ l, k ∈ p.ks) (hl2 : l.length < 64) {o : Ob} (hS : S[i]? = some o) (hO : IsS o p h f q st nn) :
    ∃ o', callF T n (mName "Scanner" "scan") [objD i, d] S = .ok (.list ((evsK p h f q (nn + 1) st l).map encEv)) (S.set i o') ∧ IsS o' p h f q (stL p h (nn + 1) st l) (nn + 1) := by
  obtain ⟨m, rfl⟩ : ∃ m, n = m + 1 := ⟨n - 1, by omega⟩
  rw [callF_eq hM.scan rfl]
  obtain ⟨since, runs, rfl, R⟩ := hO
  have g0 : S[i]? = some (obj5 (.val (encPad p)) (.val (rulD h f q)) (.ownD true (since.map encKI)) (.ownD true (runs.map encKI)) (.val (.int nn))) := by rw [hS]; rfl
  have w1 := gf_scans (v := .val (.int (nn + 1))) g0
  have stt : ∀ x : Ob, (S.set i x)[i]? = some x := fun x => set_at hS
  have hS1 := stt (obj5 (.val (encPad p)) (.val (rulD h f q)) (.ownD true (since.map encKI)) (.ownD true (runs.map encKI)) (.val (.int (nn + 1))))
  have h8 := setP_len8 hp hl
  have s1 := c_keys_in (S := S) hP (show 3 ≤ m by omega) hp hd hl hl2
  have s2 := c_seen_of (S := S) hC (show 2 ≤ m by omega) hp (pr := setP l) (by omega) (setP_sub hl)
  rw [seenK_set] at s2
  have sl := seenK_len p.ds l
  have s3 := c_must (S := S) hP hC hA hSe hMu (show 5 ≤ m by omega) hp (kseqL (seenK p.ds l)) hl (fun k => Iff.rfl) (by omega)
  have s4 := c_may (S := S) hP hC hA hSe hMu (show 5 ≤ m by omega) hp (kseqL (seenK p.ds l)) hl (fun k => Iff.rfl) (by omega)
  obtain ⟨o', e1, e2⟩ := scan_loop (T := T) (m := m) (i := i) (l := l) (h := h) (f := f) (nn := nn + 1) hM (by omega) hq hp (a1 := .val d) (a2 := .val (.list ((seenK p.ds l).map encP))) (a5 := .no) p.ks st (S.set i _) _ (up_nodup hp.ku) (fun k hk => hk) hS1 ⟨since, runs, rfl, R⟩
  rw [List.set_set] at e1
  refine ⟨o', ?_, e2⟩
  have k8 := hp.k8
  have c1 : evE (callF T m) .f k_Scanner_scan_1 [.val (objD i), .val d, .val (.list ((seenK p.ds l).map encP)), .val (.list ((mustK p l).map encP)), .val (.list ((mayK p l).map encP)), .no, .no, .no] (S.set i (obj5 (.val (encPad p)) (.val (rulD h f q)) (.ownD true (since.map encKI)) (.ownD true (runs.map encKI)) (.val (.int (nn + 1))))) = .ok (.list ((p.ks.map fun k => (k, wrdK p h f q (nn + 1) st l k)).map encEo)) (S.set i o') := by
    have a2 : getF (encPad p) (.int 2) = some (.tuple (p.ks.map encP)) := at2
    have it : evE (callF T m) .b (.ix (.fld "Scanner" (.var 0) "pad") (.cst (.int 2))) [.val (objD i), .val d, .val (.list ((seenK p.ds l).map encP)), .val (.list ((mustK p l).map encP)), .val (.list ((mayK p l).map encP)), .no, .no, .no] (S.set i (obj5 (.val (encPad p)) (.val (rulD h f q)) (.ownD true (since.map encKI)) (.ownD true (runs.map encKI)) (.val (.int (nn + 1))))) = .ok (.tuple (p.ks.map encP)) (S.set i (obj5 (.val (encPad p)) (.val (rulD h f q)) (.ownD true (since.map encKI)) (.ownD true (runs.map encKI)) (.val (.int (nn + 1))))) := by
      simp [ga_pad hS1, a2]
    unfold k_Scanner_scan_1
    rw [e_comp, it, bind_ok]
    have hl3 : lim (p.ks.map encP).length = true := lim_small (by rw [List.length_map]; omega)
    simp only [itemsOf, hl3, if_true]
    rw [e1, List.map_map]
    rfl
  have c2 : ∀ (S : Sto) (a : Sl), evE (callF T m) .v k_Scanner_scan_2 [.val (objD i), .val d, .val (.list ((seenK p.ds l).map encP)), .val (.list ((mustK p l).map encP)), .val (.list ((mayK p l).map encP)), .own ((p.ks.map fun k => (k, wrdK p h f q (nn + 1) st l k)).map encEo), .no, .no] S = .ok (.list ((evsK p h f q (nn + 1) st l).map encEv)) S := by
    intro S a
    unfold k_Scanner_scan_2
    rw [comp_run (enc := encEo) (xs := p.ks.map fun k => (k, wrdK p h f q (nn + 1) st l k)) (d := .list ((p.ks.map fun k => (k, wrdK p h f q (nn + 1) st l k)).map encEo)) (g := fun x => if x.2.isSome then some (encEo x) else none) (e_varO rfl) rfl (by rw [List.length_map]; omega) fun x hx => by
      simp [setT, wipeS, turnC, encEo, ev_ne, lim_small]
      cases x.2 <;> rfl]
    congr 2
    unfold evsK
    rw [List.filterMap_map, List.map_filterMap]
    congr 1
    funext k
    show (if (wrdK p h f q (nn + 1) st l k).isSome = true then some (encEo (k, wrdK p h f q (nn + 1) st l k)) else none) = _
    cases wrdK p h f q (nn + 1) st l k <;> rfl
  have c2 := c2 (S.set i o') .no
  obtain ⟨X, hX⟩ : ∃ X, X = (p.ks.map fun k => (k, wrdK p h f q (nn + 1) st l k)).map encEo := ⟨_, rfl⟩
  rw [← hX] at c1 c2
  have fr : fresh k_Scanner_scan_1 = true := rfl
  simp only [f_Scanner_scan]
  simp [-List.map_map, frz1, ga_pad g0, s1, s2, s3, s4, fresh, slOf, setT, ga_scans g0, slotD, g0, w1, fr, c1, c2, endF]
theorem s_many (hM : T (mName "Scanner" "many") = some f_Scanner_many) (hn : 1 ≤ n) {o : Ob} (hS : S[i]? = some o) (hO : IsS o p h f q st nn) : callF T n (mName "Scanner" "many") [objD i] S = .ok (.int nn) S := by
  obtain ⟨m, rfl⟩ : ∃ m, n = m + 1 := ⟨n - 1, by omega⟩
  obtain ⟨since, runs, rfl, R⟩ := hO
  rw [callF_eq hM rfl]
  have g0 : S[i]? = some (obj5 (.val (encPad p)) (.val (rulD h f q)) (.ownD true (since.map encKI)) (.ownD true (runs.map encKI)) (.val (.int nn))) := by rw [hS]; rfl
  simp [f_Scanner_many, ga_scans g0, endF]
/-- the keys that are down, rising -/
def downK (p : PadR) (st : Key2 → Kst) : List Key2 := p.ks.filter fun k => (st k).s.isSome
theorem s_down (hM : T (mName "Scanner" "down") = some f_Scanner_down) (hn : 1 ≤ n) (hp : WF p) {o : Ob} (hS : S[i]? = some o) (hO : IsS o p h f q st nn) : callF T n (mName "Scanner" "down") [objD i] S = .ok (.list ((downK p st).map encP)) S := by
  obtain ⟨m, rfl⟩ : ∃ m, n = m + 1 := ⟨n - 1, by omega⟩
  obtain ⟨since, runs, rfl, R⟩ := hO
  rw [callF_eq hM rfl]
  have g0 : S[i]? = some (obj5 (.val (encPad p)) (.val (rulD h f q)) (.ownD true (since.map encKI)) (.ownD true (runs.map encKI)) (.val (.int nn))) := by rw [hS]; rfl
  have e1 : (since.map encKI).map (·.1) = (since.map (·.1)).map encP := by
    rw [List.map_map, List.map_map]
    rfl
  have e2 : sortK (since.map (·.1)) = downK p st := up_unique (sortK_up R.sn) (hp.ku.filter _) fun k => by
    rw [mem_sortK, ← getA_mem, R.s]
    unfold downK
    rw [List.mem_filter]
    constructor
    · intro z
      refine ⟨R.ss k (getA_mem.mp (by rw [R.s]; exact z)), z⟩
    · exact fun z => z.2
  have e3 := p_sortL (since.map (·.1))
  rw [e2, ← e1] at e3
  simp [-List.map_map, f_Scanner_down, fieldI, slotD, ga_since g0, e3, endF]
/-- all keys up -/
def st0 : Key2 → Kst := fun _ => ⟨none, 0⟩
structure TRul (T : Str → Option Fn) : Prop where
  are : T "are_rules" = some f_are_rules
  init : T (mName "Scanner" "__init__") = some f_Scanner___init__
theorem c_are_rules (hP : TPad0 T) (hT : T "are_rules" = some f_are_rules) (hn : 2 ≤ n) (h f q : Int) : callF T n "are_rules" [rulD h f q] S = .ok (.bool ((decide (1 ≤ h) && decide (h ≤ 9)) && ((decide (0 ≤ f) && decide (f ≤ 99)) && (decide (1 ≤ q) && decide (q ≤ 99))))) S := by
  obtain ⟨m, rfl⟩ : ∃ m, n = m + 1 := ⟨n - 1, by omega⟩
  rw [callF_eq hT rfl]
  have w1 := c_is_whole0 (S := S) hP (show 1 ≤ m by omega) h 1 9
  have w2 := c_is_whole0 (S := S) hP (show 1 ≤ m by omega) f 0 99
  have w3 := c_is_whole0 (S := S) hP (show 1 ≤ m by omega) q 1 99
  cases c1 : (decide (1 ≤ h) && decide (h ≤ 9)) <;> cases c2 : (decide (0 ≤ f) && decide (f ≤ 99)) <;> rw [c1] at w1 <;> rw [c2] at w2 <;> simp [f_are_rules, rulD, isiF, at0, at1, at2, w1, w2, w3, endF, frz1]
end
end Mini
/-! Keys that hang together. -/
namespace Mini
open PySem L2
def adjK (a b : Key2) : Prop := a.1 = b.1 ∨ a.2 = b.2
theorem adjK.symm {a b : Key2} (h : adjK a b) : adjK b a := h.elim (fun q => .inl q.symm) fun q => .inr q.symm
/-- to which keys one comes from a key -/
inductive Conn (ks : List Key2) (a : Key2) : Key2 → Prop
  | here : Conn ks a a
  | on {b c : Key2} : Conn ks a b → c ∈ ks → adjK b c → Conn ks a c
theorem Conn.mem {ks : List Key2} {a b : Key2} (ha : a ∈ ks) (h : Conn ks a b) : b ∈ ks := by
  cases h with
  | here => exact ha
  | on _ q _ => exact q
theorem Conn.trans {ks : List Key2} {a b c : Key2} (h : Conn ks a b) (h' : Conn ks b c) : Conn ks a c := by
  induction h' with
  | here => exact h
  | on _ q1 q2 ih => exact .on ih q1 q2
theorem Conn.symm {ks : List Key2} {a b : Key2} (ha : a ∈ ks) (h : Conn ks a b) : Conn ks b a := by
  induction h with
  | here => exact .here
  | on q1 q2 q3 ih => exact Conn.trans (.on .here (q1.mem ha) q3.symm) ih
theorem Conn.mono {ks ls : List Key2} {a b : Key2} (hs : ∀ k ∈ ks, k ∈ ls) (h : Conn ks a b) : Conn ls a b := by
  induction h with
  | here => exact .here
  | on _ q1 q2 ih => exact .on ih (hs _ q1) q2
theorem Conn.congr {ks ls : List Key2} {a b : Key2} (hs : ∀ k, k ∈ ks ↔ k ∈ ls) : Conn ks a b ↔ Conn ls a b := ⟨Conn.mono fun k q => (hs k).mp q, Conn.mono fun k q => (hs k).mpr q⟩
/-- a list of all keys that hang together -/
structure IsClass (ks g : List Key2) : Prop where
  up : Up g
  rep : ∃ a ∈ ks, ∀ b, b ∈ g ↔ Conn ks a b
theorem IsClass.all {ks g : List Key2} (h : IsClass ks g) {a : Key2} (ha : a ∈ g) (b : Key2) : b ∈ g ↔ Conn ks a b := by
  obtain ⟨a0, h0, h1⟩ := h.rep
  have c0 := (h1 a).mp ha
  rw [h1]
  exact ⟨fun q => (c0.symm h0).trans q, fun q => c0.trans q⟩
theorem IsClass.sub {ks g : List Key2} (h : IsClass ks g) : ∀ k ∈ g, k ∈ ks := fun k hk => by
  obtain ⟨a0, h0, h1⟩ := h.rep
  exact ((h1 k).mp hk).mem h0
theorem IsClass.ne {ks g : List Key2} (h : IsClass ks g) : ∃ a, a ∈ g := by
  obtain ⟨a0, h0, h1⟩ := h.rep
  exact ⟨a0, (h1 a0).mpr .here⟩
theorem IsClass.eq {ks g g' : List Key2} (h : IsClass ks g) (h' : IsClass ks g') {a : Key2} (ha : a ∈ g) (ha' : a ∈ g') : g = g' :=
  up_unique h.up h'.up fun b => by rw [h.all ha, h'.all ha']
theorem IsClass.congr {ks ls g : List Key2} (hs : ∀ k, k ∈ ks ↔ k ∈ ls) : IsClass ks g ↔ IsClass ls g := by
  have go : ∀ {ks ls : List Key2}, (∀ k, k ∈ ks ↔ k ∈ ls) → IsClass ks g → IsClass ls g := fun hs h => by
    obtain ⟨a0, h0, h1⟩ := h.rep
    exact ⟨h.up, a0, (hs a0).mp h0, fun b => by rw [h1, Conn.congr hs]⟩
  exact ⟨go hs, go fun k => (hs k).symm⟩
/-- one key more -/
def toucB (k : Key2) (g : List Key2) : Bool := g.any fun one => decide (k.1 = one.1) || decide (k.2 = one.2)
theorem toucB_iff {k : Key2} {g : List Key2} : toucB k g = true ↔ ∃ one ∈ g, adjK k one := by
  unfold toucB adjK
  rw [List.any_eq_true]
  simp only [Bool.or_eq_true, decide_eq_true_eq]
def joinK (k : Key2) (M : List (List Key2)) : List Key2 := k :: (M.filter (toucB k)).flatten
def stepG (M : List (List Key2)) (k : Key2) : List (List Key2) := M.filter (fun g => !decide (g ∈ M.filter (toucB k))) ++ [sortK (joinK k M)]
structure GI (ks : List Key2) (M : List (List Key2)) : Prop where
  nd : M.Nodup
  cl : ∀ g, g ∈ M ↔ IsClass ks g
theorem class_of {ks : List Key2} {M : List (List Key2)} (h : GI ks M) (hks : Up ks ∨ True) {a : Key2} (ha : a ∈ ks) (hx : ∃ g, IsClass ks g ∧ a ∈ g) : ∃ g ∈ M, a ∈ g := by
  obtain ⟨g, h1, h2⟩ := hx
  exact ⟨g, (h.cl g).mpr h1, h2⟩
/-- each key has its list -/
def Covers (ks : List Key2) (M : List (List Key2)) : Prop := ∀ a ∈ ks, ∃ g ∈ M, a ∈ g
theorem flat_nodup {M : List (List Key2)} (hn : M.Nodup) (hu : ∀ g ∈ M, g.Nodup) (hd : ∀ g ∈ M, ∀ g' ∈ M, ∀ a, a ∈ g → a ∈ g' → g = g') : M.flatten.Nodup := by
  induction M with
  | nil => simp
  | cons g r ih =>
    have h1 := List.nodup_cons.mp hn
    rw [List.flatten_cons, List.nodup_append]
    refine ⟨hu g List.mem_cons_self, ih h1.2 (fun x hx => hu x (List.mem_cons_of_mem _ hx)) fun x hx y hy => hd x (List.mem_cons_of_mem _ hx) y (List.mem_cons_of_mem _ hy), fun a ha b hb e => ?_⟩
    subst e
    obtain ⟨g', hg', ha'⟩ := List.mem_flatten.mp hb
    have := hd g List.mem_cons_self g' (List.mem_cons_of_mem _ hg') a ha ha'
    rw [this] at h1
    exact h1.1 hg'
theorem mem_joinK {k b : Key2} {M : List (List Key2)} : b ∈ joinK k M ↔ b = k ∨ ∃ g ∈ M, toucB k g = true ∧ b ∈ g := by
  unfold joinK
  rw [List.mem_cons, List.mem_flatten]
  simp only [List.mem_filter, and_assoc]
theorem GI.step {ks : List Key2} {M : List (List Key2)} (h : GI ks M) (hc : Covers ks M) {k : Key2} (hk : k ∉ ks) : GI (ks ++ [k]) (stepG M k) ∧ Covers (ks ++ [k]) (stepG M k) := by
  have hM : ∀ g ∈ M, IsClass ks g := fun g hg => (h.cl g).mp hg
  have sub : ∀ x ∈ ks, x ∈ ks ++ [k] := fun x hx => List.mem_append_left _ hx
  -- what hangs together with the new key
  have nw : ∀ b, b ∈ joinK k M ↔ Conn (ks ++ [k]) k b := fun b => by
    rw [mem_joinK]
    constructor
    · rintro (rfl | ⟨g, hg, ht, hb⟩)
      · exact .here
      · obtain ⟨one, h1, h2⟩ := toucB_iff.mp ht
        have c := ((hM g hg).all h1 b).mp hb
        exact Conn.trans (.on .here (sub _ ((hM g hg).sub one h1)) h2) (c.mono sub)
    · intro q
      induction q with
      | here => exact .inl rfl
      | @on b c q1 q2 q3 ih =>
        rcases List.mem_append.mp q2 with q4 | q4
        · right
          rcases ih with rfl | ⟨g, hg, ht, hb⟩
          · obtain ⟨g, hg, hcg⟩ := hc c q4
            exact ⟨g, hg, toucB_iff.mpr ⟨c, hcg, q3⟩, hcg⟩
          · exact ⟨g, hg, ht, ((hM g hg).all hb c).mpr (.on .here q4 q3)⟩
        · exact .inl (List.mem_singleton.mp q4)
  have jn : (joinK k M).Nodup := by
    unfold joinK
    rw [List.nodup_cons]
    refine ⟨fun q => ?_, flat_nodup (h.nd.filter _) (fun g hg => up_nodup (hM g (List.mem_filter.mp hg).1).up) fun g hg g' hg' a ha ha' => (hM g (List.mem_filter.mp hg).1).eq (hM g' (List.mem_filter.mp hg').1) ha ha'⟩
    obtain ⟨g, hg, ha⟩ := List.mem_flatten.mp q
    exact hk ((hM g (List.mem_filter.mp hg).1).sub k ha)
  have cj : IsClass (ks ++ [k]) (sortK (joinK k M)) := ⟨sortK_up jn, k, by simp, fun b => by rw [mem_sortK, nw]⟩
  have kin : k ∈ sortK (joinK k M) := by
    rw [mem_sortK]
    exact List.mem_cons_self
  -- the others stay
  have old : ∀ g ∈ M, toucB k g = false → IsClass (ks ++ [k]) g := fun g hg ht => by
    obtain ⟨a0, h0, h1⟩ := (hM g hg).rep
    refine ⟨(hM g hg).up, a0, sub _ h0, fun b => ?_⟩
    rw [h1]
    refine ⟨Conn.mono sub, fun q => ?_⟩
    induction q with
    | here => exact .here
    | @on b c q1 q2 q3 ih =>
      rcases List.mem_append.mp q2 with q2 | q2
      · exact .on ih q2 q3
      · have : toucB k g = true := toucB_iff.mpr ⟨b, (h1 b).mpr ih, by
          rw [← List.mem_singleton.mp q2]
          exact q3.symm⟩
        rw [ht] at this
        cases this
  have mem : ∀ g, g ∈ stepG M k ↔ (g ∈ M ∧ toucB k g = false) ∨ g = sortK (joinK k M) := fun g => by
    unfold stepG
    rw [List.mem_append, List.mem_filter, List.mem_singleton]
    refine or_congr_left ⟨fun q => ⟨q.1, ?_⟩, fun q => ⟨q.1, ?_⟩⟩
    · have q2 := q.2
      cases e : toucB k g with
      | false => rfl
      | true =>
        have : g ∈ M.filter (toucB k) := List.mem_filter.mpr ⟨q.1, e⟩
        simp [this] at q2
    · have : g ∉ M.filter (toucB k) := fun z => by
        rw [(List.mem_filter.mp z).2] at q
        exact absurd q.2 (by simp)
      simp [this]
  have cov : Covers (ks ++ [k]) (stepG M k) := fun a ha => by
    by_cases hj : a ∈ joinK k M
    · exact ⟨_, (mem _).mpr (.inr rfl), mem_sortK.mpr hj⟩
    · rcases List.mem_append.mp ha with ha | ha
      · obtain ⟨g, hg, hag⟩ := hc a ha
        refine ⟨g, (mem g).mpr (.inl ⟨hg, ?_⟩), hag⟩
        cases e : toucB k g with
        | false => rfl
        | true => exact absurd (mem_joinK.mpr (.inr ⟨g, hg, e, hag⟩)) hj
      · exact absurd (mem_joinK.mpr (.inl (List.mem_singleton.mp ha))) hj
  have all : ∀ g ∈ stepG M k, IsClass (ks ++ [k]) g := fun g hg => by
    rcases (mem g).mp hg with q | q
    · exact old g q.1 q.2
    · rw [q]
      exact cj
  refine ⟨⟨?_, fun g => ⟨all g, fun hg => ?_⟩⟩, cov⟩
  · unfold stepG
    rw [List.nodup_append]
    refine ⟨h.nd.filter _, by simp, fun a ha b hb e => ?_⟩
    rw [List.mem_singleton.mp hb] at e
    have hk2 := (hM a (List.mem_filter.mp ha).1).sub k (by rw [e]; exact kin)
    exact hk hk2
  · obtain ⟨a, ha⟩ := hg.ne
    obtain ⟨g', hg', ha'⟩ := cov a (hg.sub a ha)
    rw [hg.eq (all g' hg') ha ha']
    exact hg'
theorem no_class {g : List Key2} (h : IsClass [] g) : False := by
  obtain ⟨a, h0, _⟩ := h.rep
  cases h0
theorem GI.start : GI [] [] ∧ Covers [] [] := ⟨⟨.nil, fun g => ⟨fun h => (by cases h), fun h => (no_class h).elim⟩⟩, fun a h => (by cases h)⟩
theorem GI.fold {ks : List Key2} (hn : ks.Nodup) : ∀ i, GI (ks.take i) ((ks.take i).foldl stepG []) ∧ Covers (ks.take i) ((ks.take i).foldl stepG [])
  | 0 => GI.start
  | i + 1 => by
    obtain ⟨h1, h2⟩ := GI.fold hn i
    cases e : ks[i]? with
    | none =>
      rw [List.take_succ, e]
      simpa using ⟨h1, h2⟩
    | some k =>
      have hk : k ∉ ks.take i := fun q => by
        have hi := (List.getElem?_eq_some_iff.mp e)
        obtain ⟨hi, rfl⟩ := hi
        have := List.nodup_iff_pairwise_ne.mp hn
        rw [List.mem_take_iff_getElem] at q
        obtain ⟨j, hj, ej⟩ := q
        have := List.pairwise_iff_getElem.mp this j i (by omega) hi (by omega)
        exact this ej
      have := h1.step h2 hk
      rw [List.take_succ, e, List.foldl_append]
      exact this
/-- the lists of keys that hang together, rising -/
def groupsK (ks : List Key2) : List (List Key2) := sortS (ks.foldl stepG [])
theorem groups_ok {ks : List Key2} (hn : ks.Nodup) : GI ks (ks.foldl stepG []) ∧ Covers ks (ks.foldl stepG []) := by
  have := GI.fold hn ks.length
  rwa [List.take_length] at this
theorem groupsK_up {ks : List Key2} (hn : ks.Nodup) : UpS (groupsK ks) := sortS_up (groups_ok hn).1.nd
theorem mem_groupsK {ks g : List Key2} (hn : ks.Nodup) : g ∈ groupsK ks ↔ IsClass ks g := by
  unfold groupsK
  rw [mem_sortS, (groups_ok hn).1.cl]
theorem groups_cover {ks : List Key2} (hn : ks.Nodup) {a : Key2} (ha : a ∈ ks) : ∃ g, IsClass ks g ∧ a ∈ g := by
  obtain ⟨g, h1, h2⟩ := (groups_ok hn).2 a ha
  exact ⟨g, ((groups_ok hn).1.cl g).mp h1, h2⟩
end Mini
/-! groups_of. -/
namespace Mini
open PySem L2
section
variable {T : Str → Option Fn} {n m : Nat} {S : Sto}
structure TGroups (T : Str → Option Fn) : Prop where
  groups_of : T "groups_of" = some f_groups_of
abbrev envG (p : PadR) (o1 o2 o3 o4 o6 o7 : Sl) : Mini.Env := [.val (encPad p), o1, o2, o3, o4, .no, o6, o7]
theorem k_gr1 {p : PadR} {o1 o3 o6 o7 : Sl} {k : Key2} {g : List Key2} (hg : g.length ≤ 1000) : evE (callF T m) .b k_groups_of_1 (envG p o1 (.val (encP k)) o3 (.val (encLs g)) o6 o7) S = .ok (.list (g.map fun one => .bool (decide (k.1 = one.1) || decide (k.2 = one.2)))) S :=
  comp_map (v := 5) (enc := encP) (xs := g) (d := encLs g) _ (by simp) rfl hg fun x _ => by
    by_cases h : k.1 = x.1 <;> simp [h]
theorem comp_filterL {cl : Calls} {env : Mini.Env} {v : Nat} {it c : E} {d : D} {xs : List (List Key2)} {md : Md} (f : List Key2 → Bool) (hv : v < env.length) (h1 : evE cl .b it env S = .ok d S) (h2 : itemsOf d = some (xs.map encLs)) (h3 : xs.length ≤ 1000)
    (h4 : ∀ x ∈ xs, evE cl .b c (env.set v (.val (encLs x))) S = .ok (.bool (f x)) S) : evE cl md (.comp (.var v) (.nm v) [v] it c) env S = .ok (.list ((xs.filter f).map encLs)) S := by
  rw [comp_run (enc := encLs) (xs := xs) (g := fun x => if f x then some (encLs x) else none) h1 h2 (by omega) fun x hx => ?_, filterMap_if]
  show turnC (some ((wipeS env [v]).set v (.val (encLs x)))) _ _ S = _
  rw [set_wipe]
  refine turn_if (h4 x hx) ?_
  rw [e_varV]
  rw [List.getElem?_set_self hv]
theorem k_gr2 {p : PadR} {M : List (List Key2)} {o3 o4 o6 o7 : Sl} {k : Key2} (hM : M.length ≤ 100) (hg : ∀ g ∈ M, g.length ≤ 100) : evE (callF T m) .f k_groups_of_2 (envG p (.own (M.map encLs)) (.val (encP k)) o3 o4 o6 o7) S = .ok (.list ((M.filter (toucB k)).map encLs)) S :=
  comp_filterL (v := 4) (xs := M) (d := .list (M.map encLs)) _ (by simp) (by simp) rfl (by omega) fun x hx => by
    have q := k_gr1 (T := T) (m := m) (S := S) (p := p) (o1 := .own (M.map encLs)) (o3 := o3) (o6 := o6) (o7 := o7) (k := k) (g := x) (by have := hg x hx; omega)
    simp only [envG] at q
    simp [q, p_any, toucB]
theorem k_gr3 {p : PadR} {M H : List (List Key2)} {o2 o4 o6 o7 : Sl} (hM : M.length ≤ 100) : evE (callF T m) .f k_groups_of_3 (envG p (.own (M.map encLs)) o2 (.own (H.map encLs)) o4 o6 o7) S = .ok (.list ((M.filter fun g => !decide (g ∈ H)).map encLs)) S :=
  comp_filterL (v := 4) (xs := M) (d := .list (M.map encLs)) _ (by simp) (by simp) rfl (by omega) fun x hx => by
    simp [cmp_ninLs]
theorem l_gr1 {p : PadR} {H : List (List Key2)} {o1 o2 o4 o6 : Sl} {J : List Key2} (hl : J.length + H.flatten.length ≤ 100) : ∃ o, exS (callF T m) l_groups_of_1 (envG p o1 o2 (.val (.list (H.map encLs))) o4 o6 (.own (J.map encP))) S = .nx (envG p o1 o2 (.val (.list (H.map encLs))) o o6 (.own ((J ++ H.flatten).map encP))) S := by
  obtain ⟨env', e1, ⟨o, e2⟩⟩ := for_inv (c := l_groups_of_1) (cl := callF T m) (S := S) (env := envG p o1 o2 (.val (.list (H.map encLs))) o4 o6 (.own (J.map encP))) (d := .list (H.map encLs)) (items := H.map encLs) rfl
    (fun i env => ∃ o, env = envG p o1 o2 (.val (.list (H.map encLs))) o o6 (.own ((J ++ (H.take i).flatten).map encP))) (by simp) rfl ⟨o4, by simp⟩ fun i x env hx he => by
      obtain ⟨o, rfl⟩ := he
      obtain ⟨g, hg, rfl⟩ := map_get hx
      refine ⟨_, ?_, .val (encLs g), rfl⟩
      have et : (H.take (i + 1)).flatten = (H.take i).flatten ++ g := by
        rw [List.take_succ, hg, List.flatten_append]
        simp
      have hle : (H.take (i + 1)).flatten.length ≤ H.flatten.length := by
        conv => rhs; rw [← List.take_append_drop (i + 1) H]
        rw [List.flatten_append, List.length_append]
        omega
      rw [et, List.length_append] at hle
      rw [et, ← List.append_assoc]
      have q := ext_run (cl := callF T m) (S := S) (i := 7) (e := .var 4) (xs := (J ++ (H.take i).flatten).map encP) (ys := g.map encP) (env := envG p o1 o2 (.val (.list (H.map encLs))) (.val (encLs g)) o6 (.own ((J ++ (H.take i).flatten).map encP))) rfl (by simp [encLs]) (lim_small (by simp only [List.length_map, List.length_append]; omega))
      rw [← List.map_append] at q
      simp only [envG, List.set_cons_succ, List.set_cons_zero] at q
      simp only [stepF, setT, envG, List.set_cons_succ, List.set_cons_zero, x_seq, q, x_skip]
  rw [List.length_map, List.take_length] at e2
  exact ⟨o, by rw [e1, e2]⟩
theorem add_Ls {a b : List (List Key2)} (h : a.length + b.length ≤ 1000) : binF .add (.list (a.map encLs)) (.list (b.map encLs)) = some (.list ((a ++ b).map encLs)) := by
  show (if lim ((a.map encLs).length + (b.map encLs).length) then some _ else none) = _
  rw [List.length_map, List.length_map, if_pos (lim_small h), List.map_append]
/-- few lists, not long -/
theorem GI.small {ks : List Key2} {M : List (List Key2)} (h : GI ks M) : M.flatten.length ≤ ks.length ∧ M.length ≤ ks.length ∧ ∀ g ∈ M, g.length ≤ ks.length := by
  have hM : ∀ g ∈ M, IsClass ks g := fun g hg => (h.cl g).mp hg
  have nd := flat_nodup h.nd (fun g hg => up_nodup (hM g hg).up) fun g hg g' hg' a ha ha' => (hM g hg).eq (hM g' hg') ha ha'
  have f1 : M.flatten.length ≤ ks.length := nodup_sub nd fun k hk => by
    obtain ⟨g, hg, ha⟩ := List.mem_flatten.mp hk
    exact (hM g hg).sub k ha
  refine ⟨f1, Nat.le_trans ?_ f1, fun g hg => nodup_sub (up_nodup (hM g hg).up) (hM g hg).sub⟩
  have : ∀ L : List (List Key2), (∀ g ∈ L, ∃ a, a ∈ g) → L.length ≤ L.flatten.length := fun L hL => by
    induction L with
    | nil => simp
    | cons g r ih =>
      have h1 := ih fun x hx => hL x (List.mem_cons_of_mem _ hx)
      obtain ⟨a, ha⟩ := hL g List.mem_cons_self
      have := List.length_pos_of_mem ha
      rw [List.flatten_cons, List.length_append, List.length_cons]
      omega
  exact this M fun g hg => (hM g hg).ne
theorem c_groups_of (hP : TPad0 T) (hT : TGroups T) (hn : 5 ≤ n) {p : PadR} (h : WF p) : callF T n "groups_of" [encPad p] S = .ok (.list ((groupsK p.ks).map encLs)) S := by
  obtain ⟨m, rfl⟩ : ∃ m, n = m + 1 := ⟨n - 1, by omega⟩
  have h8 := h.k8
  obtain ⟨env', e1, ⟨o2, o3, o4, o6, o7, e2⟩⟩ := for_inv (c := l_groups_of_2) (cl := callF T m) (S := S) (env := envG p (.own []) .no .no .no .no .no) (d := .tuple (p.ks.map encP)) (items := p.ks.map encP) rfl
    (fun i env => ∃ o2 o3 o4 o6 o7, env = envG p (.own (((p.ks.take i).foldl stepG []).map encLs)) o2 o3 o4 o6 o7) (by simp) rfl ⟨.no, .no, .no, .no, .no, rfl⟩ fun i x env hx he => by
      obtain ⟨o2, o3, o4, o6, o7, rfl⟩ := he
      obtain ⟨k, hk, rfl⟩ := map_get hx
      have gi := (GI.fold (up_nodup h.ku) i).1
      rw [fold_take stepG [] hk]
      obtain ⟨M, eM⟩ : ∃ M, M = (p.ks.take i).foldl stepG [] := ⟨_, rfl⟩
      rw [← eM] at gi ⊢
      obtain ⟨f1, f2, f3⟩ := gi.small
      have tk : (p.ks.take i).length ≤ 8 := by rw [List.length_take]; omega
      have q2 := k_gr2 (T := T) (m := m) (S := S) (p := p) (M := M) (o3 := o3) (o4 := o4) (o6 := o6) (o7 := o7) (k := k) (by omega) (fun g hg => by have := f3 g hg; omega)
      have q3 := k_gr3 (T := T) (m := m) (S := S) (p := p) (M := M) (H := M.filter (toucB k)) (o2 := .val (encP k)) (o4 := o4) (o6 := o6) (o7 := o7) (by omega)
      have fl : (M.filter (toucB k)).flatten.length ≤ M.flatten.length := by
        have : ∀ L : List (List Key2), (L.filter (toucB k)).flatten.length ≤ L.flatten.length := fun L => by
          induction L with
          | nil => simp
          | cons g r ih =>
            rw [List.filter_cons]
            split
            · rw [List.flatten_cons, List.flatten_cons, List.length_append, List.length_append]
              omega
            · rw [List.flatten_cons, List.length_append]
              omega
        exact this M
      obtain ⟨o4', q4⟩ := l_gr1 (T := T) (m := m) (S := S) (p := p) (H := M.filter (toucB k)) (o1 := .own (M.map encLs)) (o2 := .val (encP k)) (o4 := o4) (o6 := .own ((M.filter fun g => !decide (g ∈ M.filter (toucB k))).map encLs)) (J := [k]) (by simp only [List.length_singleton]; omega)
      have fl2 := List.length_filter_le (fun g => !decide (g ∈ M.filter (toucB k))) M
      have ad := add_Ls (a := M.filter fun g => !decide (g ∈ M.filter (toucB k))) (b := [sortK (joinK k M)]) (by rw [List.length_singleton]; omega)
      have ej : [k] ++ (M.filter (toucB k)).flatten = joinK k M := rfl
      rw [ej] at q4
      have ad : binF .add (.list ((M.filter fun g => !decide (g ∈ M.filter (toucB k))).map encLs)) (.list [.list ((sortK (joinK k M)).map encP)]) = some (.list ((stepG M k).map encLs)) := ad
      obtain ⟨H, eH⟩ : ∃ H, H = M.filter (toucB k) := ⟨_, rfl⟩
      rw [← eH] at q2 q3 q4 ad
      obtain ⟨R, eR⟩ : ∃ R, R = M.filter fun g => !decide (g ∈ H) := ⟨_, rfl⟩
      rw [← eR] at q3 q4 ad
      refine ⟨_, ?_, .val (encP k), .val (.list (H.map encLs)), o4', .own (R.map encLs), .own ((joinK k M).map encP), rfl⟩
      simp only [envG, List.map_cons, List.map_nil] at q2 q3 q4
      have fr2 : fresh k_groups_of_2 = true := rfl
      have fr3 : fresh k_groups_of_3 = true := rfl
      simp [stepF, setT, envG, fr2, fr3, q2, q3, slOf, frz1, lim_small, fresh]
      simp [q4, ad, lim_small]
  rw [List.length_map, List.take_length] at e2
  rw [callF_eq hT.groups_of rfl]
  rw [e2] at e1
  simp only [envG] at e1
  simp only [f_groups_of]
  simp [frz1, c_look_pad0 hP (show 4 ≤ m by omega) h, fresh, slOf, lim_small, e1]
  rfl
end
end Mini
/-! What is seen, group by group; a law's own spreading. -/
namespace Mini
open PySem L2
section
variable {ks ds l g : List Key2}
def inG (l g : List Key2) : List Key2 := l.filter fun k => decide (k ∈ g)
theorem mem_inG {k : Key2} : k ∈ inG l g ↔ k ∈ l ∧ k ∈ g := by
  unfold inG
  rw [List.mem_filter, decide_eq_true_eq]
theorem class_adj (h : IsClass ks g) {a b : Key2} (ha : a ∈ g) (hb : b ∈ ks) (q : adjK a b) : b ∈ g := (h.all ha b).mpr (.on .here hb q)
theorem ledR_group (hl : ∀ k ∈ l, k ∈ ks) (h : IsClass ks g) {row r c0 : Int} (h0 : (row, c0) ∈ g) (q : LedR ds l row r) : LedR ds (inG l g) row r ∧ ∀ c, (r, c) ∈ l → (r, c) ∈ g := by
  induction q with
  | here => exact ⟨.here, fun c hc => class_adj h h0 (hl _ hc) (.inl rfl)⟩
  | on _ h1 h2 h3 ih =>
    have g1 := ih.2 _ h1
    have g2 := class_adj h g1 (hl _ h2) (.inr rfl)
    exact ⟨.on ih.1 (mem_inG.mpr ⟨h1, g1⟩) (mem_inG.mpr ⟨h2, g2⟩) h3, fun c hc => class_adj h g2 (hl _ hc) (.inl rfl)⟩
theorem led_group (hn : ks.Nodup) (hl : ∀ k ∈ l, k ∈ ks) {k : Key2} (q : Led ds l k) : ∃ g, IsClass ks g ∧ Led ds (inG l g) k := by
  obtain ⟨c0, hc0⟩ := q.row
  obtain ⟨g, hg, h0⟩ := groups_cover hn (hl _ hc0)
  obtain ⟨r, h1, h2⟩ := q
  have := ledR_group hl hg h0 h1
  exact ⟨g, hg, r, this.1, mem_inG.mpr ⟨h2, this.2 _ h2⟩⟩
theorem led_of_group {k : Key2} (q : Led ds (inG l g) k) : Led ds l k := q.mono (fun k hk => (mem_inG.mp hk).1) fun _ _ z => z
theorem led_ds {k : Key2} : Led (ds.filter fun k => decide (k ∈ g)) (inG l g) k ↔ Led ds (inG l g) k := by
  refine ⟨Led.mono (fun _ z => z) fun k hk hn hd => hn (List.mem_filter.mpr ⟨hd, decide_eq_true (mem_inG.mp hk).2⟩), Led.mono (fun _ z => z) fun k hk hn hd => hn (List.mem_filter.mp hd).1⟩
theorem led_one {g' : List Key2} (h : IsClass ks g) (h' : IsClass ks g') {k : Key2} (q : Led ds (inG l g) k) (q' : Led ds (inG l g') k) : g = g' := by
  obtain ⟨c, hc⟩ := q.row
  obtain ⟨c', hc'⟩ := q'.row
  have a := (mem_inG.mp hc).2
  have b := (mem_inG.mp hc').2
  exact h.eq h' (class_adj h a (h'.sub _ b) (.inl rfl)) b
theorem flatMap_nodup {M : List (List Key2)} {f : List Key2 → List Key2} (hn : M.Nodup) (hu : ∀ g ∈ M, (f g).Nodup) (hd : ∀ g ∈ M, ∀ g' ∈ M, ∀ a, a ∈ f g → a ∈ f g' → g = g') : (M.flatMap f).Nodup := by
  induction M with
  | nil => simp
  | cons g r ih =>
    have h1 := List.nodup_cons.mp hn
    rw [List.flatMap_cons, List.nodup_append]
    refine ⟨hu g List.mem_cons_self, ih h1.2 (fun x hx => hu x (List.mem_cons_of_mem _ hx)) fun x hx y hy => hd x (List.mem_cons_of_mem _ hx) y (List.mem_cons_of_mem _ hy), fun a ha b hb e => ?_⟩
    subst e
    obtain ⟨g', hg', ha'⟩ := List.mem_flatMap.mp hb
    have := hd g List.mem_cons_self g' (List.mem_cons_of_mem _ hg') a ha ha'
    rw [this] at h1
    exact h1.1 hg'
theorem seen_groups (hk : Up ks) (h4 : In4 ks) (hl : ∀ k ∈ l, k ∈ ks) : sortK ((groupsK ks).flatMap fun g => seenK (ds.filter fun k => decide (k ∈ g)) (inG l g)) = seenK ds l := by
  have hn := up_nodup hk
  have i4 := h4.sub hl
  have g4 : ∀ g, In4 (inG l g) := fun g => i4.sub fun k hk => (mem_inG.mp hk).1
  refine seenK_is i4 (sortK_up (flatMap_nodup (upS_nodup (groupsK_up hn)) (fun g _ => up_nodup (seenK_up _ _)) fun g hg g' hg' a ha ha' => ?_)) fun k => ?_
  · rw [mem_seenK (g4 _), led_ds] at ha ha'
    exact led_one ((mem_groupsK hn).mp hg) ((mem_groupsK hn).mp hg') ha ha'
  · rw [mem_sortK, List.mem_flatMap]
    constructor
    · rintro ⟨g, _, q⟩
      rw [mem_seenK (g4 _), led_ds] at q
      exact led_of_group q
    · intro q
      obtain ⟨g, h1, h2⟩ := led_group hn hl q
      exact ⟨g, (mem_groupsK hn).mpr h1, by rw [mem_seenK (g4 _), led_ds]; exact h2⟩
theorem ghost_groups (hk : Up ks) (h4 : In4 ks) (hl : ∀ k ∈ l, k ∈ ks) : sortK ((groupsK ks).flatMap fun g => (seenK ds (inG l g)).filter fun k => !decide (k ∈ inG l g)) = (seenK ds l).filter fun k => !decide (k ∈ l) := by
  have hn := up_nodup hk
  have i4 := h4.sub hl
  have g4 : ∀ g, In4 (inG l g) := fun g => i4.sub fun k hk => (mem_inG.mp hk).1
  refine up_unique (sortK_up (flatMap_nodup (upS_nodup (groupsK_up hn)) (fun g _ => (up_nodup (seenK_up _ _)).filter _) fun g hg g' hg' a ha ha' => ?_)) ((seenK_up _ _).filter _) fun k => ?_
  · have ha := (List.mem_filter.mp ha).1
    have ha' := (List.mem_filter.mp ha').1
    rw [mem_seenK (g4 _)] at ha ha'
    exact led_one ((mem_groupsK hn).mp hg) ((mem_groupsK hn).mp hg') ha ha'
  · rw [mem_sortK, List.mem_flatMap, List.mem_filter, mem_seenK i4]
    simp only [Bool.not_eq_true', decide_eq_false_iff_not]
    constructor
    · rintro ⟨g, hg, q⟩
      have q1 := (List.mem_filter.mp q).1
      have q2 : k ∉ inG l g := by simpa using (List.mem_filter.mp q).2
      rw [mem_seenK (g4 _)] at q1
      refine ⟨led_of_group q1, fun z => q2 (mem_inG.mpr ⟨z, ?_⟩)⟩
      obtain ⟨c, hc⟩ := q1.row
      exact class_adj ((mem_groupsK hn).mp hg) (mem_inG.mp hc).2 (hl _ z) (.inl rfl)
    · rintro ⟨q, q2⟩
      obtain ⟨g, h1, h2⟩ := led_group hn hl q
      refine ⟨g, (mem_groupsK hn).mpr h1, List.mem_filter.mpr ⟨by rw [mem_seenK (g4 _)]; exact h2, ?_⟩⟩
      have : k ∉ inG l g := fun z => q2 (mem_inG.mp z).1
      simpa using this
/-! ### spreading -/
structure SP (ks : List Key2) (key : Key2) (D some left : List Key2) : Prop where
  nd : some.Nodup
  con : ∀ x ∈ some, Conn ks key x
  st : key ∈ some
  sub : ∀ x ∈ some, x ∈ D ∨ x ∈ left
  dn : ∀ x ∈ D, ∀ y ∈ ks, adjK x y → y ∈ some
  lf : ∀ x ∈ left, x ∈ some
structure SPI (ks : List Key2) (key here : Key2) (D some left : List Key2) (i : Nat) : Prop where
  nd : some.Nodup
  con : ∀ x ∈ some, Conn ks key x
  st : key ∈ some
  hr : here ∈ some
  sub : ∀ x ∈ some, x = here ∨ x ∈ D ∨ x ∈ left
  dn : ∀ x ∈ D, ∀ y ∈ ks, adjK x y → y ∈ some
  lf : ∀ x ∈ left, x ∈ some
  up : ∀ y ∈ ks.take i, adjK here y → y ∈ some
theorem SP.start (ks : List Key2) (key : Key2) : SP ks key [] [key] [key] where
  nd := by simp
  con := fun x hx => by
    rw [List.mem_singleton.mp hx]
    exact .here
  st := by simp
  sub := fun x hx => .inr hx
  dn := fun x hx => by cases hx
  lf := fun x hx => hx
theorem SP.pop {key here : Key2} {D some left : List Key2} (h : SP ks key D some (left ++ [here])) : SPI ks key here D some left 0 where
  nd := h.nd
  con := h.con
  st := h.st
  hr := h.lf here (by simp)
  sub := fun x hx => by
    rcases h.sub x hx with q | q
    · exact .inr (.inl q)
    · rcases List.mem_append.mp q with q | q
      · exact .inr (.inr q)
      · exact .inl (List.mem_singleton.mp q)
  dn := h.dn
  lf := fun x hx => h.lf x (List.mem_append_left _ hx)
  up := fun y hy => by simp at hy
theorem SPI.done {key here : Key2} {D some left : List Key2} {i : Nat} (h : SPI ks key here D some left i) (hi : ks.length ≤ i) : SP ks key (here :: D) some left where
  nd := h.nd
  con := h.con
  st := h.st
  sub := fun x hx => by
    rcases h.sub x hx with q | q | q
    · exact .inl (by rw [q]; exact List.mem_cons_self)
    · exact .inl (List.mem_cons_of_mem _ q)
    · exact .inr q
  dn := fun x hx y hy q => by
    rcases List.mem_cons.mp hx with rfl | hx
    · exact h.up y (by rw [List.take_of_length_le hi]; exact hy) q
    · exact h.dn x hx y hy q
  lf := h.lf
theorem SPI.skip {key here k : Key2} {D some left : List Key2} {i : Nat} (h : SPI ks key here D some left i) (hk : ks[i]? = Option.some k) (hq : adjK here k → k ∈ some) : SPI ks key here D some left (i + 1) :=
  ⟨h.nd, h.con, h.st, h.hr, h.sub, h.dn, h.lf, fun y hy q => by
    rw [List.take_succ, hk] at hy
    rcases List.mem_append.mp hy with z | z
    · exact h.up y z q
    · have : y = k := by simpa using z
      subst this
      exact hq q⟩
theorem SPI.take {key here k : Key2} {D some left : List Key2} {i : Nat} (h : SPI ks key here D some left i) (hk : ks[i]? = Option.some k) (h1 : k ∉ some) (h2 : adjK here k) : SPI ks key here D (some ++ [k]) (left ++ [k]) (i + 1) := by
  have hm : k ∈ ks := List.mem_of_getElem? hk
  refine ⟨?_, fun x hx => ?_, List.mem_append_left _ h.st, List.mem_append_left _ h.hr, fun x hx => ?_, fun x hx y hy q => List.mem_append_left _ (h.dn x hx y hy q), fun x hx => ?_, fun y hy q => ?_⟩
  · rw [List.nodup_append]
    refine ⟨h.nd, by simp, fun a ha b hb e => ?_⟩
    rw [List.mem_singleton.mp hb] at e
    exact h1 (e ▸ ha)
  · rcases List.mem_append.mp hx with z | z
    · exact h.con x z
    · rw [List.mem_singleton.mp z]
      exact .on (h.con _ h.hr) hm h2
  · rcases List.mem_append.mp hx with z | z
    · rcases h.sub x z with q | q | q
      · exact .inl q
      · exact .inr (.inl q)
      · exact .inr (.inr (List.mem_append_left _ q))
    · exact .inr (.inr (List.mem_append_right _ z))
  · rcases List.mem_append.mp hx with z | z
    · exact List.mem_append_left _ (h.lf x z)
    · exact List.mem_append_right _ z
  · rw [List.take_succ, hk] at hy
    rcases List.mem_append.mp hy with z | z
    · exact List.mem_append_left _ (h.up y z q)
    · have : y = k := by simpa using z
      subst this
      simp
theorem SP.end {key : Key2} {D some : List Key2} (h : SP ks key D some []) (hk : key ∈ ks) : IsClass ks (sortK some) := by
  refine ⟨sortK_up h.nd, key, hk, fun b => ?_⟩
  rw [mem_sortK]
  refine ⟨h.con b, fun q => ?_⟩
  induction q with
  | here => exact h.st
  | on _ q1 q2 ih =>
    rcases h.sub _ ih with z | z
    · exact h.dn _ z _ q1 q2
    · cases z
theorem SP.len {key : Key2} {some : List Key2} (nd : some.Nodup) (con : ∀ x ∈ some, Conn ks key x) (hk : key ∈ ks) : some.length ≤ ks.length := nodup_sub nd fun x hx => (con x hx).mem hk
end
end Mini
/-! Pads without ghosts, in plain words. -/
namespace Mini
open PySem L2
/-- a key that leads to another row, and on -/
def leadsB (ks : List Key2) (k : Key2) : Bool := (ks.any fun one => decide (one.2 = k.2) && !decide (one.1 = k.1)) && ks.any fun one => decide (one.1 = k.1) && !decide (one.2 = k.2)
theorem leadsB_iff {ks : List Key2} {k : Key2} : leadsB ks k = true ↔ (∃ r, (r, k.2) ∈ ks ∧ r ≠ k.1) ∧ ∃ c, (k.1, c) ∈ ks ∧ c ≠ k.2 := by
  unfold leadsB
  simp only [Bool.and_eq_true, List.any_eq_true, decide_eq_true_eq, Bool.not_eq_true', decide_eq_false_iff_not]
  constructor
  · rintro ⟨⟨⟨a, b⟩, h1, h2, h3⟩, ⟨⟨c, d⟩, h4, h5, h6⟩⟩
    simp only at h2 h3 h5 h6
    subst h2 h5
    exact ⟨⟨a, h1, h3⟩, d, h4, h6⟩
  · rintro ⟨⟨r, h1, h2⟩, c, h3, h4⟩
    exact ⟨⟨(r, k.2), h1, rfl, h2⟩, (k.1, c), h3, rfl, h4⟩
def needK (ks : List Key2) : List Key2 := ks.filter (leadsB ks)
theorem needK_up {ks : List Key2} (h : Up ks) : Up (needK ks) := h.filter _
theorem needK_sub {ks : List Key2} : ∀ k ∈ needK ks, k ∈ ks := fun k hk => (List.mem_filter.mp hk).1
/-- no keys have ghosts -/
def Clean (ks ds : List Key2) : Prop := ∀ k ∈ needK ks, k ∈ ds
def Ghosty (ds s : List Key2) : Prop := ∃ k, Led ds s k ∧ k ∉ s
/-- a ghost comes by three keys -/
theorem ghost_three {ds s : List Key2} {k : Key2} (h : Led ds s k) (hk : k ∉ s) : ∃ r0 c0 r1 c1, (r0, c0) ∈ s ∧ (r1, c0) ∈ s ∧ (r1, c1) ∈ s ∧ (r1, c0) ∉ ds ∧ r1 ≠ r0 ∧ c1 ≠ c0 ∧ (r0, c1) ∉ s := by
  obtain ⟨row, c⟩ := k
  obtain ⟨r, h1, h2⟩ := h
  simp only at h1 h2
  induction h1 generalizing c with
  | here => exact absurd h2 hk
  | @on r1 c1 r2 q1 q2 q3 q4 ih =>
    by_cases hx : (row, c1) ∈ s
    · by_cases e : r2 = row
      · rw [e] at h2
        exact absurd h2 hk
      · refine ⟨row, c1, r2, c, hx, q3, h2, q4, e, fun z => ?_, hk⟩
        rw [z] at hk
        exact hk hx
    · exact ih c1 hx q2
theorem ghosty_three {ds s : List Key2} : Ghosty ds s ↔ ∃ r0 c0 r1 c1, (r0, c0) ∈ s ∧ (r1, c0) ∈ s ∧ (r1, c1) ∈ s ∧ (r1, c0) ∉ ds ∧ r1 ≠ r0 ∧ c1 ≠ c0 ∧ (r0, c1) ∉ s := by
  constructor
  · rintro ⟨k, h1, h2⟩
    exact ghost_three h1 h2
  · rintro ⟨r0, c0, r1, c1, h1, h2, h3, h4, h5, h6, h7⟩
    exact ⟨(r0, c1), ⟨r1, .on .here h1 h2 h4, h3⟩, h7⟩
theorem clean_iff {ks ds : List Key2} : Clean ks ds ↔ ∀ s, (∀ k ∈ s, k ∈ ks) → ¬ Ghosty ds s := by
  constructor
  · intro h s hs hg
    obtain ⟨r0, c0, r1, c1, h1, h2, h3, h4, h5, h6, h7⟩ := ghosty_three.mp hg
    refine h4 (h _ (List.mem_filter.mpr ⟨hs _ h2, leadsB_iff.mpr ⟨⟨r0, hs _ h1, Ne.symm h5⟩, c1, hs _ h3, h6⟩⟩))
  · intro h k hk
    refine Classical.byContradiction fun hd => ?_
    obtain ⟨h1, h2⟩ := List.mem_filter.mp hk
    obtain ⟨⟨r, a1, a2⟩, c, b1, b2⟩ := leadsB_iff.mp h2
    refine h [(r, k.2), k, (k.1, c)] (fun x hx => ?_) (ghosty_three.mpr ⟨r, k.2, k.1, c, by simp, by simp, by simp, hd, Ne.symm a2, b2, ?_⟩)
    · simp only [List.mem_cons, List.not_mem_nil, or_false] at hx
      rcases hx with rfl | rfl | rfl
      · exact a1
      · exact h1
      · exact b1
    · simp only [List.mem_cons, List.not_mem_nil, or_false, Prod.mk.injEq]
      rintro (⟨_, z⟩ | z | ⟨z, _⟩)
      · exact b2 z
      · exact a2 (congrArg Prod.fst z)
      · exact a2 z
/-- the ghosts of a set -/
theorem ghosts_ne {ds s : List Key2} (h : In4 s) : (seenK ds s).filter (fun k => !decide (k ∈ s)) ≠ [] ↔ Ghosty ds s := by
  constructor
  · intro q
    obtain ⟨k, r, e⟩ := List.exists_cons_of_ne_nil q
    have hk : k ∈ (seenK ds s).filter (fun k => !decide (k ∈ s)) := by rw [e]; exact List.mem_cons_self
    obtain ⟨h1, h2⟩ := List.mem_filter.mp hk
    exact ⟨k, (mem_seenK h).mp h1, by simpa using h2⟩
  · rintro ⟨k, h1, h2⟩ e
    have : k ∈ (seenK ds s).filter (fun k => !decide (k ∈ s)) := List.mem_filter.mpr ⟨(mem_seenK h).mpr h1, by simpa using h2⟩
    rw [e] at this
    cases this
theorem three_len {s : List Key2} {a b c : Key2} (h1 : a ∈ s) (h2 : b ∈ s) (h3 : c ∈ s) (e1 : a ≠ b) (e2 : a ≠ c) (e3 : b ≠ c) : 3 ≤ s.length := by
  have : [a, b, c].length ≤ s.length := nodup_sub (by simp [e1, e2, e3]) fun x hx => by
    simp only [List.mem_cons, List.not_mem_nil, or_false] at hx
    rcases hx with rfl | rfl | rfl <;> assumption
  simpa using this
theorem ghosty_len {ds s : List Key2} (h : Ghosty ds s) : 3 ≤ s.length := by
  obtain ⟨r0, c0, r1, c1, h1, h2, h3, h4, h5, h6, h7⟩ := ghosty_three.mp h
  exact three_len h1 h2 h3 (fun e => h5 (congrArg Prod.fst e).symm) (fun e => h6 (congrArg Prod.snd e).symm) (fun e => h6 (congrArg Prod.snd e).symm)
/-- with ghosts there is a set of three that has some -/
theorem ghosty_small {ks ds s : List Key2} (hk : Up ks) (hs : ∀ k ∈ s, k ∈ ks) (h : Ghosty ds s) : ∃ t, t.Sublist ks ∧ Ghosty ds t ∧ t.length = 3 := by
  obtain ⟨r0, c0, r1, c1, h1, h2, h3, h4, h5, h6, h7⟩ := ghosty_three.mp h
  obtain ⟨t, et⟩ : ∃ t, t = setP [(r0, c0), (r1, c0), (r1, c1)] := ⟨_, rfl⟩
  have mt : ∀ k, k ∈ t ↔ k = (r0, c0) ∨ k = (r1, c0) ∨ k = (r1, c1) := fun k => by
    rw [et, setP_mem]
    simp
  have hsub : ∀ k ∈ t, k ∈ ks := fun k hk => by
    rcases (mt k).mp hk with rfl | rfl | rfl
    · exact hs _ h1
    · exact hs _ h2
    · exact hs _ h3
  have up : Up t := by rw [et]; exact setP_up _
  have gt : Ghosty ds t := ghosty_three.mpr ⟨r0, c0, r1, c1, (mt _).mpr (.inl rfl), (mt _).mpr (.inr (.inl rfl)), (mt _).mpr (.inr (.inr rfl)), h4, h5, h6, fun z => by
    rcases (mt _).mp z with e | e | e
    · exact h6 (congrArg Prod.snd e)
    · exact h5 (congrArg Prod.fst e).symm
    · exact h5 (congrArg Prod.fst e).symm⟩
  refine ⟨t, (sublist_iff hk).mpr ⟨up, hsub⟩, gt, ?_⟩
  have l1 := ghosty_len gt
  have l2 : t.length ≤ [(r0, c0), (r1, c0), (r1, c1)].length := nodup_sub (up_nodup up) fun k hk => by
    rcases (mt k).mp hk with rfl | rfl | rfl <;> simp
  simp at l2
  omega
open Classical in
/-- the sets of three keys that have ghosts, rising -/
noncomputable def gSets (ks ds : List Key2) : List (List Key2) := (allS ks).filter fun s => decide (s.length = 3 ∧ Ghosty ds s)
noncomputable def firstG (ks ds : List Key2) : Option (List Key2) := (gSets ks ds).head?
open Classical in
theorem mem_gSets {ks ds s : List Key2} : s ∈ gSets ks ds ↔ s.Sublist ks ∧ s.length = 3 ∧ Ghosty ds s := by
  unfold gSets
  rw [List.mem_filter, mem_allS, decide_eq_true_eq]
theorem gSets_up {ks ds : List Key2} (h : ks.Nodup) : UpS (gSets ks ds) := (allS_up h).filter _
theorem firstG_none {ks ds : List Key2} (hk : Up ks) : firstG ks ds = none ↔ Clean ks ds := by
  unfold firstG
  rw [List.head?_eq_none_iff, clean_iff]
  constructor
  · intro e s hs hg
    obtain ⟨t, h1, h2, h3⟩ := ghosty_small hk hs hg
    have : t ∈ gSets ks ds := mem_gSets.mpr ⟨h1, h3, h2⟩
    rw [e] at this
    cases this
  · intro h
    rw [List.eq_nil_iff_forall_not_mem]
    intro s hs
    obtain ⟨h1, _, h2⟩ := mem_gSets.mp hs
    exact h s (fun k hk => h1.subset hk) h2
theorem firstG_some {ks ds s : List Key2} (hn : ks.Nodup) : firstG ks ds = some s → s.Sublist ks ∧ s.length = 3 ∧ Ghosty ds s ∧ ∀ t ∈ gSets ks ds, t = s ∨ ltS s t = true := by
  intro e
  unfold firstG at e
  cases eg : gSets ks ds with
  | nil => rw [eg] at e; cases e
  | cons x r =>
    rw [eg] at e
    cases e
    have hm : s ∈ gSets ks ds := by rw [eg]; exact List.mem_cons_self
    obtain ⟨h1, h2, h3⟩ := mem_gSets.mp hm
    have hu := gSets_up (ds := ds) hn
    rw [eg] at hu
    refine ⟨h1, h2, h3, fun t ht => ?_⟩
    rcases List.mem_cons.mp ht with z | z
    · exact .inl z
    · exact .inr ((List.pairwise_cons.mp hu).1 t z)
end Mini
/-! What diodes.py computes. -/
namespace Mini
open PySem L2
section
variable {T : Str → Option Fn} {n m : Nat} {S : Sto}
structure TNeed (T : Str → Option Fn) : Prop where
  leads_back : T "leads_back" = some f_leads_back
  needed : T "needed" = some f_needed
structure TClean (T : Str → Option Fn) : Prop where
  is_clean : T "is_clean" = some f_is_clean
structure TFirst (T : Str → Option Fn) : Prop where
  first_ghost : T "first_ghost" = some f_first_ghost
structure TSafe (T : Str → Option Fn) : Prop where
  most_safe : T "most_safe" = some f_most_safe
theorem filt_any (l : List Key2) (f : Key2 → Bool) : (!decide (l.filter f = [])) = l.any f := by
  cases e : l.any f with
  | true =>
    obtain ⟨x, h1, h2⟩ := List.any_eq_true.mp e
    have : l.filter f ≠ [] := fun z => by
      have : x ∈ l.filter f := List.mem_filter.mpr ⟨h1, h2⟩
      rw [z] at this
      cases this
    simp [this]
  | false =>
    have : l.filter f = [] := List.filter_eq_nil_iff.mpr fun x hx q => by
      have : l.any f = true := List.any_eq_true.mpr ⟨x, hx, q⟩
      rw [e] at this
      cases this
    simp [this]
theorem c_leads_back (hT : TNeed T) (hn : 1 ≤ n) {p : PadR} (h : WF p) (k : Key2) : callF T n "leads_back" [encPad p, encP k] S = .ok (.bool (leadsB p.ks k)) S := by
  obtain ⟨m, rfl⟩ : ∃ m, n = m + 1 := ⟨n - 1, by omega⟩
  rw [callF_eq hT.leads_back rfl]
  have h8 := h.k8
  obtain ⟨F1, eF1⟩ : ∃ F, F = p.ks.filter fun one => decide (one.2 = k.2) && !decide (one.1 = k.1) := ⟨_, rfl⟩
  obtain ⟨F2, eF2⟩ : ∃ F, F = p.ks.filter fun one => decide (one.1 = k.1) && !decide (one.2 = k.2) := ⟨_, rfl⟩
  have k1 : ∀ o4 o6, evE (callF T m) .f k_leads_back_1 [.val (encPad p), .val (encP k), .val (.int k.1), .val (.int k.2), o4, .no, o6] S = .ok (.list (F1.map encP)) S := fun o4 o6 => by
    rw [eF1]
    exact comp_filter (v := 5) (xs := p.ks) (d := .tuple (p.ks.map encP)) _ (by simp) (by simp) rfl (by omega) fun x _ => by
      by_cases q : x.2 = k.2 <;> simp [q]
  have k2 : ∀ o4 o6, evE (callF T m) .f k_leads_back_2 [.val (encPad p), .val (encP k), .val (.int k.1), .val (.int k.2), o4, .no, o6] S = .ok (.list (F2.map encP)) S := fun o4 o6 => by
    rw [eF2]
    exact comp_filter (v := 5) (xs := p.ks) (d := .tuple (p.ks.map encP)) _ (by simp) (by simp) rfl (by omega) fun x _ => by
      by_cases q : x.1 = k.1 <;> simp [q]
  have fr1 : fresh k_leads_back_1 = true := rfl
  have fr2 : fresh k_leads_back_2 = true := rfl
  have st : ∀ env : Mini.Env, setT (.tp [2, 3]) (encP k) env = some ((env.set 2 (.val (.int k.1))).set 3 (.val (.int k.2))) := fun _ => rfl
  have a1 : (!decide (F1 = [])) = p.ks.any fun one => decide (one.2 = k.2) && !decide (one.1 = k.1) := by rw [eF1, filt_any]
  have a2 : (!decide (F2 = [])) = p.ks.any fun one => decide (one.1 = k.1) && !decide (one.2 = k.2) := by rw [eF2, filt_any]
  have lb : leadsB p.ks k = ((!decide (F1 = [])) && !decide (F2 = [])) := by rw [a1, a2]; rfl
  rw [lb]
  simp only [f_leads_back]
  by_cases e1 : F1 = []
  · simp [frz1, st, fr1, fr2, k1, k2, slOf, lim_small, cmp_neL0, e1]
    have n0 : cmpF .ne (.list []) (.list []) = some false := cmp_neL [] []
    simp [n0]
  · simp [frz1, st, fr1, fr2, k1, k2, slOf, lim_small, cmp_neL0, e1]
theorem c_needed (hP : TPad0 T) (hT : TNeed T) (hn : 5 ≤ n) {p : PadR} (h : WF p) : callF T n "needed" [encPad p] S = .ok (.list ((needK p.ks).map encP)) S := by
  obtain ⟨m, rfl⟩ : ∃ m, n = m + 1 := ⟨n - 1, by omega⟩
  rw [callF_eq hT.needed rfl]
  have h8 := h.k8
  have k1 : evE (callF T m) .v k_needed_1 [.val (encPad p), .no] S = .ok (.list ((needK p.ks).map encP)) S :=
    comp_filter (v := 1) (xs := p.ks) (d := .tuple (p.ks.map encP)) _ (by simp) (by simp) rfl (by omega) fun x _ => by
      simp [c_leads_back hT (show 1 ≤ m by omega) h]
  simp only [f_needed]
  simp [frz1, c_look_pad0 hP (show 4 ≤ m by omega) h, k1]
def cleanB (ks ds : List Key2) : Bool := (needK ks).all fun k => decide (k ∈ ds)
theorem cleanB_iff {ks ds : List Key2} : cleanB ks ds = true ↔ Clean ks ds := by
  unfold cleanB Clean
  rw [List.all_eq_true]
  simp only [decide_eq_true_eq]
theorem cleanB_no {ks ds : List Key2} : cleanB ks ds = false ↔ ¬ Clean ks ds := by rw [← cleanB_iff]; simp
theorem needK_len {p : PadR} (h : WF p) : (needK p.ks).length ≤ 8 := Nat.le_trans (List.length_filter_le _ _) h.k8
theorem c_is_clean (hP : TPad0 T) (hN : TNeed T) (hT : TClean T) (hn : 6 ≤ n) {p : PadR} (h : WF p) : callF T n "is_clean" [encPad p] S = .ok (.bool (cleanB p.ks p.ds)) S := by
  obtain ⟨m, rfl⟩ : ∃ m, n = m + 1 := ⟨n - 1, by omega⟩
  rw [callF_eq hT.is_clean rfl]
  have h8 := needK_len h
  have nd := c_needed (S := S) hP hN (show 5 ≤ m by omega) h
  have k1 : evE (callF T m) .b k_is_clean_1 [.val (encPad p), .no] S = .ok (.list ((needK p.ks).map fun k => .bool (decide (k ∈ p.ds)))) S :=
    comp_map (v := 1) (enc := encP) (xs := needK p.ks) (d := .list ((needK p.ks).map encP)) _ (by simp [nd]) rfl (by omega) fun x _ => by simp
  simp only [f_is_clean]
  simp [frz1, k1, p_all]
  rfl
/-! ### first_ghost -/
def encO : Option (List Key2) → D
  | none => .none
  | some s => encT s
def encN (s : List Key2) : D := .tuple [.int s.length, encT s]
theorem alike_encT (a b : List Key2) : W.alike (encT a) (encT b) = true := by
  unfold encT
  rw [W.alike, alike_keys]
theorem pure_encN (s : List Key2) : pure1 (encN s) = true := by
  have h1 : (encT s).canLay0 = true := by unfold encT; rw [lay_tuple, lay_keys]
  have h2 : (encT s).depth ≤ 2 := by
    unfold encT
    rw [PyData.depth]
    have := depth_keys s
    omega
  unfold pure1 SeqAt.shaped encN
  rw [lay_tuple]
  simp only [PyData.canLayAll0, PyData.canLay0, h1, PyData.depth, PyData.depthAll]
  simp
  omega
theorem lay_encN : ∀ xs : List (List Key2), PyData.canLayAll0 (xs.map encN) = true ∧ PyData.depthAll (xs.map encN) ≤ 3
  | [] => by simp [PyData.canLayAll0, PyData.depthAll]
  | x :: r => by
    have ih := lay_encN r
    show PyData.canLayAll0 (encN x :: r.map encN) = true ∧ PyData.depthAll (encN x :: r.map encN) ≤ 3
    have h1 : (encT x).canLay0 = true := by unfold encT; rw [lay_tuple, lay_keys]
    have h2 : (encT x).depth ≤ 2 := by
      unfold encT
      rw [PyData.depth]
      have := depth_keys x
      omega
    have h3 : (encN x).canLay0 = true := by
      unfold encN
      rw [lay_tuple]
      simp [PyData.canLayAll0, PyData.canLay0, h1]
    have h4 : (encN x).depth ≤ 3 := by
      unfold encN
      simp only [PyData.depth, PyData.depthAll]
      omega
    rw [PyData.canLayAll0, PyData.depthAll, h3, ih.1]
    exact ⟨rfl, by omega⟩
theorem ne_nilN (xs : List (List Key2)) : cmpF .ne (.list (xs.map encN)) (.list []) = some (!decide (xs = [])) := by
  have e1 : pure1 (.list (xs.map encN)) = true := by
    unfold pure1 SeqAt.shaped
    rw [lay_list, (lay_encN xs).1, PyData.depth]
    have := (lay_encN xs).2
    simp
    omega
  rw [c_ne, e1, show pure1 (.list []) = true from pure_lst []]
  cases xs <;> simp [PyData.eqv, PyData.eqvAll]
theorem alikes_encN (xs : List (List Key2)) : alikes (xs.map encN) = true := by
  unfold alikes
  rw [Bool.and_eq_true, Bool.or_eq_true]
  refine ⟨List.all_eq_true.mpr fun x hx => ?_, .inl (List.all_eq_true.mpr fun x hx => ?_)⟩
  · obtain ⟨p, _, rfl⟩ := List.mem_map.mp hx
    rw [Bool.and_eq_true, Bool.and_eq_true]
    refine ⟨⟨pure_encN p, rfl⟩, List.all_eq_true.mpr fun y hy => ?_⟩
    obtain ⟨q, _, rfl⟩ := List.mem_map.mp hy
    unfold encN
    simp [W.alike, W.alikeAll, alike_encT]
  · obtain ⟨p, _, rfl⟩ := List.mem_map.mp hx
    rfl
theorem dataLt_encN {a b : List Key2} (h : a.length = b.length) : W.dataLt (encN a) (encN b) = ltS a b := by
  unfold encN
  rw [W.dataLt_pair (by simp [W.alike]) (alike_encT a b), dataLt_encT, show PyData.eqv (encT a) (encT b) = decide (a = b) from eqv_tup a b, h]
  simp only [PyData.eqv, beq_self_eq_true, if_true]
  by_cases e : a = b
  · subst e
    simp [ltS_irr]
  · simp [e]
theorem leastD_first {x : D} : ∀ {xs : List D}, (∀ y ∈ xs, W.dataLt y x = false) → leastD x xs = x
  | [], _ => rfl
  | y :: r, h => by
    rw [leastD, h y List.mem_cons_self]
    simp only [Bool.false_eq_true, if_false]
    exact leastD_first fun z hz => h z (List.mem_cons_of_mem _ hz)
theorem min_gSets {ks ds x : List Key2} {r : List (List Key2)} (hn : ks.Nodup) (e : gSets ks ds = x :: r) : primF .min [.list ((x :: r).map encN)] = some (encN x) := by
  have hu := gSets_up (ds := ds) hn
  rw [e] at hu
  have h3 : ∀ y ∈ x :: r, y.length = 3 := fun y hy => (mem_gSets.mp (by rw [e]; exact hy)).2.1
  show (if alikes ((x :: r).map encN) then some (leastD (encN x) (r.map encN)) else none) = _
  rw [alikes_encN, if_pos rfl, leastD_first]
  intro y hy
  obtain ⟨s, hs, rfl⟩ := List.mem_map.mp hy
  rw [dataLt_encN (by rw [h3 s (List.mem_cons_of_mem _ hs), h3 x List.mem_cons_self])]
  have q := (List.pairwise_cons.mp hu).1 s hs
  cases z : ltS s x with
  | false => rfl
  | true =>
    have := ltS_trans _ _ _ q z
    rw [ltS_irr] at this
    cases this
open Classical in
theorem c_first_ghost (hP : TPad0 T) (hC : TScan T) (hA : TAll T) (hG : TGhO T) (hT : TFirst T) (hn : 5 ≤ n) {p : PadR} (h : WF p) : callF T n "first_ghost" [encPad p] S = .ok (encO (firstG p.ks p.ds)) S := by
  obtain ⟨m, rfl⟩ : ∃ m, n = m + 1 := ⟨n - 1, by omega⟩
  rw [callF_eq hT.first_ghost rfl]
  have h8 := h.k8
  have al := c_all_sets (S := S) hA (show 1 ≤ m by omega) (d := .tuple (p.ks.map encP)) rfl h8
  have A8 := allS_len h8
  have k1 : evE (callF T m) .f k_first_ghost_1 [.val (encPad p), .no, .no] S = .ok (.list ((gSets p.ks p.ds).map encN)) S := by
    unfold k_first_ghost_1
    rw [comp_run (enc := encT) (xs := allS p.ks) (g := fun s => if decide (s.length = 3 ∧ Ghosty p.ds s) then some (encN s) else none) (d := .list ((allS p.ks).map encT)) ?_ rfl (by omega) ?_]
    · rw [filterMap_if]
      rfl
    · simp [al]
    · intro s hs
      have hs := mem_allS.mp hs
      have sl := sub_len h hs
      have i4 := h.in4.sub fun k hk => hs.subset hk
      have gh := c_ghosts_of (S := S) hC hG (show 3 ≤ m by omega) h (pr := s) (by omega) fun k hk => hs.subset hk
      have gh : callF T m "ghosts_of" [encPad p, encT s] S = .ok (.list (((seenK p.ds s).filter fun k => !decide (k ∈ s)).map encP)) S := gh
      have le : primF .len [encT s] = some (.int s.length) := by
        show some (PyData.int (s.map encP).length) = _
        rw [List.length_map]
      have gn := ghosts_ne (ds := p.ds) i4
      refine turn_if ?_ ?_
      · by_cases a : s.length < 4
        · have a' : (s.length : Int) < 4 := by omega
          by_cases b : Ghosty p.ds s
          · have := ghosty_len b
            have e3 : s.length = 3 := by omega
            have f := gn.mpr b
            simp only [e_and, e_cmp, e_prim, e_cons, e_nil, e_var, e_call, e_lst, e_cst]
            simp [-List.filter_eq_nil_iff, wipeS, le, a, a', gh, lim_small, cmp_neL0, f, e3, b]
          · have f : (seenK p.ds s).filter (fun k => !decide (k ∈ s)) = [] := Classical.byContradiction fun z => b (gn.mp z)
            have n0 : cmpF .ne (.list []) (.list []) = some false := cmp_neL [] []
            rw [f] at gh
            simp [wipeS, le, a, a', gh, lim_small, n0, b]
        · have a' : ¬ (s.length : Int) < 4 := by omega
          have : s.length ≠ 3 := by omega
          simp [wipeS, le, a, a', this]
      · simp [wipeS, le, lim_small]
        rfl
  have fr : fresh k_first_ghost_1 = true := rfl
  simp only [f_first_ghost]
  cases eg : gSets p.ks p.ds with
  | nil =>
    have ef : firstG p.ks p.ds = none := by unfold firstG; rw [eg]; rfl
    rw [eg] at k1
    have n0 : cmpF .ne (.list []) (.list []) = some false := cmp_neL [] []
    simp [frz1, c_look_pad0 hP (show 4 ≤ m by omega) h, fr, k1, slOf, lim_small, n0, ef, encO]
  | cons x r =>
    have ef : firstG p.ks p.ds = some x := by unfold firstG; rw [eg]; rfl
    rw [eg] at k1
    have n0 := ne_nilN (x :: r)
    have mn := min_gSets (up_nodup h.ku) eg
    have g1 : getF (encN x) (.int 1) = some (encT x) := at1
    simp only [List.map_cons] at k1 n0 mn
    simp [frz1, c_look_pad0 hP (show 4 ≤ m by omega) h, fr, k1, slOf, lim_small, n0, mn, g1, ef, encO]
theorem isNone_encO (o : Option (List Key2)) : isNone (encO o) = o.isNone := by cases o <;> rfl
theorem is_encO (o : Option (List Key2)) : cmpF .isn (encO o) .none = some o.isNone := by
  show some (isNone (encO o)) = _
  rw [isNone_encO]
theorem isnt_encO (o : Option (List Key2)) : cmpF .isnt (encO o) .none = some (!o.isNone) := by
  show (some (isNone (encO o))).map (!·) = _
  rw [isNone_encO]
  rfl
theorem ne_encO (o : Option (List Key2)) : cmpF .ne (encO o) (encO o) = some false := by
  cases o with
  | none => rfl
  | some s =>
    have := cmp_neT s s
    simp at this
    exact this
theorem len_encT (s : List Key2) : primF .len [encT s] = some (.int s.length) := by
  show some (PyData.int (s.map encP).length) = _
  rw [List.length_map]
theorem c_most_safe (hP : TPad0 T) (hC : TScan T) (hA : TAll T) (hG : TGhO T) (hF : TFirst T) (hT : TSafe T) (hn : 6 ≤ n) {p : PadR} (h : WF p) : callF T n "most_safe" [encPad p] S = .ok (.int (if (firstG p.ks p.ds).isNone then (p.ks.length : Int) else 2)) S := by
  obtain ⟨m, rfl⟩ : ∃ m, n = m + 1 := ⟨n - 1, by omega⟩
  rw [callF_eq hT.most_safe rfl]
  have fg := c_first_ghost (S := S) hP hC hA hG hF (show 5 ≤ m by omega) h
  simp only [f_most_safe]
  cases e : firstG p.ks p.ds with
  | none =>
    rw [e] at fg
    have i := is_encO none
    simp [frz1, fg, fresh, slOf, i]
  | some s =>
    rw [e] at fg
    have i := is_encO (some s)
    have s3 := (firstG_some (up_nodup h.ku) e).2.1
    have le : primF .len [encO (some s)] = some (.int s.length) := len_encT s
    simp [frz1, fg, fresh, slOf, i, le, s3]
end
end Mini
/-! Scanners: new ones; pads that show what is pressed. -/
namespace Mini
open PySem L2
section
variable {T : Str → Option Fn} {n m : Nat} {S : Sto} {i : Nat} {p : PadR} {h f q nn : Int} {st : Key2 → Kst} {k : Key2} {l : List Key2}
def okR (h f q : Int) : Prop := 1 ≤ h ∧ h ≤ 9 ∧ 0 ≤ f ∧ f ≤ 99 ∧ 1 ≤ q ∧ q ≤ 99
theorem s_init (hP : TPad0 T) (hT : TRul T) (hn : 5 ≤ n) (hp : WF p) (hr : okR h f q) : callF T n (mName "Scanner" "__init__") [objD S.length, encPad p, rulD h f q] (S ++ [⟨"Scanner", []⟩]) = .ok .none (S ++ [scn p h f q [] [] 0]) := by
  obtain ⟨m, rfl⟩ : ∃ m, n = m + 1 := ⟨n - 1, by omega⟩
  rw [callF_eq hT.init rfl]
  have e1 := c_look_pad0 (S := S ++ [⟨"Scanner", []⟩]) hP (show 4 ≤ m by omega) hp
  have e2 := c_are_rules (S := S ++ [⟨"Scanner", []⟩]) hP hT.are (show 2 ≤ m by omega) h f q
  obtain ⟨r1, r2, r3, r4, r5, r6⟩ := hr
  rw [decide_eq_true r1, decide_eq_true r2, decide_eq_true r3, decide_eq_true r4, decide_eq_true r5, decide_eq_true r6] at e2
  have gt : ∀ x : Ob, (S ++ [x])[S.length]? = some x := fun x => by simp
  have t1 : ∀ v, setFld (S ++ [⟨"Scanner", []⟩]) S.length "pad" v = S ++ [⟨"Scanner", [("pad", v)]⟩] := fun v => by
    unfold setFld
    simp only [gt]
    simp [putS]
  have t2 : ∀ a v, setFld (S ++ [⟨"Scanner", [("pad", a)]⟩]) S.length "rules" v = S ++ [⟨"Scanner", [("pad", a), ("rules", v)]⟩] := fun a v => by
    unfold setFld
    simp only [gt]
    have : putS "rules" v [("pad", a)] = ([("pad", a), ("rules", v)] : List (Str × Sl)) := by kernel_rfl
    simp [this]
  have t3 : ∀ a b v, setFld (S ++ [⟨"Scanner", [("pad", a), ("rules", b)]⟩]) S.length "since" v = S ++ [⟨"Scanner", [("pad", a), ("rules", b), ("since", v)]⟩] := fun a b v => by
    unfold setFld
    simp only [gt]
    have : putS "since" v [("pad", a), ("rules", b)] = ([("pad", a), ("rules", b), ("since", v)] : List (Str × Sl)) := by kernel_rfl
    simp [this]
  have t4 : ∀ a b c v, setFld (S ++ [⟨"Scanner", [("pad", a), ("rules", b), ("since", c)]⟩]) S.length "runs" v = S ++ [⟨"Scanner", [("pad", a), ("rules", b), ("since", c), ("runs", v)]⟩] := fun a b c v => by
    unfold setFld
    simp only [gt]
    have : putS "runs" v [("pad", a), ("rules", b), ("since", c)] = ([("pad", a), ("rules", b), ("since", c), ("runs", v)] : List (Str × Sl)) := by kernel_rfl
    simp [this]
  have t5 : ∀ a b c d v, setFld (S ++ [⟨"Scanner", [("pad", a), ("rules", b), ("since", c), ("runs", d)]⟩]) S.length "scans" v = S ++ [obj5 a b c d v] := fun a b c d v => by
    unfold setFld
    simp only [gt]
    have : putS "scans" v [("pad", a), ("rules", b), ("since", c), ("runs", d)] = ([("pad", a), ("rules", b), ("since", c), ("runs", d), ("scans", v)] : List (Str × Sl)) := by kernel_rfl
    simp [this, obj5]
  simp only [f_Scanner___init__]
  simp [frz1, fresh, slOf, slotD, e1, e2, lim_small, t1, t2, t3, t4, t5, scn, endF]
theorem scn0 (p : PadR) (h f q : Int) : IsS (scn p h f q [] [] 0) p h f q st0 0 := ⟨[], [], rfl, fun _ => rfl, fun _ => rfl, .nil, .nil, fun _ h => (by cases h), fun _ h => (by cases h)⟩
theorem s_new {cl : Calls} {env : Mini.Env} {md : Md} {as : E} (h1 : evE cl .v as env S = .ok (.tuple [encPad p, rulD h f q]) S) (h2 : cl (mName "Scanner" "__init__") [objD S.length, encPad p, rulD h f q] (S ++ [⟨"Scanner", []⟩]) = .ok .none (S ++ [scn p h f q [] [] 0])) : evE cl md (.new "Scanner" as) env S = .ok (objD S.length) (S ++ [scn p h f q [] [] 0]) := by
  rw [e_new, h1]
  simp [h2]
/-! ### what is read -/
theorem seen_clean (hp : WF p) (hc : Clean p.ks p.ds) (hl : ∀ k ∈ l, k ∈ p.ks) : seenK p.ds l = setP l := by
  refine (seenK_is (hp.in4.sub hl) (setP_up l) fun k => ?_).symm
  rw [setP_mem]
  refine ⟨led_self, fun z => ?_⟩
  by_cases q : k ∈ l
  · exact q
  · exact absurd ⟨k, z, q⟩ (clean_iff.mp hc l hl)
theorem sets_clean (hp : WF p) (hc : Clean p.ks p.ds) (hl : ∀ k ∈ l, k ∈ p.ks) : ∀ s, s ∈ setsAs p l ↔ s = setP l := by
  intro s
  rw [mem_setsAs, seen_clean hp hc hl]
  constructor
  · rintro ⟨z1, z2⟩
    have u : Up s := hp.ku.sublist z1
    rw [seen_clean hp hc fun k hk => z1.subset hk, setP_of_up u] at z2
    exact z2
  · rintro rfl
    refine ⟨setP_sublist hp hl, ?_⟩
    rw [seen_clean hp hc (setP_sub hl), setP_of_up (setP_up l)]
theorem must_clean (hp : WF p) (hc : Clean p.ks p.ds) (hl : ∀ k ∈ l, k ∈ p.ks) (hk : k ∈ p.ks) : sureB p l k = decide (k ∈ l) ∧ freeB p l k = !decide (k ∈ l) := by
  have e := sets_clean hp hc hl
  unfold sureB freeB mustK mayK
  constructor
  · congr 1
    rw [List.mem_filter, List.all_eq_true]
    refine propext ⟨fun z => ?_, fun z => ⟨hk, fun s hs => ?_⟩⟩
    · have := of_decide_eq_true (z.2 _ ((e _).mpr rfl))
      rwa [setP_mem] at this
    · rw [(e s).mp hs]
      exact decide_eq_true (setP_mem.mpr z)
  · congr 2
    rw [List.mem_filter, List.any_eq_true]
    refine propext ⟨fun ⟨_, s, hs, z⟩ => ?_, fun z => ⟨hk, setP l, (e _).mpr rfl, decide_eq_true (setP_mem.mpr z)⟩⟩
    rw [(e s).mp hs] at z
    exact setP_mem.mp (of_decide_eq_true z)
theorem st_clean (hp : WF p) (hc : Clean p.ks p.ds) (hl : ∀ k ∈ l, k ∈ p.ks) (hk : k ∈ p.ks) : stL p h nn st l k = rdS h nn (st k) (decide (k ∈ l)) := by
  obtain ⟨e1, e2⟩ := must_clean hp hc hl hk
  unfold stL stS
  rw [if_pos hk, e1, e2]
  cases decide (k ∈ l) <;> rfl
theorem wrd_clean (hp : WF p) (hc : Clean p.ks p.ds) (hl : ∀ k ∈ l, k ∈ p.ks) (hk : k ∈ p.ks) : wrdK p h 0 q nn st l k = if rdB h (st k) (decide (k ∈ l)) then some (if decide (k ∈ l) then .down else .up) else none := by
  obtain ⟨e1, e2⟩ := must_clean hp hc hl hk
  unfold wrdK stW
  rw [e1, e2]
  have e : (decide (k ∈ l) || !decide (k ∈ l)) = true := by cases decide (k ∈ l) <;> rfl
  rw [e, Bool.true_and]
  split
  · rfl
  · cases (st k).s with
    | none => rfl
    | some s => rfl
end
theorem clean_all (ks : List Key2) : Clean ks ks := fun k hk => needK_sub k hk
theorem clean_need (ks : List Key2) : Clean ks (needK ks) := fun k hk => hk
/-! ### comparing what is told -/
theorem evt_ok (e : Evt) : PyData.strOk e.s = true := by cases e <;> kernel_rfl
theorem evt_eq (a b : Evt) : PyData.eqv (.str a.s) (.str b.s) = decide (a = b) := by cases a <;> cases b <;> kernel_rfl
theorem eqv_encEv (a b : Key2 × Evt) : PyData.eqv (encEv a) (encEv b) = decide (a = b) := by
  obtain ⟨k, e⟩ := a
  obtain ⟨k', e'⟩ := b
  unfold encEv
  rw [PyData.eqv, PyData.eqvAll, PyData.eqvAll, PyData.eqvAll, eqv_encP, evt_eq]
  by_cases h1 : k = k' <;> by_cases h2 : e = e' <;> simp [h1, h2]
theorem eqv_evs : ∀ a b : List (Key2 × Evt), PyData.eqvAll (a.map encEv) (b.map encEv) = decide (a = b)
  | [], [] => by simp [PyData.eqvAll]
  | [], y :: r => by simp [PyData.eqvAll]
  | x :: r, [] => by simp [PyData.eqvAll]
  | x :: r, y :: t => by
    show PyData.eqvAll (encEv x :: r.map encEv) (encEv y :: t.map encEv) = _
    rw [PyData.eqvAll, eqv_evs r t, eqv_encEv]
    by_cases h1 : x = y <;> by_cases h2 : r = t <;> simp [h1, h2]
theorem lay_evs : ∀ a : List (Key2 × Evt), PyData.canLayAll0 (a.map encEv) = true ∧ PyData.depthAll (a.map encEv) ≤ 3
  | [] => by simp [PyData.canLayAll0, PyData.depthAll]
  | x :: r => by
    obtain ⟨h1, h2⟩ := lay_evs r
    show PyData.canLayAll0 (encEv x :: r.map encEv) = true ∧ PyData.depthAll (encEv x :: r.map encEv) ≤ 3
    rw [PyData.canLayAll0, h1, PyData.depthAll]
    have e1 : (encEv x).canLay0 = true := by simp [encEv, encP, PyData.canLay0, PyData.canLayAll0, evt_ok]
    have e2 : (encEv x).depth ≤ 3 := by simp [encEv, encP, PyData.depth, PyData.depthAll]
    rw [e1]
    exact ⟨rfl, by omega⟩
theorem pure_evs (a : List (Key2 × Evt)) : pure1 (.list (a.map encEv)) = true := by
  unfold pure1 SeqAt.shaped
  obtain ⟨h1, h2⟩ := lay_evs a
  rw [lay_list, h1, PyData.depth]
  simp
  omega
theorem cmp_neE (a b : List (Key2 × Evt)) : cmpF .ne (.list (a.map encEv)) (.list (b.map encEv)) = some (!decide (a = b)) := by
  rw [c_ne, pure_evs, pure_evs, PyData.eqv, eqv_evs]
  rfl
theorem cmp_neE0 (a : List (Key2 × Evt)) : cmpF .ne (.list (a.map encEv)) (.list []) = some (!decide (a = [])) := cmp_neE a []
end Mini
/-! Laws that draw from written lists: the kernel reckons. -/
namespace Mini
open PySem L2
def bodyOf : C → C
  | .for_ _ _ b => b
  | c => c
def sndOf : C → C
  | .seq _ b => b
  | c => c
def fstOf : C → C
  | .seq a _ => a
  | c => c
def nthOf : Nat → C → C
  | 0, c => c
  | n + 1, c => nthOf n (sndOf c)
/-- the first n of a row of statements -/
def takeC : Nat → C → C
  | 0, _ => .skip
  | n + 1, c => .seq (fstOf c) (takeC n (sndOf c))
theorem go {cl : Calls} {c : C} {env env1 : Mini.Env} {S S1 : Sto} (hc : c = .seq (fstOf c) (sndOf c)) (h : exS cl (fstOf c) env S = .nx env1 S1) : exS cl c env S = exS cl (sndOf c) env1 S1 := by
  conv => lhs; rw [hc, x_seq, h]
/-- are there n statements in the row -/
def hasN : Nat → C → Bool
  | 0, _ => true
  | n + 1, .seq _ b => hasN n b
  | _ + 1, _ => false
theorem goN {cl : Calls} : ∀ (n : Nat) {c : C} {env env1 : Mini.Env} {S S1 : Sto}, hasN n c = true → exS cl (takeC n c) env S = .nx env1 S1 → exS cl c env S = exS cl (nthOf n c) env1 S1
  | 0, c, env, env1, S, S1, _, h => by
    rw [takeC, x_skip] at h
    cases h
    rfl
  | n + 1, c, env, env1, S, S1, hn, h => by
    cases c with
    | seq a b =>
      rw [takeC, x_seq] at h
      rw [x_seq]
      show _ = exS cl (nthOf n b) env1 S1
      cases e : exS cl a env S with
      | nx e2 S2 =>
        have h : (match exS cl a env S with
          | .nx env1 S1 => exS cl (takeC n b) env1 S1
          | q => q) = .nx env1 S1 := h
        rw [e] at h
        exact goN n (show hasN n b = true from hn) h
      | _ =>
        have h : (match exS cl a env S with
          | .nx env1 S1 => exS cl (takeC n b) env1 S1
          | q => q) = .nx env1 S1 := h
        rw [e] at h
        cases h
    | _ => cases hn
theorem idxN {p k m : Nat} (h : 0 < m) : binF .mod (.int ((p : Int) + k)) (.int m) = some (.int ((p + k) % m : Nat)) := by
  rw [mod_int (by omega)]
  congr 2
theorem getL {xs : List D} {i : Nat} (h : i < xs.length) : getF (.list xs) (.int i) = some (xs.getD i .none) := by
  show L2.atI xs (i : Int) = _
  rw [L2.atI_nat (List.getElem?_eq_getElem h)]
  simp [List.getD_eq_getElem?_getD, List.getElem?_eq_getElem h]
theorem mulN {a k : Nat} (h : a < 1000) : binF .mul (.int a) (.int k) = some (.int ((a * k : Nat) : Int)) := by
  rw [mul_int (.inl ⟨by omega, by omega⟩)]
  simp
theorem range_at {n i : Nat} {x : D} (h : (rangeD 0 n)[i]? = some x) : x = .int (i : Nat) := by
  unfold rangeD at h
  rw [List.getElem?_map] at h
  obtain ⟨j, hj, e⟩ := Option.map_eq_some_iff.mp h
  have := (List.getElem?_eq_some_iff.mp hj)
  obtain ⟨h1, h2⟩ := this
  rw [List.getElem_range] at h2
  subst h2
  rw [← e]
  simp
end Mini
/-! law_k74. -/
namespace Mini
open PySem L2
section
variable {T : Str → Option Fn} {n m : Nat}
structure T74 (T : Str → Option Fn) : Prop where
  p : TPads T
  s : TScan T
  f : TSeenF T
  a : TAll T
  se : TSets T
  su : TSure T
  sc : TSureC T
  mu : TMust T
  r : TScr T
  ru : TRul T
  d : TDraw2 T
  down : T (mName "Scanner" "down") = some f_Scanner_down
  l : T "law" = some f_law
/-- all readings are taken, none is on its way -/
def AtD (p : PadR) (st : Key2 → Kst) (D : List Key2) : Prop := ∀ k ∈ p.ks, (st k).s.isSome = decide (k ∈ D) ∧ (st k).r = 0
theorem must_one {p : PadR} {l c : List Key2} {k : Key2} (e : ∀ s, s ∈ setsAs p l ↔ s = c) (hk : k ∈ p.ks) : sureB p l k = decide (k ∈ c) ∧ freeB p l k = !decide (k ∈ c) := by
  unfold sureB freeB mustK mayK
  constructor
  · congr 1
    rw [List.mem_filter, List.all_eq_true]
    refine propext ⟨fun z => of_decide_eq_true (z.2 _ ((e _).mpr rfl)), fun z => ⟨hk, fun s hs => ?_⟩⟩
    rw [(e s).mp hs]
    exact decide_eq_true z
  · congr 2
    rw [List.mem_filter, List.any_eq_true]
    refine propext ⟨fun ⟨_, s, hs, z⟩ => ?_, fun z => ⟨hk, c, (e _).mpr rfl, decide_eq_true z⟩⟩
    rw [(e s).mp hs] at z
    exact of_decide_eq_true z
theorem fmap_congr {α β : Type} {f g : α → Option β} : ∀ {l : List α}, (∀ x ∈ l, f x = g x) → l.filterMap f = l.filterMap g
  | [], _ => rfl
  | x :: r, h => by
    rw [List.filterMap_cons, List.filterMap_cons, h x (List.mem_cons_self ..), fmap_congr fun y hy => h y (List.mem_cons_of_mem _ hy)]
/-- one scan, when the keys c alone show what is seen -/
theorem one_step {p : PadR} {st : Key2 → Kst} {D l c : List Key2} {nn : Int} (e : ∀ s, s ∈ setsAs p l ↔ s = c) (M : AtD p st D) :
    AtD p (stL p 1 nn st l) c ∧ ∀ q, evsK p 1 0 q nn st l = (p.ks.filter fun k => decide (k ∈ c) != decide (k ∈ D)).map fun k => (k, if decide (k ∈ c) then .down else .up) := by
  refine ⟨fun k hk => ?_, fun q => ?_⟩
  · obtain ⟨m1, m2⟩ := M k hk
    obtain ⟨e1, e2⟩ := must_one e hk
    unfold stL stS
    rw [if_pos hk, e1, e2]
    have o : (decide (k ∈ c) || !decide (k ∈ c)) = true := by cases decide (k ∈ c) <;> rfl
    rw [if_pos o]
    unfold rdS
    rw [m1, m2]
    by_cases z : decide (k ∈ c) = decide (k ∈ D)
    · rw [if_pos z]
      exact ⟨by rw [m1, z], rfl⟩
    · rw [if_neg z, if_neg (by omega)]
      cases decide (k ∈ c) <;> exact ⟨rfl, rfl⟩
  · unfold evsK
    rw [← List.filterMap_eq_map, List.filterMap_filter]
    refine fmap_congr fun k hk => ?_
    obtain ⟨m1, m2⟩ := M k hk
    obtain ⟨e1, e2⟩ := must_one e hk
    unfold wrdK stW
    have o : (decide (k ∈ c) || !decide (k ∈ c)) = true := by cases decide (k ∈ c) <;> rfl
    rw [e1, e2, o]
    unfold rdB
    rw [m1, m2]
    cases z : (decide (k ∈ c) != decide (k ∈ D)) with
    | true => simp
    | false =>
      cases (st k).s <;> simp [agB]
theorem AtD.down {p : PadR} {st : Key2 → Kst} {D : List Key2} (hp : WF p) (hD : Up D) (hs : ∀ k ∈ D, k ∈ p.ks) (M : AtD p st D) : downK p st = D := by
  refine up_unique (hp.ku.filter _) hD fun k => ?_
  unfold downK
  rw [List.mem_filter]
  constructor
  · rintro ⟨z1, z2⟩
    rw [(M k z1).1] at z2
    exact of_decide_eq_true z2
  · intro z
    refine ⟨hs k z, ?_⟩
    rw [(M k (hs k z)).1]
    exact decide_eq_true z
theorem sets_nil {p : PadR} (hp : WF p) : ∀ s, s ∈ setsAs p [] ↔ s = [] := fun s => by
  rw [mem_setsAs, seen_nil]
  constructor
  · rintro ⟨z1, z2⟩
    rw [List.eq_nil_iff_forall_not_mem]
    intro k hk
    have : k ∈ seenK p.ds s := (mem_seenK (hp.in4.sub fun k hk => z1.subset hk)).mpr (led_self hk)
    rw [z2] at this
    cases this
  · rintro rfl
    exact ⟨List.nil_sublist _, seen_nil _⟩
theorem sets_sure {p : PadR} {c : List Key2} (hc : c.Sublist p.ks) (hs : Sure p c) : ∀ s, s ∈ setsAs p c ↔ s = c := fun s => by
  rw [mem_setsAs]
  exact ⟨fun z => hs s z.1 z.2, fun z => by rw [z]; exact ⟨hc, rfl⟩⟩
/-- from all keys up: what must be goes down -/
theorem first_step {p : PadR} {st : Key2 → Kst} {l : List Key2} {nn : Int} (M : AtD p st []) : ∀ q, evsK p 1 0 q nn st l = (mustK p l).map fun k => (k, .down) := fun q => by
  unfold evsK
  rw [show mustK p l = p.ks.filter fun k => (setsAs p l).all fun s => decide (k ∈ s) from rfl, ← List.filterMap_eq_map, List.filterMap_filter]
  refine fmap_congr fun k hk => ?_
  obtain ⟨m1, m2⟩ := M k hk
  have e : sureB p l k = (setsAs p l).all fun s => decide (k ∈ s) := by
    unfold sureB mustK
    cases z : (setsAs p l).all fun s => decide (k ∈ s) with
    | true => exact decide_eq_true (List.mem_filter.mpr ⟨hk, z⟩)
    | false => exact decide_eq_false fun w => by rw [(List.mem_filter.mp w).2] at z; cases z
  have m1 : (st k).s = none := by
    cases z : (st k).s with
    | none => rfl
    | some y => rw [z] at m1; simp at m1
  unfold wrdK stW rdB
  rw [e, m1, m2]
  cases z : (setsAs p l).all fun s => decide (k ∈ s) with
  | true => simp
  | false => cases freeB p l k <;> rfl
theorem AtD.up0 (p : PadR) : AtD p st0 [] := fun k hk => ⟨rfl, rfl⟩
noncomputable abbrev env74 (ns : List Int) (p : PadR) (o3 o4 o5 o6 o7 o8 o9 o10 o11 : Sl) : Mini.Env := [.val (scrD ns), .val (encPad p), .val (.list ((sureC p 4).map encT)), o3, o4, o5, o6, o7, o8, o9, o10, o11]
section
variable {ns : List Int} {p : PadR}
theorem evs_comp {cl : Calls} {S : Sto} {env : Mini.Env} {w : Evt} {c : List Key2} {md : Md} (hl : 6 < env.length) (h5 : env[5]? = some (.val (encT c))) (hc : c.length ≤ 100) : evE cl md (.comp (.tup (.cons (.var 6) (.cons (.cst (.str w.s)) .nil))) (.nm 6) [6] (.var 5) (.cst (.bool true))) env S = .ok (.list ((c.map fun k => (k, w)).map encEv)) S := by
  rw [comp_map (enc := encP) (xs := c) (d := encT c) (fun k => encEv (k, w)) (e_varV h5) rfl (by omega) fun x hx => by
    simp [hl, lim_small, encEv], List.map_map]
  rfl
def seqA : C → C
  | .seq a _ => a
  | c => c
def seqB : C → C
  | .seq _ b => b
  | c => c
/-- the part with a chord; what is behind it -/
def chordIf : C := seqA (seqB (bodyOf l_law_1))
def behind : C := seqB (seqB (bodyOf l_law_1))
theorem body74 : bodyOf l_law_1 = .seq (.seq (.frz [1]) (.set 4 (.new "Scanner" (.cons (.var 1) (.cons (.tup (.cons (.cst (.int 1)) (.cons (.cst (.int 0)) (.cons (.cst (.int 1)) .nil)))) .nil))))) (.seq chordIf behind) := rfl
theorem sure_len {p : PadR} (h : WF p) (many : Nat) : (sureC p many).length ≤ 256 := Nat.le_trans (List.length_filter_le _ _) (allS_len h.k8)
theorem chord74 (hT : T74 T) (hm : 7 ≤ m) (hp : WF p) {S0 : Sto} {o5 o6 o7 o8 o9 o10 o11 : Sl} {i : Nat} (hi : S0.length = i) (hi2 : i < 100) : ∃ o' st' nn o5', IsS o' p 1 0 1 st' nn ∧ AtD p st' [] ∧
    exS (callF T m) chordIf (env74 ns p (.val (.int i)) (.val (objD i)) o5 o6 o7 o8 o9 o10 o11) (S0 ++ [scn p 1 0 1 [] [] 0]) = .nx (env74 ns p (.val (.int i)) (.val (objD i)) o5' o6 o7 o8 o9 o10 o11) (S0 ++ [o']) := by
  have k8 := hp.k8
  have sl := sure_len hp 4
  have ne0 : cmpF .ne (.list ((sureC p 4).map encT)) (.list []) = some (!decide (sureC p 4 = [])) := cmp_neTs (sureC p 4) []
  by_cases c0 : sureC p 4 = []
  · refine ⟨_, st0, 0, o5, scn0 p 1 0 1, AtD.up0 p, ?_⟩
    rw [decide_eq_true c0] at ne0
    simp only [chordIf, l_law_1, bodyOf, seqA, seqB]
    simp [ne0, lim_small]
  · rw [decide_eq_false c0] at ne0
    have pos : 0 < (sureC p 4).length := List.length_pos_iff.mpr c0
    obtain ⟨j, hj, e1⟩ := c_pickE (S := S0 ++ [scn p 1 0 1 [] [] 0]) hT.d.one (show 2 ≤ m by omega) ns (x := 1 + (i : Int)) (1 + i) (by omega) (y := ((sureC p 4).length : Int)) (many := (sureC p 4).length) rfl pos
    obtain ⟨c, hc⟩ : ∃ c, (sureC p 4)[j]? = some c := ⟨_, List.getElem?_eq_getElem hj⟩
    have e2 : getF (.list ((sureC p 4).map encT)) (.int j) = some (encT c) := atL (by rw [List.getElem?_map, hc]; rfl)
    obtain ⟨c1, c2, c3, c4⟩ := (mem_sureC hp).mp (List.mem_of_getElem? hc)
    have cs : ∀ k ∈ c, k ∈ p.ks := fun k hk => c1.subset hk
    have cu : Up c := hp.ku.sublist c1
    have es := sets_sure c1 c4
    have e3 := c_is_sure (S := S0 ++ [scn p 1 0 1 [] [] 0]) hT.p hT.s hT.a hT.se hT.su (show 5 ≤ m by omega) hp (kseqT c) cs (by omega)
    rw [decide_eq_true ((sure_iff hp c1).mpr c4)] at e3
    have e4 := c_seen (S := S0 ++ [scn p 1 0 1 [] [] 0]) hT.p hT.s hT.f (show 5 ≤ m by omega) hp (kseqT c) cs (by omega)
    have sk := seenK_len p.ds c
    have e5 := c_must (S := S0 ++ [scn p 1 0 1 [] [] 0]) hT.p hT.s hT.a hT.se hT.mu (show 5 ≤ m by omega) hp (kseqL (seenK p.ds c)) cs (fun k => Iff.rfl) (by omega)
    have em : mustK p c = c := by
      refine up_unique (hp.ku.filter _) cu fun k => ?_
      unfold mustK
      rw [List.mem_filter, List.all_eq_true]
      refine ⟨fun z => of_decide_eq_true (z.2 _ ((es _).mpr rfl)), fun z => ⟨cs k z, fun s hs => ?_⟩⟩
      rw [(es s).mp hs]
      exact decide_eq_true z
    rw [em] at e5
    have g0 : (S0 ++ [scn p 1 0 1 [] [] 0])[i]? = some (scn p 1 0 1 [] [] 0) := by rw [← hi]; simp
    obtain ⟨o1, a1, a2⟩ := s_scan (T := T) (n := m) (S := S0 ++ [scn p 1 0 1 [] [] 0]) (i := i) hT.p hT.s hT.a hT.se hT.mu hT.r (by omega) (by decide) hp (kseqT c) cs (by omega) g0 (scn0 p 1 0 1)
    obtain ⟨b1, b2⟩ := one_step (nn := 0 + 1) es (AtD.up0 p)
    have st : ∀ x y : Ob, (S0 ++ [x]).set i y = S0 ++ [y] := fun x y => by rw [← hi]; simp
    rw [b2, st] at a1
    have f1 : (p.ks.filter fun k => decide (k ∈ c) != decide (k ∈ ([] : List Key2))) = c := by
      refine up_unique (hp.ku.filter _) cu fun k => ?_
      rw [List.mem_filter]
      simp
      exact cs k
    have f2 : (c.map fun k => (k, if decide (k ∈ c) then Evt.down else Evt.up)) = c.map fun k => (k, Evt.down) := List.map_congr_left fun k hk => by simp [hk]
    rw [f1, f2] at a1
    have g1 : (S0 ++ [o1])[i]? = some o1 := by rw [← hi]; simp
    have d1 := s_down (S := S0 ++ [o1]) (i := i) hT.down (show 1 ≤ m by omega) hp g1 a2
    rw [b1.down hp cu cs] at d1
    obtain ⟨o2, a3, a4⟩ := s_scan (T := T) (n := m) (S := S0 ++ [o1]) (i := i) (l := []) hT.p hT.s hT.a hT.se hT.mu hT.r (by omega) (by decide) hp (kseqL []) (fun k h => by cases h) (by decide) g1 a2
    obtain ⟨b3, b4⟩ := one_step (nn := 0 + 1 + 1) (sets_nil hp) b1
    rw [b4, st] at a3
    have f3 : (p.ks.filter fun k => decide (k ∈ ([] : List Key2)) != decide (k ∈ c)) = c := by
      refine up_unique (hp.ku.filter _) cu fun k => ?_
      rw [List.mem_filter]
      simp
      exact cs k
    rw [f3] at a3
    have f4 : (c.map fun k => (k, if decide (k ∈ ([] : List Key2)) then Evt.down else Evt.up)) = c.map fun k => (k, Evt.up) := List.map_congr_left fun k hk => by simp
    rw [f4] at a3
    have g2 : (S0 ++ [o2])[i]? = some o2 := by rw [← hi]; simp
    have d2 := s_down (S := S0 ++ [o2]) (i := i) hT.down (show 1 ≤ m by omega) hp g2 a4
    rw [b3.down hp .nil (fun k h => by cases h)] at d2
    refine ⟨o2, _, _, .val (encT c), a4, b3, ?_⟩
    have q1 := fun S => evs_comp (cl := callF T m) (S := S) (env := env74 ns p (.val (.int i)) (.val (objD i)) (.val (encT c)) o6 o7 o8 o9 o10 o11) (w := .down) (c := c) (md := .b) (by simp) rfl (by omega)
    have q2 := fun S => evs_comp (cl := callF T m) (S := S) (env := env74 ns p (.val (.int i)) (.val (objD i)) (.val (encT c)) o6 o7 o8 o9 o10 o11) (w := .up) (c := c) (md := .b) (by simp) rfl (by omega)
    have q1 : ∀ S, evE (callF T m) .b k_law_1 _ S = _ := q1
    have q2 : ∀ S, evE (callF T m) .b k_law_2 _ S = _ := q2
    unfold env74 at q1 q2
    have n1 := cmp_neE (c.map fun k => (k, Evt.down)) (c.map fun k => (k, Evt.down))
    have n2 := cmp_neE (c.map fun k => (k, Evt.up)) (c.map fun k => (k, Evt.up))
    rw [show (!decide ((c.map fun k => (k, Evt.down)) = c.map fun k => (k, Evt.down))) = false by simp] at n1
    rw [show (!decide ((c.map fun k => (k, Evt.up)) = c.map fun k => (k, Evt.up))) = false by simp] at n2
    obtain ⟨E1, hE1⟩ : ∃ E, E = (c.map fun k => (k, Evt.down)).map encEv := ⟨_, rfl⟩
    obtain ⟨E2, hE2⟩ : ∃ E, E = (c.map fun k => (k, Evt.up)).map encEv := ⟨_, rfl⟩
    rw [← hE1] at a1 q1 n1
    rw [← hE2] at a3 q2 n2
    have n3 : cmpF .ne (.list (c.map encP)) (.list (c.map encP)) = some false := by rw [cmp_neL]; simp
    have n4 : cmpF .ne (.list []) (.list []) = some false := by kernel_rfl
    have n5 : cmpF .isnt (.bool true) (.bool true) = some false := by kernel_rfl
    have pl : primF .list [encT c] = some (.list (c.map encP)) := rfl
    have pn : primF .len [.list ((sureC p 4).map encT)] = some (.int (sureC p 4).length) := by
      show some (PyData.int ((sureC p 4).map encT).length) = _
      rw [List.length_map]
    obtain ⟨x1, x2, ex, _⟩ := a2
    obtain ⟨y1, y2, ey, _⟩ := a4
    obtain ⟨S1, hS1⟩ : ∃ S, S = S0 ++ [scn p 1 0 1 [] [] 0] := ⟨_, rfl⟩
    obtain ⟨S2, hS2⟩ : ∃ S, S = S0 ++ [o1] := ⟨_, rfl⟩
    obtain ⟨S3, hS3⟩ : ∃ S, S = S0 ++ [o2] := ⟨_, rfl⟩
    rw [← hS1] at e1 e3 e4 e5 g0 a1
    rw [← hS2] at a1 g1 d1 a3
    rw [← hS3] at a3 g2 d2
    rw [← hS1, ← hS3]
    rw [ex] at g1
    rw [ey] at g2
    unfold scn at g0 g1 g2
    have e3 : callF T m "is_sure" [encPad p, encT c] S1 = .ok (.bool true) S1 := e3
    have e4 : callF T m "seen" [encPad p, encT c] S1 = .ok (.list ((seenK p.ds c).map encP)) S1 := e4
    have a1 : callF T m (mName "Scanner" "scan") [objD i, encT c] S1 = .ok (.list E1) S2 := a1
    have a3 : callF T m (mName "Scanner" "scan") [objD i, .list []] S2 = .ok (.list E2) S3 := a3
    have d2 : callF T m (mName "Scanner" "down") [objD i] S3 = .ok (.list []) S3 := d2
    simp only [chordIf, l_law_1, bodyOf, seqA, seqB]
    simp [ne0, lim_small, frz1, fresh, slOf, pn, e1, e2, e3, e4, e5, g0, g1, g2, a1, a3, d1, d2, q1, q2, n1, n2, n3, n4, n5, pl]
theorem behind74 (hT : T74 T) (hm : 7 ≤ m) (hp : WF p) {S0 : Sto} {o5 o6 o7 o8 o9 o10 o11 : Sl} {i : Nat} (hi : S0.length = i) (hi2 : i < 2) {o : Ob} {st : Key2 → Kst} {nn : Int} (hO : IsS o p 1 0 1 st nn) (M : AtD p st []) : ∃ o' o7' o8' o10' o11', 
    exS (callF T m) behind (env74 ns p (.val (.int i)) (.val (objD i)) o5 o6 o7 o8 o9 o10 o11) (S0 ++ [o]) = .nx (env74 ns p (.val (.int i)) (.val (objD i)) o5 o6 o7' o8' o9 o10' o11') (S0 ++ [o']) := by
  have k8 := hp.k8
  obtain ⟨l, l1, l2, l3⟩ := c_law_keys (S := S0 ++ [o]) hT.d (show 3 ≤ m by omega) ns (at_ := 60 + 15 * i) hp
  have sm : ∀ k ∈ l, Small k := fun k hk => hp.small k (l1 k hk)
  have ps := p_setL sm (by omega)
  have nu := setP_up l
  have ns' : ∀ k ∈ setP l, k ∈ p.ks := setP_sub l1
  have ek : (60 : Int) + 15 * (i : Int) = ((60 + 15 * i : Nat) : Int) := by omega
  rw [← ek] at l3
  have mul := mulL (a := 15) (b := (i : Int)) (by omega)
  obtain ⟨N, hN⟩ : ∃ N, N = setP l := ⟨_, rfl⟩
  rw [← hN] at ps nu ns'
  have n8 : N.length ≤ 8 := Nat.le_trans (up_sub nu ns') k8
  have g0 : (S0 ++ [o])[i]? = some o := by rw [← hi]; simp
  obtain ⟨o1, a1, a2⟩ := s_scan (T := T) (n := m) (S := S0 ++ [o]) (i := i) hT.p hT.s hT.a hT.se hT.mu hT.r (by omega) (by decide) hp (kseqL N) ns' (by omega) g0 hO
  have st : ∀ x y : Ob, (S0 ++ [x]).set i y = S0 ++ [y] := fun x y => by rw [← hi]; simp
  rw [first_step M, st] at a1
  have inN : N ∈ setsAs p N := by
    have := set_in hp ns'
    rwa [setP_of_up nu] at this
  have mN : ∀ k ∈ mustK p N, k ∈ N := fun k hk => by
    unfold mustK at hk
    have := (List.mem_filter.mp hk).2
    rw [List.all_eq_true] at this
    exact of_decide_eq_true (this N inN)
  have yN : ∀ k ∈ N, k ∈ mayK p N := fun k hk => by
    unfold mayK
    exact List.mem_filter.mpr ⟨ns' k hk, List.any_eq_true.mpr ⟨N, inN, decide_eq_true hk⟩⟩
  have ml : (mustK p N).length ≤ 8 := Nat.le_trans (List.length_filter_le _ _) k8
  have e4 := c_seen (S := S0 ++ [o1]) hT.p hT.s hT.f (show 5 ≤ m by omega) hp (kseqL N) ns' (by omega)
  have sk := seenK_len p.ds N
  have e5 := c_must (S := S0 ++ [o1]) hT.p hT.s hT.a hT.se hT.mu (show 5 ≤ m by omega) hp (kseqL (seenK p.ds N)) ns' (fun k => Iff.rfl) (by omega)
  have e6 := c_may (S := S0 ++ [o1]) hT.p hT.s hT.a hT.se hT.mu (show 5 ≤ m by omega) hp (kseqL (seenK p.ds N)) ns' (fun k => Iff.rfl) (by omega)
  have dw : cmpF .ne (.str Evt.down.s) (.str "down") = some false := by kernel_rfl
  have k3 : ∀ a10 a11, evE (callF T m) .b k_law_3 (env74 ns p (.val (.int i)) (.val (objD i)) o5 o6 (.val (.list (N.map encP))) (.val (.list (((mustK p N).map fun k => (k, Evt.down)).map encEv))) o9 a10 a11) (S0 ++ [o1]) = .ok (.list []) (S0 ++ [o1]) := fun a10 a11 => by
    unfold k_law_3
    rw [comp_run (enc := encEv) (xs := (mustK p N).map fun k => (k, Evt.down)) (d := .list (((mustK p N).map fun k => (k, Evt.down)).map encEv)) (g := fun x => none) (e_varV rfl) rfl (by rw [List.length_map]; omega) fun x hx => by
      obtain ⟨k, hk, rfl⟩ := List.mem_map.mp hx
      have := mN k hk
      simp [setT, wipeS, turnC, encEv, dw, this]]
    simp
  have k5 : ∀ a10 a11, evE (callF T m) .b k_law_5 (env74 ns p (.val (.int i)) (.val (objD i)) o5 o6 (.val (.list (N.map encP))) (.val (.list (((mustK p N).map fun k => (k, Evt.down)).map encEv))) o9 a10 a11) (S0 ++ [o1]) = .ok (.list ((mustK p N).map encP)) (S0 ++ [o1]) := fun a10 a11 => by
    unfold k_law_5
    rw [comp_run (enc := encEv) (xs := (mustK p N).map fun k => (k, Evt.down)) (d := .list (((mustK p N).map fun k => (k, Evt.down)).map encEv)) (g := fun x => some (encP x.1)) (e_varV rfl) rfl (by rw [List.length_map]; omega) fun x hx => by
      simp [setT, wipeS, turnC, encEv]]
    rw [List.filterMap_map]
    simp [Function.comp_def]
  have k4 : ∀ a11, evE (callF T m) .f k_law_4 (env74 ns p (.val (.int i)) (.val (objD i)) o5 o6 (.val (.list (N.map encP))) (.val (.list (((mustK p N).map fun k => (k, Evt.down)).map encEv))) o9 (.val (.list ((seenK p.ds N).map encP))) a11) (S0 ++ [o1]) = .ok (.list []) (S0 ++ [o1]) := fun a11 => by
    unfold k_law_4
    rw [comp_filter (fun k => false) (by simp) (xs := N) (d := .list (N.map encP)) (e_varV rfl) rfl (by omega) fun x hx => by
      have := yN x hx
      simp [e6, this]]
    simp
  refine ⟨o1, .val (.list (N.map encP)), .val (.list (((mustK p N).map fun k => (k, Evt.down)).map encEv)), .val (.list ((seenK p.ds N).map encP)), .own [], ?_⟩
  have n3 : cmpF .ne (.list ((mustK p N).map encP)) (.list ((mustK p N).map encP)) = some false := by rw [cmp_neL]; simp
  have n4 : cmpF .ne (.list []) (.list []) = some false := by kernel_rfl
  obtain ⟨x1, x2, ex, _⟩ := hO
  obtain ⟨S1, hS1⟩ : ∃ S, S = S0 ++ [o] := ⟨_, rfl⟩
  obtain ⟨S2, hS2⟩ : ∃ S, S = S0 ++ [o1] := ⟨_, rfl⟩
  rw [← hS1] at l3 g0 a1
  rw [← hS2] at a1 e4 e5 e6 k3 k4 k5
  rw [← hS1, ← hS2]
  rw [ex] at g0
  unfold scn at g0
  unfold env74 at k3 k4 k5
  have fr4 : fresh k_law_4 = true := rfl
  simp only [behind, l_law_1, bodyOf, seqB]
  simp [-List.map_map, lim_small, frz1, fr4, slOf, fresh, mul, l3, ps, g0, a1, k3, e4, k4, k5, e5, n3, n4]
theorem loop74 (hT : T74 T) (hm : 7 ≤ m) (hp : WF p) : ∃ env S, exS (callF T m) l_law_1 (env74 ns p .no .no .no .no .no .no .no .no .no) [] = .nx env S := by
  obtain ⟨env', S', e1, ⟨hl, o3, o4, o5, o6, o7, o8, o9, o10, o11, e2⟩⟩ := for_invS (c := l_law_1) (b := bodyOf l_law_1) (cl := callF T m) (S := []) (S1 := []) (env := env74 ns p .no .no .no .no .no .no .no .no .no) (d := .list (rangeD 0 2)) (items := rangeD 0 2) rfl
    (fun i env S => S.length = i ∧ ∃ o3 o4 o5 o6 o7 o8 o9 o10 o11, env = env74 ns p o3 o4 o5 o6 o7 o8 o9 o10 o11) (by simp) rfl ⟨rfl, .no, .no, .no, .no, .no, .no, .no, .no, .no, rfl⟩ fun i x env S hx he => by
      obtain ⟨hi, rfl⟩ := rangeD_get hx
      obtain ⟨hl, o3, o4, o5, o6, o7, o8, o9, o10, o11, rfl⟩ := he
      have e0 := s_init (S := S) (f := 0) (q := 1) (h := 1) hT.p.toTPad0 hT.ru (show 5 ≤ m by omega) hp (by unfold okR; omega)
      have e1 := fun env as h1 => s_new (cl := callF T m) (env := env) (md := .v) (as := as) h1 e0
      obtain ⟨o', st', nn, o5', z1, z2, z3⟩ := chord74 (ns := ns) hT hm hp (S0 := S) (o5 := o5) (o6 := o6) (o7 := o7) (o8 := o8) (o9 := o9) (o10 := o10) (o11 := o11) hl (by omega)
      obtain ⟨o1, o7', o8', o10', o11', z4⟩ := behind74 (ns := ns) hT hm hp (S0 := S) (o5 := o5') (o6 := o6) (o7 := o7) (o8 := o8) (o9 := o9) (o10 := o10) (o11 := o11) hl (by omega) z1 z2
      refine ⟨_, S ++ [o1], .inl ?_, ?_, .val (.int i), .val (objD i), o5', o6, o7', o8', o9, o10', o11', rfl⟩
      · have e1 := e1 (env74 ns p (.val (.int i)) o4 o5 o6 o7 o8 o9 o10 o11) (.cons (.var 1) (.cons (.tup (.cons (.cst (.int 1)) (.cons (.cst (.int 0)) (.cons (.cst (.int 1)) .nil)))) .nil)) (by simp [lim_small, rulD])
        rw [hl] at e1
        have t1 : exS (callF T m) (.seq (.frz [1]) (.set 4 (.new "Scanner" (.cons (.var 1) (.cons (.tup (.cons (.cst (.int 1)) (.cons (.cst (.int 0)) (.cons (.cst (.int 1)) .nil)))) .nil))))) (env74 ns p (.val (.int i)) o4 o5 o6 o7 o8 o9 o10 o11) S = .nx (env74 ns p (.val (.int i)) (.val (objD i)) o5 o6 o7 o8 o9 o10 o11) (S ++ [scn p 1 0 1 [] [] 0]) := by
          rw [x_seq, x_frz]
          show exS (callF T m) (.set 4 _) (env74 ns p (.val (.int i)) o4 o5 o6 o7 o8 o9 o10 o11) S = _
          rw [x_set, show fresh (.new "Scanner" (.cons (.var 1) (.cons (.tup (.cons (.cst (.int 1)) (.cons (.cst (.int 0)) (.cons (.cst (.int 1)) .nil)))) .nil))) = false from rfl]
          show RS.ofE _ (evE (callF T m) .v _ _ _) _ = _
          rw [e1]
          rfl
        show exS (callF T m) (bodyOf l_law_1) (env74 ns p (.val (.int i)) o4 o5 o6 o7 o8 o9 o10 o11) S = _
        rw [body74, x_seq, t1]
        simp only []
        rw [x_seq, z3]
        simp only []
        exact z4
      · simp [hl]
  exact ⟨_, _, e1⟩
end
theorem law74 (hT : T74 T) (hn : 9 ≤ n) (ns : List Int) : ∃ S, callF T n "law" [scrD ns] [] = .ok (.bool true) S := by
  obtain ⟨m, rfl⟩ : ∃ m, n = m + 1 := ⟨n - 1, by omega⟩
  rw [callF_eq hT.l rfl]
  obtain ⟨p, wf, k6, e1⟩ := c_law_pad (S := []) hT.d (show 3 ≤ m by omega) ns (at_ := 10) (most := 5) (by decide) (by decide)
  have e1 : callF T m "_law_pad" [scrD ns, .int 10, .int 5] [] = .ok (encPad p) [] := e1
  have e2 : callF T m "sure_chords" [encPad p, .int 4] [] = .ok (.list ((sureC p 4).map encT)) [] := c_sure_chords (S := []) hT.p hT.s hT.a hT.se hT.su hT.sc (show 6 ≤ m by omega) wf (many := 4) (by omega) (by omega)
  obtain ⟨env, S, e3⟩ := loop74 (ns := ns) hT (show 7 ≤ m by omega) wf
  refine ⟨S, ?_⟩
  unfold env74 at e3
  simp only [f_law]
  simp [frz1, fresh, slOf, e1, e2, e3, endF]
end
end Mini
namespace Mini
open PySem L2
def tab : List (Str × Fn) := [(("is_whole" : Str), f_is_whole), (("is_key" : Str), f_is_key), (("are_rising" : Str), f_are_rising), (("is_pad" : Str), f_is_pad), (("look_pad" : Str), f_look_pad), (("keys_in" : Str), f_keys_in), (("columns_from" : Str), f_columns_from), (("seen_of" : Str), f_seen_of), (("seen" : Str), f_seen), (("all_sets" : Str), f_all_sets), (("is_spot" : Str), f_is_spot), (("sets_seen" : Str), f_sets_seen), (("must" : Str), f_must), (("may" : Str), f_may), (("is_sure" : Str), f_is_sure), (("sure_chords" : Str), f_sure_chords), (("are_rules" : Str), f_are_rules), (("_law_cell" : Str), f__law_cell), (("_law_pick" : Str), f__law_pick), (("_law_pad" : Str), f__law_pad), (("_law_keys" : Str), f__law_keys), (("law" : Str), f_law)]
def cst : List (Str × D) := [("MOST_WIRES", .int 4), ("MOST_KEYS", .int 8), ("MOST_IN_CHORD", .int 4)]
def bls : List Str := ["len", "sorted", "tuple", "list", "all", "any", "min", "int", "range", "enumerate", "zip", "isinstance", "set", "bool", "ValueError"]
def exs : List Str := ["WireError", "NoPad", "NoRules", "NoKey", "NoScan", "NoNumber"]
def mkN : List Str := []
def mtab : List (Str × Fn) := [(("__init__" : Str), f_Scanner___init__), (("read" : Str), f_Scanner_read), (("is_again" : Str), f_Scanner_is_again), (("event" : Str), f_Scanner_event), (("scan" : Str), f_Scanner_scan), (("down" : Str), f_Scanner_down)]
def tabA : List (Str × Fn) := [(("is_whole" : Str), f_is_whole), (("is_key" : Str), f_is_key), (("are_rising" : Str), f_are_rising), (("is_pad" : Str), f_is_pad), (("look_pad" : Str), f_look_pad), (("keys_in" : Str), f_keys_in), (("columns_from" : Str), f_columns_from), (("seen_of" : Str), f_seen_of), (("seen" : Str), f_seen), (("all_sets" : Str), f_all_sets), (("is_spot" : Str), f_is_spot), (("sets_seen" : Str), f_sets_seen), (("must" : Str), f_must), (("may" : Str), f_may), (("is_sure" : Str), f_is_sure), (("sure_chords" : Str), f_sure_chords), (("are_rules" : Str), f_are_rules), (("_law_cell" : Str), f__law_cell), (("_law_pick" : Str), f__law_pick), (("_law_pad" : Str), f__law_pad), (("_law_keys" : Str), f__law_keys), (("law" : Str), f_law), (("Scanner.__init__" : Str), f_Scanner___init__), (("Scanner.read" : Str), f_Scanner_read), (("Scanner.is_again" : Str), f_Scanner_is_again), (("Scanner.event" : Str), f_Scanner_event), (("Scanner.scan" : Str), f_Scanner_scan), (("Scanner.down" : Str), f_Scanner_down)]
def clD : Option (Str × List Str × List Str) := (some ("Scanner", ["pad", "rules", "since", "runs", "scans"], ["read", "is_again", "event", "scan", "down"]))
theorem tabOk : T74 (tabF tabA) := by repeat' (first | kernel_rfl | constructor)
theorem law_true : ∀ ns : List Int, ns.length ≤ 63 → ∃ S, callF (tabF tabA) 12 "law" [scrD ns] [] = .ok (.bool true) S := fun ns _ => law74 tabOk (by decide) ns
def topS (i : Nat) : Stmt := PySem.Challenge.pw_wirekeys_k74_whole_sure_chords_scanned.main.body.getD i (.Pass ⟨0, 0, 0, 0⟩)
def sts : List (Str × Stmt) := [(("is_whole" : Str), topS 10), (("is_key" : Str), topS 11), (("are_rising" : Str), topS 12), (("is_pad" : Str), topS 13), (("look_pad" : Str), topS 14), (("keys_in" : Str), topS 15), (("columns_from" : Str), topS 17), (("seen_of" : Str), topS 18), (("seen" : Str), topS 19), (("all_sets" : Str), topS 20), (("is_spot" : Str), topS 21), (("sets_seen" : Str), topS 22), (("must" : Str), topS 23), (("may" : Str), topS 24), (("is_sure" : Str), topS 25), (("sure_chords" : Str), topS 28), (("are_rules" : Str), topS 30), (("_law_cell" : Str), topS 33), (("_law_pick" : Str), topS 34), (("_law_pad" : Str), topS 35), (("_law_keys" : Str), topS 36), (("law" : Str), topS 37)]
abbrev t9 : Txt9 := txt9 tab cst bls exs clD mkN
abbrev StatR (st : Stmt) (f : Str) (g : Fn) (ps : List Str) : Prop := Stat t9 (mkN.contains f) st f f g ps
theorem st_is_whole : StatR (topS 10) "is_whole" f_is_whole ["thing", "low", "high"] :=
  ⟨⟨["thing", "low", "high"], 60, ⟨rfl, rfl, rfl, by decide +kernel, rfl, by decide +kernel, by decide +kernel⟩, rfl, rfl, by kernel_rfl⟩, fun _ _ _ _ _ _ us hl => match us, hl with | [_, _, _], _ => rfl⟩
theorem st_is_key : StatR (topS 11) "is_key" f_is_key ["thing", "rows", "columns"] :=
  ⟨⟨["thing", "rows", "columns"], 60, ⟨rfl, rfl, rfl, by decide +kernel, rfl, by decide +kernel, by decide +kernel⟩, rfl, rfl, by kernel_rfl⟩, fun _ _ _ _ _ _ us hl => match us, hl with | [_, _, _], _ => rfl⟩
theorem st_are_rising : StatR (topS 12) "are_rising" f_are_rising ["thing"] :=
  ⟨⟨["thing", "one", "other"], 60, ⟨rfl, rfl, rfl, by decide +kernel, rfl, by decide +kernel, by decide +kernel⟩, rfl, rfl, by kernel_rfl⟩, fun _ _ _ _ _ _ us hl => match us, hl with | [_], _ => rfl⟩
theorem st_is_pad : StatR (topS 13) "is_pad" f_is_pad ["thing"] :=
  ⟨⟨["thing", "rows", "columns", "keys", "diodes", "one"], 60, ⟨rfl, rfl, rfl, by decide +kernel, rfl, by decide +kernel, by decide +kernel⟩, rfl, rfl, by kernel_rfl⟩, fun _ _ _ _ _ _ us hl => match us, hl with | [_], _ => rfl⟩
theorem st_look_pad : StatR (topS 14) "look_pad" f_look_pad ["pad"] :=
  ⟨⟨["pad"], 60, ⟨rfl, rfl, rfl, by decide +kernel, rfl, by decide +kernel, by decide +kernel⟩, rfl, rfl, by kernel_rfl⟩, fun _ _ _ _ _ _ us hl => match us, hl with | [_], _ => rfl⟩
theorem st_keys_in : StatR (topS 15) "keys_in" f_keys_in ["pad", "keys"] :=
  ⟨⟨["pad", "keys", "one"], 60, ⟨rfl, rfl, rfl, by decide +kernel, rfl, by decide +kernel, by decide +kernel⟩, rfl, rfl, by kernel_rfl⟩, fun _ _ _ _ _ _ us hl => match us, hl with | [_, _], _ => rfl⟩
theorem st_columns_from : StatR (topS 17) "columns_from" f_columns_from ["pad", "pressed", "row"] :=
  ⟨⟨["pad", "pressed", "row", "found", "left", "here", "one", "two"], 60, ⟨rfl, rfl, rfl, by decide +kernel, rfl, by decide +kernel, by decide +kernel⟩, rfl, rfl, by kernel_rfl⟩, fun _ _ _ _ _ _ us hl => match us, hl with | [_, _, _], _ => rfl⟩
theorem st_seen_of : StatR (topS 18) "seen_of" f_seen_of ["pad", "pressed"] :=
  ⟨⟨["pad", "pressed", "made", "row", "column"], 60, ⟨rfl, rfl, rfl, by decide +kernel, rfl, by decide +kernel, by decide +kernel⟩, rfl, rfl, by kernel_rfl⟩, fun _ _ _ _ _ _ us hl => match us, hl with | [_, _], _ => rfl⟩
theorem st_seen : StatR (topS 19) "seen" f_seen ["pad", "pressed"] :=
  ⟨⟨["pad", "pressed"], 60, ⟨rfl, rfl, rfl, by decide +kernel, rfl, by decide +kernel, by decide +kernel⟩, rfl, rfl, by kernel_rfl⟩, fun _ _ _ _ _ _ us hl => match us, hl with | [_, _], _ => rfl⟩
theorem st_all_sets : StatR (topS 20) "all_sets" f_all_sets ["keys"] :=
  ⟨⟨["keys", "made", "key", "one"], 60, ⟨rfl, rfl, rfl, by decide +kernel, rfl, by decide +kernel, by decide +kernel⟩, rfl, rfl, by kernel_rfl⟩, fun _ _ _ _ _ _ us hl => match us, hl with | [_], _ => rfl⟩
theorem st_is_spot : StatR (topS 21) "is_spot" f_is_spot ["thing"] :=
  ⟨⟨["thing", "one"], 60, ⟨rfl, rfl, rfl, by decide +kernel, rfl, by decide +kernel, by decide +kernel⟩, rfl, rfl, by kernel_rfl⟩, fun _ _ _ _ _ _ us hl => match us, hl with | [_], _ => rfl⟩
theorem st_sets_seen : StatR (topS 22) "sets_seen" f_sets_seen ["pad", "spots"] :=
  ⟨⟨["pad", "spots", "one", "due", "made", "key"], 60, ⟨rfl, rfl, rfl, by decide +kernel, rfl, by decide +kernel, by decide +kernel⟩, rfl, rfl, by kernel_rfl⟩, fun _ _ _ _ _ _ us hl => match us, hl with | [_, _], _ => rfl⟩
theorem st_must : StatR (topS 23) "must" f_must ["pad", "spots"] :=
  ⟨⟨["pad", "spots", "some", "key", "one"], 60, ⟨rfl, rfl, rfl, by decide +kernel, rfl, by decide +kernel, by decide +kernel⟩, rfl, rfl, by kernel_rfl⟩, fun _ _ _ _ _ _ us hl => match us, hl with | [_, _], _ => rfl⟩
theorem st_may : StatR (topS 24) "may" f_may ["pad", "spots"] :=
  ⟨⟨["pad", "spots", "some", "key", "one"], 60, ⟨rfl, rfl, rfl, by decide +kernel, rfl, by decide +kernel, by decide +kernel⟩, rfl, rfl, by kernel_rfl⟩, fun _ _ _ _ _ _ us hl => match us, hl with | [_, _], _ => rfl⟩
theorem st_is_sure : StatR (topS 25) "is_sure" f_is_sure ["pad", "pressed"] :=
  ⟨⟨["pad", "pressed"], 60, ⟨rfl, rfl, rfl, by decide +kernel, rfl, by decide +kernel, by decide +kernel⟩, rfl, rfl, by kernel_rfl⟩, fun _ _ _ _ _ _ us hl => match us, hl with | [_, _], _ => rfl⟩
theorem st_sure_chords : StatR (topS 28) "sure_chords" f_sure_chords ["pad", "many"] :=
  ⟨⟨["pad", "many", "some"], 60, ⟨rfl, rfl, rfl, by decide +kernel, rfl, by decide +kernel, by decide +kernel⟩, rfl, rfl, by kernel_rfl⟩, fun _ _ _ _ _ _ us hl => match us, hl with | [_, _], _ => rfl⟩
theorem st_are_rules : StatR (topS 30) "are_rules" f_are_rules ["thing"] :=
  ⟨⟨["thing"], 60, ⟨rfl, rfl, rfl, by decide +kernel, rfl, by decide +kernel, by decide +kernel⟩, rfl, rfl, by kernel_rfl⟩, fun _ _ _ _ _ _ us hl => match us, hl with | [_], _ => rfl⟩
theorem st__law_cell : StatR (topS 33) "_law_cell" f__law_cell ["script", "k"] :=
  ⟨⟨["script", "k"], 60, ⟨rfl, rfl, rfl, by decide +kernel, rfl, by decide +kernel, by decide +kernel⟩, rfl, rfl, by kernel_rfl⟩, fun _ _ _ _ _ _ us hl => match us, hl with | [_, _], _ => rfl⟩
theorem st__law_pick : StatR (topS 34) "_law_pick" f__law_pick ["script", "k", "many"] :=
  ⟨⟨["script", "k", "many", "drawn"], 60, ⟨rfl, rfl, rfl, by decide +kernel, rfl, by decide +kernel, by decide +kernel⟩, rfl, rfl, by kernel_rfl⟩, fun _ _ _ _ _ _ us hl => match us, hl with | [_, _, _], _ => rfl⟩
theorem st__law_pad : StatR (topS 35) "_law_pad" f__law_pad ["script", "at", "most"] :=
  ⟨⟨["script", "at", "most", "rows", "columns", "spots", "row", "column", "size", "keys", "k", "way", "diodes", "key"], 60, ⟨rfl, rfl, rfl, by decide +kernel, rfl, by decide +kernel, by decide +kernel⟩, rfl, rfl, by kernel_rfl⟩, fun _ _ _ _ _ _ us hl => match us, hl with | [_, _, _], _ => rfl⟩
theorem st__law_keys : StatR (topS 36) "_law_keys" f__law_keys ["script", "at", "pad"] :=
  ⟨⟨["script", "at", "pad", "made", "k", "key", "turn"], 60, ⟨rfl, rfl, rfl, by decide +kernel, rfl, by decide +kernel, by decide +kernel⟩, rfl, rfl, by kernel_rfl⟩, fun _ _ _ _ _ _ us hl => match us, hl with | [_, _, _], _ => rfl⟩
theorem st_law : StatR (topS 37) "law" f_law ["script"] :=
  ⟨⟨["script", "pad", "some", "k", "scanner", "chord", "key", "pressed", "told", "word", "spots", "free"], 60, ⟨rfl, rfl, rfl, by decide +kernel, rfl, by decide +kernel, by decide +kernel⟩, rfl, rfl, by kernel_rfl⟩, fun _ _ _ _ _ _ us hl => match us, hl with | [_], _ => rfl⟩
def msts : List (Str × Stmt) := [(("__init__" : Str), clsS (topS 31) 0), (("read" : Str), clsS (topS 31) 1), (("is_again" : Str), clsS (topS 31) 2), (("event" : Str), clsS (topS 31) 3), (("scan" : Str), clsS (topS 31) 4), (("down" : Str), clsS (topS 31) 5)]
theorem st_Scanner___init__ : Stat t9 false (clsS (topS 31) 0) "__init__" (mName "Scanner" "__init__") f_Scanner___init__ ["self", "pad", "rules"] :=
  ⟨⟨["self", "pad", "rules"], 60, ⟨rfl, rfl, rfl, by decide +kernel, rfl, by decide +kernel, by decide +kernel⟩, rfl, rfl, by kernel_rfl⟩, fun _ _ _ _ _ _ us hl => match us, hl with | [_, _, _], _ => rfl⟩
theorem st_Scanner_read : Stat t9 false (clsS (topS 31) 1) "read" (mName "Scanner" "read") f_Scanner_read ["self", "key", "is_down"] :=
  ⟨⟨["self", "key", "is_down"], 60, ⟨rfl, rfl, rfl, by decide +kernel, rfl, by decide +kernel, by decide +kernel⟩, rfl, rfl, by kernel_rfl⟩, fun _ _ _ _ _ _ us hl => match us, hl with | [_, _, _], _ => rfl⟩
theorem st_Scanner_is_again : Stat t9 false (clsS (topS 31) 2) "is_again" (mName "Scanner" "is_again") f_Scanner_is_again ["self", "key"] :=
  ⟨⟨["self", "key", "gone"], 60, ⟨rfl, rfl, rfl, by decide +kernel, rfl, by decide +kernel, by decide +kernel⟩, rfl, rfl, by kernel_rfl⟩, fun _ _ _ _ _ _ us hl => match us, hl with | [_, _], _ => rfl⟩
theorem st_Scanner_event : Stat t9 false (clsS (topS 31) 3) "event" (mName "Scanner" "event") f_Scanner_event ["self", "key", "is_sure", "is_free"] :=
  ⟨⟨["self", "key", "is_sure", "is_free"], 60, ⟨rfl, rfl, rfl, by decide +kernel, rfl, by decide +kernel, by decide +kernel⟩, rfl, rfl, by kernel_rfl⟩, fun _ _ _ _ _ _ us hl => match us, hl with | [_, _, _, _], _ => rfl⟩
theorem st_Scanner_scan : Stat t9 false (clsS (topS 31) 4) "scan" (mName "Scanner" "scan") f_Scanner_scan ["self", "pressed"] :=
  ⟨⟨["self", "pressed", "spots", "sure", "some", "made", "key", "word"], 60, ⟨rfl, rfl, rfl, by decide +kernel, rfl, by decide +kernel, by decide +kernel⟩, rfl, rfl, by kernel_rfl⟩, fun _ _ _ _ _ _ us hl => match us, hl with | [_, _], _ => rfl⟩
theorem st_Scanner_down : Stat t9 false (clsS (topS 31) 5) "down" (mName "Scanner" "down") f_Scanner_down ["self"] :=
  ⟨⟨["self"], 60, ⟨rfl, rfl, rfl, by decide +kernel, rfl, by decide +kernel, by decide +kernel⟩, rfl, rfl, by kernel_rfl⟩, fun _ _ _ _ _ _ us hl => match us, hl with | [_], _ => rfl⟩
end Mini
open PySem PySem.W PyProof.Rows
set_option maxHeartbeats 0 in
theorem PySem.Challenge.cw_wirekeys_k74_whole_sure_chords_scanned_holds : PySem.Challenge.rw_wirekeys_k74_whole_sure_chords_scanned.Holds := by
  w_on; o_law; k_head; (case hw => w_witness2)
  k_fill
  refine Mini.end9 (l := PySem.Challenge.rw_wirekeys_k74_whole_sure_chords_scanned) (tab := Mini.tab) (tabA := Mini.tabA) (mtab := Mini.mtab) (msts := Mini.msts) (cl := Mini.clD) (sts := Mini.sts) (cst := Mini.cst) (bls := Mini.bls) (exs := Mini.exs) (mkN := Mini.mkN) 11 (gL := Mini.f_law) (stL := Mini.topS 37) (stT := Mini.topS 0) (stC := Mini.topS 0) rfl rfl rfl ⟨rfl, by decide, by decide⟩ (fun w h Y => PySem.W.kIn_of Y) (fun w h Y f hf => (nomatch hf)) ⟨⟨_, _, by kernel_rfl, Mini.st_is_whole⟩, ⟨_, _, by kernel_rfl, Mini.st_is_key⟩, ⟨_, _, by kernel_rfl, Mini.st_are_rising⟩, ⟨_, _, by kernel_rfl, Mini.st_is_pad⟩, ⟨_, _, by kernel_rfl, Mini.st_look_pad⟩, ⟨_, _, by kernel_rfl, Mini.st_keys_in⟩, ⟨_, _, by kernel_rfl, Mini.st_columns_from⟩, ⟨_, _, by kernel_rfl, Mini.st_seen_of⟩, ⟨_, _, by kernel_rfl, Mini.st_seen⟩, ⟨_, _, by kernel_rfl, Mini.st_all_sets⟩, ⟨_, _, by kernel_rfl, Mini.st_is_spot⟩, ⟨_, _, by kernel_rfl, Mini.st_sets_seen⟩, ⟨_, _, by kernel_rfl, Mini.st_must⟩, ⟨_, _, by kernel_rfl, Mini.st_may⟩, ⟨_, _, by kernel_rfl, Mini.st_is_sure⟩, ⟨_, _, by kernel_rfl, Mini.st_sure_chords⟩, ⟨_, _, by kernel_rfl, Mini.st_are_rules⟩, ⟨_, _, by kernel_rfl, Mini.st__law_cell⟩, ⟨_, _, by kernel_rfl, Mini.st__law_pick⟩, ⟨_, _, by kernel_rfl, Mini.st__law_pad⟩, ⟨_, _, by kernel_rfl, Mini.st__law_keys⟩, ⟨_, _, by kernel_rfl, Mini.st_law⟩, trivial⟩ (by kernel_rfl) (by kernel_rfl) Mini.st_law (fun h => absurd rfl h) ?K ⟨by kernel_rfl, by kernel_rfl, by kernel_rfl, by kernel_rfl, by kernel_rfl, by kernel_rfl, by kernel_rfl, by kernel_rfl, by kernel_rfl, by kernel_rfl, by kernel_rfl, by kernel_rfl, by kernel_rfl, by kernel_rfl, by kernel_rfl, by kernel_rfl, by kernel_rfl, by kernel_rfl, by kernel_rfl, by kernel_rfl, by kernel_rfl, by kernel_rfl, trivial⟩ (fun C fs ms h => by cases (show (some ("Scanner", ["pad", "rules", "since", "runs", "scans"], ["read", "is_again", "event", "scan", "down"]) : Option (PySem.Str × List PySem.Str × List PySem.Str)) = some (C, fs, ms) from h); exact ⟨by decide +kernel, ⟨⟨_, _, by kernel_rfl, by kernel_rfl, Mini.st_Scanner___init__⟩, ⟨_, _, by kernel_rfl, by kernel_rfl, Mini.st_Scanner_read⟩, ⟨_, _, by kernel_rfl, by kernel_rfl, Mini.st_Scanner_is_again⟩, ⟨_, _, by kernel_rfl, by kernel_rfl, Mini.st_Scanner_event⟩, ⟨_, _, by kernel_rfl, by kernel_rfl, Mini.st_Scanner_scan⟩, ⟨_, _, by kernel_rfl, by kernel_rfl, Mini.st_Scanner_down⟩, trivial⟩⟩) Mini.law_true
  intro w mg fa h KX G hmg
  refine' ⟨⟨Mini.atK_mk ?a10 ?l10 ?c10 ?k10, Mini.atK_mk ?a11 ?l11 ?c11 ?k11, Mini.atK_mk ?a12 ?l12 ?c12 ?k12, Mini.atK_mk ?a13 ?l13 ?c13 ?k13, Mini.atK_mk ?a14 ?l14 ?c14 ?k14, Mini.atK_mk ?a15 ?l15 ?c15 ?k15, Mini.atK_mk ?a17 ?l17 ?c17 ?k17, Mini.atK_mk ?a18 ?l18 ?c18 ?k18, Mini.atK_mk ?a19 ?l19 ?c19 ?k19, Mini.atK_mk ?a20 ?l20 ?c20 ?k20, Mini.atK_mk ?a21 ?l21 ?c21 ?k21, Mini.atK_mk ?a22 ?l22 ?c22 ?k22, Mini.atK_mk ?a23 ?l23 ?c23 ?k23, Mini.atK_mk ?a24 ?l24 ?c24 ?k24, Mini.atK_mk ?a25 ?l25 ?c25 ?k25, Mini.atK_mk ?a28 ?l28 ?c28 ?k28, Mini.atK_mk ?a30 ?l30 ?c30 ?k30, Mini.atK_mk ?a33 ?l33 ?c33 ?k33, Mini.atK_mk ?a34 ?l34 ?c34 ?k34, Mini.atK_mk ?a35 ?l35 ?c35 ?k35, Mini.atK_mk ?a36 ?l36 ?c36 ?k36, Mini.atK_mk ?a37 ?l37 ?c37 ?k37, trivial⟩, ⟨Mini.cstK_int ?v0, Mini.cstK_int ?v1, Mini.cstK_int ?v2, trivial⟩, ⟨Mini.blK_mk ?b0, Mini.blK_mk ?b1, Mini.blK_mk ?b2, Mini.blK_mk ?b3, Mini.blK_mk ?b4, Mini.blK_mk ?b5, Mini.blK_mk ?b6, Mini.blK_mk ?b7, Mini.blK_mk ?b8, Mini.blK_mk ?b9, Mini.blK_mk ?b10, Mini.blK_mk ?b11, Mini.blK_mk ?b12, Mini.blK_mk ?b13, Mini.blK_mk ?b14, trivial⟩, ⟨Mini.exK_mk F.excBase_ValueError ?x0 ?q0 ?e0 ?s0 ?t0, Mini.exK_mk F.excBase_ValueError ?x1 ?q1 ?e1 ?s1 ?t1, Mini.exK_mk F.excBase_ValueError ?x2 ?q2 ?e2 ?s2 ?t2, Mini.exK_mk F.excBase_ValueError ?x3 ?q3 ?e3 ?s3 ?t3, Mini.exK_mk F.excBase_ValueError ?x4 ?q4 ?e4 ?s4 ?t4, Mini.exK_mk F.excBase_ValueError ?x5 ?q5 ?e5 ?s5 ?t5, trivial⟩, ?xb, ?mb, ?cb, ⟨Mini.atM_mk (C := "Scanner") (q := "Scanner.__init__") ?mq0 ?ma0 ?mf0 ?ml0 ?mc0 ?mk0, Mini.atM_mk (C := "Scanner") (q := "Scanner.read") ?mq1 ?ma1 ?mf1 ?ml1 ?mc1 ?mk1, Mini.atM_mk (C := "Scanner") (q := "Scanner.is_again") ?mq2 ?ma2 ?mf2 ?ml2 ?mc2 ?mk2, Mini.atM_mk (C := "Scanner") (q := "Scanner.event") ?mq3 ?ma3 ?mf3 ?ml3 ?mc3 ?mk3, Mini.atM_mk (C := "Scanner") (q := "Scanner.scan") ?mq4 ?ma4 ?mf4 ?ml4 ?mc4 ?mk4, Mini.atM_mk (C := "Scanner") (q := "Scanner.down") ?mq5 ?ma5 ?mf5 ?ml5 ?mc5 ?mk5, trivial⟩⟩
  (case a10 => k_is); (case l10 => k_is); (case c10 => k_is); (case k10 => k_is)
  (case a11 => k_is); (case l11 => k_is); (case c11 => k_is); (case k11 => k_is)
  (case a12 => k_is); (case l12 => k_is); (case c12 => k_is); (case k12 => k_is)
  (case a13 => k_is); (case l13 => k_is); (case c13 => k_is); (case k13 => k_is)
  (case a14 => k_is); (case l14 => k_is); (case c14 => k_is); (case k14 => k_is)
  (case a15 => k_is); (case l15 => k_is); (case c15 => k_is); (case k15 => k_is)
  (case a17 => k_is); (case l17 => k_is); (case c17 => k_is); (case k17 => k_is)
  (case a18 => k_is); (case l18 => k_is); (case c18 => k_is); (case k18 => k_is)
  (case a19 => k_is); (case l19 => k_is); (case c19 => k_is); (case k19 => k_is)
  (case a20 => k_is); (case l20 => k_is); (case c20 => k_is); (case k20 => k_is)
  (case a21 => k_is); (case l21 => k_is); (case c21 => k_is); (case k21 => k_is)
  (case a22 => k_is); (case l22 => k_is); (case c22 => k_is); (case k22 => k_is)
  (case a23 => k_is); (case l23 => k_is); (case c23 => k_is); (case k23 => k_is)
  (case a24 => k_is); (case l24 => k_is); (case c24 => k_is); (case k24 => k_is)
  (case a25 => k_is); (case l25 => k_is); (case c25 => k_is); (case k25 => k_is)
  (case a28 => k_is); (case l28 => k_is); (case c28 => k_is); (case k28 => k_is)
  (case a30 => k_is); (case l30 => k_is); (case c30 => k_is); (case k30 => k_is)
  (case a33 => k_is); (case l33 => k_is); (case c33 => k_is); (case k33 => k_is)
  (case a34 => k_is); (case l34 => k_is); (case c34 => k_is); (case k34 => k_is)
  (case a35 => k_is); (case l35 => k_is); (case c35 => k_is); (case k35 => k_is)
  (case a36 => k_is); (case l36 => k_is); (case c36 => k_is); (case k36 => k_is)
  (case a37 => k_is); (case l37 => k_is); (case c37 => k_is); (case k37 => k_is)
  (case v0 => k_is)
  (case v1 => k_is)
  (case v2 => k_is)
  (case b0 => k_is)
  (case b1 => k_is)
  (case b2 => k_is)
  (case b3 => k_is)
  (case b4 => k_is)
  (case b5 => k_is)
  (case b6 => k_is)
  (case b7 => k_is)
  (case b8 => k_is)
  (case b9 => k_is)
  (case b10 => k_is)
  (case b11 => k_is)
  (case b12 => k_is)
  (case b13 => k_is)
  (case b14 => k_is)
  (case x0 => k_is); (case q0 => k_exc); (case e0 => k_is); (case s0 => k_is); (case t0 => k_is)
  (case x1 => k_is); (case q1 => k_exc); (case e1 => k_is); (case s1 => k_is); (case t1 => k_is)
  (case x2 => k_is); (case q2 => k_exc); (case e2 => k_is); (case s2 => k_is); (case t2 => k_is)
  (case x3 => k_is); (case q3 => k_exc); (case e3 => k_is); (case s3 => k_is); (case t3 => k_is)
  (case x4 => k_is); (case q4 => k_exc); (case e4 => k_is); (case s4 => k_is); (case t4 => k_is)
  (case x5 => k_is); (case q5 => k_exc); (case e5 => k_is); (case s5 => k_is); (case t5 => k_is)
  (case mq0 => kernel_rfl); (case ma0 => k_is); (case mf0 => k_is); (case ml0 => k_is); (case mc0 => k_is); (case mk0 => k_is)
  (case mq1 => kernel_rfl); (case ma1 => k_is); (case mf1 => k_is); (case ml1 => k_is); (case mc1 => k_is); (case mk1 => k_is)
  (case mq2 => kernel_rfl); (case ma2 => k_is); (case mf2 => k_is); (case ml2 => k_is); (case mc2 => k_is); (case mk2 => k_is)
  (case mq3 => kernel_rfl); (case ma3 => k_is); (case mf3 => k_is); (case ml3 => k_is); (case mc3 => k_is); (case mk3 => k_is)
  (case mq4 => kernel_rfl); (case ma4 => k_is); (case mf4 => k_is); (case ml4 => k_is); (case mc4 => k_is); (case mk4 => k_is)
  (case mq5 => kernel_rfl); (case ma5 => k_is); (case mf5 => k_is); (case ml5 => k_is); (case mc5 => k_is); (case mk5 => k_is)
  (case cb => kernel_rfl)
  (case xb => kernel_rfl); (case mb => kernel_rfl)
