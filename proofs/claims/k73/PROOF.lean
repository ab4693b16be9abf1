import PyProof.Rows.All
import Wide.All
import OpenK.AllK
import Wide.FinOn
import KE.KStateDown
import HandS.ForMost
import HandS.More
import HandS.Deep
import HandS.StrMore
import HandS.Replace
import PyProof.ReprReads
import HandS.TupAny
import HandS.Small
import HandS.Flow
import HandS.Style
import HandS.CallSlots
import HandS.TryOnly
import HandS.Wide
import HandS.WordsExc
import HandS.Defaults
import HandS.Head0
import HandS.Head1
import HandS.Head2
import HandS.HeadEnd
import HandS.HeadHook1
import HandS.HeadHook2
import KE.SortKeyHeap
import HandS.Lambda
import HandS.TupMul
import HandS.Strs
import HandS.FStr
import HandS.Text
import HandS.RaiseMore
import HandS.IsInst
import HandS.Iter
import HandS.Zip
import KE.GoesZip
import KE.GoesMore
import HandS.Ends
import HandS.SortKw
import HandS.Codes
import PyProof.ReprLen
import PySem.Challenge.RW_noticewood_k73_messages_written
set_option Elab.async false
set_option linter.all false
set_option maxRecDepth 100000
/-! Nw, part A: the small language, what it is worth. -/
namespace Nw
open PySem

/-! ### values -/
abbrev D := PyData
/-- a value: data, or an object of the store -/
inductive Dv where
  | py (d : D)
  | obj (l : Nat)
/-- a container of one's own, or an object of the store -/
inductive OD where
  | lst (xs : List Dv)
  | dic (kvs : List (D × Dv))
  | ins (c : Str) (fs : List (Str × Dv))
/-- an expression's value: a value, or a container that nobody else has -/
inductive RV where
  | val (x : Dv)
  | new (o : OD)
inductive Slot where
  | un
  | val (x : Dv)
  | own (o : OD)
  | lok (o : OD)
structure Fr where
  sl : List Slot
  st : List OD
inductive Res (α : Type) where
  | ok (a : α) (fr : Fr)
  | exc (c : Str) (p : Option D) (fr : Fr)
  | stuck
def M (α : Type) := Fr → Res α
def Res.andThen {α β : Type} : Res α → (α → M β) → Res β
  | .ok a fr, f => f a fr
  | .exc c p fr, _ => .exc c p fr
  | .stuck, _ => .stuck
instance : Monad M where
  pure a := fun fr => .ok a fr
  bind m f := fun fr => (m fr).andThen f
theorem Res.assoc {α β γ : Type} (r : Res α) (f : α → M β) (g : β → M γ) : (r.andThen f).andThen g = r.andThen fun x fr => (f x fr).andThen g := by
  cases r <;> rfl
instance : LawfulMonad M := LawfulMonad.mk'
  (id_map := fun x => by
    funext fr
    show (x fr).andThen (fun a fr => .ok a fr) = x fr
    cases x fr <;> rfl)
  (pure_bind := fun x f => rfl)
  (bind_assoc := fun x f g => by
    funext fr
    exact Res.assoc (x fr) f g)
def stuckM {α : Type} : M α := fun _ => .stuck
/-- an answer, or none -/
def liftO {α : Type} : Option α → M α
  | some a => fun fr => .ok a fr
  | none => fun _ => .stuck

def allD : List Dv → Option (List D)
  | [] => some []
  | .py d :: r => (allD r).map (d :: ·)
  | .obj _ :: _ => none
def allKD : List (D × Dv) → Option (List (D × D))
  | [] => some []
  | (k, .py d) :: r => (allKD r).map ((k, d) :: ·)
  | (_, .obj _) :: _ => none
/-- what it is as data -/
def OD.toD : OD → Option D
  | .lst xs => (allD xs).map .list
  | .dic kvs => (allKD kvs).map .dict
  | .ins _ _ => none
def OD.toDv (o : OD) : Option Dv := o.toD.map .py

/-! ### the language -/
inductive BOp where
  | add | sub | mul | fdiv | mod | pow | band | shr | shl
inductive COp where
  | eq | ne | lt | le | gt | ge | mem | nmem | isN | notN
/-- built-ins called by name -/
inductive BI where
  | len | abs | int | bool | str | list | tuple | dict | sum | max | min | all | any | repr | sorted | setlen
/-- methods of texts and data that change nothing -/
inductive MT where
  | join | split | count | index | replace | upper | rpartition | find | get
/-- methods that change their list or dict -/
inductive MU where
  | append | extend | pop | insert | reverse | clear | update
inductive Tg where
  | one (i : Nat)
  | tup (is : List Nat)
inductive E where
  | var (i : Nat)
  | pk (i : Nat)
  | cst (d : D)
  | glb (x : Str) (d : D)
  | neg (a : E)
  | bin (o : BOp) (a b : E)
  | cmp (o : COp) (a b : E)
  | chain (o o' : COp) (a b c : E)
  | conj (a b : E)
  | disj (a b : E)
  | not (a : E)
  | ife (c a b : E)
  | tup (es : List E)
  | lst (es : List E)
  | dic (kvs : List E)
  | sub (a i : E)
  | sli (a : E) (lo hi : Option E)
  | rev (a : E)
  | stp (a : E) (k : Nat)
  | call (f : Str) (es : List E)
  | bi (f : BI) (es : List E)
  | met (m : MT) (r : E) (es : List E)
  | mut (m : MU) (i : Nat) (es : List E)
  | ext (i : Nat) (e : E)
  | rng1 (a : E)
  | rng3 (es : List E)
  | zip (a b : E)
  | enum (a : E)
  | comp (tg : Tg) (src : E) (cond : Option E) (elt : E)
  | isi (a : E) (tys : List String)
  | fstr (es : List E)
  | srt (a : E) (f : Str)
  | srtL (a : E) (i : Nat) (k : E)
  | ev (a : E)
  | walk (a : E)
  | tst (a : E)
  | tand (a b : E)
  | tor (a b : E)
  | tnot (a : E)
  | tcmp (o : COp) (a b : E)
  | tchain (o o' : COp) (a b c : E)
  | rf (a : E)
  | fz (i : Nat) (a : E)
inductive S where
  | set (i : Nat) (e : E)
  | own (i : Nat) (e : E)
  | ref (i : Nat) (e : E)
  | unp (tg : List Nat) (e : E)
  | par (i j : Nat) (a b : E)
  | seti (i : Nat) (k e : E)
  | ex (e : E)
  | ret (e : E)
  | retv (i : Nat)
  | retn
  | ife (c : E) (a b : List S)
  | for (tg : Tg) (src : E) (body : List S)
  | whl (c : E) (body : List S)
  | pass
  | brk
  | cont
  | raise (c : Str) (e : Option E)
  | tryx (body : List S) (c : Str) (i : Option Nat) (suite : List S)
inductive Fl where
  | next
  | brk
  | cont
  | ret (r : RV)

/-! ### operations on data -/
def LIM : Nat := 16777216
def fits (n : Nat) : Bool := decide (n ≤ 16777216)
def big (i : Int) : Bool := decide (-(2 ^ 64) < i ∧ i < 2 ^ 64)
def guardO {α : Type} (b : Bool) (a : α) : Option α := if b then some a else none
/-- a new list of data -/
def newL (xs : List D) : RV := .new (.lst (xs.map .py))
def vD (d : D) : RV := .val (.py d)

def opB : BOp → D → D → Option RV
  | .add, .int i, .int j => some (vD (.int (i + j)))
  | .add, .str a, .str b => guardO (fits (a.length + b.length)) (vD (.str (a ++ b)))
  | .add, .list a, .list b => guardO (fits (a.length + b.length)) (newL (a ++ b))
  | .add, .tuple a, .tuple b => guardO (fits (a.length + b.length)) (vD (.tuple (a ++ b)))
  | .sub, .int i, .int j => some (vD (.int (i - j)))
  | .mul, .int i, .int j => guardO (big i || big j) (vD (.int (i * j)))
  | .mul, .str a, .int k => guardO (decide (-(2 ^ 63) ≤ k ∧ k.toNat ≤ 16777216 ∧ a.length * k.toNat ≤ 16777216)) (vD (.str (Txt.mul a k)))
  | .mul, .tuple a, .int k => guardO (decide (-1000 ≤ k ∧ k ≤ 1000 ∧ a.length ≤ 1000) && !a.isEmpty) (vD (.tuple (List.replicate k.toNat a).flatten))
  | .mul, .list a, .int k => guardO (decide (-(2 ^ 63) ≤ k ∧ k < 2 ^ 63 ∧ a.length * k.toNat ≤ 16777216)) (newL (List.replicate k.toNat a).flatten)
  | .fdiv, .int i, .int j => guardO (decide (0 < j ∧ j.natAbs.log2 < 9000)) (vD (.int (i / j)))
  | .mod, .int i, .int j => guardO (decide (0 < j)) (vD (.int (i % j)))
  | .pow, .int i, .int j => guardO (decide (0 ≤ j ∧ j ≤ 1000000 ∧ i.natAbs < 2 ^ 64)) (vD (.int (i ^ j.toNat)))
  | .band, .int i, .int j => some (vD (.int (Builtin.bitAnd i j)))
  | .shr, .int i, .int j => guardO (decide (0 ≤ j)) (vD (.int (i / 2 ^ j.toNat)))
  | .shl, .int i, .int j => guardO (decide (0 ≤ j ∧ j ≤ 1000000 ∧ i.natAbs < 2 ^ 64)) (vD (.int (i * 2 ^ j.toNat)))
  | _, _, _ => none

/-- the one text within the other -/
def inStr (a b : Str) : Bool := !(Builtin.Str.occurrences b a 0 b.length 1).isEmpty
def memD (x : D) (xs : List D) : Bool := xs.any fun y => PyData.eqv y x
def shp (d : D) : Bool := SeqAt.shaped d
def keyD : D → Bool
  | .int _ => true
  | .str _ => true
  | _ => false
def isNoneD : D → Bool
  | .none => true
  | _ => false
def keyEq : D → D → Bool
  | .int i, .int j => decide (i = j)
  | .str a, .str b => decide (a = b)
  | _, _ => false
def dicFind (kvs : List (D × D)) (k : D) : Option D := (kvs.find? fun p => keyEq p.1 k).map (·.2)
def twoStr : D → D → Bool
  | .str _, .str _ => true
  | _, _ => false
def lenNe : D → D → Bool
  | .list xs, .list ys => xs.length != ys.length
  | .dict _, .str _ => true
  | .str _, .dict _ => true
  | _, _ => false
def isStrD : D → Bool
  | .str _ => true
  | _ => false
def dicStr1 : D → List D → Bool
  | .dict _, ys => ys.all isStrD
  | _, _ => false
def opC : COp → D → D → Option Bool
  | .eq, a, b => if lenNe a b then some false else guardO (shp a && shp b || twoStr a b) (PyData.eqv a b)
  | .ne, a, b => if lenNe a b then some true else guardO (shp a && shp b || twoStr a b) (!PyData.eqv a b)
  | .lt, .int i, .int j => some (decide (i < j))
  | .lt, .str a, .str b => some (decide (a.cps.toList < b.cps.toList))
  | .le, .int i, .int j => some (decide (i ≤ j))
  | .gt, .int i, .int j => some (decide (j < i))
  | .ge, .int i, .int j => some (decide (j ≤ i))
  | .mem, .str a, .str b => some (inStr a b)
  | .nmem, .str a, .str b => some (!inStr a b)
  | .mem, x, .list ys => guardO (shp x && shp (.list ys)) (memD x ys)
  | .nmem, x, .list ys => guardO (shp x && shp (.list ys)) (!memD x ys)
  | .mem, x, .tuple ys => guardO (dicStr1 x ys || shp x && shp (.tuple ys)) (memD x ys)
  | .nmem, x, .tuple ys => guardO (shp x && shp (.tuple ys)) (!memD x ys)
  | .mem, .str a, .dict kvs => some (dicFind kvs (.str a)).isSome
  | .nmem, .str a, .dict kvs => some (!(dicFind kvs (.str a)).isSome)
  | .isN, x, .none => some (isNoneD x)
  | .notN, x, .none => some (!isNoneD x)
  | _, _, _ => none
/-- a value's truth -/
def truD : D → Option Bool
  | .none => some false
  | .bool b => some b
  | .int i => some (i != 0)
  | .str s => guardO (fits s.length) (s.length != 0)
  | .list xs => some (!xs.isEmpty)
  | .tuple xs => some (!xs.isEmpty)
  | .dict _ => none
/-- an item at a place, from behind too -/
def ixD {α : Type} (xs : List α) (i : Int) : Option α := L2.atI xs i
def dicGet (kvs : List (D × D)) (k : D) : Option D := (kvs.find? fun p => PyData.eqv p.1 k).map (·.2)
def opSub : D → D → Option D
  | .list xs, .int i => ixD xs i
  | .tuple xs, .int i => ixD xs i
  | .dict kvs, .str s => dicFind kvs (.str s)
  | .dict kvs, .int i => dicFind kvs (.int i)
  | .str s, .int i => if s.length ≤ 16777216 then (ixD s.cps.toList i).map fun c => .str ⟨#[c]⟩ else none
  | _, _ => none
def cutL {α : Type} (xs : List α) (lo hi : Option Int) : List α := (xs.drop (HT.sIx xs.length 0 lo)).take (HT.sIx xs.length xs.length hi - HT.sIx xs.length 0 lo)
def opSli (d : D) (lo hi : Option Int) : Option RV := match d with
  | .list xs => some (newL (cutL xs lo hi))
  | .tuple xs => some (vD (.tuple (cutL xs lo hi)))
  | .str s => guardO (fits s.length) (vD (.str ⟨(cutL s.cps.toList lo hi).toArray⟩))
  | _ => none
/-- each k-th item -/
def stpL {α : Type} (k : Nat) (xs : List α) : List α := (sliceRange (sliceBounds none none (some (k : Int)) xs.length).1 (sliceBounds none none (some (k : Int)) xs.length).2.1 (sliceBounds none none (some (k : Int)) xs.length).2.2).filterMap (xs[·]?)
def opStp (k : Nat) : D → Option RV
  | .list xs => some (newL (stpL k xs))
  | _ => none
def opRev : D → Option RV
  | .list xs => some (newL xs.reverse)
  | _ => none
def asInts : List D → Option (List Int)
  | [] => some []
  | .int i :: r => (asInts r).map (i :: ·)
  | _ => none
def asBools : List D → Option (List Bool)
  | [] => some []
  | .bool i :: r => (asBools r).map (i :: ·)
  | _ => none
def asStrs : List D → Option (List Str)
  | [] => some []
  | .str i :: r => (asStrs r).map (i :: ·)
  | _ => none
def itemsOf : D → Option (List D)
  | .list xs => some xs
  | .tuple xs => some xs
  | .str s => some (s.cps.toList.map fun c => .str ⟨#[c]⟩)
  | _ => none
def dedup : List D → List D
  | [] => []
  | x :: r => let q := dedup r; if memD x q then q else x :: q
def maxI : List Int → Option Int
  | [] => none
  | x :: r => some (r.foldl max x)
def minI : List Int → Option Int
  | [] => none
  | x :: r => some (r.foldl min x)
def typD : D → String
  | .none => "NoneType"
  | .bool _ => "bool"
  | .int _ => "int"
  | .str _ => "str"
  | .list _ => "list"
  | .tuple _ => "tuple"
  | .dict _ => "dict"
/-- isinstance of data and built-in classes -/
def isiD (d : D) (t : String) : Bool := typD d == t || (typD d == "bool" && t == "int")
end Nw

set_option maxRecDepth 100000
/-! Nw, part B: what code is worth. -/
namespace Nw
open PySem

/-! ### built-ins on data -/
/-- the unlike ones -/
def nubS (xs : List Str) : List Str := xs.foldl (fun acc x => if acc.any (· == x) then acc else acc ++ [x]) []
def signs (x : Str) : List Str := x.cps.toList.map fun c => ⟨#[c]⟩
def opBI : BI → List D → Option RV
  | .len, [.str s] => guardO (fits s.length) (vD (.int s.length))
  | .len, [.list xs] => some (vD (.int xs.length))
  | .len, [.tuple xs] => some (vD (.int xs.length))
  | .setlen, [.str s] => guardO (decide (s.cps.size ≤ 4000)) (vD (.int (nubS (signs s)).length))
  | .setlen, [.list xs] => (asStrs xs).bind fun ys => guardO (decide (ys.length ≤ 4000)) (vD (.int (nubS ys).length))
  | .abs, [.int i] => some (vD (.int (if i < 0 then -i else i)))
  | .int, [.int i] => some (vD (.int i))
  | .int, [.bool b] => some (vD (.int (if b then 1 else 0)))
  | .int, [.str s] => (PySem.intText? s).bind fun n => guardO (decide (s.length ≤ 640)) (vD (.int n))
  | .bool, [.int i] => some (vD (.bool (i != 0)))
  | .bool, [.bool b] => some (vD (.bool b))
  | .str, [.int i] => guardO (decide (i.natAbs.log2 < 1920)) (vD (.str (toString i)))
  | .str, [.str s] => some (vD (.str s))
  | .list, [.list xs] => some (newL xs)
  | .list, [.tuple xs] => some (newL xs)
  | .list, [.dict kvs] => some (newL (kvs.map (·.1)))
  | .list, [.str s] => guardO (fits s.length) (newL (s.cps.toList.map fun c => .str ⟨#[c]⟩))
  | .tuple, [.list xs] => some (vD (.tuple xs))
  | .tuple, [.tuple xs] => some (vD (.tuple xs))
  | .sum, [.list xs] => (asInts xs).map fun ns => vD (.int ns.sum)
  | .max, [.int i, .int j] => some (vD (.int (if j > i then j else i)))
  | .min, [.int i, .int j] => some (vD (.int (if j < i then j else i)))
  | .max, [.list xs] => (asInts xs).bind fun ns => (maxI ns).map fun m => vD (.int m)
  | .min, [.list xs] => (asInts xs).bind fun ns => (minI ns).map fun m => vD (.int m)
  | .all, [.list xs] => (asBools xs).map fun bs => vD (.bool (bs.all id))
  | .any, [.list xs] => (asBools xs).map fun bs => vD (.bool (bs.any id))
  | .repr, [d] => guardO (d.showable && !d.hasDict && fits d.shown.length && decide (d.depth ≤ 64)) (vD (.str d.shown))
  | _, _ => none
def opMT : MT → Str → List D → Option RV
  | .join, a, [.list xs] => (asStrs xs).bind fun ys => guardO (fits ((ys.map (·.length)).sum + ys.length * a.length)) (vD (.str (Txt.join a ys)))
  | .join, a, [.tuple xs] => (asStrs xs).bind fun ys => guardO (fits ((ys.map (·.length)).sum + ys.length * a.length)) (vD (.str (Txt.join a ys)))
  | .split, a, [.str b] => guardO (b.length != 0 && fits (a.length + 2)) (newL ((Txt.split a b).map .str))
  | .rpartition, a, [.str b] => guardO (b.length != 0 && fits a.length) (vD (.tuple [.str (Txt.rpartition a b).1, .str (Txt.rpartition a b).2.1, .str (Txt.rpartition a b).2.2]))
  | .count, a, [.str b] => some (vD (.int (Txt.count a b)))
  | .find, a, [.str b] => some (vD (.int (Txt.find a b)))
  | .upper, a, [] => guardO (decide (a.length ≤ 5592405)) (vD (.str (Txt.upper a)))
  | .index, a, [.str b] => match Builtin.Str.occurrences a b 0 a.length 1 with
    | i :: _ => some (vD (.int (i : Nat)))
    | [] => none
  | _, _, _ => none
def dvInt : Dv → Option Int
  | .py (.int i) => some i
  | _ => none
/-- what a changing method answers, and what its container is then -/
def opMU : MU → OD → List Dv → Option (Dv × OD)
  | .append, .lst xs, [y] => guardO (decide (xs.length < 16777216)) (.py .none, .lst (xs ++ [y]))
  | .pop, .lst xs, [] => xs.getLast?.map fun y => (y, .lst xs.dropLast)
  | .pop, .lst xs, [.py (.int i)] => if -(2 ^ 63) ≤ i ∧ i < 2 ^ 63 then (seqIndex? i xs.length).bind fun k => xs[k]?.map fun y => (y, .lst (xs.eraseIdx k)) else none
  | .insert, .lst xs, [.py (.int i), y] => guardO (decide (xs.length < 16777216 ∧ 0 ≤ i ∧ i < 2 ^ 63)) (.py .none, .lst (xs.take i.toNat ++ [y] ++ xs.drop i.toNat))
  | .reverse, .lst xs, [] => some (.py .none, .lst xs.reverse)
  | .clear, .lst _, [] => some (.py .none, .lst [])
  | _, _, _ => none
/-- in its place, or at the end -/
def putD (kvs : List (D × Dv)) (k : D) (v : Dv) : List (D × Dv) := if kvs.any fun p => keyEq p.1 k then kvs.map fun p => if keyEq p.1 k then (p.1, v) else p else kvs ++ [(k, v)]
def opSet : OD → D → Dv → Option OD
  | .lst xs, .int i, v => (L2.ixN xs.length i).map fun j => .lst (xs.set j v)
  | .dic kvs, k, v => if keyD k && decide (kvs.length < 16000000) then some (.dic (putD kvs k v)) else none
  | _, _, _ => none

def mergeD (kvs : List (D × Dv)) : List (D × Dv) → List (D × Dv)
  | [] => kvs
  | p :: r => mergeD (putD kvs p.1 p.2) r
/-! ### slots, handles -/
def getS (i : Nat) : M Slot := fun fr => match fr.sl[i]? with
  | some s => .ok s fr
  | none => .stuck
def setS (i : Nat) (s : Slot) : M Unit := fun fr => if i < fr.sl.length then .ok () { fr with sl := fr.sl.set i s } else .stuck
def viewDv : Dv → M D
  | .py d => fun fr => .ok d fr
  | .obj l => fun fr => match fr.st[l]? with
    | some o => liftO o.toD fr
    | none => .stuck
inductive Hd where
  | dv (x : Dv)
  | slot (i : Nat)
def viewH : Hd → M D
  | .dv x => viewDv x
  | .slot i => fun fr => match fr.sl[i]? with
    | some (.own o) => liftO o.toD fr
    | some (.lok o) => liftO o.toD fr
    | some (.val x) => viewDv x fr
    | _ => .stuck
def viewHs : List Hd → M (List D)
  | [] => pure []
  | h :: r => do
    let d ← viewH h
    let ds ← viewHs r
    pure (d :: ds)
/-- a value of it: what is one's own is frozen -/
def RV.fz : RV → M Dv
  | .val x => pure x
  | .new o => liftO o.toDv
def toV (m : M RV) : M Dv := m >>= RV.fz
def Dv.toD : Dv → M D
  | .py d => pure d
  | .obj _ => stuckM
def toD (m : M RV) : M D := toV m >>= Dv.toD
def pkH (i : Nat) : M Hd := fun fr => match fr.sl[i]? with
  | some (.own _) => .ok (.slot i) fr
  | some (.lok _) => .ok (.slot i) fr
  | some (.val x) => .ok (.dv x) fr
  | _ => .stuck
def toH (e : E) (m : M RV) : M Hd := match e with
  | .pk i => pkH i
  | _ => toV m >>= fun x => pure (.dv x)
/-- a name as a value: what is one's own is frozen -/
def varM (i : Nat) : M RV := fun fr => match fr.sl[i]? with
  | some (.val x) => .ok (.val x) fr
  | some (.own o) => match o.toDv with
    | some x => .ok (.val x) { fr with sl := fr.sl.set i (.val x) }
    | none => .stuck
  | _ => .stuck
def truH (h : Hd) : M Bool := do
  let d ← viewH h
  liftO (truD d)
def lenOf (d : D) : Option (List D) := itemsOf d

/-! ### targets, walks -/
def setAll : List Nat → List D → M Unit
  | [], [] => pure ()
  | i :: is, d :: ds => do
    setS i (.val (.py d))
    setAll is ds
  | _, _ => stuckM
def bindT : Tg → D → M Unit
  | .one i, d => setS i (.val (.py d))
  | .tup is, .tuple ds => setAll is ds
  | _, _ => stuckM
def slotsT : Tg → List Nat
  | .one i => [i]
  | .tup is => is
def wipeS (is : List Nat) (sl : List Slot) : List Slot := is.foldl (fun l i => l.set i .un) sl
def Slot.isO : Slot → Bool
  | .own _ => true
  | .lok _ => true
  | _ => false
def Slot.lock : Slot → Slot
  | .own o => .lok o
  | s => s
/-- the items of a comprehension, one by one: each turn begins by the slots at its start (its own ones wiped, what is one's own locked) -/
def compL (tg : Tg) (body : M (Option Dv)) (base : List Slot) : List D → List Dv → M (List Dv)
  | [], acc => fun fr => .ok acc fr
  | x :: r, acc => fun fr => match ((bindT tg x : M Unit) >>= fun _ => body) ⟨base, fr.st⟩ with
    | .ok (some v) fr' => if acc.length < 16777216 then compL tg body base r (acc ++ [v]) { fr with st := fr'.st } else .stuck
    | .ok none fr' => compL tg body base r acc { fr with st := fr'.st }
    | _ => .stuck
def compM (tg : Tg) (body : M (Option Dv)) (xs : List D) : M RV := fun fr =>
  match compL tg body ((wipeS (slotsT tg) fr.sl).map Slot.lock) xs [] fr with
  | .ok vs fr' => .ok (.new (.lst vs)) fr'
  | _ => .stuck
def forL (tg : Tg) (body : M Fl) : List D → M Fl
  | [] => pure .next
  | x :: r => do
    bindT tg x
    match ← body with
    | .next => forL tg body r
    | .cont => forL tg body r
    | .brk => pure .next
    | .ret v => pure (.ret v)
def loopW (c : M Bool) (body : M Fl) : Nat → M Fl
  | 0 => stuckM
  | n + 1 => do
    if ← c then
      match ← body with
      | .next => loopW c body n
      | .cont => loopW c body n
      | .brk => pure .next
      | .ret v => pure (.ret v)
    else pure .next

/-! ### sorting -/
def tup1 : D → Bool
  | .tuple (_ :: _) => true
  | _ => false
def noTup : D → Bool
  | .none => false
  | .tuple _ => false
  | _ => true
/-- keys that can be put in order among each other -/
def keysOk (ks : List D) : Bool := (ks.all fun j => ks.all fun k => PySem.W.alike j k) && (ks.all tup1 || ks.all noTup) && ks.all fun k => decide (k.depth ≤ 60) && !k.hasDict
def sortD (ks xs : List D) : Option (List D) := if keysOk ks && decide (ks.length = xs.length) then some (((ks.zip xs).mergeSort (PySem.W.dataLe false Prod.fst)).map (·.2)) else none
def mapD (f : D → M D) : List D → M (List D)
  | [] => pure []
  | x :: r => do
    let y ← f x
    let ys ← mapD f r
    pure (y :: ys)

/-! ### expressions -/
/-- a def's call: its name, the arguments, the store -/
abbrev Call := Str → List Dv → List OD → Res RV
def callM (C : Call) (f : Str) (xs : List Dv) : M RV := fun fr => match C f xs fr.st with
  | .ok r fr' => .ok r { fr with st := fr'.st }
  | .exc c p fr' => .exc c p { fr with st := fr'.st }
  | .stuck => .stuck
/-- the keys one by one, and the store behind them -/
def keysOf (C : Call) (f : Str) : List D → List OD → Option (List D × List OD)
  | [], st => some ([], st)
  | d :: r, st => match C f [.py d] st with
    | .ok (.val (.py k)) fr => (keysOf C f r fr.st).map fun p => (k :: p.1, p.2)
    | _ => none
def srtB (C : Call) (f : Str) : List D → M RV
  | [.list xs] => fun fr => match keysOf C f xs fr.st with
    | some q => match sortD q.1 xs with
      | some ys => .ok (newL ys) { fr with st := q.2 }
      | none => .stuck
    | none => .stuck
  | _ => stuckM
def oneH (m : M Hd) : M (List Hd) := m >>= fun x => (pure [] : M (List Hd)) >>= fun xs => pure (x :: xs)
/-- the container that a name stands for: the frame's own, or an object of the store -/
def getC (i : Nat) (fr : Fr) : Option OD := match fr.sl[i]? with
  | some (.own o) => some o
  | some (.val (.obj l)) => fr.st[l]?
  | _ => none
def putC (i : Nat) (o : OD) (fr : Fr) : Fr := match fr.sl[i]? with
  | some (.own _) => { fr with sl := fr.sl.set i (.own o) }
  | some (.val (.obj l)) => { fr with st := fr.st.set l o }
  | _ => fr
def chkL (i : Nat) : M Unit := fun fr => match getC i fr with
  | some (.lst _) => .ok () fr
  | _ => .stuck
def chkC (i : Nat) : M Unit := fun fr => match getC i fr with
  | some (.lst _) => .ok () fr
  | some (.dic _) => .ok () fr
  | _ => .stuck
def mutM (m : MU) (i : Nat) (xs : List Dv) : M RV := fun fr => match getC i fr with
  | some o => match opMU m o xs with
    | some (x, o') => .ok (.val x) (putC i o' fr)
    | none => .stuck
  | none => .stuck
def extM (i : Nat) : RV → M RV
  | .new (.lst ys) => fun fr => match getC i fr with
    | some (.lst xs) => if xs.length + ys.length ≤ 16777216 then .ok (vD .none) (putC i (.lst (xs ++ ys)) fr) else .stuck
    | _ => .stuck
  | .val (.py (.list ys)) => fun fr => match getC i fr with
    | some (.lst xs) => if xs.length + ys.length ≤ 16777216 then .ok (vD .none) (putC i (.lst (xs ++ ys.map .py)) fr) else .stuck
    | _ => .stuck
  | _ => stuckM
def setiM (i : Nat) (k : D) (x : Dv) : M Unit := fun fr => match getC i fr with
  | some o => match opSet o k x with
    | some o' => .ok () (putC i o' fr)
    | none => .stuck
  | none => .stuck
def optI (e : Option (M Hd)) : M (Option Int) := match e with
  | none => pure none
  | some m => do
    let h ← m
    match ← viewH h with
    | .int i => pure (some i)
    | _ => stuckM
def rngD (a b c : Int) : Option (List D) :=
  if -(2 ^ 62) ≤ a ∧ a < 2 ^ 62 ∧ -(2 ^ 62) ≤ b ∧ b < 2 ^ 62 then
    if c = 1 then some ((List.range (b - a).toNat).map fun (k : Nat) => .int (a + (k : Int)))
    else if c = -1 then some ((List.range (a - b).toNat).map fun (k : Nat) => .int (a - (k : Int)))
    else none
  else none
def intM (m : M Hd) : M Int := do
  let h ← m
  match ← viewH h with
  | .int i => pure i
  | _ => stuckM
def pairsD (xs ys : List D) : List D := (xs.zip ys).map fun p => .tuple [p.1, p.2]
def zipD (d d' : D) : Option (List D) := (itemsOf d).bind fun xs => (itemsOf d').map fun ys => pairsD xs ys
def enumD : D → Option (List D)
  | .list xs => some (pairsD ((List.range xs.length).map fun (k : Nat) => .int (k : Int)) xs)
  | _ => none
/-- a value to be walked: not an object of the store -/
def viewIt : Hd → M D
  | .dv (.py d) => fun fr => .ok d fr
  | .dv (.obj _) => stuckM
  | .slot i => fun fr => match fr.sl[i]? with
    | some (.own o) => liftO o.toD fr
    | some (.lok o) => liftO o.toD fr
    | _ => .stuck
def seqOf : D → Option (List D)
  | .list xs => some xs
  | .tuple xs => some xs
  | _ => none
def strsJ : List D → Option (List Str)
  | [] => some []
  | .str s :: r => (strsJ r).map (s :: ·)
  | .int i :: r => if i.natAbs.log2 < 1920 then (strsJ r).map (toString i :: ·) else none
  | _ => none
/-! the forms, by what their parts are worth -/
def binM (o : BOp) (ma mb : M Hd) : M RV := do
  let x ← ma
  let y ← mb
  let d ← viewH x
  let d' ← viewH y
  liftO (opB o d d')
def cmpM (o : COp) (ma mb : M Hd) : M Bool := do
  let x ← ma
  let y ← mb
  let d ← viewH x
  let d' ← viewH y
  liftO (opC o d d')
def chainM (o o' : COp) (ma mb mc : M Hd) : M Bool := ma >>= fun x => mb >>= fun y => viewH x >>= fun d => viewH y >>= fun d' => liftO (opC o d d') >>= fun t =>
  if t then mc >>= fun z => viewH y >>= fun d' => viewH z >>= fun d2 => liftO (opC o' d' d2) else pure false
def boolM (m : M Bool) : M RV := m >>= fun t => pure (vD (.bool t))
def negM (mh : M Hd) : M RV := intM mh >>= fun i => pure (vD (.int (-i)))
def conjM (ma : M Dv) (mb : M RV) : M RV := ma >>= fun x => truH (.dv x) >>= fun t => if t then mb else pure (.val x)
def disjM (ma : M Dv) (mb : M RV) : M RV := ma >>= fun x => truH (.dv x) >>= fun t => if t then pure (.val x) else mb
def notM (mh : M Hd) : M RV := mh >>= fun h => truH h >>= fun t => pure (vD (.bool !t))
def ifeM {α : Type} (mc : M Bool) (ma mb : M α) : M α := mc >>= fun t => if t then ma else mb
def tupM (ms : M (List Dv)) : M RV := ms >>= fun xs => match allD xs with
  | some ds => if ds.length ≤ 16777216 then pure (vD (.tuple ds)) else stuckM
  | none => stuckM
def lstM (ms : M (List Dv)) : M RV := ms >>= fun xs => if xs.length ≤ 16777216 then pure (.new (.lst xs)) else stuckM
def subM (ma mi : M Hd) : M RV := ma >>= fun x => mi >>= fun y => viewH x >>= fun d => viewH y >>= fun k => match opSub d k with
  | some r => pure (vD r)
  | none => stuckM
def sliM (ma : M Hd) (ml mh : M (Option Int)) : M RV := ma >>= fun x => ml >>= fun l => mh >>= fun h => viewH x >>= fun d => liftO (opSli d l h)
def revM (ma : M Hd) : M RV := ma >>= fun x => viewH x >>= fun d => liftO (opRev d)
def stpM (k : Nat) (ma : M Hd) : M RV := ma >>= fun x => viewH x >>= fun d => liftO (opStp k d)
def callF (C : Call) (f : Str) (ms : M (List Dv)) : M RV := ms >>= fun xs => callM C f xs
def biM (f : BI) (ms : M (List Hd)) : M RV := ms >>= fun hs => viewHs hs >>= fun ds => liftO (opBI f ds)
def metM (m : MT) (mh : M Hd) (ms : M (List Hd)) : M RV := mh >>= fun h => viewH h >>= fun d => match d with
  | .str s => ms >>= fun hs => viewHs hs >>= fun ds => liftO (opMT m s ds)
  | _ => stuckM
def mutLM (m : MU) (i : Nat) (ms : M (List Dv)) : M RV := chkL i >>= fun _ => ms >>= fun xs => mutM m i xs
def extLM (i : Nat) (m : M RV) : M RV := chkL i >>= fun _ => m >>= fun r => extM i r
def isiM (tys : List String) (mh : M Hd) : M RV := mh >>= fun h => viewH h >>= fun d => pure (vD (.bool (tys.any (isiD d))))
def rngM (m : M Hd) : M (List D) := intM m >>= fun n => liftO (rngD 0 n 1)
def rng3D : List D → Option (List D)
  | [.int i, .int j, .int k] => if k = -1 then rngD i j (-1) else none
  | _ => none
def rng3M (ms : M (List Hd)) : M (List D) := ms >>= fun hs => viewHs hs >>= fun ds => liftO (rng3D ds)
def zipM (ma mb : M D) : M (List D) := ma >>= fun d => mb >>= fun d' => liftO (zipD d d')
def enumM (m : M D) : M (List D) := m >>= fun d => liftO (enumD d)
def itCM (m : M Hd) : M (List D) := m >>= fun x => viewIt x >>= fun d => liftO (itemsOf d)
def itFM (m : M D) : M (List D) := m >>= fun d => liftO (itemsOf d)
def bodyM (mc : M Bool) (me : M Dv) : M (Option Dv) := mc >>= fun t => if t then me >>= fun v => pure (some v) else pure none
def compF (tg : Tg) (mi : M (List D)) (mc : M Bool) (me : M Dv) : M RV := mi >>= fun xs => compM tg (bodyM mc me) xs
def hdM (m : M RV) : M Hd := toV m >>= fun x => pure (.dv x)
/-- a part of an f-string -/
def txtV : Dv → Option Str
  | .py (.str s) => some s
  | .py (.int i) => if i.natAbs.log2 < 1920 then some (toString i) else none
  | _ => none
def fjM : List (M Dv) → Str → M Str
  | [], acc => pure acc
  | m :: r, acc => m >>= fun x => match txtV x with
    | some y => if y.length ≤ 16777216 ∧ (acc ++ y).length ≤ 16777216 then fjM r (acc ++ y) else stuckM
    | none => stuckM
def fstrM (ms : List (M Dv)) : M RV := fjM ms Str.empty >>= fun s => pure (vD (.str s))
/-- a lambda of one name -/
def lamC (m : M RV) : Call := fun _ xs st => match xs with
  | [x] => m ⟨[.val x], st⟩
  | _ => .stuck
def srtM (ms : M (List Hd)) (C : Call) (f : Str) : M RV := ms >>= fun hs => viewHs hs >>= fun ds => srtB C f ds
def lamM (i : Nat) (m : M D) : D → M D := fun x fr => match ((setS i (.val (.py x)) : M Unit) >>= fun _ => m) ⟨(wipeS [i] fr.sl).map Slot.lock, fr.st⟩ with
  | .ok d fr' => .ok d { fr with st := fr'.st }
  | _ => .stuck
/-- no slot has got a container of its own -/
def okSl (a b : List Slot) : Bool := (a.zip b).all fun p => !p.2.isO || p.1.isO
def dicM (m : M (List (D × Dv))) : M RV := fun fr => (m fr).andThen fun kvs fr2 => if okSl fr.sl fr2.sl then .ok (.new (.dic (mergeD [] kvs))) fr2 else .stuck
def kvM : List (M D × M Dv) → M (List (D × Dv))
  | [] => pure []
  | (mk, mv) :: r => mk >>= fun d => if keyD d then mv >>= fun x => kvM r >>= fun q => pure ((d, x) :: q) else stuckM
/-- the new object's number -/
def newM (o : OD) : M Dv := fun fr => .ok (.obj fr.st.length) { fr with st := fr.st ++ [o] }
/-- a new container by reference -/
def rfM (m : M RV) : M RV := m >>= fun r => match r with
  | .new o => newM o >>= fun x => pure (.val x)
  | .val _ => stuckM
mutual
def dE (C : Call) : E → M RV
  | .var i => varM i
  | .pk _ => stuckM
  | .cst d => pure (vD d)
  | .glb _ d => pure (vD d)
  | .neg a => negM (dH C a)
  | .bin o a b => binM o (dH C a) (dH C b)
  | .cmp o a b => boolM (cmpM o (dH C a) (dH C b))
  | .chain o o' a b c => boolM (chainM o o' (dH C a) (dH C b) (dH C c))
  | .conj a b => conjM (toV (dE C a)) (dE C b)
  | .disj a b => disjM (toV (dE C a)) (dE C b)
  | .not a => notM (dH C a)
  | .ife c a b => ifeM (dT C c) (dE C a) (dE C b)
  | .tup es => tupM (dVs C es)
  | .lst es => lstM (dVs C es)
  | .dic es => dicM (kvM (dKVs C es))
  | .sub a i => subM (dH C a) (dH C i)
  | .sli a lo hi => sliM (dH C a) (optI (dO C lo)) (optI (dO C hi))
  | .rev a => revM (dH C a)
  | .stp a k => stpM k (dH C a)
  | .call f es => callF C f (dVs C es)
  | .bi f es => biM f (dHs C es)
  | .met m r es => metM m (dH C r) (dHs C es)
  | .mut m i es => mutLM m i (dVs C es)
  | .ext i e => extLM i (dE C e)
  | .comp tg src cond elt => compF tg (dI C true src) (dC C cond) (toV (dE C elt))
  | .isi a tys => isiM tys (dH C a)
  | .fstr es => fstrM (dMs C es)
  | .srt a f => srtM (oneH (dH C a)) C f
  | .srtL a _ e => srtM (oneH (dH C a)) (lamC (dE C e)) ""
  | .rf a => rfM (dE C a)
  | .fz i a => varM i >>= fun _ => dE C a
  | _ => stuckM
/-- a test -/
def dT (C : Call) : E → M Bool
  | .tst a => dH C a >>= truH
  | .tand a b => dT C a >>= fun t => if t then dT C b else pure false
  | .tor a b => dT C a >>= fun t => if t then pure true else dT C b
  | .tnot a => dT C a >>= fun t => pure !t
  | .tcmp o a b => cmpM o (dH C a) (dH C b)
  | .tchain o o' a b c => chainM o o' (dH C a) (dH C b) (dH C c)
  | _ => stuckM
/-- a handle -/
def dH (C : Call) : E → M Hd
  | .pk i => pkH i
  | .ev a => hdM (dE C a)
  | _ => stuckM
/-- what is walked: c by a comprehension -/
def dI (C : Call) (c : Bool) : E → M (List D)
  | .rng1 a => rngM (dH C a)
  | .rng3 es => rng3M (dHs C es)
  | .zip a b => zipM (toD (dE C a)) (toD (dE C b))
  | .enum a => enumM (toD (dE C a))
  | .walk a => if c then itCM (dH C a) else stuckM
  | .ev a => itFM (toD (dE C a))
  | _ => stuckM
def dVs (C : Call) : List E → M (List Dv)
  | [] => pure []
  | e :: r => toV (dE C e) >>= fun x => dVs C r >>= fun xs => pure (x :: xs)
def dHs (C : Call) : List E → M (List Hd)
  | [] => pure []
  | e :: r => dH C e >>= fun x => dHs C r >>= fun xs => pure (x :: xs)
def dKVs (C : Call) : List E → List (M D × M Dv)
  | [] => []
  | k :: v :: es => (toD (dE C k), toV (dE C v)) :: dKVs C es
  | _ => [(stuckM, stuckM)]
def dMs (C : Call) : List E → List (M Dv)
  | [] => []
  | e :: es => toV (dE C e) :: dMs C es
def dO (C : Call) : Option E → Option (M Hd)
  | none => none
  | some e => some (dH C e)
def dC (C : Call) : Option E → M Bool
  | none => pure true
  | some e => dT C e
end
def dV (C : Call) (e : E) : M Dv := toV (dE C e)
def dD (C : Call) (e : E) : M D := toD (dE C e)
end Nw

set_option maxRecDepth 100000
/-! Nw, part C: statements, defs. -/
namespace Nw
open PySem
def retvM (i : Nat) : M Fl := fun fr => match fr.sl[i]? with
  | some (.own o) => .ok (.ret (.new o)) fr
  | some (.val x) => .ok (.ret (.val x)) fr
  | _ => .stuck
def setM (i : Nat) (m : M Dv) : M Fl := m >>= fun x => setS i (.val x) >>= fun _ => pure .next
def ownM (i : Nat) (m : M RV) : M Fl := m >>= fun r => match r with
  | .new o => setS i (.own o) >>= fun _ => pure .next
  | .val x => setS i (.val x) >>= fun _ => pure .next
def refM (i : Nat) (m : M RV) : M Fl := m >>= fun r => match r with
  | .new o => newM o >>= fun x => setS i (.val x) >>= fun _ => pure .next
  | .val _ => stuckM
def unpM (is : List Nat) (m : M Hd) : M Fl := m >>= fun h => viewH h >>= fun d => match d with
  | .tuple ds => setAll is ds >>= fun _ => pure .next
  | .list ds => setAll is ds >>= fun _ => pure .next
  | _ => stuckM
def parM (i j : Nat) (ma mb : M Dv) : M Fl := ma >>= fun x => mb >>= fun y => setS i (.val x) >>= fun _ => setS j (.val y) >>= fun _ => pure .next
def setiSM (i : Nat) (mh : M Hd) (m : M Dv) : M Fl := m >>= fun x => chkC i >>= fun _ => mh >>= fun h => viewH h >>= fun d => setiM i d x >>= fun _ => pure .next
def seqM (m : M Fl) (r : M Fl) : M Fl := m >>= fun f => match f with
  | .next => r
  | f => pure f
def turns : Nat := 100000
mutual
def dS (C : Call) : S → M Fl
  | .set i e => setM i (dV C e)
  | .own i e => ownM i (dE C e)
  | .ref i e => refM i (dE C e)
  | .unp is e => unpM is (dH C e)
  | .par i j a b => parM i j (dV C a) (dV C b)
  | .seti i k e => setiSM i (dH C k) (dV C e)
  | .ex e => dE C e >>= fun _ => pure .next
  | .ret e => dE C e >>= fun r => pure (.ret r)
  | .retv i => retvM i
  | .retn => pure (.ret (vD .none))
  | .ife c a b => dT C c >>= fun t => if t then dSs C a else dSs C b
  | .for tg src body => dI C false src >>= fun xs => forL tg (dSs C body) xs
  | .whl c body => loopW (dT C c) (dSs C body) turns
  | .pass => pure .next
  | .brk => pure .brk
  | .cont => pure .cont
  | .raise _ _ => stuckM
  | .tryx _ _ _ _ => stuckM
def dSs (C : Call) : List S → M Fl
  | [] => pure .next
  | s :: r => seqM (dS C s) (dSs C r)
end

/-- a def: its parameters' number, its slots' number, its body -/
structure Fn where
  ps : Nat
  ns : Nat
  body : List S
def Fn.start (F : Fn) (xs : List Dv) (st : List OD) : Fr := ⟨xs.map .val ++ List.replicate (F.ns - F.ps) .un, st⟩
/-- what a def hands back -/
def Res.ends : Res Fl → Res RV
  | .ok (.ret r) fr => .ok r fr
  | .ok .next fr => .ok (vD .none) fr
  | .ok _ _ => .stuck
  | .exc c p fr => .exc c p fr
  | .stuck => .stuck
/-- the defs by their names, calls at most k deep -/
def run (T : Str → Option Fn) : Nat → Call
  | 0 => fun _ _ _ => .stuck
  | k + 1 => fun f xs st => match T f with
    | some F => if xs.length = F.ps then (dSs (run T k) F.body (F.start xs st)).ends else .stuck
    | none => .stuck
end Nw

set_option maxRecDepth 100000
set_option maxHeartbeats 1000000
/-! Nw, part D: how values stand in the heap. -/
namespace Nw
open PySem PySem.Spec PyProof.Rows L2

/-- a heap where nothing is tracked -/
abbrev H0 : Hp := fun _ => none
/-- a list that stands still for ever -/
def FzL (K : PySem.W.Frag) (H : Hp) (a : Addr) (xs : List V) : Prop := (∃ o, H a = some (.frz o (.lst xs))) ∨ SqL K H0 a xs
theorem sql_of0 {K : PySem.W.Frag} {H : Hp} {a : Addr} {xs : List V} (h : SqL K H0 a xs) : SqL K H a xs := by
  rcases h with (h | ⟨o, h⟩) | h
  · cases h
  · cases h
  · exact .inr h
theorem sqt_of0 {K : PySem.W.Frag} {H : Hp} {a : Addr} {xs : List V} (h : SqT K H0 a xs) : SqT K H a xs := by
  rcases h with (h | ⟨o, h⟩) | h
  · cases h
  · cases h
  · exact .inr h
theorem FzL.sq {K : PySem.W.Frag} {H : Hp} {a : Addr} {xs : List V} (h : FzL K H a xs) : SqL K H a xs := by
  rcases h with ⟨o, h⟩ | h
  · exact .inl (.inr ⟨o, h⟩)
  · exact sql_of0 h
def keyOf : D → Option Key
  | .int i => some (.inl i)
  | .str s => some (.inr s)
  | _ => none
mutual
/-- the value v is the data d -/
def Rep (K : PySem.W.Frag) (H : Hp) : D → V → Prop
  | .none, v => v = .non
  | .bool b, v => v = .bl b
  | .int i, v => v = .int i
  | .str s, v => v = .str s
  | .list ds, v => ∃ a xs, v = .ref a ∧ FzL K H a xs ∧ Reps K H ds xs
  | .tuple ds, v => ∃ a xs, v = .ref a ∧ SqT K H a xs ∧ Reps K H ds xs
  | .dict kvs, v => ∃ a o ps, v = .ref a ∧ H a = some (.frz o (.dK ps)) ∧ RepKV K H kvs ps
def Reps (K : PySem.W.Frag) (H : Hp) : List D → List V → Prop
  | [], xs => xs = []
  | d :: ds, xs => ∃ v vs, xs = v :: vs ∧ Rep K H d v ∧ Reps K H ds vs
def RepKV (K : PySem.W.Frag) (H : Hp) : List (D × D) → List (Key × V) → Prop
  | [], ps => ps = []
  | (k, d) :: r, ps => ∃ z v vs, ps = (z, v) :: vs ∧ keyOf k = some z ∧ Rep K H d v ∧ RepKV K H r vs
end
/-- what stands for ever stands -/
structure Pers (H H' : Hp) : Prop where
  tup : ∀ a xs, H a = some (.tup xs) → H' a = some (.tup xs)
  frz : ∀ a o u, H a = some (.frz o u) → H' a = some (.frz o u)
theorem Pers.refl (H : Hp) : Pers H H := ⟨fun _ _ h => h, fun _ _ _ h => h⟩
theorem Pers.trans {H H1 H2 : Hp} (p : Pers H H1) (q : Pers H1 H2) : Pers H H2 := ⟨fun a xs h => q.tup a xs (p.tup a xs h), fun a o u h => q.frz a o u (p.frz a o u h)⟩
theorem Pers.fz {K : PySem.W.Frag} {H H' : Hp} {a : Addr} {xs : List V} (p : Pers H H') (h : FzL K H a xs) : FzL K H' a xs := by
  rcases h with ⟨o, h⟩ | h
  · exact .inl ⟨o, p.frz _ _ _ h⟩
  · exact .inr h
theorem Pers.sqt {K : PySem.W.Frag} {H H' : Hp} {a : Addr} {xs : List V} (p : Pers H H') (h : SqT K H a xs) : SqT K H' a xs := by
  rcases h with (h | ⟨o, h⟩) | h
  · exact .inl (.inl (p.tup _ _ h))
  · exact .inl (.inr ⟨o, p.frz _ _ _ h⟩)
  · exact .inr h
mutual
theorem Rep.pers {K : PySem.W.Frag} {H H' : Hp} (p : Pers H H') : ∀ {d : D} {v : V}, Rep K H d v → Rep K H' d v
  | .none, _, h => by simpa only [Rep] using h
  | .bool _, _, h => by simpa only [Rep] using h
  | .int _, _, h => by simpa only [Rep] using h
  | .str _, _, h => by simpa only [Rep] using h
  | .list ds, _, h => by
    simp only [Rep] at h ⊢
    obtain ⟨a, xs, e, f, r⟩ := h
    exact ⟨a, xs, e, p.fz f, Reps.pers p r⟩
  | .tuple ds, _, h => by
    simp only [Rep] at h ⊢
    obtain ⟨a, xs, e, f, r⟩ := h
    exact ⟨a, xs, e, p.sqt f, Reps.pers p r⟩
  | .dict kvs, _, h => by
    simp only [Rep] at h ⊢
    obtain ⟨a, o, ps, e, f, r⟩ := h
    exact ⟨a, o, ps, e, p.frz _ _ _ f, RepKV.pers p r⟩
theorem Reps.pers {K : PySem.W.Frag} {H H' : Hp} (p : Pers H H') : ∀ {ds : List D} {xs : List V}, Reps K H ds xs → Reps K H' ds xs
  | [], _, h => by simpa only [Reps] using h
  | d :: ds, _, h => by
    simp only [Reps] at h ⊢
    obtain ⟨v, vs, e, r, rs⟩ := h
    exact ⟨v, vs, e, Rep.pers p r, Reps.pers p rs⟩
theorem RepKV.pers {K : PySem.W.Frag} {H H' : Hp} (p : Pers H H') : ∀ {kvs : List (D × D)} {ps : List (Key × V)}, RepKV K H kvs ps → RepKV K H' kvs ps
  | [], _, h => by simpa only [RepKV] using h
  | (k, d) :: r, _, h => by
    simp only [RepKV] at h ⊢
    obtain ⟨z, v, vs, e, q, r1, rs⟩ := h
    exact ⟨z, v, vs, e, q, Rep.pers p r1, RepKV.pers p rs⟩
end
theorem Reps.len {K : PySem.W.Frag} {H : Hp} : ∀ {ds : List D} {xs : List V}, Reps K H ds xs → ds.length = xs.length
  | [], _, h => by simp only [Reps] at h; subst h; rfl
  | d :: ds, _, h => by
    simp only [Reps] at h
    obtain ⟨v, vs, rfl, _, rs⟩ := h
    rw [List.length_cons, List.length_cons, Reps.len rs]
theorem Reps.nil {K : PySem.W.Frag} {H : Hp} : Reps K H [] [] := by simp only [Reps]
theorem Reps.cons {K : PySem.W.Frag} {H : Hp} {d : D} {ds : List D} {v : V} {vs : List V} (h : Rep K H d v) (t : Reps K H ds vs) : Reps K H (d :: ds) (v :: vs) := by
  simp only [Reps]
  exact ⟨v, vs, rfl, h, t⟩
theorem Reps.get {K : PySem.W.Frag} {H : Hp} : ∀ {ds : List D} {xs : List V} {i : Nat} {d : D}, Reps K H ds xs → ds[i]? = some d → ∃ v, xs[i]? = some v ∧ Rep K H d v
  | [], _, _, _, _, e => by simp at e
  | d :: ds, _, i, d', h, e => by
    simp only [Reps] at h
    obtain ⟨v, vs, rfl, r, rs⟩ := h
    cases i with
    | zero =>
      have : d = d' := by simpa using e
      subst this
      exact ⟨v, rfl, r⟩
    | succ i => exact Reps.get (i := i) rs (by simpa using e)
theorem Reps.append {K : PySem.W.Frag} {H : Hp} : ∀ {ds es : List D} {xs ys : List V}, Reps K H ds xs → Reps K H es ys → Reps K H (ds ++ es) (xs ++ ys)
  | [], _, _, _, h, g => by simp only [Reps] at h; subst h; exact g
  | d :: ds, _, _, _, h, g => by
    simp only [Reps] at h
    obtain ⟨v, vs, rfl, r, rs⟩ := h
    exact .cons r (Reps.append rs g)
theorem Reps.drop {K : PySem.W.Frag} {H : Hp} : ∀ {ds : List D} {xs : List V} (n : Nat), Reps K H ds xs → Reps K H (ds.drop n) (xs.drop n)
  | _, _, 0, h => h
  | [], _, n + 1, h => by simp only [Reps] at h; subst h; exact .nil
  | d :: ds, _, n + 1, h => by
    simp only [Reps] at h
    obtain ⟨v, vs, rfl, r, rs⟩ := h
    exact Reps.drop (ds := ds) n rs
theorem Reps.take {K : PySem.W.Frag} {H : Hp} : ∀ {ds : List D} {xs : List V} (n : Nat), Reps K H ds xs → Reps K H (ds.take n) (xs.take n)
  | _, _, 0, _ => .nil
  | [], _, n + 1, h => by simp only [Reps] at h; subst h; exact .nil
  | d :: ds, _, n + 1, h => by
    simp only [Reps] at h
    obtain ⟨v, vs, rfl, r, rs⟩ := h
    exact .cons r (Reps.take n rs)
theorem Reps.reverse {K : PySem.W.Frag} {H : Hp} : ∀ {ds : List D} {xs : List V}, Reps K H ds xs → Reps K H ds.reverse xs.reverse
  | [], _, h => by simp only [Reps] at h; subst h; exact .nil
  | d :: ds, _, h => by
    simp only [Reps] at h
    obtain ⟨v, vs, rfl, r, rs⟩ := h
    rw [List.reverse_cons, List.reverse_cons]
    exact Reps.append (Reps.reverse rs) (.cons r .nil)
theorem keyEq_of {a b : D} {z w : Key} (ha : keyOf a = some z) (hb : keyOf b = some w) : keyEq a b = decide (z = w) := by
  cases a <;> simp only [keyOf, reduceCtorEq] at ha <;> cases b <;> simp only [keyOf, reduceCtorEq] at hb <;> cases ha <;> cases hb <;> simp [keyEq]
theorem RepKV.find {K : PySem.W.Frag} {H : Hp} {k : D} {z : Key} (hk : keyOf k = some z) : ∀ {kvs : List (D × D)} {ps : List (Key × V)}, RepKV K H kvs ps → (dicFind kvs k = none ∧ valV ps z = none) ∨ ∃ d v, dicFind kvs k = some d ∧ valV ps z = some v ∧ Rep K H d v
  | [], ps, h => by
    simp only [RepKV] at h
    subst h
    exact .inl ⟨rfl, rfl⟩
  | (k', d) :: r, ps, h => by
    simp only [RepKV] at h
    obtain ⟨z', v, vs, rfl, hz, rv, rs⟩ := h
    have e := keyEq_of hz hk
    unfold dicFind valV
    rw [List.find?_cons, List.find?_cons]
    dsimp only
    rw [e]
    by_cases hh : z' = z
    · rw [decide_eq_true hh]
      exact .inr ⟨d, v, rfl, rfl, rv⟩
    · rw [decide_eq_false hh]
      exact RepKV.find hk rs
theorem Reps.ints {K : PySem.W.Frag} {H : Hp} : ∀ ns : List Int, Reps K H (ns.map .int) (ns.map V.int)
  | [] => .nil
  | n :: ns => .cons (by simp only [Rep]) (Reps.ints ns)

/-! ### values, containers -/
/-- v is x: the objects of the store stand at φ -/
def RepV (K : PySem.W.Frag) (φ : List Addr) (H : Hp) : Dv → V → Prop
  | .py d, v => Rep K H d v
  | .obj l, v => ∃ a, φ[l]? = some a ∧ v = .ref a
def RepVs (K : PySem.W.Frag) (φ : List Addr) (H : Hp) : List Dv → List V → Prop
  | [], xs => xs = []
  | d :: ds, xs => ∃ v vs, xs = v :: vs ∧ RepV K φ H d v ∧ RepVs K φ H ds vs
def RepVKV (K : PySem.W.Frag) (φ : List Addr) (H : Hp) : List (D × Dv) → List (Key × V) → Prop
  | [], ps => ps = []
  | (k, d) :: r, ps => ∃ z v vs, ps = (z, v) :: vs ∧ keyOf k = some z ∧ RepV K φ H d v ∧ RepVKV K φ H r vs
/-- at a there is the container o, to be changed -/
def OwnR (K : PySem.W.Frag) (φ : List Addr) (H : Hp) (a : Addr) : OD → Prop
  | .lst xs => ∃ vs, H a = some (.lst vs) ∧ RepVs K φ H xs vs
  | .dic kvs => ∃ ps, H a = some (.dK ps) ∧ RepVKV K φ H kvs ps
  | .ins _ _ => False
section
variable {K : PySem.W.Frag} {φ φ' : List Addr} {H H' : Hp}
theorem RepV.ext (p : Pers H H') (hp : ∃ ψ, φ' = φ ++ ψ) : ∀ {x : Dv} {v : V}, RepV K φ H x v → RepV K φ' H' x v
  | .py d, v, h => Rep.pers p h
  | .obj l, v, h => by
    obtain ⟨a, e, rfl⟩ := h
    obtain ⟨ψ, rfl⟩ := hp
    refine ⟨a, ?_, rfl⟩
    rw [List.getElem?_append_left (List.getElem?_eq_some_iff.mp e).1]
    exact e
theorem RepVs.ext (p : Pers H H') (hp : ∃ ψ, φ' = φ ++ ψ) : ∀ {xs : List Dv} {vs : List V}, RepVs K φ H xs vs → RepVs K φ' H' xs vs
  | [], _, h => h
  | d :: ds, _, h => by
    obtain ⟨v, vs, rfl, r, rs⟩ := h
    exact ⟨v, vs, rfl, RepV.ext p hp r, RepVs.ext p hp rs⟩
theorem RepVKV.ext (p : Pers H H') (hp : ∃ ψ, φ' = φ ++ ψ) : ∀ {xs : List (D × Dv)} {vs : List (Key × V)}, RepVKV K φ H xs vs → RepVKV K φ' H' xs vs
  | [], _, h => h
  | (k, d) :: ds, _, h => by
    obtain ⟨z, v, vs, rfl, q, r, rs⟩ := h
    exact ⟨z, v, vs, rfl, q, RepV.ext p hp r, RepVKV.ext p hp rs⟩
theorem OwnR.ext {a : Addr} (p : Pers H H') (hp : ∃ ψ, φ' = φ ++ ψ) (k : ∀ u, H a = some u → H' a = some u) : ∀ {o : OD}, OwnR K φ H a o → OwnR K φ' H' a o
  | .lst xs, h => by
    obtain ⟨vs, e, r⟩ := h
    exact ⟨vs, k _ e, RepVs.ext p hp r⟩
  | .dic kvs, h => by
    obtain ⟨vs, e, r⟩ := h
    exact ⟨vs, k _ e, RepVKV.ext p hp r⟩
  | .ins _ _, h => h
theorem OwnR.extN {a : Addr} (p : Pers H H') (hp : ∃ ψ, φ' = φ ++ ψ) (k : ∀ u, H a = some u → (∀ ps, u ≠ .tbl ps) → H' a = some u) : ∀ {o : OD}, OwnR K φ H a o → OwnR K φ' H' a o
  | .lst xs, h => by
    obtain ⟨vs, e, r⟩ := h
    exact ⟨vs, k _ e (fun _ z => nomatch z), RepVs.ext p hp r⟩
  | .dic kvs, h => by
    obtain ⟨vs, e, r⟩ := h
    exact ⟨vs, k _ e (fun _ z => nomatch z), RepVKV.ext p hp r⟩
  | .ins _ _, h => h
theorem RepVs.len : ∀ {ds : List Dv} {xs : List V}, RepVs K φ H ds xs → ds.length = xs.length
  | [], _, h => by cases h; rfl
  | d :: ds, _, h => by
    obtain ⟨v, vs, rfl, _, rs⟩ := h
    rw [List.length_cons, List.length_cons, RepVs.len rs]
theorem RepVs.append : ∀ {ds es : List Dv} {xs ys : List V}, RepVs K φ H ds xs → RepVs K φ H es ys → RepVs K φ H (ds ++ es) (xs ++ ys)
  | [], _, _, _, h, g => by cases h; exact g
  | d :: ds, _, _, _, h, g => by
    obtain ⟨v, vs, rfl, r, rs⟩ := h
    exact ⟨v, vs ++ _, rfl, r, RepVs.append rs g⟩
theorem RepVs.py : ∀ {ds : List D} {xs : List V}, Reps K H ds xs → RepVs K φ H (ds.map .py) xs
  | [], _, h => by simp only [Reps] at h; exact h
  | d :: ds, _, h => by
    simp only [Reps] at h
    obtain ⟨v, vs, rfl, r, rs⟩ := h
    exact ⟨v, vs, rfl, r, RepVs.py rs⟩
theorem RepVs.all : ∀ {ds : List Dv} {es : List D} {xs : List V}, RepVs K φ H ds xs → allD ds = some es → Reps K H es xs
  | [], _, _, h, e => by
    cases h
    cases e
    exact .nil
  | .py d :: ds, _, _, h, e => by
    obtain ⟨v, vs, rfl, r, rs⟩ := h
    simp only [allD, Option.map_eq_some_iff] at e
    obtain ⟨es, e1, rfl⟩ := e
    exact .cons r (RepVs.all rs e1)
  | .obj _ :: ds, _, _, _, e => by cases e
theorem RepVKV.all : ∀ {ds : List (D × Dv)} {es : List (D × D)} {xs : List (Key × V)}, RepVKV K φ H ds xs → allKD ds = some es → RepKV K H es xs
  | [], _, _, h, e => by
    cases h
    cases e
    simp only [RepKV]
  | (k, .py d) :: ds, _, _, h, e => by
    obtain ⟨z, v, vs, rfl, q, r, rs⟩ := h
    simp only [allKD, Option.map_eq_some_iff] at e
    obtain ⟨es, e1, rfl⟩ := e
    simp only [RepKV]
    exact ⟨z, v, vs, rfl, q, r, RepVKV.all rs e1⟩
  | (k, .obj _) :: ds, _, _, _, e => by cases e
theorem RepVs.get : ∀ {ds : List Dv} {xs : List V} {i : Nat} {d : Dv}, RepVs K φ H ds xs → ds[i]? = some d → ∃ v, xs[i]? = some v ∧ RepV K φ H d v
  | [], _, _, _, _, e => by simp at e
  | d :: ds, _, i, d', h, e => by
    obtain ⟨v, vs, rfl, r, rs⟩ := h
    cases i with
    | zero =>
      have : d = d' := by simpa using e
      subst this
      exact ⟨v, rfl, r⟩
    | succ i => exact RepVs.get (i := i) rs (by simpa using e)
end

/-! ### freezing -/
def CanFz : HO → Prop
  | .lst _ => True
  | .dK _ => True
  | _ => False
theorem pers_fz {H : Hp} {a : Addr} {u o : HO} (e : H a = some u) (c : CanFz u) : Pers H (upd H a o) := by
  refine ⟨fun b xs h => ?_, fun b o u h => ?_⟩
  · rw [upd_ne (fun z => ?_)]
    · exact h
    · subst z
      rw [e] at h
      cases h
      exact c
  · rw [upd_ne (fun z => ?_)]
    · exact h
    · subst z
      rw [e] at h
      cases h
      exact c
theorem pers_new {H : Hp} {a : Addr} {o : HO} (e : H a = none) : Pers H (upd H a o) := by
  refine ⟨fun b xs h => ?_, fun b o u h => ?_⟩
  · rw [upd_ne (ne_of_none h e)]
    exact h
  · rw [upd_ne (ne_of_none h e)]
    exact h
/-- one's own, frozen, is data -/
theorem OwnR.frz {K : PySem.W.Frag} {φ : List Addr} {H : Hp} {a : Addr} : ∀ {o : OD} {d : D}, OwnR K φ H a o → o.toD = some d → ∃ u, H a = some u ∧ CanFz u ∧ ∀ ob, Rep K (upd H a (.frz ob u)) d (.ref a)
  | .lst xs, d, h, e => by
    obtain ⟨vs, eh, r⟩ := h
    simp only [OD.toD, Option.map_eq_some_iff] at e
    obtain ⟨ds, e1, rfl⟩ := e
    refine ⟨_, eh, trivial, fun ob => ?_⟩
    simp only [Rep]
    exact ⟨a, vs, rfl, .inl ⟨ob, upd_same⟩, Reps.pers (pers_fz eh trivial) (RepVs.all r e1)⟩
  | .dic kvs, d, h, e => by
    obtain ⟨vs, eh, r⟩ := h
    simp only [OD.toD, Option.map_eq_some_iff] at e
    obtain ⟨ds, e1, rfl⟩ := e
    refine ⟨_, eh, trivial, fun ob => ?_⟩
    simp only [Rep]
    exact ⟨a, ob, vs, rfl, upd_same, RepKV.pers (pers_fz eh trivial) (RepVKV.all r e1)⟩
  | .ins _ _, _, h, _ => h.elim

section
variable {X : Cx} {pins : List (Addr × Obj)} {σ : L2.St} {H : Hp} {s : Shared} {a : Addr} {u : HO}
theorem inv_fz (I : Inv X pins σ H s) (e : H a = some u) (c : CanFz u) : ∃ ob, Inv X pins σ (upd H a (.frz ob u)) s := by
  have nt : ∀ xs, u ≠ .tup xs := fun xs z => by subst z; exact c
  have nf : ∀ o w, u ≠ .frz o w := fun o w z => by subst z; exact c
  have nb : ∀ ps, u ≠ .tbl ps := fun ps z => by subst z; exact c
  have no : ∀ x, u ≠ .own x := fun x z => by subst z; exact c
  have oka := I.hok a u e
  obtain ⟨ob, hob⟩ : ∃ ob, s.heap.get? a = some ob := by
    cases u with
    | lst xs =>
      obtain ⟨_, _, _, _, q⟩ := oka
      exact ⟨_, q⟩
    | dK kvs =>
      obtain ⟨_, _, _, _, o, _, _, q, _⟩ := oka
      exact ⟨_, q⟩
    | _ => exact (c : False).elim
  have st : ∀ {b : Addr} {w : HO}, H b = some w → w ≠ u → b ≠ a := fun {b w} q n z => by
    subst z
    rw [e] at q
    exact n (Option.some.inj q).symm
  have ne : ∀ {b : Addr}, H b = none → b ≠ a := fun {b} q z => by
    subst z
    rw [e] at q
    cases q
  refine ⟨ob, ⟨I.ok, I.os, I.bare, ⟨I.base.keep, I.base.slot, fun b o h1 h2 h3 => ?_, I.base.there, fun b xs h => ?_, fun b o w h => ?_, fun b ps h => ?_⟩, I.loc, I.cell, ?_, fun x c h => ?_, fun p hp => ?_, fun b w h => ?_, I.len⟩⟩
  · have q := I.base.free b o h1 h2 h3
    rw [upd_ne (ne q)]
    exact q
  · have q := I.base.tups b xs h
    rw [upd_ne (st q (nt xs).symm)]
    exact q
  · have q := I.base.frzs b o w h
    rw [upd_ne (st q (nf o w).symm)]
    exact q
  · obtain ⟨more, q⟩ := I.base.tbls b ps h
    refine ⟨more, ?_⟩
    rw [upd_ne (st q (nb _).symm)]
    exact q
  · rw [upd_ne (ne I.free)]
    exact I.free
  · have q := I.freeC x c h
    rw [upd_ne (ne q)]
    exact q
  · obtain ⟨h1, h2, h3⟩ := I.pin p hp
    refine ⟨h1, ?_, h3⟩
    rw [upd_ne (ne h2)]
    exact h2
  · have stay : ∀ {b : Addr} {w : HO}, ObjOk X.prog X.w H s.heap b w → ObjOk X.prog X.w (upd H a (.frz ob u)) s.heap b w := fun {b w} q =>
      q.stay (fun _ _ _ z => z) (fun c z => by rw [upd_ne (st z (no _).symm)]; exact z) fun c xs z => by rw [upd_ne (st z (nt _).symm)]; exact z
    by_cases hb : b = a
    · subst hb
      rw [upd_same] at h
      cases h
      exact ⟨hob, stay oka⟩
    · rw [upd_ne hb] at h
      exact stay (I.hok b w h)
/-- a value may be frozen behind its making -/
theorem pe_frz {e : Expr} {t : TE} (h : PE X e t) : PE X e (fun σ H Q => t σ H fun v H1 => Q v H1 ∨ ∃ a u, v = .ref a ∧ H1 a = some u ∧ CanFz u ∧ ∀ ob, Q v (upd H1 a (.frz ob u))) := by
  refine ⟨fun pins s σ H Q I hq => ?_⟩
  refine thn (h.run pins s σ H _ I hq) fun v s1 ⟨x, H1, I1, r1, q1⟩ => ?_
  rcases q1 with q1 | ⟨a, u, e1, e2, c, q1⟩
  · exact ⟨x, H1, I1, r1, q1⟩
  · obtain ⟨ob, I2⟩ := inv_fz I1 e2 c
    exact ⟨x, _, I2, r1, q1 ob⟩
theorem PE.imp {e : Expr} {t t' : TE} (h : PE X e t) (i : ∀ σ H Q, t' σ H Q → t σ H Q) : PE X e t' := ⟨fun pins s σ H Q I hq => h.run pins s σ H Q I (i σ H Q hq)⟩
theorem PT.imp {e : Expr} {t t' : TT} (h : PT X e t) (i : ∀ σ H Q, t' σ H Q → t σ H Q) : PT X e t' := ⟨fun pins s σ H Q I hq => h.run pins s σ H Q I (i σ H Q hq)⟩
theorem PA.imp {es : List Expr} {t t' : TA} (h : PA X es t) (i : ∀ σ H Q, t' σ H Q → t σ H Q) : PA X es t' := ⟨fun pos pins s σ H Q I hq => h.run pos pins s σ H Q I (i σ H Q hq)⟩
theorem PS.imp {st : Stmt} {t t' : TS} (h : PS X st t) (i : ∀ D σ H, t' D σ H → t D σ H) : PS X st t' := ⟨fun pins s σ H D I hq => h.run pins s σ H D I (i D σ H hq)⟩
theorem PSs.imp {st : List Stmt} {t t' : TS} (h : PSs X st t) (i : ∀ D σ H, t' D σ H → t D σ H) : PSs X st t' := ⟨fun pins s σ H D I hq => h.run pins s σ H D I (i D σ H hq)⟩
end
end Nw

set_option autoImplicit false
set_option maxRecDepth 100000
set_option maxHeartbeats 1000000
/-! Nw, part E: frames, what is wanted behind code, the readings. -/
namespace Nw
open PySem PySem.Spec PyProof.Rows L2

/-- what is no table and no code object -/
def Plain : HO → Prop
  | .tbl _ => False
  | .ext _ => False
  | _ => True
/-- the tables of code objects that K tells -/
def codeTab (K : PySem.W.Frag) (o : Obj) : Option (Addr × Str) := match o with
  | ⟨.type c, _, .fields vs, _⟩ => if c = "code" then (match (vs[11]? : Option Value), (vs[1]? : Option Value) with
    | some (.ref P), some (.str q _) => if (K.lookup P).isSome then none else some (P, (q ++ ".<locals>.") ++ "<lambda>")
    | _, _ => none) else none
  | _ => none
def tabsK (K : PySem.W.Frag) : List (Addr × Str) := K.filterMap fun p => codeTab K p.2
/-- the tables go on -/
def TabE (H H' : Hp) : Prop := ∀ T, LamX.Tabs T H → LamX.Tabs T H'
theorem TabE.refl (H : Hp) : TabE H H := fun _ h => h
theorem TabE.trans {H H1 H2 : Hp} (a : TabE H H1) (b : TabE H1 H2) : TabE H H2 := fun T h => b T (a T h)
theorem tabE_upd {H : Hp} {a : Addr} {u : HO} (h : ∀ w, H a = some w → Plain w) : TabE H (upd H a u) := by
  intro T t p hp
  obtain ⟨ps, e1, e2, e3⟩ := t p hp
  refine ⟨ps, ?_, e2, fun pos cv hc => ?_⟩
  · rw [upd_ne (fun z => by rw [z] at e1; exact h _ e1)]
    exact e1
  · obtain ⟨c, rfl, e⟩ := e3 pos cv hc
    refine ⟨c, rfl, ?_⟩
    rw [upd_ne (fun z => by rw [z] at e; exact h _ e)]
    exact e
theorem tabE_new {H : Hp} {a : Addr} {u : HO} (h : H a = none) : TabE H (upd H a u) := tabE_upd fun w e => by rw [h] at e; cases e
theorem tabE_fz {H : Hp} {a : Addr} {w u : HO} (e : H a = some w) (c : CanFz w) : TabE H (upd H a u) := tabE_upd fun w' e' => by
  rw [e] at e'
  cases e'
  cases w <;> first | trivial | exact c.elim
abbrev NT (u : HO) : Prop := ∀ ps, u ≠ .tbl ps
def SlotR (K : PySem.W.Frag) (φ : List Addr) (H : Hp) (w : Option (Option V)) : Slot → Prop
  | .un => True
  | .val x => ∃ v, w = some (some v) ∧ RepV K φ H x v
  | .own o => ∃ a, w = some (some (.ref a)) ∧ a ∉ φ ∧ OwnR K φ H a o
  | .lok o => ∃ a, w = some (some (.ref a)) ∧ a ∉ φ ∧ OwnR K φ H a o
/-- the frame's containers that may change -/
def Ow (σ : L2.St) (fr : Fr) (a : Addr) : Prop := ∃ (i : Nat) (o : OD), fr.sl[i]? = some (.own o) ∧ σ[i]? = some (some (.ref a))
/-- all its containers -/
def Oa (σ : L2.St) (fr : Fr) (a : Addr) : Prop := ∃ (i : Nat) (s : Slot), fr.sl[i]? = some s ∧ s.isO = true ∧ σ[i]? = some (some (.ref a))
theorem Ow.oa {σ : L2.St} {fr : Fr} {a : Addr} (h : Ow σ fr a) : Oa σ fr a := let ⟨i, o, h1, h2⟩ := h; ⟨i, _, h1, rfl, h2⟩
structure FR (K : PySem.W.Frag) (φ : List Addr) (σ : L2.St) (H : Hp) (fr : Fr) : Prop where
  len : fr.sl.length = σ.length
  slot : ∀ (i : Nat) (s : Slot), fr.sl[i]? = some s → SlotR K φ H σ[i]? s
  inj : ∀ (i j : Nat) (s t : Slot) (a : Addr), i ≠ j → fr.sl[i]? = some s → fr.sl[j]? = some t → s.isO = true → t.isO = true → σ[i]? = some (some (.ref a)) → σ[j]? ≠ some (some (.ref a))
  nd : φ.Nodup
  stl : φ.length = fr.st.length
  st : ∀ (l : Nat) (o : OD), fr.st[l]? = some o → ∃ a, φ[l]? = some a ∧ OwnR K φ H a o
  tabs : LamX.Tabs (tabsK K) H
/-- from one state to a later one: O, O' what the frame may change, ahead and behind -/
structure Ext (φ : List Addr) (O : Addr → Prop) (H : Hp) (φ' : List Addr) (O' : Addr → Prop) (H' : Hp) : Prop where
  pre : ∃ ψ, φ' = φ ++ ψ ∧ ∀ a ∈ ψ, H a = none
  pers : Pers H H'
  keep : ∀ a u, H a = some u → NT u → a ∉ φ → ¬ O a → H' a = some u
  dom : ∀ a, H' a = none → H a = none
  own : ∀ a, O' a → O a ∨ H a = none
section
variable {φ φ1 φ2 : List Addr} {O O1 O2 : Addr → Prop} {H H1 H2 : Hp}
theorem Ext.refl (φ : List Addr) (O : Addr → Prop) (H : Hp) : Ext φ O H φ O H := ⟨⟨[], by simp, by simp⟩, .refl H, fun _ _ h _ _ _ => h, fun _ h => h, fun _ h => .inl h⟩
theorem Ext.trans (a : Ext φ O H φ1 O1 H1) (b : Ext φ1 O1 H1 φ2 O2 H2) : Ext φ O H φ2 O2 H2 := by
  obtain ⟨ψ, e1, n1⟩ := a.pre
  obtain ⟨χ, e2, n2⟩ := b.pre
  refine ⟨⟨ψ ++ χ, by rw [e2, e1, List.append_assoc], fun c hc => ?_⟩, a.pers.trans b.pers, fun c u h nt hc ho => ?_, fun c h => a.dom c (b.dom c h), fun c hc => ?_⟩
  · rcases List.mem_append.mp hc with hc | hc
    · exact n1 c hc
    · exact a.dom c (n2 c hc)
  · refine b.keep c u (a.keep c u h nt hc ho) nt (fun hm => ?_) (fun q => ?_)
    · rw [e1] at hm
      rcases List.mem_append.mp hm with hm | hm
      · exact hc hm
      · rw [n1 c hm] at h
        cases h
    · rcases a.own c q with q | q
      · exact ho q
      · rw [q] at h
        cases h
  · rcases b.own c hc with q | q
    · exact a.own c q
    · exact .inr (a.dom c q)
theorem Ext.pre' (a : Ext φ O H φ1 O1 H1) : ∃ ψ, φ1 = φ ++ ψ := let ⟨ψ, e, _⟩ := a.pre; ⟨ψ, e⟩
end

/-- what an answer of type β is told to be, from the heap ahead -/
abbrev Rl (ρ β : Type) := Hp → List Addr → L2.St → Fr → Hp → ρ → β → Prop
section
variable {ρ β γ α : Type}
/-- what is wanted behind an answer -/
def Post (K : PySem.W.Frag) (W : WX) (CV : Str → Value) (R : Rl ρ β) (φ : List Addr) (σ : L2.St) (H : Hp) (fr : Fr) (r : Res β) (Q : ρ → Hp → Prop) : Prop := match r with
  | .ok b fr' => ∀ v H' φ', Ext φ (Ow σ fr) H φ' (Ow σ fr') H' → FR K φ' σ H' fr' → R H φ' σ fr' H' v b → Q v H'
  | .exc c p fr' => p = none ∧ ∀ H' φ', Ext φ (Ow σ fr) H φ' (Ow σ fr') H' → FR K φ' σ H' fr' → W (CV c) none σ H'
  | .stuck => False
/-- a reading by what code is worth -/
def rd (K : PySem.W.Frag) (W : WX) (CV : Str → Value) (R : Rl ρ β) (m : M β) (σ : L2.St) (H : Hp) (Q : ρ → Hp → Prop) : Prop := ∃ φ fr, FR K φ σ H fr ∧ Post K W CV R φ σ H fr (m fr) Q
/-- answers from an earlier heap -/
def Back (R : Rl ρ β) : Prop := ∀ (H H1 : Hp) (φ : List Addr) (σ : L2.St) (fr : Fr) (H2 : Hp) (v : ρ) (b : β), (∀ a, H1 a = none → H a = none) → R H1 φ σ fr H2 v b → R H φ σ fr H2 v b
variable {K : PySem.W.Frag} {W : WX} {CV : Str → Value} {φ φ1 : List Addr} {σ : L2.St} {H H1 : Hp} {fr fr1 : Fr}
theorem Post.later {R : Rl ρ β} (bk : Back R) {r : Res β} {Q : ρ → Hp → Prop} (x : Ext φ (Ow σ fr) H φ1 (Ow σ fr1) H1) (h : Post K W CV R φ σ H fr r Q) : Post K W CV R φ1 σ H1 fr1 r Q := by
  cases r with
  | ok b fr' => exact fun v H' φ' x' f q => h v H' φ' (x.trans x') f (bk _ _ _ _ _ _ _ _ x.dom q)
  | exc c p fr' => exact ⟨h.1, fun H' φ' x' f => h.2 H' φ' (x.trans x') f⟩
  | stuck => exact h
/-- THE STEP: m, then f -/
theorem Post.bind {ρ' : Type} {R : Rl ρ β} {R' : Rl ρ' γ} (bk : Back R') {m : Res β} {f : β → M γ} {Q : ρ' → Hp → Prop} {Q1 : ρ → Hp → Prop} (h : Post K W CV R' φ σ H fr (m.andThen f) Q)
    (k : ∀ b fr1 v H1 φ1, m = .ok b fr1 → Ext φ (Ow σ fr) H φ1 (Ow σ fr1) H1 → FR K φ1 σ H1 fr1 → R H φ1 σ fr1 H1 v b → Post K W CV R' φ1 σ H1 fr1 (f b fr1) Q → Q1 v H1) : Post K W CV R φ σ H fr m Q1 := by
  cases m with
  | ok b fr1 => exact fun v H1 φ1 x f1 q => k b fr1 v H1 φ1 rfl x f1 q (Post.later (R := R') bk x h)
  | exc c p fr1 => exact h
  | stuck => exact h
/-- the same, told from the start -/
theorem Post.bind0 {ρ' : Type} {R : Rl ρ β} {R' : Rl ρ' γ} {m : Res β} {f : β → M γ} {Q : ρ' → Hp → Prop} {Q1 : ρ → Hp → Prop} (h : Post K W CV R' φ σ H fr (m.andThen f) Q)
    (k : ∀ b fr1 v H1 φ1, m = .ok b fr1 → Ext φ (Ow σ fr) H φ1 (Ow σ fr1) H1 → FR K φ1 σ H1 fr1 → R H φ1 σ fr1 H1 v b → Post K W CV R' φ σ H fr (f b fr1) Q → Q1 v H1) : Post K W CV R φ σ H fr m Q1 := by
  cases m with
  | ok b fr1 => exact fun v H1 φ1 x f1 q => k b fr1 v H1 φ1 rfl x f1 q h
  | exc c p fr1 => exact h
  | stuck => exact h
theorem Post.mono {R : Rl ρ β} {r : Res β} {Q Q' : ρ → Hp → Prop} (h : Post K W CV R φ σ H fr r Q) (i : ∀ v H', Q v H' → Q' v H') : Post K W CV R φ σ H fr r Q' := by
  cases r with
  | ok b fr' => exact fun v H' φ' x f q => i v H' (h v H' φ' x f q)
  | exc c p fr' => exact h
  | stuck => exact h
end

/-! ### what answers are -/
section
variable (K : PySem.W.Frag)
/-- a new container, that nobody else has -/
def NewR (H : Hp) (φ : List Addr) (σ : L2.St) (fr : Fr) (H' : Hp) (v : V) (o : OD) : Prop := ∃ a, v = .ref a ∧ H a = none ∧ a ∉ φ ∧ ¬ Oa σ fr a ∧ OwnR K φ H' a o
def RRV : Rl V RV := fun H φ σ fr H' v r => match r with
  | .val x => RepV K φ H' x v
  | .new o => NewR K H φ σ fr H' v o
def RDv : Rl V Dv := fun _ φ _ _ H' v x => RepV K φ H' x v
def RD : Rl V D := fun _ _ _ _ H' v d => Rep K H' d v
/-- a handle -/
def RHd : Rl V Hd := fun _ φ σ fr H' v h => match h with
  | .dv x => RepV K φ H' x v
  | .slot i => σ[i]? = some (some v)
def RBool : Rl Bool Bool := fun _ _ _ _ _ v b => v = b
end
theorem back_RRV {K : PySem.W.Frag} : Back (RRV K) := by
  intro H H1 φ σ fr H2 v b d h
  cases b with
  | val x => exact h
  | new o =>
    obtain ⟨a, e, n, r⟩ := h
    exact ⟨a, e, d a n, r⟩
theorem back_RDv {K : PySem.W.Frag} : Back (RDv K) := fun _ _ _ _ _ _ _ _ _ h => h
theorem back_RD {K : PySem.W.Frag} : Back (RD K) := fun _ _ _ _ _ _ _ _ _ h => h
theorem back_RHd {K : PySem.W.Frag} : Back (RHd K) := fun _ _ _ _ _ _ _ _ _ h => h
theorem back_RBool : Back RBool := fun _ _ _ _ _ _ _ _ _ h => h

/-! ### frames that change a little -/
section
variable {K : PySem.W.Frag} {φ : List Addr} {σ : L2.St} {H H' : Hp} {fr : Fr}
theorem get_set {α : Type} {l : List α} {i j : Nat} {x y : α} (h : (l.set i x)[j]? = some y) : (i = j ∧ i < l.length ∧ y = x) ∨ (i ≠ j ∧ l[j]? = some y) := by
  by_cases e : i = j
  · subst e
    by_cases hi : i < l.length
    · rw [List.getElem?_set_self hi] at h
      exact .inl ⟨rfl, hi, (Option.some.inj h).symm⟩
    · rw [List.getElem?_eq_none (by simpa using hi)] at h
      cases h
  · rw [List.getElem?_set_ne e] at h
    exact .inr ⟨e, h⟩
/-- what is one's own at slot i, frozen -/
theorem FR.frz (F : FR K φ σ H fr) {i : Nat} {s : Slot} {o : OD} {d : D} {a : Addr} {u : HO} {ob : Obj} (hs : fr.sl[i]? = some (.own o)) (ha : σ[i]? = some (some (.ref a))) (hd : o.toD = some d) (hu : H a = some u) (c : CanFz u)
    (r : Rep K (upd H a (.frz ob u)) d (.ref a)) : FR K φ σ (upd H a (.frz ob u)) { fr with sl := fr.sl.set i (.val (.py d)) } ∧ Ext φ (Ow σ fr) H φ (Ow σ { fr with sl := fr.sl.set i (.val (.py d)) }) (upd H a (.frz ob u)) := by
  have hlt : i < fr.sl.length := (List.getElem?_eq_some_iff.mp hs).1
  have naφ : a ∉ φ := by
    obtain ⟨b, e, n, _⟩ := F.slot i _ hs
    rw [ha] at e
    cases e
    exact n
  have P : Pers H (upd H a (.frz ob u)) := pers_fz hu c
  have keep : ∀ b w, b ≠ a → H b = some w → upd H a (.frz ob u) b = some w := fun b w n q => by rw [upd_ne n]; exact q
  have ownE : ∀ {b : Addr} {o : OD}, b ≠ a → OwnR K φ H b o → OwnR K φ (upd H a (.frz ob u)) b o := fun {b o} n q => OwnR.ext P ⟨[], by simp⟩ (fun w hw => keep b w n hw) q
  refine ⟨⟨by simpa using F.len, fun j t ht => ?_, fun j k t t' b njk h1 h2 o1 o2 h3 => ?_, F.nd, F.stl, fun l o' ho => ?_, tabE_fz hu c _ F.tabs⟩, ⟨⟨[], by simp, by simp⟩, P, fun b w hb _ nb no => keep b w (fun z => no ?_) hb, fun b hb => ?_, fun b hb => ?_⟩⟩
  · rcases get_set ht with ⟨rfl, _, rfl⟩ | ⟨n, ht⟩
    · exact ⟨_, ha, r⟩
    · have q := F.slot j t ht
      cases t with
      | un => trivial
      | val x =>
        obtain ⟨v, e, r'⟩ := q
        exact ⟨v, e, RepV.ext P ⟨[], by simp⟩ r'⟩
      | own o' =>
        obtain ⟨b, e, n', r'⟩ := q
        refine ⟨b, e, n', ownE (fun z => ?_) r'⟩
        subst z
        exact F.inj i j _ _ b n hs ht rfl rfl ha e
      | lok o' =>
        obtain ⟨b, e, n', r'⟩ := q
        refine ⟨b, e, n', ownE (fun z => ?_) r'⟩
        subst z
        exact F.inj i j _ _ b n hs ht rfl rfl ha e
  · rcases get_set h1 with ⟨rfl, _, rfl⟩ | ⟨_, h1⟩
    · cases o1
    · rcases get_set h2 with ⟨rfl, _, rfl⟩ | ⟨_, h2⟩
      · cases o2
      · exact F.inj j k t t' b njk h1 h2 o1 o2 h3
  · obtain ⟨b, e, r'⟩ := F.st l o' ho
    refine ⟨b, e, ownE (fun z => ?_) r'⟩
    subst z
    exact naφ (List.mem_of_getElem? e)
  · subst z
    exact ⟨i, o, hs, ha⟩
  · by_cases e : b = a
    · subst e
      rw [upd_same] at hb
      cases hb
    · rw [upd_ne e] at hb
      exact hb
  · obtain ⟨j, o', h1, h2⟩ := hb
    rcases get_set h1 with ⟨rfl, _, q⟩ | ⟨_, h1⟩
    · cases q
    · exact .inl ⟨j, o', h1, h2⟩
/-- a new object is laid -/
theorem FR.laid (F : FR K φ σ H fr) {p : Addr} {u : HO} (hp : H p = none) : FR K φ σ (upd H p u) fr ∧ Ext φ (Ow σ fr) H φ (Ow σ fr) (upd H p u) := by
  have P : Pers H (upd H p u) := pers_new hp
  have keep : ∀ b w, H b = some w → upd H p u b = some w := fun b w q => by rw [upd_ne (ne_of_none q hp)]; exact q
  have ownE : ∀ {b : Addr} {o : OD}, OwnR K φ H b o → OwnR K φ (upd H p u) b o := fun {b o} q => OwnR.ext P ⟨[], by simp⟩ (fun w hw => keep b w hw) q
  refine ⟨⟨F.len, fun j t ht => ?_, F.inj, F.nd, F.stl, fun l o' ho => ?_, tabE_new hp _ F.tabs⟩, ⟨⟨[], by simp, by simp⟩, P, fun b w hb _ _ _ => keep b w hb, fun b hb => ?_, fun b hb => .inl hb⟩⟩
  · have q := F.slot j t ht
    cases t with
    | un => trivial
    | val x =>
      obtain ⟨v, e, r'⟩ := q
      exact ⟨v, e, RepV.ext P ⟨[], by simp⟩ r'⟩
    | own o' =>
      obtain ⟨b, e, n', r'⟩ := q
      exact ⟨b, e, n', ownE r'⟩
    | lok o' =>
      obtain ⟨b, e, n', r'⟩ := q
      exact ⟨b, e, n', ownE r'⟩
  · obtain ⟨b, e, r'⟩ := F.st l o' ho
    exact ⟨b, e, ownE r'⟩
  · by_cases e : b = p
    · subst e
      exact hp
    · rw [upd_ne e] at hb
      exact hb
theorem FR.free (F : FR K φ σ H fr) {p : Addr} (hp : H p = none) : p ∉ φ ∧ ¬ Oa σ fr p := by
  refine ⟨fun hm => ?_, fun ⟨i, s, h1, hi, h2⟩ => ?_⟩
  · obtain ⟨l, hl, e⟩ := List.getElem_of_mem hm
    have hl' : l < fr.st.length := by rw [← F.stl]; exact hl
    obtain ⟨b, e', r⟩ := F.st l fr.st[l] (List.getElem?_eq_getElem hl')
    rw [List.getElem?_eq_getElem hl, e] at e'
    cases e'
    cases q : fr.st[l] with
    | lst xs =>
      rw [q] at r
      obtain ⟨_, z, _⟩ := r
      rw [hp] at z
      cases z
    | dic xs =>
      rw [q] at r
      obtain ⟨_, z, _⟩ := r
      rw [hp] at z
      cases z
    | ins _ _ =>
      rw [q] at r
      exact r
  · have key : ∀ (b : Addr) (o : OD), H b = none → OwnR K φ H b o → False := fun b o hb r => by
      cases o with
      | lst xs =>
        obtain ⟨_, z, _⟩ := r
        rw [hb] at z
        cases z
      | dic xs =>
        obtain ⟨_, z, _⟩ := r
        rw [hb] at z
        cases z
      | ins _ _ => exact r
    have q := F.slot i s h1
    cases s with
    | un => cases hi
    | val _ => cases hi
    | own o =>
      obtain ⟨b, e', _, r⟩ := q
      rw [h2] at e'
      cases e'
      exact key _ o hp r
    | lok o =>
      obtain ⟨b, e', _, r⟩ := q
      rw [h2] at e'
      cases e'
      exact key _ o hp r
/-- a new container is frozen -/
theorem FR.fzNew (F : FR K φ σ H fr) {a : Addr} {u : HO} {ob : Obj} (n1 : a ∉ φ) (n2 : ¬ Oa σ fr a) (hu : H a = some u) (c : CanFz u) : FR K φ σ (upd H a (.frz ob u)) fr ∧ Pers H (upd H a (.frz ob u)) := by
  have P : Pers H (upd H a (.frz ob u)) := pers_fz hu c
  have ownE : ∀ {b : Addr} {o : OD}, b ≠ a → OwnR K φ H b o → OwnR K φ (upd H a (.frz ob u)) b o := fun {b o} n q => OwnR.ext P ⟨[], by simp⟩ (fun w hw => by rw [upd_ne n]; exact hw) q
  refine ⟨⟨F.len, fun j t ht => ?_, F.inj, F.nd, F.stl, fun l o' ho => ?_, tabE_fz hu c _ F.tabs⟩, P⟩
  · have q := F.slot j t ht
    cases t with
    | un => trivial
    | val x =>
      obtain ⟨v, e, r'⟩ := q
      exact ⟨v, e, RepV.ext P ⟨[], by simp⟩ r'⟩
    | own o' =>
      obtain ⟨b, e, n', r'⟩ := q
      exact ⟨b, e, n', ownE (fun z => by subst z; exact n2 ⟨j, _, ht, rfl, e⟩) r'⟩
    | lok o' =>
      obtain ⟨b, e, n', r'⟩ := q
      exact ⟨b, e, n', ownE (fun z => by subst z; exact n2 ⟨j, _, ht, rfl, e⟩) r'⟩
  · obtain ⟨b, e, r'⟩ := F.st l o' ho
    exact ⟨b, e, ownE (fun z => by subst z; exact n1 (List.mem_of_getElem? e)) r'⟩
end
end Nw

set_option autoImplicit false
set_option maxRecDepth 100000
set_option maxHeartbeats 1000000
/-! Nw, part F: names, values, handles; an operation on two values. -/
namespace Nw
open PySem PySem.Spec PyProof.Rows L2

section
variable {X : Cx} {W : WX} {CV : Str → Value} {e : Expr}
/-- an expression whose answer m tells -/
abbrev PEn (X : Cx) (W : WX) (CV : Str → Value) (e : Expr) (m : M RV) : Prop := PE X e (rd X.K W CV (RRV X.K) m)
abbrev PEv (X : Cx) (W : WX) (CV : Str → Value) (e : Expr) (m : M Dv) : Prop := PE X e (rd X.K W CV (RDv X.K) m)
abbrev PEh (X : Cx) (W : WX) (CV : Str → Value) (e : Expr) (m : M Hd) : Prop := PE X e (rd X.K W CV (RHd X.K) m)

theorem bind_eq {α β : Type} (m : M α) (f : α → M β) (fr : Fr) : (m >>= f) fr = (m fr).andThen f := rfl
theorem pure_eq {α : Type} (a : α) (fr : Fr) : (pure a : M α) fr = .ok a fr := rfl

/-- a new container is frozen: one step from the start -/
theorem Ext.fz {φ φ1 : List Addr} {O O1 : Addr → Prop} {H H1 : Hp} {a : Addr} {u : HO} {ob : Obj} (x : Ext φ O H φ1 O1 H1) (n0 : H a = none) (hu : H1 a = some u) (c : CanFz u) : Ext φ O H φ1 O1 (upd H1 a (.frz ob u)) := by
  refine ⟨x.pre, x.pers.trans (pers_fz hu c), fun b w hb nt n1 n2 => ?_, fun b hb => ?_, x.own⟩
  · rw [upd_ne (fun z => by subst z; rw [n0] at hb; cases hb)]
    exact x.keep b w hb nt n1 n2
  · by_cases z : b = a
    · subst z
      exact n0
    · rw [upd_ne z] at hb
      exact x.dom b hb
/-- what is new is frozen -/
theorem toV_ok {m : M RV} (h : PEn X W CV e m) : PEv X W CV e (toV m) := by
  refine PE.imp (pe_frz h) fun σ H Q ⟨φ, fr, F, P⟩ => ⟨φ, fr, F, ?_⟩
  refine Post.bind0 (R' := RDv X.K) (f := RV.fz) P fun r fr1 v H1 φ1 _ x F1 q P1 => ?_
  cases r with
  | val y => exact .inl (P1 v H1 φ1 x F1 q)
  | new o =>
    obtain ⟨a, rfl, n0, n1, n2, ow⟩ := q
    have P2 : Post X.K W CV (RDv X.K) φ σ H fr (liftO o.toDv fr1) Q := P1
    cases ed : o.toD with
    | none =>
      rw [show o.toDv = none by unfold OD.toDv; rw [ed]; rfl] at P2
      exact P2.elim
    | some d =>
      rw [show o.toDv = some (.py d) by unfold OD.toDv; rw [ed]; rfl] at P2
      obtain ⟨u, hu, c, r⟩ := ow.frz ed
      exact .inr ⟨a, u, rfl, hu, c, fun ob => P2 (.ref a) _ φ1 (x.fz n0 hu c) (F1.fzNew (ob := ob) n1 n2 hu c).1 (r ob)⟩
/-- a name -/
theorem var_ok {i : Nat} {x : Str} {pos : Pos} (h : PE X (.Name x pos) (tVar i)) : PEn X W CV (.Name x pos) (varM i) := by
  refine PE.imp (pe_frz h) fun σ H Q ⟨φ, fr, F, P⟩ => ?_
  have P1 : Post X.K W CV (RRV X.K) φ σ H fr (varM i fr) Q := P
  unfold varM at P1
  cases hs : fr.sl[i]? with
  | none =>
    rw [hs] at P1
    exact P1.elim
  | some s =>
    rw [hs] at P1
    have q := F.slot i s hs
    cases s with
    | un => exact P1.elim
    | lok o => exact P1.elim
    | val y =>
      obtain ⟨v, e, r⟩ := q
      exact ⟨v, e, .inl (P1 v H φ (Ext.refl _ _ _) F r)⟩
    | own o =>
      obtain ⟨a, e, n, ow⟩ := q
      dsimp only at P1
      cases ed : o.toD with
      | none =>
        rw [show o.toDv = none by unfold OD.toDv; rw [ed]; rfl] at P1
        exact P1.elim
      | some d =>
        rw [show o.toDv = some (.py d) by unfold OD.toDv; rw [ed]; rfl] at P1
        obtain ⟨u, hu, c, r⟩ := ow.frz ed
        refine ⟨_, e, .inr ⟨a, u, rfl, hu, c, fun ob => ?_⟩⟩
        obtain ⟨F2, x2⟩ := F.frz (s := .un) (ob := ob) hs e ed hu c (r ob)
        exact P1 (.ref a) _ φ x2 F2 (r ob)
theorem pe_fz0 {t : TE} (h : PE X e t) : PE X e (fun σ H Q => t σ H Q ∨ ∃ a u, H a = some u ∧ CanFz u ∧ ∀ ob, t σ (upd H a (.frz ob u)) Q) := ⟨fun pins s σ H Q I hq => by
  rcases hq with hq | ⟨a, u, e, c, hq⟩
  · exact h.run pins s σ H Q I hq
  · obtain ⟨ob, I2⟩ := inv_fz I e c
    exact h.run pins s σ _ Q I2 (hq ob)⟩
/-- a name's list frozen ahead -/
theorem fz_ok {i : Nat} {m : M RV} (h : PEn X W CV e m) : PEn X W CV e (varM i >>= fun _ => m) := by
  refine PE.imp (pe_fz0 h) fun σ H Q ⟨φ, fr, F, P⟩ => ?_
  rw [bind_eq] at P
  unfold varM at P
  cases hs : fr.sl[i]? with
  | none =>
    rw [hs] at P
    exact P.elim
  | some s =>
    rw [hs] at P
    have q := F.slot i s hs
    cases s with
    | un => exact P.elim
    | lok o => exact P.elim
    | val y => exact .inl ⟨φ, fr, F, P⟩
    | own o =>
      obtain ⟨a, e, n, ow⟩ := q
      dsimp only at P
      cases ed : o.toD with
      | none =>
        rw [show o.toDv = none by unfold OD.toDv; rw [ed]; rfl] at P
        exact P.elim
      | some d =>
        rw [show o.toDv = some (.py d) by unfold OD.toDv; rw [ed]; rfl] at P
        obtain ⟨u, hu, c, r⟩ := ow.frz ed
        refine .inr ⟨a, u, hu, c, fun ob => ?_⟩
        obtain ⟨F2, x2⟩ := F.frz (s := .un) (ob := ob) hs e ed hu c (r ob)
        exact ⟨φ, _, F2, Post.later back_RRV x2 P⟩
/-- a name, looked at -/
theorem pk_ok {i : Nat} {x : Str} {pos : Pos} (h : PE X (.Name x pos) (tVar i)) : PEh X W CV (.Name x pos) (pkH i) := by
  refine PE.imp h fun σ H Q ⟨φ, fr, F, P⟩ => ?_
  have P1 : Post X.K W CV (RHd X.K) φ σ H fr (pkH i fr) Q := P
  unfold pkH at P1
  cases hs : fr.sl[i]? with
  | none =>
    rw [hs] at P1
    exact P1.elim
  | some s =>
    rw [hs] at P1
    have q := F.slot i s hs
    cases s with
    | un => exact P1.elim
    | val y =>
      obtain ⟨v, e, r⟩ := q
      exact ⟨v, e, P1 v H φ (Ext.refl _ _ _) F r⟩
    | own o =>
      obtain ⟨a, e, n, ow⟩ := q
      exact ⟨_, e, P1 _ H φ (Ext.refl _ _ _) F e⟩
    | lok o =>
      obtain ⟨a, e, n, ow⟩ := q
      exact ⟨_, e, P1 _ H φ (Ext.refl _ _ _) F e⟩
/-- a handle of a value -/
theorem dvH_ok {m : M RV} (h : PEn X W CV e m) : PEh X W CV e (toV m >>= fun x => pure (.dv x)) := by
  refine PE.imp (toV_ok h) fun σ H Q ⟨φ, fr, F, P⟩ => ⟨φ, fr, F, ?_⟩
  exact Post.bind (R' := RHd X.K) back_RHd (f := fun x => pure (.dv x)) P fun r fr1 v H1 φ1 _ x F1 q P1 => P1 v H1 φ1 (Ext.refl _ _ _) F1 q

/-- a value looked at: data, read -/
def PRep (K : PySem.W.Frag) (H : Hp) : D → V → Prop
  | .list ds, v => ∃ a xs, v = .ref a ∧ SqL K H a xs ∧ Reps K H ds xs
  | .dict kvs, v => ∃ a ps, v = .ref a ∧ Rd H a (.dK ps) ∧ RepKV K H kvs ps
  | d, v => Rep K H d v
theorem Rep.pr {K : PySem.W.Frag} {H : Hp} {d : D} {v : V} (h : Rep K H d v) : PRep K H d v := by
  cases d with
  | list ds =>
    simp only [Rep] at h
    obtain ⟨a, xs, e, f, r⟩ := h
    exact ⟨a, xs, e, f.sq, r⟩
  | dict kvs =>
    simp only [Rep] at h
    obtain ⟨a, o, ps, e, f, r⟩ := h
    exact ⟨a, ps, e, .inr ⟨o, f⟩, r⟩
  | _ => exact h
theorem OwnR.pr {K : PySem.W.Frag} {φ : List Addr} {H : Hp} {a : Addr} {o : OD} {d : D} (h : OwnR K φ H a o) (e : o.toD = some d) : PRep K H d (.ref a) := by
  cases o with
  | lst xs =>
    obtain ⟨vs, eh, r⟩ := h
    simp only [OD.toD, Option.map_eq_some_iff] at e
    obtain ⟨ds, e1, rfl⟩ := e
    exact ⟨a, vs, rfl, .of eh, RepVs.all r e1⟩
  | dic kvs =>
    obtain ⟨vs, eh, r⟩ := h
    simp only [OD.toD, Option.map_eq_some_iff] at e
    obtain ⟨ds, e1, rfl⟩ := e
    exact ⟨a, vs, rfl, .of eh, RepVKV.all r e1⟩
  | ins _ _ => exact h.elim
theorem liftO_ok {α : Type} {o : Option α} {fr fr1 : Fr} {a : α} (h : liftO o fr = .ok a fr1) : o = some a ∧ fr1 = fr := by
  cases o with
  | none => cases h
  | some b =>
    cases h
    exact ⟨rfl, rfl⟩
theorem viewDv_ok {K : PySem.W.Frag} {φ : List Addr} {σ : L2.St} {H : Hp} {fr fr1 : Fr} {x : Dv} {v : V} {d : D} (F : FR K φ σ H fr) (r : RepV K φ H x v) (h : viewDv x fr = .ok d fr1) : fr1 = fr ∧ PRep K H d v := by
  cases x with
  | py d' =>
    cases h
    exact ⟨rfl, Rep.pr r⟩
  | obj l =>
    obtain ⟨a, e, rfl⟩ := r
    cases ho : fr.st[l]? with
    | none =>
      simp only [viewDv, ho] at h
      cases h
    | some o =>
      simp only [viewDv, ho] at h
      obtain ⟨ed, rfl⟩ := liftO_ok h
      obtain ⟨b, e', ow⟩ := F.st l o ho
      rw [e] at e'
      cases e'
      exact ⟨rfl, ow.pr ed⟩
theorem viewDv_no {x : Dv} {fr : Fr} {c : Str} {p : Option D} {fr1 : Fr} : viewDv x fr ≠ .exc c p fr1 := by
  intro h
  cases x with
  | py d => cases h
  | obj l =>
    cases ho : fr.st[l]? with
    | none =>
      simp only [viewDv, ho] at h
      cases h
    | some o =>
      simp only [viewDv, ho] at h
      cases q : o.toD <;> (simp only [q, liftO] at h; cases h)
theorem viewH_ok {K : PySem.W.Frag} {φ : List Addr} {σ : L2.St} {H Hx : Hp} {fr fr1 : Fr} {x : Hd} {v : V} {d : D} (F : FR K φ σ H fr) (r : RHd K Hx φ σ fr H v x) (h : viewH x fr = .ok d fr1) : fr1 = fr ∧ PRep K H d v := by
  cases x with
  | dv x => exact viewDv_ok F r h
  | slot i =>
    have r : σ[i]? = some (some v) := r
    simp only [viewH] at h
    cases hs : fr.sl[i]? with
    | none =>
      rw [hs] at h
      cases h
    | some s =>
      rw [hs] at h
      have q := F.slot i s hs
      cases s with
      | un => cases h
      | val y =>
        obtain ⟨v', e, r'⟩ := q
        rw [r] at e
        cases e
        exact viewDv_ok F r' h
      | own o =>
        obtain ⟨a, e, _, ow⟩ := q
        rw [r] at e
        cases e
        obtain ⟨ed, rfl⟩ := liftO_ok h
        exact ⟨rfl, ow.pr ed⟩
      | lok o =>
        obtain ⟨a, e, _, ow⟩ := q
        rw [r] at e
        cases e
        obtain ⟨ed, rfl⟩ := liftO_ok h
        exact ⟨rfl, ow.pr ed⟩
theorem viewH_no {x : Hd} {fr : Fr} {c : Str} {p : Option D} {fr1 : Fr} : viewH x fr ≠ .exc c p fr1 := by
  intro h
  cases x with
  | dv x => exact viewDv_no h
  | slot i =>
    simp only [viewH] at h
    cases hs : fr.sl[i]? with
    | none =>
      rw [hs] at h
      cases h
    | some s =>
      rw [hs] at h
      cases s with
      | un => cases h
      | val y => exact viewDv_no h
      | own o => cases q : o.toD <;> (simp only [q, liftO] at h; cases h)
      | lok o => cases q : o.toD <;> (simp only [q, liftO] at h; cases h)
/-- a handle stays good -/
theorem RHd.later {K : PySem.W.Frag} {φ φ1 : List Addr} {O O1 : Addr → Prop} {σ : L2.St} {H H1 Hx Hy : Hp} {fr fr1 : Fr} {v : V} {h : Hd} (x : Ext φ O H φ1 O1 H1) (r : RHd K Hx φ σ fr H v h) : RHd K Hy φ1 σ fr1 H1 v h := by
  cases h with
  | dv y => exact RepV.ext x.pers x.pre' r
  | slot i => exact r
/-- a view, then what follows -/
theorem Post.view {ρ β : Type} {K : PySem.W.Frag} {R : Rl ρ β} {φ : List Addr} {σ : L2.St} {H Hx : Hp} {fr : Fr} {x : Hd} {v : V} {f : D → M β} {Q : ρ → Hp → Prop} (F : FR K φ σ H fr) (r : RHd K Hx φ σ fr H v x)
    (h : Post K W CV R φ σ H fr ((viewH x >>= f) fr) Q) : ∃ d, PRep K H d v ∧ Post K W CV R φ σ H fr (f d fr) Q := by
  rw [bind_eq] at h
  cases e : viewH x fr with
  | ok d fr1 =>
    rw [e] at h
    obtain ⟨rfl, p⟩ := viewH_ok F r e
    exact ⟨d, p, h⟩
  | exc c p fr1 => exact absurd e viewH_no
  | stuck =>
    rw [e] at h
    exact h.elim
theorem Post.lift {ρ β : Type} {K : PySem.W.Frag} {R : Rl ρ β} {φ : List Addr} {σ : L2.St} {H : Hp} {fr : Fr} {o : Option β} {Q : ρ → Hp → Prop} (h : Post K W CV R φ σ H fr (liftO o fr) Q) : ∃ b, o = some b ∧ Post K W CV R φ σ H fr (.ok b fr) Q := by
  cases o with
  | none => exact h.elim
  | some b => exact ⟨b, rfl, h⟩
/-- an operation on two values, by handles -/
theorem two_ok {ma mb : M Hd} {R : Rl V RV} (bk : Back R) {op : D → D → Option RV} {r : R2} (key : ∀ (φ : List Addr) (σ : L2.St) (H : Hp) (fr : Fr) (d d' : D) (b : RV) (x y : V) (Q : VK), FR X.K φ σ H fr → PRep X.K H d x → PRep X.K H d' y → op d d' = some b → Post X.K W CV R φ σ H fr (.ok b fr) Q → r x y H Q)
    (σ : L2.St) (H : Hp) (Q : VK) (h : rd X.K W CV R (do
      let x ← ma
      let y ← mb
      let d ← viewH x
      let d' ← viewH y
      liftO (op d d')) σ H Q) : tOp r (rd X.K W CV (RHd X.K) ma) (rd X.K W CV (RHd X.K) mb) σ H Q := by
  obtain ⟨φ, fr, F, P⟩ := h
  refine ⟨φ, fr, F, Post.bind bk P fun hx fr1 v H1 φ1 _ x1 F1 q1 P1 => ?_⟩
  refine ⟨φ1, fr1, F1, Post.bind bk P1 fun hy fr2 u H2 φ2 _ x2 F2 q2 P2 => ?_⟩
  obtain ⟨d, p1, P3⟩ := Post.view F2 (q1.later (Hy := H2) x2) P2
  obtain ⟨d', p2, P4⟩ := Post.view F2 q2 P3
  obtain ⟨b, e, P5⟩ := Post.lift P4
  exact key φ2 σ H2 fr2 d d' b v u Q F2 p1 p2 e P5
end
end Nw

set_option autoImplicit false
set_option maxRecDepth 100000
set_option maxHeartbeats 4000000
/-! Nw, part G0: a tuple some times. -/
namespace Nw
open PySem PySem.Spec PyProof.Rows L2
theorem tm_one (p : Addr) (its : Array Value) (m : Nat) (od : Option Addr) (os : Array (Option Value)) (u : Tok) :
    Meets (Builtin.«tuple.__mul__» ⟨[.ref p, .int 1 u], []⟩) (fun _ R s => s.heap.get? p = some { cls := .type "tuple", dict := od, data := .seq its m, slots := os } ∧ R (.ok (.ret (Value.ref p))) s) :=
  .of_wp fun prog w A R s hh => by
    obtain ⟨hp, g, d, tk, os⟩ := s
    obtain ⟨hl, hh⟩ := hh
    have f1 := AutoSeq1.idx_int
    have c1 : (its.isEmpty || (1 : Int) == 1) = true := by simp
    wp_walk using wpAny_loadPart' hl
    exact ⟨_, rfl, hh⟩
theorem tm_none (p : Addr) (its : Array Value) (m : Nat) (od : Option Addr) (os : Array (Option Value)) (k : Int) (u : Tok) (k0 : (decide (k < -(2 ^ 63)) || decide (k ≥ 2 ^ 63)) = false) (k1 : (its.isEmpty || k == 1) = false) (k2 : (decide (k ≤ 0) || its.isEmpty) = true) :
    Meets (Builtin.«tuple.__mul__» ⟨[.ref p, .int k u], []⟩) (fun _ R s => s.heap.get? p = some { cls := .type "tuple", dict := od, data := .seq its m, slots := os } ∧
      R (.ok (.ret (Value.ref s.heap.objs.size))) { s with heap := s.heap.push { cls := Value.type "tuple", data := Data.seq #[] }, toks := s.toks }) :=
  .of_wp fun prog w A R s hh => by
    obtain ⟨hp, g, d, tk, os⟩ := s
    obtain ⟨hl, hh⟩ := hh
    have f1 := AutoSeq1.idx_int
    wp_walk using wpAny_loadPart' hl
    repeat (first
      | (refine wpAny_ite_false (decide_eq_false (k0 ▸ Bool.false_ne_true)) ?_; wp_walk using wpAny_loadPart' hl)
      | (refine wpAny_ite_false (decide_eq_false (k1 ▸ Bool.false_ne_true)) ?_; wp_walk using wpAny_loadPart' hl)
      | (refine wpAny_ite_true (decide_eq_true k2) ?_; wp_walk using wpAny_loadPart' hl))
    exact ⟨_, rfl, hh⟩
theorem int_rmul_listS (a : Int) (t : Tok) (l : Addr) (items : Array Value) (n : Nat) (sl : Array (Option Value)) :
    Meets (Builtin.«int.__rmul__» ⟨[.int a t, .ref l], []⟩) (fun _ R s => s.heap.get? l = some { cls := .type "list", dict := none, data := .seq items n, slots := sl } ∧ R (.ok (.ret Value.notImplemented)) s) :=
  .of_wp fun prog w A R s h => by obtain ⟨hp, g, d, tk, os⟩ := s; obtain ⟨hl, h⟩ := h; wp_walk using wpAny_loadPart' hl; exact ⟨_, rfl, h⟩
theorem list_mulS (l : Addr) (items : Array Value) (n : Nat) (sl : Array (Option Value)) (x : Int) (u : Tok) (hc0 : ¬(!Builtin.List.listFitsIndex x) = true) (hc1 : ¬items.size * x.toNat > (2 ^ 63 - 1) / 8) (hc2 : ¬Builtin.List.listTooLong (items.size * x.toNat) = true) :
    Meets (Builtin.«list.__mul__» ⟨[.ref l, .int x u], []⟩) (fun _ R s => s.heap.get? l = some { cls := .type "list", dict := none, data := .seq items n, slots := sl } ∧ R (.ok (.ret (Value.ref s.heap.objs.size))) { s with heap := s.heap.push { cls := Value.type "list", data := Data.seq (List.foldl (fun x1 x2 => x1 ++ x2) #[] (List.replicate (if items.isEmpty = true then 0 else x.toNat) items)) }, toks := s.toks }) :=
  .of_wp fun prog w A R s h => by
    obtain ⟨hp, g, d, tk, os⟩ := s
    obtain ⟨hl, h⟩ := h
    have hsz := PySem.AutoListH.joined_fits hc2
    wp_walk using wpAny_loadPart' hl
    refine wpAny_ite_false (decide_eq_false (Nat.not_lt.mpr hsz)) ?_
    wp_walk using wpAny_loadPart' hl
    exact ⟨_, rfl, h⟩
/-- a list, as it may be read, times an int -/
def rTimesL (K : PySem.W.Frag) : R2 := fun x y H Q => ∃ l k xs, x = .ref l ∧ y = .int k ∧ SqL K H l xs ∧ -(2 ^ 63) ≤ k ∧ k < 2 ^ 63 ∧ xs.length * k.toNat ≤ sizeLine ∧
  ∀ p, H p = none → Q (.ref p) (upd H p (.lst (List.replicate k.toNat xs).flatten))
/-- a tuple of something, so many times -/
def rTimes (K : PySem.W.Frag) : R2 := fun x y H Q => ∃ a k xs, x = .ref a ∧ y = .int k ∧ SqT K H a xs ∧ xs ≠ [] ∧ -1000 ≤ k ∧ k ≤ 1000 ∧ xs.length ≤ 1000 ∧ (k = 1 → Q (.ref a) H) ∧ ∀ p, H p = none → Q (.ref p) (upd H p (.tup (List.replicate k.toNat xs).flatten))
section
variable {X : Cx}
theorem op_times : OpR X (binaryOp .Mult) (rTimes X.K) := by
  intro pins s σ H x y v u Q I rx ry h
  obtain ⟨a, k, xs, rfl, rfl, hT, hne, h1, h2, hz, q1, q⟩ := h
  by_cases hk : 2 ≤ k
  · exact op_repT pins s σ H _ _ v u Q I rx ry ⟨a, k, xs, rfl, rfl, hT, hne, hk, h2, hz, q⟩
  · cases rx
    obtain ⟨t, rfl⟩ := ry
    obtain ⟨its, r, ⟨⟨cls, od, data, os⟩, ho, hc, m, hd⟩, hs⟩ := I.tuple hT
    simp only at hc hd
    subst hc hd
    have hle : its.length = xs.length := r.length.symm
    have ne : its ≠ [] := fun e => hne (List.eq_nil_of_length_eq_zero (by rw [← hle, e]; rfl))
    have em : its.toArray.isEmpty = false := by
      cases its with
      | nil => exact absurd rfl ne
      | cons _ _ => rfl
    by_cases hk1 : k = 1
    · subst hk1
      exact wpAny_binaryOp_repeat_ref (T := "tuple") (U := "int") (by decide) ⟨_, ho, rfl⟩ (fun s' => typeIs_int s' 1 t) noFill_tuple_mul F.fills_int_mul F.slot_int_rmul repeat_tuple F.slot_int_index.lookup
        (call_meets F.slot_int_rmul (typeIs_int s 1 t) F.entry_int_rmul (F.args_int_rmul_2 _ _) (int_rmul_tuple 1 t a its.toArray m od os) ⟨ho, rfl, ⟨_, ho, rfl⟩, call_meets F.slot_tuple_mul ⟨_, ho, rfl⟩ F.entry_tuple_mul (F.args_tuple_mul_2 _ _) (tm_one a its.toArray m od os t) ⟨ho, .ref a, H, I, rfl, q1 rfl⟩⟩)
    · have k0 : (decide (k < -(2 ^ 63)) || decide (k ≥ 2 ^ 63)) = false := by
        rw [decide_eq_false (by omega), decide_eq_false (by omega)] <;> rfl
      have k1 : (its.toArray.isEmpty || k == 1) = false := by
        rw [em, Bool.false_or, beq_eq_false_iff_ne]
        exact hk1
      have k2 : (decide (k ≤ 0) || its.toArray.isEmpty) = true := by rw [decide_eq_true (by omega)]; rfl
      have e0 : (List.replicate k.toNat xs).flatten = [] := by
        rw [show k.toNat = 0 by omega]
        rfl
      rw [e0] at q
      refine wpAny_binaryOp_repeat_ref (T := "tuple") (U := "int") (by decide) ⟨_, ho, rfl⟩ (fun s' => typeIs_int s' k t) noFill_tuple_mul F.fills_int_mul F.slot_int_rmul repeat_tuple F.slot_int_index.lookup
        (call_meets F.slot_int_rmul (typeIs_int s k t) F.entry_int_rmul (F.args_int_rmul_2 _ _) (int_rmul_tuple k t a its.toArray m od os) ⟨ho, rfl, ⟨_, ho, rfl⟩, call_meets F.slot_tuple_mul ⟨_, ho, rfl⟩ F.entry_tuple_mul (F.args_tuple_mul_2 _ _) (tm_none a its.toArray m od os k t k0 k1 k2) ⟨ho, ?_⟩⟩)
      exact ⟨.ref s.heap.objs.size, _, I.laid (t' := s.toks) (o := .tup []) (fun b ob e => Heap.get?_push_of_some _ e) (Nat.le_refl _) ⟨by rw [sizeLine_eq]; exact Nat.zero_le _, _, .nil, IsTup.new _ _⟩, rfl, q _ (I.hok.fresh (Nat.le_refl _))⟩
theorem op_timesL : OpR X (binaryOp .Mult) (rTimesL X.K) := by
  intro pins s σ H x y v u Q I rx ry h
  obtain ⟨l, k, xs, rfl, rfl, hH, h1, h2, hz, q⟩ := h
  cases rx
  obtain ⟨t, rfl⟩ := ry
  obtain ⟨its, r, ⟨⟨oc, od, ot, osl⟩, n1, g1, c1, d1, e1⟩, _⟩ := I.list hH
  simp only at c1 d1 e1
  subst c1 d1 e1
  have hl := r.length
  have hlen : its.toArray.size * k.toNat ≤ sizeLine := by rw [List.size_toArray, ← hl]; exact hz
  have hcap : ¬ its.toArray.size * k.toNat > (2 ^ 63 - 1) / 8 := by
    have : (sizeLine : Nat) ≤ (2 ^ 63 - 1) / 8 := by decide
    omega
  have hfit : ¬ (!Builtin.List.listFitsIndex k) = true := by
    rw [fitsIndex_both h1 h2]
    exact Bool.false_ne_true
  have hlong : ¬ Builtin.List.listTooLong (its.toArray.size * k.toNat) = true := by
    rw [notLongL hlen]
    exact Bool.false_ne_true
  have hnew : List.foldl (fun x1 x2 => x1 ++ x2) #[] (List.replicate (if its.toArray.isEmpty = true then 0 else k.toNat) its.toArray) = (List.replicate k.toNat its).flatten.toArray := by
    have f0 : ∀ m : Nat, List.foldl (fun x1 x2 => x1 ++ x2) #[] (List.replicate m its.toArray) = (List.replicate m its).flatten.toArray := fun m => by
      have := foldl_rep its m []
      rw [List.nil_append] at this
      exact this
    rw [f0]
    cases its with
    | nil => simp
    | cons a r' => rw [if_neg (by simp)]
  refine wpAny_binaryOp_repeat_ref (T := "list") (U := "int") (by decide) ⟨_, g1, rfl⟩ (fun s' => typeIs_int s' k t) noFill_list_mul F.fills_int_mul F.slot_int_rmul repeat_list F.slot_int_index.lookup
    (call_meets F.slot_int_rmul (typeIs_int s k t) F.entry_int_rmul (F.args_int_rmul_2 _ _) (int_rmul_listS k t l its.toArray n1 osl)
      ⟨g1, rfl, ⟨_, g1, rfl⟩, call_meets F.slot_list_mul ⟨_, g1, rfl⟩ F.entry_list_mul (F.args_list_mul_2 _ _) (list_mulS l its.toArray n1 osl k t hfit hcap hlong) ⟨g1, ?_⟩⟩)
  rw [hnew]
  exact ⟨.ref _, _, I.lnew (t' := s.toks) (r.rep k.toNat) (by rw [PyProof.Rows.lm_len_rep_flat, Nat.mul_comm]; exact hz), rfl, q _ I.fresh⟩
end
end Nw

set_option autoImplicit false
set_option maxRecDepth 100000
set_option maxHeartbeats 4000000
/-! Nw, part G1: sets of texts, counted. -/
namespace Nw
open PySem PySem.Spec PyProof.Rows
theorem nub_snoc (xs : List Str) (x : Str) : nubS (xs ++ [x]) = if (nubS xs).any (· == x) then nubS xs else nubS xs ++ [x] := by
  unfold nubS
  rw [List.foldl_append]
  rfl
theorem nub_fold (k : Str) : ∀ (xs acc : List Str), (xs.foldl (fun acc x => if acc.any (· == x) then acc else acc ++ [x]) acc).any (· == k) = (acc.any (· == k) || xs.any (· == k))
  | [], acc => by simp
  | x :: r, acc => by
    rw [List.foldl_cons, nub_fold k r, List.any_cons]
    cases h : acc.any (· == x) with
    | true =>
      rw [if_pos rfl]
      cases e : (x == k) with
      | false => simp
      | true =>
        have : x = k := by simpa using e
        subst this
        rw [h]
        rfl
    | false =>
      rw [if_neg (by simp), List.any_append]
      simp [Bool.or_assoc]
theorem nub_any (xs : List Str) (k : Str) : (nubS xs).any (· == k) = xs.any (· == k) := by
  unfold nubS
  rw [nub_fold]
  rfl
theorem nub_len : ∀ (xs acc : List Str), (xs.foldl (fun acc x => if acc.any (· == x) then acc else acc ++ [x]) acc).length ≤ acc.length + xs.length
  | [], acc => by simp
  | x :: r, acc => by
    rw [List.foldl_cons]
    refine Nat.le_trans (nub_len r _) ?_
    split <;> simp <;> omega
theorem nub_le (xs : List Str) : (nubS xs).length ≤ xs.length := by
  have := nub_len xs []
  rw [List.length_nil, Nat.zero_add] at this
  exact this
section
variable {pr : Program} {w : World} {B : Around} {R : Result → Shared → Prop}
theorem set_loop {J : Addr} {fs ws : List Addr} {G : Array GenState → Array GenState → Prop} {m : Nat} {P : Nat → Value → Prop} {Z : Nat → Shared → Prop} (V : WalksS pr w B.in1 J fs ws G m P Z) (a : Addr) (ha : a ∉ fs) (ts : List Str) (hm : ts.length = m) (hb : ts.length + 1 < scanBound)
    (vs : ∀ j v, P j v → ∃ u, v = .str (ts.getD j Str.empty) u) :
    ∀ (d j : Nat) (s : Shared), m - j = d → j ≤ m → Z j s → s.heap.SetOf (PySem.strKind pr w) a (fun y => (ts.take j).any (· == y)) (nubS (ts.take j)).length →
      (∀ s', Moved (a :: ws) G s s' → s'.heap.SetOf (PySem.strKind pr w) a (fun y => (ts.take m).any (· == y)) (nubS (ts.take m)).length → R (.ok (.ret .none)) s') →
      codeAny (model pr w) B (.builtin "set.update.loop" ⟨[.ref a, .ref J], []⟩) R s := by
  have aw : a ∉ ws := fun h => ha (V.sub _ h)
  have up : ∀ b ∈ ws, b ∈ a :: ws := fun b h => List.mem_cons_of_mem _ h
  have keep : ∀ {S : Str → Bool} {n : Nat} {s s' : Shared}, Moved ws G s s' → s.heap.SetOf (PySem.strKind pr w) a S n → s'.heap.SetOf (PySem.strKind pr w) a S n := fun hm ⟨o, es, ep, t, ho, r⟩ => ⟨o, es, ep, t, hm.heap a _ aw ho, r⟩
  intro d
  induction d with
  | zero =>
    intro j s hd hj z hS hR
    obtain rfl : j = m := by omega
    refine codeAny_builtin PyProof.Rows.F.entry_set_update_loop ?_
    rw [Around.under_plainId PyProof.Rows.F.plain_set_update_loop _]
    show wpAny _ B.in1 (pyNext (.ref J) >>= _) _ _ s
    refine wpAny_bind (V.done s _ _ z fun s' mv => ?_)
    show wpAny _ B.in1 (ret Value.none) _ _ s'
    exact wpAny_pure (hR s' (mv.mono up) (keep mv hS))
  | succ d ih =>
    intro j s hd hj z hS hR
    have lt : j < m := by omega
    refine codeAny_builtin PyProof.Rows.F.entry_set_update_loop ?_
    rw [Around.under_plainId PyProof.Rows.F.plain_set_update_loop _]
    show wpAny _ B.in1 (pyNext (.ref J) >>= _) _ _ s
    refine wpAny_bind (V.item j s _ _ lt z fun v s' pv z' mv => ?_)
    obtain ⟨u, rfl⟩ := vs j v pv
    have hS1 := keep mv hS
    have gx : ts[j]? = some (ts.getD j Str.empty) := by rw [List.getD_eq_getElem?_getD, List.getElem?_eq_getElem (by omega)]; rfl
    have tk : ts.take (j + 1) = ts.take j ++ [ts.getD j Str.empty] := by rw [List.take_succ, gx]; rfl
    generalize ts.getD j Str.empty = x at *
    show wpAny _ B.in1 (holding [Value.str x u] (setAdd a (.str x u)) >>= _) _ _ s'
    refine wpAny_bind (wpAny_holding ?_)
    unfold setAdd
    refine wpAny_holding ?_
    refine wpAny_bind ((PySem.strKind pr w).pyHash (k := x) (strKind_is _ _ _ _) ?_)
    have le := nub_le (ts.take j)
    have lt2 : (ts.take j).length ≤ ts.length := by rw [List.length_take]; omega
    refine wpAny_setAddHashed_of (knd := PySem.strKind pr w) (s := { s' with toks := s'.toks + 1 }) (strKind_is _ _ _ _) rfl hS1 (by omega) fun h' sb hS2 => ?_
    have hS3 : h'.SetOf (PySem.strKind pr w) a (fun y => (ts.take (j + 1)).any (· == y)) (nubS (ts.take (j + 1))).length := by
      refine SetOf_congr hS2 (fun y => ?_) ?_
      · show ((ts.take j).any (· == y) || decide (y = x)) = (ts.take (j + 1)).any (· == y)
        rw [tk, List.any_append, List.any_cons, List.any_nil, Bool.or_false]
        congr 1
        by_cases e : y = x
        · subst e; simp
        · have : (x == y) = false := by simpa [beq_iff_eq] using fun h : x = y => e h.symm
          simp [this, e]
      · rw [tk, nub_snoc, nub_any]
        split
        · rfl
        · rw [List.length_append]; rfl
    refine wpAny_pure ⟨plainId_quiet PyProof.Rows.F.plain_set_update_loop _, ih (j + 1) _ (by omega) lt (V.frame _ s' _ _ z' (Nat.le_succ _) fun b hb o e => ?_) hS3 fun s'' mv2 hS4 => ?_⟩
    · rw [sb.2 b fun h : b = a => ha (h ▸ hb)]
      exact e
    · refine hR s'' (Moved.trans V.gtrans ((mv.mono up).then_heap (Nat.le_succ _) fun b o hb e => ?_) mv2) hS4
      rw [sb.2 b fun h : b = a => hb (h ▸ List.mem_cons_self)]
      exact e
end
theorem signs_len (x : Str) : (signs x).length = x.cps.size := by unfold signs; rw [List.length_map, Array.length_toList]
abbrev set0 (led : Bool) : Obj := { cls := .type "set", dict := none, data := .set #[] 0 (.fresh 0 0 led) }
section
variable {pr : Program} {w : World} {B : Around} {E : Value → Shared → Prop} {s : Shared}
theorem call_set_of {v : Value} {P : Heap → Prop} {Q : Value → Shared → Prop}
    (up : ∀ led : Bool, wpAny (model pr w) B.in1.in1 (Builtin.Frozenset.updateFrom "set.__init__" s.heap.objs.size v) (fun _ s2 => ∃ h' tk, s2 = { s with heap := h', toks := tk } ∧ P h') E { s with heap := s.heap.push (set0 led) })
    (fin : ∀ (h' : Heap) (tk : Nat), P h' → Q (.ref s.heap.objs.size) { s with heap := h', toks := tk }) : wpAny (model pr w) B (call (.type "set") [v]) Q E s := by
  obtain ⟨c, tl, mro⟩ := PySem.F.called_set.mro
  have made := PySem.F.called_set.made
  have sub := PySem.F.called_set.sub
  refine wpAny_call (codeAny_of_tree ?_)
  show wpAny _ _ (callAny (.type "set") _) _ _ _
  refine wpAny_pure ⟨Code.quiet_builtin _ (by decide +kernel), codeAny_builtin PySem.F.entry_type_call ?_⟩
  rw [Around.under_plain (weight_type_call_type "set" [v] []) rfl]
  have k1 := PySem.F.called_set.notType
  have k2 := PySem.F.called_set.canCreate
  have k3 := PySem.F.typeCall_set_1 (v)
  repeat (any_goals (first | assumption | wp_step))
  refine codeAny_mono (code_set_new_1 (v) (E := E) (Q₁ := fun ob s1 => ∃ led : Bool, ob = .ref s.heap.objs.size ∧ s1 = { s with heap := s.heap.push (set0 led) }) fun led => ⟨led, rfl, rfl⟩) fun r s1 hr => ?_
  cases r with
  | error e => exact hr
  | ok fl =>
    cases fl with
    | ret ob =>
      obtain ⟨led, rfl, rfl⟩ := hr
      have g0 : (s.heap.push (set0 led)).get? s.heap.objs.size = some (set0 led) := Heap.get?_push_size _ rfl
      have hT : Shared.TypeIs { s with heap := s.heap.push (set0 led) } (.ref s.heap.objs.size) "set" := ⟨_, g0, rfl⟩
      have l1 := PySem.F.called_set.init.lookup
      have l2 := PySem.F.called_set.init.bind (.ref s.heap.objs.size)
      repeat (any_goals (first | assumption | wp_step))
      refine codeAny_mono (codeAny_call_builtin (R := wants (fun r s2 => r = .none ∧ ∃ h' tk, s2 = { s with heap := h', toks := tk } ∧ P h') E) PySem.F.called_set.init.plain PySem.F.entry_set_init (check_set_init_1 hT ?_)) fun r2 s2 hr2 => ?_
      · unfold Builtin.«set.__init__» noKeywords
        generalize hUF : Builtin.Frozenset.updateFrom "set.__init__" = UF
        wp_walk
        subst hUF
        refine wpAny_mono (up led) (fun _ s2 hp => ?_) fun _ _ h => h
        obtain ⟨h', tk, rfl, hP⟩ := hp
        show wpAny _ _ (ret Value.none) _ _ _
        exact wpAny_pure ⟨rfl, h', tk, rfl, hP⟩
      · cases r2 with
        | error e => exact hr2
        | ok f2 =>
          cases f2 with
          | ret r =>
            obtain ⟨rfl, h', tk, rfl, hP⟩ := hr2
            repeat (any_goals (first | assumption | wp_step))
            exact fin _ _ hP
          | _ => exact hr2.elim
    | _ => exact hr.elim
theorem call_set_str {x : Str} {u : Tok} {Q : Value → Shared → Prop} (hh : B.handled = none) (hb : x.cps.size + 1 < scanBound)
    (fin : ∀ (h' : Heap) (tk : Nat), h'.SetOf (PySem.strKind pr w) s.heap.objs.size (fun y => (signs x).any (· == y)) (nubS (signs x)).length → (∀ b o, b < s.heap.objs.size → s.heap.get? b = some o → h'.get? b = some o) → Q (.ref s.heap.objs.size) { s with heap := h', toks := tk }) :
    wpAny (model pr w) B (call (.type "set") [.str x u]) Q E s := by
  have g0 : ∀ led, (s.heap.push (set0 led)).get? s.heap.objs.size = some (set0 led) := fun led => Heap.get?_push_size _ rfl
  refine call_set_of (P := fun h' => h'.SetOf (PySem.strKind pr w) s.heap.objs.size (fun y => (signs x).any (· == y)) (nubS (signs x)).length ∧ (∀ b o, b < s.heap.objs.size → s.heap.get? b = some o → h'.get? b = some o)) (fun led => ?_) fun h' tk hP => fin h' tk hP.1 hP.2
  have g0 := g0 led
  have n1 : isSubtype (.type "str") (.type "set") = pure false := by rw [isSubtype_type]; kernel_rfl
  have n2 : isSubtype (.type "str") (.type "frozenset") = pure false := by rw [isSubtype_type]; kernel_rfl
  have n3 : (Value.type "str" == Value.type "dict") = false := by decide
  unfold Builtin.Frozenset.updateFrom
  generalize hPI : pyIter = PI
  wp_walk
  subst hPI
  refine wpAny_pyIter_str fun o Z V z0 => ?_
  refine wpAny_bind (wpAny_runValue ?_)
  have hn : s.heap.objs.size ∉ [(s.heap.push (set0 led)).objs.size] := by
    rw [Heap.size_push, List.mem_singleton]
    exact Nat.ne_of_lt (Nat.lt_succ_self _)
  have vs : ∀ j v, SignAt x j v → ∃ u, v = .str ((signs x).getD j Str.empty) u := fun j v ⟨c, u, e, ev⟩ => ⟨u, by
    rw [ev]
    unfold signs
    rw [List.getD_eq_getElem?_getD, List.getElem?_map, Array.getElem?_toList, e]
    rfl⟩
  refine set_loop ((V _ (by simp [hh])).toS) s.heap.objs.size hn (signs x) (signs_len x) (by rw [signs_len]; exact hb) vs (x.cps.size - 0) 0 _ (by omega) (Nat.zero_le _) z0 ?_ fun s' mv hS => ?_
  · have g1 : ((s.heap.push (set0 led)).push o).get? s.heap.objs.size = some (set0 led) := Heap.get?_push_of_some _ g0
    exact SetOf_congr ((setObjOf_fresh (knd := PySem.strKind pr w) led).setOf g1 (by unfold scanBound; omega)) (fun _ => rfl) rfl
  · obtain ⟨h', g', d', tk', os'⟩ := s'
    have eg : g' = s.gens := mv.gens
    have ed : d' = s.drawn := mv.drawn
    have eo : os' = s.os := mv.os
    subst eg ed eo
    rw [show (signs x).take x.cps.size = signs x by rw [← signs_len, List.take_length]] at hS
    show wpAny _ _ _ _ _ _
    refine wpAny_pure ⟨h', tk', rfl, hS, fun b o' lt e => ?_⟩
    refine mv.heap b o' ?_ (Heap.get?_push_of_some _ (Heap.get?_push_of_some _ e))
    rw [Heap.size_push]
    simp only [List.mem_cons, List.not_mem_nil, or_false, not_or]
    exact ⟨Nat.ne_of_lt lt, Nat.ne_of_lt (Nat.lt_succ_of_lt lt)⟩
theorem call_set_lst {l : Addr} {its : Array Value} {ts : List Str} {Q : Value → Shared → Prop} (hh : B.handled = none) (hl : s.heap.IsList l its) (hi : StrsAre its.toList ts) (hb : ts.length + 1 < scanBound)
    (fin : ∀ (h' : Heap) (tk : Nat), h'.SetOf (PySem.strKind pr w) s.heap.objs.size (fun y => ts.any (· == y)) (nubS ts).length → (∀ b o, b < s.heap.objs.size → s.heap.get? b = some o → h'.get? b = some o) → Q (.ref s.heap.objs.size) { s with heap := h', toks := tk }) :
    wpAny (model pr w) B (call (.type "set") [.ref l]) Q E s := by
  have g0 : ∀ led, (s.heap.push (set0 led)).get? s.heap.objs.size = some (set0 led) := fun led => Heap.get?_push_size _ rfl
  refine call_set_of (P := fun h' => h'.SetOf (PySem.strKind pr w) s.heap.objs.size (fun y => (ts).any (· == y)) (nubS (ts)).length ∧ (∀ b o, b < s.heap.objs.size → s.heap.get? b = some o → h'.get? b = some o)) (fun led => ?_) fun h' tk hP => fin h' tk hP.1 hP.2
  have g0 := g0 led
  obtain ⟨⟨oc, od, oa, os1⟩, hol, hc, nl, hd⟩ := hl
  simp only at hc hd
  subst hc hd
  have gl : (s.heap.push (set0 led)).get? l = some { cls := .type "list", dict := od, data := .seq its nl, slots := os1 } := Heap.get?_push_of_some _ hol
  have n1 := PySem.F.sub_list_set
  have n2 := PySem.F.sub_list_frozenset
  have n3 : (Value.type "list" == Value.type "dict") = false := by decide
  have il : (s.heap.push (set0 led)).IsList l its := ⟨_, gl, rfl, nl, rfl⟩
  unfold Builtin.Frozenset.updateFrom
  generalize hPI : pyIter = PI
  wp_walk
  subst hPI
  refine wpAny_pyIter_list il ?_
  refine wpAny_bind (wpAny_runValue ?_)
  have ll : l < s.heap.objs.size := Heap.lt_size hol
  have ni : l ≠ (s.heap.push (set0 led)).objs.size := by
    rw [Heap.size_push]
    exact Nat.ne_of_lt (Nat.lt_succ_of_lt ll)
  have hn : s.heap.objs.size ∉ [(s.heap.push (set0 led)).objs.size, l] := by
    rw [Heap.size_push]
    simp only [List.mem_cons, List.not_mem_nil, or_false, not_or]
    exact ⟨Nat.ne_of_lt (Nat.lt_succ_self _), Nat.ne_of_gt ll⟩
  have sz : ts.length = its.size := by rw [← StrsAre.len_eq hi, Array.length_toList]
  have vs : ∀ (j : Nat) (v : Value), its[j]? = some v → ∃ u, v = .str (ts.getD j Str.empty) u := fun j v e => SS.strs_at hi j v (by rw [Array.getElem?_toList]; exact e)
  refine set_loop ((Walks.list (by simp [hh]) _ l ni its).toS) s.heap.objs.size hn ts sz hb vs (its.size - 0) 0 _ (by omega) (Nat.zero_le _) ⟨⟨_, Heap.get?_push_size _ rfl, rfl, rfl⟩, (il.push _)⟩ ?_ fun s' mv hS => ?_
  · have g1 : ((s.heap.push (set0 led)).push { cls := .type "list_iterator", data := .fields #[.ref l, .int 0 0] }).get? s.heap.objs.size = some (set0 led) := Heap.get?_push_of_some _ g0
    exact SetOf_congr ((setObjOf_fresh (knd := PySem.strKind pr w) led).setOf g1 (by unfold scanBound; omega)) (fun _ => rfl) rfl
  · obtain ⟨h', g', d', tk', os'⟩ := s'
    have eg : g' = s.gens := mv.gens
    have ed : d' = s.drawn := mv.drawn
    have eo : os' = s.os := mv.os
    subst eg ed eo
    rw [show ts.take its.size = ts by rw [← sz, List.take_length]] at hS
    show wpAny _ _ _ _ _ _
    refine wpAny_pure ⟨h', tk', rfl, hS, fun b o' lt e => ?_⟩
    refine mv.heap b o' ?_ (Heap.get?_push_of_some _ (Heap.get?_push_of_some _ e))
    rw [Heap.size_push]
    simp only [List.mem_cons, List.not_mem_nil, or_false, not_or]
    exact ⟨Nat.ne_of_lt lt, Nat.ne_of_lt (Nat.lt_succ_of_lt lt)⟩
end
end Nw

set_option autoImplicit false
set_option maxRecDepth 100000
set_option maxHeartbeats 4000000
/-! Nw, part G2: sorting by a key, whatever else a key's call may keep. -/
namespace Nw
open PySem PySem.W PySem.Calls PyProof.Rows
section
variable {prog : Program} {w : World} {A : Around} {E : Value → Shared → Prop} {s : Shared} {a c : Addr} {b : Bool} {vs : List Value} {e1 : Nat} {P : PySem.Fin → Shared → Prop} {kz : List PyData}
theorem sk_tail {st : SortSt} {out : List Value} {ks : Array Value} {e : Nat} (nc : s.heap.get? c = some (seqObj "list" ks e)) (na : s.heap.get? a = some (seqObj "list" #[] e1)) (ca : c ≠ a)
    (hsz : ks.size ≤ sizeLine) (hz : out.length ≤ sizeLine) (hfl : failedOf st = none) (ho : (if b = true then ((arrOf st).map (·.2)).reverse else (arrOf st).map (·.2)) = out.toArray)
    (fin : ∀ h1 h' tk n, Heap.SameBut c s.heap h1 → Heap.SameBut a h1 h' → h'.get? a = some (seqObj "list" out.toArray n) → P (.done (.ret .none)) { s with heap := h', toks := tk }) :
    wpAny (model prog w) A (ksk_tail a b e1 (.ref c) st) P E s := by
  have s1 := Heap.SameBut.update s.heap c (Obj.mapSeq fun _ => (#[] : Array Value))
  have na1 : (s.heap.update c (Obj.mapSeq fun _ => (#[] : Array Value))).get? a = some (seqObj "list" #[] e1) := (s1.2 a ca.symm).trans na
  have s2 := Heap.SameBut.update (s.heap.update c (Obj.mapSeq fun _ => (#[] : Array Value))) a (Obj.mapSeq fun _ => out.toArray)
  obtain ⟨n, hn⟩ : ∃ n, ((s.heap.update c (Obj.mapSeq fun _ => (#[] : Array Value))).update a (Obj.mapSeq fun _ => out.toArray)).get? a = some (seqObj "list" out.toArray n) := ⟨_, get?_update_seq na1 fun _ => out.toArray⟩
  have hz2 : out.toArray.size ≤ sizeLine + 1 := by
    rw [List.size_toArray]
    omega
  unfold ksk_tail
  try dsimp only
  rw [ho]
  refine wpAny_bind (listUpdate_at nc rfl ?_ hsz (Nat.zero_le _))
  refine wpAny_bind (wpAny_letGo ?_)
  refine wpAny_bind (seqEpoch_at na1 rfl ?_)
  refine wpAny_bind (listUpdate_at na1 rfl ?_ (Nat.zero_le _) hz2)
  rw [hfl]
  simp only [bne_self_eq_false, Bool.false_eq_true, if_false]
  exact wpAny_pure (fin _ _ _ n s1 s2 hn)
theorem sk_end {κ : PyProof.Rows.KeyKind} {ks : Array Value} {e : Nat} (nc : s.heap.get? c = some (seqObj "list" ks e)) (na : s.heap.get? a = some (seqObj "list" #[] e1)) (ca : c ≠ a)
    (S : SortsAt prog w A s κ ks.toList) (hsz : ks.size = vs.length) (hZ : vs.length ≤ sizeLine)
    (fin : ∀ h1 h' tk n, Heap.SameBut c s.heap h1 → Heap.SameBut a h1 h' → h'.get? a = some (seqObj "list" (sortVals κ b ks.toList vs).toArray n) → P (.done (.ret .none)) { s with heap := h', toks := tk }) :
    wpAny (model prog w) A (ksk_end a b vs.toArray e1 (.ref c) ks) P E s := by
  obtain ⟨kd, h1, h2⟩ := S.kind
  have hkl : ks.toList.length = vs.length := by
    rw [Array.length_toList]
    exact hsz
  have hK : PyProof.Rows.KeysOf κ (ks.zip vs.toArray) := keysOf_zip S.keys
  have hol : (sortVals κ b ks.toList vs).length = vs.length := sortVals_length b hkl
  have hst : (if b = true then (ks.zip vs.toArray).reverse else ks.zip vs.toArray).Perm (ks.zip vs.toArray) := by
    cases b with
    | false => exact Array.Perm.refl _
    | true => exact Array.perm_iff_toList_perm.mpr (by rw [if_pos rfl, Array.toList_reverse]; exact List.reverse_perm _)
  have hss : (if b = true then (ks.zip vs.toArray).reverse else ks.zip vs.toArray).size = vs.length := by rw [hst.size_eq, Array.size_zip, hsz, List.size_toArray, Nat.min_self]
  have key : ∀ st' : SortSt, (arrOf st').Perm (if b = true then (ks.zip vs.toArray).reverse else ks.zip vs.toArray) → SortedToK κ (arrOf st') (if b = true then (ks.zip vs.toArray).reverse else ks.zip vs.toArray).size →
      Stable κ (arrOf st') (if b = true then (ks.zip vs.toArray).reverse else ks.zip vs.toArray) → (if b = true then ((arrOf st').map (·.2)).reverse else (arrOf st').map (·.2)) = (sortVals κ b ks.toList vs).toArray := by
    intro st' hp hs ht
    have e := congrArg List.toArray (sort_out (rev := b) (keys := ks) (items := vs.toArray) (xs := arrOf st') (κ := κ) hK hp hs ht)
    rw [Array.toArray_toList] at e
    exact e
  have step : ∀ t : Sem PySem.Fin, wpAny (model prog w) A t P E s → wpAny (model prog w) A (if b = true then (do let _ ← rule "list.sort.reverse"; t) else t) P E s := by
    intro t ht
    split
    · exact wpAny_bind (wpAny_rule ht)
    · exact ht
  unfold ksk_end
  try dsimp only
  refine step _ ?_
  by_cases hl2 : vs.toArray.size < 2
  · rw [if_pos hl2, if_pos hl2]
    refine wpAny_bind (wpAny_pure ?_)
    rw [StateT.run_pure]
    refine wpAny_bind (wpAny_pure ?_)
    try dsimp only
    refine sk_tail (st := SortSt.mk' general' (if b = true then (ks.zip vs.toArray).reverse else ks.zip vs.toArray) #[] 7 none) nc na ca (by rw [hsz]; exact hZ) (by rw [hol]; exact hZ) rfl (key _ (Array.Perm.refl _) ?_ (Stable.refl _)) fin
    intro i j hij hj
    rw [hss] at hj
    rw [List.size_toArray] at hl2
    have : i = j := by omega
    subst this
    exact KeyOrd.kle_refl _
  · rw [if_neg hl2, if_neg hl2]
    rw [List.size_toArray] at hl2
    refine wpAny_bind (h2 (by omega) _ ?_)
    refine wpAny_bind (wpAny_mono (H.wpS_sortRunsSt (κ := κ) (kd := kd) (a₀ := if b = true then (ks.zip vs.toArray).reverse else ks.zip vs.toArray)
      (st := SortSt.mk' kd (if b = true then (ks.zip vs.toArray).reverse else ks.zip vs.toArray) #[] 7 none)
      (Q := fun _ st' => failedOf st' = none ∧ (if b = true then ((arrOf st').map (·.2)).reverse else (arrOf st').map (·.2)) = (sortVals κ b ks.toList vs).toArray)
      h1 (hK.perm hst) ⟨Array.Perm.refl _, rfl, rfl⟩ rfl (Stable.refl _) (by rw [hss]; omega) fun st' a1 a2 a3 a4 => ⟨a2, key st' a1 a3 a4⟩) ?_ fun _ _ e => e)
    rintro ⟨⟨⟩, st'⟩ s' ⟨rfl, hf, ho⟩
    try dsimp only at ho ⊢
    exact sk_tail nc na ca (by rw [hsz]; exact hZ) (by rw [hol]; exact hZ) hf ho fin
/-- what the rest of the world keeps while keys are asked for: W L s, L the keys told so far -/
structure KW (prog : Program) (w : World) (A : Around) (a c : Addr) (f : Value) (vs : List Value) (kz : List PyData) (W : List (Value × PyData) → Shared → Prop) : Prop where
  upd : ∀ (L : List (Value × PyData)) (s : Shared) (d : Addr) (h' : Heap) (tk : Nat), d = a ∨ d = c → W L s → Heap.SameBut d s.heap h' → W L { s with heap := h', toks := tk }
  rd : ∀ (L : List (Value × PyData)) (s : Shared), W L s → ∀ p ∈ L, ∃ as, Reads s.heap p.1 p.2 as
  turn : ∀ (i : Nat) (v : Value) (k : PyData), vs[i]? = some v → kz[i]? = some k → ∀ (L : List (Value × PyData)) (s : Shared) (oa oc : Obj), L.length = i → W L s → s.heap.get? a = some oa → s.heap.get? c = some oc → (∀ v, oa.data ≠ .cell v) → (∀ v, oc.data ≠ .cell v) →
    wpAny (model prog w) A (call f [v]) (fun u s' => W ((u, k) :: L) s' ∧ s'.heap.get? a = some oa ∧ s'.heap.get? c = some oc) (fun _ _ => False) s
theorem sk_rest {f : Value} {W : List (Value × PyData) → Shared → Prop} (kw : KW prog w A a c f vs kz W) (nc : s.heap.get? c = some (seqObj "list" #[] 0)) (na : s.heap.get? a = some (seqObj "list" #[] e1)) (ca : c ≠ a) (w0 : W [] s)
    (hlen : kz.length = vs.length) (hZ : vs.length ≤ sizeLine) (hal : AllAlike kz) (hsk : Sortable kz) (hu : ∀ d, d ∈ kz → A.units + d.depth < cLine)
    (fin : ∀ L s' out n, L.length = vs.length → W L s' → s'.heap.get? a = some (seqObj "list" (List.toArray out) n) → KeyedOut b kz vs out → P (.done (.ret .none)) s') :
    wpAny (model prog w) A (ksk_rest a f b vs.toArray e1 (.ref c)) P E s := by
  unfold ksk_rest
  refine wpAny_bind (wpAny_rule ?_)
  first
    | rw [List.forIn_toArray]
    | (rw [← Array.forIn_toList]; simp only [List.toList_toArray])
    | rw [← Array.forIn_toList]
  refine wpAny_bind (ksk_fold (fun i s' => ∃ L kA e, L.length = i ∧ W L s' ∧ s'.heap.get? c = some (seqObj "list" kA e) ∧ s'.heap.get? a = some (seqObj "list" #[] e1) ∧ EachIs (fun v k => (v, k) ∈ L) kA.toList (kz.take i)) vs 0 s
    ⟨[], #[], 0, rfl, w0, nc, na, by rw [List.take_zero]; exact EachIs.nil⟩ ?step ?done)
  case step =>
    rintro j x s' hx ⟨L, kA, e, lL, wL, nc', na', hk⟩
    simp only [Nat.zero_add] at hk lL ⊢
    have hj : j < vs.length := (List.getElem?_eq_some_iff.mp hx).1
    obtain ⟨k, hkj⟩ : ∃ k, kz[j]? = some k := ⟨_, List.getElem?_eq_getElem (by omega)⟩
    have hz : kA.size ≤ vs.length := by
      have h1 := hk.length
      rw [Array.length_toList, List.length_take] at h1
      omega
    refine wpAny_bind (wpAny_attempt (wpAny_mono (kw.turn j x k hx hkj L s' _ _ lL wL na' nc' (fun v z => nomatch z) (fun v z => nomatch z)) (fun v s'' he => ?_) fun _ _ hF => hF.elim))
    obtain ⟨wL2, na2, nc2⟩ := he
    try dsimp only
    have s1 := Heap.SameBut.update s''.heap c (Obj.mapSeq (·.push v))
    obtain ⟨n, hn⟩ : ∃ n, (s''.heap.update c (Obj.mapSeq (·.push v))).get? c = some (seqObj "list" (kA.push v) n) := ⟨_, get?_update_seq nc2 (·.push v)⟩
    have ek : kz.take (j + 1) = kz.take j ++ [k] := by rw [List.take_add_one, hkj]; simp
    have ea : (kA.push v).toList = kA.toList ++ [v] := by simp
    refine wpAny_bind (listUpdate_at nc2 rfl ?_ (Nat.le_trans hz hZ) (Nat.le_trans (Nat.le_of_eq (Array.size_push ..)) (Nat.succ_le_succ (Nat.le_trans hz hZ))))
    refine wpAny_pure ⟨rfl, (v, k) :: L, kA.push v, n, by rw [List.length_cons, lL], kw.upd _ _ c _ _ (.inr rfl) wL2 s1, hn, (s1.2 a ca.symm).trans na2, ?_⟩
    rw [ea, ek]
    exact each_snoc (R := fun u d => (u, d) ∈ (v, k) :: L) List.mem_cons_self (hk.mono fun u d q => List.mem_cons_of_mem _ q)
  case done =>
    rintro s' ⟨L, kA, e, lL, wL, nc', na', hk⟩
    have hk' : EachIs (fun v k => ∃ as, Reads s'.heap v k as) kA.toList kz := by
      have e3 : kz.take (0 + vs.length) = kz := List.take_of_length_le (by omega)
      rw [e3] at hk
      exact hk.mono fun v k q => kw.rd L s' wL (v, k) q
    have hsz : kA.size = vs.length := by
      have h1 := hk'.length
      rw [Array.length_toList] at h1
      omega
    try dsimp only
    refine wpAny_bind (listItems_at nc' rfl ?_)
    refine sk_end (κ := dataKind s'.heap kz) nc' na' ca (SortsAt.data hk' hal hsk hu) hsz hZ fun h1 h' tk n b1 b2 g => ?_
    exact fin L _ _ n (by rw [lL, Nat.zero_add]) (kw.upd L { s' with heap := h1, toks := tk } a h' tk (.inl rfl) (kw.upd L s' c h1 tk (.inr rfl) wL b1) b2) g ⟨s'.heap, kA.toList, hal, rfl, hk'⟩
theorem sk_tree {f : Value} {n : Nat} {W : List (Value × PyData) → Shared → Prop} (ho : s.heap.get? a = some (seqObj "list" vs.toArray n)) (kw : KW prog w A a (s.heap.objs.size + 1) f vs kz W)
    (w0 : ∀ h', (∀ d o, d ≠ a → s.heap.get? d = some o → h'.get? d = some o) → W [] { s with heap := h' })
    (hlen : kz.length = vs.length) (hZ : vs.length ≤ sizeLine) (hal : AllAlike kz) (hsk : Sortable kz) (hu : ∀ d, d ∈ kz → A.units + d.depth < cLine)
    (fin : ∀ L s' out n, L.length = vs.length → W L s' → s'.heap.get? a = some (seqObj "list" (List.toArray out) n) → KeyedOut b kz vs out → P (.done (.ret .none)) s') :
    wpAny (model prog w) A (ksk_tree a f b) P E s := by
  have ha : a < s.heap.objs.size := Heap.lt_size ho
  obtain ⟨e1, ho1⟩ : ∃ e1, (s.heap.update a (Obj.mapSeq fun _ => (#[] : Array Value))).get? a = some (seqObj "list" #[] e1) := ⟨_, get?_update_seq ho fun _ => #[]⟩
  have hc : ((s.heap.update a (Obj.mapSeq fun _ => (#[] : Array Value))).push (seqObj "tuple" vs.toArray 0)).objs.size = s.heap.objs.size + 1 := by rw [size_push', Heap.size_update]
  have hs := Heap.SameBut.update s.heap a (Obj.mapSeq fun _ => (#[] : Array Value))
  unfold ksk_tree
  refine wpAny_bind (listItems_at ho rfl ?_)
  refine wpAny_bind (listUpdate_at ho rfl ?_ (by rw [List.size_toArray]; exact hZ) (Nat.zero_le _))
  refine wpAny_bind (seqEpoch_at ho1 rfl ?_)
  refine wpAny_bind (wpAny_newTuple ?_ (by show vs.length ≤ _; exact hZ))
  refine wpAny_bind (wpAny_newList ?_ (Nat.zero_le _))
  refine wpAny_holding ?_
  rw [← hc] at kw
  refine sk_rest (kz := kz) (s := { s with heap := ((s.heap.update a (Obj.mapSeq fun _ => (#[] : Array Value))).push (seqObj "tuple" vs.toArray 0)).push (seqObj "list" #[] 0) }) kw
    (Heap.get?_push_size _ rfl) (Heap.get?_push_of_some _ (Heap.get?_push_of_some _ ho1)) (by rw [hc]; exact Nat.ne_of_gt (Nat.lt_succ_of_lt ha)) (w0 _ fun d o hd e => Heap.get?_push_of_some _ (Heap.get?_push_of_some _ ((hs.2 d hd).trans e))) hlen hZ hal hsk hu fin
/-- sorted(xs, key=f) -/
theorem sk_sorted {l : Addr} {f : Value} {kws : List (Str × Value)} {Q : Value → Shared → Prop} {W : List (Value × PyData) → Shared → Prop} (hl : s.heap.IsList l vs.toArray)
    (kw : KW prog w A.in1.in1 (s.heap.objs.size + 1) (s.heap.objs.size + 3) f vs kz W) (w0 : ∀ h', (∀ d o, s.heap.get? d = some o → h'.get? d = some o) → W [] { s with heap := h' })
    (hlen : kz.length = vs.length) (hZ : vs.length ≤ sizeLine) (hal : AllAlike kz) (hsk : Sortable kz) (hu : ∀ d, d ∈ kz → A.in1.in1.units + d.depth < cLine)
    (ha1 : argsOk "sorted" ⟨[.ref l], kws⟩) (ha2 : ∀ x, argsOk "list.sort" ⟨[.ref x], kws⟩) (ht : ∀ x, Builtin.«list.sort» ⟨[.ref x], kws⟩ = ksk_tree x f b)
    (fin : ∀ L s' out n, L.length = vs.length → W L s' → s'.heap.get? (s.heap.objs.size + 1) = some (seqObj "list" (List.toArray out) n) → KeyedOut b kz vs out → Q (.ref (s.heap.objs.size + 1)) s') :
    wpAny (model prog w) A (call (.builtin "sorted") [.ref l] kws) Q E s := by
  refine sorted_of_sort hl hZ ha1 ha2 fun E' => ?_
  rw [ht]
  have hcs : (copyHeap s.heap vs).objs.size = s.heap.objs.size + 2 := by
    unfold copyHeap
    rw [size_push', Heap.size_update, size_push']
  refine sk_tree (kz := kz) (s := { s with heap := copyHeap s.heap vs }) (W := W) (copyHeap_at s.heap vs) (by show KW prog w A.in1.in1 _ ((copyHeap s.heap vs).objs.size + 1) f vs kz W; rw [hcs]; exact kw) (fun h' kp => w0 h' fun d o e => kp d o (Nat.ne_of_lt (Nat.lt_succ_of_lt (Heap.lt_size e))) (copyHeap_old e)) hlen hZ hal hsk hu fun L s' out n lL wL g ko => ⟨rfl, fin L s' out n lL wL g ko⟩
end
end Nw

set_option autoImplicit false
set_option maxRecDepth 100000
set_option maxHeartbeats 1000000
/-! Nw, part G: the operators. -/
namespace Nw
open PySem PySem.Spec PyProof.Rows L2

section
variable {X : Cx} {W : WX} {CV : Str → Value} {φ : List Addr} {σ : L2.St} {H : Hp} {fr : Fr} {Q : VK}
theorem post_val {K : PySem.W.Frag} {d : D} {v : V} (F : FR K φ σ H fr) (P : Post K W CV (RRV K) φ σ H fr (.ok (vD d) fr) Q) (r : Rep K H d v) : Q v H := P v H φ (Ext.refl _ _ _) F r
theorem post_newL {K : PySem.W.Frag} {ds : List D} {vs : List V} {p : Addr} (F : FR K φ σ H fr) (P : Post K W CV (RRV K) φ σ H fr (.ok (newL ds) fr) Q) (hp : H p = none) (r : Reps K H ds vs) : Q (.ref p) (upd H p (.lst vs)) := by
  obtain ⟨F2, x2⟩ := F.laid (u := .lst vs) hp
  obtain ⟨n1, n2⟩ := F.free hp
  exact P _ _ φ x2 F2 ⟨p, rfl, hp, n1, n2, vs, upd_same, RepVs.py (Reps.pers (pers_new hp) r)⟩
theorem post_newT {K : PySem.W.Frag} {ds : List D} {vs : List V} {p : Addr} (F : FR K φ σ H fr) (P : Post K W CV (RRV K) φ σ H fr (.ok (vD (.tuple ds)) fr) Q) (hp : H p = none) (r : Reps K H ds vs) : Q (.ref p) (upd H p (.tup vs)) := by
  obtain ⟨F2, x2⟩ := F.laid (u := .tup vs) hp
  refine P _ _ φ x2 F2 ?_
  show Rep K _ (.tuple ds) (.ref p)
  simp only [Rep]
  exact ⟨p, vs, rfl, .of upd_same, Reps.pers (pers_new hp) r⟩
theorem rep_int {K : PySem.W.Frag} {i : Int} : Rep K H (.int i) (.int i) := by simp only [Rep]
theorem rep_bool {K : PySem.W.Frag} {b : Bool} : Rep K H (.bool b) (.bl b) := by simp only [Rep]
theorem rep_str {K : PySem.W.Frag} {s : Str} : Rep K H (.str s) (.str s) := by simp only [Rep]
theorem rep_none {K : PySem.W.Frag} : Rep K H .none .non := by simp only [Rep]
theorem pr_int {K : PySem.W.Frag} {i : Int} {v : V} (h : PRep K H (.int i) v) : v = .int i := by
  have h : Rep K H (.int i) v := h
  simpa only [Rep] using h
theorem pr_bool {K : PySem.W.Frag} {i : Bool} {v : V} (h : PRep K H (.bool i) v) : v = .bl i := by
  have h : Rep K H (.bool i) v := h
  simpa only [Rep] using h
theorem pr_str {K : PySem.W.Frag} {i : Str} {v : V} (h : PRep K H (.str i) v) : v = .str i := by
  have h : Rep K H (.str i) v := h
  simpa only [Rep] using h
theorem pr_none {K : PySem.W.Frag} {v : V} (h : PRep K H .none v) : v = .non := by
  have h : Rep K H .none v := h
  simpa only [Rep] using h
theorem pr_list {K : PySem.W.Frag} {ds : List D} {v : V} (h : PRep K H (.list ds) v) : ∃ a xs, v = .ref a ∧ SqL K H a xs ∧ Reps K H ds xs := h
theorem pr_tuple {K : PySem.W.Frag} {ds : List D} {v : V} (h : PRep K H (.tuple ds) v) : ∃ a xs, v = .ref a ∧ SqT K H a xs ∧ Reps K H ds xs := by
  have h : Rep K H (.tuple ds) v := h
  simpa only [Rep] using h
theorem guard_ok {α : Type} {b : Bool} {a c : α} (h : guardO b a = some c) : b = true ∧ c = a := by
  unfold guardO at h
  split at h
  · cases h
    exact ⟨by assumption, rfl⟩
  · cases h
theorem fits_ok {n : Nat} (h : fits n = true) : n ≤ sizeLine := by
  rw [sizeLine_eq]
  exact of_decide_eq_true h

/-! ### + -/
theorem list_addS (l : Addr) (items : Array Value) (n : Nat) (b : Addr) (items2 : Array Value) (n2 : Nat) (sl sl2 : Array (Option Value)) (hc0 : items.size + items2.size ≤ sizeLine) :
    Meets (Builtin.«list.__add__» ⟨[.ref l, .ref b], []⟩) (fun _ R s => s.heap.get? l = some { cls := .type "list", dict := none, data := .seq items n, slots := sl } ∧ s.heap.get? b = some { cls := .type "list", dict := none, data := .seq items2 n2, slots := sl2 } ∧
      R (.ok (.ret (Value.ref s.heap.objs.size))) { s with heap := s.heap.push { cls := .type "list", data := .seq (items ++ items2) } }) :=
  Meets.of_wp fun prog w A R s h => by
    obtain ⟨hp, g, d, tk, os⟩ := s
    obtain ⟨hl, hb, h⟩ := h
    have f3 := AutoSeq1.sub_list_list
    wp_walk using AutoSeq1.wpAny_loadPart' hl, AutoSeq1.wpAny_loadPart' hb
    exact ⟨_, rfl, h⟩
/-- two lists, each as it may be read -/
def rCatL (K : PySem.W.Frag) : R2 := fun x y H Q => ∃ l b xs zs, x = .ref l ∧ y = .ref b ∧ SqL K H l xs ∧ SqL K H b zs ∧ xs.length + zs.length ≤ sizeLine ∧ ∀ p, H p = none → Q (.ref p) (upd H p (.lst (xs ++ zs)))
theorem op_catL : OpR X (binaryOp .Add) (rCatL X.K) := by
  intro pins s σ H x y v u Q I rx ry h
  obtain ⟨l, b, xs, zs, rfl, rfl, h1, h2, hz, q⟩ := h
  cases rx
  cases ry
  obtain ⟨its, r, ⟨⟨oc, od, ot, osl⟩, n1, g1, c1, d1, e1⟩, _⟩ := I.list h1
  obtain ⟨its2, r2, ⟨⟨pc, pd, pt, psl⟩, n2, g2, c2, d2, e2⟩, _⟩ := I.list h2
  simp only at c1 d1 e1 c2 d2 e2
  subst c1 d1 e1 c2 d2 e2
  have l1 := r.length
  have l2 := r2.length
  refine concat_meets ⟨_, g1, rfl⟩ ⟨_, g2, rfl⟩ noFill_list_add seq_list_add PySem.F.slot_list_add PySem.F.entry_list_add (PySem.F.args_list_add_2 _ _)
    (list_addS l its.toArray n1 b its2.toArray n2 osl psl (by simp only [List.size_toArray]; omega)) ⟨g1, g2, ?_⟩
  have ea : its.toArray ++ its2.toArray = (its ++ its2).toArray := by simp
  rw [ea]
  exact ⟨.ref _, _, I.lnew (t' := s.toks) (r.append r2) (by rw [List.length_append]; exact hz), rfl, q _ I.fresh⟩
def rAdd2 (K : PySem.W.Frag) : R2 := fun x y H Q => (((rI0 (fun i j => V.int (i + j))) x y H Q ∨ (∃ i j, x = .str i ∧ y = .str j ∧ i.length + j.length ≤ sizeLine ∧ Q (.str (i ++ j)) H)) ∨ rCatL K x y H Q) ∨ rCatA K x y H Q
theorem op_add2 : OpR X (binaryOp .Add) (rAdd2 X.K) := OpR.or (OpR.or (OpR.or op_add op_add_str) op_catL) op_catA
theorem key_add (d d' : D) (b : RV) (x y : V) (Q : VK) (F : FR X.K φ σ H fr) (p : PRep X.K H d x) (p' : PRep X.K H d' y) (e : opB .add d d' = some b) (P : Post X.K W CV (RRV X.K) φ σ H fr (.ok b fr) Q) : rAdd2 X.K x y H Q := by
  cases d <;> cases d' <;> simp only [opB, reduceCtorEq] at e
  case int.int i j =>
    cases e
    rw [pr_int p, pr_int p']
    exact .inl (.inl (.inl ⟨i, j, rfl, rfl, post_val F P rep_int⟩))
  case str.str i j =>
    obtain ⟨g, rfl⟩ := guard_ok e
    rw [pr_str p, pr_str p']
    exact .inl (.inl (.inr ⟨i, j, rfl, rfl, fits_ok g, post_val F P rep_str⟩))
  case list.list i j =>
    obtain ⟨g, rfl⟩ := guard_ok e
    obtain ⟨a, xs, rfl, h, r⟩ := pr_list p
    obtain ⟨a', xs', rfl, h', r'⟩ := pr_list p'
    exact .inl (.inr ⟨a, a', xs, xs', rfl, rfl, h, h', by rw [← r.len, ← r'.len]; exact fits_ok g, fun p hp => post_newL F P hp (r.append r')⟩)
  case tuple.tuple i j =>
    obtain ⟨g, rfl⟩ := guard_ok e
    obtain ⟨a, xs, rfl, h, r⟩ := pr_tuple p
    obtain ⟨a', xs', rfl, h', r'⟩ := pr_tuple p'
    refine .inr ⟨a, a', xs, xs', rfl, rfl, h, h', by rw [← r.len, ← r'.len]; exact fits_ok g, fun z => ?_, fun z z' => ?_, fun z z' p hp => post_newT F P hp (r.append r')⟩
    · refine post_val F P ?_
      subst z
      have l := r.len
      have : i = [] := List.eq_nil_of_length_eq_zero l
      subst this
      simp only [Rep]
      exact ⟨a', xs', rfl, h', r'⟩
    · refine post_val F P ?_
      subst z'
      have l := r'.len
      have : j = [] := List.eq_nil_of_length_eq_zero l
      subst this
      simp only [Rep]
      exact ⟨a, xs, rfl, h, by rw [List.append_nil]; exact r⟩

/-! ### the other operators -/
def rI1 (C : Int → Int → Prop) (g : Int → Int → Int) : R2 := rI C fun i j => .int (g i j)
def rMulS : R2 := fun x y H Q => ∃ (a : Str) (k : Int), x = .str a ∧ y = .int k ∧ (-(2 ^ 63) ≤ k ∧ k.toNat ≤ 16777216 ∧ a.length * k.toNat ≤ 16777216) ∧ Q (.str (Txt.mul a k)) H
theorem op_mulS : OpR X (binaryOp .Mult) rMulS := by
  intro pins s σ H x y v u Q I rx ry h
  obtain ⟨a, k, rfl, rfl, ⟨h1, h2, h3⟩, q⟩ := h
  obtain ⟨t, rfl⟩ := rx
  obtain ⟨t', rfl⟩ := ry
  exact SB.mul (mulOk_of a.length k.toNat (Nat.le_refl _) (by omega) h1 h2 h3) fun t2 tk => ⟨.str _, H, I.tok _, ⟨_, rfl⟩, q⟩
theorem Reps.times {K : PySem.W.Frag} {ds : List D} {xs : List V} (r : Reps K H ds xs) : ∀ n : Nat, Reps K H (List.replicate n ds).flatten (List.replicate n xs).flatten
  | 0 => Reps.nil
  | n + 1 => by
    rw [List.replicate_succ, List.replicate_succ, List.flatten_cons, List.flatten_cons]
    exact r.append (Reps.times r n)
def bopOp : BOp → Operator
  | .add => .Add
  | .sub => .Sub
  | .mul => .Mult
  | .fdiv => .FloorDiv
  | .mod => .Mod
  | .pow => .Pow
  | .band => .BitAnd
  | .shr => .RShift
  | .shl => .LShift
def rOf (K : PySem.W.Frag) : BOp → R2
  | .add => rAdd2 K
  | .sub => rI0 fun i j => .int (i - j)
  | .mul => fun x y H Q => (((rI CMul fun i j => .int (i * j)) x y H Q ∨ rMulS x y H Q) ∨ rTimes K x y H Q) ∨ rTimesL K x y H Q
  | .fdiv => rI CDivW fun i j => .int (i / j)
  | .mod => rI (fun _ j => 0 < j) fun i j => .int (i % j)
  | .pow => rI CPow fun i j => .int (i ^ j.toNat)
  | .band => rI0 fun i j => .int (Builtin.bitAnd i j)
  | .shr => rI (fun _ j => 0 ≤ j) fun i j => .int (i / 2 ^ j.toNat)
  | .shl => rI CPow fun i j => .int (i * 2 ^ j.toNat)
theorem op_of : ∀ o : BOp, OpR X (binaryOp (bopOp o)) (rOf X.K o)
  | .add => op_add2
  | .sub => op_sub
  | .mul => OpR.or (OpR.or (OpR.or op_mul op_mulS) op_times) op_timesL
  | .fdiv => op_fdivW
  | .mod => op_mod
  | .pow => op_pow
  | .band => op_and
  | .shr => op_shr
  | .shl => op_shl
theorem key_of (o : BOp) (d d' : D) (b : RV) (x y : V) (Q : VK) (F : FR X.K φ σ H fr) (p : PRep X.K H d x) (p' : PRep X.K H d' y) (e : opB o d d' = some b) (P : Post X.K W CV (RRV X.K) φ σ H fr (.ok b fr) Q) : rOf X.K o x y H Q := by
  cases o with
  | add => exact key_add d d' b x y Q F p p' e P
  | sub =>
    cases d <;> cases d' <;> simp only [opB, reduceCtorEq] at e
    cases e
    rw [pr_int p, pr_int p']
    exact ⟨_, _, rfl, rfl, post_val F P rep_int⟩
  | mul =>
    cases d <;> cases d' <;> simp only [opB, reduceCtorEq] at e
    case int.int i j =>
      obtain ⟨g, rfl⟩ := guard_ok e
      rw [pr_int p, pr_int p']
      refine .inl (.inl (.inl ⟨_, _, rfl, rfl, ?_, post_val F P rep_int⟩))
      simp only [big, Bool.or_eq_true, decide_eq_true_eq] at g
      exact g
    case str.int i j =>
      obtain ⟨g, rfl⟩ := guard_ok e
      rw [pr_str p, pr_int p']
      exact .inl (.inl (.inr ⟨_, _, rfl, rfl, of_decide_eq_true g, post_val F P rep_str⟩))
    case list.int i j =>
      obtain ⟨g, rfl⟩ := guard_ok e
      have g1 := of_decide_eq_true g
      obtain ⟨a, xs, rfl, h, r⟩ := pr_list p
      rw [pr_int p']
      exact .inr ⟨a, j, xs, rfl, rfl, h, g1.1, g1.2.1, by rw [← r.len, sizeLine_eq]; exact g1.2.2, fun q hq => post_newL F P hq (r.times j.toNat)⟩
    case tuple.int i j =>
      obtain ⟨g, rfl⟩ := guard_ok e
      rw [Bool.and_eq_true] at g
      have g1 := of_decide_eq_true g.1
      obtain ⟨a, xs, rfl, h, r⟩ := pr_tuple p
      rw [pr_int p']
      have hl := r.len
      refine .inl (.inr ⟨a, j, xs, rfl, rfl, h, fun z => ?_, g1.1, g1.2.1, by omega, fun z => ?_, fun q hq => post_newT F P hq (r.times j.toNat)⟩)
      · subst z
        cases i with
        | nil => exact absurd g.2 (by decide)
        | cons _ _ => simp at hl
      · refine post_val F P ?_
        subst z
        simp only [Rep]
        refine ⟨a, xs, rfl, h, ?_⟩
        have e1 : (List.replicate (1 : Int).toNat i).flatten = i := by
          show ([i] : List (List Nw.D)).flatten = i
          simp
        rw [e1]
        exact r
  | fdiv =>
    cases d <;> cases d' <;> simp only [opB, reduceCtorEq] at e
    obtain ⟨g, rfl⟩ := guard_ok e
    rw [pr_int p, pr_int p']
    exact ⟨_, _, rfl, rfl, by simpa only [CDivW, CPow, decide_eq_true_eq] using g, post_val F P rep_int⟩
  | mod =>
    cases d <;> cases d' <;> simp only [opB, reduceCtorEq] at e
    obtain ⟨g, rfl⟩ := guard_ok e
    rw [pr_int p, pr_int p']
    exact ⟨_, _, rfl, rfl, of_decide_eq_true g, post_val F P rep_int⟩
  | pow =>
    cases d <;> cases d' <;> simp only [opB, reduceCtorEq] at e
    obtain ⟨g, rfl⟩ := guard_ok e
    rw [pr_int p, pr_int p']
    exact ⟨_, _, rfl, rfl, by simpa only [CDivW, CPow, decide_eq_true_eq] using g, post_val F P rep_int⟩
  | band =>
    cases d <;> cases d' <;> simp only [opB, reduceCtorEq] at e
    cases e
    rw [pr_int p, pr_int p']
    exact ⟨_, _, rfl, rfl, post_val F P rep_int⟩
  | shr =>
    cases d <;> cases d' <;> simp only [opB, reduceCtorEq] at e
    obtain ⟨g, rfl⟩ := guard_ok e
    rw [pr_int p, pr_int p']
    exact ⟨_, _, rfl, rfl, of_decide_eq_true g, post_val F P rep_int⟩
  | shl =>
    cases d <;> cases d' <;> simp only [opB, reduceCtorEq] at e
    obtain ⟨g, rfl⟩ := guard_ok e
    rw [pr_int p, pr_int p']
    exact ⟨_, _, rfl, rfl, by simpa only [CDivW, CPow, decide_eq_true_eq] using g, post_val F P rep_int⟩
theorem bin_ok {a b : Expr} {pos : Pos} {ma mb : M Hd} (o : BOp) (ha : PEh X W CV a ma) (hb : PEh X W CV b mb) : PEn X W CV (.BinOp a (bopOp o) b pos) (do
    let x ← ma
    let y ← mb
    let d ← viewH x
    let d' ← viewH y
    liftO (opB o d d')) :=
  PE.imp (pe_op (op_of o) ha hb) fun σ H Q h => two_ok back_RRV (fun φ σ H fr d d' b x y Q F p p' e P => key_of o d d' b x y Q F p p' e P) σ H Q h
end
end Nw

set_option autoImplicit false
set_option maxRecDepth 100000
set_option maxHeartbeats 4000000
/-! Nw, part H0: lists of unlike lengths. -/
namespace Nw
open PySem PySem.Spec PyProof.Rows L2 PySem.SeqAt PySem.MeetsSeq
def rUnl (K : PySem.W.Frag) (b : Bool) : R2 := fun x y H Q => ∃ p q xs ys, x = .ref p ∧ y = .ref q ∧ SqL K H p xs ∧ SqL K H q ys ∧ xs.length ≠ ys.length ∧ Q (.bl b) H
section
variable {X : Cx}
theorem op_unlE (hu : X.A.units + 65 < cLine) : OpR X (compareOp .Eq) (rUnl X.K false) := by
  intro pins s σ H x y v u Q I rx ry h
  obtain ⟨p, q, xs, ys, rfl, rfl, h1, h2, hne, hq⟩ := h
  cases rx
  cases ry
  obtain ⟨us, r1, p1, _⟩ := I.list h1
  obtain ⟨ws, r2, p2, _⟩ := I.list h2
  have hsz : (us.toArray.size != ws.toArray.size) = true := by
    rw [List.size_toArray, List.size_toArray, ← r1.length, ← r2.length]
    simpa using hne
  exact SeqAt.RcAt.lists_lengths p1.isList p2.isList hsz (by omega) X.prog X.w _ _ ⟨.bl false, H, I, rfl, hq⟩
end
theorem list_ne_lengthsAt (l b : Addr) (items items2 : Array Value) (n n2 : Nat) (dd dd2 : Option Addr) (sl sl2 : Array (Option Value)) (hc0 : (items.size != items2.size) = true) :
    Meets (Builtin.«list.__ne__» ⟨[.ref l, .ref b], []⟩)
      (fun _ R s => s.heap.get? l = some { cls := .type "list", dict := dd, data := .seq items n, slots := sl } ∧ s.heap.get? b = some { cls := .type "list", dict := dd2, data := .seq items2 n2, slots := sl2 } ∧
        R (.ok (.ret (.bool true))) s) :=
  .of_wp fun prog w A R s h => by
    obtain ⟨hp, g, d, tk, os⟩ := s; obtain ⟨hl, hb, h⟩ := h
    have f3 := AutoSeq1.sub_list_list
    wp_walk using wpAny_loadPart' hl, wpAny_loadPart' hb
    exact ⟨_, rfl, h⟩
section
variable {X : Cx}
theorem op_unlN (hu : X.A.units + 65 < cLine) : OpR X (compareOp .NotEq) (rUnl X.K true) := by
  intro pins s σ H x y v u Q I rx ry h
  obtain ⟨p, q, xs, ys, rfl, rfl, h1, h2, hne, hq⟩ := h
  cases rx
  cases ry
  obtain ⟨us, r1, p1, _⟩ := I.list h1
  obtain ⟨ws, r2, p2, _⟩ := I.list h2
  have hsz : (us.toArray.size != ws.toArray.size) = true := by
    rw [List.size_toArray, List.size_toArray, ← r1.length, ← r2.length]
    simpa using hne
  obtain ⟨⟨cls, dd, data, sl⟩, ho, hc, n, hd⟩ := id p1.isList
  obtain ⟨⟨cls2, dd2, data2, sl2⟩, ho2, hc2, n2, hd2⟩ := id p2.isList
  simp only at hc hd hc2 hd2
  subst hc hd hc2 hd2
  exact richCompare_meets_room (op := .NotEq) ⟨_, ho, rfl⟩ ⟨_, ho2, rfl⟩ F.slot_list_ne F.entry_list_ne (F.args_list_ne_2 _ _) (list_ne_lengthsAt _ _ _ _ _ _ _ _ _ _ hsz)
    ⟨ho, ho2, show Value.bool true ≠ Value.notImplemented ∧ _ from ⟨(fun x => nomatch x), ⟨.bl true, H, I, rfl, hq⟩⟩⟩ (by omega)
end
theorem dict_eq_declines_str (l : Addr) (es : Array DictEntry) (n : Nat) (dd : Option Addr) (sl : Array (Option Value)) (b : Str) (u : Tok) :
    Meets (Builtin.«dict.__eq__» ⟨[.ref l, .str b u], []⟩) (fun _ R s => s.heap.get? l = some { cls := .type "dict", dict := dd, data := .dict es n, slots := sl } ∧ R (.ok (.ret .notImplemented)) s) :=
  .of_wp fun prog w A R s h => by obtain ⟨hp, g, d, tk, os⟩ := s; obtain ⟨hl, h⟩ := h; have f1 := F.sub_str_dict; wp_walk using wpAny_loadPart' hl; exact ⟨_, rfl, h⟩
theorem str_eq_declines_dict (b : Str) (u : Tok) (l : Addr) (c : Value) (es : Array DictEntry) (n : Nat) (dd : Option Addr) (sl : Array (Option Value)) :
    Meets (Builtin.«str.__eq__» ⟨[.str b u, .ref l], []⟩) (fun _ R s => s.heap.get? l = some { cls := c, dict := dd, data := .dict es n, slots := sl } ∧ R (.ok (.ret .notImplemented)) s) :=
  .of_wp fun prog w A R s h => by obtain ⟨hp, g, d, tk, os⟩ := s; obtain ⟨hl, h⟩ := h; wp_walk using wpAny_loadPart' hl, wpAny_load hl; exact ⟨_, rfl, h⟩
section
variable {A : Around} {s : Shared}
def IsDic (h : Heap) (l : Addr) : Prop := ∃ dd es n sl, h.get? l = some { cls := .type "dict", dict := dd, data := .dict es n, slots := sl }
theorem rc_dict_str {l : Addr} (b : Str) (u : Tok) (hl : IsDic s.heap l) (hu : A.units < cLine) : RcAt A s (.ref l) (.str b u) false := fun prog w E Q h => by
  obtain ⟨dd, es, n, sl, ho⟩ := hl
  exact rc_eq_decline_or (k := false) ⟨_, ho, rfl⟩ (typeIs_str s b u) (by decide) F.sub_str_dict F.slot_dict_eq F.slot_str_eq_refl
    (fun _ hq => call_meets F.slot_dict_eq ⟨_, ho, rfl⟩ F.entry_dict_eq (F.args_dict_eq_2 _ _) (dict_eq_declines_str l es n dd sl b u) ⟨ho, hq⟩)
    (fun _ hq => call_meets F.slot_str_eq_refl (typeIs_str s b u) F.entry_str_eq (F.args_str_eq_2 _ _) (str_eq_declines_dict b u l (.type "dict") es n dd sl) ⟨ho, hq⟩)
    (fun _ hq => wpAny_of_eq (rfl : isSame (.ref l) (.str b u) = pure false) hq) (.inr hu) h
theorem rc_str_dict {l : Addr} (b : Str) (u : Tok) (hl : IsDic s.heap l) (hu : A.units < cLine) : RcAt A s (.str b u) (.ref l) false := fun prog w E Q h => by
  obtain ⟨dd, es, n, sl, ho⟩ := hl
  exact rc_eq_decline_or (k := false) (typeIs_str s b u) ⟨_, ho, rfl⟩ (by decide) F.sub_dict_str F.slot_str_eq F.slot_dict_eq_refl
    (fun _ hq => call_meets F.slot_str_eq (typeIs_str s b u) F.entry_str_eq (F.args_str_eq_2 _ _) (str_eq_declines_dict b u l (.type "dict") es n dd sl) ⟨ho, hq⟩)
    (fun _ hq => call_meets F.slot_dict_eq_refl ⟨_, ho, rfl⟩ F.entry_dict_eq (F.args_dict_eq_2 _ _) (dict_eq_declines_str l es n dd sl b u) ⟨ho, hq⟩)
    (fun _ hq => wpAny_of_eq (rfl : isSame (.str b u) (.ref l) = pure false) hq) (.inr hu) h
theorem eq_str_dict {l : Addr} (b : Str) (u : Tok) (hl : IsDic s.heap l) (hu : A.units < cLine) : EqAt A s (.str b u) (.ref l) false := fun prog w E Q h => by
  unfold eqBool
  refine wpAny_holding ?_
  refine wpAny_ite_split (fun hab => absurd (eq_of_beq hab) nofun) (fun _ => ?_)
  exact wpAny_bind (rc_str_dict b u hl hu prog w E _ (wpAny_truthy_bool h))
end

section
variable {X : Cx} {pins : List (Addr × Obj)} {σ : L2.St} {H : Hp} {s : Shared}
theorem isDic_of (I : Inv X pins σ H s) {a : Addr} {ps : List (Key × V)} (h : Rd H a (.dK ps)) : IsDic s.heap a := by
  obtain ⟨z, hd, vs, rel, dd⟩ := dk_rd I.hok h
  obtain ⟨⟨c, dd, dat, sl⟩, es, ep, e, ⟨rfl, rfl, rfl⟩, rfl, _⟩ := dd
  exact ⟨_, _, _, _, e⟩
def rDS : R2 := fun x y H Q => ((∃ a ps b, x = .ref a ∧ Rd H a (.dK ps) ∧ y = .str b) ∨ ∃ a ps b, x = .str b ∧ y = .ref a ∧ Rd H a (.dK ps)) ∧ Q (.bl false) H
theorem op_ds (hu : X.A.units + 65 < cLine) : OpR X (compareOp .Eq) rDS := by
  intro pins s σ H x y v u Q I rx ry h
  obtain ⟨h, q⟩ := h
  rcases h with ⟨a, ps, b, rfl, hr, rfl⟩ | ⟨a, ps, b, rfl, rfl, hr⟩
  · cases rx
    obtain ⟨t, rfl⟩ := ry
    exact rc_dict_str b t (isDic_of I hr) (by omega) X.prog X.w _ _ ⟨.bl false, H, I, rfl, q⟩
  · cases ry
    obtain ⟨t, rfl⟩ := rx
    exact rc_str_dict b t (isDic_of I hr) (by omega) X.prog X.w _ _ ⟨.bl false, H, I, rfl, q⟩
theorem vals_strs : ∀ {xs : List V} {its : List Value}, Vals xs its → (∀ x ∈ xs, ∃ b, x = V.str b) → ∀ y ∈ its, ∃ b t, y = Value.str b t
  | _, _, .nil, _, y, hy => absurd hy (by simp)
  | _, _, .cons r t, h, y, hy => by
    rcases List.mem_cons.mp hy with rfl | hy
    · obtain ⟨b, rfl⟩ := h _ List.mem_cons_self
      obtain ⟨t, e⟩ := r
      exact ⟨b, t, e⟩
    · exact vals_strs t (fun z hz => h z (List.mem_cons_of_mem _ hz)) y hy
def rDT (K : PySem.W.Frag) (b : Bool) : R2 := fun x y H Q => ∃ a ps t xs, x = .ref a ∧ Rd H a (.dK ps) ∧ y = .ref t ∧ SqT K H t xs ∧ (∀ x ∈ xs, ∃ b, x = V.str b) ∧ Q (.bl b) H
theorem op_inDT (hu : X.A.units + 65 < cLine) : OpR X (compareOp .In) (rDT X.K false) := by
  intro pins s σ H x y v u Q I rx ry h
  obtain ⟨a, ps, t, xs, rfl, hr, rfl, ht, hs, q⟩ := h
  cases rx
  cases ry
  obtain ⟨its, rv, pl, _⟩ := I.tuple ht
  have ha : X.A.in1.units < cLine := Nat.lt_of_le_of_lt (show X.A.in1.units ≤ X.A.units + 1 from Nat.le_refl _) (by omega)
  refine in_tupleAt (e := fun _ => false) pl (fun z hz => ?_) ⟨.bl false, H, I, ?_, q⟩
  · obtain ⟨b, k, rfl⟩ := vals_strs rv hs z (by simpa using hz)
    exact eq_str_dict b k (isDic_of I hr) ha
  · show Value.bool _ = _
    congr 1
    rw [← Array.any_toList]
    induction its with
    | nil => rfl
    | cons c r ih => simp
end
theorem dict_ne_declines_str (l : Addr) (es : Array DictEntry) (n : Nat) (dd : Option Addr) (sl : Array (Option Value)) (b : Str) (u : Tok) :
    Meets (Builtin.«dict.__ne__» ⟨[.ref l, .str b u], []⟩) (fun _ R s => s.heap.get? l = some { cls := .type "dict", dict := dd, data := .dict es n, slots := sl } ∧ R (.ok (.ret .notImplemented)) s) :=
  .of_wp fun prog w A R s h => by obtain ⟨hp, g, d, tk, os⟩ := s; obtain ⟨hl, h⟩ := h; have f1 := F.sub_str_dict; wp_walk using wpAny_loadPart' hl; exact ⟨_, rfl, h⟩
theorem str_ne_declines_dict (b : Str) (u : Tok) (l : Addr) (c : Value) (es : Array DictEntry) (n : Nat) (dd : Option Addr) (sl : Array (Option Value)) :
    Meets (Builtin.«str.__ne__» ⟨[.str b u, .ref l], []⟩) (fun _ R s => s.heap.get? l = some { cls := c, dict := dd, data := .dict es n, slots := sl } ∧ R (.ok (.ret .notImplemented)) s) :=
  .of_wp fun prog w A R s h => by obtain ⟨hp, g, d, tk, os⟩ := s; obtain ⟨hl, h⟩ := h; wp_walk using wpAny_loadPart' hl, wpAny_load hl; exact ⟨_, rfl, h⟩
section
variable {A : Around} {s : Shared}
theorem rcn_dict_str {l : Addr} (b : Str) (u : Tok) (hl : IsDic s.heap l) (hu : A.units < cLine) : RcNeAt A s (.ref l) (.str b u) true := fun prog w E Q h => by
  obtain ⟨dd, es, n, sl, ho⟩ := hl
  exact rc_ne_decline_or (k := false) ⟨_, ho, rfl⟩ (typeIs_str s b u) (by decide) F.sub_str_dict F.slot_dict_ne F.slot_str_ne_refl
    (fun _ hq => call_meets F.slot_dict_ne ⟨_, ho, rfl⟩ F.entry_dict_ne (F.args_dict_ne_2 _ _) (dict_ne_declines_str l es n dd sl b u) ⟨ho, hq⟩)
    (fun _ hq => call_meets F.slot_str_ne_refl (typeIs_str s b u) F.entry_str_ne (F.args_str_ne_2 _ _) (str_ne_declines_dict b u l (.type "dict") es n dd sl) ⟨ho, hq⟩)
    (fun _ hq => wpAny_of_eq (rfl : isSame (.ref l) (.str b u) = pure false) hq) (.inr hu) h
theorem rcn_str_dict {l : Addr} (b : Str) (u : Tok) (hl : IsDic s.heap l) (hu : A.units < cLine) : RcNeAt A s (.str b u) (.ref l) true := fun prog w E Q h => by
  obtain ⟨dd, es, n, sl, ho⟩ := hl
  exact rc_ne_decline_or (k := false) (typeIs_str s b u) ⟨_, ho, rfl⟩ (by decide) F.sub_dict_str F.slot_str_ne F.slot_dict_ne_refl
    (fun _ hq => call_meets F.slot_str_ne (typeIs_str s b u) F.entry_str_ne (F.args_str_ne_2 _ _) (str_ne_declines_dict b u l (.type "dict") es n dd sl) ⟨ho, hq⟩)
    (fun _ hq => call_meets F.slot_dict_ne_refl ⟨_, ho, rfl⟩ F.entry_dict_ne (F.args_dict_ne_2 _ _) (dict_ne_declines_str l es n dd sl b u) ⟨ho, hq⟩)
    (fun _ hq => wpAny_of_eq (rfl : isSame (.str b u) (.ref l) = pure false) hq) (.inr hu) h
end
section
variable {X : Cx}
def rDSn : R2 := fun x y H Q => ((∃ a ps b, x = .ref a ∧ Rd H a (.dK ps) ∧ y = .str b) ∨ ∃ a ps b, x = .str b ∧ y = .ref a ∧ Rd H a (.dK ps)) ∧ Q (.bl true) H
theorem op_dsn (hu : X.A.units + 65 < cLine) : OpR X (compareOp .NotEq) rDSn := by
  intro pins s σ H x y v u Q I rx ry h
  obtain ⟨h, q⟩ := h
  rcases h with ⟨a, ps, b, rfl, hr, rfl⟩ | ⟨a, ps, b, rfl, rfl, hr⟩
  · cases rx
    obtain ⟨t, rfl⟩ := ry
    exact rcn_dict_str b t (isDic_of I hr) (by omega) X.prog X.w _ _ ⟨.bl true, H, I, rfl, q⟩
  · cases ry
    obtain ⟨t, rfl⟩ := rx
    exact rcn_str_dict b t (isDic_of I hr) (by omega) X.prog X.w _ _ ⟨.bl true, H, I, rfl, q⟩
end
end Nw

set_option autoImplicit false
set_option maxRecDepth 100000
set_option maxHeartbeats 1000000
/-! Nw, part H: comparisons, truth, tests. -/
namespace Nw
open PySem PySem.Spec PyProof.Rows L2

section
variable {K : PySem.W.Frag} {H : Hp}
mutual
theorem Rep.dp : ∀ {d : D} {v : V}, Rep K H d v → d.hasDict = false → Dp K H v d
  | .none, _, h, _ => by simp only [Rep] at h; subst h; exact .non
  | .bool b, _, h, _ => by simp only [Rep] at h; subst h; exact .bl b
  | .int i, _, h, _ => by simp only [Rep] at h; subst h; exact .int i
  | .str s, _, h, _ => by simp only [Rep] at h; subst h; exact .str s
  | .list ds, _, h, c => by
    simp only [Rep] at h
    obtain ⟨a, xs, rfl, f, r⟩ := h
    exact .lst f.sq (Reps.dp r (by simpa only [PyData.hasDict] using c))
  | .tuple ds, _, h, c => by
    simp only [Rep] at h
    obtain ⟨a, xs, rfl, f, r⟩ := h
    exact .tup f (Reps.dp r (by simpa only [PyData.hasDict] using c))
  | .dict _, _, _, c => by simp only [PyData.hasDict, Bool.true_eq_false] at c
theorem Reps.dp : ∀ {ds : List D} {xs : List V}, Reps K H ds xs → PyData.hasDictAll ds = false → DpAll K H xs ds
  | [], _, h, _ => by simp only [Reps] at h; subst h; exact .nil
  | d :: ds, _, h, c => by
    simp only [Reps] at h
    obtain ⟨v, vs, rfl, r, rs⟩ := h
    have c2 : d.hasDict = false ∧ PyData.hasDictAll ds = false := by simpa only [PyData.hasDictAll, Bool.or_eq_false_iff] using c
    exact .cons (Rep.dp r c2.1) (Reps.dp rs c2.2)
end
theorem PRep.dp' {d : D} {v : V} (h : PRep K H d v) (c : d.hasDict = false) : Dp K H v d := by
  cases d with
  | list ds =>
    obtain ⟨a, xs, rfl, f, r⟩ := h
    exact .lst f (Reps.dp r (by simpa only [PyData.hasDict] using c))
  | dict _ => simp only [PyData.hasDict, Bool.true_eq_false] at c
  | _ => exact Rep.dp h c
theorem PRep.dp {d : D} {v : V} (h : PRep K H d v) (c : d.canLay0 = true) : Dp K H v d := h.dp' (PyData.hasDict_of_canLay d c)
end

section
variable {X : Cx} {W : WX} {CV : Str → Value} {φ : List Addr} {σ : L2.St} {H : Hp} {fr : Fr} {Q : VK}
def rInT (K : PySem.W.Frag) : R2 := fun x y H Q => ∃ d ds, Dp K H x d ∧ Dp K H y (.tuple ds) ∧ SeqAt.shaped d = true ∧ SeqAt.shaped (.tuple ds) = true ∧ Q (.bl (ds.any fun z => PyData.eqv z d)) H
def rNinT (K : PySem.W.Frag) : R2 := fun x y H Q => ∃ d ds, Dp K H x d ∧ Dp K H y (.tuple ds) ∧ SeqAt.shaped d = true ∧ SeqAt.shaped (.tuple ds) = true ∧ Q (.bl (!ds.any fun z => PyData.eqv z d)) H
theorem roomT {d : D} {ds : List D} (h : SeqAt.shaped d = true) (hu : X.A.units + 65 < cLine) : X.A.units + 1 + min (PyData.depthAll ds) d.depth < cLine := by
  have h1 := SeqAt.depth_of_shaped h
  have h2 : min (PyData.depthAll ds) d.depth ≤ d.depth := Nat.min_le_right _ _
  omega
theorem op_inT (hu : X.A.units + 65 < cLine) : OpR X (compareOp .In) (rInT X.K) := by
  intro pins s σ H x y v u Q I rx ry h
  obtain ⟨d, ds, hd, he, sd, se, q⟩ := h
  obtain ⟨as, r1⟩ := Dp.reads I d x v hd rx
  obtain ⟨bs, r2⟩ := Dp.reads I (.tuple ds) y u he ry
  have c2 : PyData.canLayAll0 ds = true := by simpa only [PyData.canLay0] using SeqAt.canLay_of_shaped se
  exact SeqAt.in_tuple_reads r2 r1 c2 (SeqAt.canLay_of_shaped sd) (roomT sd hu) ⟨.bl _, H, I, rfl, q⟩
theorem op_ninT (hu : X.A.units + 65 < cLine) : OpR X (compareOp .NotIn) (rNinT X.K) := by
  intro pins s σ H x y v u Q I rx ry h
  obtain ⟨d, ds, hd, he, sd, se, q⟩ := h
  obtain ⟨as, r1⟩ := Dp.reads I d x v hd rx
  obtain ⟨bs, r2⟩ := Dp.reads I (.tuple ds) y u he ry
  have c2 : PyData.canLayAll0 ds = true := by simpa only [PyData.canLay0] using SeqAt.canLay_of_shaped se
  exact SeqAt.notIn_tuple_reads r2 r1 c2 (SeqAt.canLay_of_shaped sd) (roomT sd hu) ⟨.bl _, H, I, rfl, q⟩
def rInK : R2 := fun x y H Q => ∃ a o, y = .ref a ∧ DGet H a x o ∧ Q (.bl o.isSome) H
def rNinK : R2 := fun x y H Q => ∃ a o, y = .ref a ∧ DGet H a x o ∧ Q (.bl (!o.isSome)) H
theorem op_inK (hu : X.A.units + 65 < cLine) : OpR X (compareOp .In) rInK := by
  intro pins s σ H x y v u Q I rx ry h
  obtain ⟨a, o, rfl, g, q⟩ := h
  obtain rfl : u = Value.ref a := ry
  exact d_in (by omega) I g rx fun s' I' => ⟨.bl o.isSome, H, I', rfl, q⟩
theorem op_ninK (hu : X.A.units + 65 < cLine) : OpR X (compareOp .NotIn) rNinK := by
  intro pins s σ H x y v u Q I rx ry h
  obtain ⟨a, o, rfl, g, q⟩ := h
  obtain rfl : u = Value.ref a := ry
  exact d_notIn (by omega) I g rx fun s' I' => ⟨.bl (!o.isSome), H, I', rfl, q⟩
def copOp : COp → CmpOp
  | .eq => .Eq
  | .ne => .NotEq
  | .lt => .Lt
  | .le => .LtE
  | .gt => .Gt
  | .ge => .GtE
  | .mem => .In
  | .nmem => .NotIn
  | .isN => .Is
  | .notN => .IsNot
def rcOf (K : PySem.W.Frag) : COp → R2
  | .eq => fun x y H Q => ((rEqD K x y H Q ∨ rEq x y H Q) ∨ rUnl K false x y H Q) ∨ rDS x y H Q
  | .ne => fun x y H Q => ((rNeD K x y H Q ∨ rNe x y H Q) ∨ rUnl K true x y H Q) ∨ rDSn x y H Q
  | .lt => fun x y H Q => (rI0 fun i j => .bl (decide (i < j))) x y H Q ∨ ∃ i j, x = .str i ∧ y = .str j ∧ Q (.bl (decide (i.cps.toList < j.cps.toList))) H
  | .le => rI0 fun i j => .bl (decide (i ≤ j))
  | .gt => rI0 fun i j => .bl (decide (j < i))
  | .ge => rI0 fun i j => .bl (decide (j ≤ i))
  | .mem => fun x y H Q => ((((∃ i j, x = .str i ∧ y = .str j ∧ Q (.bl (!(Builtin.Str.occurrences j i 0 j.length 1).isEmpty)) H) ∨ rInD K x y H Q) ∨ rInT K x y H Q) ∨ rInK x y H Q) ∨ rDT K false x y H Q
  | .nmem => fun x y H Q => (((∃ i j, x = .str i ∧ y = .str j ∧ Q (.bl (!(!(Builtin.Str.occurrences j i 0 j.length 1).isEmpty))) H) ∨ rNotInD K x y H Q) ∨ rNinT K x y H Q) ∨ rNinK x y H Q
  | .isN => fun x y H Q => y = .non ∧ Q (.bl (decide (x = .non))) H
  | .notN => fun x y H Q => y = .non ∧ Q (.bl (!decide (x = .non))) H
theorem cop_of (hu : X.A.units + 65 < cLine) : ∀ o : COp, OpR X (compareOp (copOp o)) (rcOf X.K o)
  | .eq => OpR.or (OpR.or (OpR.or (op_eqD (by omega)) op_eq) (op_unlE hu)) (op_ds hu)
  | .ne => OpR.or (OpR.or (OpR.or (op_neD (by omega)) op_ne) (op_unlN hu)) (op_dsn hu)
  | .lt => OpR.or op_lt op_lt_str
  | .le => op_le
  | .gt => op_gt
  | .ge => op_ge
  | .mem => OpR.or (OpR.or (OpR.or (OpR.or op_in_str (op_inD hu)) (op_inT hu)) (op_inK hu)) (op_inDT hu)
  | .nmem => OpR.or (OpR.or (OpR.or op_notin_str (op_notInD hu)) (op_ninT hu)) (op_ninK hu)
  | .isN => op_isN
  | .notN => op_notN
theorem pr_non {K : PySem.W.Frag} {d : D} {v : V} (h : PRep K H d v) : decide (v = .non) = isNoneD d := by
  cases d with
  | none => rw [pr_none h]; rfl
  | bool _ => rw [pr_bool h]; rfl
  | int _ => rw [pr_int h]; rfl
  | str _ => rw [pr_str h]; rfl
  | list _ =>
    obtain ⟨a, _, rfl, _⟩ := pr_list h
    rfl
  | tuple _ =>
    obtain ⟨a, _, rfl, _⟩ := pr_tuple h
    rfl
  | dict _ =>
    obtain ⟨a, _, rfl, _⟩ := h
    rfl
theorem and_ok {a b : Bool} (h : (a && b) = true) : a = true ∧ b = true := Bool.and_eq_true_iff.mp h
theorem twoStr_ok {a b : D} (h : twoStr a b = true) : ∃ x y, a = .str x ∧ b = .str y := by
  cases a <;> cases b <;> first | (simp [twoStr] at h; done) | exact ⟨_, _, rfl, rfl⟩
/-- the answer of a comparison, whatever is wanted of it -/
theorem lenNe_ok {a b : Nw.D} (h : lenNe a b = true) : (∃ xs ys, a = .list xs ∧ b = .list ys ∧ xs.length ≠ ys.length) ∨ (∃ kvs s, a = .dict kvs ∧ b = .str s) ∨ ∃ kvs s, a = .str s ∧ b = .dict kvs := by
  unfold lenNe at h
  split at h
  · exact .inl ⟨_, _, rfl, rfl, by simpa using h⟩
  · exact .inr (.inl ⟨_, _, rfl, rfl⟩)
  · exact .inr (.inr ⟨_, _, rfl, rfl⟩)
  · cases h
theorem reps_strD {K : PySem.W.Frag} {H : Hp} : ∀ {ds : List Nw.D} {xs : List V}, Reps K H ds xs → ds.all isStrD = true → ∀ x ∈ xs, ∃ b, x = V.str b
  | [], _, h, _, x, hx => by
    simp only [Reps] at h
    subst h
    cases hx
  | d :: ds, _, h, g, x, hx => by
    simp only [Reps] at h
    obtain ⟨v, vs, rfl, r, rs⟩ := h
    rw [List.all_cons, Bool.and_eq_true] at g
    rcases List.mem_cons.mp hx with rfl | hx
    · cases d <;> simp only [isStrD, Bool.false_eq_true, false_and] at g
      simp only [Rep] at r
      exact ⟨_, r⟩
    · exact reps_strD rs g.2 x hx
theorem memD_dict {kvs : List (Nw.D × Nw.D)} : ∀ {ys : List Nw.D}, ys.all isStrD = true → memD (.dict kvs) ys = false
  | [], _ => rfl
  | y :: ys, g => by
    rw [List.all_cons, Bool.and_eq_true] at g
    have e := memD_dict (kvs := kvs) g.2
    unfold memD at e ⊢
    rw [List.any_cons, e]
    cases y <;> simp only [isStrD, Bool.false_eq_true, false_and] at g
    simp only [PyData.eqv, Bool.or_false]
theorem keyc_of (o : COp) (d d' : D) (b : Bool) (x y : V) (Q : VK) (p : PRep X.K H d x) (p' : PRep X.K H d' y) (e : opC o d d' = some b) (P : Q (.bl b) H) : rcOf X.K o x y H Q := by
  cases o with
  | eq =>
    simp only [opC] at e
    split at e
    · rename_i hn
      cases e
      rcases lenNe_ok hn with ⟨a, c, rfl, rfl, hne⟩ | ⟨kvs, s, rfl, rfl⟩ | ⟨kvs, s, rfl, rfl⟩
      · obtain ⟨l, xs, rfl, h1, r1⟩ := pr_list p
        obtain ⟨m, ys, rfl, h2, r2⟩ := pr_list p'
        exact .inl (.inr ⟨l, m, xs, ys, rfl, rfl, h1, h2, by rw [← r1.len, ← r2.len]; exact hne, P⟩)
      · obtain ⟨a, ps, rfl, hr, rk⟩ := p
        rw [pr_str p']
        exact .inr ⟨.inl ⟨a, ps, s, rfl, hr, rfl⟩, P⟩
      · obtain ⟨a, ps, rfl, hr, rk⟩ := p'
        rw [pr_str p]
        exact .inr ⟨.inr ⟨a, ps, s, rfl, rfl, hr⟩, P⟩
    obtain ⟨g, rfl⟩ := guard_ok e
    refine .inl (.inl ?_)
    rcases Bool.or_eq_true_iff.mp g with g | g
    · obtain ⟨g1, g2⟩ := and_ok g
      exact .inl ⟨d, d', p.dp (SeqAt.canLay_of_shaped g1), p'.dp (SeqAt.canLay_of_shaped g2), g1, g2, P⟩
    · obtain ⟨a, c, rfl, rfl⟩ := twoStr_ok g
      rw [pr_str p, pr_str p']
      refine .inr ⟨rfl, ?_⟩
      rw [dec_str, ← show PyData.eqv (.str a) (.str c) = (a == c) by simp only [PyData.eqv]]
      exact P
  | ne =>
    simp only [opC] at e
    split at e
    · rename_i hn
      cases e
      rcases lenNe_ok hn with ⟨a, c, rfl, rfl, hne⟩ | ⟨kvs, s, rfl, rfl⟩ | ⟨kvs, s, rfl, rfl⟩
      · obtain ⟨l, xs, rfl, h1, r1⟩ := pr_list p
        obtain ⟨m, ys, rfl, h2, r2⟩ := pr_list p'
        exact .inl (.inr ⟨l, m, xs, ys, rfl, rfl, h1, h2, by rw [← r1.len, ← r2.len]; exact hne, P⟩)
      · obtain ⟨a, ps, rfl, hr, rk⟩ := p
        rw [pr_str p']
        exact .inr ⟨.inl ⟨a, ps, s, rfl, hr, rfl⟩, P⟩
      · obtain ⟨a, ps, rfl, hr, rk⟩ := p'
        rw [pr_str p]
        exact .inr ⟨.inr ⟨a, ps, s, rfl, rfl, hr⟩, P⟩
    obtain ⟨g, rfl⟩ := guard_ok e
    refine .inl (.inl ?_)
    rcases Bool.or_eq_true_iff.mp g with g | g
    · obtain ⟨g1, g2⟩ := and_ok g
      exact .inl ⟨d, d', p.dp (SeqAt.canLay_of_shaped g1), p'.dp (SeqAt.canLay_of_shaped g2), g1, g2, P⟩
    · obtain ⟨a, c, rfl, rfl⟩ := twoStr_ok g
      rw [pr_str p, pr_str p']
      refine .inr ⟨rfl, ?_⟩
      rw [dec_str, ← show PyData.eqv (.str a) (.str c) = (a == c) by simp only [PyData.eqv]]
      exact P
  | lt =>
    cases d <;> cases d' <;> simp only [opC, reduceCtorEq] at e
    · cases e
      rw [pr_int p, pr_int p']
      exact .inl ⟨_, _, rfl, rfl, P⟩
    · cases e
      rw [pr_str p, pr_str p']
      exact .inr ⟨_, _, rfl, rfl, P⟩
  | le =>
    cases d <;> cases d' <;> simp only [opC, reduceCtorEq] at e
    cases e
    rw [pr_int p, pr_int p']
    exact ⟨_, _, rfl, rfl, P⟩
  | gt =>
    cases d <;> cases d' <;> simp only [opC, reduceCtorEq] at e
    cases e
    rw [pr_int p, pr_int p']
    exact ⟨_, _, rfl, rfl, P⟩
  | ge =>
    cases d <;> cases d' <;> simp only [opC, reduceCtorEq] at e
    cases e
    rw [pr_int p, pr_int p']
    exact ⟨_, _, rfl, rfl, P⟩
  | mem =>
    cases d' with
    | str s =>
      cases d <;> simp only [opC, reduceCtorEq] at e
      cases e
      rw [pr_str p, pr_str p']
      exact .inl (.inl (.inl (.inl ⟨_, _, rfl, rfl, P⟩)))
    | list ys =>
      simp only [opC] at e
      obtain ⟨g, rfl⟩ := guard_ok e
      obtain ⟨g1, g2⟩ := and_ok g
      exact .inl (.inl (.inl (.inr ⟨d, ys, p.dp (SeqAt.canLay_of_shaped g1), p'.dp (SeqAt.canLay_of_shaped g2), g1, g2, P⟩)))
    | tuple ys =>
      simp only [opC] at e
      obtain ⟨g, rfl⟩ := guard_ok e
      rcases Bool.or_eq_true_iff.mp g with g | g
      · cases d <;> simp only [dicStr1, Bool.false_eq_true] at g
        rw [memD_dict g] at P
        obtain ⟨a, ps, rfl, hr, rk⟩ := p
        obtain ⟨t, xs, rfl, ht, rt⟩ := pr_tuple p'
        exact .inr ⟨a, ps, t, xs, rfl, hr, rfl, ht, reps_strD rt g, P⟩
      obtain ⟨g1, g2⟩ := and_ok g
      exact .inl (.inl (.inr ⟨d, ys, p.dp (SeqAt.canLay_of_shaped g1), p'.dp (SeqAt.canLay_of_shaped g2), g1, g2, P⟩))
    | dict kvs =>
      cases d <;> simp only [opC, reduceCtorEq] at e
      cases e
      rw [pr_str p]
      obtain ⟨a, ps, rfl, hr, rk⟩ := p'
      rcases RepKV.find (k := .str _) (z := .inr _) rfl rk with ⟨e1, e2⟩ | ⟨d, v, e1, e2, _⟩
      · rw [e1] at P
        exact .inl (.inr ⟨a, none, rfl, .inl ⟨ps, .inr _, hr, rfl, e2.symm⟩, P⟩)
      · rw [e1] at P
        exact .inl (.inr ⟨a, some v, rfl, .inl ⟨ps, .inr _, hr, rfl, e2.symm⟩, P⟩)
    | _ => cases d <;> simp only [opC, reduceCtorEq] at e
  | nmem =>
    cases d' with
    | str s =>
      cases d <;> simp only [opC, reduceCtorEq] at e
      cases e
      rw [pr_str p, pr_str p']
      exact .inl (.inl (.inl ⟨_, _, rfl, rfl, P⟩))
    | list ys =>
      simp only [opC] at e
      obtain ⟨g, rfl⟩ := guard_ok e
      obtain ⟨g1, g2⟩ := and_ok g
      exact .inl (.inl (.inr ⟨d, ys, p.dp (SeqAt.canLay_of_shaped g1), p'.dp (SeqAt.canLay_of_shaped g2), g1, g2, P⟩))
    | tuple ys =>
      simp only [opC] at e
      obtain ⟨g, rfl⟩ := guard_ok e
      obtain ⟨g1, g2⟩ := and_ok g
      exact .inl (.inr ⟨d, ys, p.dp (SeqAt.canLay_of_shaped g1), p'.dp (SeqAt.canLay_of_shaped g2), g1, g2, P⟩)
    | dict kvs =>
      cases d <;> simp only [opC, reduceCtorEq] at e
      cases e
      rw [pr_str p]
      obtain ⟨a, ps, rfl, hr, rk⟩ := p'
      rcases RepKV.find (k := .str _) (z := .inr _) rfl rk with ⟨e1, e2⟩ | ⟨d, v, e1, e2, _⟩
      · rw [e1] at P
        exact .inr ⟨a, none, rfl, .inl ⟨ps, .inr _, hr, rfl, e2.symm⟩, P⟩
      · rw [e1] at P
        exact .inr ⟨a, some v, rfl, .inl ⟨ps, .inr _, hr, rfl, e2.symm⟩, P⟩
    | _ => cases d <;> simp only [opC, reduceCtorEq] at e
  | isN =>
    cases d' <;> simp only [opC, reduceCtorEq] at e
    refine ⟨pr_none p', ?_⟩
    rw [pr_non p]
    cases e
    exact P
  | notN =>
    cases d' <;> simp only [opC, reduceCtorEq] at e
    refine ⟨pr_none p', ?_⟩
    rw [pr_non p]
    cases d <;> (cases e; exact P)

/-- readings of a comparison, whatever the answer is for -/
theorem cmp_two {ma mb : M Hd} {β : Type} {R : Rl V β} (bk : Back R) {o : COp} {f : Bool → M β} (key : ∀ (φ : List Addr) (H : Hp) (fr : Fr) (b : Bool) (Q : VK) (σ : L2.St), FR X.K φ σ H fr → Post X.K W CV R φ σ H fr (f b fr) Q → Q (.bl b) H) (σ : L2.St) (H : Hp) (Q : VK)
    (h : rd X.K W CV R (cmpM o ma mb >>= f) σ H Q) : tOp (rcOf X.K o) (rd X.K W CV (RHd X.K) ma) (rd X.K W CV (RHd X.K) mb) σ H Q := by
  obtain ⟨φ, fr, F, P⟩ := h
  have P0 : Post X.K W CV R φ σ H fr ((ma fr).andThen fun x => (do
      let y ← mb
      let d ← viewH x
      let d' ← viewH y
      let t ← liftO (opC o d d')
      f t)) Q := by
    have e : (cmpM o ma mb >>= f) = (do
      let x ← ma
      let y ← mb
      let d ← viewH x
      let d' ← viewH y
      let t ← liftO (opC o d d')
      f t) := by simp only [cmpM, bind_assoc]
    rw [e] at P
    exact P
  refine ⟨φ, fr, F, Post.bind bk P0 fun hx fr1 v H1 φ1 _ x1 F1 q1 P1 => ?_⟩
  refine ⟨φ1, fr1, F1, Post.bind bk P1 fun hy fr2 u H2 φ2 _ x2 F2 q2 P2 => ?_⟩
  obtain ⟨d, p1, P3⟩ := Post.view F2 (q1.later (Hy := H2) x2) P2
  obtain ⟨d', p2, P4⟩ := Post.view F2 q2 P3
  have P5 : Post X.K W CV R φ2 σ H2 fr2 ((liftO (opC o d d') fr2).andThen f) Q := P4
  cases e : opC o d d' with
  | none =>
    rw [e] at P5
    exact P5.elim
  | some b =>
    rw [e] at P5
    exact keyc_of o d d' b v u Q p1 p2 e (key φ2 H2 fr2 b Q σ F2 P5)
theorem cmp_ok {a b : Expr} {pos : Pos} {ma mb : M Hd} (hu : X.A.units + 65 < cLine) (o : COp) (ha : PEh X W CV a ma) (hb : PEh X W CV b mb) (hm : behindInMarks (copOp o) b = false) : PEn X W CV (.Compare a [copOp o] [b] pos) (cmpM o ma mb >>= fun t => pure (vD (.bool t))) :=
  PE.imp (pe_cmpR (cop_of hu o) ha hb hm) fun σ H Q h => cmp_two back_RRV (fun φ H fr b Q σ F P => post_val F P rep_bool) σ H Q h
end
end Nw

set_option autoImplicit false
set_option maxRecDepth 100000
set_option maxHeartbeats 1000000
/-! Nw, part I: truth, tests, displays, items, slices. -/
namespace Nw
open PySem PySem.Spec PyProof.Rows L2

section
variable {X : Cx} {W : WX} {CV : Str → Value} {φ : List Addr} {σ : L2.St} {H : Hp} {fr : Fr} {Q : VK}
abbrev PTt (X : Cx) (W : WX) (CV : Str → Value) (e : Expr) (m : M Bool) : Prop := PT X e (rd X.K W CV RBool m)
theorem isE_len {α β : Type} {xs : List α} {ys : List β} (h : xs.length = ys.length) : xs.isEmpty = ys.isEmpty := by
  cases xs <;> cases ys <;> first | rfl | (simp at h)
theorem truV_of {K : PySem.W.Frag} {d : D} {v : V} {b : Bool} (p : PRep K H d v) (e : truD d = some b) : TruV K v H b := by
  cases d with
  | none =>
    rw [pr_none p]
    cases e
    rfl
  | bool _ =>
    rw [pr_bool p]
    cases e
    rfl
  | int _ =>
    rw [pr_int p]
    cases e
    rfl
  | str s =>
    rw [pr_str p]
    obtain ⟨g, rfl⟩ := guard_ok e
    refine ⟨fits_ok g, ?_⟩
    cases s.length <;> rfl
  | list xs =>
    obtain ⟨a, ys, rfl, h, r⟩ := pr_list p
    cases e
    exact .inl ⟨ys, h, by rw [isE_len r.len]⟩
  | tuple xs =>
    obtain ⟨a, ys, rfl, h, r⟩ := pr_tuple p
    cases e
    exact .inr (.inl ⟨ys, h, by rw [isE_len r.len]⟩)
  | dict _ => cases e
/-- a truth, then what follows -/
theorem Post.tru {ρ β : Type} {K : PySem.W.Frag} {R : Rl ρ β} {Hx : Hp} {x : Hd} {v : V} {f : Bool → M β} {Q : ρ → Hp → Prop} (F : FR K φ σ H fr) (r : RHd K Hx φ σ fr H v x)
    (h : Post K W CV R φ σ H fr ((truH x >>= f) fr) Q) : ∃ b, TruV K v H b ∧ Post K W CV R φ σ H fr (f b fr) Q := by
  have e : (truH x >>= f) = (viewH x >>= fun d => liftO (truD d) >>= f) := by simp only [truH, bind_assoc]
  rw [e] at h
  obtain ⟨d, p, h⟩ := Post.view F r h
  rw [bind_eq] at h
  cases q : truD d with
  | none =>
    rw [q] at h
    exact h.elim
  | some b =>
    rw [q] at h
    exact ⟨b, truV_of p q, h⟩
/-- a value as a test -/
theorem test_ok {e : Expr} {mh : M Hd} (h : PEh X W CV e mh) (he : ∀ whole, isTrue e X.env whole = (do let v ← whole; standAt e.pos; holding [v] (truthy v))) : PTt X W CV e (mh >>= truH) := by
  refine PT.imp (pt_truth h he) fun σ H Q ⟨φ, fr, F, P⟩ => ⟨φ, fr, F, ?_⟩
  refine Post.bind (R' := RBool) back_RBool (f := truH) P fun x fr1 v H1 φ1 _ x1 F1 q P1 => ?_
  have P2 : Post X.K W CV RBool φ1 σ H1 fr1 ((truH x >>= fun b => pure b) fr1) Q := by simpa only [bind_pure] using P1
  obtain ⟨b, t, P3⟩ := Post.tru F1 q P2
  exact ⟨b, t, P3 b H1 φ1 (Ext.refl _ _ _) F1 rfl⟩
theorem cmpT_ok {a b : Expr} {pos : Pos} {ma mb : M Hd} (hu : X.A.units + 65 < cLine) (o : COp) (ha : PEh X W CV a ma) (hb : PEh X W CV b mb) (hm : behindInMarks (copOp o) b = false) : PTt X W CV (.Compare a [copOp o] [b] pos) (cmpM o ma mb) := by
  refine PT.imp (pt_cmpR (cop_of hu o) ha hb hm) fun σ H Q h => ?_
  obtain ⟨φ, fr, F, P⟩ := h
  refine ⟨φ, fr, F, Post.bind (R' := RBool) back_RBool (f := fun x => mb >>= fun y => viewH x >>= fun d => viewH y >>= fun d' => liftO (opC o d d')) P fun hx fr1 v H1 φ1 _ x1 F1 q1 P1 => ?_⟩
  refine ⟨φ1, fr1, F1, Post.bind back_RBool P1 fun hy fr2 u H2 φ2 _ x2 F2 q2 P2 => ?_⟩
  obtain ⟨d, p1, P3⟩ := Post.view F2 (q1.later (Hy := H2) x2) P2
  obtain ⟨d', p2, P4⟩ := Post.view F2 q2 P3
  obtain ⟨b, e, P5⟩ := Post.lift P4
  exact keyc_of o d d' b v u _ p1 p2 e ⟨b, rfl, P5 b H2 φ2 (Ext.refl _ _ _) F2 rfl⟩
theorem notT_ok {a : Expr} {pos : Pos} {ma : M Bool} (ha : PTt X W CV a ma) : PTt X W CV (.UnaryOp .Not a pos) (ma >>= fun t => pure !t) := by
  refine PT.imp (pt_not ha) fun σ H Q ⟨φ, fr, F, P⟩ => ⟨φ, fr, F, ?_⟩
  exact Post.bind (R' := RBool) back_RBool (f := fun t => pure !t) P fun b fr1 v H1 φ1 _ x1 F1 q P1 => by
    cases (show v = b from q)
    exact P1 (!b) H1 φ1 (Ext.refl _ _ _) F1 rfl
abbrev PWt (X : Cx) (W : WX) (CV : Str → Value) (e : Expr) (m : M Bool) : Prop := PW X e (rd X.K W CV RBool m)
theorem PW.imp {e : Expr} {t t' : TT} (h : PW X e t) (i : ∀ σ H Q, t' σ H Q → t σ H Q) : PW X e t' := ⟨fun wh pins s σ H Q I hq => h.run wh pins s σ H Q I (i σ H Q hq)⟩
theorem andT_ok {a b : Expr} {rest : List Expr} {pos : Pos} {ma mb : M Bool} (ha : PTt X W CV a ma) (hb : PWt X W CV (.BoolOp .And (b :: rest) pos) mb) : PWt X W CV (.BoolOp .And (a :: b :: rest) pos) (ma >>= fun t => if t then mb else pure false) := by
  refine PW.imp (pw_and ha hb) fun σ H Q ⟨φ, fr, F, P⟩ => ⟨φ, fr, F, ?_⟩
  refine Post.bind (R' := RBool) back_RBool (f := fun t => if t then mb else pure false) P fun b fr1 v H1 φ1 _ x1 F1 q P1 => ?_
  cases (show v = b from q)
  cases b with
  | true => exact iteT ⟨φ1, fr1, F1, P1⟩
  | false => exact iteF (P1 false H1 φ1 (Ext.refl _ _ _) F1 rfl)
theorem orT_ok {a b : Expr} {rest : List Expr} {pos : Pos} {ma mb : M Bool} (ha : PTt X W CV a ma) (hb : PWt X W CV (.BoolOp .Or (b :: rest) pos) mb) : PWt X W CV (.BoolOp .Or (a :: b :: rest) pos) (ma >>= fun t => if t then pure true else mb) := by
  refine PW.imp (pw_or ha hb) fun σ H Q ⟨φ, fr, F, P⟩ => ⟨φ, fr, F, ?_⟩
  refine Post.bind (R' := RBool) back_RBool (f := fun t => if t then pure true else mb) P fun b fr1 v H1 φ1 _ x1 F1 q P1 => ?_
  cases (show v = b from q)
  cases b with
  | true => exact iteT (P1 true H1 φ1 (Ext.refl _ _ _) F1 rfl)
  | false => exact iteF ⟨φ1, fr1, F1, P1⟩
/-- .. as values -/
theorem andV_ok {a b : Expr} {rest : List Expr} {pos : Pos} {ma : M Dv} {mb : M RV} (ha : PEv X W CV a ma) (hb : PEn X W CV (.BoolOp .And (b :: rest) pos) mb) : PEn X W CV (.BoolOp .And (a :: b :: rest) pos) (ma >>= fun x => truH (.dv x) >>= fun t => if t then mb else pure (.val x)) := by
  refine PE.imp (pe_andT ha hb) fun σ H Q ⟨φ, fr, F, P⟩ => ⟨φ, fr, F, ?_⟩
  refine Post.bind (R' := RRV X.K) back_RRV (f := fun x => truH (.dv x) >>= fun t => if t then mb else pure (.val x)) P fun x fr1 v H1 φ1 _ x1 F1 q P1 => ?_
  obtain ⟨b, t, P2⟩ := Post.tru (Hx := H1) F1 (show RHd X.K H1 φ1 σ fr1 H1 v (.dv x) from q) P1
  refine ⟨b, t, ?_⟩
  cases b with
  | true => exact iteT ⟨φ1, fr1, F1, P2⟩
  | false => exact iteF (P2 v H1 φ1 (Ext.refl _ _ _) F1 q)
theorem orV_ok {a b : Expr} {rest : List Expr} {pos : Pos} {ma : M Dv} {mb : M RV} (ha : PEv X W CV a ma) (hb : PEn X W CV (.BoolOp .Or (b :: rest) pos) mb) : PEn X W CV (.BoolOp .Or (a :: b :: rest) pos) (ma >>= fun x => truH (.dv x) >>= fun t => if t then pure (.val x) else mb) := by
  refine PE.imp (pe_orT ha hb) fun σ H Q ⟨φ, fr, F, P⟩ => ⟨φ, fr, F, ?_⟩
  refine Post.bind (R' := RRV X.K) back_RRV (f := fun x => truH (.dv x) >>= fun t => if t then pure (.val x) else mb) P fun x fr1 v H1 φ1 _ x1 F1 q P1 => ?_
  obtain ⟨b, t, P2⟩ := Post.tru (Hx := H1) F1 (show RHd X.K H1 φ1 σ fr1 H1 v (.dv x) from q) P1
  refine ⟨b, t, ?_⟩
  cases b with
  | true => exact iteT (P2 v H1 φ1 (Ext.refl _ _ _) F1 q)
  | false => exact iteF ⟨φ1, fr1, F1, P2⟩
theorem notV_ok {a : Expr} {pos : Pos} {mh : M Hd} (ha : PEh X W CV a mh) : PEn X W CV (.UnaryOp .Not a pos) (mh >>= fun h => truH h >>= fun t => pure (vD (.bool !t))) := by
  refine PE.imp (pe_notT ha) fun σ H Q ⟨φ, fr, F, P⟩ => ⟨φ, fr, F, ?_⟩
  refine Post.bind (R' := RRV X.K) back_RRV (f := fun h => truH h >>= fun t => pure (vD (.bool !t))) P fun x fr1 v H1 φ1 _ x1 F1 q P1 => ?_
  obtain ⟨b, t, P2⟩ := Post.tru F1 q P1
  exact ⟨b, t, post_val F1 P2 rep_bool⟩
theorem ife_ok {c a b : Expr} {pos : Pos} {mc : M Bool} {ma mb : M RV} (hc : PTt X W CV c mc) (ha : PEn X W CV a ma) (hb : PEn X W CV b mb) : PEn X W CV (.IfExp c a b pos) (mc >>= fun t => if t then ma else mb) := by
  refine PE.imp (pe_ifExp hc ha hb) fun σ H Q ⟨φ, fr, F, P⟩ => ⟨φ, fr, F, ?_⟩
  refine Post.bind (R' := RRV X.K) back_RRV (f := fun t => if t then ma else mb) P fun x fr1 v H1 φ1 _ x1 F1 q P1 => ?_
  cases (show v = x from q)
  cases x with
  | true => exact iteT ⟨φ1, fr1, F1, P1⟩
  | false => exact iteF ⟨φ1, fr1, F1, P1⟩
theorem neg_ok {a : Expr} {pos : Pos} {mh : M Hd} (ha : PEh X W CV a mh) : PEn X W CV (.UnaryOp .USub a pos) (intM mh >>= fun i => pure (vD (.int (-i)))) := by
  refine PE.imp (pe_un un_neg ha) fun σ H Q ⟨φ, fr, F, P⟩ => ⟨φ, fr, F, ?_⟩
  have e : (intM mh >>= fun i => pure (vD (.int (-i)))) = (mh >>= fun h => viewH h >>= fun d => (match d with | .int i => pure i | _ => stuckM : M Int) >>= fun i => pure (vD (.int (-i)))) := by
    simp only [intM, bind_assoc] <;> rfl
  rw [e] at P
  refine Post.bind (R' := RRV X.K) back_RRV P fun x fr1 v H1 φ1 _ x1 F1 q P1 => ?_
  obtain ⟨d, p, P2⟩ := Post.view F1 q P1
  cases d with
  | int i =>
    rw [pr_int p]
    exact ⟨i, rfl, post_val F1 P2 rep_int⟩
  | _ => exact P2.elim
end
end Nw

set_option autoImplicit false
set_option maxRecDepth 100000
set_option maxHeartbeats 1000000
/-! Nw, part J: argument lists, displays, items, slices. -/
namespace Nw
open PySem PySem.Spec PyProof.Rows L2

def noStar : Expr → Bool
  | .Starred _ _ => false
  | _ => true
theorem star_cons {e : Expr} {es : List Expr} {env : Env} (h : noStar e = true) : starEach (e :: es) env = (false, eval e env) :: starEach es env := by
  cases e <;> first | rfl | (simp [noStar] at h)
theorem star_plain {pos : Pos} {env : Env} : ∀ {es : List Expr}, es.all noStar = true → (backTo pos (starEach es env)).any (·.1) = false
  | [], _ => rfl
  | e :: es, h => by
    have h2 : noStar e = true ∧ es.all noStar = true := by simpa only [List.all_cons, Bool.and_eq_true] using h
    rw [star_cons h2.1]
    exact star_plain h2.2
theorem star_all {pos : Pos} {env : Env} : ∀ {es : List Expr}, es.all noStar = true → (backTo pos (starEach es env)).all (fun x => !x.1) = true
  | [], _ => rfl
  | e :: es, h => by
    have h2 : noStar e = true ∧ es.all noStar = true := by simpa only [List.all_cons, Bool.and_eq_true] using h
    rw [star_cons h2.1]
    exact star_all h2.2

section
variable (K : PySem.W.Frag)
def RVs : Rl (List V) (List Dv) := fun _ φ _ _ H' vs xs => RepVs K φ H' xs vs
/-- handles, one by one -/
def RHs : Rl (List V) (List Hd) := fun H φ σ fr H' vs hs => hs.length = vs.length ∧ ∀ (i : Nat) (h : Hd) (v : V), hs[i]? = some h → vs[i]? = some v → RHd K H φ σ fr H' v h
end
theorem back_RVs {K : PySem.W.Frag} : Back (RVs K) := fun _ _ _ _ _ _ _ _ _ h => h
theorem back_RHs {K : PySem.W.Frag} : Back (RHs K) := fun _ _ _ _ _ _ _ _ _ h => h
section
variable {X : Cx} {W : WX} {CV : Str → Value} {φ : List Addr} {σ : L2.St} {H : Hp} {fr : Fr} {Q : VK}
abbrev PAv (X : Cx) (W : WX) (CV : Str → Value) (es : List Expr) (m : M (List Dv)) : Prop := PA X es (rd X.K W CV (RVs X.K) m)
abbrev PAh (X : Cx) (W : WX) (CV : Str → Value) (es : List Expr) (m : M (List Hd)) : Prop := PA X es (rd X.K W CV (RHs X.K) m)
theorem av_nil : PAv X W CV [] (pure []) := PA.imp pa_nil fun σ H Q ⟨φ, fr, F, P⟩ => P [] H φ (Ext.refl _ _ _) F rfl
theorem av_cons {e : Expr} {es : List Expr} {m : M Dv} {ms : M (List Dv)} (h : PEv X W CV e m) (hs : PAv X W CV es ms) (n : noStar e = true) : PAv X W CV (e :: es) (m >>= fun x => ms >>= fun xs => pure (x :: xs)) := by
  refine PA.imp (pa_cons h hs (star_cons n)) fun σ H Q ⟨φ, fr, F, P⟩ => ⟨φ, fr, F, ?_⟩
  refine Post.bind (R' := RVs X.K) back_RVs (f := fun x => ms >>= fun xs => pure (x :: xs)) P fun x fr1 v H1 φ1 _ x1 F1 q1 P1 => ⟨φ1, fr1, F1, ?_⟩
  refine Post.bind (R' := RVs X.K) back_RVs (f := fun xs => pure (x :: xs)) P1 fun xs fr2 vs H2 φ2 _ x2 F2 q2 P2 => ?_
  exact P2 (v :: vs) H2 φ2 (Ext.refl _ _ _) F2 ⟨v, vs, rfl, RepV.ext x2.pers x2.pre' q1, q2⟩
theorem ah_nil : PAh X W CV [] (pure []) := PA.imp pa_nil fun σ H Q ⟨φ, fr, F, P⟩ => P [] H φ (Ext.refl _ _ _) F ⟨rfl, fun i h v e _ => by simp at e⟩
theorem ah_cons {e : Expr} {es : List Expr} {m : M Hd} {ms : M (List Hd)} (h : PEh X W CV e m) (hs : PAh X W CV es ms) (n : noStar e = true) : PAh X W CV (e :: es) (m >>= fun x => ms >>= fun xs => pure (x :: xs)) := by
  refine PA.imp (pa_cons h hs (star_cons n)) fun σ H Q ⟨φ, fr, F, P⟩ => ⟨φ, fr, F, ?_⟩
  refine Post.bind (R' := RHs X.K) back_RHs (f := fun x => ms >>= fun xs => pure (x :: xs)) P fun x fr1 v H1 φ1 _ x1 F1 q1 P1 => ⟨φ1, fr1, F1, ?_⟩
  refine Post.bind (R' := RHs X.K) back_RHs (f := fun xs => pure (x :: xs)) P1 fun xs fr2 vs H2 φ2 _ x2 F2 q2 P2 => ?_
  obtain ⟨l, q2⟩ := q2
  refine P2 (v :: vs) H2 φ2 (Ext.refl _ _ _) F2 ⟨by rw [List.length_cons, List.length_cons, l], fun i h' v' e1 e2 => ?_⟩
  cases i with
  | zero =>
    have e1 : x = h' := by simpa using e1
    have e2 : v = v' := by simpa using e2
    subst e1 e2
    exact q1.later x2
  | succ i => exact q2 i h' v' (by simpa using e1) (by simpa using e2)
/-- all views, then what follows -/
theorem Post.views {ρ β : Type} {K : PySem.W.Frag} {R : Rl ρ β} {Hx : Hp} {Q : ρ → Hp → Prop} (F : FR K φ σ H fr) : ∀ {hs : List Hd} {vs : List V} {f : List D → M β}, RHs K Hx φ σ fr H vs hs →
    Post K W CV R φ σ H fr ((viewHs hs >>= f) fr) Q → ∃ ds, ds.length = vs.length ∧ (∀ (i : Nat) (d : D) (v : V), ds[i]? = some d → vs[i]? = some v → PRep K H d v) ∧ Post K W CV R φ σ H fr (f ds fr) Q
  | [], vs, f, r, h => by
    obtain ⟨l, _⟩ := r
    exact ⟨[], l, fun i d v e _ => by simp at e, h⟩
  | x :: hs, vs, f, r, h => by
    obtain ⟨l, r⟩ := r
    cases vs with
    | nil => simp at l
    | cons v vs =>
      have e : (viewHs (x :: hs) >>= f) = (viewH x >>= fun d => viewHs hs >>= fun ds => f (d :: ds)) := by
        simp only [viewHs, bind_assoc, pure_bind]
      rw [e] at h
      obtain ⟨d, p, h⟩ := Post.view F (r 0 x v rfl rfl) h
      obtain ⟨ds, l2, ps, h⟩ := Post.views (f := fun ds => f (d :: ds)) F (hs := hs) (vs := vs) ⟨by simpa using l, fun i h' v' e1 e2 => r (i + 1) h' v' (by simpa using e1) (by simpa using e2)⟩ h
      refine ⟨d :: ds, by rw [List.length_cons, List.length_cons, l2], fun i d' v' e1 e2 => ?_, h⟩
      cases i with
      | zero =>
        have e1 : d = d' := by simpa using e1
        have e2 : v = v' := by simpa using e2
        subst e1 e2
        exact p
      | succ i => exact ps i d' v' (by simpa using e1) (by simpa using e2)

/-! ### displays -/
theorem tup_ok {es : List Expr} {k : Nat} {pos : Pos} {ms : M (List Dv)} (h : PAv X W CV es ms) : PEn X W CV (.Tuple es k pos) (ms >>= fun xs => match allD xs with
    | some ds => if ds.length ≤ 16777216 then pure (vD (.tuple ds)) else stuckM
    | none => stuckM) := by
  refine PE.imp (pe_tup h) fun σ H Q ⟨φ, fr, F, P⟩ => ⟨φ, fr, F, ?_⟩
  refine Post.bind (R' := RRV X.K) back_RRV P fun xs fr1 vs H1 φ1 _ x1 F1 q1 P1 => ?_
  cases e : allD xs with
  | none =>
    rw [e] at P1
    exact P1.elim
  | some ds =>
    rw [e] at P1
    dsimp only at P1
    have r := RepVs.all q1 e
    by_cases hl : ds.length ≤ 16777216
    · rw [if_pos hl] at P1
      exact ⟨by rw [← r.len, sizeLine_eq]; exact hl, fun p hp => post_newT F1 P1 hp r⟩
    · rw [if_neg hl] at P1
      exact P1.elim
theorem lst_ok {es : List Expr} {pos : Pos} {ms : M (List Dv)} (h : PAv X W CV es ms) : PEn X W CV (.List es pos) (ms >>= fun xs => if xs.length ≤ 16777216 then pure (.new (.lst xs)) else stuckM) := by
  refine PE.imp (pe_lst h) fun σ H Q ⟨φ, fr, F, P⟩ => ⟨φ, fr, F, ?_⟩
  refine Post.bind (R' := RRV X.K) back_RRV (f := fun xs => if xs.length ≤ 16777216 then pure (.new (.lst xs)) else stuckM) P fun xs fr1 vs H1 φ1 _ x1 F1 q1 P1 => ?_
  by_cases hl : xs.length ≤ 16777216
  · rw [if_pos hl] at P1
    refine ⟨by rw [← RepVs.len q1, sizeLine_eq]; exact hl, fun p hp => ?_⟩
    obtain ⟨F2, x2⟩ := F1.laid (u := .lst vs) hp
    obtain ⟨n1, n2⟩ := F1.free hp
    exact P1 _ _ φ1 x2 F2 ⟨p, rfl, hp, n1, n2, vs, upd_same, RepVs.ext (pers_new hp) ⟨[], by simp⟩ q1⟩
  · rw [if_neg hl] at P1
    exact P1.elim

/-! ### items, slices -/
theorem Reps.atI {K : PySem.W.Frag} {ds : List D} {xs : List V} {i : Int} {d : D} (r : Reps K H ds xs) (h : ixD ds i = some d) : ∃ v, L2.atI xs i = some v ∧ Rep K H d v := by
  unfold ixD L2.atI at h
  unfold L2.atI
  rw [r.len] at h
  cases e : ixN xs.length i with
  | none =>
    rw [e] at h
    cases h
  | some j =>
    rw [e] at h
    exact r.get (i := j) h
def rIxK : R2 := fun x y H Q => ∃ a v, x = .ref a ∧ DGet H a y (some v) ∧ Q v H
theorem ix_dK (hu : X.A.units + 1 < cLine) : IxR X rIxK := by
  intro value slice pins s σ H x y v u Q I rx ry h hs
  obtain ⟨a, r, rfl, g, q⟩ := h
  obtain rfl : v = Value.ref a := rx
  exact tail_any (dict_typeIs I g) PySem.F.slot_dict_getitem.lookup (d_getItem hu I g ry fun w' s' I' r' => ⟨r, H, I', r', q⟩) hs
theorem sub_ok {a i : Expr} {pos : Pos} {ma mi : M Hd} (hu : X.A.units + 65 < cLine) (ha : PEh X W CV a ma) (hi : PEh X W CV i mi) (hs : PlainIx i) : PEn X W CV (.Subscript a i pos) (subM ma mi) := by
  refine PE.imp (pe_ix (IxR.or ix_seq (ix_dK (by omega))) ha hi hs) fun σ H Q ⟨φ, fr, F, P⟩ => ?_
  refine ⟨φ, fr, F, Post.bind (R' := RRV X.K) back_RRV (f := fun x => mi >>= fun y => viewH x >>= fun d => viewH y >>= fun k => match opSub d k with
    | some r => pure (vD r)
    | none => stuckM) P fun hx fr1 v H1 φ1 _ x1 F1 q1 P1 => ?_⟩
  refine ⟨φ1, fr1, F1, Post.bind (R' := RRV X.K) back_RRV P1 fun hy fr2 u H2 φ2 _ x2 F2 q2 P2 => ?_⟩
  obtain ⟨d, p1, P3⟩ := Post.view F2 (q1.later (Hy := H2) x2) P2
  obtain ⟨k, p2, P4⟩ := Post.view F2 q2 P3
  cases e : opSub d k with
  | none =>
    rw [e] at P4
    exact P4.elim
  | some r =>
    rw [e] at P4
    cases d <;> cases k <;> simp only [opSub, reduceCtorEq] at e
    case list.int ds j =>
      obtain ⟨a, xs, rfl, h, rs⟩ := pr_list p1
      rw [pr_int p2]
      obtain ⟨v, ev, rv⟩ := Reps.atI rs e
      exact .inl (.inl ⟨a, xs, j, v, rfl, rfl, h, ev, post_val F2 P4 rv⟩)
    case tuple.int ds j =>
      obtain ⟨a, xs, rfl, h, rs⟩ := pr_tuple p1
      rw [pr_int p2]
      obtain ⟨v, ev, rv⟩ := Reps.atI rs e
      exact .inl (.inr (.inl ⟨a, xs, j, v, rfl, rfl, h, ev, post_val F2 P4 rv⟩))
    case dict.str kvs s =>
      obtain ⟨a, ps, rfl, hr, rk⟩ := p1
      rw [pr_str p2]
      rcases RepKV.find (k := .str s) (z := .inr s) rfl rk with ⟨e1, _⟩ | ⟨d, w, e1, e2, rv⟩
      · rw [e1] at e
        cases e
      · rw [e1] at e
        cases e
        exact .inr ⟨a, w, rfl, .inl ⟨ps, .inr s, hr, rfl, e2.symm⟩, post_val F2 P4 rv⟩
    case dict.int kvs s =>
      obtain ⟨a, ps, rfl, hr, rk⟩ := p1
      rw [pr_int p2]
      rcases RepKV.find (k := .int s) (z := .inl s) rfl rk with ⟨e1, _⟩ | ⟨d, w, e1, e2, rv⟩
      · rw [e1] at e
        cases e
      · rw [e1] at e
        cases e
        exact .inr ⟨a, w, rfl, .inl ⟨ps, .inl s, hr, rfl, e2.symm⟩, post_val F2 P4 rv⟩
    case str.int s j =>
      rw [pr_str p1, pr_int p2]
      by_cases hl : s.length ≤ 16777216
      · rw [if_pos hl] at e
        obtain ⟨c, ec, er⟩ := Option.map_eq_some_iff.mp e
        subst er
        exact .inl (.inr (.inr ⟨s, j, c, rfl, rfl, by rw [sizeLine_eq]; exact hl, ec, post_val F2 P4 rep_str⟩))
      · rw [if_neg hl] at e
        cases e
def ROI : Rl (Option Int) (Option Int) := fun _ _ _ _ _ v b => v = b
theorem back_ROI : Back ROI := fun _ _ _ _ _ _ _ _ _ h => h
abbrev POt (X : Cx) (W : WX) (CV : Str → Value) (e : Option Expr) (m : M (Option Int)) : Prop := PO X e (rd X.K W CV ROI m)
theorem po_no : POt X W CV none (optI none) := ⟨fun pins s σ H Q I ⟨φ, fr, F, P⟩ => po_none.run pins s σ H Q I (P none H φ (Ext.refl _ _ _) F rfl)⟩
theorem po_so {e : Expr} {m : M Hd} (h : PEh X W CV e m) : POt X W CV (some e) (optI (some m)) := by
  refine ⟨fun pins s σ H Q I ⟨φ, fr, F, P⟩ => (po_some h).run pins s σ H Q I ⟨φ, fr, F, ?_⟩⟩
  refine Post.bind (R' := ROI) back_ROI (f := fun h => viewH h >>= fun d => match d with
    | .int i => pure (some i)
    | _ => stuckM) P fun x fr1 v H1 φ1 _ x1 F1 q P1 => ?_
  obtain ⟨d, p, P2⟩ := Post.view F1 q P1
  cases d with
  | int i =>
    rw [pr_int p]
    exact ⟨i, rfl, P2 (some i) H1 φ1 (Ext.refl _ _ _) F1 rfl⟩
  | _ => exact P2.elim
def rSl3 (K : PySem.W.Frag) : V → Option Int → Option Int → Hp → VK → Prop := fun x lo hi H Q => (rSlL K x lo hi H Q ∨ rSlA K x lo hi H Q) ∨ rSlS x lo hi H Q
theorem sl_3 : SlR X (rSl3 X.K) := SlR.or (SlR.or sl_list sl_tupA) sl_str
theorem Reps.cut {K : PySem.W.Frag} {ds : List D} {xs : List V} {lo hi : Option Int} (r : Reps K H ds xs) : Reps K H (cutL ds lo hi) (cutV xs lo hi) := by
  unfold cutL cutV
  rw [r.len]
  exact (r.drop _).take _
theorem sli_ok {a : Expr} {lo hi : Option Expr} {p2 pos : Pos} {ma : M Hd} {ml mh : M (Option Int)} (ha : PEh X W CV a ma) (hl : POt X W CV lo ml) (hh : POt X W CV hi mh) : PEn X W CV (.Subscript a (.Slice lo hi none p2) pos) (sliM ma ml mh) := by
  refine PE.imp (pe_slice sl_3 ha hl hh) fun σ H Q ⟨φ, fr, F, P⟩ => ?_
  refine ⟨φ, fr, F, Post.bind (R' := RRV X.K) back_RRV (f := fun x => ml >>= fun l => mh >>= fun h => viewH x >>= fun d => liftO (opSli d l h)) P fun hx fr1 v H1 φ1 _ x1 F1 q1 P1 => ?_⟩
  refine ⟨φ1, fr1, F1, Post.bind (R' := RRV X.K) back_RRV P1 fun l fr2 l' H2 φ2 _ x2 F2 q2 P2 => ?_⟩
  refine ⟨φ2, fr2, F2, Post.bind (R' := RRV X.K) back_RRV P2 fun h fr3 h' H3 φ3 _ x3 F3 q3 P3 => ?_⟩
  cases (show l' = l from q2)
  cases (show h' = h from q3)
  obtain ⟨d, p, P4⟩ := Post.view F3 ((q1.later (Hy := H2) (fr1 := fr2) x2).later (Hy := H3) x3) P3
  obtain ⟨b, e, P5⟩ := Post.lift P4
  cases d <;> simp only [opSli, reduceCtorEq] at e
  case list ds =>
    cases e
    obtain ⟨a, xs, rfl, hL, rs⟩ := pr_list p
    exact .inl (.inl ⟨a, xs, rfl, hL, fun p hp => post_newL F3 P5 hp rs.cut⟩)
  case tuple ds =>
    cases e
    obtain ⟨a, xs, rfl, hL, rs⟩ := pr_tuple p
    refine .inl (.inr ⟨a, xs, rfl, hL, fun ⟨w1, w2⟩ => ?_, fun _ p hp => post_newT F3 P5 hp rs.cut⟩)
    refine post_val F3 P5 ?_
    have ec : cutL ds l h = ds := by
      unfold cutL
      rw [rs.len, w1, w2, List.drop_zero, ← rs.len]
      exact List.take_length
    rw [ec]
    simp only [Rep]
    exact ⟨a, xs, rfl, hL, rs⟩
  case str s =>
    obtain ⟨g, rfl⟩ := guard_ok e
    rw [pr_str p]
    refine .inr ⟨s, rfl, fits_ok g, post_val F3 P5 ?_⟩
    exact rep_str
theorem rev_ok {a : Expr} {k : Nat} {p1 p2 p3 pos : Pos} {ma : M Hd} (ha : PEh X W CV a ma) : PEn X W CV (.Subscript a (.Slice none none (some (.UnaryOp .USub (.Constant (.int 1) k p1) p2)) p3) pos) (ma >>= fun x => viewH x >>= fun d => liftO (opRev d)) := by
  refine PE.imp (pe_revL ha) fun σ H Q ⟨φ, fr, F, P⟩ => ?_
  refine ⟨φ, fr, F, Post.bind (R' := RRV X.K) back_RRV (f := fun x => viewH x >>= fun d => liftO (opRev d)) P fun hx fr1 v H1 φ1 _ x1 F1 q1 P1 => ?_⟩
  obtain ⟨d, p, P4⟩ := Post.view F1 q1 P1
  obtain ⟨b, e, P5⟩ := Post.lift P4
  cases d <;> simp only [opRev, reduceCtorEq] at e
  cases e
  obtain ⟨a, xs, rfl, hL, rs⟩ := pr_list p
  exact ⟨a, xs, rfl, hL, fun p hp => post_newL F1 P5 hp rs.reverse⟩
theorem stpL_len {α : Type} (k : Nat) (xs : List α) (hk : 1 ≤ k) : (stpL k xs).length ≤ xs.length := by
  unfold stpL
  refine Nat.le_trans (List.length_filterMap_le _ _) (sliceRange_length_le _ _ _ _ (fun hc => ?_) fun hc => ?_)
  · simp only [sliceBounds] at hc ⊢
    simp only [hc, if_true]
    exact ⟨by simp, by simp⟩
  · simp only [sliceBounds, Option.getD] at hc
    omega
theorem stp_vals {xs : List V} {us : List Value} (r : Vals xs us) : ∀ is : List Nat, Vals (is.filterMap (xs[·]?)) (is.filterMap (us[·]?))
  | [] => .nil
  | i :: is => by
    have ih := stp_vals r is
    rw [List.filterMap_cons, List.filterMap_cons]
    cases hx : xs[i]? with
    | none =>
      rw [show us[i]? = none from r.none_of hx]
      exact ih
    | some x =>
      obtain ⟨u, hu, ru⟩ := r.get hx
      rw [hu]
      exact .cons ru ih
theorem stp_reps {K : PySem.W.Frag} {H : Hp} {ds : List D} {vs : List V} (r : Reps K H ds vs) : ∀ is : List Nat, Reps K H (is.filterMap (ds[·]?)) (is.filterMap (vs[·]?))
  | [] => .nil
  | i :: is => by
    have ih := stp_reps r is
    rw [List.filterMap_cons, List.filterMap_cons]
    cases hx : ds[i]? with
    | none =>
      have : vs[i]? = none := by
        rw [List.getElem?_eq_none_iff] at hx ⊢
        rw [← r.len]
        exact hx
      rw [this]
      exact ih
    | some x =>
      obtain ⟨u, hu, ru⟩ := r.get hx
      rw [hu]
      exact .cons ru ih
def tStpL (K : PySem.W.Frag) (k : Nat) (te : TE) : TE := fun σ H Q => te σ H fun x H1 => ∃ a xs, x = .ref a ∧ SqL K H1 a xs ∧ ∀ p, H1 p = none → Q (.ref p) (upd H1 p (.lst (stpL k xs)))
theorem pe_stpL {e : Expr} {te : TE} {n : Int} {k : Nat} {p1 p3 pos : Pos} (hn : 1 ≤ n) (he : PE X e te) : PE X (.Subscript e (.Slice none none (some (.Constant (.int n) k p1)) p3) pos) (tStpL X.K n.toNat te) := by
  refine ⟨fun pins s σ H Q I h => ?_⟩
  refine Subscript_ (thn (he.run pins s σ H _ I h) fun v s1 ⟨x, H1, I1, r1, q1⟩ => ?_)
  obtain ⟨a, xs, ex, hx, q⟩ := q1
  subst ex
  cases r1
  have hst : PO X (some (.Constant (.int n) k p1)) (tPart (tC (.int n))) := po_some pe_int
  refine wpAny_Slice (thn (po_none.run pins s1 σ H1 (fun o H2 => o = none ∧ H2 = H1) I1 ⟨rfl, rfl⟩) fun vl s2 ⟨l, H2, I2, pl, el, e2⟩ => ?_)
  subst el e2
  refine thn (po_none.run pins s2 σ H2 (fun o H3 => o = none ∧ H3 = H2) I2 ⟨rfl, rfl⟩) fun vu s3 ⟨u, H3, I3, pu, eu, e3⟩ => ?_
  subst eu e3
  refine thn (hst.run pins s3 σ H3 (fun o H4 => o = some n ∧ H4 = H3) I3 ⟨n, rfl, rfl, rfl⟩) fun vs s4 ⟨o, H4, I4, ps, eo, e4⟩ => ?_
  subst eo e4
  have I5 : Inv X pins σ H4 { s4 with heap := s4.heap.push { cls := .type "slice", data := .fields #[vl, vu, vs] } } := I4.kept (t' := s4.toks) fun b ob q => Heap.get?_push_of_some _ q
  obtain ⟨its, r, ht, hz⟩ := I5.list hx
  have hlen := r.length
  show wpAny (model X.prog X.w) X.A (subscriptTail e (.Slice none none (some (.Constant (.int n) k p1)) p3) (.ref a) (.ref s4.heap.objs.size)) (EP X pins σ Q) X.xe { s4 with heap := s4.heap.push { cls := .type "slice", data := .fields #[vl, vu, vs] } }
  refine tail_any (ops := [.ref a, .ref s4.heap.objs.size]) ht.isList.typeIs (PySem.slot_list_getitem.lookup) ?_ (by with_unfolding_all rfl)
  refine wpAny_getItem_list_slice ht.isList (Heap.IsSliceOf.new _ vl vu vs) pl pu ps (by intro z; cases z; omega) ?_ (by rw [List.size_toArray]; omega)
  have ep : slicePick its.toArray none none (some n) = (stpL n.toNat its).toArray := by
    unfold slicePick stpL
    rw [show ((n.toNat : Nat) : Int) = n by omega, List.size_toArray]
    rw [show (fun i : Nat => its.toArray[i]?) = fun i => its[i]? from funext fun i => by simp]
  rw [ep]
  have rr : Vals (stpL n.toNat xs) (stpL n.toNat its) := by
    unfold stpL
    rw [hlen]
    exact stp_vals r _
  refine ⟨.ref _, _, I5.laid (t' := s4.toks) (o := .lst (stpL n.toNat xs)) (fun b ob q => Heap.get?_push_of_some _ q) (Nat.le_refl _) ?_, rfl, q _ (I5.hok.fresh (Nat.le_refl _))⟩
  exact ⟨Nat.le_trans (stpL_len n.toNat xs (by omega)) hz, _, 0, rr, Heap.get?_push_size _ rfl⟩
theorem stp_ok {a : Expr} {n : Int} {k : Nat} {p1 p3 pos : Pos} {ma : M Hd} (hn : 1 ≤ n) (ha : PEh X W CV a ma) : PEn X W CV (.Subscript a (.Slice none none (some (.Constant (.int n) k p1)) p3) pos) (stpM n.toNat ma) := by
  refine PE.imp (pe_stpL hn ha) fun σ H Q ⟨φ, fr, F, P⟩ => ?_
  refine ⟨φ, fr, F, Post.bind (R' := RRV X.K) back_RRV (f := fun x => viewH x >>= fun d => liftO (opStp n.toNat d)) P fun hx fr1 v H1 φ1 _ x1 F1 q1 P1 => ?_⟩
  obtain ⟨d, p, P4⟩ := Post.view F1 q1 P1
  obtain ⟨b, e, P5⟩ := Post.lift P4
  cases d <;> simp only [opStp, reduceCtorEq] at e
  cases e
  obtain ⟨a, xs, rfl, hL, rs⟩ := pr_list p
  refine ⟨a, xs, rfl, hL, fun p hp => post_newL F1 P5 hp ?_⟩
  unfold stpL
  rw [rs.len]
  exact stp_reps rs _
/-- the parts of an f-string and what they are worth -/
inductive FPs (X : Cx) (W : WX) (CV : Str → Value) : List Expr → List (M Dv) → Prop where
  | nil : FPs X W CV [] []
  | cst {s : Str} {j : Nat} {p : Pos} {es : List Expr} {ms : List (M Dv)} (r : FPs X W CV es ms) : FPs X W CV (.Constant (.str s) j p :: es) (pure (.py (.str s)) :: ms)
  | fmt {e : Expr} {p : Pos} {es : List Expr} {m : M Dv} {ms : List (M Dv)} (h : PEv X W CV e m) (r : FPs X W CV es ms) : FPs X W CV (.FormattedValue e (-1) none p :: es) (m :: ms)
theorem fps_ok {es : List Expr} {ms : List (M Dv)} (h : FPs X W CV es ms) : ∃ ts, L2.PJ X es ts ∧ ∀ (acc : Str) (σ : L2.St) (H : Hp) (Q : VK), (∃ φ fr, FR X.K φ σ H fr ∧ Post X.K W CV (RRV X.K) φ σ H fr ((fjM ms acc >>= fun s => pure (vD (.str s))) fr) Q) → L2.tJs ts acc σ H fun out H1 => Q (.str out) H1 := by
  induction h with
  | nil => exact ⟨[], .nil, fun acc σ H Q ⟨φ, fr, F, P⟩ => post_val F P rep_str⟩
  | @cst s j p es ms r ih =>
    obtain ⟨ts, hp, k⟩ := ih
    refine ⟨_, .cons pe_str hp, fun acc σ H Q ⟨φ, fr, F, P⟩ => ?_⟩
    have P1 : Post X.K W CV (RRV X.K) φ σ H fr (((if s.length ≤ 16777216 ∧ (acc ++ s).length ≤ 16777216 then fjM ms (acc ++ s) else stuckM) >>= fun s => pure (vD (.str s))) fr) Q := P
    by_cases hc : s.length ≤ 16777216 ∧ (acc ++ s).length ≤ 16777216
    · rw [if_pos hc] at P1
      exact ⟨s, rfl, by rw [sizeLine_eq]; exact hc.2, k _ _ _ _ ⟨φ, fr, F, P1⟩⟩
    · rw [if_neg hc] at P1
      exact P1.elim
  | @fmt e p es m ms h r ih =>
    obtain ⟨ts, hp, k⟩ := ih
    refine ⟨_, .cons (L2.pe_fmt h) hp, fun acc σ H Q ⟨φ, fr, F, P⟩ => ?_⟩
    have P0 : Post X.K W CV (RRV X.K) φ σ H fr ((m fr).andThen fun x => (match txtV x with
      | some y => if y.length ≤ 16777216 ∧ (acc ++ y).length ≤ 16777216 then fjM ms (acc ++ y) else stuckM
      | none => stuckM) >>= fun s => pure (vD (.str s))) Q := by
      have P : Post X.K W CV (RRV X.K) φ σ H fr (((m fr).andThen fun x => (match txtV x with
        | some y => if y.length ≤ 16777216 ∧ (acc ++ y).length ≤ 16777216 then fjM ms (acc ++ y) else stuckM
        | none => stuckM)).andThen fun s => pure (vD (.str s))) Q := P
      rw [Res.assoc] at P
      exact P
    refine ⟨φ, fr, F, Post.bind (R' := RRV X.K) back_RRV P0 fun x fr1 v H1 φ1 _ x1 F1 q1 P1 => ?_⟩
    have q1 : RepV X.K φ1 H1 x v := q1
    cases x with
    | obj l => exact P1.elim
    | py d =>
      cases d with
      | str y =>
        have q1 : Rep X.K H1 (.str y) v := q1
        simp only [Rep] at q1
        have P1 : Post X.K W CV (RRV X.K) φ1 σ H1 fr1 (((if y.length ≤ 16777216 ∧ (acc ++ y).length ≤ 16777216 then fjM ms (acc ++ y) else stuckM) >>= fun s => pure (vD (.str s))) fr1) Q := P1
        by_cases hc : y.length ≤ 16777216 ∧ (acc ++ y).length ≤ 16777216
        · rw [if_pos hc] at P1
          exact .inl ⟨y, q1, by rw [sizeLine_eq]; exact hc.1, y, rfl, by rw [sizeLine_eq]; exact hc.2, k _ _ _ _ ⟨φ1, fr1, F1, P1⟩⟩
        · rw [if_neg hc] at P1
          exact P1.elim
      | int i =>
        have q1 : Rep X.K H1 (.int i) v := q1
        simp only [Rep] at q1
        by_cases hl : i.natAbs.log2 < 1920
        · have ht : txtV (.py (.int i)) = some (toString i) := if_pos hl
          rw [ht] at P1
          have P1 : Post X.K W CV (RRV X.K) φ1 σ H1 fr1 (((if (toString i : Str).length ≤ 16777216 ∧ (acc ++ (toString i : Str)).length ≤ 16777216 then fjM ms (acc ++ (toString i : Str)) else stuckM) >>= fun s => pure (vD (.str s))) fr1) Q := P1
          by_cases hc : (toString i : Str).length ≤ 16777216 ∧ (acc ++ (toString i : Str)).length ≤ 16777216
          · rw [if_pos hc] at P1
            exact .inr ⟨i, q1, hl, _, rfl, by rw [sizeLine_eq]; exact hc.2, k _ _ _ _ ⟨φ1, fr1, F1, P1⟩⟩
          · rw [if_neg hc] at P1
            exact P1.elim
        · have ht : txtV (.py (.int i)) = none := if_neg hl
          rw [ht] at P1
          exact P1.elim
      | none => exact P1.elim
      | bool b => exact P1.elim
      | list xs => exact P1.elim
      | tuple xs => exact P1.elim
      | dict xs => exact P1.elim
theorem fstr_ok {e1 e2 : Expr} {es : List Expr} {ms : List (M Dv)} {pos : Pos} (h : FPs X W CV (e1 :: e2 :: es) ms) : PEn X W CV (.JoinedStr (e1 :: e2 :: es) pos) (fstrM ms) := by
  obtain ⟨ts, hp, k⟩ := fps_ok h
  exact PE.imp (L2.pe_joined hp) fun σ H Q ⟨φ, fr, F, P⟩ => k _ _ _ _ ⟨φ, fr, F, P⟩
end
end Nw

set_option autoImplicit false
set_option maxRecDepth 100000
set_option maxHeartbeats 1000000
/-! Nw, part K0: list(x) of a text. -/
namespace Nw
open PySem PySem.Spec PyProof.Rows L2
section
variable {prog : Program} {w : World} {A : Around} {E : Value → Shared → Prop} {s : Shared}
theorem hint_str {x : Str} {t : Tok} {Q : Bool → Shared → Prop} (h : Q false s) : wpAny (model prog w) A (Builtin.List.listLengthHint (.str x t)) Q E s := by
  have hT : s.TypeIs (.str x t) "str" := typeIs_str s x t
  unfold Builtin.List.listLengthHint
  refine wpAny_bind (wpAny_specialOf hT PySem.F.slot_str_len.lookup ?_)
  generalize hid : ("str.__len__" : String) = id0
  wp_delta
  rw [show splitId id0 = some ("str", "__len__") from by subst hid; decide +kernel]
  subst hid
  refine wpAny_bind (wpAny_isInstance (T := "str") (b := true) hT (by rw [isSubtype_type]; kernel_rfl) ?_)
  refine wpAny_ite_split (fun hab => absurd hab (by decide)) (fun _ => ?_)
  refine wpAny_ite_split (fun _ => ?_) (fun hab => absurd (by decide +kernel) hab)
  refine wpAny_bind (wpAny_typeOf hT ?_)
  exact wpAny_pure h
theorem walks_text (hh : A.handled = none) (I : Addr) (x : Str) (t : Tok) : Walks prog w A I [I] [I] x.cps.size (SignAt x) (fun i h => h.IsStrIter I (strIterType x) x t i) := by
  cases ha : x.cps.all (· < 128)
  · simp only [strIterType, ha, Bool.false_eq_true, if_false]
    exact Walks.strWide hh I x t
  · simp only [strIterType, ha, if_true]
    exact Walks.strAscii hh I x t
theorem extend_str {R : Result → Shared → Prop} (hh : A.handled = none) (x : Str) (t : Tok) (S : Addr) (res : Value) (c₀ : Nat) (hS : s.heap.get? S = some { cls := .type "list", data := .seq #[] c₀ })
    (hR : ∀ h' tk acc' c', (∀ b o, b ≠ S → s.heap.get? b = some o → h'.get? b = some o) → h'.get? S = some { cls := .type "list", dict := none, data := .seq acc' c', slots := #[] } →
      ItemsOf (SignAt x) acc' x.cps.size → R (.ok (.ret res)) { s with heap := h', toks := tk }) (hn : x.cps.size ≤ sizeLine) :
    wpAny (model prog w) A.in1 (Builtin.List.listExtendWith (.ref S) (.str x t) res)
      (fun fin s' => match fin with | .done f => R (.ok f) s' | .again c' => c'.quiet = true ∧ codeAny (model prog w) A c' R s') (fun e s' => R (.error e) s') s := by
  have hSI : S ≠ s.heap.objs.size := Nat.ne_of_lt (Heap.lt_size hS)
  have hSf : S ∉ [s.heap.objs.size] := fun hm => hSI (List.mem_singleton.mp hm)
  unfold Builtin.List.listExtendWith
  refine wpAny_bind (wpAny_typeOf (T := "str") (v := .str x t) (typeIs_str s x t) ?_)
  have h1 : Builtin.List.listSameRef (.ref S) (.str x t) = false := rfl
  have h2 : (Value.type "str" == Value.type "list") = false := by decide
  have h3 : (Value.type "str" == Value.type "tuple") = false := by decide
  simp only [h1, h2, h3, Bool.or_false, Bool.false_eq_true, if_false]
  refine wpAny_bind (wpAny_pyIter_strU ?_)
  refine wpAny_bind (wpAny_holding (hint_str ?_))
  rw [if_neg (by first | decide | decide +kernel)]
  have W := walks_text (prog := prog) (w := w) (A := A.in1) hh s.heap.objs.size x t
  have hst : (s.heap.push { cls := .type (strIterType x), data := .fields #[.str x t, .int 0 0] }).IsStrIter s.heap.objs.size (strIterType x) x t 0 := ⟨_, Heap.get?_push_size _ rfl, rfl, rfl⟩
  refine wpAny_pure ⟨plainId_quiet PySem.F.plain_extend_loop _, codeAny_extend_loopS W.toS hn _ hSf _ x.cps.size 0 _ _ _ rfl (Nat.zero_le _) hst (Heap.get?_push_of_some _ hS) (ItemsOf.nil _) fun s' acc' c' hm hS' hacc => ?_⟩
  rw [Moved.eq_with hm]
  refine hR s'.heap s'.toks acc' c' (fun b ob hb e => hm.heap b ob (fun hmem => ?_) (Heap.get?_push_of_some _ e)) hS' hacc
  rcases List.mem_cons.mp hmem with e' | hmem
  · exact hb e'
  · exact absurd (Heap.lt_size e) (by rw [List.mem_singleton.mp hmem]; exact Nat.lt_irrefl _)
theorem list_init_str {R : Result → Shared → Prop} (hh : A.handled = none) (x : Str) (t : Tok) (S : Addr) (hS : s.heap.get? S = some { cls := .type "list", data := .seq #[] })
    (hR : ∀ h' tk acc' c', (∀ b o, b ≠ S → s.heap.get? b = some o → h'.get? b = some o) → h'.get? S = some { cls := .type "list", dict := none, data := .seq acc' c', slots := #[] } →
      ItemsOf (SignAt x) acc' x.cps.size → R (.ok (.ret .none)) { s with heap := h', toks := tk }) (hn : x.cps.size ≤ sizeLine) :
    wpAny (model prog w) A.in1 (Builtin.«list.__init__» ⟨[.ref S, .str x t], []⟩)
      (fun fin s' => match fin with | .done f => R (.ok f) s' | .again c' => c'.quiet = true ∧ codeAny (model prog w) A c' R s') (fun e s' => R (.error e) s') s := by
  show wpAny _ _ (do let old ← Builtin.List.listItems (.ref S); Builtin.List.listUpdate (.ref S) (fun _ => #[]); letGo old.toList.reverse; Builtin.List.listExtendWith (.ref S) (.str x t) .none) _ _ s
  refine wpAny_bind ?_
  unfold Builtin.List.listItems
  refine wpAny_bind (wpAny_seqItems hS rfl (wpAny_pure ?_))
  show wpAny _ _ (updateSeq S (fun _ => #[]) >>= fun _ => letGo (#[] : Array Value).toList.reverse >>= fun _ => Builtin.List.listExtendWith (.ref S) (.str x t) .none) _ _ s
  refine wpAny_bind (wpAny_updateSeq hS rfl ?_)
  have hS₂ := Heap.get?_update_self (Obj.mapSeq (fun _ => (#[] : Array Value))) hS rfl
  have oth : ∀ b o, b ≠ S → s.heap.get? b = some o → (s.heap.update S (Obj.mapSeq (fun _ => (#[] : Array Value)))).get? b = some o :=
    fun b o hb e => (Heap.get?_update_other _ _ (Ne.symm hb)).trans e
  refine wpAny_bind (wpAny_letGo ?_)
  refine extend_str hh x t S .none _ hS₂ (fun h' tk acc' c' hk hS' hacc => ?_) hn
  exact hR h' tk acc' c' (fun b o hb e => hk b o hb (oth b o hb e)) hS' hacc
theorem call_list_text {x : Str} {t : Tok} {Q : Value → Shared → Prop} (hh : A.handled = none) (hn : x.cps.size ≤ sizeLine)
    (hQ : ∀ h' tk acc' c', (∀ b o, s.heap.get? b = some o → h'.get? b = some o) →
      h'.get? s.heap.objs.size = some { cls := .type "list", dict := none, data := .seq acc' c', slots := #[] } → ItemsOf (SignAt x) acc' x.cps.size → Q (.ref s.heap.objs.size) { s with heap := h', toks := tk }) :
    wpAny (model prog w) A (call (.type "list") [.str x t]) Q E s := by
  refine callType_codes (Q₁ := fun obj s₁ => obj = .ref s.heap.objs.size ∧ s₁ = { s with heap := s.heap.push { cls := .type "list", data := .seq #[] } }) PySem.F.called_list (PySem.F.typeCall_list_1 _) PySem.F.entry_list_init
    (code_list_new _ ⟨rfl, rfl⟩) fun obj s₁ h₁ => ?_
  obtain ⟨rfl, rfl⟩ := h₁
  have hS : (s.heap.push { cls := .type "list", data := .seq #[] }).get? s.heap.objs.size = some { cls := .type "list", data := .seq #[] } := Heap.get?_push_size _ rfl
  refine ⟨⟨_, hS, rfl⟩, PySem.F.args_list_init_2 _ _, list_init_str (A := A.in1) hh x t _ hS (fun h' tk acc' c' hk hS' hacc => ?_) hn⟩
  exact ⟨rfl, hQ h' tk acc' c' (fun b o e => hk b o (Nat.ne_of_lt (Heap.lt_size e)) (Heap.get?_push_of_some _ e)) hS' hacc⟩
end
/-- list(x) of a text -/
def rListT : List V → Hp → VK → Prop := fun xs H Q => ∃ x : Str, xs = [.str x] ∧ x.cps.size ≤ sizeLine ∧ ∀ q, H q = none → Q (.ref q) (upd H q (.lst (x.cps.toList.map fun c => V.str ⟨#[c]⟩)))
theorem call_listT {X : Cx} (hc : X.calm = true) : CallR X (.type "list") rListT := by
  intro pins s σ H xs us Q I r h
  obtain ⟨x, rfl, hz, q⟩ := h
  obtain ⟨u, rfl, ru⟩ := vals1 r
  obtain ⟨t, rfl⟩ := ru
  refine call_list_text (I.ok.hd hc) hz fun h' tk acc c' hk e hi => ?_
  have hl : (x.cps.toList.map fun c => V.str ⟨#[c]⟩).length = x.cps.size := by rw [List.length_map]; simp
  refine ⟨.ref s.heap.objs.size, upd H s.heap.objs.size (.lst (x.cps.toList.map fun c => V.str ⟨#[c]⟩)), I.laid hk (Nat.le_refl _) ⟨by rw [hl]; exact hz, acc.toList, c', ?_, by rw [Array.toArray_toList]; exact e⟩, rfl, q _ (I.hok.fresh (Nat.le_refl _))⟩
  refine vals_of_idx _ _ (by rw [hl, Array.length_toList]; exact hi.1) fun j u hj => ?_
  obtain ⟨c, t', hc, rfl⟩ := hi.2 j u (by rw [← Array.getElem?_toList]; exact hj)
  exact ⟨.str ⟨#[c]⟩, by rw [List.getElem?_map, Array.getElem?_toList, hc]; rfl, ⟨_, rfl⟩⟩
end Nw

set_option autoImplicit false
set_option maxRecDepth 100000
set_option maxHeartbeats 1000000
/-! Nw, part K: built-ins, methods. -/
namespace Nw
open PySem PySem.Spec PyProof.Rows L2

section
variable {X : Cx} {W : WX} {CV : Str → Value} {φ : List Addr} {σ : L2.St} {H : Hp} {fr : Fr} {Q : VK}
/-- pointwise -/
def PReps (K : PySem.W.Frag) (H : Hp) (ds : List D) (vs : List V) : Prop := ds.length = vs.length ∧ ∀ (i : Nat) (d : D) (v : V), ds[i]? = some d → vs[i]? = some v → PRep K H d v
theorem PReps.one {K : PySem.W.Frag} {d : D} {vs : List V} (h : PReps K H [d] vs) : ∃ v, vs = [v] ∧ PRep K H d v := by
  obtain ⟨l, h⟩ := h
  match vs, l with
  | [v], _ => exact ⟨v, rfl, h 0 d v rfl rfl⟩
theorem PReps.two {K : PySem.W.Frag} {d d' : D} {vs : List V} (h : PReps K H [d, d'] vs) : ∃ v v', vs = [v, v'] ∧ PRep K H d v ∧ PRep K H d' v' := by
  obtain ⟨l, h⟩ := h
  match vs, l with
  | [v, v'], _ => exact ⟨v, v', rfl, h 0 d v rfl rfl, h 1 d' v' rfl rfl⟩
/-- a function of values by its rule -/
theorem biA {ms : M (List Hd)} {op : List D → Option RV} {r : List V → Hp → VK → Prop} (key : ∀ (φ : List Addr) (σ : L2.St) (H : Hp) (fr : Fr) (ds : List D) (b : RV) (vs : List V) (Q : VK), FR X.K φ σ H fr → PReps X.K H ds vs → op ds = some b → Post X.K W CV (RRV X.K) φ σ H fr (.ok b fr) Q → r vs H Q)
    (σ : L2.St) (H : Hp) (Q : VK) (h : rd X.K W CV (RRV X.K) (ms >>= fun hs => viewHs hs >>= fun ds => liftO (op ds)) σ H Q) : tCB r (rd X.K W CV (RHs X.K) ms) σ H Q := by
  obtain ⟨φ, fr, F, P⟩ := h
  refine ⟨φ, fr, F, Post.bind (R' := RRV X.K) back_RRV (f := fun hs => viewHs hs >>= fun ds => liftO (op ds)) P fun hs fr1 vs H1 φ1 _ x1 F1 q1 P1 => ?_⟩
  obtain ⟨ds, l, ps, P2⟩ := Post.views F1 q1 P1
  obtain ⟨b, e, P3⟩ := Post.lift P2
  exact key φ1 σ H1 fr1 ds b vs Q F1 ⟨l, ps⟩ e P3

theorem asInts_ok : ∀ {ds : List D} {ns : List Int}, asInts ds = some ns → ds = ns.map .int
  | [], ns, h => by cases h; rfl
  | .int i :: r, ns, h => by
    simp only [asInts, Option.map_eq_some_iff] at h
    obtain ⟨ms, e, rfl⟩ := h
    rw [asInts_ok e] <;> rfl
  | .none :: _, _, h => by cases h
  | .bool _ :: _, _, h => by cases h
  | .str _ :: _, _, h => by cases h
  | .list _ :: _, _, h => by cases h
  | .tuple _ :: _, _, h => by cases h
  | .dict _ :: _, _, h => by cases h
theorem asBools_ok : ∀ {ds : List D} {ns : List Bool}, asBools ds = some ns → ds = ns.map .bool
  | [], ns, h => by cases h; rfl
  | .bool i :: r, ns, h => by
    simp only [asBools, Option.map_eq_some_iff] at h
    obtain ⟨ms, e, rfl⟩ := h
    rw [asBools_ok e] <;> rfl
  | .none :: _, _, h => by cases h
  | .int _ :: _, _, h => by cases h
  | .str _ :: _, _, h => by cases h
  | .list _ :: _, _, h => by cases h
  | .tuple _ :: _, _, h => by cases h
  | .dict _ :: _, _, h => by cases h
theorem asStrs_ok : ∀ {ds : List D} {ns : List Str}, asStrs ds = some ns → ds = ns.map .str
  | [], ns, h => by cases h; rfl
  | .str i :: r, ns, h => by
    simp only [asStrs, Option.map_eq_some_iff] at h
    obtain ⟨ms, e, rfl⟩ := h
    rw [asStrs_ok e] <;> rfl
  | .none :: _, _, h => by cases h
  | .int _ :: _, _, h => by cases h
  | .bool _ :: _, _, h => by cases h
  | .list _ :: _, _, h => by cases h
  | .tuple _ :: _, _, h => by cases h
  | .dict _ :: _, _, h => by cases h
theorem reps_ints {K : PySem.W.Frag} : ∀ {ns : List Int} {xs : List V}, Reps K H (ns.map .int) xs → xs = ns.map V.int
  | [], _, h => by simpa only [List.map_nil, Reps] using h
  | n :: ns, _, h => by
    simp only [List.map_cons, Reps, Rep] at h
    obtain ⟨v, vs, rfl, rfl, rs⟩ := h
    rw [reps_ints rs] <;> rfl
theorem reps_bools {K : PySem.W.Frag} : ∀ {ns : List Bool} {xs : List V}, Reps K H (ns.map .bool) xs → xs = ns.map V.bl
  | [], _, h => by simpa only [List.map_nil, Reps] using h
  | n :: ns, _, h => by
    simp only [List.map_cons, Reps, Rep] at h
    obtain ⟨v, vs, rfl, rfl, rs⟩ := h
    rw [reps_bools rs] <;> rfl
theorem reps_strs {K : PySem.W.Frag} : ∀ {ns : List Str} {xs : List V}, Reps K H (ns.map .str) xs → xs = ns.map V.str
  | [], _, h => by simpa only [List.map_nil, Reps] using h
  | n :: ns, _, h => by
    simp only [List.map_cons, Reps, Rep] at h
    obtain ⟨v, vs, rfl, rfl, rs⟩ := h
    rw [reps_strs rs] <;> rfl
theorem reps_strs' {K : PySem.W.Frag} : ∀ (ns : List Str), Reps K H (ns.map .str) (ns.map V.str)
  | [] => .nil
  | n :: ns => .cons rep_str (reps_strs' ns)
theorem maxI_of {m : Int} : ∀ {ns : List Int}, m ∈ ns → (∀ y ∈ ns, y ≤ m) → maxI ns = some m := by
  have key : ∀ (r : List Int) (x : Int), r.foldl max x ∈ x :: r ∧ ∀ y ∈ x :: r, y ≤ r.foldl max x := by
    intro r
    induction r with
    | nil => intro x; simp
    | cons z r ih =>
      intro x
      obtain ⟨h1, h2⟩ := ih (max x z)
      rw [List.foldl_cons]
      have h3 : max x z ≤ r.foldl max (max x z) := h2 _ (by simp)
      refine ⟨?_, fun y hy => ?_⟩
      · rcases List.mem_cons.mp h1 with e | e
        · rw [e]
          rcases Int.le_total x z with l | l
          · rw [Int.max_eq_right l]; simp
          · rw [Int.max_eq_left l]; simp
        · simp [e]
      · rcases List.mem_cons.mp hy with e | e
        · omega
        · rcases List.mem_cons.mp e with e | e
          · omega
          · exact h2 _ (by simp [e])
  intro ns hm h
  cases ns with
  | nil => cases hm
  | cons x r =>
    obtain ⟨h1, h2⟩ := key r x
    have a := h _ h1
    have b := h2 _ hm
    exact congrArg some (Int.le_antisymm a b)
theorem minI_of {m : Int} : ∀ {ns : List Int}, m ∈ ns → (∀ y ∈ ns, m ≤ y) → minI ns = some m := by
  have key : ∀ (r : List Int) (x : Int), r.foldl min x ∈ x :: r ∧ ∀ y ∈ x :: r, r.foldl min x ≤ y := by
    intro r
    induction r with
    | nil => intro x; simp
    | cons z r ih =>
      intro x
      obtain ⟨h1, h2⟩ := ih (min x z)
      rw [List.foldl_cons]
      have h3 : r.foldl min (min x z) ≤ min x z := h2 _ (by simp)
      refine ⟨?_, fun y hy => ?_⟩
      · rcases List.mem_cons.mp h1 with e | e
        · rw [e]
          rcases Int.le_total x z with l | l
          · rw [Int.min_eq_left l]; simp
          · rw [Int.min_eq_right l]; simp
        · simp [e]
      · rcases List.mem_cons.mp hy with e | e
        · omega
        · rcases List.mem_cons.mp e with e | e
          · omega
          · exact h2 _ (by simp [e])
  intro ns hm h
  cases ns with
  | nil => cases hm
  | cons x r =>
    obtain ⟨h1, h2⟩ := key r x
    have a := h _ h1
    have b := h2 _ hm
    exact congrArg some (Int.le_antisymm b a)

/-! ### repr of data -/
def rRepr (K : PySem.W.Frag) : List V → Hp → VK → Prop := fun xs H Q => ∃ x d, xs = [x] ∧ Dp K H x d ∧ d.showable = true ∧ d.hasDict = false ∧ d.shown.length ≤ sizeLine ∧ d.depth ≤ 64 ∧ Q (.str d.shown) H
theorem call_repr (hu : X.A.units + 65 < cLine) (hg : X.A.guards = some []) : CallR X (.builtin "repr") (rRepr X.K) := by
  intro pins s σ H xs us Q I r h
  obtain ⟨x, d, rfl, hd, h1, h2, h3, h4, q⟩ := h
  obtain ⟨u, rfl, ru⟩ := vals1 r
  obtain ⟨as, rs⟩ := Dp.reads I d x u hd ru
  have fin : ∀ (h' : Heap) (t : Tok) (tk : Nat), (∀ b o, s.heap.get? b = some o → h'.get? b = some o) → EP X pins σ Q (.str d.shown t) { s with heap := h', toks := tk } := fun h' t tk k => ⟨.str d.shown, H, I.kept k, ⟨_, rfl⟩, q⟩
  cases hd with
  | non =>
    cases ru
    exact PySem.P.repr_of_none (by simpa only [PyData.shown] using fin s.heap s.toks _ fun _ _ e => e)
  | bl b =>
    cases ru
    exact PySem.P.repr_of_bool (by simpa only [PyData.shown] using fin s.heap s.toks _ fun _ _ e => e)
  | int i =>
    obtain ⟨t, rfl⟩ := ru
    exact PySem.P.repr_of_int (by simpa only [PyData.showable, decide_eq_true_eq] using h1) (by simpa only [PyData.shown] using fin s.heap s.toks _ fun _ _ e => e)
  | str z =>
    obtain ⟨t, rfl⟩ := ru
    exact PySem.P.repr_of_str (by simpa only [PyData.shown] using fin s.heap s.toks _ fun _ _ e => e) (by simpa only [PyData.shown] using h3)
  | lst _ _ =>
    cases ru
    exact repr_of_reads' rs h1 (fun z => by rw [h2] at z; cases z) hg (by omega) (fun _ _ e => e) (fun h' u tk k => fin h' u tk k) h3
  | tup _ _ =>
    cases ru
    exact repr_of_reads' rs h1 (fun z => by rw [h2] at z; cases z) hg (by omega) (fun _ _ e => e) (fun h' u tk k => fin h' u tk k) h3

/-! ### the built-ins -/
variable {x : Str} {p pos : Pos} {e : Expr} {es : List Expr} {ms : M (List Hd)}
theorem b_len (hg : Gl X "len") (hm : X.mg "len" = none) (ha : PAh X W CV (e :: es) ms) (n : noStar e = true) (ns : es.all noStar = true) : PEn X W CV (.Call (.Name "len" p) (e :: es) [] pos) (biM .len ms) := by
  refine PE.imp (pe_callB call_len hg hm PySem.boot_len ha (he := star_cons n) (hpl := star_plain ns)) fun σ H Q h => biA (op := opBI .len) (fun φ σ H fr ds b vs Q F q e P => ?_) σ H Q h
  cases ds with
  | nil => simp only [opBI, reduceCtorEq] at e
  | cons d r =>
    cases r with
    | cons _ _ => simp only [opBI, reduceCtorEq] at e
    | nil =>
      obtain ⟨v, rfl, pv⟩ := q.one
      cases d <;> simp only [opBI, reduceCtorEq] at e
      case str s =>
        obtain ⟨g, rfl⟩ := guard_ok e
        rw [pr_str pv]
        exact ⟨_, s.length, rfl, ⟨fits_ok g, rfl⟩, post_val F P rep_int⟩
      case list xs =>
        cases e
        obtain ⟨a, ys, rfl, h, rs⟩ := pr_list pv
        exact ⟨_, xs.length, rfl, .inl ⟨ys, h, rs.len⟩, post_val F P rep_int⟩
      case tuple xs =>
        cases e
        obtain ⟨a, ys, rfl, h, rs⟩ := pr_tuple pv
        exact ⟨_, xs.length, rfl, .inr ⟨ys, h, rs.len⟩, post_val F P rep_int⟩
/-- len(set(x)), x a text or a list of texts -/
def rLenSet (K : PySem.W.Frag) : List V → Hp → VK → Prop := fun xs H Q => (∃ s : Str, xs = [.str s] ∧ s.cps.size + 1 < scanBound ∧ Q (.int (nubS (signs s)).length) H) ∨ (∃ l, ∃ ys : List Str, xs = [.ref l] ∧ SqL K H l (ys.map V.str) ∧ ys.length + 1 < scanBound ∧ Q (.int (nubS ys).length) H)
theorem pe_setlen {t : TA} {p2 q : Pos} (hc : X.calm = true) (hg : Gl X "len") (hm : X.mg "len" = none) (hg2 : Gl X "set") (hm2 : X.mg "set" = none) (ha : PA X [e] t) (n : noStar e = true) : PE X (.Call (.Name "len" p) [.Call (.Name "set" p2) [e] [] q] [] pos) (tCB (rLenSet X.K) t) := by
  refine ⟨fun pins s σ H Q I h => ?_⟩
  refine Call_ (ld_blt I hg hm boot_len ?_)
  refine PyProof.Rows.callWith_builtin1 (PyProof.Rows.args_cons ?_ rfl) rfl rfl
  refine Call_ (ld_blt I hg2 hm2 boot_set ?_)
  refine PyProof.Rows.callWith_type1 (thn (ha.run q pins s σ H _ I h) fun us s1 ⟨vs, H1, I1, r1, q1⟩ => ?_) (star_cons n) (star_plain rfl)
  have fin : ∀ (ts : List Str) (h' : Heap) (tk : Nat), Q (.int (nubS ts).length) H1 → h'.SetOf (PySem.strKind X.prog X.w) s1.heap.objs.size (fun y => ts.any (· == y)) (nubS ts).length → (∀ b o, b < s1.heap.objs.size → s1.heap.get? b = some o → h'.get? b = some o) → ts.length + 1 < scanBound →
      wpAny (model X.prog X.w) X.A (spliced (backTo pos (starEach [] X.env))) (fun zs s2 => wpAny (model X.prog X.w) X.A (call (.builtin "len") (Value.ref s1.heap.objs.size :: zs)) (EP X pins σ Q) X.xe s2) X.xe { s1 with heap := h', toks := tk } := fun ts h' tk qq hS kp hb => by
    refine PyProof.Rows.args_nil ?_
    obtain ⟨o, es, ep, tt, ho, hex, hd, _, _, _, hf, hn⟩ := hS
    have I2 : Inv X pins σ H1 { s1 with heap := h', toks := tk } := I1.kept fun b o e => kp b o (Heap.lt_size e) e
    have le := nub_le ts
    refine call_len_set ho hex hd hf (by rw [hn]; unfold scanBound at hb; omega) ⟨.int (nubS ts).length, H1, I2.tok _, ⟨_, by rw [hn]⟩, qq⟩
  rcases q1 with ⟨x, rfl, hb, qq⟩ | ⟨l, ys, rfl, hq, hb, qq⟩
  · obtain ⟨u, rfl, tk, rfl⟩ := vals1 r1
    exact call_set_str (I1.ok.hd hc) hb fun h' tk hS kp => fin (signs x) h' tk qq hS kp (by rw [signs_len]; exact hb)
  · obtain ⟨u, rfl, rfl⟩ := vals1 r1
    obtain ⟨its, r, pl, hz⟩ := I1.list hq
    exact call_set_lst (I1.ok.hd hc) pl.isList (by simpa using strsAre_of r) hb fun h' tk hS kp => fin ys h' tk qq hS kp hb
theorem b_setlen {p2 q : Pos} (hc : X.calm = true) (hg : Gl X "len") (hm : X.mg "len" = none) (hg2 : Gl X "set") (hm2 : X.mg "set" = none) (ha : PAh X W CV [e] ms) (n : noStar e = true) : PEn X W CV (.Call (.Name "len" p) [.Call (.Name "set" p2) [e] [] q] [] pos) (biM .setlen ms) := by
  refine PE.imp (pe_setlen hc hg hm hg2 hm2 ha n) fun σ H Q h => biA (op := opBI .setlen) (fun φ σ H fr ds b vs Q F q e P => ?_) σ H Q h
  cases ds with
  | nil => simp only [opBI, reduceCtorEq] at e
  | cons d r =>
    cases r with
    | cons _ _ => simp only [opBI, reduceCtorEq] at e
    | nil =>
      obtain ⟨v, rfl, pv⟩ := q.one
      cases d <;> simp only [opBI, reduceCtorEq] at e
      case str s =>
        obtain ⟨g, rfl⟩ := guard_ok e
        have g := of_decide_eq_true g
        rw [pr_str pv]
        exact .inl ⟨s, rfl, by unfold scanBound; omega, post_val F P rep_int⟩
      case list xs =>
        obtain ⟨ys, hy, e⟩ := Option.bind_eq_some_iff.mp e
        obtain ⟨g, rfl⟩ := guard_ok e
        have g := of_decide_eq_true g
        obtain ⟨a, zs, rfl, h, rs⟩ := pr_list pv
        rw [asStrs_ok hy] at rs
        rw [reps_strs rs] at h
        exact .inr ⟨a, ys, rfl, h, by unfold scanBound; omega, post_val F P rep_int⟩
theorem b_abs (hg : Gl X "abs") (hm : X.mg "abs" = none) (ha : PAh X W CV (e :: es) ms) (n : noStar e = true) (ns : es.all noStar = true) : PEn X W CV (.Call (.Name "abs" p) (e :: es) [] pos) (biM .abs ms) := by
  refine PE.imp (pe_callB call_abs hg hm (by decide +kernel) ha (he := star_cons n) (hpl := star_plain ns)) fun σ H Q h => biA (op := opBI .abs) (fun φ σ H fr ds b vs Q F q e P => ?_) σ H Q h
  cases ds with
  | nil => simp only [opBI, reduceCtorEq] at e
  | cons d r =>
    cases r with
    | cons _ _ => simp only [opBI, reduceCtorEq] at e
    | nil =>
      obtain ⟨v, rfl, pv⟩ := q.one
      cases d <;> simp only [opBI, reduceCtorEq] at e
      cases e
      rw [pr_int pv]
      exact ⟨_, rfl, post_val F P rep_int⟩
theorem b_int (hg : Gl X "int") (hm : X.mg "int" = none) (ha : PAh X W CV (e :: es) ms) (n : noStar e = true) (ns : es.all noStar = true) : PEn X W CV (.Call (.Name "int" p) (e :: es) [] pos) (biM .int ms) := by
  refine PE.imp (pe_callTy (CallR.or call_int1 call_int_str) hg hm (by decide +kernel) ha (he := star_cons n) (hpl := star_plain ns)) fun σ H Q h => biA (op := opBI .int) (fun φ σ H fr ds b vs Q F q e P => ?_) σ H Q h
  cases ds with
  | nil => simp only [opBI, reduceCtorEq] at e
  | cons d r =>
    cases r with
    | cons _ _ => simp only [opBI, reduceCtorEq] at e
    | nil =>
      obtain ⟨v, rfl, pv⟩ := q.one
      cases d <;> simp only [opBI, reduceCtorEq] at e
      case int i =>
        cases e
        rw [pr_int pv]
        exact .inl (.inl ⟨_, rfl, post_val F P rep_int⟩)
      case bool i =>
        cases e
        rw [pr_bool pv]
        exact .inl (.inr ⟨_, rfl, post_val F P rep_int⟩)
      case str s =>
        obtain ⟨m, hm, e⟩ := Option.bind_eq_some_iff.mp e
        obtain ⟨g, rfl⟩ := guard_ok e
        rw [pr_str pv]
        exact .inr ⟨s, m, rfl, hm, of_decide_eq_true g, post_val F P rep_int⟩
theorem b_bool (hg : Gl X "bool") (hm : X.mg "bool" = none) (ha : PAh X W CV (e :: es) ms) (n : noStar e = true) (ns : es.all noStar = true) : PEn X W CV (.Call (.Name "bool" p) (e :: es) [] pos) (biM .bool ms) := by
  refine PE.imp (pe_callTy call_bool1 hg hm (by decide +kernel) ha (he := star_cons n) (hpl := star_plain ns)) fun σ H Q h => biA (op := opBI .bool) (fun φ σ H fr ds b vs Q F q e P => ?_) σ H Q h
  cases ds with
  | nil => simp only [opBI, reduceCtorEq] at e
  | cons d r =>
    cases r with
    | cons _ _ => simp only [opBI, reduceCtorEq] at e
    | nil =>
      obtain ⟨v, rfl, pv⟩ := q.one
      cases d <;> simp only [opBI, reduceCtorEq] at e
      case int i =>
        cases e
        rw [pr_int pv]
        exact .inl ⟨_, rfl, post_val F P rep_bool⟩
      case bool i =>
        cases e
        rw [pr_bool pv]
        exact .inr ⟨_, rfl, post_val F P rep_bool⟩
theorem b_str (hg : Gl X "str") (hm : X.mg "str" = none) (ha : PAh X W CV (e :: es) ms) (n : noStar e = true) (ns : es.all noStar = true) : PEn X W CV (.Call (.Name "str" p) (e :: es) [] pos) (biM .str ms) := by
  refine PE.imp (pe_callTy (CallR.or call_str_int SkE.call_str_str) hg hm (by decide +kernel) ha (he := star_cons n) (hpl := star_plain ns)) fun σ H Q h => biA (op := opBI .str) (fun φ σ H fr ds b vs Q F q e P => ?_) σ H Q h
  cases ds with
  | nil => simp only [opBI, reduceCtorEq] at e
  | cons d r =>
    cases r with
    | cons _ _ => simp only [opBI, reduceCtorEq] at e
    | nil =>
      obtain ⟨v, rfl, pv⟩ := q.one
      cases d <;> simp only [opBI, reduceCtorEq] at e
      case int i =>
        obtain ⟨g, rfl⟩ := guard_ok e
        rw [pr_int pv]
        exact .inl ⟨_, rfl, of_decide_eq_true g, post_val F P rep_str⟩
      case str s =>
        cases e
        rw [pr_str pv]
        exact .inr ⟨s, rfl, post_val F P rep_str⟩
theorem repKV_keys {K : PySem.W.Frag} : ∀ {kvs : List (D × D)} {ps : List (Key × V)}, RepKV K H kvs ps → Reps K H (kvs.map (·.1)) (ps.map fun kv => kV kv.1)
  | [], ps, h => by
    simp only [RepKV] at h
    subst h
    exact .nil
  | (k, d) :: r, ps, h => by
    simp only [RepKV] at h
    obtain ⟨z, v, vs, rfl, hk, _, rs⟩ := h
    refine .cons ?_ (repKV_keys rs)
    cases k <;> simp only [keyOf, reduceCtorEq, Option.some.injEq] at hk <;> subst hk <;> simp only [Rep] <;> rfl
theorem b_list (hc : X.calm = true) (hg : Gl X "list") (hm : X.mg "list" = none) (ha : PAh X W CV (e :: es) ms) (n : noStar e = true) (ns : es.all noStar = true) : PEn X W CV (.Call (.Name "list" p) (e :: es) [] pos) (biM .list ms) := by
  refine PE.imp (pe_callTy (CallR.or (CallR.or call_list_of (call_listD hc)) (call_listT hc)) hg hm (by decide +kernel) ha (he := star_cons n) (hpl := star_plain ns)) fun σ H Q h => biA (op := opBI .list) (fun φ σ H fr ds b vs Q F q e P => ?_) σ H Q h
  cases ds with
  | nil => simp only [opBI, reduceCtorEq] at e
  | cons d r =>
    cases r with
    | cons _ _ => simp only [opBI, reduceCtorEq] at e
    | nil =>
      obtain ⟨v, rfl, pv⟩ := q.one
      cases d <;> simp only [opBI, reduceCtorEq] at e
      case list xs =>
        cases e
        obtain ⟨a, ys, rfl, h, rs⟩ := pr_list pv
        exact .inl (.inl ⟨a, ys, rfl, .inl h, fun l hl => post_newL F P hl rs⟩)
      case tuple xs =>
        cases e
        obtain ⟨a, ys, rfl, h, rs⟩ := pr_tuple pv
        exact .inl (.inl ⟨a, ys, rfl, .inr h, fun l hl => post_newL F P hl rs⟩)
      case dict kvs =>
        cases e
        obtain ⟨a, ps, rfl, hr, rk⟩ := pv
        exact .inl (.inr ⟨a, ps, rfl, hr, fun l hl => post_newL F P hl (repKV_keys rk)⟩)
      case str s =>
        obtain ⟨g, rfl⟩ := guard_ok e
        rw [pr_str pv]
        refine .inr ⟨s, rfl, by have := fits_ok g; exact this, fun l hl => post_newL F P hl ?_⟩
        induction s.cps.toList with
        | nil => exact .nil
        | cons c r ih => exact .cons rep_str ih
theorem b_tuple (hg : Gl X "tuple") (hm : X.mg "tuple" = none) (ha : PAh X W CV (e :: es) ms) (n : noStar e = true) (ns : es.all noStar = true) : PEn X W CV (.Call (.Name "tuple" p) (e :: es) [] pos) (biM .tuple ms) := by
  refine PE.imp (pe_callTy call_tuple_of hg hm (by decide +kernel) ha (he := star_cons n) (hpl := star_plain ns)) fun σ H Q h => biA (op := opBI .tuple) (fun φ σ H fr ds b vs Q F q e P => ?_) σ H Q h
  cases ds with
  | nil => simp only [opBI, reduceCtorEq] at e
  | cons d r =>
    cases r with
    | cons _ _ => simp only [opBI, reduceCtorEq] at e
    | nil =>
      obtain ⟨v, rfl, pv⟩ := q.one
      cases d <;> simp only [opBI, reduceCtorEq] at e
      case list xs =>
        cases e
        obtain ⟨a, ys, rfl, h, rs⟩ := pr_list pv
        exact ⟨a, ys, rfl, .inl ⟨h, fun l hl => post_newT F P hl rs⟩⟩
      case tuple xs =>
        cases e
        obtain ⟨a, ys, rfl, h, rs⟩ := pr_tuple pv
        exact ⟨a, ys, rfl, .inr ⟨h, post_val F P (by simp only [Rep]; exact ⟨a, ys, rfl, h, rs⟩)⟩⟩
theorem b_sum (hc : X.calm = true) (hg : Gl X "sum") (hm : X.mg "sum" = none) (ha : PAh X W CV (e :: es) ms) (n : noStar e = true) (ns : es.all noStar = true) : PEn X W CV (.Call (.Name "sum" p) (e :: es) [] pos) (biM .sum ms) := by
  refine PE.imp (pe_callB (cr_sum hc) hg hm (by decide +kernel) ha (he := star_cons n) (hpl := star_plain ns)) fun σ H Q h => biA (op := opBI .sum) (fun φ σ H fr ds b vs Q F q e P => ?_) σ H Q h
  cases ds with
  | nil => simp only [opBI, reduceCtorEq] at e
  | cons d r =>
    cases r with
    | cons _ _ => simp only [opBI, reduceCtorEq] at e
    | nil =>
      obtain ⟨v, rfl, pv⟩ := q.one
      cases d <;> simp only [opBI, reduceCtorEq] at e
      obtain ⟨ks, ek, rfl⟩ := Option.map_eq_some_iff.mp e
      rw [asInts_ok ek] at pv
      obtain ⟨a, ys, rfl, h, rs⟩ := pr_list pv
      rw [reps_ints rs] at h
      exact ⟨a, ks, rfl, h, post_val F P rep_int⟩
theorem b_all (hc : X.calm = true) (hg : Gl X "all") (hm : X.mg "all" = none) (ha : PAh X W CV (e :: es) ms) (n : noStar e = true) (ns : es.all noStar = true) : PEn X W CV (.Call (.Name "all" p) (e :: es) [] pos) (biM .all ms) := by
  refine PE.imp (pe_callB (cr_all hc) hg hm (by decide +kernel) ha (he := star_cons n) (hpl := star_plain ns)) fun σ H Q h => biA (op := opBI .all) (fun φ σ H fr ds b vs Q F q e P => ?_) σ H Q h
  cases ds with
  | nil => simp only [opBI, reduceCtorEq] at e
  | cons d r =>
    cases r with
    | cons _ _ => simp only [opBI, reduceCtorEq] at e
    | nil =>
      obtain ⟨v, rfl, pv⟩ := q.one
      cases d <;> simp only [opBI, reduceCtorEq] at e
      obtain ⟨ks, ek, rfl⟩ := Option.map_eq_some_iff.mp e
      rw [asBools_ok ek] at pv
      obtain ⟨a, ys, rfl, h, rs⟩ := pr_list pv
      rw [reps_bools rs] at h
      exact ⟨a, ks, rfl, h, post_val F P rep_bool⟩
theorem b_any (hc : X.calm = true) (hg : Gl X "any") (hm : X.mg "any" = none) (ha : PAh X W CV (e :: es) ms) (n : noStar e = true) (ns : es.all noStar = true) : PEn X W CV (.Call (.Name "any" p) (e :: es) [] pos) (biM .any ms) := by
  refine PE.imp (pe_callB (cr_any hc) hg hm (by decide +kernel) ha (he := star_cons n) (hpl := star_plain ns)) fun σ H Q h => biA (op := opBI .any) (fun φ σ H fr ds b vs Q F q e P => ?_) σ H Q h
  cases ds with
  | nil => simp only [opBI, reduceCtorEq] at e
  | cons d r =>
    cases r with
    | cons _ _ => simp only [opBI, reduceCtorEq] at e
    | nil =>
      obtain ⟨v, rfl, pv⟩ := q.one
      cases d <;> simp only [opBI, reduceCtorEq] at e
      obtain ⟨ks, ek, rfl⟩ := Option.map_eq_some_iff.mp e
      rw [asBools_ok ek] at pv
      obtain ⟨a, ys, rfl, h, rs⟩ := pr_list pv
      rw [reps_bools rs] at h
      exact ⟨a, ks, rfl, h, post_val F P rep_bool⟩
def rMaxs (K : PySem.W.Frag) : List V → Hp → VK → Prop := fun xs H Q => (∃ i j, xs = [.int i, .int j] ∧ Q (.int (if j > i then j else i)) H) ∨ rMax K xs H Q
def rMins (K : PySem.W.Frag) : List V → Hp → VK → Prop := fun xs H Q => (∃ i j, xs = [.int i, .int j] ∧ Q (.int (if j < i then j else i)) H) ∨ rMin K xs H Q
theorem maxI_some {ns : List Int} {m : Int} (h : maxI ns = some m) : 0 < ns.length := by
  cases ns with
  | nil => cases h
  | cons _ _ => simp
theorem minI_some {ns : List Int} {m : Int} (h : minI ns = some m) : 0 < ns.length := by
  cases ns with
  | nil => cases h
  | cons _ _ => simp
theorem b_max (hc : X.calm = true) (hg : Gl X "max") (hm : X.mg "max" = none) (ha : PAh X W CV (e :: es) ms) (n : noStar e = true) (ns : es.all noStar = true) : PEn X W CV (.Call (.Name "max" p) (e :: es) [] pos) (biM .max ms) := by
  refine PE.imp (pe_callB (r := rMaxs X.K) (CallR.or (call_max2 hc) (cr_max hc)) hg hm (by decide +kernel) ha (he := star_cons n) (hpl := star_plain ns)) fun σ H Q h => biA (op := opBI .max) (fun φ σ H fr ds b vs Q F q e P => ?_) σ H Q h
  cases ds with
  | nil => simp only [opBI, reduceCtorEq] at e
  | cons d r =>
    cases r with
    | cons d2 r2 =>
      cases r2 with
      | cons _ _ => simp only [opBI, reduceCtorEq] at e
      | nil =>
        obtain ⟨v, v', rfl, pv, pv'⟩ := q.two
        cases d <;> cases d2 <;> simp only [opBI, reduceCtorEq] at e
        cases e
        rw [pr_int pv, pr_int pv']
        exact .inl ⟨_, _, rfl, post_val F P rep_int⟩
    | nil =>
      obtain ⟨v, rfl, pv⟩ := q.one
      cases d <;> simp only [opBI, reduceCtorEq] at e
      obtain ⟨ks, ek, e2⟩ := Option.bind_eq_some_iff.mp e
      obtain ⟨m, em, rfl⟩ := Option.map_eq_some_iff.mp e2
      rw [asInts_ok ek] at pv
      obtain ⟨a, ys, rfl, h, rs⟩ := pr_list pv
      rw [reps_ints rs] at h
      refine .inr ⟨a, ks, rfl, h, maxI_some em, fun m' h1 h2 => ?_⟩
      have em' := maxI_of h1 h2
      rw [em] at em'
      cases em'
      exact post_val F P rep_int
theorem b_min (hc : X.calm = true) (hg : Gl X "min") (hm : X.mg "min" = none) (ha : PAh X W CV (e :: es) ms) (n : noStar e = true) (ns : es.all noStar = true) : PEn X W CV (.Call (.Name "min" p) (e :: es) [] pos) (biM .min ms) := by
  refine PE.imp (pe_callB (r := rMins X.K) (CallR.or (call_min2 hc) (cr_min hc)) hg hm (by decide +kernel) ha (he := star_cons n) (hpl := star_plain ns)) fun σ H Q h => biA (op := opBI .min) (fun φ σ H fr ds b vs Q F q e P => ?_) σ H Q h
  cases ds with
  | nil => simp only [opBI, reduceCtorEq] at e
  | cons d r =>
    cases r with
    | cons d2 r2 =>
      cases r2 with
      | cons _ _ => simp only [opBI, reduceCtorEq] at e
      | nil =>
        obtain ⟨v, v', rfl, pv, pv'⟩ := q.two
        cases d <;> cases d2 <;> simp only [opBI, reduceCtorEq] at e
        cases e
        rw [pr_int pv, pr_int pv']
        exact .inl ⟨_, _, rfl, post_val F P rep_int⟩
    | nil =>
      obtain ⟨v, rfl, pv⟩ := q.one
      cases d <;> simp only [opBI, reduceCtorEq] at e
      obtain ⟨ks, ek, e2⟩ := Option.bind_eq_some_iff.mp e
      obtain ⟨m, em, rfl⟩ := Option.map_eq_some_iff.mp e2
      rw [asInts_ok ek] at pv
      obtain ⟨a, ys, rfl, h, rs⟩ := pr_list pv
      rw [reps_ints rs] at h
      refine .inr ⟨a, ks, rfl, h, minI_some em, fun m' h1 h2 => ?_⟩
      have em' := minI_of h1 h2
      rw [em] at em'
      cases em'
      exact post_val F P rep_int
theorem b_repr (hu : X.A.units + 65 < cLine) (hgd : X.A.guards = some []) (hg : Gl X "repr") (hm : X.mg "repr" = none) (ha : PAh X W CV (e :: es) ms) (n : noStar e = true) (ns : es.all noStar = true) : PEn X W CV (.Call (.Name "repr" p) (e :: es) [] pos) (biM .repr ms) := by
  refine PE.imp (pe_callB (call_repr hu hgd) hg hm (by decide +kernel) ha (he := star_cons n) (hpl := star_plain ns)) fun σ H Q h => biA (op := opBI .repr) (fun φ σ H fr ds b vs Q F q e P => ?_) σ H Q h
  cases ds with
  | nil => simp only [opBI, reduceCtorEq] at e
  | cons d r =>
    cases r with
    | cons _ _ => simp only [opBI, reduceCtorEq] at e
    | nil =>
      obtain ⟨v, rfl, pv⟩ := q.one
      simp only [opBI] at e
      obtain ⟨g, rfl⟩ := guard_ok e
      simp only [Bool.and_eq_true, Bool.not_eq_true', decide_eq_true_eq] at g
      obtain ⟨⟨⟨g1, g2⟩, g3⟩, g4⟩ := g
      exact ⟨v, d, rfl, pv.dp' g2, g1, g2, fits_ok g3, g4, post_val F P rep_str⟩
end
end Nw

set_option autoImplicit false
set_option maxRecDepth 100000
set_option maxHeartbeats 1000000
/-! Nw, part L: methods of texts, isinstance, dict displays, chains. -/
namespace Nw
open PySem PySem.Spec PyProof.Rows L2

section
variable {X : Cx} {W : WX} {CV : Str → Value} {φ : List Addr} {σ : L2.St} {H : Hp} {fr : Fr} {Q : VK}

/-! ### methods of texts -/
/-- a receiver that one may ask for a method -/
def plainRecv : Expr → Bool
  | .Call (.Name _ _) [] [] _ => false
  | _ => true
theorem recv_base {o : Expr} {name : Str} {env : Env} (h : plainRecv o = true) (t : Sem Value) : attributeBase o name env t = t := by
  unfold attributeBase
  split
  · rename_i e
    simp only [plainRecv, Bool.false_eq_true] at h
  · rfl
/-- a rule of a method by what it does on texts -/
def MKey (X : Cx) (W : WX) (CV : Str → Value) (m : MT) (r : V → List V → Hp → VK → Prop) : Prop := ∀ (φ : List Addr) (σ : L2.St) (H : Hp) (fr : Fr) (a : Str) (ds : List D) (b : RV) (vs : List V) (Q : VK), FR X.K φ σ H fr → PReps X.K H ds vs → opMT m a ds = some b → Post X.K W CV (RRV X.K) φ σ H fr (.ok b fr) Q → r (.str a) vs H Q
theorem met_rd {m : MT} {r : V → List V → Hp → VK → Prop} {mh : M Hd} {ms : M (List Hd)} (key : MKey X W CV m r) (σ : L2.St) (H : Hp) (Q : VK) (h : rd X.K W CV (RRV X.K) (metM m mh ms) σ H Q) :
    tBM X.K "str" r (rd X.K W CV (RHd X.K) mh) (rd X.K W CV (RHs X.K) ms) σ H Q := by
  obtain ⟨φ, fr, F, P⟩ := h
  refine ⟨φ, fr, F, Post.bind (R' := RRV X.K) back_RRV P fun hx fr1 v H1 φ1 _ x1 F1 q1 P1 => ?_⟩
  obtain ⟨d, p, P2⟩ := Post.view F1 q1 P1
  cases d with
  | str a =>
    rw [pr_str p]
    refine ⟨rfl, φ1, fr1, F1, Post.bind (R' := RRV X.K) back_RRV (f := fun hs => viewHs hs >>= fun ds => liftO (opMT m a ds)) P2 fun hs fr2 vs H2 φ2 _ x2 F2 q2 P3 => ?_⟩
    obtain ⟨ds, l, ps, P4⟩ := Post.views F2 q2 P3
    obtain ⟨b, e, P5⟩ := Post.lift P4
    exact key φ2 σ H2 fr2 a ds b vs Q F2 ⟨l, ps⟩ e P5
  | _ => exact P2.elim
theorem met0_rd {m : MT} {r : V → List V → Hp → VK → Prop} {mh : M Hd} (key : MKey X W CV m r) (σ : L2.St) (H : Hp) (Q : VK) (h : rd X.K W CV (RRV X.K) (metM m mh (pure [])) σ H Q) :
    tBM0 X.K "str" r (rd X.K W CV (RHd X.K) mh) σ H Q := by
  obtain ⟨φ, fr, F, P⟩ := h
  refine ⟨φ, fr, F, Post.bind (R' := RRV X.K) back_RRV P fun hx fr1 v H1 φ1 _ x1 F1 q1 P1 => ?_⟩
  obtain ⟨d, p, P2⟩ := Post.view F1 q1 P1
  cases d with
  | str a =>
    rw [pr_str p]
    refine ⟨rfl, ?_⟩
    have P3 : Post X.K W CV (RRV X.K) φ1 σ H1 fr1 (liftO (opMT m a []) fr1) Q := P2
    obtain ⟨b, e, P5⟩ := Post.lift P3
    exact key φ1 σ H1 fr1 a [] b [] Q F1 ⟨rfl, fun i d v e _ => by simp at e⟩ e P5
  | _ => exact P2.elim
theorem few_ok {pos : Pos} {env : Env} {es : List Expr} (ns : es.all noStar = true) (hl : es.length < 30) : ((backTo pos (starEach es env)).all (fun x => !x.1) && (backToKw pos (keywordEach [] env)).all (fun x => x.1.isSome)
      && decide (es.length + ([] : List Keyword).length + (if ([] : List Keyword).isEmpty then 0 else 1) < 30)) = true := by
  rw [star_all ns]
  have : es.length + ([] : List Keyword).length + (if ([] : List Keyword).isEmpty then 0 else 1) < 30 := by simpa using hl
  rw [decide_eq_true this]
  rfl
def mtStr : MT → String
  | .join => "join"
  | .split => "split"
  | .count => "count"
  | .index => "index"
  | .replace => "replace"
  | .upper => "upper"
  | .rpartition => "rpartition"
  | .find => "find"
  | .get => "get"
/-- methods that are carried -/
def mtOk : MT → Bool
  | .join => true
  | .split => true
  | .count => true
  | .index => true
  | .upper => true
  | .find => true
  | .rpartition => true
  | .replace => true
  | _ => false
theorem reps_all {K : PySem.W.Frag} {ys : List Str} {xs : List V} (r : Reps K H (ys.map .str) xs) : xs = ys.map V.str := reps_strs r
theorem post_newS {K : PySem.W.Frag} {ys : List Str} {Q : VK} (F : FR K φ σ H fr) (P : Post K W CV (RRV K) φ σ H fr (.ok (newL (ys.map .str)) fr) Q) : rNewStrs ys H Q := fun p hp => post_newL F P hp (reps_strs' ys)
theorem key_join : MKey X W CV .join (fun x xs H Q => ∃ a p, ∃ ys : List Str, x = .str a ∧ xs = [.ref p] ∧ (SqL X.K H p (ys.map V.str) ∨ SqT X.K H p (ys.map V.str)) ∧
    (ys.map (·.length)).sum + ys.length * a.length ≤ 16777216 ∧ Q (.str (Txt.join a ys)) H) := by
  intro φ σ H fr a ds b vs Q F q e P
  match ds with
  | [] => simp only [opMT, reduceCtorEq] at e
  | [d] =>
    obtain ⟨v, rfl, pv⟩ := q.one
    cases d <;> simp only [opMT, reduceCtorEq] at e
    case list xs =>
      obtain ⟨ys, ey, e⟩ := Option.bind_eq_some_iff.mp e
      obtain ⟨g, rfl⟩ := guard_ok e
      obtain ⟨p, zs, rfl, h, rs⟩ := pr_list pv
      rw [asStrs_ok ey] at rs
      rw [reps_strs rs] at h
      exact ⟨a, p, ys, rfl, rfl, .inl h, by simpa only [fits, decide_eq_true_eq] using g, post_val F P rep_str⟩
    case tuple xs =>
      obtain ⟨ys, ey, e⟩ := Option.bind_eq_some_iff.mp e
      obtain ⟨g, rfl⟩ := guard_ok e
      obtain ⟨p, zs, rfl, h, rs⟩ := pr_tuple pv
      rw [asStrs_ok ey] at rs
      rw [reps_strs rs] at h
      exact ⟨a, p, ys, rfl, rfl, .inr h, by simpa only [fits, decide_eq_true_eq] using g, post_val F P rep_str⟩
  | d :: _ :: _ => cases d <;> simp only [opMT, reduceCtorEq] at e
theorem key_one {m : MT} {r : V → List V → Hp → VK → Prop} (hm : ∀ (a : Str) (ds : List D) (b : RV), opMT m a ds = some b → ∃ y, ds = [.str y])
    (key : ∀ (φ : List Addr) (σ : L2.St) (H : Hp) (fr : Fr) (a y : Str) (b : RV) (Q : VK), FR X.K φ σ H fr → opMT m a [.str y] = some b → Post X.K W CV (RRV X.K) φ σ H fr (.ok b fr) Q → r (.str a) [.str y] H Q) : MKey X W CV m r := by
  intro φ σ H fr a ds b vs Q F q e P
  obtain ⟨y, rfl⟩ := hm a ds b e
  obtain ⟨v, rfl, pv⟩ := q.one
  rw [pr_str pv]
  exact key φ σ H fr a y b Q F e P
theorem shape_one {m : MT} (h : m = .split ∨ m = .count ∨ m = .find ∨ m = .index ∨ m = .rpartition) (a : Str) (ds : List D) (b : RV) (e : opMT m a ds = some b) : ∃ y, ds = [.str y] := by
  match ds with
  | [] => rcases h with rfl | rfl | rfl | rfl | rfl <;> simp only [opMT, reduceCtorEq] at e
  | [.str y] => exact ⟨y, rfl⟩
  | [.none] => rcases h with rfl | rfl | rfl | rfl | rfl <;> simp only [opMT, reduceCtorEq] at e
  | [.int _] => rcases h with rfl | rfl | rfl | rfl | rfl <;> simp only [opMT, reduceCtorEq] at e
  | [.bool _] => rcases h with rfl | rfl | rfl | rfl | rfl <;> simp only [opMT, reduceCtorEq] at e
  | [.list _] => rcases h with rfl | rfl | rfl | rfl | rfl <;> simp only [opMT, reduceCtorEq] at e
  | [.tuple _] => rcases h with rfl | rfl | rfl | rfl | rfl <;> simp only [opMT, reduceCtorEq] at e
  | [.dict _] => rcases h with rfl | rfl | rfl | rfl | rfl <;> simp only [opMT, reduceCtorEq] at e
  | d :: _ :: _ => rcases h with rfl | rfl | rfl | rfl | rfl <;> cases d <;> simp only [opMT, reduceCtorEq] at e
/-- replace: carried as what is not answered -/
theorem mt_repl : MtR X "str.replace" (fun _ _ _ _ => False) := by
  intro pins s σ H x xs v us Q I rx rs h
  exact h.elim
theorem mt_rpart : MtR X "str.rpartition" (fun x xs H Q => ∃ a b, x = .str a ∧ xs = [.str b] ∧ (b.length == 0) = false ∧ a.length ≤ sizeLine ∧
    ∀ p, H p = none → Q (.ref p) (upd H p (.tup [.str (Txt.rpartition a b).1, .str (Txt.rpartition a b).2.1, .str (Txt.rpartition a b).2.2]))) := by
  intro pins s σ H x xs v us Q I rx rs h
  obtain ⟨a, b, rfl, rfl, hb, hz, h⟩ := h
  obtain ⟨t, rfl⟩ := rx
  obtain ⟨u0, rfl, ru⟩ := vals1 rs
  obtain ⟨u, rfl⟩ := ru
  refine call_meets PySem.F.slot_str_rpartition (typeIs_str _ _ _) PySem.F.entry_str_rpartition (PySem.F.args_str_rpartition_2 _ _) (meets_str_rpartition a b t u hb hz) ?_
  unfold Txt.rpartition at h
  cases e : Builtin.Str.lastOccurrence a b 0 a.length with
  | none =>
    simp only [e] at h
    exact laid_parts I h
  | some i =>
    simp only [e] at h
    exact laid_parts I h
/-- the methods' rules and facts -/
structure MFact (X : Cx) (W : WX) (CV : Str → Value) (m : MT) (id : String) (r : V → List V → Hp → VK → Prop) : Prop where
  slot : PySem.Slot "str" (Str.ofString (mtStr m)) id
  ty : typeOf (.builtin id) = pure (.type "method_descriptor")
  run : MtR X id r
  key : MKey X W CV m r
theorem mfact : ∀ {m : MT}, mtOk m = true → ∃ id r, MFact X W CV m id r
  | .join, _ => ⟨_, _, PySem.F.slot_str_join, PySem.F.type_str_join, mt_join, key_join⟩
  | .split, _ => ⟨_, _, PySem.F.slot_str_split, PySem.F.type_str_split, mt_split, key_one (shape_one (.inl rfl)) fun φ σ H fr a y b Q F e P => by
      simp only [opMT] at e
      obtain ⟨g, rfl⟩ := guard_ok e
      obtain ⟨g1, g2⟩ := and_ok g
      exact ⟨a, y, rfl, rfl, by simpa only [bne, Bool.not_eq_true'] using g1, fits_ok g2, post_newS F P⟩⟩
  | .count, _ => ⟨_, _, PySem.F.slot_str_count, PySem.F.type_str_count, mt_count, key_one (shape_one (.inr (.inl rfl))) fun φ σ H fr a y b Q F e P => by
      simp only [opMT] at e
      cases e
      exact ⟨a, y, rfl, rfl, post_val F P rep_int⟩⟩
  | .find, _ => ⟨_, _, PySem.F.slot_str_find, PySem.F.type_str_find, mt_find, key_one (shape_one (.inr (.inr (.inl rfl)))) fun φ σ H fr a y b Q F e P => by
      simp only [opMT] at e
      cases e
      exact ⟨a, y, rfl, rfl, post_val F P rep_int⟩⟩
  | .index, _ => ⟨_, _, PySem.F.slot_str_index, PySem.F.type_str_index, mt_sindex, key_one (shape_one (.inr (.inr (.inr (.inl rfl))))) fun φ σ H fr a y b Q F e P => by
      simp only [opMT] at e
      cases ho : Builtin.Str.occurrences a y 0 a.length 1 with
      | nil =>
        rw [ho] at e
        cases e
      | cons i rest =>
        rw [ho] at e
        cases e
        exact ⟨a, y, i, rest, rfl, rfl, ho, post_val F P rep_int⟩⟩
  | .rpartition, _ => ⟨_, _, PySem.F.slot_str_rpartition, PySem.F.type_str_rpartition, mt_rpart, key_one (shape_one (.inr (.inr (.inr (.inr rfl))))) fun φ σ H fr a y b Q F e P => by
      simp only [opMT] at e
      obtain ⟨g, rfl⟩ := guard_ok e
      obtain ⟨g1, g2⟩ := and_ok g
      exact ⟨a, y, rfl, rfl, by simpa only [bne, Bool.not_eq_true'] using g1, fits_ok g2, fun p hp => post_newT F P hp (.cons rep_str (.cons rep_str (.cons rep_str .nil)))⟩⟩
  | .upper, _ => ⟨_, _, PySem.F.slot_str_upper, PySem.F.type_str_upper, mt_upper, fun φ σ H fr a ds b vs Q F q e P => by
      match ds with
      | [] =>
        simp only [opMT] at e
        obtain ⟨g, rfl⟩ := guard_ok e
        obtain ⟨l, _⟩ := q
        match vs, l with
        | [], _ => exact ⟨a, rfl, rfl, of_decide_eq_true g, post_val F P rep_str⟩
      | d :: _ => cases d <;> simp only [opMT, reduceCtorEq] at e⟩
  | .replace, _ => ⟨"str.replace", fun _ _ _ _ => False, PySem.F.slot_str_replace, PySem.F.type_str_replace, mt_repl, fun φ σ H fr a ds b vs Q F q e P => by simp only [opMT, reduceCtorEq] at e⟩
  | .get, h => by simp [mtOk] at h
theorem met_ok {o e : Expr} {es : List Expr} {apos cpos : Pos} {mh : M Hd} {ms : M (List Hd)} {m : MT} (hk : mtOk m = true) (ho : PEh X W CV o mh) (ha : PAh X W CV (e :: es) ms) (hb : plainRecv o = true) (hl : (apos.endLine == cpos.line) = true)
    (hf : (e :: es).length < 30) (n : noStar e = true) (ns : es.all noStar = true) : PEn X W CV (.Call (.Attribute o (Str.ofString (mtStr m)) apos) (e :: es) [] cpos) (metM m mh ms) := by
  obtain ⟨id, r, f⟩ := mfact (X := X) (W := W) (CV := CV) hk
  exact PE.imp (pe_bm PySem.F.plainAttrs_str f.slot f.ty f.run ho ha (hbase := recv_base hb _) (hfew := few_ok (es := e :: es) (by rw [List.all_cons, n, ns]; rfl) hf) (hline := hl) (hs := star_cons n) (hplain := star_plain ns)) fun σ H Q h => met_rd f.key σ H Q h
theorem met0_ok {o : Expr} {apos cpos : Pos} {mh : M Hd} {m : MT} (hk : mtOk m = true) (ho : PEh X W CV o mh) (hb : plainRecv o = true) (hl : (apos.endLine == cpos.line) = true) :
    PEn X W CV (.Call (.Attribute o (Str.ofString (mtStr m)) apos) [] [] cpos) (metM m mh (pure [])) := by
  obtain ⟨id, r, f⟩ := mfact (X := X) (W := W) (CV := CV) hk
  exact PE.imp (pe_bm0 PySem.F.plainAttrs_str f.slot f.ty f.run ho (hbase := recv_base hb _) (hline := hl)) fun σ H Q h => met0_rd f.key σ H Q h
end
end Nw

set_option autoImplicit false
set_option maxRecDepth 100000
set_option maxHeartbeats 1000000
/-! Nw, part M: isinstance, dict displays, chains. -/
namespace Nw
open PySem PySem.Spec PyProof.Rows L2

section
variable {X : Cx} {W : WX} {CV : Str → Value} {φ : List Addr} {σ : L2.St} {H : Hp} {fr : Fr} {Q : VK}

/-! ### isinstance -/
theorem sql_ty {K : PySem.W.Frag} {a : Addr} {xs : List V} (h : SqL K H a xs) : TyX K H (.ref a) (.type "list") := by
  rcases h with (h | ⟨o, h⟩) | ⟨o, _, _, h, c, _⟩
  · exact .base (.lst h)
  · exact .base (.frz h)
  · exact .kList h c
theorem sqt_ty {K : PySem.W.Frag} {a : Addr} {xs : List V} (h : SqT K H a xs) : TyX K H (.ref a) (.type "tuple") := by
  rcases h with (h | ⟨o, h⟩) | ⟨o, _, _, h, c, _⟩
  · exact .base (.tup h)
  · exact .fTuple h
  · exact .kTuple h c
theorem pr_ty {K : PySem.W.Frag} {d : D} {v : V} (p : PRep K H d v) : TyX K H v (.type (typD d)) := by
  cases d with
  | none => rw [pr_none p]; exact .base .non
  | bool _ => rw [pr_bool p]; exact .base (.bl _)
  | int _ => rw [pr_int p]; exact .base (.int _)
  | str _ => rw [pr_str p]; exact .base (.str _)
  | list _ =>
    obtain ⟨a, _, rfl, h, _⟩ := pr_list p
    exact sql_ty h
  | tuple _ =>
    obtain ⟨a, _, rfl, h, _⟩ := pr_tuple p
    exact sqt_ty h
  | dict _ =>
    obtain ⟨a, ps, rfl, h | ⟨o, h⟩, _⟩ := p
    · exact .base (.dK h)
    · exact .fDict h
def tyName (x : Str) : Option String := if x = "str" then some "str" else if x = "int" then some "int" else if x = "bool" then some "bool" else if x = "list" then some "list" else if x = "tuple" then some "tuple" else none
theorem tyName_cases {x : Str} {t : String} (h : tyName x = some t) : (x = "str" ∧ t = "str") ∨ (x = "int" ∧ t = "int") ∨ (x = "bool" ∧ t = "bool") ∨ (x = "list" ∧ t = "list") ∨ (x = "tuple" ∧ t = "tuple") := by
  unfold tyName at h
  split at h
  · cases h; exact .inl ⟨by assumption, rfl⟩
  · split at h
    · cases h; exact .inr (.inl ⟨by assumption, rfl⟩)
    · split at h
      · cases h; exact .inr (.inr (.inl ⟨by assumption, rfl⟩))
      · split at h
        · cases h; exact .inr (.inr (.inr (.inl ⟨by assumption, rfl⟩)))
        · split at h
          · cases h; exact .inr (.inr (.inr (.inr ⟨by assumption, rfl⟩)))
          · cases h
theorem kit_dt {x : Str} {t : String} (h : tyName x = some t) (K : PySem.W.Frag) (d : D) : PySem.W.kitOne K (.type (typD d)) (.type t) = some (isiD d t) := by
  refine kit_ty ?_
  have m : typD d ∈ ["NoneType", "bool", "int", "str", "list", "tuple", "dict"] := by cases d <;> simp [typD]
  unfold isiD
  revert m
  generalize typD d = n
  intro m
  rcases tyName_cases h with ⟨_, rfl⟩ | ⟨_, rfl⟩ | ⟨_, rfl⟩ | ⟨_, rfl⟩ | ⟨_, rfl⟩ <;> (revert n; decide +kernel)
theorem ty_boot {x : Str} {t : String} (h : tyName x = some t) : bootBuiltins x = some (.type t) ∧ x ≠ "__name__" ∧ (x == ("__debug__" : Str)) = false := by
  rcases tyName_cases h with ⟨rfl, rfl⟩ | ⟨rfl, rfl⟩ | ⟨rfl, rfl⟩ | ⟨rfl, rfl⟩ | ⟨rfl, rfl⟩ <;> exact ⟨by decide +kernel, by decide, by decide⟩
theorem ty_pe {x : Str} {t : String} {p : Pos} (h : tyName x = some t) (hg : Gl X x) (hm : X.mg x = none) : PE X (.Name x p) (tC (.ty t)) := pe_bltn hg hm (ty_boot h).1 rfl (ty_boot h).2.1 (ty_boot h).2.2
theorem isi_ok {a : Expr} {x : Str} {t : String} {p q pos : Pos} {mh : M Hd} (ha : PEh X W CV a mh) (ht : tyName x = some t) (hg : Gl X "isinstance") (hm : X.mg "isinstance" = none) (hg2 : Gl X x) (hm2 : X.mg x = none) (n : noStar a = true) :
    PEn X W CV (.Call (.Name "isinstance" p) [a, .Name x q] [] pos) (isiM [t] mh) := by
  refine PE.imp (pe_callB call_isi hg hm (by decide +kernel) (pa_cons ha (pa_cons (ty_pe ht hg2 hm2) pa_nil (star_cons rfl)) (star_cons n)) (he := star_cons n) (hpl := star_plain rfl)) fun σ H Q ⟨φ, fr, F, P⟩ => ?_
  refine ⟨φ, fr, F, Post.bind (R' := RRV X.K) back_RRV P fun hx fr1 v H1 φ1 _ x1 F1 q1 P1 => ?_⟩
  obtain ⟨d, pd, P2⟩ := Post.view F1 q1 P1
  refine ⟨v, .ty t, .type (typD d), .type t, isiD d t, rfl, .ty t, pr_ty pd, kit_dt ht X.K d, ?_⟩
  have e : ([t].any (isiD d)) = isiD d t := by simp
  rw [e] at P2
  exact post_val F1 P2 rep_bool
/-- the classes of a tuple -/
inductive TyNs (X : Cx) : List Expr → List String → Prop where
  | nil : TyNs X [] []
  | cons {x : Str} {t : String} {p : Pos} {es : List Expr} {ts : List String} (h : tyName x = some t) (hg : Gl X x) (hm : X.mg x = none) (r : TyNs X es ts) : TyNs X (.Name x p :: es) (t :: ts)
theorem tyNs_pa : ∀ {es : List Expr} {ts : List String}, TyNs X es ts → PA X es (fun _ H Q => Q (ts.map .ty) H)
  | _, _, .nil => PA.imp pa_nil fun σ H Q h => h
  | _, _, .cons h hg hm r => PA.imp (pa_cons (ty_pe h hg hm) (tyNs_pa r) (star_cons rfl)) fun σ H Q q => q
theorem tyNs_pair : ∀ {es : List Expr} {ts : List String}, TyNs X es ts → Paired ClsV (ts.map V.ty) (ts.map Value.type)
  | _, _, .nil => .nil
  | _, _, .cons h hg hm r => .cons (.ty _) (tyNs_pair r)
theorem tyNs_any {K : PySem.W.Frag} {d : D} : ∀ {es : List Expr} {ts : List String}, TyNs X es ts → PySem.W.kitAny K (.type (typD d)) (ts.map Value.type) = some (ts.any (isiD d))
  | _, _, .nil => kitAny_nil
  | _, _, .cons h hg hm r => by
    rw [List.map_cons, List.any_cons]
    refine kitAny_cons (kit_dt h K d) (fun e => ?_) (fun e => ?_)
    · rw [e, Bool.false_or]
      exact tyNs_any r
    · rw [e, Bool.true_or]
theorem isiT_ok {a : Expr} {es : List Expr} {ts : List String} {k : Nat} {p q pos : Pos} {mh : M Hd} (ha : PEh X W CV a mh) (ht : TyNs X es ts) (hg : Gl X "isinstance") (hm : X.mg "isinstance" = none) (n : noStar a = true) (hl : ts.length < 30) :
    PEn X W CV (.Call (.Name "isinstance" p) [a, .Tuple es k q] [] pos) (isiM ts mh) := by
  refine PE.imp (pe_callB call_isiT hg hm (by decide +kernel) (pa_cons ha (pa_cons (pe_tup (tyNs_pa ht)) pa_nil (star_cons rfl)) (star_cons n)) (he := star_cons n) (hpl := star_plain rfl)) fun σ H Q ⟨φ, fr, F, P⟩ => ?_
  refine ⟨φ, fr, F, Post.bind (R' := RRV X.K) back_RRV P fun hx fr1 v H1 φ1 _ x1 F1 q1 P1 => ?_⟩
  refine ⟨by rw [List.length_map, sizeLine_eq]; omega, fun tp htp => ?_⟩
  obtain ⟨F2, x2⟩ := F1.laid (u := .tup (ts.map V.ty)) htp
  have P1' := Post.later (R := RRV X.K) back_RRV x2 P1
  obtain ⟨d, pd, P2⟩ := Post.view F2 (q1.later (Hy := H1) x2) P1'
  exact ⟨v, tp, ts.map V.ty, .type (typD d), ts.map Value.type, ts.any (isiD d), rfl, upd_same, tyNs_pair ht, pr_ty pd, tyNs_any ht, post_val F2 P2 rep_bool⟩

/-! ### a op b op c -/
/-- readings of a chain, whatever its answer is for -/
theorem chain_rd {ma mb mc : M Hd} {ρ β : Type} {R : Rl ρ β} (bk : Back R) {o o' : COp} {f : Bool → M β} {G : (ρ → Hp → Prop) → VK} (key : ∀ (φ : List Addr) (H : Hp) (fr : Fr) (b : Bool) (Q : ρ → Hp → Prop) (σ : L2.St), FR X.K φ σ H fr → Post X.K W CV R φ σ H fr (f b fr) Q → G Q (.bl b) H) (σ : L2.St) (H : Hp) (Q : ρ → Hp → Prop)
    (h : rd X.K W CV R (chainM o o' ma mb mc >>= f) σ H Q) : tChain (rcOf X.K o) (rcOf X.K o') (rd X.K W CV (RHd X.K) ma) (rd X.K W CV (RHd X.K) mb) (rd X.K W CV (RHd X.K) mc) σ H (G Q) := by
  obtain ⟨φ, fr, F, P⟩ := h
  have e : (chainM o o' ma mb mc >>= f) = (ma >>= fun x => mb >>= fun y => viewH x >>= fun d => viewH y >>= fun d' => liftO (opC o d d') >>= fun t =>
      (if t then mc >>= fun z => viewH y >>= fun d' => viewH z >>= fun d2 => liftO (opC o' d' d2) else pure false) >>= f) := by
    simp only [chainM, bind_assoc]
  rw [e] at P
  refine ⟨φ, fr, F, Post.bind bk P fun hx fr1 v H1 φ1 _ x1 F1 q1 P1 => ?_⟩
  refine ⟨φ1, fr1, F1, Post.bind bk P1 fun hy fr2 u H2 φ2 _ x2 F2 q2 P2 => ?_⟩
  obtain ⟨d, p1, P3⟩ := Post.view F2 (q1.later (Hy := H2) x2) P2
  obtain ⟨d', p2, P4⟩ := Post.view F2 q2 P3
  rw [bind_eq] at P4
  cases eo : opC o d d' with
  | none =>
    rw [eo] at P4
    exact P4.elim
  | some b =>
    rw [eo] at P4
    have P5 : Post X.K W CV R φ2 σ H2 fr2 (((if b then mc >>= fun z => viewH hy >>= fun d' => viewH z >>= fun d2 => liftO (opC o' d' d2) else pure false) >>= f) fr2) Q := P4
    refine keyc_of o d d' b v u _ p1 p2 eo ⟨b, rfl, ?_⟩
    cases b with
    | false => exact iteF (key φ2 H2 fr2 false Q σ F2 P5)
    | true =>
      refine iteT ⟨φ2, fr2, F2, ?_⟩
      have e2 : ((if true then mc >>= fun z => viewH hy >>= fun d' => viewH z >>= fun d2 => liftO (opC o' d' d2) else pure false) >>= f) = (mc >>= fun z => viewH hy >>= fun d' => viewH z >>= fun d2 => liftO (opC o' d' d2) >>= f) := by
        rw [if_pos rfl]
        simp only [bind_assoc]
      rw [e2] at P5
      refine Post.bind bk P5 fun hz fr3 w H3 φ3 _ x3 F3 q3 P6 => ?_
      obtain ⟨d3, p3, P7⟩ := Post.view F3 (q2.later (Hy := H3) x3) P6
      obtain ⟨d4, p4, P8⟩ := Post.view F3 q3 P7
      rw [bind_eq] at P8
      cases eo' : opC o' d3 d4 with
      | none =>
        rw [eo'] at P8
        exact P8.elim
      | some b' =>
        rw [eo'] at P8
        exact keyc_of o' d3 d4 b' u w _ p3 p4 eo' (key φ3 H3 fr3 b' Q σ F3 P8)
theorem chain_ok {a b c : Expr} {pos : Pos} {ma mb mc : M Hd} (hu : X.A.units + 65 < cLine) (o o' : COp) (ha : PEh X W CV a ma) (hb : PEh X W CV b mb) (hc : PEh X W CV c mc) (hm : lastMarks [copOp o, copOp o'] [b, c] = false) :
    PEn X W CV (.Compare a [copOp o, copOp o'] [b, c] pos) (chainM o o' ma mb mc >>= fun t => pure (vD (.bool t))) :=
  PE.imp (pe_chain (cop_of hu o) (cop_of hu o') ha hb hc hm) fun σ H Q h => chain_rd (G := fun Q => Q) back_RRV (fun φ H fr b Q σ F P => post_val F P rep_bool) σ H Q h
theorem chainT_ok {a b c : Expr} {pos : Pos} {ma mb mc : M Hd} (hu : X.A.units + 65 < cLine) (o o' : COp) (ha : PEh X W CV a ma) (hb : PEh X W CV b mb) (hc : PEh X W CV c mc) (hm : lastMarks [copOp o, copOp o'] [b, c] = false) :
    PTt X W CV (.Compare a [copOp o, copOp o'] [b, c] pos) (chainM o o' ma mb mc) := by
  refine PT.imp (pt_chain (cop_of hu o) (cop_of hu o') ha hb hc hm) fun σ H Q h => ?_
  have h : rd X.K W CV RBool (chainM o o' ma mb mc >>= fun t => pure t) σ H Q := by
    have e : (chainM o o' ma mb mc >>= fun t => pure t) = chainM o o' ma mb mc := bind_pure _
    rw [e]
    exact h
  exact chain_rd (G := fun Q x H' => ∃ k, x = .bl k ∧ Q k H') (f := fun t => pure t) back_RBool (fun φ H fr b Q σ F (P : Post X.K W CV RBool φ σ H fr (.ok b fr) Q) => ⟨b, rfl, P b H φ (Ext.refl _ _ _) F rfl⟩) σ H Q h

/-! ### dicts -/
theorem dnew_ok {pos : Pos} : PEn X W CV (.Dict [] [] pos) (pure (.new (.dic []))) := by
  refine PE.imp pe_dnewK fun σ H Q ⟨φ, fr, F, P⟩ => fun p hp => ?_
  obtain ⟨F2, x2⟩ := F.laid (u := .dK []) hp
  obtain ⟨n1, n2⟩ := F.free hp
  exact P _ _ φ x2 F2 ⟨p, rfl, hp, n1, n2, [], upd_same, rfl⟩
end
end Nw

set_option autoImplicit false
set_option maxRecDepth 100000
set_option maxHeartbeats 1000000
/-! Nw, part N: what is walked. -/
namespace Nw
open PySem PySem.Spec PyProof.Rows L2 RZ

/-- J yields the items xs, whatever comes from H on -/
structure Wk (K : PySem.W.Frag) (φ : List Addr) (O : Addr → Prop) (J : It) (xs : List D) (H : Hp) : Prop where
  go : ∀ (φ' : List Addr) (O' : Addr → Prop) (H' : Hp), Ext φ O H φ' O' H' → ∀ (i : Nat) (d : D), xs[i]? = some d → J.go i H' ∧ ∀ x H'', J.yld i H' x H'' → (H'' = H' ∨ ∃ p u, H' p = none ∧ H'' = upd H' p u) ∧ Rep K H'' d x
  stop : ∀ (φ' : List Addr) (O' : Addr → Prop) (H' : Hp), Ext φ O H φ' O' H' → J.stop xs.length H'
abbrev NoA : Addr → Prop := fun _ => False
theorem Ext.weak {φ φ' : List Addr} {O O' : Addr → Prop} {H H' : Hp} (x : Ext φ NoA H φ' O' H') : Ext φ O H φ' O' H' := ⟨x.pre, x.pers, fun a u e nt n _ => x.keep a u e nt n fun z => z, x.dom, fun a h => (x.own a h).elim (fun z => z.elim) .inr⟩
theorem Wk.weak {K : PySem.W.Frag} {φ : List Addr} {O : Addr → Prop} {J : It} {xs : List D} {H : Hp} (w : Wk K φ O J xs H) : Wk K φ NoA J xs H := ⟨fun φ' O' H' x => w.go φ' O' H' x.weak, fun φ' O' H' x => w.stop φ' O' H' x.weak⟩
theorem Reps.get' {K : PySem.W.Frag} {H : Hp} {ds : List D} {vs : List V} {i : Nat} {d : D} (r : Reps K H ds vs) (e : ds[i]? = some d) : ∃ v, vs[i]? = some v ∧ Rep K H d v := r.get e
section
variable {K : PySem.W.Frag} {φ : List Addr} {O : Addr → Prop} {H : Hp}
theorem wk_list {a : Addr} {ds : List D} {vs : List V} (hl : ∀ φ' O' H', Ext φ O H φ' O' H' → SqL K H' a vs) (r : Reps K H ds vs) : Wk K φ O (Itl K a) ds H :=
  ⟨fun φ' O' H' x i d e => by
    obtain ⟨v, ev, rv⟩ := r.get e
    refine ⟨⟨vs, v, hl φ' O' H' x, ev⟩, fun y H'' ⟨e1, e2⟩ => ?_⟩
    subst e1
    have e3 := e2 vs (hl _ _ _ x)
    rw [ev] at e3
    cases e3
    exact ⟨.inl rfl, Rep.pers x.pers rv⟩, fun φ' O' H' x => ⟨vs, hl φ' O' H' x, by rw [r.len]; exact Nat.le_refl _⟩⟩
theorem wk_tup {a : Addr} {ds : List D} {vs : List V} (h : SqT K H a vs) (r : Reps K H ds vs) : Wk K φ O (Itt K a) ds H :=
  ⟨fun φ' O' H' x i d e => by
    obtain ⟨v, ev, rv⟩ := r.get e
    refine ⟨⟨vs, v, x.pers.sqt h, ev⟩, fun y H'' ⟨e1, e2⟩ => ?_⟩
    subst e1
    have e3 := e2 vs (x.pers.sqt h)
    rw [ev] at e3
    cases e3
    exact ⟨.inl rfl, Rep.pers x.pers rv⟩, fun φ' O' H' x => ⟨vs, x.pers.sqt h, by rw [r.len]; exact Nat.le_refl _⟩⟩
theorem wk_str (s : Str) : Wk K φ O (Its s) (s.cps.toList.map fun c => .str ⟨#[c]⟩) H :=
  ⟨fun φ' O' H' x i d e => by
    rw [List.getElem?_map, Option.map_eq_some_iff] at e
    obtain ⟨c, ec, rfl⟩ := e
    have hi : i < s.cps.size := by simpa using (List.getElem?_eq_some_iff.mp ec).1
    refine ⟨hi, fun y H'' ⟨e1, c', e2, e3⟩ => ?_⟩
    subst e1 e3
    have ec : s.cps[i]? = some c := by rw [← Array.getElem?_toList]; exact ec
    rw [ec] at e2
    cases e2
    exact ⟨.inl rfl, rep_str⟩, fun φ' O' H' x => by
    show s.cps.size ≤ _
    rw [List.length_map]
    simp⟩
theorem wk_range (lo : Int) (n : Nat) : Wk K φ O (Itr lo n) ((List.range n).map fun (k : Nat) => .int (lo + (k : Int))) H :=
  ⟨fun φ' O' H' x i d e => by
    rw [List.getElem?_map, Option.map_eq_some_iff] at e
    obtain ⟨c, ec, rfl⟩ := e
    have hi : i < n := by simpa using (List.getElem?_eq_some_iff.mp ec).1
    have ei : i = c := by
      have := (List.getElem?_eq_some_iff.mp ec).2
      simpa using this
    subst ei
    refine ⟨hi, fun y H'' ⟨e1, e2⟩ => ?_⟩
    subst e1 e2
    exact ⟨.inl rfl, rep_int⟩, fun φ' O' H' x => by
    show n ≤ _
    simp⟩
theorem rep_pair {x y : V} {d d' : D} {p : Addr} {u : HO} (hp : H p = none) (rx : Rep K H d x) (ry : Rep K H d' y) : Rep K (upd H p (.tup [x, y])) (.tuple [d, d']) (.ref p) := by
  simp only [Rep]
  exact ⟨p, [x, y], rfl, .of upd_same, Reps.pers (pers_new hp) (.cons rx (.cons ry .nil))⟩
theorem pairs_get {xs ys : List D} {i : Nat} {d : D} (e : (pairsD xs ys)[i]? = some d) : ∃ x y, xs[i]? = some x ∧ ys[i]? = some y ∧ d = .tuple [x, y] := by
  unfold pairsD at e
  rw [List.getElem?_map, Option.map_eq_some_iff] at e
  obtain ⟨⟨x, y⟩, e1, rfl⟩ := e
  have e2 := List.getElem?_zip_eq_some.mp e1
  exact ⟨x, y, e2.1, e2.2, rfl⟩
theorem pairs_len {xs ys : List D} : (pairsD xs ys).length = min xs.length ys.length := by simp [pairsD]
theorem wk_enum {a : Addr} {ds : List D} {vs : List V} (h : FzL K H a vs) (r : Reps K H ds vs) : Wk K φ O (Ite K a) (pairsD ((List.range ds.length).map fun (k : Nat) => .int (k : Int)) ds) H :=
  ⟨fun φ' O' H' x i d e => by
    obtain ⟨n, d', en, ed, rfl⟩ := pairs_get e
    obtain ⟨v, ev, rv⟩ := r.get ed
    rw [List.getElem?_map, Option.map_eq_some_iff] at en
    obtain ⟨c, ec, rfl⟩ := en
    have ei : i = c := by
      have := (List.getElem?_eq_some_iff.mp ec).2
      simpa using this
    subst ei
    have hs := (x.pers.fz h).sq
    refine ⟨⟨vs, v, hs, ev⟩, fun y H'' ⟨T, z, e1, hT, e2, e3⟩ => ?_⟩
    subst e1 e2
    have e4 := e3 vs hs
    rw [ev] at e4
    cases e4
    exact ⟨.inr ⟨T, _, hT, rfl⟩, rep_pair (u := .lst []) hT rep_int (Rep.pers x.pers rv)⟩, fun φ' O' H' x => ⟨vs, (x.pers.fz h).sq, by rw [pairs_len, List.length_map, List.length_range, r.len]; omega⟩⟩
theorem wk_zip {a b : Addr} {ds es : List D} {vs ws : List V} (h : FzL K H a vs) (r : Reps K H ds vs) (h' : FzL K H b ws) (r' : Reps K H es ws) : Wk K φ O (Itz K a b) (pairsD ds es) H :=
  ⟨fun φ' O' H' x i d e => by
    obtain ⟨d1, d2, e1, e2, rfl⟩ := pairs_get e
    obtain ⟨v, ev, rv⟩ := r.get e1
    obtain ⟨w, ew, rw'⟩ := r'.get e2
    have hs := (x.pers.fz h).sq
    have hs' := (x.pers.fz h').sq
    refine ⟨⟨vs, ws, v, w, hs, hs', ev, ew⟩, fun y H'' ⟨T, y1, y2, e3, hT, e4, e5, e6⟩ => ?_⟩
    subst e3 e4
    have e7 := e5 vs hs
    have e8 := e6 ws hs'
    rw [ev] at e7
    rw [ew] at e8
    cases e7
    cases e8
    exact ⟨.inr ⟨T, _, hT, rfl⟩, rep_pair (u := .lst []) hT (Rep.pers x.pers rv) (Rep.pers x.pers rw')⟩, fun φ' O' H' x => ⟨vs, ws, (x.pers.fz h).sq, (x.pers.fz h').sq, by rw [pairs_len, r.len, r'.len]; omega⟩⟩
theorem wk_zipT {a b : Addr} {ds es : List D} {vs ws : List V} (h : SqT K H a vs) (r : Reps K H ds vs) (h' : SqT K H b ws) (r' : Reps K H es ws) : Wk K φ O (ItzT K a b) (pairsD ds es) H :=
  ⟨fun φ' O' H' x i d e => by
    obtain ⟨d1, d2, e1, e2, rfl⟩ := pairs_get e
    obtain ⟨v, ev, rv⟩ := r.get e1
    obtain ⟨w, ew, rw'⟩ := r'.get e2
    have hs := x.pers.sqt h
    have hs' := x.pers.sqt h'
    refine ⟨⟨vs, ws, v, w, hs, hs', ev, ew⟩, fun y H'' ⟨T, y1, y2, e3, hT, e4, e5, e6⟩ => ?_⟩
    subst e3 e4
    have e7 := e5 vs hs
    have e8 := e6 ws hs'
    rw [ev] at e7
    rw [ew] at e8
    cases e7
    cases e8
    exact ⟨.inr ⟨T, _, hT, rfl⟩, rep_pair (u := .lst []) hT (Rep.pers x.pers rv) (Rep.pers x.pers rw')⟩, fun φ' O' H' x => ⟨vs, ws, x.pers.sqt h, x.pers.sqt h', by rw [pairs_len, r.len, r'.len]; omega⟩⟩
end
/-- what is walked: in a loop, where the frame may change; in a comprehension, where it may not -/
def RIF (K : PySem.W.Frag) : Rl It (List D) := fun _ φ σ fr H' J xs => Wk K φ (Ow σ fr) J xs H'
def RIC (K : PySem.W.Frag) : Rl It (List D) := fun _ φ _ _ H' J xs => Wk K φ NoA J xs H'
theorem back_RIF {K : PySem.W.Frag} : Back (RIF K) := fun _ _ _ _ _ _ _ _ _ h => h
theorem back_RIC {K : PySem.W.Frag} : Back (RIC K) := fun _ _ _ _ _ _ _ _ _ h => h
section
variable {X : Cx} {W : WX} {CV : Str → Value} {φ : List Addr} {σ : L2.St} {H : Hp} {fr : Fr} {Q : VK} {tg e : Expr}
abbrev PIf (X : Cx) (W : WX) (CV : Str → Value) (tg e : Expr) (m : M (List D)) : Prop := PI X tg e (rd X.K W CV (RIF X.K) m)
abbrev PIc (X : Cx) (W : WX) (CV : Str → Value) (tg e : Expr) (m : M (List D)) : Prop := PI X tg e (rd X.K W CV (RIC X.K) m)
theorem PI.imp {wi wi' : TI} (h : PI X tg e wi) (i : ∀ σ H R, wi' σ H R → wi σ H R) : PI X tg e wi' := ⟨fun pins s σ H R I q => h.run pins s σ H R I (i σ H R q)⟩
/-- a loop's source serves a comprehension -/
theorem PIf.c {m : M (List D)} (h : PIf X W CV tg e m) : PIc X W CV tg e m := PI.imp h fun σ H R ⟨φ, fr, F, P⟩ => ⟨φ, fr, F, by
  cases q : m fr with
  | ok b fr' =>
    rw [q] at P
    exact fun v H' φ' x f r => P v H' φ' x f r.weak
  | exc c p fr' =>
    rw [q] at P
    exact P
  | stuck =>
    rw [q] at P
    exact P.elim⟩
abbrev PEd (X : Cx) (W : WX) (CV : Str → Value) (e : Expr) (m : M D) : Prop := PE X e (rd X.K W CV (RD X.K) m)
theorem toD_ok {m : M RV} (h : PEn X W CV e m) : PEd X W CV e (toD m) := by
  refine PE.imp (toV_ok h) fun σ H Q ⟨φ, fr, F, P⟩ => ⟨φ, fr, F, ?_⟩
  refine Post.bind (R' := RD X.K) back_RD (f := Dv.toD) P fun x fr1 v H1 φ1 _ x1 F1 q P1 => ?_
  cases x with
  | py d => exact P1 v H1 φ1 (Ext.refl _ _ _) F1 q
  | obj l => exact P1.elim
theorem liftP {ρ β : Type} {K : PySem.W.Frag} {R : Rl ρ β} {o : Option β} {fr1 : Fr} {Q : ρ → Hp → Prop} (h : Post K W CV R φ σ H fr (liftO o fr1) Q) : ∃ b, o = some b ∧ Post K W CV R φ σ H fr (.ok b fr1) Q := by
  cases o with
  | none => exact h.elim
  | some b => exact ⟨b, rfl, h⟩
/-- a value's items, in a loop -/
theorem itemsF_ok {m : M D} (h : PEd X W CV e m) : PIf X W CV tg e (m >>= fun d => liftO (itemsOf d)) := by
  refine ⟨fun pins s σ H R I ⟨φ, fr, F, P⟩ => ?_⟩
  rw [bind_eq] at P
  cases q : m fr with
  | stuck =>
    rw [q] at P
    exact P.elim
  | exc c p fr' =>
    rw [q] at P
    exact (pi_list h).run pins s σ H R I ⟨φ, fr, F, by rw [q]; exact P⟩
  | ok d fr1 =>
    rw [q] at P
    obtain ⟨xs, ex, P⟩ := liftP (show Post X.K W CV (RIF X.K) φ σ H fr (liftO (itemsOf d) fr1) R from P)
    cases d <;> simp only [itemsOf, reduceCtorEq] at ex
    case list ds =>
      cases ex
      refine (pi_list h).run pins s σ H R I ⟨φ, fr, F, ?_⟩
      rw [q]
      intro v H1 φ1 x F1 r
      have r : Rep X.K H1 (.list xs) v := r
      simp only [Rep] at r
      obtain ⟨a, vs, rfl, hf, rs⟩ := r
      exact ⟨a, rfl, ⟨vs, hf.sq⟩, P _ H1 φ1 x F1 (wk_list (fun φ' O' H' x' => (x'.pers.fz hf).sq) rs)⟩
    case tuple ds =>
      cases ex
      refine (pi_tup h).run pins s σ H R I ⟨φ, fr, F, ?_⟩
      rw [q]
      intro v H1 φ1 x F1 r
      have r : Rep X.K H1 (.tuple xs) v := r
      simp only [Rep] at r
      obtain ⟨a, vs, rfl, hf, rs⟩ := r
      exact ⟨a, rfl, ⟨vs, hf⟩, P _ H1 φ1 x F1 (wk_tup hf rs)⟩
    case str z =>
      cases ex
      refine (pi_str h).run pins s σ H R I ⟨φ, fr, F, ?_⟩
      rw [q]
      intro v H1 φ1 x F1 r
      have r : Rep X.K H1 (.str z) v := r
      simp only [Rep] at r
      exact ⟨z, r, P _ H1 φ1 x F1 (wk_str z)⟩

/-! ### dict displays -/
/-- the step, from a later state, told from the start -/
theorem Post.bind1 {ρ ρ' β γ : Type} {K : PySem.W.Frag} {φ1 : List Addr} {H1 : Hp} {fr1 : Fr} {R : Rl ρ β} {R' : Rl ρ' γ} {m : Res β} {f : β → M γ} {Q : ρ' → Hp → Prop} {Q1 : ρ → Hp → Prop} (x0 : Ext φ (Ow σ fr) H φ1 (Ow σ fr1) H1) (h : Post K W CV R' φ σ H fr (m.andThen f) Q)
    (k : ∀ b fr2 v H2 φ2, m = .ok b fr2 → Ext φ1 (Ow σ fr1) H1 φ2 (Ow σ fr2) H2 → FR K φ2 σ H2 fr2 → R H1 φ2 σ fr2 H2 v b → Post K W CV R' φ σ H fr (f b fr2) Q → Q1 v H2) : Post K W CV R φ1 σ H1 fr1 m Q1 := by
  cases m with
  | ok b fr2 => exact fun v H2 φ2 x f2 q => k b fr2 v H2 φ2 rfl x f2 q h
  | exc c p fr2 => exact ⟨h.1, fun H' φ' x f => h.2 H' φ' (x0.trans x) f⟩
  | stuck => exact h
theorem key_rep {K : PySem.W.Frag} {d : D} {v : V} (h : keyD d = true) (r : Rep K H d v) : ∃ z, keyOf d = some z ∧ v = kV z := by
  cases d <;> simp only [keyD, Bool.false_eq_true] at h
  · simp only [Rep] at r
    exact ⟨_, rfl, r⟩
  · simp only [Rep] at r
    exact ⟨_, rfl, r⟩
def trs (K : PySem.W.Frag) (W : WX) (CV : Str → Value) (l : List (M D × M Dv)) : List (TE × TE) := l.map fun p => (rd K W CV (RD K) p.1, rd K W CV (RDv K) p.2)
theorem pairs_rd {K : PySem.W.Frag} : ∀ (l : List (M D × M Dv)) {f : List (D × Dv) → M RV} {φ1 : List Addr} {H1 : Hp} {fr1 : Fr} {Q1 : List (V × V) → Hp → Prop}, FR K φ1 σ H1 fr1 → Ext φ (Ow σ fr) H φ1 (Ow σ fr1) H1 → Post K W CV (RRV K) φ σ H fr ((kvM l >>= f) fr1) Q →
    (∀ kvs zs φ2 fr2 H2, Ext φ1 (Ow σ fr1) H1 φ2 (Ow σ fr2) H2 → FR K φ2 σ H2 fr2 → zs.length = l.length → RepVKV K φ2 H2 kvs zs → Post K W CV (RRV K) φ σ H fr (f kvs fr2) Q → Q1 (zs.map fun kv => (kV kv.1, kv.2)) H2) → tPairs (trs K W CV l) σ H1 Q1
  | [], f, φ1, H1, fr1, Q1, F1, x1, P, k => k [] [] φ1 fr1 H1 (Ext.refl _ _ _) F1 rfl rfl P
  | (mk, mv) :: l, f, φ1, H1, fr1, Q1, F1, x1, P, k => by
    have e : (kvM ((mk, mv) :: l) >>= f) = (mk >>= fun d => (if keyD d then mv >>= fun x => kvM l >>= fun q => pure ((d, x) :: q) else stuckM) >>= f) := by
      simp only [kvM, bind_assoc]
    rw [e] at P
    refine ⟨φ1, fr1, F1, Post.bind1 (R' := RRV K) (f := fun d => (if keyD d then mv >>= fun x => kvM l >>= fun q => pure ((d, x) :: q) else stuckM) >>= f) x1 P fun d fr2 v H2 φ2 he2 x2 F2 q2 P2 => ?_⟩
    by_cases hk : keyD d = true
    · rw [if_pos hk] at P2
      have e2 : ((mv >>= fun x => kvM l >>= fun q => pure ((d, x) :: q)) >>= f) = (mv >>= fun x => kvM l >>= fun q => f ((d, x) :: q)) := by
        simp only [bind_assoc, pure_bind]
      rw [e2] at P2
      obtain ⟨z, hz, rfl⟩ := key_rep hk q2
      refine ⟨φ2, fr2, F2, Post.bind1 (R' := RRV K) (f := fun x => kvM l >>= fun q => f ((d, x) :: q)) (x1.trans x2) P2 fun x fr3 u H3 φ3 he3 x3 F3 q3 P3 => ?_⟩
      refine pairs_rd l (f := fun q => f ((d, x) :: q)) F3 ((x1.trans x2).trans x3) P3 fun kvs zs φ4 fr4 H4 x4 F4 hl rv P4 => ?_
      exact k ((d, x) :: kvs) ((z, u) :: zs) φ4 fr4 H4 (x2.trans (x3.trans x4)) F4 (by rw [List.length_cons, List.length_cons, hl]) ⟨z, u, zs, rfl, hz, RepV.ext x4.pers x4.pre' q3, rv⟩ P4
    · rw [if_neg hk] at P2
      exact P2.elim
theorem key_eq {a b : D} {x y : Key} (ha : keyOf a = some x) (hb : keyOf b = some y) : keyEq a b = decide (x = y) := by
  cases a <;> simp only [keyOf, reduceCtorEq] at ha <;> cases ha <;> cases b <;> simp only [keyOf, reduceCtorEq] at hb <;> cases hb <;> simp [keyEq]
theorem kv_any {K : PySem.W.Frag} {k : D} {z : Key} (hk : keyOf k = some z) : ∀ {kvs : List (D × Dv)} {ps : List (Key × V)}, RepVKV K φ H kvs ps → (kvs.any fun p => keyEq p.1 k) = ps.any fun kv => decide (kv.1 = z)
  | [], _, h => by cases h; rfl
  | (d, x) :: r, _, h => by
    obtain ⟨y, v, vs, rfl, hy, _, rs⟩ := h
    rw [List.any_cons, List.any_cons, kv_any hk rs, key_eq hy hk]
theorem kv_map {K : PySem.W.Frag} {k : D} {z : Key} {x : Dv} {w : V} (hk : keyOf k = some z) (rx : RepV K φ H x w) : ∀ {kvs : List (D × Dv)} {ps : List (Key × V)}, RepVKV K φ H kvs ps → RepVKV K φ H (kvs.map fun p => if keyEq p.1 k then (p.1, x) else p) (ps.map fun kv => if kv.1 = z then (kv.1, w) else kv)
  | [], _, h => by cases h; rfl
  | (d, y) :: r, _, h => by
    obtain ⟨q, v, vs, rfl, hy, ry, rs⟩ := h
    rw [List.map_cons, List.map_cons]
    have e := key_eq hy hk
    by_cases hq : q = z
    · rw [decide_eq_true hq] at e
      rw [show keyEq (d, y).1 k = true from e, if_pos rfl, if_pos (show ((q, v) : Key × V).1 = z from hq)]
      exact ⟨q, w, _, rfl, hy, rx, kv_map hk rx rs⟩
    · rw [decide_eq_false hq] at e
      rw [show keyEq (d, y).1 k = false from e, if_neg Bool.false_ne_true, if_neg (show ¬ ((q, v) : Key × V).1 = z from hq)]
      exact ⟨q, v, _, rfl, hy, ry, kv_map hk rx rs⟩
theorem kv_app {K : PySem.W.Frag} : ∀ {kvs ls : List (D × Dv)} {ps qs : List (Key × V)}, RepVKV K φ H kvs ps → RepVKV K φ H ls qs → RepVKV K φ H (kvs ++ ls) (ps ++ qs)
  | [], _, _, _, h, g => by cases h; exact g
  | (d, y) :: r, _, _, _, h, g => by
    obtain ⟨q, v, vs, rfl, hy, ry, rs⟩ := h
    exact ⟨q, v, _, rfl, hy, ry, kv_app rs g⟩
theorem kv_put {K : PySem.W.Frag} {k : D} {z : Key} {x : Dv} {w : V} (hk : keyOf k = some z) (rx : RepV K φ H x w) {kvs : List (D × Dv)} {ps : List (Key × V)} (h : RepVKV K φ H kvs ps) : RepVKV K φ H (putD kvs k x) (putK ps z w) := by
  unfold putD putK
  rw [kv_any hk h]
  split
  · exact kv_map hk rx h
  · exact kv_app h ⟨z, w, [], rfl, hk, rx, rfl⟩
theorem kv_merge {K : PySem.W.Frag} : ∀ {more kvs : List (D × Dv)} {rs ps : List (Key × V)}, RepVKV K φ H more rs → RepVKV K φ H kvs ps → RepVKV K φ H (mergeD kvs more) (mergeK ps rs)
  | [], _, _, _, h, g => by cases h; exact g
  | (d, y) :: r, kvs, _, ps, h, g => by
    obtain ⟨q, v, vs, rfl, hy, ry, rs⟩ := h
    have z : RepVKV K φ H (mergeD (putD kvs d y) r) (mergeK (putK ps q v) vs) := kv_merge (more := r) (rs := vs) rs (kv_put hy ry g)
    exact z
/-- a container outside the frame is written -/
theorem FR.wr {K : PySem.W.Frag} (F : FR K φ σ H fr) {a : Addr} {u u' : HO} (n1 : a ∉ φ) (n2 : ¬ Oa σ fr a) (p : Pers H (upd H a u')) (tb : TabE H (upd H a u')) : FR K φ σ (upd H a u') fr := by
  have ownE : ∀ {b : Addr} {o : OD}, b ≠ a → OwnR K φ H b o → OwnR K φ (upd H a u') b o := fun {b o} n q => OwnR.ext p ⟨[], by simp⟩ (fun w hw => by rw [upd_ne n]; exact hw) q
  refine ⟨F.len, fun j t ht => ?_, F.inj, F.nd, F.stl, fun l o' ho => ?_, tb _ F.tabs⟩
  · have q := F.slot j t ht
    cases t with
    | un => trivial
    | val x =>
      obtain ⟨v, e, r'⟩ := q
      exact ⟨v, e, RepV.ext p ⟨[], by simp⟩ r'⟩
    | own o' =>
      obtain ⟨b, e, n', r'⟩ := q
      exact ⟨b, e, n', ownE (fun z => by subst z; exact n2 ⟨j, _, ht, rfl, e⟩) r'⟩
    | lok o' =>
      obtain ⟨b, e, n', r'⟩ := q
      exact ⟨b, e, n', ownE (fun z => by subst z; exact n2 ⟨j, _, ht, rfl, e⟩) r'⟩
  · obtain ⟨b, e, r'⟩ := F.st l o' ho
    exact ⟨b, e, ownE (fun z => by subst z; exact n1 (List.mem_of_getElem? e)) r'⟩
theorem pers_dk {a : Addr} {kvs ps : List (Key × V)} (hu : H a = some (.dK kvs)) : Pers H (upd H a (.dK ps)) := by
  refine ⟨fun b xs e => ?_, fun b o w e => ?_⟩
  · by_cases z : b = a
    · subst z
      rw [hu] at e
      cases e
    · rw [upd_ne z]
      exact e
  · by_cases z : b = a
    · subst z
      rw [hu] at e
      cases e
    · rw [upd_ne z]
      exact e
theorem okSl_oa {K : PySem.W.Frag} {φ2 : List Addr} {H2 : Hp} {fr2 : Fr} {a : Addr} (F : FR K φ σ H fr) (F2 : FR K φ2 σ H2 fr2) (h : okSl fr.sl fr2.sl = true) (n : ¬ Oa σ fr a) : ¬ Oa σ fr2 a := by
  rintro ⟨i, s, h1, h2, h3⟩
  have hi : i < fr.sl.length := by
    rw [F.len, ← F2.len]
    exact (List.getElem?_eq_some_iff.mp h1).1
  have hz : (fr.sl.zip fr2.sl)[i]? = some (fr.sl[i], s) := List.getElem?_zip_eq_some.mpr ⟨List.getElem?_eq_getElem hi, h1⟩
  have q := List.all_eq_true.mp h _ (List.mem_of_getElem? hz)
  simp only [h2, Bool.not_true, Bool.false_or] at q
  exact n ⟨i, fr.sl[i], List.getElem?_eq_getElem hi, q, h3⟩
theorem disp_ok {pos : Pos} {keys : List (Option Expr)} {values : List Expr} {l : List (M D × M Dv)} (h : PPs X pos keys values (trs X.K W CV l)) (hall : keys.all (·.isSome) = true) (hl : keys.length = values.length) (h0 : keys ≠ []) (h15 : keys.length ≤ 15) (hz : l.length ≤ 15) :
    PEn X W CV (.Dict keys values pos) (dicM (kvM l)) := by
  refine PE.imp (pe_disp h hall hl h0 h15) fun σ H Q ⟨φ, fr, F, P⟩ p hp => ?_
  obtain ⟨F1, x1⟩ := F.laid (u := .dK []) hp
  obtain ⟨n1, n2⟩ := F.free hp
  have P : Post X.K W CV (RRV X.K) φ σ H fr ((kvM l >>= fun kvs fr2 => if okSl fr.sl fr2.sl then .ok (.new (.dic (mergeD [] kvs))) fr2 else .stuck) fr) Q := P
  refine pairs_rd l F1 x1 P fun kvs zs φ2 fr2 H2 x2 F2 hln rv P2 => ?_
  by_cases ho : okSl fr.sl fr2.sl = true
  · have P2 : Post X.K W CV (RRV X.K) φ σ H fr (if okSl fr.sl fr2.sl then .ok (.new (.dic (mergeD [] kvs))) fr2 else .stuck) Q := P2
    rw [if_pos ho] at P2
    have n1' : ¬ Ow σ fr p := fun z => n2 z.oa
    have e2 : H2 p = some (.dK []) := x2.keep p _ upd_same (fun _ z => nomatch z) n1 n1'
    have n3 : p ∉ φ2 := by
      intro hm
      obtain ⟨ψ, e, hn⟩ := x2.pre
      rw [e] at hm
      rcases List.mem_append.mp hm with hm | hm
      · exact n1 hm
      · have := hn p hm
        rw [upd_same] at this
        cases this
    have n4 : ¬ Oa σ fr2 p := okSl_oa F F2 ho n2
    have pz : Pers H2 (upd H2 p (.dK (mergeK [] zs))) := pers_dk e2
    have tz : TabE H2 (upd H2 p (.dK (mergeK [] zs))) := tabE_fz e2 trivial
    have F3 := F2.wr (u := .dK []) (u' := .dK (mergeK [] zs)) n3 n4 pz tz
    have x12 := x1.trans x2
    refine ⟨e2, zs, rfl, by omega, P2 (.ref p) _ φ2 ⟨x12.pre, x12.pers.trans pz, fun b w hb nt nb no => ?_, fun b hb => ?_, x12.own⟩ F3 ⟨p, rfl, hp, n3, n4, _, upd_same, ?_⟩⟩
    · rw [upd_ne (fun z => by subst z; rw [hp] at hb; cases hb)]
      exact x12.keep b w hb nt nb no
    · by_cases z : b = p
      · subst z
        exact hp
      · rw [upd_ne z] at hb
        exact x12.dom b hb
    · exact RepVKV.ext pz ⟨[], by simp⟩ (kv_merge rv rfl)
  · have P2 : Post X.K W CV (RRV X.K) φ σ H fr (if okSl fr.sl fr2.sl then .ok (.new (.dic (mergeD [] kvs))) fr2 else .stuck) Q := P2
    rw [if_neg ho] at P2
    exact P2.elim
end
end Nw

set_option autoImplicit false
set_option maxRecDepth 100000
set_option maxHeartbeats 1000000
/-! Nw, part O0: zip of two things of any kind (lists, tuples, texts). -/
namespace Nw
open PySem PySem.Spec PyProof.Rows L2 RZ

inductive ZK where
  | l (a : Addr)
  | t (a : Addr)
  | s (x : Str) (tk : Tok)
def ZK.it : ZK → Addr → Nat → Heap → Prop
  | .l a, i1, k, h => h.IsListIter i1 a k
  | .t a, i1, k, h => h.IsTupleIter i1 a k
  | .s x tk, i1, k, h => h.IsStrIter i1 (strIterType x) x tk k
def ZK.sq (K : PySem.W.Frag) : ZK → Hp → List V → Prop
  | .l a, H, xs => SqL K H a xs
  | .t a, H, xs => SqT K H a xs
  | .s x _, _, xs => xs = x.cps.toList.map fun c => V.str ⟨#[c]⟩
def ZK.fp : ZK → Addr → List Addr
  | .l a, i => [i, a]
  | .t a, i => [i, a]
  | .s _ _, i => [i]
def ZK.non : ZK → Addr → Prop
  | .l a, n => a ≠ n
  | .t a, n => a ≠ n
  | .s _ _, _ => True
theorem ZK.nin {z : ZK} {n i : Addr} (h : z.non n) (hi : n ≠ i) : n ∉ z.fp i := by
  intro m
  cases z with
  | l a =>
    have m' : n = i ∨ n = a := by simpa [ZK.fp] using m
    rcases m' with e | e
    · exact hi e
    · exact h e.symm
  | t a =>
    have m' : n = i ∨ n = a := by simpa [ZK.fp] using m
    rcases m' with e | e
    · exact hi e
    · exact h e.symm
  | s x tk =>
    have m' : n = i := by simpa [ZK.fp] using m
    exact hi m'
theorem ZK.inn {z : ZK} {i : Addr} : i ∈ z.fp i := by cases z <;> simp [ZK.fp]
theorem ZK.it_at {z : ZK} {i1 : Addr} {k : Nat} {h h' : Heap} (H : z.it i1 k h) (kp : ∀ o, h.get? i1 = some o → h'.get? i1 = some o) : z.it i1 k h' := by
  cases z with
  | l a => exact Heap.IsListIter.at H kp
  | t a => exact Heap.IsTupleIter.at H kp
  | s x tk => obtain ⟨o, ho, r⟩ := H; exact ⟨o, kp o ho, r⟩
theorem ZK.it_obj {z : ZK} {i1 : Addr} {k : Nat} {h : Heap} (H : z.it i1 k h) : ∃ o, h.get? i1 = some o ∧ ∀ v, o.data ≠ .cell v := by
  cases z with
  | l a => obtain ⟨o, e, _, d⟩ := H; exact ⟨o, e, fun v q => by rw [d] at q; cases q⟩
  | t a => obtain ⟨o, e, _, d⟩ := H; exact ⟨o, e, fun v q => by rw [d] at q; cases q⟩
  | s x tk => obtain ⟨o, e, _, d⟩ := H; exact ⟨o, e, fun v q => by rw [d] at q; cases q⟩
theorem vals_back {xs : List V} {us : List Value} {i : Nat} {u : Value} (r : Vals xs us) (h : us[i]? = some u) : ∃ x, xs[i]? = some x ∧ RelV x u := by
  have hi : i < us.length := (List.getElem?_eq_some_iff.mp h).1
  have hx : xs[i]? = some (xs[i]'(by rw [r.length]; exact hi)) := List.getElem?_eq_getElem _
  obtain ⟨w, hw, rw'⟩ := r.get hx
  rw [h] at hw
  cases hw
  exact ⟨_, hx, rw'⟩
section
variable {X : Cx} {pins : List (Addr × Obj)} {σ : L2.St} {H : Hp} {s : Shared}
theorem ZK.draws {A : Around} {z : ZK} {xs : List V} {i1 : Addr} (I : Inv X pins σ H s) (hq : z.sq X.K H xs) (hh : A.handled = none) (hb : z.non i1) :
    ∃ (P : Nat → Value → Prop) (St : Nat → Heap → Prop), Draws X.prog X.w A i1 (z.fp i1) xs.length P St ∧ (∀ i h, St i h → z.it i1 i h) ∧ (∀ i, z.it i1 i s.heap → St i s.heap) ∧ ∀ i v, P i v → ∃ x, xs[i]? = some x ∧ RelV x v := by
  cases z with
  | l a =>
    obtain ⟨its, rv, p, _⟩ := I.list hq
    refine ⟨fun i v => its.toArray[i]? = some v, fun i h => h.IsListIter i1 a i ∧ h.IsList a its.toArray, by rw [show xs.length = its.toArray.size by rw [rv.length]; simp]; exact Draws.list hh i1 a hb its.toArray, fun i h q => q.1, fun i q => ⟨q, p.isList⟩, fun i v q => vals_back rv (by simpa using q)⟩
  | t a =>
    obtain ⟨its, rv, p, _⟩ := I.tuple hq
    refine ⟨fun i v => its.toArray[i]? = some v, fun i h => h.IsTupleIter i1 a i ∧ h.IsTuple a its.toArray, by rw [show xs.length = its.toArray.size by rw [rv.length]; simp]; exact Draws.tuple hh i1 a hb its.toArray, fun i h q => q.1, fun i q => ⟨q, p⟩, fun i v q => vals_back rv (by simpa using q)⟩
  | s x tk =>
    have hq : xs = x.cps.toList.map fun c => V.str ⟨#[c]⟩ := hq
    subst hq
    refine ⟨fun i v => ∃ c u, x.cps[i]? = some c ∧ v = .str ⟨#[c]⟩ u, fun i h => h.IsStrIter i1 (strIterType x) x tk i, by rw [show (x.cps.toList.map fun c => V.str ⟨#[c]⟩).length = x.cps.size by simp]; exact Draws.text hh i1 x tk, fun i h q => q, fun i q => q, fun i v q => ?_⟩
    obtain ⟨c, u, hc, rfl⟩ := q
    refine ⟨.str ⟨#[c]⟩, ?_, u, rfl⟩
    rw [List.getElem?_map, Array.getElem?_toList, hc]
    rfl
theorem ZK.inj {z : ZK} {xs ys : List V} (I : Inv X pins σ H s) (h : z.sq X.K H xs) (h' : z.sq X.K H ys) : xs = ys := by
  cases z with
  | l a => exact I.list_inj h h'
  | t a => exact I.tuple_inj h h'
  | s x tk => exact Eq.trans h (Eq.symm h')
end
/-- z1 and z2 as they stand at each turn, the items in new pairs -/
def Itg (K : PySem.W.Frag) (z1 z2 : ZK) : It :=
  ⟨fun i H => ∃ (xs ys : List V) (x y : V), z1.sq K H xs ∧ z2.sq K H ys ∧ xs[i]? = some x ∧ ys[i]? = some y,
    fun i H v H' => ∃ T x y, v = .ref T ∧ H T = none ∧ H' = upd H T (.tup [x, y]) ∧ (∀ xs, z1.sq K H xs → xs[i]? = some x) ∧ ∀ ys, z2.sq K H ys → ys[i]? = some y,
    fun i H => ∃ xs ys : List V, z1.sq K H xs ∧ z2.sq K H ys ∧ i = min xs.length ys.length⟩
structure ZA (z1 z2 : ZK) (z TI TO i1 i2 : Addr) : Prop where
  S : ZipSep2 z TI TO i1 i2 (z1.fp i1) (z2.fp i2)
  n1 : z1.non i1
  n2 : z2.non i2
theorem za_new {z1 z2 : ZK} {n : Nat} (h1 : ∀ m : Nat, n ≤ m → z1.non m) (h2 : ∀ m : Nat, n ≤ m → z2.non m) : ZA z1 z2 (n + 4 : Nat) (n + 2 : Nat) (n + 3 : Nat) n (n + 1 : Nat) where
  S := { TIz := show (n + 2 : Nat) ≠ n + 4 by omega, TOz := show (n + 3 : Nat) ≠ n + 4 by omega, TITO := show (n + 2 : Nat) ≠ n + 3 by omega, TIi1 := show (n + 2 : Nat) ≠ n by omega, mem1 := ZK.inn, zf1 := ZK.nin (h1 _ (by omega)) (show (n + 4 : Nat) ≠ n by omega), Tf1 := ZK.nin (h1 _ (by omega)) (show (n + 3 : Nat) ≠ n by omega),
         TIi2 := show (n + 2 : Nat) ≠ n + 1 by omega, mem2 := ZK.inn, zf2 := ZK.nin (h2 _ (by omega)) (show (n + 4 : Nat) ≠ n + 1 by omega), Tf2 := ZK.nin (h2 _ (by omega)) (show (n + 3 : Nat) ≠ n + 1 by omega), sep1_2 := ZK.nin (h2 _ (by omega)) (show (n : Nat) ≠ n + 1 by omega), sep2_1 := ZK.nin (h1 _ (by omega)) (show (n + 1 : Nat) ≠ n by omega) }
  n1 := h1 _ (by omega)
  n2 := h2 _ (by omega)
theorem turn_zipG {P : Program} {w : World} {K : PySem.W.Frag} {elts : List Expr} {kk : Nat} {tpos : Pos} {z1 z2 : ZK} {z TI TO i1 i2 : Addr} (D : ZA z1 z2 z TI TO i1 i2) :
    Turn P w K (.Tuple elts kk tpos) (Itg K z1 z2) [z, TI, TO, i1, i2] z (fun i h => IsZip h z TI TO .none ∧ IsTupOf2 h TI (.ref i1) (.ref i2) ∧ (∃ x y, IsTupOf2 h TO x y) ∧ z1.it i1 i h ∧ z2.it i2 i h) where
  mem := by simp
  obj := fun i h st c hc => by
    obtain ⟨hz, hTI, ⟨x, y, hTO⟩, h1, h2⟩ := st
    have e' : c = z ∨ c = TI ∨ c = TO ∨ c = i1 ∨ c = i2 := by simpa using hc
    rcases e' with q | q | q | q | q
    · rw [q]; exact ⟨_, hz, fun v q => nomatch q⟩
    · rw [q]; exact ⟨_, hTI, fun v q => nomatch q⟩
    · rw [q]; exact ⟨_, hTO, fun v q => nomatch q⟩
    · rw [q]; exact ZK.it_obj h1
    · rw [q]; exact ZK.it_obj h2
  keep := fun i h h' st k => by
    obtain ⟨hz, hTI, ⟨x, y, hTO⟩, h1, h2⟩ := st
    exact ⟨k z (by simp) _ hz, k TI (by simp) _ hTI, ⟨x, y, k TO (by simp) _ hTO⟩, ZK.it_at h1 fun o q => k i1 (by simp) o q, ZK.it_at h2 fun o q => k i2 (by simp) o q⟩
  item := by
    intro X hP hw hK hc i pins s σ H E I hf st hg
    subst hP hw hK
    obtain ⟨hz, hTI, ⟨x0, y0, hTO⟩, h1, h2⟩ := st
    obtain ⟨xs, ys, x, y, hqx, hqy, hx, hy⟩ := hg
    obtain ⟨P1, St1, D1, a1, b1, c1⟩ := ZK.draws (A := X.A.in1) I hqx (I.ok.hd hc) D.n1
    obtain ⟨P2, St2, D2, a2, b2, c2⟩ := ZK.draws (A := X.A.in1) I hqy (I.ok.hd hc) D.n2
    have hzl : z < s.heap.objs.size := Heap.lt_size hz
    refine wpAny_pyNext_zipD2_item D.S D1 D2 hz hTI hTO (b1 i h1) (b2 i h2) (List.getElem?_eq_some_iff.mp hx).1 (List.getElem?_eq_some_iff.mp hy).1 fun u u2 h' tk p1 p2 z' TO' s1' s2' hT hsz hk => ?_
    obtain ⟨x', hx', ru⟩ := c1 i u p1
    obtain ⟨y', hy', ru2⟩ := c2 i u2 p2
    rw [hx] at hx'
    rw [hy] at hy'
    cases hx'
    cases hy'
    have h1' := a1 _ _ s1'
    have h2' := a2 _ _ s2'
    refine ⟨_, rfl, wpAny_letOwnedTupleGo_zip (s := { s with heap := h', toks := tk }) z' fun h'' z'' sb => ?_⟩
    have hT2 : h''.get? s.heap.objs.size = some { cls := .type "tuple", data := .seq #[u, u2] } := (sb.2 _ (Nat.ne_of_gt hzl)).trans hT
    have new : ObjOk X.prog X.w (upd H s.heap.objs.size (.tup [x, y])) h'' s.heap.objs.size (.tup [x, y]) :=
      ⟨by show 2 ≤ sizeLine; decide, [u, u2], .cons ru (.cons ru2 .nil), ⟨_, hT2, rfl, _, rfl⟩⟩
    have I1 : Inv X pins σ (upd H s.heap.objs.size (.tup [x, y])) { s with heap := h'', toks := tk } :=
      I.turnedNew (t' := tk) (ch := [z, TI, TO, i1, i2]) (fun c o hb q => (sb.2 c (fun q' => hb (by simp [q']))).trans (hk c o (fun q' => hb (by simp [q'])) (fun q' => hb (by simp [q'])) (fun q' => hb (by simp [q'])) (fun q' => hb (by simp [q'])) q)) hf (Nat.le_refl _) new
    refine ⟨.ref s.heap.objs.size, _, I1, rfl, ⟨_, x, y, rfl, I.hok.fresh (Nat.le_refl _), rfl, fun l hl => by rw [ZK.inj I hl hqx]; exact hx, fun l hl => by rw [ZK.inj I hl hqy]; exact hy⟩, ⟨z'', ?_, ⟨u, u2, ?_⟩, ?_, ?_⟩, fun c hcm => ?_⟩
    · exact (sb.2 _ D.S.TIz).trans (hk _ _ D.S.TIz D.S.TITO D.S.TIi1 D.S.TIi2 hTI)
    · exact (sb.2 _ D.S.TOz).trans TO'
    · exact ZK.it_at h1' fun o q => (sb.2 _ D.S.zi1.symm).trans q
    · exact ZK.it_at h2' fun o q => (sb.2 _ D.S.zi2.symm).trans q
    · have hlt : c < s.heap.objs.size := by
        have e' : c = z ∨ c = TI ∨ c = TO ∨ c = i1 ∨ c = i2 := by simpa using hcm
        rcases e' with q | q | q | q | q
        · rw [q]; exact hzl
        · rw [q]; exact Heap.lt_size hTI
        · rw [q]; exact Heap.lt_size hTO
        · rw [q]; obtain ⟨_, e1, _⟩ := ZK.it_obj h1; exact Heap.lt_size e1
        · rw [q]; obtain ⟨_, e2, _⟩ := ZK.it_obj h2; exact Heap.lt_size e2
      rw [upd_ne (Nat.ne_of_lt hlt)]
      exact (hf c hcm).1
  done := by
    intro X hP hw hK hc i pins s σ H E I hf st hg
    subst hP hw hK
    obtain ⟨hz, hTI, ⟨x0, y0, hTO⟩, h1, h2⟩ := st
    obtain ⟨xs, ys, hqx, hqy, hend⟩ := hg
    obtain ⟨P1, St1, D1, a1, b1, c1⟩ := ZK.draws (A := X.A.in1) I hqx (I.ok.hd hc) D.n1
    obtain ⟨P2, St2, D2, a2, b2, c2⟩ := ZK.draws (A := X.A.in1) I hqy (I.ok.hd hc) D.n2
    exact wpAny_pyNext_zipD2_end D.S D1 D2 hz hTI hTO (b1 i h1) (b2 i h2) (by omega) (by omega) (by omega) fun h' tk hk => ⟨rfl, I.turnedL (t' := tk) (ch := [z, TI, TO, i1, i2]) (fun c o hb q =>
      hk c o (fun q' => hb (by simp [q'])) (fun q' => hb (by simp [q'])) (fun q' => hb (by simp [q'])) (fun q' => hb (by simp [q'])) q) hf⟩
  self := fun A i s Q E st h => wpAny_pyIter_zip st.1 h
def ZK.val : ZK → Value
  | .l a => .ref a
  | .t a => .ref a
  | .s x tk => .str x tk
inductive ZV where
  | l (a : Addr)
  | t (a : Addr)
  | s (x : Str)
def ZV.k : ZV → Tok → ZK
  | .l a, _ => .l a
  | .t a, _ => .t a
  | .s x, tk => .s x tk
def ZV.v : ZV → V
  | .l a => .ref a
  | .t a => .ref a
  | .s x => .str x
def ZV.sq (K : PySem.W.Frag) (z : ZV) (H : Hp) (xs : List V) : Prop := (z.k 0).sq K H xs
theorem ZV.sqk {K : PySem.W.Frag} {z : ZV} {H : Hp} {xs : List V} (t : Tok) : (z.k t).sq K H xs = z.sq K H xs := by cases z <;> rfl
theorem ZV.raw {z : ZV} {u : Value} (r : RelV z.v u) : ∃ t, u = (z.k t).val := by
  cases z with
  | l a => exact ⟨0, r⟩
  | t a => exact ⟨0, r⟩
  | s x => exact r
theorem ZK.begins {X : Cx} {pins : List (Addr × Obj)} {σ : L2.St} {H : Hp} {s : Shared} {z : ZK} {xs : List V} (I : Inv X pins σ H s) (hq : z.sq X.K H xs) :
    (∃ o H', Begins z.val o H' ∧ H' s.heap ∧ ∀ h n, h.get? n = some o → z.it n 0 h) ∧ ∀ m, s.heap.objs.size ≤ m → z.non m := by
  cases z with
  | l a =>
    obtain ⟨its, rv, p, _⟩ := I.list hq
    exact ⟨⟨_, _, begins_list a its.toArray, p.isList, fun h n e => ⟨_, e, rfl, rfl⟩⟩, fun m hm => Nat.ne_of_lt (Nat.lt_of_lt_of_le p.lt hm)⟩
  | t a =>
    obtain ⟨its, rv, p, _⟩ := I.tuple hq
    obtain ⟨o1, ho1, _⟩ := id p
    exact ⟨⟨_, _, begins_tuple a its.toArray, p, fun h n e => ⟨_, e, rfl, rfl⟩⟩, fun m hm => Nat.ne_of_lt (Nat.lt_of_lt_of_le (Heap.lt_size ho1) hm)⟩
  | s x tk => exact ⟨⟨_, _, begins_text x tk, trivial, fun h n e => ⟨_, e, rfl, rfl⟩⟩, fun m hm => trivial⟩
def iZipG (K : PySem.W.Frag) (ta : TA) : TI := fun σ H R => ta σ H fun vs H1 => ∃ w1 w2 : ZV, vs = [w1.v, w2.v] ∧ (∃ xs, w1.sq K H1 xs) ∧ (∃ ys, w2.sq K H1 ys) ∧ ∀ t t', R (Itg K (w1.k t) (w2.k t')) H1
theorem pi_zipG {X : Cx} {e e2 : Expr} {ta : TA} {p pos tpos : Pos} {elts : List Expr} {kk : Nat} (hg : Gl X "zip") (hm : X.mg "zip" = none) (ha : PA X [e, e2] ta)
    (hs : starEach [e, e2] X.env = (false, eval e X.env) :: starEach [e2] X.env := by rfl) (hpl : (backTo pos (starEach [e2] X.env)).any (·.1) = false := by rfl) :
    PI X (.Tuple elts kk tpos) (.Call (.Name "zip" p) [e, e2] [] pos) (iZipG X.K ta) := by
  refine ⟨fun pins s σ H R I h => ?_⟩
  refine Call_ (ld_blt I hg hm PyProof.Rows.boot_zip (PyProof.Rows.callWith_type1 (thn (ha.run pos pins s σ H _ I h) fun us s1 ⟨vs, H1, I1, r1, q1⟩ => ?_) hs hpl))
  obtain ⟨w1, w2, ex, ⟨xs, hx⟩, ⟨ys, hy⟩, q⟩ := q1
  subst ex
  cases r1 with
  | cons r rr =>
    cases rr with
    | cons r' rr =>
      cases rr
      obtain ⟨t, rfl⟩ := ZV.raw r
      obtain ⟨t', rfl⟩ := ZV.raw r'
      obtain ⟨⟨o1, B1h, B1, b1, c1⟩, n1⟩ := ZK.begins I1 ((ZV.sqk t).symm ▸ hx)
      obtain ⟨⟨o2, B2h, B2, b2, c2⟩, n2⟩ := ZK.begins I1 ((ZV.sqk t').symm ▸ hy)
      have fresh5 : ∀ c, c ∈ [s1.heap.objs.size + 4, s1.heap.objs.size + 2, s1.heap.objs.size + 3, s1.heap.objs.size, s1.heap.objs.size + 1] → FpOk X pins H1 c := fun c hcm => by
        have e' : c = s1.heap.objs.size + 4 ∨ c = s1.heap.objs.size + 2 ∨ c = s1.heap.objs.size + 3 ∨ c = s1.heap.objs.size ∨ c = s1.heap.objs.size + 1 := by simpa using hcm
        have hle : s1.heap.objs.size ≤ c := by
          rcases e' with z | z | z | z | z
          · rw [z]; exact Nat.le_add_right _ _
          · rw [z]; exact Nat.le_add_right _ _
          · rw [z]; exact Nat.le_add_right _ _
          · rw [z]; exact Nat.le_refl _
          · rw [z]; exact Nat.le_add_right _ _
        exact I1.fpOk hle (I1.hok.fresh hle)
      refine zip_begins2 B1 B2 b1 b2 fun h' hz hTI hTO h1 h2 hsz hk => wpAny_pyIter_zip hz ?_
      have I2 : Inv X pins σ H1 { s1 with heap := h' } := I1.kept (t' := s1.toks) hk
      exact ⟨s1.heap.objs.size + 4, [s1.heap.objs.size + 4, s1.heap.objs.size + 2, s1.heap.objs.size + 3, s1.heap.objs.size, s1.heap.objs.size + 1], _, _, H1, rfl, I2, turn_zipG (za_new n1 n2), ⟨hz, hTI, ⟨_, _, hTO⟩, c1 _ _ h1, c2 _ _ h2⟩, fresh5, q t t'⟩
section
variable {K : PySem.W.Frag} {φ : List Addr} {O : Addr → Prop} {H : Hp}
/-- a thing walked by zip, as data -/
structure ZRep (K : PySem.W.Frag) (H : Hp) (z : ZV) (ds : List D) : Prop where
  go : ∃ vs, z.sq K H vs ∧ Reps K H ds vs
  keep : ∀ (φ : List Addr) (O : Addr → Prop) (φ' : List Addr) (O' : Addr → Prop) (H' : Hp), Ext φ O H φ' O' H' → ∃ vs, z.sq K H' vs ∧ Reps K H' ds vs
theorem wk_zipG {z1 z2 : ZV} {t t' : Tok} {ds es : List D} (h : ZRep K H z1 ds) (h' : ZRep K H z2 es) : Wk K φ O (Itg K (z1.k t) (z2.k t')) (pairsD ds es) H :=
  ⟨fun φ' O' H' x i d e => by
    obtain ⟨d1, d2, e1, e2, rfl⟩ := pairs_get e
    obtain ⟨vs, hs, r⟩ := h.keep _ _ _ _ _ x
    obtain ⟨ws, hs', r'⟩ := h'.keep _ _ _ _ _ x
    obtain ⟨v, ev, rv⟩ := r.get e1
    obtain ⟨w, ew, rw'⟩ := r'.get e2
    refine ⟨⟨vs, ws, v, w, by rw [ZV.sqk]; exact hs, by rw [ZV.sqk]; exact hs', ev, ew⟩, fun y H'' ⟨T, y1, y2, e3, hT, e4, e5, e6⟩ => ?_⟩
    subst e3 e4
    have e7 := e5 vs (by rw [ZV.sqk]; exact hs)
    have e8 := e6 ws (by rw [ZV.sqk]; exact hs')
    rw [ev] at e7
    rw [ew] at e8
    cases e7
    cases e8
    exact ⟨.inr ⟨T, _, hT, rfl⟩, rep_pair (u := .lst []) hT rv rw'⟩, fun φ' O' H' x => by
    obtain ⟨vs, hs, r⟩ := h.keep _ _ _ _ _ x
    obtain ⟨ws, hs', r'⟩ := h'.keep _ _ _ _ _ x
    exact ⟨vs, ws, by rw [ZV.sqk]; exact hs, by rw [ZV.sqk]; exact hs', by rw [pairs_len, r.len, r'.len]⟩⟩
theorem zrep_of {d : D} {v : V} {xs : List D} (r : Rep K H d v) (h : itemsOf d = some xs) : ∃ z : ZV, v = z.v ∧ ZRep K H z xs := by
  cases d <;> simp only [itemsOf, reduceCtorEq] at h
  case list ds =>
    cases h
    simp only [Rep] at r
    obtain ⟨a, vs, rfl, hf, rs⟩ := r
    exact ⟨.l a, rfl, ⟨vs, hf.sq, rs⟩, fun φ O φ' O' H' x => ⟨vs, (x.pers.fz hf).sq, Reps.pers x.pers rs⟩⟩
  case tuple ds =>
    cases h
    simp only [Rep] at r
    obtain ⟨a, vs, rfl, hf, rs⟩ := r
    exact ⟨.t a, rfl, ⟨vs, hf, rs⟩, fun φ O φ' O' H' x => ⟨vs, x.pers.sqt hf, Reps.pers x.pers rs⟩⟩
  case str s =>
    cases h
    simp only [Rep] at r
    subst r
    have go : ∀ H' : Hp, Reps K H' (s.cps.toList.map fun c => (.str ⟨#[c]⟩ : D)) (s.cps.toList.map fun c => V.str ⟨#[c]⟩) := fun H' => by
      induction s.cps.toList with
      | nil => exact .nil
      | cons c r ih => exact .cons rep_str ih
    exact ⟨.s s, rfl, ⟨_, rfl, go H⟩, fun φ O φ' O' H' x => ⟨_, rfl, go H'⟩⟩
end
end Nw

set_option autoImplicit false
set_option maxRecDepth 100000
set_option maxHeartbeats 1000000
/-! Nw, part O: the other sources, targets. -/
namespace Nw
open PySem PySem.Spec PyProof.Rows L2 RZ

section
variable {X : Cx} {W : WX} {CV : Str → Value} {φ : List Addr} {σ : L2.St} {H : Hp} {fr : Fr} {Q : VK} {tg e : Expr}
/-- a value's items, in a comprehension -/
theorem itemsC_ok {m : M Hd} (h : PEh X W CV e m) : PIc X W CV tg e (m >>= fun x => viewIt x >>= fun d => liftO (itemsOf d)) := by
  refine ⟨fun pins s σ H R I ⟨φ, fr, F, P⟩ => ?_⟩
  rw [bind_eq] at P
  cases q : m fr with
  | stuck =>
    rw [q] at P
    exact P.elim
  | exc c p fr' =>
    rw [q] at P
    exact (pi_list h).run pins s σ H R I ⟨φ, fr, F, by rw [q]; exact P⟩
  | ok hd fr1 =>
    rw [q] at P
    have P : Post X.K W CV (RIC X.K) φ σ H fr ((viewIt hd fr1).andThen fun d => liftO (itemsOf d)) R := P
    cases qv : viewIt hd fr1 with
    | stuck =>
      rw [qv] at P
      exact P.elim
    | exc c p fr' =>
      exfalso
      cases hd with
      | dv x =>
        cases x with
        | py d => cases qv
        | obj l => cases qv
      | slot i =>
        simp only [viewIt] at qv
        cases hs : fr1.sl[i]? with
        | none =>
          rw [hs] at qv
          cases qv
        | some s =>
          rw [hs] at qv
          cases s with
          | own o => cases z : o.toD <;> (simp only [z, liftO] at qv; cases qv)
          | lok o => cases z : o.toD <;> (simp only [z, liftO] at qv; cases qv)
          | _ => cases qv
    | ok d fr2 =>
      rw [qv] at P
      obtain ⟨xs, ex, P3⟩ := liftP (show Post X.K W CV (RIC X.K) φ σ H fr (liftO (itemsOf d) fr2) R from P)
      -- the view
      have vw : ∀ {H1 : Hp} {φ1 : List Addr} {v : V}, FR X.K φ1 σ H1 fr1 → RHd X.K H φ1 σ fr1 H1 v hd → fr2 = fr1 ∧ PRep X.K H1 d v ∧ ∀ ds, d = .list ds → ∃ a vs, v = .ref a ∧ Reps X.K H1 ds vs ∧ ∀ φ' O' H', Ext φ1 NoA H1 φ' O' H' → SqL X.K H' a vs := by
        intro H1 φ1 v F1 r
        cases hd with
        | dv x =>
          cases x with
          | obj l => cases qv
          | py d' =>
            cases qv
            refine ⟨rfl, Rep.pr r, fun ds e => ?_⟩
            subst e
            have r : Rep X.K H1 (.list ds) v := r
            simp only [Rep] at r
            obtain ⟨a, vs, rfl, hf, rs⟩ := r
            exact ⟨a, vs, rfl, rs, fun φ' O' H' x' => (x'.pers.fz hf).sq⟩
        | slot i =>
          have r : σ[i]? = some (some v) := r
          simp only [viewIt] at qv
          cases hs : fr1.sl[i]? with
          | none =>
            rw [hs] at qv
            cases qv
          | some s =>
            rw [hs] at qv
            have sr := F1.slot i s hs
            have own : ∀ (o : OD) (a : Addr), σ[i]? = some (some (.ref a)) → a ∉ φ1 → OwnR X.K φ1 H1 a o → o.toD = some d → PRep X.K H1 d v ∧ ∀ ds, d = .list ds → ∃ a vs, v = .ref a ∧ Reps X.K H1 ds vs ∧ ∀ φ' O' H', Ext φ1 NoA H1 φ' O' H' → SqL X.K H' a vs := by
              intro o a ea na ow ed
              rw [r] at ea
              cases ea
              refine ⟨ow.pr ed, fun ds e => ?_⟩
              subst e
              cases o with
              | lst ys =>
                obtain ⟨vs, eh, rv⟩ := ow
                simp only [OD.toD, Option.map_eq_some_iff] at ed
                obtain ⟨ds', e1, e2⟩ := ed
                cases e2
                exact ⟨a, vs, rfl, RepVs.all rv e1, fun φ' O' H' x' => .of (x'.keep a _ eh (fun _ z => nomatch z) na fun z => z)⟩
              | dic ys =>
                simp only [OD.toD, Option.map_eq_some_iff] at ed
                obtain ⟨ds', e1, e2⟩ := ed
                cases e2
              | ins _ _ => exact ow.elim
            cases s with
            | un => cases qv
            | val y => cases qv
            | own o =>
              obtain ⟨a, ea, na, ow⟩ := sr
              obtain ⟨ed, e1⟩ := liftO_ok qv
              obtain ⟨p1, p2⟩ := own o a ea na ow ed
              exact ⟨e1, p1, p2⟩
            | lok o =>
              obtain ⟨a, ea, na, ow⟩ := sr
              obtain ⟨ed, e1⟩ := liftO_ok qv
              obtain ⟨p1, p2⟩ := own o a ea na ow ed
              exact ⟨e1, p1, p2⟩
      cases d <;> simp only [itemsOf, reduceCtorEq] at ex
      case list ds =>
        cases ex
        refine (pi_list h).run pins s σ H R I ⟨φ, fr, F, ?_⟩
        rw [q]
        intro v H1 φ1 x F1 r
        obtain ⟨rfl, _, hl⟩ := vw F1 r
        obtain ⟨a, vs, rfl, rs, hk⟩ := hl _ rfl
        exact ⟨a, rfl, ⟨vs, hk _ _ _ (Ext.refl _ _ _)⟩, P3 _ H1 φ1 x F1 (wk_list hk rs)⟩
      case tuple ds =>
        cases ex
        refine (pi_tup h).run pins s σ H R I ⟨φ, fr, F, ?_⟩
        rw [q]
        intro v H1 φ1 x F1 r
        obtain ⟨rfl, p, _⟩ := vw F1 r
        obtain ⟨a, vs, rfl, hf, rs⟩ := pr_tuple p
        exact ⟨a, rfl, ⟨vs, hf⟩, P3 _ H1 φ1 x F1 (wk_tup hf rs)⟩
      case str z =>
        cases ex
        refine (pi_str h).run pins s σ H R I ⟨φ, fr, F, ?_⟩
        rw [q]
        intro v H1 φ1 x F1 r
        obtain ⟨rfl, p, _⟩ := vw F1 r
        exact ⟨z, pr_str p, P3 _ H1 φ1 x F1 (wk_str z)⟩

/-! ### range, enumerate, zip -/
theorem intM_bind {α : Type} (m : M Hd) (f : Int → M α) : (intM m >>= f) = (m >>= fun h => viewH h >>= fun d => (match d with | .int i => pure i | _ => stuckM : M Int) >>= f) := by
  simp only [intM, bind_assoc] <;> rfl
theorem rng1_ok {a : Expr} {p pos : Pos} {m : M Hd} (h : PEh X W CV a m) (hg : Gl X "range") (hm : X.mg "range" = none) (n : noStar a = true) : PIf X W CV tg (.Call (.Name "range" p) [a] [] pos) (intM m >>= fun n => liftO (rngD 0 n 1)) := by
  refine PI.imp (pi_range1 hg hm (pa_cons h pa_nil (star_cons n)) (star_cons n)) fun σ H R ⟨φ, fr, F, P⟩ => ⟨φ, fr, F, ?_⟩
  rw [intM_bind] at P
  refine Post.bind (R' := RIF X.K) back_RIF P fun x fr1 v H1 φ1 he1 x1 F1 q P1 => ?_
  obtain ⟨d, p, P2⟩ := Post.view F1 q P1
  cases d with
  | int j =>
    rw [pr_int p]
    have P2 : Post X.K W CV (RIF X.K) φ1 σ H1 fr1 (liftO (rngD 0 j 1) fr1) R := P2
    obtain ⟨xs, ex, P3⟩ := liftP P2
    unfold rngD at ex
    split at ex
    · rename_i hb
      rw [if_pos rfl] at ex
      cases ex
      refine ⟨j, rfl, hb.2.2.1, hb.2.2.2, P3 _ H1 φ1 (Ext.refl _ _ _) F1 ?_⟩
      have e : (j - 0).toNat = j.toNat := by simp
      rw [e]
      exact wk_range 0 j.toNat
    · cases ex
  | _ => exact P2.elim
theorem wk_rangeD (lo : Int) (n : Nat) : Wk X.K φ (Ow σ fr) (Itc lo (-1) n) ((List.range n).map fun (k : Nat) => .int (lo - (k : Int))) H :=
  ⟨fun φ' O' H' x i d e => by
    rw [List.getElem?_map, Option.map_eq_some_iff] at e
    obtain ⟨c, ec, rfl⟩ := e
    have hi : i < n := by simpa using (List.getElem?_eq_some_iff.mp ec).1
    have ei : i = c := by
      have := (List.getElem?_eq_some_iff.mp ec).2
      simpa using this
    subst ei
    refine ⟨hi, fun y H'' ⟨e1, e2⟩ => ?_⟩
    subst e1 e2
    refine ⟨.inl rfl, ?_⟩
    rw [show lo + (i : Int) * -1 = lo - (i : Int) by omega]
    exact rep_int, fun φ' O' H' x => by
    show n ≤ _
    simp⟩
theorem rng3_ok {a b c : Expr} {p pos : Pos} {ms : M (List Hd)} (h : PAh X W CV [a, b, c] ms) (hg : Gl X "range") (hm : X.mg "range" = none) (n : noStar a = true) (n2 : [a, b, c].all noStar = true) : PIf X W CV tg (.Call (.Name "range" p) [a, b, c] [] pos) (rng3M ms) := by
  refine PI.imp (pi_range3 hg hm h (star_cons n) (star_plain (by rw [List.all_cons] at n2; exact (and_ok n2).2))) fun σ H R ⟨φ, fr, F, P⟩ => ⟨φ, fr, F, ?_⟩
  refine Post.bind (R' := RIF X.K) back_RIF (f := fun hs => viewHs hs >>= fun ds => liftO (rng3D ds)) P fun hs fr1 vs H1 φ1 _ x1 F1 q1 P1 => ?_
  obtain ⟨ds, l, ps, P2⟩ := Post.views F1 q1 P1
  obtain ⟨xs, ex, P3⟩ := liftP P2
  unfold rng3D at ex
  split at ex
  · rename_i i j k
    split at ex
    · rename_i hk
      subst hk
      match vs, l with
      | [v1, v2, v3], _ =>
        have e1 := pr_int (ps 0 _ v1 rfl rfl)
        have e2 := pr_int (ps 1 _ v2 rfl rfl)
        have e3 := pr_int (ps 2 _ v3 rfl rfl)
        subst e1 e2 e3
        unfold rngD at ex
        split at ex
        · rename_i hb
          rw [if_neg (by decide), if_pos rfl] at ex
          cases ex
          exact ⟨i, j, -1, (i - j).toNat, rfl, RgC.neg hb.1 hb.2.1 hb.2.2.1 hb.2.2.2, P3 _ H1 φ1 (Ext.refl _ _ _) F1 (wk_rangeD i (i - j).toNat)⟩
        · cases ex
    · cases ex
  · cases ex
theorem enum_ok {a : Expr} {p pos tpos : Pos} {elts : List Expr} {kk : Nat} {m : M D} (h : PEd X W CV a m) (hg : Gl X "enumerate") (hm : X.mg "enumerate" = none) (n : noStar a = true) :
    PIf X W CV (.Tuple elts kk tpos) (.Call (.Name "enumerate" p) [a] [] pos) (m >>= fun d => liftO (enumD d)) := by
  refine PI.imp (pi_enum hg hm (pa_cons h pa_nil (star_cons n)) (star_cons n)) fun σ H R ⟨φ, fr, F, P⟩ => ⟨φ, fr, F, ?_⟩
  refine Post.bind (R' := RIF X.K) back_RIF (f := fun d => liftO (enumD d)) P fun d fr1 v H1 φ1 he1 x1 F1 q P1 => ?_
  obtain ⟨xs, ex, P3⟩ := liftP P1
  cases d <;> simp only [enumD, reduceCtorEq] at ex
  case list ds =>
    cases ex
    have r : Rep X.K H1 (.list ds) v := q
    simp only [Rep] at r
    obtain ⟨a, vs, rfl, hf, rs⟩ := r
    exact ⟨a, vs, rfl, hf.sq, P3 _ H1 φ1 (Ext.refl _ _ _) F1 (wk_enum hf rs)⟩
theorem zip_ok {a b : Expr} {p pos tpos : Pos} {elts : List Expr} {kk : Nat} {ma mb : M D} (ha : PEd X W CV a ma) (hb : PEd X W CV b mb) (hg : Gl X "zip") (hm : X.mg "zip" = none) (n : noStar a = true) (n2 : noStar b = true) :
    PIf X W CV (.Tuple elts kk tpos) (.Call (.Name "zip" p) [a, b] [] pos) (ma >>= fun d => mb >>= fun d' => liftO (zipD d d')) := by
  refine PI.imp (pi_zipG hg hm (pa_cons ha (pa_cons hb pa_nil (star_cons n2)) (star_cons n)) (star_cons n) (star_plain (by rw [List.all_cons, n2] <;> rfl))) fun σ H R ⟨φ, fr, F, P⟩ => ⟨φ, fr, F, ?_⟩
  refine Post.bind (R' := RIF X.K) back_RIF (f := fun d => mb >>= fun d' => liftO (zipD d d')) P fun d fr1 v H1 φ1 he1 x1 F1 q P1 => ⟨φ1, fr1, F1, ?_⟩
  refine Post.bind (R' := RIF X.K) back_RIF (f := fun d' => liftO (zipD d d')) P1 fun d' fr2 v' H2 φ2 he2 x2 F2 q2 P2 => ?_
  obtain ⟨xs, ex, P3⟩ := liftP P2
  have r : Rep X.K H2 d v := Rep.pers x2.pers q
  have r2 : Rep X.K H2 d' v' := q2
  unfold zipD at ex
  obtain ⟨as, h1, ex⟩ := Option.bind_eq_some_iff.mp ex
  obtain ⟨bs, h2, rfl⟩ := Option.map_eq_some_iff.mp ex
  obtain ⟨z1, rfl, R1⟩ := zrep_of r h1
  obtain ⟨z2, rfl, R2⟩ := zrep_of r2 h2
  obtain ⟨vs, e1, _⟩ := R1.go
  obtain ⟨ws, e2, _⟩ := R2.go
  exact ⟨z1, z2, rfl, ⟨_, e1⟩, ⟨_, e2⟩, fun t t' => P3 _ H2 φ2 (Ext.refl _ _ _) F2 (wk_zipG R1 R2)⟩

/-! ### targets -/
def gNs : List Nat → TGs
  | [] => gNil
  | i :: is => gCons (gName i) (gNs is)
def gT (K : PySem.W.Frag) : Tg → TG
  | .one i => gName i
  | .tup is => gTup K is.length (gNs is)
theorem setS_ok {i : Nat} {s : Slot} {fr fr' : Fr} {u : Unit} (h : setS i s fr = .ok u fr') : i < fr.sl.length ∧ fr' = { fr with sl := fr.sl.set i s } := by
  unfold setS at h
  split at h
  · rename_i hi
    cases h
    exact ⟨hi, rfl⟩
  · cases h
theorem setS_no {i : Nat} {s : Slot} {fr fr' : Fr} {c : Str} {p : Option D} : setS i s fr ≠ .exc c p fr' := by
  unfold setS
  split <;> exact fun z => nomatch z
/-- a slot gets a value -/
theorem FR.setV {K : PySem.W.Frag} (F : FR K φ σ H fr) {i : Nat} {x : Dv} {v : V} (r : RepV K φ H x v) : FR K φ (σ.set i (some v)) H { fr with sl := fr.sl.set i (.val x) } ∧ Ext φ (Ow σ fr) H φ (Ow (σ.set i (some v)) { fr with sl := fr.sl.set i (.val x) }) H := by
  have key : ∀ {j : Nat} {t : Slot}, (fr.sl.set i (.val x))[j]? = some t → (i = j ∧ t = .val x ∧ (σ.set i (some v))[j]? = some (some v)) ∨ (i ≠ j ∧ fr.sl[j]? = some t ∧ (σ.set i (some v))[j]? = σ[j]?) := by
    intro j t ht
    rcases get_set ht with ⟨rfl, hi, rfl⟩ | ⟨n, ht⟩
    · exact .inl ⟨rfl, rfl, List.getElem?_set_self (by rw [← F.len]; exact hi)⟩
    · exact .inr ⟨n, ht, List.getElem?_set_ne n⟩
  refine ⟨⟨by simpa using F.len, fun j t ht => ?_, fun j k t t' b njk h1 h2 o1 o2 h3 => ?_, F.nd, F.stl, F.st, F.tabs⟩, ⟨⟨[], by simp, by simp⟩, .refl H, fun _ _ h _ _ _ => h, fun _ h => h, fun b hb => ?_⟩⟩
  · rcases key ht with ⟨rfl, rfl, e⟩ | ⟨_, ht, e⟩
    · exact ⟨v, e, r⟩
    · rw [e]
      exact F.slot j t ht
  · rcases key h1 with ⟨_, rfl, _⟩ | ⟨_, h1, e1⟩
    · cases o1
    · rcases key h2 with ⟨_, rfl, _⟩ | ⟨_, h2, e2⟩
      · cases o2
      · rw [e1] at h3
        rw [e2]
        exact F.inj j k t t' b njk h1 h2 o1 o2 h3
  · obtain ⟨j, o, h1, h2⟩ := hb
    rcases key h1 with ⟨_, z, _⟩ | ⟨_, h1, e1⟩
    · cases z
    · rw [e1] at h2
      exact .inl ⟨j, o, h1, h2⟩
theorem setAll_no : ∀ {is : List Nat} {ds : List D} {fr fr' : Fr} {c : Str} {p : Option D}, setAll is ds fr ≠ .exc c p fr'
  | [], [], _, _, _, _ => fun z => nomatch z
  | [], _ :: _, _, _, _, _ => fun z => nomatch z
  | _ :: _, [], _, _, _, _ => fun z => nomatch z
  | i :: is, d :: ds, fr, fr', c, p => fun z => by
    have z : (setS i (.val (.py d)) fr).andThen (fun _ => setAll is ds) = .exc c p fr' := z
    cases q : setS i (.val (.py d)) fr with
    | ok u fr1 =>
      rw [q] at z
      exact setAll_no (is := is) z
    | exc _ _ _ => exact setS_no q
    | stuck =>
      rw [q] at z
      cases z
theorem setAll_rd {K : PySem.W.Frag} : ∀ {is : List Nat} {ds : List D} {vs : List V} {σ : L2.St} {fr fr' : Fr} {u : Unit}, FR K φ σ H fr → setAll is ds fr = .ok u fr' → Reps K H ds vs →
    ∃ σ', FR K φ σ' H fr' ∧ Ext φ (Ow σ fr) H φ (Ow σ' fr') H ∧ is.length = vs.length ∧ (∀ j, j ∉ is → σ'[j]? = σ[j]?) ∧ ∀ Q : L2.St → Hp → Prop, Q σ' H → gNs is vs σ H Q
  | [], [], vs, σ, fr, fr', u, F, h, r => by
    simp only [Reps] at r
    subst r
    cases h
    exact ⟨σ, F, Ext.refl _ _ _, rfl, fun _ _ => rfl, fun Q q => ⟨rfl, q⟩⟩
  | [], _ :: _, _, _, _, _, _, _, h, _ => by cases h
  | _ :: _, [], _, _, _, _, _, _, h, _ => by cases h
  | i :: is, d :: ds, vs, σ, fr, fr', u, F, h, r => by
    simp only [Reps] at r
    obtain ⟨v, ws, rfl, r1, rs⟩ := r
    have h : (setS i (.val (.py d)) fr).andThen (fun _ => setAll is ds) = .ok u fr' := h
    cases q : setS i (.val (.py d)) fr with
    | exc _ _ _ => exact absurd q setS_no
    | stuck =>
      rw [q] at h
      cases h
    | ok u1 fr1 =>
      rw [q] at h
      obtain ⟨hi, rfl⟩ := setS_ok q
      obtain ⟨F1, x1⟩ := F.setV (i := i) (x := .py d) (v := v) r1
      obtain ⟨σ', F2, x2, hl, hj, hq⟩ := setAll_rd F1 h rs
      refine ⟨σ', F2, x1.trans x2, by rw [List.length_cons, List.length_cons, hl], fun j nj => ?_, fun Q q => ⟨v, ws, rfl, hq Q q⟩⟩
      rw [List.mem_cons, not_or] at nj
      rw [hj j nj.2, List.getElem?_set_ne (Ne.symm nj.1)]
theorem bindT_no {tg : Tg} {d : D} {fr fr' : Fr} {c : Str} {p : Option D} : bindT tg d fr ≠ .exc c p fr' := by
  cases tg with
  | one i => exact setS_no
  | tup is => cases d <;> first | exact setAll_no | exact fun z => nomatch z
theorem bindT_rd {K : PySem.W.Frag} {tg : Tg} {d : D} {v : V} {fr' : Fr} {u : Unit} (F : FR K φ σ H fr) (h : bindT tg d fr = .ok u fr') (r : Rep K H d v) :
    ∃ σ', FR K φ σ' H fr' ∧ Ext φ (Ow σ fr) H φ (Ow σ' fr') H ∧ (∀ j, j ∉ slotsT tg → σ'[j]? = σ[j]?) ∧ ∀ Q : L2.St → Hp → Prop, Q σ' H → gT K tg v σ H Q := by
  cases tg with
  | one i =>
    obtain ⟨hi, rfl⟩ := setS_ok (show setS i (.val (.py d)) fr = .ok u fr' from h)
    obtain ⟨F1, x1⟩ := F.setV (i := i) (x := .py d) (v := v) r
    refine ⟨_, F1, x1, fun j nj => ?_, fun Q q => q⟩
    have : j ≠ i := by simpa [slotsT] using nj
    rw [List.getElem?_set_ne (Ne.symm this)]
  | tup is =>
    cases d with
    | tuple ds =>
      have r : Rep K H (.tuple ds) v := r
      simp only [Rep] at r
      obtain ⟨a, vs, rfl, hf, rs⟩ := r
      obtain ⟨σ', F2, x2, hl, hj, hq⟩ := setAll_rd F h rs
      exact ⟨σ', F2, x2, hj, fun Q q => ⟨a, vs, rfl, hf, hl.symm, hq Q q⟩⟩
    | _ => cases h
end
end Nw

set_option autoImplicit false
set_option maxRecDepth 100000
set_option maxHeartbeats 1000000
/-! Nw, part P: containers that change. -/
namespace Nw
open PySem PySem.Spec PyProof.Rows L2 RZ

section
variable {X : Cx} {W : WX} {CV : Str → Value} {φ : List Addr} {σ : L2.St} {H : Hp} {fr : Fr} {Q : VK}
theorem FR.at {K : PySem.W.Frag} (F : FR K φ σ H fr) {i : Nat} {o : OD} (h : getC i fr = some o) : ∃ a, σ[i]? = some (some (.ref a)) ∧ OwnR K φ H a o := by
  unfold getC at h
  split at h
  · rename_i o' hs
    cases h
    obtain ⟨a, e, _, r⟩ := F.slot i _ hs
    exact ⟨a, e, r⟩
  · rename_i l hs
    obtain ⟨v, e, a, ea, rfl⟩ := F.slot i _ hs
    obtain ⟨b, eb, r⟩ := F.st l o h
    rw [ea] at eb
    cases eb
    exact ⟨a, e, r⟩
  · cases h
/-- a tracked container is written: what stands for ever stays -/
theorem pers_upd {H : Hp} {a : Addr} {u u' : HO} (hu : H a = some u) (c : CanFz u) : Pers H (upd H a u') := by
  refine ⟨fun b xs e => ?_, fun b o w e => ?_⟩
  · by_cases z : b = a
    · subst z
      rw [hu] at e
      cases e
      cases c
    · rw [upd_ne z]
      exact e
  · by_cases z : b = a
    · subst z
      rw [hu] at e
      cases e
      cases c
    · rw [upd_ne z]
      exact e
theorem nodup_get {α : Type} {l : List α} (h : l.Nodup) {i j : Nat} {a : α} (e1 : l[i]? = some a) (e2 : l[j]? = some a) : i = j := by
  obtain ⟨hi, e1⟩ := List.getElem?_eq_some_iff.mp e1
  obtain ⟨hj, e2⟩ := List.getElem?_eq_some_iff.mp e2
  exact (List.getElem_inj h).mp (e1.trans e2.symm)
/-- the container that a name stands for is written -/
theorem FR.put {K : PySem.W.Frag} (F : FR K φ σ H fr) {i : Nat} {o o' : OD} {a : Addr} {u u' : HO} (h : getC i fr = some o) (ha : σ[i]? = some (some (.ref a))) (hu : H a = some u) (c : CanFz u) (r : OwnR K φ (upd H a u') a o') :
    FR K φ σ (upd H a u') (putC i o' fr) ∧ Ext φ (Ow σ fr) H φ (Ow σ (putC i o' fr)) (upd H a u') := by
  have P : Pers H (upd H a u') := pers_upd hu c
  have keep : ∀ b w, b ≠ a → H b = some w → upd H a u' b = some w := fun b w n q => by rw [upd_ne n]; exact q
  have ownE : ∀ {b : Addr} {o : OD}, b ≠ a → OwnR K φ H b o → OwnR K φ (upd H a u') b o := fun {b o} n q => OwnR.ext P ⟨[], by simp⟩ (fun w hw => keep b w n hw) q
  have dom : ∀ b, upd H a u' b = none → H b = none := fun b hb => by
    by_cases e : b = a
    · subst e
      rw [upd_same] at hb
      cases hb
    · rw [upd_ne e] at hb
      exact hb
  unfold getC at h
  split at h
  · rename_i o2 hs
    cases h
    have ep : putC i o' fr = { fr with sl := fr.sl.set i (.own o') } := by unfold putC; rw [hs]
    rw [ep]
    have naφ : a ∉ φ := by
      obtain ⟨b, e, n, _⟩ := F.slot i _ hs
      rw [ha] at e
      cases e
      exact n
    refine ⟨⟨by simpa using F.len, fun j t ht => ?_, fun j k t t' b njk h1 h2 o1 o2 h3 => ?_, F.nd, F.stl, fun l o' ho => ?_, tabE_fz hu c _ F.tabs⟩, ⟨⟨[], by simp, by simp⟩, P, fun b w hb _ nb no => keep b w (fun z => no ?_) hb, dom, fun b hb => ?_⟩⟩
    · rcases get_set ht with ⟨rfl, _, rfl⟩ | ⟨n, ht⟩
      · exact ⟨a, ha, naφ, r⟩
      · have q := F.slot j t ht
        cases t with
        | un => trivial
        | val x =>
          obtain ⟨v, e, r'⟩ := q
          exact ⟨v, e, RepV.ext P ⟨[], by simp⟩ r'⟩
        | own o' =>
          obtain ⟨b, e, n', r'⟩ := q
          refine ⟨b, e, n', ownE (fun z => ?_) r'⟩
          subst z
          exact F.inj i j _ _ b n hs ht rfl rfl ha e
        | lok o' =>
          obtain ⟨b, e, n', r'⟩ := q
          refine ⟨b, e, n', ownE (fun z => ?_) r'⟩
          subst z
          exact F.inj i j _ _ b n hs ht rfl rfl ha e
    · rcases get_set h1 with ⟨rfl, _, rfl⟩ | ⟨_, h1⟩
      · rcases get_set h2 with ⟨z, _, _⟩ | ⟨_, h2⟩
        · exact absurd z njk
        · exact F.inj i k _ t' b njk hs h2 rfl o2 h3
      · rcases get_set h2 with ⟨rfl, _, rfl⟩ | ⟨_, h2⟩
        · exact F.inj j i t _ b njk h1 hs o1 rfl h3
        · exact F.inj j k t t' b njk h1 h2 o1 o2 h3
    · obtain ⟨b, e, r'⟩ := F.st l o' ho
      refine ⟨b, e, ownE (fun z => ?_) r'⟩
      subst z
      exact naφ (List.mem_of_getElem? e)
    · subst z
      exact ⟨i, _, hs, ha⟩
    · obtain ⟨j, o', h1, h2⟩ := hb
      rcases get_set h1 with ⟨rfl, _, q⟩ | ⟨_, h1⟩
      · exact .inl ⟨i, _, hs, h2⟩
      · exact .inl ⟨j, o', h1, h2⟩
  · rename_i l hs
    have ep : putC i o' fr = { fr with st := fr.st.set l o' } := by unfold putC; rw [hs]
    rw [ep]
    have eφ : φ[l]? = some a := by
      obtain ⟨v, e, b, eb, z⟩ := F.slot i _ hs
      rw [ha] at e
      cases e
      cases z
      exact eb
    have inφ : a ∈ φ := List.mem_of_getElem? eφ
    refine ⟨⟨F.len, fun j t ht => ?_, F.inj, F.nd, by simpa using F.stl, fun k o2 ho => ?_, tabE_fz hu c _ F.tabs⟩, ⟨⟨[], by simp, by simp⟩, P, fun b w hb _ nb no => keep b w (fun z => nb (z ▸ inφ)) hb, dom, fun b hb => .inl hb⟩⟩
    · have q := F.slot j t ht
      cases t with
      | un => trivial
      | val x =>
        obtain ⟨v, e, r'⟩ := q
        exact ⟨v, e, RepV.ext P ⟨[], by simp⟩ r'⟩
      | own o' =>
        obtain ⟨b, e, n', r'⟩ := q
        exact ⟨b, e, n', ownE (fun z => n' (z ▸ inφ)) r'⟩
      | lok o' =>
        obtain ⟨b, e, n', r'⟩ := q
        exact ⟨b, e, n', ownE (fun z => n' (z ▸ inφ)) r'⟩
    · rcases get_set ho with ⟨rfl, _, rfl⟩ | ⟨n, ho⟩
      · exact ⟨a, eφ, r⟩
      · obtain ⟨b, e, r'⟩ := F.st k o2 ho
        refine ⟨b, e, ownE (fun z => n ?_) r'⟩
        subst z
        exact nodup_get F.nd eφ e
  · cases h
theorem RepVs.set {K : PySem.W.Frag} : ∀ {ds : List Dv} {xs : List V} {d : Dv} {v : V} (i : Nat), RepVs K φ H ds xs → RepV K φ H d v → RepVs K φ H (ds.set i d) (xs.set i v)
  | [], _, _, _, _, h, _ => by cases h; exact rfl
  | d :: ds, _, d', v', 0, h, r => by
    obtain ⟨v, vs, rfl, _, rs⟩ := h
    exact ⟨v', vs, rfl, r, rs⟩
  | d :: ds, _, d', v', i + 1, h, r => by
    obtain ⟨v, vs, rfl, r1, rs⟩ := h
    exact ⟨v, vs.set i v', rfl, r1, RepVs.set i rs r⟩
theorem RepVs.take {K : PySem.W.Frag} : ∀ {ds : List Dv} {xs : List V} (n : Nat), RepVs K φ H ds xs → RepVs K φ H (ds.take n) (xs.take n)
  | _, _, 0, _ => rfl
  | [], _, n + 1, h => by cases h; exact rfl
  | d :: ds, _, n + 1, h => by
    obtain ⟨v, vs, rfl, r, rs⟩ := h
    exact ⟨v, _, rfl, r, RepVs.take n rs⟩
theorem RepVs.drop {K : PySem.W.Frag} : ∀ {ds : List Dv} {xs : List V} (n : Nat), RepVs K φ H ds xs → RepVs K φ H (ds.drop n) (xs.drop n)
  | _, _, 0, h => h
  | [], _, n + 1, h => by cases h; exact rfl
  | d :: ds, _, n + 1, h => by
    obtain ⟨v, vs, rfl, r, rs⟩ := h
    exact RepVs.drop (ds := ds) n rs
theorem RepVs.erase {K : PySem.W.Frag} : ∀ {ds : List Dv} {xs : List V} (n : Nat), RepVs K φ H ds xs → RepVs K φ H (ds.eraseIdx n) (xs.eraseIdx n)
  | [], _, _, h => by cases h; exact rfl
  | d :: ds, _, 0, h => by
    obtain ⟨v, vs, rfl, r, rs⟩ := h
    exact rs
  | d :: ds, _, n + 1, h => by
    obtain ⟨v, vs, rfl, r, rs⟩ := h
    exact ⟨v, _, rfl, r, RepVs.erase n rs⟩
theorem RepVs.dropLast {K : PySem.W.Frag} {ds : List Dv} {xs : List V} (h : RepVs K φ H ds xs) : RepVs K φ H ds.dropLast xs.dropLast := by
  rw [List.dropLast_eq_take, List.dropLast_eq_take, h.len]
  exact h.take _
theorem RepVs.reverse {K : PySem.W.Frag} : ∀ {ds : List Dv} {xs : List V}, RepVs K φ H ds xs → RepVs K φ H ds.reverse xs.reverse
  | [], _, h => by cases h; exact rfl
  | d :: ds, _, h => by
    obtain ⟨v, vs, rfl, r, rs⟩ := h
    rw [List.reverse_cons, List.reverse_cons]
    exact RepVs.append (RepVs.reverse rs) ⟨v, [], rfl, r, rfl⟩
theorem RepVs.pers' {K : PySem.W.Frag} {H' : Hp} (p : Pers H H') {ds : List Dv} {xs : List V} (h : RepVs K φ H ds xs) : RepVs K φ H' ds xs := RepVs.ext p ⟨[], by simp⟩ h
theorem RepV.pers' {K : PySem.W.Frag} {H' : Hp} (p : Pers H H') {d : Dv} {v : V} (h : RepV K φ H d v) : RepV K φ H' d v := RepV.ext p ⟨[], by simp⟩ h
end
end Nw

set_option autoImplicit false
set_option maxRecDepth 100000
set_option maxHeartbeats 1000000
/-! Nw, part Q: methods that change their list; stores into lists. -/
namespace Nw
open PySem PySem.Spec PyProof.Rows L2 RZ

section
variable {X : Cx} {W : WX} {CV : Str → Value} {φ : List Addr} {σ : L2.St} {H : Hp} {fr : Fr} {Q : VK}
theorem repv_none {K : PySem.W.Frag} : RepV K φ H (.py .none) .non := by
  show Rep K H .none .non
  simp only [Rep]
/-- behind a change -/
theorem post_put {K : PySem.W.Frag} {i : Nat} {o o' : OD} {a : Addr} {u u' : HO} {x : Dv} {v : V} (F : FR K φ σ H fr) (h : getC i fr = some o) (ha : σ[i]? = some (some (.ref a))) (hu : H a = some u) (c : CanFz u)
    (P : Post K W CV (RRV K) φ σ H fr (.ok (.val x) (putC i o' fr)) Q) (r : OwnR K φ (upd H a u') a o') (rx : RepV K φ (upd H a u') x v) : Q v (upd H a u') := by
  obtain ⟨F2, x2⟩ := F.put h ha hu c r
  exact P v _ φ x2 F2 rx
def UKey (X : Cx) (W : WX) (CV : Str → Value) (m : MU) (r : V → List V → Hp → VK → Prop) : Prop := ∀ (φ : List Addr) (σ : L2.St) (H : Hp) (fr : Fr) (i : Nat) (a : Addr) (ds : List Dv) (zs : List V) (o' : OD) (x : Dv) (xs : List Dv) (vs : List V) (Q : VK), FR X.K φ σ H fr → getC i fr = some (.lst ds) → σ[i]? = some (some (.ref a)) →
  H a = some (.lst zs) → RepVs X.K φ H ds zs → RepVs X.K φ H xs vs → opMU m (.lst ds) xs = some (x, o') → Post X.K W CV (RRV X.K) φ σ H fr (.ok (.val x) (putC i o' fr)) Q → r (.ref a) vs H Q
theorem vs1 {K : PySem.W.Frag} {x : Dv} {vs : List V} (h : RepVs K φ H [x] vs) : ∃ v, vs = [v] ∧ RepV K φ H x v := by
  obtain ⟨v, ws, rfl, r, h2⟩ := h
  cases h2
  exact ⟨v, rfl, r⟩
theorem vs0 {K : PySem.W.Frag} {vs : List V} (h : RepVs K φ H [] vs) : vs = [] := h
theorem vs2 {K : PySem.W.Frag} {x y : Dv} {vs : List V} (h : RepVs K φ H [x, y] vs) : ∃ v w, vs = [v, w] ∧ RepV K φ H x v ∧ RepV K φ H y w := by
  obtain ⟨v, ws, rfl, r, w, us, rfl, r2, h2⟩ := h
  cases h2
  exact ⟨v, w, rfl, r, r2⟩
structure UFact (X : Cx) (W : WX) (CV : Str → Value) (m : MU) (id : String) (nm : String) (r : V → List V → Hp → VK → Prop) : Prop where
  slot : PySem.Slot "list" (Str.ofString nm) id
  ty : typeOf (.builtin id) = pure (.type "method_descriptor")
  run : MtR X id r
  key : UKey X W CV m r
def muStr : MU → String
  | .append => "append"
  | .extend => "extend"
  | .pop => "pop"
  | .insert => "insert"
  | .reverse => "reverse"
  | .clear => "clear"
  | .update => "update"
def muOk : MU → Bool
  | .append => true
  | .pop => true
  | .insert => true
  | .reverse => true
  | .clear => true
  | _ => false
def rPops : V → List V → Hp → VK → Prop := fun x xs H Q => rPop x xs H Q ∨ rPopAt x xs H Q
theorem mt_pops : MtR X "list.pop" rPops := MtR.or mt_pop mt_popAt
theorem key_append : UKey X W CV .append rAppend := by
  intro φ σ H fr i a ds zs o' x xs vs Q F hc ha hu r rx e P
  match xs with
  | [y] =>
    simp only [opMU] at e
    obtain ⟨g, e⟩ := guard_ok e
    cases e
    obtain ⟨v, rfl, rv⟩ := vs1 rx
    refine ⟨a, zs, v, rfl, rfl, hu, by rw [sizeLine_eq, ← r.len]; exact of_decide_eq_true g, ?_⟩
    have p := pers_upd (u' := .lst (zs ++ [v])) hu True.intro
    exact post_put F hc ha hu True.intro P ⟨_, upd_same, RepVs.append (r.pers' p) ⟨v, [], rfl, rv.pers' p, rfl⟩⟩ repv_none
  | [] => simp only [opMU, reduceCtorEq] at e
  | _ :: _ :: _ => simp only [opMU, reduceCtorEq] at e
theorem key_reverse : UKey X W CV .reverse rReverse := by
  intro φ σ H fr i a ds zs o' x xs vs Q F hc ha hu r rx e P
  match xs with
  | [] =>
    simp only [opMU] at e
    cases e
    cases vs0 rx
    refine ⟨a, zs, rfl, rfl, hu, ?_⟩
    have p := pers_upd (u' := .lst zs.reverse) hu True.intro
    exact post_put F hc ha hu True.intro P ⟨_, upd_same, (r.pers' p).reverse⟩ repv_none
  | _ :: _ => simp only [opMU, reduceCtorEq] at e
theorem key_clear : UKey X W CV .clear rClear := by
  intro φ σ H fr i a ds zs o' x xs vs Q F hc ha hu r rx e P
  match xs with
  | [] =>
    simp only [opMU] at e
    cases e
    cases vs0 rx
    refine ⟨a, zs, rfl, rfl, hu, ?_⟩
    have p := pers_upd (u' := .lst []) hu True.intro
    exact post_put F hc ha hu True.intro P ⟨_, upd_same, rfl⟩ repv_none
  | _ :: _ => simp only [opMU, reduceCtorEq] at e
theorem key_pop : UKey X W CV .pop rPops := by
  intro φ σ H fr i a ds zs o' x xs vs Q F hc ha hu r rx e P
  match xs with
  | [] =>
    simp only [opMU, Option.map_eq_some_iff] at e
    obtain ⟨y, ey, e⟩ := e
    cases e
    cases vs0 rx
    rw [List.getLast?_eq_getElem?] at ey
    obtain ⟨v, ev, rv⟩ := r.get ey
    rw [r.len] at ev
    refine .inl ⟨a, zs, v, rfl, rfl, hu, ev, ?_⟩
    have p := pers_upd (u' := .lst zs.dropLast) hu True.intro
    exact post_put F hc ha hu True.intro P ⟨_, upd_same, (r.pers' p).dropLast⟩ (rv.pers' p)
  | [.py (.int j)] =>
    simp only [opMU] at e
    split at e
    · rename_i hb
      obtain ⟨k, ek, e⟩ := Option.bind_eq_some_iff.mp e
      obtain ⟨y, ey, e⟩ := Option.map_eq_some_iff.mp e
      cases e
      obtain ⟨v, rfl, rv⟩ := vs1 rx
      have rv : Rep X.K H (.int j) v := rv
      simp only [Rep] at rv
      subst rv
      obtain ⟨w, ew, rw'⟩ := r.get ey
      obtain ⟨h1, h2⟩ := hb
      refine .inr ⟨a, zs, j, k, w, rfl, rfl, hu, h1, h2, by rw [← r.len]; exact ek, ew, ?_⟩
      have p := pers_upd (u' := .lst (zs.eraseIdx k)) hu True.intro
      exact post_put F hc ha hu True.intro P ⟨_, upd_same, (r.pers' p).erase k⟩ (rw'.pers' p)
    · cases e
  | [.py .none] => simp only [opMU, reduceCtorEq] at e
  | [.py (.bool _)] => simp only [opMU, reduceCtorEq] at e
  | [.py (.str _)] => simp only [opMU, reduceCtorEq] at e
  | [.py (.list _)] => simp only [opMU, reduceCtorEq] at e
  | [.py (.tuple _)] => simp only [opMU, reduceCtorEq] at e
  | [.py (.dict _)] => simp only [opMU, reduceCtorEq] at e
  | [.obj _] => simp only [opMU, reduceCtorEq] at e
  | _ :: _ :: _ => simp only [opMU, reduceCtorEq] at e
def rIns : V → List V → Hp → VK → Prop := fun x vs H Q => ∃ (l : Addr) (xs : List V) (i : Int) (y : V), x = .ref l ∧ vs = [.int i, y] ∧ H l = some (.lst xs) ∧ xs.length < sizeLine ∧ 0 ≤ i ∧ i < 2 ^ 63 ∧
    Q .non (upd H l (.lst (xs.take i.toNat ++ [y] ++ xs.drop i.toNat)))
theorem key_insert : UKey X W CV .insert rIns := by
  intro φ σ H fr i a ds zs o' x xs vs Q F hc ha hu r rx e P
  match xs with
  | [.py (.int j), y] =>
    simp only [opMU] at e
    obtain ⟨g, e⟩ := guard_ok e
    cases e
    obtain ⟨v, w, rfl, rv, rw'⟩ := vs2 rx
    have rv : Rep X.K H (.int j) v := rv
    simp only [Rep] at rv
    subst rv
    have g := of_decide_eq_true g
    refine ⟨a, zs, j, w, rfl, rfl, hu, by rw [sizeLine_eq, ← r.len]; exact g.1, g.2.1, g.2.2, ?_⟩
    have p := pers_upd (u' := .lst (zs.take j.toNat ++ [w] ++ zs.drop j.toNat)) hu True.intro
    exact post_put F hc ha hu True.intro P ⟨_, upd_same, RepVs.append (RepVs.append ((r.pers' p).take _) ⟨w, [], rfl, rw'.pers' p, rfl⟩) ((r.pers' p).drop _)⟩ repv_none
  | [] => simp only [opMU, reduceCtorEq] at e
  | [_] => simp only [opMU, reduceCtorEq] at e
  | [.py .none, _] => simp only [opMU, reduceCtorEq] at e
  | [.py (.bool _), _] => simp only [opMU, reduceCtorEq] at e
  | [.py (.str _), _] => simp only [opMU, reduceCtorEq] at e
  | [.py (.list _), _] => simp only [opMU, reduceCtorEq] at e
  | [.py (.tuple _), _] => simp only [opMU, reduceCtorEq] at e
  | [.py (.dict _), _] => simp only [opMU, reduceCtorEq] at e
  | [.obj _, _] => simp only [opMU, reduceCtorEq] at e
  | _ :: _ :: _ :: _ => simp only [opMU, reduceCtorEq] at e
theorem ufact : ∀ {m : MU}, muOk m = true → ∃ id r, UFact X W CV m id (muStr m) r
  | .append, _ => ⟨_, _, PySem.F.slot_list_append, PySem.F.type_list_append, mt_append, key_append⟩
  | .pop, _ => ⟨_, _, PySem.F.slot_list_pop, PySem.F.type_list_pop, mt_pops, key_pop⟩
  | .insert, _ => ⟨_, _, PySem.F.slot_list_insert, PySem.F.type_list_insert, mt_insert, key_insert⟩
  | .reverse, _ => ⟨_, _, PySem.F.slot_list_reverse, PySem.F.type_list_reverse, mt_reverse, key_reverse⟩
  | .clear, _ => ⟨_, _, PySem.F.slot_list_clear, PySem.F.type_list_clear, mt_clear, key_clear⟩
  | .extend, h => by simp [muOk] at h
  | .update, h => by simp [muOk] at h
theorem chk_ok {i : Nat} {fr fr' : Fr} {u : Unit} (h : chkL i fr = .ok u fr') : fr' = fr ∧ ∃ ds, getC i fr = some (.lst ds) := by
  unfold chkL at h
  split at h
  · rename_i ds e
    cases h
    exact ⟨rfl, ds, e⟩
  · cases h
theorem chk_no {i : Nat} {fr fr' : Fr} {c : Str} {p : Option D} : chkL i fr ≠ .exc c p fr' := by
  unfold chkL
  split <;> exact fun z => nomatch z
/-- a check, then what follows -/
theorem Post.chk {ρ β : Type} {K : PySem.W.Frag} {R : Rl ρ β} {i : Nat} {f : Unit → M β} {Q : ρ → Hp → Prop} (F : FR K φ σ H fr) (h : Post K W CV R φ σ H fr ((chkL i >>= f) fr) Q) :
    ∃ ds a zs, getC i fr = some (.lst ds) ∧ σ[i]? = some (some (.ref a)) ∧ H a = some (.lst zs) ∧ RepVs K φ H ds zs ∧ Post K W CV R φ σ H fr (f () fr) Q := by
  rw [bind_eq] at h
  cases e : chkL i fr with
  | ok u fr1 =>
    rw [e] at h
    obtain ⟨rfl, ds, hc⟩ := chk_ok e
    obtain ⟨a, ha, zs, hz, r⟩ := F.at hc
    exact ⟨ds, a, zs, hc, ha, hz, r, h⟩
  | exc c p fr1 => exact absurd e chk_no
  | stuck =>
    rw [e] at h
    exact h.elim
theorem mut_fin {m : MU} {r : V → List V → Hp → VK → Prop} (key : UKey X W CV m r) {i : Nat} {a : Addr} {xs : List Dv} {vs : List V} (F : FR X.K φ σ H fr) (ha : σ[i]? = some (some (.ref a))) (q : RepVs X.K φ H xs vs)
    (P : Post X.K W CV (RRV X.K) φ σ H fr (mutM m i xs fr) Q) : r (.ref a) vs H Q := by
  unfold mutM at P
  cases hc : getC i fr with
  | none =>
    rw [hc] at P
    exact P.elim
  | some o =>
    rw [hc] at P
    dsimp only at P
    cases eo : opMU m o xs with
    | none =>
      rw [eo] at P
      exact P.elim
    | some p =>
      obtain ⟨x, o'⟩ := p
      rw [eo] at P
      obtain ⟨a', ha', ow⟩ := F.at hc
      rw [ha] at ha'
      cases ha'
      cases o with
      | lst ds =>
        obtain ⟨zs, hz, r'⟩ := ow
        exact key φ σ H fr i a ds zs o' x xs vs Q F hc ha hz r' q eo P
      | dic kvs => simp only [opMU, reduceCtorEq] at eo
      | ins _ _ => exact ow.elim
theorem mut_ok {x : Str} {e : Expr} {es : List Expr} {p apos cpos : Pos} {i : Nat} {ms : M (List Dv)} {m : MU} (hk : muOk m = true) (hv : PE X (.Name x p) (tVar i)) (ha : PAv X W CV (e :: es) ms) (hl : (apos.endLine == cpos.line) = true)
    (hf : (e :: es).length < 30) (n : noStar e = true) (ns : es.all noStar = true) : PEn X W CV (.Call (.Attribute (.Name x p) (Str.ofString (muStr m)) apos) (e :: es) [] cpos) (mutLM m i ms) := by
  obtain ⟨id, r, f⟩ := ufact (X := X) (W := W) (CV := CV) hk
  refine PE.imp (pe_bm PySem.F.plainAttrs_list f.slot f.ty f.run hv ha (hbase := recv_base rfl _) (hfew := few_ok (es := e :: es) (by rw [List.all_cons, n, ns]; rfl) hf) (hline := hl) (hs := star_cons n) (hplain := star_plain ns)) fun σ H Q ⟨φ, fr, F, P⟩ => ?_
  obtain ⟨ds, a, zs, hc, ha, hz, r0, P⟩ := Post.chk F P
  refine ⟨.ref a, ha, .inl ⟨rfl, zs, .of hz⟩, φ, fr, F, Post.bind (R' := RRV X.K) back_RRV (f := fun xs => mutM m i xs) P fun xs fr1 vs H1 φ1 he1 x1 F1 q P1 => ?_⟩
  exact mut_fin f.key F1 ha q P1
theorem mut0_ok {x : Str} {p apos cpos : Pos} {i : Nat} {m : MU} (hk : muOk m = true) (hv : PE X (.Name x p) (tVar i)) (hl : (apos.endLine == cpos.line) = true) :
    PEn X W CV (.Call (.Attribute (.Name x p) (Str.ofString (muStr m)) apos) [] [] cpos) (mutLM m i (pure [])) := by
  obtain ⟨id, r, f⟩ := ufact (X := X) (W := W) (CV := CV) hk
  refine PE.imp (pe_bm0 PySem.F.plainAttrs_list f.slot f.ty f.run hv (hbase := recv_base rfl _) (hline := hl)) fun σ H Q ⟨φ, fr, F, P⟩ => ?_
  obtain ⟨ds, a, zs, hc, ha, hz, r0, P⟩ := Post.chk F P
  have P : Post X.K W CV (RRV X.K) φ σ H fr (mutM m i [] fr) Q := P
  exact ⟨.ref a, ha, .inl ⟨rfl, zs, .of hz⟩, mut_fin f.key F ha (show RepVs X.K φ H [] [] from rfl) P⟩
/-- list.extend by a list that stands anywhere -/
theorem extend_meets (p : Addr) (xs : Array Value) (e : Nat) (q : Addr) (ys : Array Value) (e2 : Nat) (slo : Array (Option Value)) (c0 : ¬(!xs.isEmpty && Builtin.List.listTooLong (xs.size + ys.size)) = true) (c1 : xs.size ≤ sizeLine) (c2 : xs.size + ys.size ≤ sizeLine + 1) :
    Meets (Builtin.«list.extend» ⟨[.ref p, .ref q], []⟩) (fun _ R z => z.heap.get? p = some { cls := .type "list", dict := none, data := .seq xs e, slots := #[] } ∧ z.heap.get? q = some { cls := .type "list", dict := none, data := .seq ys e2, slots := slo } ∧
      R (.ok (.ret Value.none)) { z with heap := z.heap.update p (Obj.mapSeq fun x => x ++ ys), toks := z.toks }) :=
  .of_wp fun prog w A R z h => by
    obtain ⟨hp, g, d, tk, os⟩ := z
    obtain ⟨hl, hb, h⟩ := h
    have f1 := AutoSeq1.idx_int
    have f2 := AutoSeq1.sub_tuple_tuple
    have f3 := AutoSeq1.sub_list_list
    have f4 := AutoSeq1.sub_tuple_list
    have f5 := AutoSeq1.sub_list_tuple
    have hz' : (xs ++ ys).size ≤ sizeLine + 1 := by rw [Array.size_append]; exact c2
    wp_walk using (wpAny_updateSeq hl rfl (hz := c1) (_hz' := hz')), AutoSeq1.wpAny_loadPart' hl, AutoSeq1.wpAny_loadPart' hb
    exact ⟨_, rfl, h⟩
def rExt2 (K : PySem.W.Frag) : V → List V → Hp → VK → Prop := fun x vs H Q => ∃ l b xs zs, x = .ref l ∧ vs = [.ref b] ∧ H l = some (.lst xs) ∧ SqL K H b zs ∧ xs.length + zs.length ≤ sizeLine ∧ Q .non (upd H l (.lst (xs ++ zs)))
theorem mt_ext2 : MtM X "list.extend" (rExt2 X.K) := by
  intro pins s σ H x vs v us Q I rx rv h
  obtain ⟨l, b, xs, zs, rfl, rfl, hH, hB, hz, q⟩ := h
  cases rx
  obtain ⟨u, rfl, ru⟩ := rv.one
  cases ru
  obtain ⟨z, its, n, r, hl, e⟩ := I.lstM hH
  obtain ⟨its2, r2, ⟨⟨c2, d2, dat2, sl2⟩, n2, e2, k1, k2, k3⟩, z2⟩ := I.list hB
  simp only at k1 k2 k3
  subst k1 k2 k3
  have hl2 : zs.length = its2.length := r2.length
  have hs : its.toArray.size + its2.toArray.size ≤ sizeLine := by rw [List.size_toArray, List.size_toArray]; omega
  have hlong : ¬ (!its.toArray.isEmpty && Builtin.List.listTooLong (its.toArray.size + its2.toArray.size)) = true := by
    rw [notLongL hs, Bool.and_false]
    exact Bool.false_ne_true
  refine call_meets F.slot_list_extend ⟨_, e, rfl⟩ F.entry_list_extend (F.args_list_extend_2 _ _) (extend_meets l its.toArray n b its2.toArray n2 _ hlong (by rw [List.size_toArray]; omega) (by omega)) ⟨e, e2, ?_⟩
  refine ⟨.non, _, I.lset (its' := its ++ its2) hH e (by simp) (r.append r2) ?_, rfl, q⟩
  rw [List.length_append]
  omega
/-- xs.extend(a new list) -/
theorem ext_ok {x : Str} {e : Expr} {p apos cpos : Pos} {i : Nat} {m : M RV} (hv : PE X (.Name x p) (tVar i)) (ha : PEn X W CV e m) (hl : (apos.endLine == cpos.line) = true) (n : noStar e = true) :
    PEn X W CV (.Call (.Attribute (.Name x p) "extend" apos) [e] [] cpos) (chkL i >>= fun _ => m >>= fun r => extM i r) := by
  refine PE.imp (pe_bm PySem.F.plainAttrs_list PySem.F.slot_list_extend PySem.F.type_list_extend mt_ext2 hv (pa_cons ha pa_nil (star_cons n)) (hbase := recv_base rfl _) (hfew := few_ok (es := [e]) (by rw [List.all_cons, n]; rfl) (show 1 < 30 by decide)) (hline := hl) (hs := star_cons n) (hplain := star_plain rfl)) fun σ H Q ⟨φ, fr, F, P⟩ => ?_
  obtain ⟨ds, a, zs, hc, ha, hz, r0, P⟩ := Post.chk F P
  refine ⟨.ref a, ha, .inl ⟨rfl, zs, .of hz⟩, φ, fr, F, Post.bind (R' := RRV X.K) back_RRV (f := fun r => extM i r) P fun r fr1 v H1 φ1 he1 x1 F1 q P1 => ?_⟩
  cases r with
  | val y =>
    cases y with
    | obj _ => exact P1.elim
    | py dd =>
      cases dd with
      | list ys =>
        have q : Rep X.K H1 (.list ys) v := q
        simp only [Rep] at q
        obtain ⟨b, ws, rfl, hw, rws⟩ := q
        unfold extM at P1
        dsimp only at P1
        cases hc : getC i fr1 with
        | none =>
          rw [hc] at P1
          exact P1.elim
        | some o =>
          rw [hc] at P1
          cases o with
          | dic _ => exact P1.elim
          | ins _ _ => exact P1.elim
          | lst ds =>
            dsimp only at P1
            by_cases hlen : ds.length + ys.length ≤ 16777216
            · rw [if_pos hlen] at P1
              obtain ⟨a', ha', zs', hz', r'⟩ := F1.at hc
              rw [ha] at ha'
              cases ha'
              refine ⟨a, b, zs', ws, rfl, rfl, hz', hw.sq, by rw [← r'.len, ← rws.len, sizeLine_eq]; exact hlen, ?_⟩
              have p := pers_upd (u' := .lst (zs' ++ ws)) hz' True.intro
              exact post_put F1 hc ha hz' True.intro P1 ⟨_, upd_same, RepVs.append (r'.pers' p) (RepVs.py (Reps.pers p rws))⟩ repv_none
            · rw [if_neg hlen] at P1
              exact P1.elim
      | _ => exact P1.elim
  | new o =>
    cases o with
    | dic _ => exact P1.elim
    | ins _ _ => exact P1.elim
    | lst ys =>
      obtain ⟨b, rfl, hb0, nb, nO, ws, hw, rws⟩ := q
      unfold extM at P1
      dsimp only at P1
      cases hc : getC i fr1 with
      | none =>
        rw [hc] at P1
        exact P1.elim
      | some o =>
        rw [hc] at P1
        cases o with
        | dic _ => exact P1.elim
        | ins _ _ => exact P1.elim
        | lst ds =>
          dsimp only at P1
          by_cases hlen : ds.length + ys.length ≤ 16777216
          · rw [if_pos hlen] at P1
            obtain ⟨a', ha', zs', hz', r'⟩ := F1.at hc
            rw [ha] at ha'
            cases ha'
            refine ⟨a, b, zs', ws, rfl, rfl, hz', .of hw, by rw [← r'.len, ← rws.len, sizeLine_eq]; exact hlen, ?_⟩
            have p := pers_upd (u' := .lst (zs' ++ ws)) hz' True.intro
            exact post_put F1 hc ha hz' True.intro P1 ⟨_, upd_same, RepVs.append (r'.pers' p) (rws.pers' p)⟩ repv_none
          · rw [if_neg hlen] at P1
            exact P1.elim
end
end Nw

set_option autoImplicit false
set_option maxRecDepth 100000
set_option maxHeartbeats 1000000
/-! Nw, part R: statements. -/
namespace Nw
open PySem PySem.Spec PyProof.Rows L2 RZ

section
variable {ρ β γ α : Type}
/-- what is wanted behind a statement -/
def PostS (K : PySem.W.Frag) (W : WX) (CV : Str → Value) (φ : List Addr) (σ : L2.St) (H : Hp) (fr : Fr) (r : Res Fl) (D : Ends) : Prop := match r with
  | .ok .next fr' => ∀ σ' H' φ', Ext φ (Ow σ fr) H φ' (Ow σ' fr') H' → FR K φ' σ' H' fr' → D.nx σ' H'
  | .ok .brk fr' => ∀ σ' H' φ', Ext φ (Ow σ fr) H φ' (Ow σ' fr') H' → FR K φ' σ' H' fr' → D.bk σ' H'
  | .ok .cont fr' => ∀ σ' H' φ', Ext φ (Ow σ fr) H φ' (Ow σ' fr') H' → FR K φ' σ' H' fr' → D.ct σ' H'
  | .ok (.ret (.val x)) fr' => ∀ v σ' H' φ', Ext φ (Ow σ fr) H φ' (Ow σ' fr') H' → FR K φ' σ' H' fr' → RepV K φ' H' x v → D.rt v H'
  | .ok (.ret (.new o)) fr' => ∀ a σ' H' φ', Ext φ (Ow σ fr) H φ' (Ow σ' fr') H' → FR K φ' σ' H' fr' → a ∉ φ' → (Ow σ fr a ∨ H a = none) → OwnR K φ' H' a o → D.rt (.ref a) H'
  | .exc c p fr' => p = none ∧ ∀ σ' H' φ', Ext φ (Ow σ fr) H φ' (Ow σ' fr') H' → FR K φ' σ' H' fr' → W (CV c) none σ' H'
  | .stuck => False
def rdS (K : PySem.W.Frag) (W : WX) (CV : Str → Value) (m : M Fl) : TS := fun D σ H => ∃ φ fr, FR K φ σ H fr ∧ PostS K W CV φ σ H fr (m fr) D
variable {K : PySem.W.Frag} {W : WX} {CV : Str → Value} {φ φ1 : List Addr} {σ σ1 : L2.St} {H H1 : Hp} {fr fr1 : Fr} {D : Ends}
theorem PostS.later {r : Res Fl} (x : Ext φ (Ow σ fr) H φ1 (Ow σ1 fr1) H1) (h : PostS K W CV φ σ H fr r D) : PostS K W CV φ1 σ1 H1 fr1 r D := by
  cases r with
  | ok b fr' =>
    cases b with
    | next => exact fun σ' H' φ' x' f => h σ' H' φ' (x.trans x') f
    | brk => exact fun σ' H' φ' x' f => h σ' H' φ' (x.trans x') f
    | cont => exact fun σ' H' φ' x' f => h σ' H' φ' (x.trans x') f
    | ret r =>
      cases r with
      | val y => exact fun v σ' H' φ' x' f q => h v σ' H' φ' (x.trans x') f q
      | new o =>
        refine fun a σ' H' φ' x' f n oa q => h a σ' H' φ' (x.trans x') f n ?_ q
        rcases oa with oa | oa
        · exact x.own a oa
        · exact .inr (x.dom a oa)
  | exc c p fr' => exact ⟨h.1, fun σ' H' φ' x' f => h.2 σ' H' φ' (x.trans x') f⟩
  | stuck => exact h
/-- an expression, then what follows -/
theorem PostS.bind {R : Rl ρ β} {m : Res β} {f : β → M Fl} {Q1 : ρ → Hp → Prop} (h : PostS K W CV φ σ H fr (m.andThen f) D)
    (k : ∀ b fr1 v H1 φ1, m = .ok b fr1 → Ext φ (Ow σ fr) H φ1 (Ow σ fr1) H1 → FR K φ1 σ H1 fr1 → R H φ1 σ fr1 H1 v b → PostS K W CV φ1 σ H1 fr1 (f b fr1) D → Q1 v H1) : Post K W CV R φ σ H fr m Q1 := by
  cases m with
  | ok b fr1 => exact fun v H1 φ1 x f1 q => k b fr1 v H1 φ1 rfl x f1 q (PostS.later x h)
  | exc c p fr1 => exact ⟨h.1, fun H' φ' x f => h.2 σ H' φ' x f⟩
  | stuck => exact h
/-- .. told from the start -/
theorem PostS.bind0 {R : Rl ρ β} {m : Res β} {f : β → M Fl} {Q1 : ρ → Hp → Prop} (h : PostS K W CV φ σ H fr (m.andThen f) D)
    (k : ∀ b fr1 v H1 φ1, m = .ok b fr1 → Ext φ (Ow σ fr) H φ1 (Ow σ fr1) H1 → FR K φ1 σ H1 fr1 → R H φ1 σ fr1 H1 v b → PostS K W CV φ σ H fr (f b fr1) D → Q1 v H1) : Post K W CV R φ σ H fr m Q1 := by
  cases m with
  | ok b fr1 => exact fun v H1 φ1 x f1 q => k b fr1 v H1 φ1 rfl x f1 q h
  | exc c p fr1 => exact ⟨h.1, fun H' φ' x f => h.2 σ H' φ' x f⟩
  | stuck => exact h
theorem PostS.view {Hx : Hp} {x : Hd} {v : V} {f : Nw.D → M Fl} (F : FR K φ σ H fr) (r : RHd K Hx φ σ fr H v x)
    (h : PostS K W CV φ σ H fr ((viewH x >>= f) fr) D) : ∃ d : Nw.D, PRep K H d v ∧ PostS K W CV φ σ H fr (f d fr) D := by
  rw [bind_eq] at h
  cases e : viewH x fr with
  | ok d fr1 =>
    rw [e] at h
    obtain ⟨rfl, p⟩ := viewH_ok F r e
    exact ⟨d, p, h⟩
  | exc c p fr1 => exact absurd e viewH_no
  | stuck =>
    rw [e] at h
    exact h.elim
end
section
variable {X : Cx} {W : WX} {CV : Str → Value} {φ : List Addr} {σ : L2.St} {H : Hp} {fr : Fr} {D : Ends}
abbrev PSn (X : Cx) (W : WX) (CV : Str → Value) (s : Stmt) (m : M Fl) : Prop := PS X s (rdS X.K W CV m)
abbrev PSsn (X : Cx) (W : WX) (CV : Str → Value) (ss : List Stmt) (m : M Fl) : Prop := PSs X ss (rdS X.K W CV m)
theorem pssn_nil : PSsn X W CV [] (pure .next) := PSs.imp pss_nil fun D σ H ⟨φ, fr, F, P⟩ => P σ H φ (Ext.refl _ _ _) F
theorem post_seq {m r : M Fl} (h : PostS X.K W CV φ σ H fr (seqM m r fr) D) : PostS X.K W CV φ σ H fr (m fr) { D with nx := rdS X.K W CV r D } := by
  unfold seqM at h
  rw [bind_eq] at h
  cases q : m fr with
  | ok b fr' =>
    rw [q] at h
    cases b with
    | next => exact fun σ' H' φ' x f => ⟨φ', fr', f, PostS.later x h⟩
    | brk => exact h
    | cont => exact h
    | ret r => cases r <;> exact h
  | exc c p fr' =>
    rw [q] at h
    exact h
  | stuck =>
    rw [q] at h
    exact h
theorem pssn_cons {s : Stmt} {ss : List Stmt} {m r : M Fl} (h : PSn X W CV s m) (hs : PSsn X W CV ss r) : PSsn X W CV (s :: ss) (seqM m r) :=
  PSs.imp (pss_cons h hs) fun D σ H ⟨φ, fr, F, P⟩ => ⟨φ, fr, F, post_seq P⟩
theorem psn_pass {pos : Pos} : PSn X W CV (.Pass pos) (pure .next) := PS.imp ps_pass fun D σ H ⟨φ, fr, F, P⟩ => P σ H φ (Ext.refl _ _ _) F
theorem psn_break {pos : Pos} : PSn X W CV (.Break pos) (pure .brk) := PS.imp ps_break fun D σ H ⟨φ, fr, F, P⟩ => P σ H φ (Ext.refl _ _ _) F
theorem psn_cont {pos : Pos} : PSn X W CV (.Continue pos) (pure .cont) := PS.imp ps_continue fun D σ H ⟨φ, fr, F, P⟩ => P σ H φ (Ext.refl _ _ _) F
theorem psn_retN {pos : Pos} : PSn X W CV (.Return none pos) (pure (.ret (vD .none))) := PS.imp ps_retN fun D σ H ⟨φ, fr, F, P⟩ => P .non σ H φ (Ext.refl _ _ _) F repv_none
theorem psn_ret {e : Expr} {m : M RV} {pos : Pos} (h : PEn X W CV e m) : PSn X W CV (.Return (some e) pos) (m >>= fun r => pure (.ret r)) := by
  refine PS.imp (ps_ret h) fun D σ H ⟨φ, fr, F, P⟩ => ⟨φ, fr, F, ?_⟩
  refine PostS.bind0 (f := fun r => pure (.ret r)) P fun r fr1 v H1 φ1 he x1 F1 q P1 => ?_
  cases r with
  | val y => exact P1 v σ H1 φ1 x1 F1 q
  | new o =>
    obtain ⟨a, rfl, hn, na, _, ow⟩ := q
    exact P1 a σ H1 φ1 x1 F1 na (.inr hn) ow
/-- return name: what is one's own goes out -/
theorem psn_retv {i : Nat} {x : Str} {p pos : Pos} (hv : PE X (.Name x p) (tVar i)) : PSn X W CV (.Return (some (.Name x p)) pos) (retvM i) := by
  refine PS.imp (ps_ret hv) fun D σ H ⟨φ, fr, F, P⟩ => ?_
  unfold retvM at P
  cases hs : fr.sl[i]? with
  | none =>
    rw [hs] at P
    exact P.elim
  | some s =>
    rw [hs] at P
    have q := F.slot i s hs
    cases s with
    | un => exact P.elim
    | lok _ => exact P.elim
    | val y =>
      obtain ⟨v, e, r⟩ := q
      exact ⟨v, e, P v σ H φ (Ext.refl _ _ _) F r⟩
    | own o =>
      obtain ⟨a, e, n, ow⟩ := q
      exact ⟨_, e, P a σ H φ (Ext.refl _ _ _) F n (.inl ⟨i, o, hs, e⟩) ow⟩
theorem psn_if {c : Expr} {a b : List Stmt} {pos : Pos} {mc : M Bool} {ma mb : M Fl} (hc : PTt X W CV c mc) (ha : PSsn X W CV a ma) (hb : PSsn X W CV b mb) : PSn X W CV (.If c a b pos) (mc >>= fun t => if t then ma else mb) := by
  refine PS.imp (ps_if hc ha hb) fun D σ H ⟨φ, fr, F, P⟩ => ⟨φ, fr, F, ?_⟩
  refine PostS.bind (R := RBool) (f := fun t => if t then ma else mb) P fun t fr1 v H1 φ1 he x1 F1 q P1 => ?_
  cases (show v = t from q)
  cases t with
  | true => exact iteT ⟨φ1, fr1, F1, P1⟩
  | false => exact iteF ⟨φ1, fr1, F1, P1⟩
theorem psn_expr {e : Expr} {m : M RV} {pos : Pos} (h : PEn X W CV e m) (hs : swapsWith e none pos.line X.env = pure false) : PSn X W CV (.Expr e pos) (m >>= fun _ => pure .next) := by
  refine PS.imp (ps_expr h hs) fun D σ H ⟨φ, fr, F, P⟩ => ⟨φ, fr, F, ?_⟩
  exact PostS.bind (R := RRV X.K) (f := fun _ => pure .next) P fun r fr1 v H1 φ1 he x1 F1 q P1 => P1 σ H1 φ1 (Ext.refl _ _ _) F1
/-- a loop's turns -/
theorem post_loop {tg : Tg} {body : M Fl} {g : TG} {tb : TS} (hg : ∀ v σ H Q, gT X.K tg v σ H Q → g v σ H Q) (hb : ∀ D σ H, rdS X.K W CV body D σ H → tb D σ H) {J : It} {xs : List Nw.D} {D : Ends} {φ : List Addr} {σ : L2.St} {H : Hp} {fr : Fr}
    (F : FR X.K φ σ H fr) (wk : Wk X.K φ (Ow σ fr) J xs H) (P : PostS X.K W CV φ σ H fr (forL tg body xs fr) D) : ∃ W' : Nat → Nat → L2.St → Hp → Prop, (∃ m, W' 0 m σ H) ∧ ∀ i m σ H, W' i m σ H →
      (J.stop i H ∧ D.nx σ H) ∨ (J.go i H ∧ ∃ N : L2.St → Hp → Prop, (∀ σ' H', N σ' H' → ∃ m', m' < m ∧ W' (i + 1) m' σ' H') ∧ ∀ x H', J.yld i H x H' → g x σ H' fun σ2 H2 => tb { D with nx := N, ct := N, bk := D.nx } σ2 H2) := by
  refine ⟨fun i m σ' H' => m = xs.length - i ∧ i ≤ xs.length ∧ ∃ φ' fr', FR X.K φ' σ' H' fr' ∧ Ext φ (Ow σ fr) H φ' (Ow σ' fr') H' ∧ PostS X.K W CV φ' σ' H' fr' (forL tg body (xs.drop i) fr') D, ⟨xs.length, by simp, Nat.zero_le _, φ, fr, F, Ext.refl _ _ _, P⟩, ?_⟩
  rintro i m σ1 H1 ⟨rfl, hi, φ1, fr1, F1, x1, P1⟩
  by_cases hlt : i < xs.length
  · obtain ⟨go, yl⟩ := wk.go φ1 _ H1 x1 i xs[i] (List.getElem?_eq_getElem hlt)
    refine .inr ⟨go, fun σ' H' => ∃ φ' fr', FR X.K φ' σ' H' fr' ∧ Ext φ (Ow σ fr) H φ' (Ow σ' fr') H' ∧ PostS X.K W CV φ' σ' H' fr' (forL tg body (xs.drop (i + 1)) fr') D, fun σ' H' q => ⟨_, by omega, rfl, hlt, q⟩, fun x H2 y => ?_⟩
    obtain ⟨hH, rx⟩ := yl x H2 y
    have e : xs.drop i = xs[i] :: xs.drop (i + 1) := List.drop_eq_getElem_cons hlt
    rw [e] at P1
    have FX : FR X.K φ1 σ1 H2 fr1 ∧ Ext φ1 (Ow σ1 fr1) H1 φ1 (Ow σ1 fr1) H2 := by
      rcases hH with rfl | ⟨p, u, hp, rfl⟩
      · exact ⟨F1, Ext.refl _ _ _⟩
      · exact F1.laid hp
    obtain ⟨F2, x2⟩ := FX
    have P2 := PostS.later x2 P1
    have P2 : PostS X.K W CV φ1 σ1 H2 fr1 ((bindT tg xs[i] fr1).andThen fun _ => body >>= fun f => match f with
      | .next => forL tg body (xs.drop (i + 1))
      | .cont => forL tg body (xs.drop (i + 1))
      | .brk => pure .next
      | .ret v => pure (.ret v)) D := P2
    cases qb : bindT tg xs[i] fr1 with
    | exc c p fr' => exact absurd qb bindT_no
    | stuck =>
      rw [qb] at P2
      exact P2.elim
    | ok u fr2 =>
      rw [qb] at P2
      obtain ⟨σ3, F3, x3, _, hq⟩ := bindT_rd F2 qb rx
      refine hg _ _ _ _ (hq _ (hb _ _ _ ⟨φ1, fr2, F3, ?_⟩))
      have P3 := PostS.later x3 P2
      have P3 : PostS X.K W CV φ1 σ3 H2 fr2 ((body fr2).andThen fun f => match f with
        | .next => forL tg body (xs.drop (i + 1))
        | .cont => forL tg body (xs.drop (i + 1))
        | .brk => pure .next
        | .ret v => pure (.ret v)) D := P3
      have xx := (x1.trans x2).trans x3
      cases qf : body fr2 with
      | ok f fr3 =>
        rw [qf] at P3
        cases f with
        | next => exact fun σ' H' φ' x f => ⟨φ', fr3, f, xx.trans x, PostS.later x P3⟩
        | cont => exact fun σ' H' φ' x f => ⟨φ', fr3, f, xx.trans x, PostS.later x P3⟩
        | brk => exact P3
        | ret r => cases r <;> exact P3
      | exc c p fr' =>
        rw [qf] at P3
        exact P3
      | stuck =>
        rw [qf] at P3
        exact P3
  · have e : i = xs.length := by omega
    subst e
    refine .inl ⟨wk.stop φ1 _ H1 x1, ?_⟩
    rw [List.drop_length] at P1
    exact P1 σ1 H1 φ1 (Ext.refl _ _ _) F1
theorem psn_for {tg iter : Expr} {body : List Stmt} {t : Tg} {mi : M (List Nw.D)} {mb : M Fl} {pos : Pos} (hp : PassesOwn (model X.prog X.w) X.A X.env X.xe) (hc : X.calm = true) (hi : PIf X W CV tg iter mi) (hg : PG X tg (gT X.K t)) (hb : PSsn X W CV body mb)
    (hs : ∀ x, foldedSetIterable iter X.env x = pure x) : PSn X W CV (.For tg iter body [] pos) (mi >>= fun xs => forL t mb xs) := by
  refine PS.imp (ps_for hp hc hi hg hb hs) fun D σ H ⟨φ, fr, F, P⟩ => ⟨φ, fr, F, ?_⟩
  exact PostS.bind (R := RIF X.K) (f := fun xs => forL t mb xs) P fun xs fr1 J H1 φ1 he x1 F1 q P1 => post_loop (fun _ _ _ _ h => h) (fun _ _ _ h => h) F1 q P1
theorem psn_while {c : Expr} {body : List Stmt} {mc : M Bool} {mb : M Fl} {pos : Pos} {n : Nat} (hp : PassesOwn (model X.prog X.w) X.A X.env X.xe) (hc : PTt X W CV c mc) (hb : PSsn X W CV body mb) : PSn X W CV (.While c body [] pos) (loopW mc mb n) := by
  refine PS.imp (ps_while hp hc hb) fun D σ H ⟨φ, fr, F, P⟩ => ?_
  refine ⟨fun m σ' H' => ∃ φ' fr', FR X.K φ' σ' H' fr' ∧ PostS X.K W CV φ' σ' H' fr' (loopW mc mb m fr') D, ⟨n, φ, fr, F, P⟩, ?_⟩
  rintro m σ1 H1 ⟨φ1, fr1, F1, P1⟩
  cases m with
  | zero => exact P1.elim
  | succ m =>
    refine ⟨φ1, fr1, F1, ?_⟩
    refine PostS.bind (R := RBool) (f := fun t => if t then mb >>= fun f => match f with
      | .next => loopW mc mb m
      | .cont => loopW mc mb m
      | .brk => pure .next
      | .ret v => pure (.ret v) else pure .next) P1 fun t fr2 v H2 φ2 he x2 F2 q P2 => ?_
    cases (show v = t from q)
    cases t with
    | false => exact iteF (P2 σ1 H2 φ2 (Ext.refl _ _ _) F2)
    | true =>
      refine iteT ⟨fun σ' H' => ∃ φ' fr', FR X.K φ' σ' H' fr' ∧ PostS X.K W CV φ' σ' H' fr' (loopW mc mb m fr') D, fun σ' H' q => ⟨m, Nat.lt_succ_self m, q⟩, φ2, fr2, F2, ?_⟩
      have P3 : PostS X.K W CV φ2 σ1 H2 fr2 ((mb fr2).andThen fun f => match f with
        | .next => loopW mc mb m
        | .cont => loopW mc mb m
        | .brk => pure .next
        | .ret v => pure (.ret v)) D := P2
      cases qf : mb fr2 with
      | ok f fr3 =>
        rw [qf] at P3
        cases f with
        | next => exact fun σ' H' φ' x f => ⟨φ', fr3, f, PostS.later x P3⟩
        | cont => exact fun σ' H' φ' x f => ⟨φ', fr3, f, PostS.later x P3⟩
        | brk => exact P3
        | ret r => cases r <;> exact P3
      | exc c p fr' =>
        rw [qf] at P3
        exact P3
      | stuck =>
        rw [qf] at P3
        exact P3
end
end Nw

set_option autoImplicit false
set_option maxRecDepth 100000
set_option maxHeartbeats 1000000
/-! Nw, part S: stores. -/
namespace Nw
open PySem PySem.Spec PyProof.Rows L2 RZ

section
variable {X : Cx} {W : WX} {CV : Str → Value} {φ φ1 : List Addr} {σ : L2.St} {H H1 : Hp} {fr fr1 : Fr} {D : Ends}
/-- a slot gets a new container -/
theorem FR.setO {K : PySem.W.Frag} {O : Addr → Prop} (F : FR K φ1 σ H1 fr1) {i : Nat} {o : OD} {a : Addr} (x : Ext φ O H φ1 (Ow σ fr1) H1) (h0 : H a = none) (na : a ∉ φ1) (no : ¬ Oa σ fr1 a) (r : OwnR K φ1 H1 a o) :
    FR K φ1 (σ.set i (some (.ref a))) H1 { fr1 with sl := fr1.sl.set i (.own o) } ∧ Ext φ O H φ1 (Ow (σ.set i (some (.ref a))) { fr1 with sl := fr1.sl.set i (.own o) }) H1 := by
  have key : ∀ {j : Nat} {t : Slot}, (fr1.sl.set i (.own o))[j]? = some t → (i = j ∧ t = .own o ∧ (σ.set i (some (.ref a)))[j]? = some (some (.ref a))) ∨ (i ≠ j ∧ fr1.sl[j]? = some t ∧ (σ.set i (some (.ref a)))[j]? = σ[j]?) := by
    intro j t ht
    rcases get_set ht with ⟨rfl, hi, rfl⟩ | ⟨n, ht⟩
    · exact .inl ⟨rfl, rfl, List.getElem?_set_self (by rw [← F.len]; exact hi)⟩
    · exact .inr ⟨n, ht, List.getElem?_set_ne n⟩
  refine ⟨⟨by simpa using F.len, fun j t ht => ?_, fun j k t t' b njk h1 h2 o1 o2 h3 => ?_, F.nd, F.stl, F.st, F.tabs⟩, ⟨x.pre, x.pers, x.keep, x.dom, fun b hb => ?_⟩⟩
  · rcases key ht with ⟨rfl, rfl, e⟩ | ⟨_, ht, e⟩
    · exact ⟨a, e, na, r⟩
    · rw [e]
      exact F.slot j t ht
  · rcases key h1 with ⟨rfl, rfl, e⟩ | ⟨n1, h1, e1⟩
    · rw [e] at h3
      cases h3
      rcases key h2 with ⟨z, _, _⟩ | ⟨_, h2, e2⟩
      · exact absurd z njk
      · rw [e2]
        exact fun z => no ⟨k, t', h2, o2, z⟩
    · rw [e1] at h3
      rcases key h2 with ⟨rfl, rfl, e⟩ | ⟨_, h2, e2⟩
      · rw [e]
        intro z
        cases z
        exact no ⟨j, t, h1, o1, h3⟩
      · rw [e2]
        exact F.inj j k t t' b njk h1 h2 o1 o2 h3
  · obtain ⟨j, o', h1, h2⟩ := hb
    rcases key h1 with ⟨rfl, z, e⟩ | ⟨_, h1, e1⟩
    · rw [e] at h2
      cases h2
      exact .inr h0
    · rw [e1] at h2
      exact x.own b ⟨j, o', h1, h2⟩
/-- a new container goes into the store -/
theorem FR.newObj {K : PySem.W.Frag} {O : Addr → Prop} (F : FR K φ1 σ H1 fr1) {o : OD} {a : Addr} (x : Ext φ O H φ1 (Ow σ fr1) H1) (h0 : H a = none) (na : a ∉ φ1) (no : ¬ Oa σ fr1 a) (r : OwnR K φ1 H1 a o) :
    FR K (φ1 ++ [a]) σ H1 { fr1 with st := fr1.st ++ [o] } ∧ Ext φ O H (φ1 ++ [a]) (Ow σ { fr1 with st := fr1.st ++ [o] }) H1 := by
  have ex : ∃ ψ, φ1 ++ [a] = φ1 ++ ψ := ⟨[a], rfl⟩
  have ownE : ∀ {b : Addr} {o : OD}, OwnR K φ1 H1 b o → OwnR K (φ1 ++ [a]) H1 b o := fun {b o} q => OwnR.ext (.refl H1) ex (fun w hw => hw) q
  have nin : ∀ {b : Addr}, b ∉ φ1 → b ≠ a → b ∉ φ1 ++ [a] := fun n1 n2 => by
    rw [List.mem_append, List.mem_singleton]
    exact fun z => z.elim n1 n2
  refine ⟨⟨F.len, fun j t ht => ?_, F.inj, ?_, by rw [List.length_append, List.length_append, F.stl]; rfl, fun l o' ho => ?_, F.tabs⟩, ⟨?_, x.pers, x.keep, x.dom, x.own⟩⟩
  · have q := F.slot j t ht
    cases t with
    | un => trivial
    | val y =>
      obtain ⟨v, e, r'⟩ := q
      exact ⟨v, e, RepV.ext (.refl H1) ex r'⟩
    | own o' =>
      obtain ⟨b, e, n', r'⟩ := q
      exact ⟨b, e, nin n' (fun z => no ⟨j, _, ht, rfl, z ▸ e⟩), ownE r'⟩
    | lok o' =>
      obtain ⟨b, e, n', r'⟩ := q
      exact ⟨b, e, nin n' (fun z => no ⟨j, _, ht, rfl, z ▸ e⟩), ownE r'⟩
  · rw [List.nodup_append]
    exact ⟨F.nd, by simp, fun b hb c hc => by rw [List.mem_singleton] at hc; subst hc; exact fun z => na (z ▸ hb)⟩
  · by_cases hl : l < fr1.st.length
    · have ho : fr1.st[l]? = some o' := by
        have ho : (fr1.st ++ [o])[l]? = some o' := ho
        rw [List.getElem?_append_left hl] at ho
        exact ho
      obtain ⟨b, e, r'⟩ := F.st l o' ho
      exact ⟨b, by rw [List.getElem?_append_left (List.getElem?_eq_some_iff.mp e).1]; exact e, ownE r'⟩
    · have ho : (fr1.st ++ [o])[l]? = some o' := ho
      have hl2 : l < (fr1.st ++ [o]).length := (List.getElem?_eq_some_iff.mp ho).1
      rw [List.length_append, List.length_singleton] at hl2
      have e : l = fr1.st.length := by omega
      subst e
      rw [List.getElem?_append_right (Nat.le_refl _), Nat.sub_self] at ho
      cases ho
      refine ⟨a, ?_, ownE r⟩
      rw [← F.stl, List.getElem?_append_right (Nat.le_refl _), Nat.sub_self]
      rfl
  · obtain ⟨ψ, e, n⟩ := x.pre
    refine ⟨ψ ++ [a], by rw [e, List.append_assoc], fun b hb => ?_⟩
    rcases List.mem_append.mp hb with hb | hb
    · exact n b hb
    · rw [List.mem_singleton] at hb
      subst hb
      exact h0
/-- the store's turn from a statement's start -/
theorem setS_rd {i : Nat} {s : Slot} {m : M Fl} (P : PostS X.K W CV φ σ H fr (((setS i s : M Unit) >>= fun _ => m) fr1) D) : i < fr1.sl.length ∧ PostS X.K W CV φ σ H fr (m { fr1 with sl := fr1.sl.set i s }) D := by
  rw [bind_eq] at P
  cases q : setS i s fr1 with
  | ok u fr2 =>
    rw [q] at P
    obtain ⟨hi, rfl⟩ := setS_ok q
    exact ⟨hi, P⟩
  | exc c p fr2 => exact absurd q setS_no
  | stuck =>
    rw [q] at P
    exact P.elim
/-- readings of the three stores -/
theorem set_rd {i : Nat} {m : M Dv} (D : Ends) (σ : L2.St) (H : Hp) (h : rdS X.K W CV (setM i m) D σ H) : tAsg (rd X.K W CV (RDv X.K) m) (gName i) D σ H := by
  obtain ⟨φ, fr, F, P⟩ := h
  refine ⟨φ, fr, F, PostS.bind (f := fun x => setS i (.val x) >>= fun _ => pure .next) P fun x fr1 v H1 φ1 he x1 F1 q P1 => ?_⟩
  obtain ⟨hi, P2⟩ := setS_rd P1
  obtain ⟨F2, x2⟩ := F1.setV (i := i) q
  exact P2 _ H1 φ1 x2 F2
theorem own_rd {i : Nat} {m : M RV} (D : Ends) (σ : L2.St) (H : Hp) (h : rdS X.K W CV (ownM i m) D σ H) : tAsg (rd X.K W CV (RRV X.K) m) (gName i) D σ H := by
  obtain ⟨φ, fr, F, P⟩ := h
  unfold ownM at P
  rw [bind_eq] at P
  refine ⟨φ, fr, F, PostS.bind0 P fun r fr1 v H1 φ1 he x1 F1 q P1 => ?_⟩
  cases r with
  | val y =>
    obtain ⟨hi, P2⟩ := setS_rd P1
    obtain ⟨F2, x2⟩ := F1.setV (i := i) q
    exact P2 _ H1 φ1 (x1.trans x2) F2
  | new o =>
    obtain ⟨hi, P2⟩ := setS_rd P1
    obtain ⟨a, rfl, h0, na, no, ow⟩ := q
    obtain ⟨F2, x2⟩ := F1.setO (i := i) x1 h0 na no ow
    exact P2 _ H1 φ1 x2 F2
theorem ref_rd {i : Nat} {m : M RV} (D : Ends) (σ : L2.St) (H : Hp) (h : rdS X.K W CV (refM i m) D σ H) : tAsg (rd X.K W CV (RRV X.K) m) (gName i) D σ H := by
  obtain ⟨φ, fr, F, P⟩ := h
  unfold refM at P
  rw [bind_eq] at P
  refine ⟨φ, fr, F, PostS.bind0 P fun r fr1 v H1 φ1 he x1 F1 q P1 => ?_⟩
  cases r with
  | val _ => exact P1.elim
  | new o =>
    obtain ⟨a, rfl, h0, na, no, ow⟩ := q
    obtain ⟨F2, x2⟩ := F1.newObj x1 h0 na no ow
    have P1 : PostS X.K W CV φ σ H fr (((setS i (.val (.obj fr1.st.length)) : M Unit) >>= fun _ => pure .next) { fr1 with st := fr1.st ++ [o] }) D := P1
    obtain ⟨hi, P2⟩ := setS_rd P1
    obtain ⟨F3, x3⟩ := F2.setV (i := i) (x := .obj fr1.st.length) (v := .ref a) ⟨a, by rw [← F1.stl, List.getElem?_append_right (Nat.le_refl _), Nat.sub_self]; rfl, rfl⟩
    exact P2 _ H1 _ (x2.trans x3) F3
theorem rf_ok {e : Expr} {m : M RV} (h : PEn X W CV e m) : PEn X W CV e (rfM m) := by
  refine PE.imp h fun σ H Q ⟨φ, fr, F, P⟩ => ?_
  unfold rfM at P
  rw [bind_eq] at P
  refine ⟨φ, fr, F, Post.bind0 P fun r fr1 v H1 φ1 he x1 F1 q P1 => ?_⟩
  cases r with
  | val _ => exact P1.elim
  | new o =>
    obtain ⟨a, rfl, h0, na, no, ow⟩ := q
    obtain ⟨F2, x2⟩ := F1.newObj x1 h0 na no ow
    exact P1 _ H1 _ x2 F2 ⟨a, by rw [← F1.stl, List.getElem?_append_right (Nat.le_refl _), Nat.sub_self]; rfl, rfl⟩
variable {e : Expr} {i : Nat} {x : Str} {p pos : Pos}
theorem psn_set {m : M Dv} (hN : X.N.Nodup) (hi : X.N[i]? = some x) (hx : Loc X.env.scope x) (hf : X.fn x = true ∨ X.env.scope.names.lookup x = some .local) (h : PEv X W CV e m) (hs : swapsWith e (some (.Name x p)) pos.line X.env = pure false) : PSn X W CV (.Assign [.Name x p] e pos) (setM i m) :=
  PS.imp (ps_set hN hi hx h hs hf) fun D σ H q => set_rd D σ H q
theorem psn_own {m : M RV} (hN : X.N.Nodup) (hi : X.N[i]? = some x) (hx : Loc X.env.scope x) (hf : X.fn x = true ∨ X.env.scope.names.lookup x = some .local) (h : PEn X W CV e m) (hs : swapsWith e (some (.Name x p)) pos.line X.env = pure false) : PSn X W CV (.Assign [.Name x p] e pos) (ownM i m) :=
  PS.imp (ps_set hN hi hx h hs hf) fun D σ H q => own_rd D σ H q
theorem psn_ref {m : M RV} (hN : X.N.Nodup) (hi : X.N[i]? = some x) (hx : Loc X.env.scope x) (hf : X.fn x = true ∨ X.env.scope.names.lookup x = some .local) (h : PEn X W CV e m) (hs : swapsWith e (some (.Name x p)) pos.line X.env = pure false) : PSn X W CV (.Assign [.Name x p] e pos) (refM i m) :=
  PS.imp (ps_set hN hi hx h hs hf) fun D σ H q => ref_rd D σ H q
theorem setAll_st {is : List Nat} {ds : List Nw.D} {vs : List V} (F : FR X.K φ σ H fr) (P : PostS X.K W CV φ σ H fr (((setAll is ds : M Unit) >>= fun _ => (pure .next : M Fl)) fr) D) (r : Reps X.K H ds vs) : is.length = vs.length ∧ gNs is vs σ H D.nx := by
  rw [bind_eq] at P
  cases q : setAll is ds fr with
  | exc c p fr2 => exact absurd q setAll_no
  | stuck =>
    rw [q] at P
    exact P.elim
  | ok u fr2 =>
    rw [q] at P
    obtain ⟨σ', F2, x2, hl, hj, hq⟩ := setAll_rd F q r
    exact ⟨hl, hq _ (P σ' H φ x2 F2)⟩
theorem psn_unp {tg : Expr} {is : List Nat} {m : M Hd} (h : PEh X W CV e m) (h1 : PG X tg (gTup X.K is.length (gNs is))) (h2 : PG X tg (gLst X.K is.length (gNs is))) (hs : swapsWithSole [tg] e pos.line X.env = pure false) (hw : swappedStores [tg] e X.env = pure none)
    (ha : (assignEach [tg] X.env).map (·.2) = [assign tg X.env]) : PSn X W CV (.Assign [tg] e pos) (unpM is m) := by
  refine ⟨fun pins s σ H D I ⟨φ, fr, F, P⟩ => ?_⟩
  have P0 := P
  unfold unpM at P
  rw [bind_eq] at P
  cases q : m fr with
  | stuck =>
    rw [q] at P
    exact P.elim
  | exc c p fr' =>
    rw [q] at P
    exact (ps_asg h h1 hs hw ha).run pins s σ H D I ⟨φ, fr, F, by rw [q]; exact ⟨P.1, fun H' φ' x f => P.2 σ H' φ' x f⟩⟩
  | ok hd fr1 =>
    cases qv : viewH hd fr1 with
    | exc _ _ _ => exact absurd qv viewH_no
    | stuck =>
      rw [q] at P
      have P : PostS X.K W CV φ σ H fr ((viewH hd fr1).andThen _) D := P
      rw [qv] at P
      exact P.elim
    | ok d fr2 =>
      have key : ∀ {v : V} {H1 : Hp} {φ1 : List Addr}, Ext φ (Ow σ fr) H φ1 (Ow σ fr1) H1 → FR X.K φ1 σ H1 fr1 → RHd X.K H φ1 σ fr1 H1 v hd → PRep X.K H1 d v ∧ ∀ ds, (d = .tuple ds ∨ d = .list ds) → PostS X.K W CV φ1 σ H1 fr1 (((setAll is ds : M Unit) >>= fun _ => (pure .next : M Fl)) fr1) D := by
        intro v H1 φ1 x F1 r
        rw [q] at P
        have P2 := PostS.later x P
        obtain ⟨e2, p⟩ := viewH_ok F1 r qv
        subst e2
        refine ⟨p, fun ds hd' => ?_⟩
        have P3 : PostS X.K W CV φ1 σ H1 fr2 ((viewH hd fr2).andThen fun d => match d with
          | .tuple ds => setAll is ds >>= fun _ => pure .next
          | .list ds => setAll is ds >>= fun _ => pure .next
          | _ => stuckM) D := P2
        rw [qv] at P3
        rcases hd' with rfl | rfl <;> exact P3
      have no : (∀ ds, d ≠ .tuple ds) → (∀ ds, d ≠ .list ds) → PostS X.K W CV φ σ H fr .stuck D := by
        intro n1 n2
        rw [q] at P
        have P3 : PostS X.K W CV φ σ H fr ((viewH hd fr1).andThen fun d => match d with
          | .tuple ds => setAll is ds >>= fun _ => pure .next
          | .list ds => setAll is ds >>= fun _ => pure .next
          | _ => stuckM) D := P
        rw [qv] at P3
        cases d <;> first | exact P3 | exact absurd rfl (n1 _) | exact absurd rfl (n2 _)
      cases d with
      | tuple ds =>
        refine (ps_asg h h1 hs hw ha).run pins s σ H D I ⟨φ, fr, F, ?_⟩
        rw [q]
        intro v H1 φ1 x F1 r
        obtain ⟨p, k⟩ := key x F1 r
        obtain ⟨a, vs, rfl, hf, rs⟩ := pr_tuple p
        obtain ⟨hl, hg⟩ := setAll_st F1 (k ds (.inl rfl)) rs
        exact ⟨a, vs, rfl, hf, hl.symm, hg⟩
      | list ds =>
        refine (ps_asg h h2 hs hw ha).run pins s σ H D I ⟨φ, fr, F, ?_⟩
        rw [q]
        intro v H1 φ1 x F1 r
        obtain ⟨p, k⟩ := key x F1 r
        obtain ⟨a, vs, rfl, hf, rs⟩ := pr_list p
        obtain ⟨hl, hg⟩ := setAll_st F1 (k ds (.inr rfl)) rs
        exact ⟨a, vs, rfl, hf, hl.symm, hg⟩
      | _ => exact (no (fun _ z => nomatch z) (fun _ z => nomatch z)).elim
theorem psn_par {j : Nat} {y : Str} {a b : Expr} {ma mb : M Dv} {px py pt : Pos} {kt k2 : Nat} {pt2 : Pos} (hc : X.calm = true) (hN : X.N.Nodup) (hi : X.N[i]? = some x) (hj : X.N[j]? = some y) (hij : i ≠ j)
    (hx : X.env.scope.names.lookup x = some .local) (hy : X.env.scope.names.lookup y = some .local) (ha : PEv X W CV a ma) (hb : PEv X W CV b mb) (n : noStar a = true) (n2 : noStar b = true)
    (hw : swappedStores [.Tuple [.Name x px, .Name y py] kt pt] (.Tuple [a, b] k2 pt2) X.env = pure (some [x, y])) :
    PSn X W CV (.Assign [.Tuple [.Name x px, .Name y py] kt pt] (.Tuple [a, b] k2 pt2) pos) (parM i j ma mb) := by
  refine PS.imp (ps_par hc hN hi hj hij hx hy (pa_cons ha (pa_cons hb pa_nil (star_cons n2)) (star_cons n)) hw rfl) fun D σ H ⟨φ, fr, F, P⟩ => ⟨φ, fr, F, ?_⟩
  refine PostS.bind (f := fun x => mb >>= fun y => setS i (.val x) >>= fun _ => setS j (.val y) >>= fun _ => pure .next) P fun dx fr1 v H1 φ1 he x1 F1 q P1 => ⟨φ1, fr1, F1, ?_⟩
  refine PostS.bind (f := fun y => setS i (.val dx) >>= fun _ => setS j (.val y) >>= fun _ => pure .next) P1 fun dy fr2 w H2 φ2 he2 x2 F2 q2 P2 => ?_
  obtain ⟨_, P3⟩ := setS_rd P2
  obtain ⟨_, P4⟩ := setS_rd P3
  obtain ⟨F3, x3⟩ := F2.setV (i := i) (x := dx) (v := v) (RepV.ext x2.pers x2.pre' q)
  obtain ⟨F4, x4⟩ := F3.setV (i := j) (x := dy) (v := w) q2
  exact ⟨v, w, rfl, P4 _ H2 φ2 (x3.trans x4) F4⟩
theorem PostS.chk {f : Unit → M Fl} (F : FR X.K φ σ H fr) (h : PostS X.K W CV φ σ H fr ((chkC i >>= f) fr) D) : ∃ a, σ[i]? = some (some (.ref a)) ∧ PostS X.K W CV φ σ H fr (f () fr) D := by
  rw [bind_eq] at h
  unfold chkC at h
  cases hc : getC i fr with
  | none =>
    rw [hc] at h
    exact h.elim
  | some o =>
    obtain ⟨a, ha, r⟩ := F.at hc
    rw [hc] at h
    cases o with
    | lst _ => exact ⟨a, ha, h⟩
    | dic _ => exact ⟨a, ha, h⟩
    | ins _ _ => exact h.elim
theorem set_two (hu : X.A.units + 65 < cLine) : PSet X (fun o i v H Q => rSetL o i v H Q ∨ rSetD o i v H Q) := by
  intro pins s σ H o i v ov iv u Q I ro ri rv h
  rcases h with h | h
  · exact set_list pins s σ H o i v ov iv u Q I ro ri rv h
  · exact set_dict (by omega) pins s σ H o i v ov iv u Q I ro ri rv h
theorem RepVKV.len {K : PySem.W.Frag} {φ : List Addr} {H : Hp} : ∀ {ds : List (Nw.D × Dv)} {xs : List (Key × V)}, RepVKV K φ H ds xs → ds.length = xs.length
  | [], _, h => by cases h; rfl
  | (k, d) :: ds, _, h => by
    obtain ⟨z, v, vs, rfl, _, _, rs⟩ := h
    rw [List.length_cons, List.length_cons, RepVKV.len rs]
theorem psn_seti {k : Expr} {mh : M Hd} {m : M Dv} {p2 : Pos} (hu : X.A.units + 65 < cLine) (hv : PE X (.Name x p) (tVar i)) (hk : PEh X W CV k mh) (h : PEv X W CV e m) (hs : swapsWithSole [.Subscript (.Name x p) k p2] e pos.line X.env = pure false) (hw : swappedStores [.Subscript (.Name x p) k p2] e X.env = pure none)
    (ha : ∀ v, assign (.Subscript (.Name x p) k p2) X.env v = (do
      let ov ← holding [v] (eval (.Name x p) X.env)
      let iv ← holding [v, ov] (eval k X.env)
      standAt p2
      holding [v, ov, iv] (setItem ov iv v)
      release [v, ov, iv] [])) : PSn X W CV (.Assign [.Subscript (.Name x p) k p2] e pos) (setiSM i mh m) := by
  refine PS.imp (ps_asg h (pg_sub hv hk (set_two hu) ha) hs hw rfl) fun D σ H ⟨φ, fr, F, P⟩ => ⟨φ, fr, F, ?_⟩
  refine PostS.bind (f := fun x => chkC i >>= fun _ => mh >>= fun h => viewH h >>= fun d => setiM i d x >>= fun _ => pure .next) P fun dx fr1 v H1 φ1 he x1 F1 q P1 => ?_
  obtain ⟨a, ha', P2⟩ := PostS.chk F1 P1
  refine ⟨.ref a, ha', φ1, fr1, F1, ?_⟩
  refine PostS.bind (f := fun h => viewH h >>= fun d => setiM i d dx >>= fun _ => pure .next) P2 fun hd fr2 w H2 φ2 he2 x2 F2 q2 P3 => ?_
  obtain ⟨d, pd, P4⟩ := PostS.view F2 q2 P3
  have P4 : PostS X.K W CV φ2 σ H2 fr2 ((match getC i fr2 with
    | some o => (match opSet o d dx with
      | some o' => .ok () (putC i o' fr2)
      | none => .stuck : Res Unit)
    | none => .stuck).andThen fun _ => (pure .next : M Fl)) D := P4
  cases hc2 : getC i fr2 with
  | none =>
    rw [hc2] at P4
    exact P4.elim
  | some o =>
    rw [hc2] at P4
    dsimp only at P4
    cases eo : opSet o d dx with
    | none =>
      rw [eo] at P4
      exact P4.elim
    | some o' =>
      rw [eo] at P4
      obtain ⟨a2, ha2, ow⟩ := F2.at hc2
      rw [ha'] at ha2
      cases ha2
      cases o with
      | dic kvs =>
        obtain ⟨ps, hp2, r2⟩ := ow
        simp only [opSet] at eo
        split at eo
        · rename_i hg
          rw [Bool.and_eq_true] at hg
          cases eo
          have hl := of_decide_eq_true hg.2
          have pz := pers_upd (u' := .lst []) hp2 True.intro
          have fin : ∀ (z : Key), keyOf d = some z → w = kV z → rSetD (.ref a) w v H2 (fun H3 => D.nx σ H3) := fun z hz hw => by
            subst hw
            have pz := pers_upd (u' := .dK (putK ps z v)) hp2 True.intro
            obtain ⟨F3, x3⟩ := F2.put (o' := .dic (putD kvs d dx)) hc2 ha' hp2 True.intro ⟨_, upd_same, RepVKV.ext pz ⟨[], by simp⟩ (kv_put hz (RepV.ext x2.pers x2.pre' q) r2)⟩
            exact ⟨a, _, rfl, DPut.k hp2 (by rw [← r2.len, sizeLine_eq]; omega), P4 σ _ φ2 x3 F3⟩
          cases d <;> simp only [keyD, Bool.false_eq_true, false_and] at hg
          · exact .inr (fin (.inl _) rfl (pr_int pd))
          · exact .inr (fin (.inr _) rfl (pr_str pd))
        · cases eo
      | ins _ _ => exact ow.elim
      | lst ys =>
        cases d <;> simp only [opSet, reduceCtorEq] at eo
        case int k =>
          obtain ⟨j, ej, rfl⟩ := Option.map_eq_some_iff.mp eo
          obtain ⟨zs2, hz2, r2⟩ := ow
          rw [pr_int pd]
          have pz := pers_upd (u' := .lst (zs2.set j v)) hz2 True.intro
          obtain ⟨F3, x3⟩ := F2.put (o' := .lst (ys.set j dx)) hc2 ha' hz2 True.intro ⟨_, upd_same, RepVs.set j (r2.pers' pz) (RepV.pers' pz (RepV.ext x2.pers x2.pre' q))⟩
          exact .inl ⟨a, zs2, k, j, rfl, rfl, hz2, by rw [← r2.len]; exact ej, P4 σ _ φ2 x3 F3⟩
end
end Nw

set_option autoImplicit false
set_option maxRecDepth 100000
set_option maxHeartbeats 1000000
/-! Nw, part T: comprehensions. -/
namespace Nw
open PySem PySem.Spec PyProof.Rows L2 RZ

theorem setAll_len : ∀ {is : List Nat} {ds : List D} {fr fr' : Fr} {u : Unit}, setAll is ds fr = .ok u fr' → fr'.sl.length = fr.sl.length
  | [], [], _, _, _, h => by cases h; rfl
  | [], _ :: _, _, _, _, h => by cases h
  | _ :: _, [], _, _, _, h => by cases h
  | i :: is, d :: ds, fr, fr', u, h => by
    have h : (setS i (.val (.py d)) fr).andThen (fun _ => setAll is ds) = .ok u fr' := h
    cases q : setS i (.val (.py d)) fr with
    | exc _ _ _ => exact absurd q setS_no
    | stuck =>
      rw [q] at h
      cases h
    | ok u1 fr1 =>
      rw [q] at h
      obtain ⟨hi, rfl⟩ := setS_ok q
      rw [setAll_len (is := is) h, List.length_set]
theorem bindT_len {tg : Tg} {d : D} {fr fr' : Fr} {u : Unit} (h : bindT tg d fr = .ok u fr') : fr'.sl.length = fr.sl.length := by
  cases tg with
  | one i =>
    obtain ⟨hi, rfl⟩ := setS_ok (show setS i (.val (.py d)) fr = .ok u fr' from h)
    rw [List.length_set]
  | tup is => cases d <;> first | exact setAll_len h | cases h
/-- nothing is raised -/
abbrev WF : WX := fun _ _ _ _ => False
theorem Ext.own' {φ φ' : List Addr} {O O1 O2 : Addr → Prop} {H H' : Hp} (x : Ext φ NoA H φ' O H') (h : ∀ a, O2 a → O1 a) : Ext φ O1 H φ' O2 H' := ⟨x.pre, x.pers, fun a u e nt n _ => x.keep a u e nt n fun z => z, x.dom, fun a q => .inl (h a q)⟩
section
variable {K : PySem.W.Frag} {φ φ' : List Addr} {σ σ' : L2.St} {H H' : Hp} {fr fr' : Fr}
/-- the frame again, behind code that could not change it -/
theorem FR.turn {O' : Addr → Prop} (F : FR K φ σ H fr) (x : Ext φ NoA H φ' O' H') (F' : FR K φ' σ' H' fr') : FR K φ' σ H' ⟨fr.sl, fr'.st⟩ := by
  have nin : ∀ {b : Addr} {o : OD}, b ∉ φ → OwnR K φ H b o → b ∉ φ' := fun {b o} n r hm => by
    obtain ⟨ψ, e, hn⟩ := x.pre
    rw [e] at hm
    rcases List.mem_append.mp hm with hm | hm
    · exact n hm
    · have z := hn b hm
      cases o with
      | lst _ => obtain ⟨_, w, _⟩ := r; rw [z] at w; cases w
      | dic _ => obtain ⟨_, w, _⟩ := r; rw [z] at w; cases w
      | ins _ _ => exact r
  have ownE : ∀ {b : Addr} {o : OD}, b ∉ φ → OwnR K φ H b o → OwnR K φ' H' b o := fun {b o} n r => OwnR.extN x.pers x.pre' (fun u hu nt => x.keep b u hu nt n fun z => z) r
  refine ⟨F.len, fun i s hs => ?_, F.inj, F'.nd, F'.stl, F'.st, F'.tabs⟩
  have q := F.slot i s hs
  cases s with
  | un => trivial
  | val y =>
    obtain ⟨v, e, r⟩ := q
    exact ⟨v, e, RepV.ext x.pers x.pre' r⟩
  | own o =>
    obtain ⟨a, e, n, r⟩ := q
    exact ⟨a, e, nin n r, ownE n r⟩
  | lok o =>
    obtain ⟨a, e, n, r⟩ := q
    exact ⟨a, e, nin n r, ownE n r⟩
theorem wipeS_len : ∀ (vs : List Nat) (sl : List Slot), (wipeS vs sl).length = sl.length
  | [], _ => rfl
  | v :: vs, sl => by
    show (wipeS vs (sl.set v .un)).length = _
    rw [wipeS_len vs, List.length_set]
theorem wipeS_get : ∀ (vs : List Nat) (sl : List Slot) (j : Nat) (s : Slot), (wipeS vs sl)[j]? = some s → s = .un ∨ (j ∉ vs ∧ sl[j]? = some s)
  | [], _, j, s, h => .inr ⟨by simp, h⟩
  | v :: vs, sl, j, s, h => by
    have h : (wipeS vs (sl.set v .un))[j]? = some s := h
    rcases wipeS_get vs _ j s h with h | ⟨n, h⟩
    · exact .inl h
    · rcases get_set h with ⟨rfl, _, rfl⟩ | ⟨n2, h⟩
      · exact .inl rfl
      · exact .inr ⟨by rw [List.mem_cons, not_or]; exact ⟨Ne.symm n2, n⟩, h⟩
theorem wipe_ne : ∀ (vs : List Nat) (σ : L2.St) (j : Nat), j ∉ vs → (wipe σ vs)[j]? = σ[j]?
  | [], _, _, _ => rfl
  | v :: vs, σ, j, n => by
    rw [List.mem_cons, not_or] at n
    show ((wipe σ vs).set v none)[j]? = _
    rw [List.getElem?_set_ne (Ne.symm n.1), wipe_ne vs σ j n.2]
theorem wipe_in : ∀ (vs : List Nat) (σ : L2.St) (j : Nat), j ∈ vs → j < σ.length → (wipe σ vs)[j]? = some none
  | v :: vs, σ, j, m, hl => by
    show ((wipe σ vs).set v none)[j]? = _
    by_cases e : v = j
    · subst e
      rw [List.getElem?_set_self (by rw [wipe_length]; exact hl)]
    · rw [List.getElem?_set_ne e]
      rcases List.mem_cons.mp m with m | m
      · exact absurd m.symm e
      · exact wipe_in vs σ j m hl
theorem wipe_eq {vs : List Nat} {σ σ' : L2.St} (hl : σ.length = σ'.length) (h : ∀ j, j ∉ vs → σ'[j]? = σ[j]?) : wipe σ' vs = wipe σ vs := by
  apply List.ext_getElem?
  intro j
  by_cases m : j ∈ vs
  · by_cases l : j < σ.length
    · rw [wipe_in vs σ j m l, wipe_in vs σ' j m (by rw [← hl]; exact l)]
    · rw [List.getElem?_eq_none (by rw [wipe_length]; omega), List.getElem?_eq_none (by rw [wipe_length]; omega)]
  · rw [wipe_ne vs σ j m, wipe_ne vs σ' j m, h j m]
theorem wipe_wipe {vs : List Nat} {σ : L2.St} : wipe (wipe σ vs) vs = wipe σ vs := wipe_eq (by rw [wipe_length]) fun j n => wipe_ne vs σ j n
def lockS (vs : List Nat) (sl : List Slot) : List Slot := (wipeS vs sl).map Slot.lock
theorem lock_get {vs : List Nat} {sl : List Slot} {j : Nat} {s : Slot} (h : (lockS vs sl)[j]? = some s) : s = .un ∨ (j ∉ vs ∧ ∃ t, sl[j]? = some t ∧ s = t.lock) := by
  unfold lockS at h
  rw [List.getElem?_map, Option.map_eq_some_iff] at h
  obtain ⟨t, ht, rfl⟩ := h
  rcases wipeS_get vs sl j t ht with rfl | ⟨n, ht⟩
  · exact .inl rfl
  · exact .inr ⟨n, t, ht, rfl⟩
theorem FR.locked (F : FR K φ σ H fr) (vs : List Nat) : FR K φ (wipe σ vs) H ⟨lockS vs fr.sl, fr.st⟩ := by
  have iso : ∀ t : Slot, t.lock.isO = true → t.isO = true := fun t => by cases t <;> exact fun h => h
  refine ⟨by rw [wipe_length, ← F.len]; unfold lockS; rw [List.length_map, wipeS_len], fun j s hs => ?_, fun i j s t a n h1 h2 o1 o2 e => ?_, F.nd, F.stl, F.st, F.tabs⟩
  · rcases lock_get hs with rfl | ⟨n, t, ht, rfl⟩
    · trivial
    · have q := F.slot j t ht
      rw [wipe_ne vs σ j n]
      cases t <;> exact q
  · rcases lock_get h1 with rfl | ⟨n1, t1, ht1, rfl⟩
    · cases o1
    · rcases lock_get h2 with rfl | ⟨n2, t2, ht2, rfl⟩
      · cases o2
      · rw [wipe_ne vs σ i n1] at e
        rw [wipe_ne vs σ j n2]
        exact F.inj i j t1 t2 a n ht1 ht2 (iso _ o1) (iso _ o2) e
theorem ow_locked {vs : List Nat} {sl : List Slot} {st : List OD} : Ow σ ⟨lockS vs sl, st⟩ = NoA := by
  funext a
  apply propext
  refine ⟨fun ⟨i, o, h, _⟩ => ?_, fun h => h.elim⟩
  rcases lock_get h with z | ⟨_, t, _, z⟩
  · cases z
  · cases t <;> cases z
end
def finC : Res (List Dv) → Res RV
  | .ok vs fr' => .ok (.new (.lst vs)) fr'
  | _ => .stuck
theorem compM_eq (tg : Tg) (body : M (Option Dv)) (xs : List D) (fr : Fr) : compM tg body xs fr = finC (compL tg body (lockS (slotsT tg) fr.sl) xs [] fr) := by
  unfold compM finC lockS
  cases compL tg body ((wipeS (slotsT tg) fr.sl).map Slot.lock) xs [] fr <;> rfl
section
variable {X : Cx} {W : WX} {CV : Str → Value} {φ : List Addr} {σ : L2.St} {H : Hp} {fr : Fr} {Q : VK}
theorem comp_rd {tg : Tg} {mi : M (List D)} {mc : M Bool} {me : M Dv} (σ : L2.St) (H : Hp) (Q : VK) (h : rd X.K W CV (RRV X.K) (mi >>= fun xs => compM tg (bodyM mc me) xs) σ H Q) :
    tLc (rd X.K W CV (RIC X.K) mi) (gT X.K tg) (rd X.K WF CV RBool mc) (rd X.K WF CV (RDv X.K) me) (slotsT tg) σ H Q := by
  obtain ⟨φ, fr, F, P⟩ := h
  refine ⟨φ, fr, F, Post.bind0 (R' := RRV X.K) (f := fun xs => compM tg (bodyM mc me) xs) P fun xs fr1 J H1 φ1 he x1 F1 wk P1 => ?_⟩
  have wk : Wk X.K φ1 NoA J xs H1 := wk
  rw [compM_eq] at P1
  intro B hB
  generalize hb : lockS (slotsT tg) fr1.sl = base at P1
  have FL : FR X.K φ1 (wipe σ (slotsT tg)) H1 ⟨base, fr1.st⟩ := by rw [← hb]; exact F1.locked _
  have own0 : ∀ {st : List OD} {σ' : L2.St}, Ow σ' ⟨base, st⟩ = NoA := fun {st σ'} => by rw [← hb]; exact ow_locked
  obtain ⟨nB, _⟩ := F1.free hB
  have P0 : Pers H1 (upd H1 B (.lst [])) := pers_new hB
  have X0 : Ext φ1 NoA H1 φ1 NoA (upd H1 B (.lst [])) := by
    have := (FL.laid (u := .lst []) hB).2
    rw [own0] at this
    exact this
  have FL0 := (FL.laid (u := .lst []) hB).1
  refine ⟨fun i m H' => m = xs.length - i ∧ i ≤ xs.length ∧ ∃ φ' st' acc vs, FR X.K φ' (wipe σ (slotsT tg)) H' ⟨base, st'⟩ ∧ Ext φ1 NoA H1 φ' NoA H' ∧ H' B = some (.lst vs) ∧ B ∉ φ' ∧ RepVs X.K φ' H' acc vs ∧
    Post X.K W CV (RRV X.K) φ σ H fr (finC (compL tg (bodyM mc me) base (xs.drop i) acc ⟨fr1.sl, st'⟩)) Q, ⟨xs.length, by simp, Nat.zero_le _, φ1, fr1.st, [], [], FL0, X0, upd_same, nB, rfl, P1⟩, ?_⟩
  rintro i m H2 ⟨rfl, hi, φ2, st2, acc, vs, F2, x2, hB2, nB2, ra, P2⟩
  by_cases hlt : i < xs.length
  · -- a turn
    obtain ⟨go, yl⟩ := wk.go φ2 _ H2 x2 i xs[i] (List.getElem?_eq_getElem hlt)
    have e : xs.drop i = xs[i] :: xs.drop (i + 1) := List.drop_eq_getElem_cons hlt
    rw [e] at P2
    refine .inr ⟨go, fun H' => ∃ φ' st' acc vs, FR X.K φ' (wipe σ (slotsT tg)) H' ⟨base, st'⟩ ∧ Ext φ1 NoA H1 φ' NoA H' ∧ H' B = some (.lst vs) ∧ B ∉ φ' ∧ RepVs X.K φ' H' acc vs ∧
      Post X.K W CV (RRV X.K) φ σ H fr (finC (compL tg (bodyM mc me) base (xs.drop (i + 1)) acc ⟨fr1.sl, st'⟩)) Q, fun H' q => ⟨_, by omega, rfl, hlt, q⟩, fun x H3 y => ?_⟩
    obtain ⟨hH, rx⟩ := yl x H3 y
    have FX : FR X.K φ2 (wipe σ (slotsT tg)) H3 ⟨base, st2⟩ ∧ Ext φ2 NoA H2 φ2 NoA H3 := by
      rcases hH with rfl | ⟨p, u, hp, rfl⟩
      · exact ⟨F2, Ext.refl _ _ _⟩
      · have := F2.laid (u := u) hp
        rw [own0] at this
        exact this
    obtain ⟨F3, x3⟩ := FX
    -- the list, later
    have later : ∀ {φ4 : List Addr} {O4 : Addr → Prop} {H4 : Hp}, Ext φ2 NoA H3 φ4 O4 H4 → H4 B = some (.lst vs) ∧ B ∉ φ4 ∧ RepVs X.K φ4 H4 acc vs := fun {φ4 O4 H4} x4 => by
      have b3 := x3.keep B _ hB2 (fun _ z => nomatch z) nB2 fun z => z
      refine ⟨x4.keep B _ b3 (fun _ z => nomatch z) nB2 fun z => z, fun hm => ?_, RepVs.ext (x3.pers.trans x4.pers) x4.pre' ra⟩
      obtain ⟨ψ, e, hn⟩ := x4.pre
      rw [e] at hm
      rcases List.mem_append.mp hm with hm | hm
      · exact nB2 hm
      · rw [hn B hm] at b3
        cases b3
    have P3 : Post X.K W CV (RRV X.K) φ σ H fr (finC (match ((bindT tg xs[i] ⟨base, st2⟩).andThen fun _ => bodyM mc me) with
      | .ok (some v) fr' => if acc.length < 16777216 then compL tg (bodyM mc me) base (xs.drop (i + 1)) (acc ++ [v]) ⟨fr1.sl, fr'.st⟩ else .stuck
      | .ok none fr' => compL tg (bodyM mc me) base (xs.drop (i + 1)) acc ⟨fr1.sl, fr'.st⟩
      | _ => .stuck)) Q := P2
    cases qb : bindT tg xs[i] ⟨base, st2⟩ with
    | exc c p fr' => exact absurd qb bindT_no
    | stuck =>
      rw [qb] at P3
      exact P3.elim
    | ok u fr4 =>
      rw [qb] at P3
      obtain ⟨σ4, F4, x4, hj, hq⟩ := bindT_rd F3 qb rx
      rw [own0] at x4
      refine hq _ ⟨?_, φ2, fr4, F4, ?_⟩
      · have hl : (wipe σ (slotsT tg)).length = σ4.length := by rw [← F4.len, ← F3.len]; exact (bindT_len qb).symm
        rw [wipe_eq hl hj, wipe_wipe]
      · have P4 : Post X.K W CV (RRV X.K) φ σ H fr (finC (match ((mc fr4).andThen fun t => if t then me >>= fun v => pure (some v) else pure none) with
          | .ok (some v) fr' => if acc.length < 16777216 then compL tg (bodyM mc me) base (xs.drop (i + 1)) (acc ++ [v]) ⟨fr1.sl, fr'.st⟩ else .stuck
          | .ok none fr' => compL tg (bodyM mc me) base (xs.drop (i + 1)) acc ⟨fr1.sl, fr'.st⟩
          | _ => .stuck)) Q := P3
        cases qc : mc fr4 with
        | exc c p fr' =>
          rw [qc] at P4
          exact P4.elim
        | stuck =>
          rw [qc] at P4
          exact P4.elim
        | ok t fr5 =>
          rw [qc] at P4
          intro b H5 φ5 x5 F5 hbt
          cases (show b = t from hbt)
          have x45 : Ext φ2 NoA H3 φ5 (Ow σ4 fr5) H5 := x4.trans x5
          cases t with
          | false =>
            refine iteF ?_
            obtain ⟨b1, b2, b3⟩ := later x45
            exact ⟨φ5, fr5.st, acc, vs, FR.turn F3 x45 F5, x2.trans (x3.trans (x45.own' fun _ z => z)), b1, b2, b3, P4⟩
          | true =>
            refine iteT ⟨φ5, fr5, F5, ?_⟩
            have P5 : Post X.K W CV (RRV X.K) φ σ H fr (finC (match ((me fr5).andThen fun v => (pure (some v) : M (Option Dv))) with
              | .ok (some v) fr' => if acc.length < 16777216 then compL tg (bodyM mc me) base (xs.drop (i + 1)) (acc ++ [v]) ⟨fr1.sl, fr'.st⟩ else .stuck
              | .ok none fr' => compL tg (bodyM mc me) base (xs.drop (i + 1)) acc ⟨fr1.sl, fr'.st⟩
              | _ => .stuck)) Q := P4
            cases qe : me fr5 with
            | exc c p fr' =>
              rw [qe] at P5
              exact P5.elim
            | stuck =>
              rw [qe] at P5
              exact P5.elim
            | ok y fr6 =>
              rw [qe] at P5
              have P6 : Post X.K W CV (RRV X.K) φ σ H fr (finC (if acc.length < 16777216 then compL tg (bodyM mc me) base (xs.drop (i + 1)) (acc ++ [y]) ⟨fr1.sl, fr6.st⟩ else .stuck)) Q := P5
              intro v H6 φ6 x6 F6 ry
              have x46 : Ext φ2 NoA H3 φ6 (Ow σ4 fr6) H6 := x45.trans x6
              obtain ⟨b1, b2, b3⟩ := later x46
              by_cases hz : acc.length < 16777216
              · rw [if_pos hz] at P6
                refine ⟨vs, b1, by rw [sizeLine_eq, ← b3.len]; exact hz, ?_⟩
                have F7 := FR.turn F3 x46 F6
                have pz : Pers H6 (upd H6 B (.lst (vs ++ [v]))) := pers_upd b1 True.intro
                have tz : TabE H6 (upd H6 B (.lst (vs ++ [v]))) := tabE_fz b1 trivial
                have k7 : ∀ b w, b ≠ B → H6 b = some w → upd H6 B (.lst (vs ++ [v])) b = some w := fun b w n q => by rw [upd_ne n]; exact q
                have nf : ∀ {b : Addr} {o : OD}, (∃ l, φ6[l]? = some b) → OwnR X.K φ6 H6 b o → OwnR X.K φ6 (upd H6 B (.lst (vs ++ [v]))) b o := fun {b o} hm r => OwnR.ext pz ⟨[], by simp⟩ (fun w hw => k7 b w (fun z => b2 (by obtain ⟨l, hl⟩ := hm; rw [← z]; exact List.mem_of_getElem? hl)) hw) r
                have F8 : FR X.K φ6 (wipe σ (slotsT tg)) (upd H6 B (.lst (vs ++ [v]))) ⟨base, fr6.st⟩ := by
                  refine ⟨F7.len, fun j s hs => ?_, F7.inj, F7.nd, F7.stl, fun l o ho => ?_, tz _ F7.tabs⟩
                  · have q := F7.slot j s hs
                    have q3 := F3.slot j s hs
                    cases s with
                    | un => trivial
                    | val z =>
                      obtain ⟨w, e, r⟩ := q
                      exact ⟨w, e, RepV.pers' pz r⟩
                    | own o =>
                      obtain ⟨a, e, n, r⟩ := q
                      exact ⟨a, e, n, OwnR.ext pz ⟨[], by simp⟩ (fun w hw => k7 a w (fun z => by
                        subst z
                        have := (Ow.oa ⟨j, o, hs, e⟩ : Oa (wipe σ (slotsT tg)) ⟨base, st2⟩ a)
                        have z2 : Ow (wipe σ (slotsT tg)) ⟨base, st2⟩ a := ⟨j, o, hs, e⟩
                        rw [own0] at z2
                        exact z2) hw) r⟩
                    | lok o =>
                      obtain ⟨a, e, n, r⟩ := q
                      refine ⟨a, e, n, OwnR.ext pz ⟨[], by simp⟩ (fun w hw => k7 a w (fun z => ?_) hw) r⟩
                      subst z
                      -- a slot's container stood at H1
                      have q1 := FL.slot j _ hs
                      obtain ⟨a', e', _, r'⟩ := q1
                      rw [e] at e'
                      cases e'
                      cases o with
                      | lst _ => obtain ⟨_, w', _⟩ := r'; rw [hB] at w'; cases w'
                      | dic _ => obtain ⟨_, w', _⟩ := r'; rw [hB] at w'; cases w'
                      | ins _ _ => exact r'
                  · obtain ⟨b, e, r⟩ := F7.st l o ho
                    exact ⟨b, e, nf ⟨l, e⟩ r⟩
                have x7 : Ext φ1 NoA H1 φ6 NoA H6 := x2.trans (x3.trans (x46.own' fun _ z => z))
                have x8 : Ext φ1 NoA H1 φ6 NoA (upd H6 B (.lst (vs ++ [v]))) := by
                  refine ⟨x7.pre, x7.pers.trans pz, fun b w hw nt n1 n2 => ?_, fun b hb => ?_, x7.own⟩
                  · rw [upd_ne (fun z => by subst z; rw [hB] at hw; cases hw)]
                    exact x7.keep b w hw nt n1 n2
                  · by_cases z : b = B
                    · subst z
                      exact hB
                    · rw [upd_ne z] at hb
                      exact x7.dom b hb
                exact ⟨φ6, fr6.st, acc ++ [y], vs ++ [v], F8, x8, upd_same, b2, RepVs.append (b3.pers' pz) ⟨v, [], rfl, RepV.pers' pz ry, rfl⟩, P6⟩
              · rw [if_neg hz] at P6
                exact P6.elim
  · have e : i = xs.length := by omega
    subst e
    refine .inl ⟨wk.stop φ2 _ H2 x2, ?_⟩
    rw [List.drop_length] at P2
    have P3 : Post X.K W CV (RRV X.K) φ σ H fr (.ok (.new (.lst acc)) ⟨fr1.sl, st2⟩) Q := P2
    have F3 : FR X.K φ2 σ H2 ⟨fr1.sl, st2⟩ := FR.turn F1 x2 F2
    refine P3 _ H2 φ2 (x1.trans (x2.own' fun a h => h)) F3 ⟨B, rfl, x1.dom B hB, nB2, ?_, vs, hB2, ra⟩
    exact (F1.free hB).2
end
end Nw

set_option autoImplicit false
set_option maxRecDepth 100000
set_option maxHeartbeats 1000000
/-! Nw, part U: comprehensions as code; names, constants. -/
namespace Nw
open PySem PySem.Spec PyProof.Rows L2 RZ

section
variable {X : Cx} {W : WX} {CV : Str → Value} {φ : List Addr} {σ : L2.St} {H : Hp} {fr : Fr} {Q : VK}
def constD : PySem.Const → Option D
  | .none => some .none
  | .bool b => some (.bool b)
  | .int i => some (.int i)
  | .str s => some (.str s)
  | _ => none
theorem cst_ok {c : PySem.Const} {j : Nat} {pos : Pos} {d : D} (h : constD c = some d) : PEn X W CV (.Constant c j pos) (pure (vD d)) := by
  cases c <;> simp only [constD, reduceCtorEq] at h <;> cases h
  · exact PE.imp pe_non fun σ H Q ⟨φ, fr, F, P⟩ => post_val F P rep_none
  · exact PE.imp pe_bl fun σ H Q ⟨φ, fr, F, P⟩ => post_val F P rep_bool
  · exact PE.imp pe_int fun σ H Q ⟨φ, fr, F, P⟩ => post_val F P rep_int
  · exact PE.imp pe_str fun σ H Q ⟨φ, fr, F, P⟩ => post_val F P rep_str
/-- a module's constant -/
theorem glb_ok {x : Str} {pos : Pos} {v : V} {u : Value} {d : D} (hg : Gl X x) (hm : X.mg x = some u) (r : RelV v u) (rp : ∀ H, Rep X.K H d v) (hd : (x == ("__debug__" : Str)) = false) : PEn X W CV (.Name x pos) (pure (vD d)) :=
  PE.imp (pe_glob hg hm r hd) fun σ H Q ⟨φ, fr, F, P⟩ => post_val F P (rp H)
theorem PTs.imp {ifs : List Expr} {t t' : TT} (h : PTs X ifs t) (i : ∀ σ H Q, t' σ H Q → t σ H Q) : PTs X ifs t' := ⟨fun pins s σ H Q I q => h.run pins s σ H Q I (i σ H Q q)⟩
theorem pts_no : PTs X [] (rd X.K W CV RBool (pure true)) := PTs.imp pts_nil fun σ H Q ⟨φ, fr, F, P⟩ => P true H φ (Ext.refl _ _ _) F rfl
variable {elt tg iter : Expr} {ifs : List Expr} {scope : Scope} {own : List (Str × Nat)} {pos : Pos} {t : Tg} {mi : M (List D)} {mc : M Bool} {me : M Dv}
theorem comp_ok (hc : X.calm = true) (hN : X.N.Nodup) (hi : PIc X W CV tg iter mi) (ok : BlkOk X.N X.env.scope scope own) (ho : own.map (·.2) = slotsT t)
    (hg : ∀ (s : Shared) (H : Hp) (C : Addr) (cl : List (Str × Addr)) (fp : List Addr), PG (X.blk s H scope (compEnvC scope cl C X.env) fp) tg (gT X.K t))
    (ht : ∀ (s : Shared) (H : Hp) (C : Addr) (cl : List (Str × Addr)) (fp : List Addr), PTs (X.blk s H scope (compEnvC scope cl C X.env) fp) ifs (rd X.K WF CV RBool mc))
    (he : ∀ (s : Shared) (H : Hp) (C : Addr) (cl : List (Str × Addr)) (fp : List Addr), PE (X.blk s H scope (compEnvC scope cl C X.env) fp) elt (rd X.K WF CV (RDv X.K) me)) (hs : ∀ x, foldedSetIterable iter X.env x = pure x) :
    PEn X W CV (.ListComp elt [⟨tg, iter, ifs, 0⟩] scope pos) (compF t mi mc me) := by
  refine PE.imp (pe_lc hc hN hi ok hg ht he hs) fun σ H Q h => ?_
  rw [ho]
  exact comp_rd σ H Q h
theorem psn_ownLc {i : Nat} {y : Str} {py spos : Pos} (hc : X.calm = true) (hN : X.N.Nodup) (hy : X.N[i]? = some y) (hyl : X.env.scope.names.lookup y = some .local)
    (hsw : swapsWith (.ListComp elt [⟨tg, iter, ifs, 0⟩] scope pos) (some (.Name y py)) spos.line X.env = pure true) (hi : PIc X W CV tg iter mi) (ok : BlkOk X.N X.env.scope scope own) (ho : own.map (·.2) = slotsT t)
    (hg : ∀ (s : Shared) (H : Hp) (C : Addr) (cl : List (Str × Addr)) (fp : List Addr), PG (X.blk s H scope (compEnvC scope cl C X.env) fp) tg (gT X.K t))
    (ht : ∀ (s : Shared) (H : Hp) (C : Addr) (cl : List (Str × Addr)) (fp : List Addr), PTs (X.blk s H scope (compEnvC scope cl C X.env) fp) ifs (rd X.K WF CV RBool mc))
    (he : ∀ (s : Shared) (H : Hp) (C : Addr) (cl : List (Str × Addr)) (fp : List Addr), PE (X.blk s H scope (compEnvC scope cl C X.env) fp) elt (rd X.K WF CV (RDv X.K) me)) (hs : ∀ x, foldedSetIterable iter X.env x = pure x) :
    PSn X W CV (.Assign [.Name y py] (.ListComp elt [⟨tg, iter, ifs, 0⟩] scope pos) spos) (ownM i (compF t mi mc me)) := by
  refine PS.imp (ps_setLc hc hN hy hyl hsw hi ok hg ht he hs) fun D σ H h => ?_
  rw [ho]
  have h := own_rd D σ H h
  exact comp_rd σ H _ h
end
end Nw

set_option autoImplicit false
set_option maxRecDepth 100000
set_option maxHeartbeats 1000000
/-! Nw, part V: defs and their calls. -/
namespace Nw
open PySem PySem.Spec PyProof.Rows L2 RZ

/-- as FnOk, where nothing is guarded -/
structure FnG (P : Program) (w : World) (K : PySem.W.Frag) (mg : Str → Option Value) (base : Heap) (CX : CXT) (k : Nat) (f : Addr) (fd : FuncData) (ps : List Str) (sp : Sp) : Prop where
  count : ∀ vs H Q E, sp vs H Q E → vs.length = ps.length
  go : ∀ (A : Around) (out : List Env) (s : Shared) (H : Hp) (args : Args) (us : List Value) (vs : List V) (Q : VK) (E : XK), A.guards = some [] → Room k A → Env0 P w K mg base A out s H → BindsTo s fd args (ps.zip us) → Vals vs us → sp vs H Q E →
    codeAny (model P w) A (.call (.ref f) args) (CR CX out P w H s Q E) s
theorem room_in2 {k : Nat} {A : Around} (r : Room (k + 1) A) (env : Env) : Room k (A.deeper env).in1.in1 :=
  ⟨r.hd, by have := r.dp; show A.depth + 1 + 3 * k + 5 < _; omega, by have := r.un; show A.units + 3 + 1 + 1 + 16 * k + 200 < _; omega⟩
theorem room_in3 {k : Nat} {A : Around} (r : Room (k + 1) A) (env env' : Env) : Room k ((A.deeper env).in1.in1.deeper env') ∧ Room k ((A.deeper env).in1.in1.deeper env').in1.in1 :=
  ⟨⟨r.hd, by have := r.dp; show A.depth + 1 + 1 + 3 * k + 5 < _; omega, by have := r.un; show A.units + 3 + 1 + 1 + 3 + 16 * k + 200 < _; omega⟩,
    ⟨r.hd, by have := r.dp; show A.depth + 1 + 1 + 3 * k + 5 < _; omega, by have := r.un; show A.units + 3 + 1 + 1 + 3 + 1 + 1 + 16 * k + 200 < _; omega⟩⟩
/-- a def by its body -/
theorem fnG_of {CX : CXT} {P : Program} {w : World} {K : PySem.W.Frag} {mg : Str → Option Value} {base : Heap} {k : Nat} {f : Addr} {fd : FuncData} {x qual : Str} {params : Arguments} {body : List Stmt} {scope : Scope} {kws : List (Str × V)}
    {N ps : List Str} {sp : Sp} (G : FunD K x qual params body scope [] kws f fd) (S : FnScope N ps scope) (count : ∀ vs H Q E, sp vs H Q E → vs.length = ps.length)
    (runs : ∀ (cdv : Value) (A : Around) (out : List Env) (s : Shared) (H : Hp) (vs : List V) (Q : VK) (E : XK), A.guards = some [] → Room k (A.deeper (envOfC qual scope s.heap.objs.size f cdv)) → Room k (A.deeper (envOfC qual scope s.heap.objs.size f cdv)).in1.in1 → sp vs H Q E →
      PySem.W.codeIn K cdv qual = true → (∀ env', Room k (((A.deeper (envOfC qual scope s.heap.objs.size f cdv)).in1.in1).deeper env') ∧ Room k (((A.deeper (envOfC qual scope s.heap.objs.size f cdv)).in1.in1).deeper env').in1.in1) →
      PSs (cxOf CX P w K mg base N qual scope f cdv A out s H E) body (fun D σ H' => D = { nx := fun _ H' => Q .non H', rt := Q } ∧ σ = L2.start N vs ∧ H' = H)) : FnG P w K mg base CX (k + 1) f fd ps sp := by
  obtain ⟨oc, od, dV, kV, doc, pm, an, cdv, ct, osl, rfl, lk, hcd, _, _⟩ := G.ex
  refine ⟨count, fun A out s H args us vs Q E hgd hroom e0 bnd rel want => ?_⟩
  have lng : vs.length = ps.length := count _ _ _ _ want
  have inK : K.In s.heap := e0.mod.kin.keeps fun b o e => (e0.bs b o e).1
  have nolim : s.heap.NoLimit := e0.mod.nolimit.keeps fun b o e => (e0.bs b o e).1
  refine codeAny_call_function hroom.depth (inK _ _ lk) rfl S.co S.gen rfl (PySem.W.codeRec_of inK hcd) (bnd _ _ _ _ ?_)
  refine wpAny_newFunctionEnv_cells S.kind (fun y hy => ?_) fun env eenv s2 inn => ?_
  · obtain ⟨n, v⟩ := y
    cases S.par n (List.of_mem_zip hy).1 with
    | inl q => exact .inl q
    | inr q => exact .inr ⟨q, PySem.W.cellsFrom_some _ _ _ (.inl q)⟩
  · subst eenv
    refine ⟨nolim.keeps inn.toInCall.keep, codeAny_func ?_⟩
    have J : Inv (cxOf CX P w K mg base N qual scope f cdv A out s H E) [] (L2.start N vs) H s2 := inv_start S hroom.hd e0 lng rel inn
    refine wpAny_mono ((runs cdv A out s H vs Q E hgd (hroom.deeper _) (room_in2 hroom _) want hcd (fun env' => room_in3 hroom _ env')).run [] s2 (L2.start N vs) H _ J ⟨rfl, rfl, rfl⟩) (fun fl s3 ends => ?_) fun _ _ z => z
    have back : ∀ {σ' : L2.St} {H' : Hp} {v : V} {u : Value}, Inv (cxOf CX P w K mg base N qual scope f cdv A out s H E) [] σ' H' s3 → RelV v u → Q v H' → CE out P w H s Q u s3 :=
      fun {σ' H' v u} J2 rv q => ⟨v, H', J2.os, J2.bare, J2.base, J2.hok, rv, q⟩
    match fl, ends with
    | .ret u, ends =>
      obtain ⟨v, σ', H', J2, rv, q⟩ := ends
      exact back J2 rv q
    | .next, ends =>
      obtain ⟨σ', H', J2, q⟩ := ends
      exact back (v := V.non) (u := Value.none) J2 rfl q
    | .brk, ends =>
      obtain ⟨_, _, _, q⟩ := ends
      exact False.elim q
    | .cont, ends =>
      obtain ⟨_, _, _, q⟩ := ends
      exact False.elim q

/-! ### the promise of a def that m tells -/
/-- the store stands at φ -/
structure StR (K : PySem.W.Frag) (φ : List Addr) (H : Hp) (st : List OD) : Prop where
  nd : φ.Nodup
  stl : φ.length = st.length
  st : ∀ (l : Nat) (o : OD), st[l]? = some o → ∃ a, φ[l]? = some a ∧ OwnR K φ H a o
  tabs : LamX.Tabs (tabsK K) H
/-- what a call hands back -/
def PostC (K : PySem.W.Frag) (CV : Str → Value) (φ : List Addr) (H : Hp) (r : Res RV) (Q : VK) (E : XK) : Prop := match r with
  | .ok (.val x) fr' => ∀ v H' φ', Ext φ NoA H φ' NoA H' → StR K φ' H' fr'.st → RepV K φ' H' x v → Q v H'
  | .ok (.new o) fr' => ∀ a H' φ', Ext φ NoA H φ' NoA H' → StR K φ' H' fr'.st → H a = none → a ∉ φ' → OwnR K φ' H' a o → Q (.ref a) H'
  | .exc c p fr' => p = none ∧ ∀ H' φ', Ext φ NoA H φ' NoA H' → StR K φ' H' fr'.st → E (CV c) none H'
  | .stuck => False
def spC (K : PySem.W.Frag) (CV : Str → Value) (n : Nat) (C : List Dv → List OD → Res RV) : Sp := fun vs H Q E => ∃ φ st xs, vs.length = n ∧ StR K φ H st ∧ RepVs K φ H xs vs ∧ PostC K CV φ H (C xs st) Q E
theorem FR.str {K : PySem.W.Frag} {φ : List Addr} {σ : L2.St} {H : Hp} {fr : Fr} (F : FR K φ σ H fr) : StR K φ H fr.st := ⟨F.nd, F.stl, F.st, F.tabs⟩
theorem RepVs.at {K : PySem.W.Frag} {φ : List Addr} {H : Hp} : ∀ {xs : List Dv} {vs : List V}, RepVs K φ H xs vs → ∀ (i : Nat) (x : Dv), xs[i]? = some x → ∃ v, vs[i]? = some v ∧ RepV K φ H x v := fun h i x e => h.get e
/-- the frame at a def's start -/
theorem start_fr {K : PySem.W.Frag} {φ : List Addr} {H : Hp} {st : List OD} {xs : List Dv} {vs : List V} {N : List Str} {F : Fn} (S : StR K φ H st) (r : RepVs K φ H xs vs) (hn : F.ns = N.length) (hl : vs.length = F.ps) (hle : F.ps ≤ N.length) :
    FR K φ (L2.start N vs) H (F.start xs st) ∧ Ow (L2.start N vs) (F.start xs st) = NoA := by
  have get : ∀ (i : Nat) (s : Slot), (F.start xs st).sl[i]? = some s → (∃ x, xs[i]? = some x ∧ s = .val x) ∨ s = .un := by
    intro i s h
    unfold Fn.start at h
    dsimp only at h
    by_cases hi : i < (xs.map Slot.val).length
    · rw [List.getElem?_append_left hi, List.getElem?_map, Option.map_eq_some_iff] at h
      obtain ⟨x, e, rfl⟩ := h
      exact .inl ⟨x, e, rfl⟩
    · rw [List.getElem?_append_right (by omega), List.getElem?_replicate] at h
      split at h
      · cases h; exact .inr rfl
      · cases h
  have hx : xs.length = vs.length := r.len
  refine ⟨⟨?_, fun i s h => ?_, fun i j s t a _ h1 _ o1 _ _ => ?_, S.nd, S.stl, S.st, S.tabs⟩, ?_⟩
  · unfold Fn.start L2.start
    simp only [List.length_append, List.length_map, List.length_replicate]
    omega
  · rcases get i s h with ⟨x, e, rfl⟩ | rfl
    · obtain ⟨v, ev, rv⟩ := r.get e
      refine ⟨v, ?_, rv⟩
      unfold L2.start
      rw [List.getElem?_append_left (by rw [List.length_map]; exact (List.getElem?_eq_some_iff.mp ev).1), List.getElem?_map, ev]
      rfl
    · trivial
  · rcases get i s h1 with ⟨x, e, rfl⟩ | rfl <;> cases o1
  · funext a
    apply propext
    refine ⟨fun ⟨i, o, h, _⟩ => ?_, fun z => z.elim⟩
    rcases get i _ h with ⟨x, e, z⟩ | z <;> cases z
/-- a def's body serves its promise -/
theorem body_post {K : PySem.W.Frag} {CV : Str → Value} {φ : List Addr} {σ : L2.St} {H : Hp} {fr : Fr} {m : Res Fl} {Q : VK} {E : XK} (hO : Ow σ fr = NoA) (P : PostC K CV φ H m.ends Q E) :
    PostS K (fun c d _ H' => E c d H') CV φ σ H fr m { nx := fun _ H' => Q .non H', rt := Q } := by
  have noO : ∀ {O : Addr → Prop} {φ' : List Addr} {H' : Hp}, Ext φ (Ow σ fr) H φ' O H' → Ext φ NoA H φ' NoA H' := fun {O φ' H'} x => by
    rw [hO] at x
    exact x.own' fun _ z => z
  cases m with
  | stuck => exact P
  | exc c p fr' => exact ⟨P.1, fun σ' H' φ' x f => P.2 H' φ' (noO x) f.str⟩
  | ok b fr' =>
    cases b with
    | next => exact fun σ' H' φ' x f => P .non H' φ' (noO x) f.str repv_none
    | brk => exact P.elim
    | cont => exact P.elim
    | ret r =>
      cases r with
      | val y => exact fun v σ' H' φ' x f q => P v H' φ' (noO x) f.str q
      | new o =>
        refine fun a σ' H' φ' x f n oa q => P a H' φ' (noO x) f.str ?_ n q
        rw [hO] at oa
        rcases oa with z | z
        · exact z.elim
        · exact z
/-- the caller's frame behind a call -/
theorem FR.call {K : PySem.W.Frag} {φ φ' : List Addr} {σ : L2.St} {H H' : Hp} {fr : Fr} {st : List OD} (F : FR K φ σ H fr) (x : Ext φ NoA H φ' NoA H') (S : StR K φ' H' st) : FR K φ' σ H' ⟨fr.sl, st⟩ := by
  have G : FR K φ' [] H' ⟨[], st⟩ := ⟨rfl, fun i s h => by simp at h, fun i j s t a _ h => by simp at h, S.nd, S.stl, S.st, S.tabs⟩
  exact F.turn x G
section
variable {X : Cx} {W : WX} {CV : Str → Value}
theorem call_rd {C : Call} {f : Str} {n : Nat} {ms : M (List Dv)} (hn : ∀ xs st, C f xs st ≠ .stuck → xs.length = n) (σ : L2.St) (H : Hp) (Q : VK) (h : rd X.K W CV (RRV X.K) (callF C f ms) σ H Q) :
    rd X.K W CV (RVs X.K) ms σ H fun vs H1 => spC X.K CV n (C f) vs H1 Q (fun c d H' => W c d σ H') := by
  obtain ⟨φ, fr, F, P⟩ := h
  refine ⟨φ, fr, F, Post.bind (R' := RRV X.K) back_RRV (f := fun xs => callM C f xs) P fun xs fr1 vs H1 φ1 he x1 F1 q P1 => ?_⟩
  have hne : C f xs fr1.st ≠ .stuck := fun z => by
    have P2 : Post X.K W CV (RRV X.K) φ1 σ H1 fr1 (match C f xs fr1.st with
      | .ok r fr' => .ok r { fr1 with st := fr'.st }
      | .exc c p fr' => .exc c p { fr1 with st := fr'.st }
      | .stuck => .stuck) Q := P1
    rw [z] at P2
    exact P2
  refine ⟨φ1, fr1.st, xs, by rw [← q.len]; exact hn _ _ hne, F1.str, q, ?_⟩
  have P2 : Post X.K W CV (RRV X.K) φ1 σ H1 fr1 (match C f xs fr1.st with
    | .ok r fr' => .ok r { fr1 with st := fr'.st }
    | .exc c p fr' => .exc c p { fr1 with st := fr'.st }
    | .stuck => .stuck) Q := P1
  cases e : C f xs fr1.st with
  | stuck => exact hne e
  | exc c p fr' =>
    rw [e] at P2
    exact ⟨P2.1, fun H' φ' x S => P2.2 H' φ' (x.own' fun _ z => z) (F1.call x S)⟩
  | ok r fr' =>
    rw [e] at P2
    cases r with
    | val y => exact fun v H' φ' x S rv => P2 v H' φ' (x.own' fun _ z => z) (F1.call x S) rv
    | new o => exact fun a H' φ' x S h0 na ow => P2 (.ref a) H' φ' (x.own' fun _ z => z) (F1.call x S) ⟨a, rfl, h0, na, (F1.free h0).2, ow⟩
variable {CX : CXT} {k : Nat} {f : Addr} {fd : FuncData} {ps : List Str} {sp : Sp} {x : Str} {p pos : Pos} {e : Expr} {es : List Expr} {t : TA}
theorem run_fnG {pins : List (Addr × Obj)} {σ : L2.St} {H : Hp} {s : Shared} {Q : VK} {us : List Value} {vs : List V} {E : XK} (G : FnG X.prog X.w X.K X.mg X.base CX k f fd ps sp) (hgd : X.A.guards = some []) (hroom : Room k X.A) (bnd : Binds X.K fd ps []) (thru : PassesAt CX X σ E)
    (I : Inv X pins σ H s) (rel : Vals vs us) (want : sp vs H Q E) : wpAny (model X.prog X.w) X.A (call (.ref f) us) (EP X pins σ Q) X.xe s := by
  have cnt : us.length = ps.length := by rw [← rel.length]; exact G.count _ _ _ _ want
  have b := bnd s us I.kIn (by rw [List.append_nil]; exact cnt)
  rw [List.append_nil] at b
  refine wpAny_call (codeAny_mono (G.go X.A X.stack s H ⟨us, []⟩ us vs Q E hgd hroom I.env0 b rel want) fun r s2 back => ?_)
  match r, back with
  | .error e, back => exact thru pins H s e s2 I back
  | .ok (.ret u), back => exact I.after back
  | .ok .next, back => exact False.elim back
  | .ok .brk, back => exact False.elim back
  | .ok .cont, back => exact False.elim back
theorem pe_callG {E : L2.St → XK} (G : FnG X.prog X.w X.K X.mg X.base CX k f fd ps sp) (hgd : X.A.guards = some []) (hroom : Room k X.A) (hg : Gl X x) (hm : X.mg x = some (.ref f)) (kp : PySem.W.keepIn X.K (.ref f) = true) (bnd : Binds X.K fd ps []) (thru : ∀ σ, PassesAt CX X σ (E σ))
    (ha : PA X (e :: es) t) (ndb : (x == ("__debug__" : Str)) = false) (h1 : starEach (e :: es) X.env = (false, eval e X.env) :: starEach es X.env) (h2 : (backTo pos (starEach es X.env)).any (·.1) = false) :
    PE X (.Call (.Name x p) (e :: es) [] pos) (fun σ H Q => t σ H fun vs H1 => sp vs H1 Q (E σ)) := by
  refine ⟨fun pins s σ H Q I want => wpAny_Call_Name_kw (ld_glob I hg hm ?_ ndb)⟩
  refine PySem.W.callWith_K (h₀ := X.base) I.ok.mod.kin kp (thn (ha.run pos pins s σ H _ I want) fun us s2 ⟨vs, H2, I2, rel, q⟩ => ⟨I2.kIn, ?_⟩) h1 h2
  exact run_fnG G hgd hroom bnd (thru σ) I2 rel q
theorem pe_callG0 {E : L2.St → XK} (G : FnG X.prog X.w X.K X.mg X.base CX k f fd ps sp) (hgd : X.A.guards = some []) (hroom : Room k X.A) (hg : Gl X x) (hm : X.mg x = some (.ref f)) (kp : PySem.W.keepIn X.K (.ref f) = true) (bnd : Binds X.K fd ps []) (thru : ∀ σ, PassesAt CX X σ (E σ))
    (ndb : (x == ("__debug__" : Str)) = false) : PE X (.Call (.Name x p) [] [] pos) (fun σ H Q => sp [] H Q (E σ)) := by
  refine ⟨fun pins s σ H Q I want => wpAny_Call_Name_kw (ld_glob I hg hm ?_ ndb)⟩
  exact PySem.W.callWith_K0 I.kIn kp (run_fnG (us := []) G hgd hroom bnd (thru σ) I .nil want)
theorem call_ok {C : Call} {ms : M (List Dv)} (tk : Takes X W) (G : FnG X.prog X.w X.K X.mg X.base (L2.CX X.prog X.w) k f fd ps (spC X.K CV ps.length (C x))) (hn : ∀ xs st, C x xs st ≠ .stuck → xs.length = ps.length) (hgd : X.A.guards = some []) (hroom : Room k X.A) (hg : Gl X x) (hm : X.mg x = some (.ref f))
    (kp : PySem.W.keepIn X.K (.ref f) = true) (bnd : Binds X.K fd ps []) (ndb : (x == ("__debug__" : Str)) = false) (ha : PAv X W CV (e :: es) ms) (n : noStar e = true) (ns : es.all noStar = true) : PEn X W CV (.Call (.Name x p) (e :: es) [] pos) (callF C x ms) :=
  PE.imp (pe_callG (E := fun σ => WE W σ) G hgd hroom hg hm kp bnd (passAt tk) ha ndb (star_cons n) (star_plain ns)) fun σ H Q h => call_rd hn σ H Q h
theorem call0_ok {C : Call} (tk : Takes X W) (G : FnG X.prog X.w X.K X.mg X.base (L2.CX X.prog X.w) k f fd ps (spC X.K CV ps.length (C x))) (hn : ∀ xs st, C x xs st ≠ .stuck → xs.length = ps.length) (hgd : X.A.guards = some []) (hroom : Room k X.A) (hg : Gl X x) (hm : X.mg x = some (.ref f))
    (kp : PySem.W.keepIn X.K (.ref f) = true) (bnd : Binds X.K fd ps []) (ndb : (x == ("__debug__" : Str)) = false) : PEn X W CV (.Call (.Name x p) [] [] pos) (callF C x (pure [])) :=
  PE.imp (pe_callG0 (E := fun σ => WE W σ) G hgd hroom hg hm kp bnd (passAt tk) ndb) fun σ H Q h => by
    obtain ⟨φ, fr, F, P⟩ := call_rd hn σ H Q h
    exact P [] H φ (Ext.refl _ _ _) F rfl
end
end Nw

set_option autoImplicit false
set_option maxRecDepth 100000
set_option maxHeartbeats 1000000
/-! Nw, part V2: sorting by a def's key. -/
namespace Nw
open PySem PySem.Spec PyProof.Rows L2 RZ
section
variable {X : Cx} {pins : List (Addr × Obj)} {σ : L2.St} {H : Hp} {s : Shared}
/-- a raw object of one's own is told -/
theorem inv_adopt {T : Addr} {ob : HO} (I : Inv X pins σ H s) (hf : FpOk X pins H T) (new : ObjOk X.prog X.w (upd H T ob) s.heap T ob) : Inv X pins σ (upd H T ob) s := by
  have hn : H T = none := hf.1
  have h2 := hf.2
  have nit : ∀ b u, H b = some u → b ≠ T := fun b u e z => by rw [z, hn] at e; cases e
  have J := I.step (g' := s.gens) (d' := s.drawn) (t' := s.toks) (h' := s.heap) (H' := upd H T ob) (ch := [T]) (fun b hb => ?_) (fun b o _ _ _ e _ => e) (fun b o _ _ _ e _ => ⟨o.slots, e⟩) (fun b o hb e n => ?_) (fun b o _ e => ⟨o, e⟩) (fun b xs e => ?_) (fun b o u e => ?_) (fun b ps e => ⟨#[], ?_⟩) (fun m hm => hm) (fun b u e => ?_) I.bare
  · exact J
  · rw [List.mem_singleton.mp hb]
    exact ⟨h2.2.2.1, h2.1, h2.2.2.2.1, h2.2.2.2.2⟩
  · rw [upd_ne (fun z => hb (by rw [z]; exact List.mem_singleton.mpr rfl))]
    exact n
  · rw [upd_ne (nit b _ e)]
    exact e
  · rw [upd_ne (nit b _ e)]
    exact e
  · rw [upd_ne (nit b _ e), e]
    simp
  · by_cases hb : b = T
    · subst hb
      rw [upd_same] at e
      cases e
      exact new
    · rw [upd_ne hb] at e
      refine (I.hok b u e).stay (fun c v _ q => q) (fun c q => ?_) fun c xs q => ?_
      · rw [upd_ne (nit c _ q)]; exact q
      · rw [upd_ne (nit c _ q)]; exact q
end
theorem keysOf_snoc (C : Call) (f : Str) : ∀ (xs : List D) (x : D) (st : List OD) (ks : List D) (st' : List OD), keysOf C f (xs ++ [x]) st = some (ks, st') →
    ∃ ks1 st1 k fr, keysOf C f xs st = some (ks1, st1) ∧ C f [.py x] st1 = .ok (.val (.py k)) fr ∧ ks = ks1 ++ [k] ∧ st' = fr.st
  | [], x, st, ks, st', h => by
    simp only [List.nil_append, keysOf] at h
    split at h
    · rename_i k fr e
      cases h
      exact ⟨[], st, k, fr, rfl, e, rfl, rfl⟩
    · cases h
  | y :: r, x, st, ks, st', h => by
    simp only [List.cons_append, keysOf] at h
    split at h
    · rename_i k fr e
      obtain ⟨p, hp, e2⟩ := Option.map_eq_some_iff.mp h
      cases e2
      obtain ⟨ks1, st1, k1, fr1, a1, a2, a3, a4⟩ := keysOf_snoc C f r x fr.st p.1 p.2 hp
      refine ⟨k :: ks1, st1, k1, fr1, ?_, a2, by rw [a3]; rfl, a4⟩
      simp only [keysOf, e, a1, Option.map_some]
    · cases h
theorem keysOf_app (C : Call) (f : Str) : ∀ (xs ys : List D) (st : List OD) (ks : List D) (st' : List OD), keysOf C f (xs ++ ys) st = some (ks, st') →
    ∃ ks1 st1 ks2, keysOf C f xs st = some (ks1, st1) ∧ keysOf C f ys st1 = some (ks2, st') ∧ ks = ks1 ++ ks2
  | [], ys, st, ks, st', h => ⟨[], st, ks, rfl, h, rfl⟩
  | x :: r, ys, st, ks, st', h => by
    simp only [List.cons_append, keysOf] at h
    split at h
    · rename_i k fr e
      obtain ⟨p, hp, e2⟩ := Option.map_eq_some_iff.mp h
      cases e2
      obtain ⟨ks1, st1, ks2, a1, a2, a3⟩ := keysOf_app C f r ys fr.st p.1 p.2 hp
      refine ⟨k :: ks1, st1, ks2, ?_, a2, by rw [a3]; rfl⟩
      simp only [keysOf, e, a1, Option.map_some]
    · cases h
theorem keysOf_len (C : Call) (f : Str) : ∀ (xs : List D) (st : List OD) (ks : List D) (st' : List OD), keysOf C f xs st = some (ks, st') → ks.length = xs.length
  | [], st, ks, st', h => by cases h; rfl
  | x :: r, st, ks, st', h => by
    simp only [keysOf] at h
    split at h
    · obtain ⟨p, hp, e2⟩ := Option.map_eq_some_iff.mp h
      cases e2
      rw [List.length_cons, List.length_cons, keysOf_len C f r _ _ _ hp]
    · cases h
theorem keysOf_at {C : Call} {f : Str} {ds ks : List D} {st st' : List OD} (h : keysOf C f ds st = some (ks, st')) {i : Nat} {d : D} (hd : ds[i]? = some d) :
    ∃ k st1 fr, ks[i]? = some k ∧ keysOf C f (ds.take i) st = some (ks.take i, st1) ∧ C f [.py d] st1 = .ok (.val (.py k)) fr ∧ keysOf C f (ds.take (i + 1)) st = some (ks.take (i + 1), fr.st) := by
  have hi : i < ds.length := (List.getElem?_eq_some_iff.mp hd).1
  have e1 : ds.take (i + 1) = ds.take i ++ [d] := by rw [List.take_add_one, hd]; rfl
  have h0 := h
  rw [← List.take_append_drop (i + 1) ds] at h
  obtain ⟨ks1, s1, ks2, a1, a2, a3⟩ := keysOf_app C f _ _ _ _ _ h
  have l1 := keysOf_len C f _ _ _ _ a1
  have l1' : ks1.length = i + 1 := by rw [l1, List.length_take]; omega
  have a1' := a1
  rw [e1] at a1
  obtain ⟨ks0, s0, k, fr, b1, b2, b3, b4⟩ := keysOf_snoc C f _ _ _ _ _ a1
  have l0 : ks0.length = i := by rw [keysOf_len C f _ _ _ _ b1, List.length_take]; omega
  have k1 : ks.take (i + 1) = ks1 := by rw [a3, ← l1', List.take_left]
  have k0 : ks.take i = ks0 := by
    have : ks.take i = (ks.take (i + 1)).take i := by rw [List.take_take]; congr 1; omega
    rw [this, k1, b3, ← l0, List.take_left]
  refine ⟨k, s0, fr, ?_, by rw [k0]; exact b1, b2, by rw [k1, ← b4]; exact a1'⟩
  have : ks[i]? = (ks.take (i + 1))[i]? := by rw [List.getElem?_take]; simp
  rw [this, k1, b3, ← l0]
  simp
section
variable {X : Cx} {pins : List (Addr × Obj)} {σ : L2.St} {H : Hp} {s : Shared}
/-- what a key's call does -/
def KeyGo (X : Cx) (σ : L2.St) (pins : List (Addr × Obj)) (φ : List Addr) (H : Hp) (C : Call) (f : Str) (fa : Addr) : Prop :=
  ∀ (s : Shared) (H' : Hp) (φ' : List Addr) (st1 : List OD) (pins' : List (Addr × Obj)) (d kk : D) (xv : V) (v : Value) (fr : Fr), (∀ p ∈ pins, p ∈ pins') → Ext φ NoA H φ' NoA H' → Inv X pins' σ H' s → StR X.K φ' H' st1 → Rep X.K H' d xv → RelV xv v → C f [.py d] st1 = .ok (.val (.py kk)) fr →
    codeAny (model X.prog X.w) X.A.in1.in1 (.call (.ref fa) ⟨[v], []⟩) (CR (L2.CX X.prog X.w) X.stack X.prog X.w H' s (fun y H'' => ∃ φ'', Ext φ' NoA H' φ'' NoA H'' ∧ StR X.K φ'' H'' fr.st ∧ Rep X.K H'' kk y) (fun _ _ _ => False)) s
theorem keyGo_fn {C : Call} {φ : List Addr} {fa : Addr} {f : Str} {fd : FuncData} {ps : List Str} {CV : Str → Value} {k : Nat} (G : FnG X.prog X.w X.K X.mg X.base (L2.CX X.prog X.w) k fa fd ps (spC X.K CV ps.length (C f))) (hn : ∀ xs st, C f xs st ≠ .stuck → xs.length = ps.length)
    (hgd : X.A.in1.in1.guards = some []) (hroom : Room k X.A.in1.in1) (bnd : Binds X.K fd ps []) : KeyGo X σ pins φ H C f fa := by
  intro s H' φ' st1 pins' d kk xv v fr _ _ I2 S rd2 rv e3
  have hp : ps.length = 1 := (hn [.py d] st1 (by rw [e3]; exact fun z => nomatch z)).symm
  have want : spC X.K CV ps.length (C f) [xv] H' (fun y H'' => ∃ φ'', Ext φ' NoA H' φ'' NoA H'' ∧ StR X.K φ'' H'' fr.st ∧ Rep X.K H'' kk y) (fun _ _ _ => False) := by
    refine ⟨φ', st1, [.py d], by rw [hp]; rfl, S, ⟨xv, [], rfl, rd2, rfl⟩, ?_⟩
    rw [e3]
    exact fun y H'' φ'' x2 S2 r2 => ⟨φ'', x2, S2, r2⟩
  have env0 : Env0 X.prog X.w X.K X.mg X.base X.A.in1.in1 X.stack s H' := ⟨I2.ok.frames, I2.ok.mod, I2.bs, Nat.le_trans I2.ok.bsz I2.sz, I2.stack, I2.stkFree, I2.hok, I2.bare⟩
  have b := bnd s [v] I2.kIn (by rw [List.append_nil, hp]; rfl)
  rw [List.append_nil] at b
  exact G.go X.A.in1.in1 X.stack s H' ⟨[v], []⟩ [v] [xv] _ _ hgd hroom env0 b (.cons rv .nil) want
/-- while keys are asked -/
def KeyW (X : Cx) (pins : List (Addr × Obj)) (σ : L2.St) (H : Hp) (φ : List Addr) (a c : Addr) (C : Call) (f : Str) (ds ks : List D) (st : List OD) (L : List (Value × PyData)) (s : Shared) : Prop :=
  ∃ H' φ' st', keysOf C f (ds.take L.length) st = some (ks.take L.length, st') ∧ Inv X pins σ H' s ∧ StR X.K φ' H' st' ∧ Ext φ NoA H φ' NoA H' ∧ FpOk X pins H' a ∧ FpOk X pins H' c ∧ ∀ p ∈ L, p.2.hasDict = false ∧ ∃ x, RelV x p.1 ∧ Rep X.K H' p.2 x
theorem keyW_kw {C : Call} {φ : List Addr} {a c fa : Addr} {f : Str} {ds ks : List D} {st st' : List OD} {vs : List Value} {xs : List V}
    (go : KeyGo X σ pins φ H C f fa)
    (hk : keysOf C f ds st = some (ks, st')) (hnd : ∀ k ∈ ks, k.hasDict = false) (hS : StR X.K φ H st) (hac : a ≠ c) (hr : Reps X.K H ds xs) (hv : Vals xs vs) : KW X.prog X.w X.A.in1.in1 a c (.ref fa) vs ks (KeyW X pins σ H φ a c C f ds ks st) where
  upd := by
    rintro L s d h' tk hd ⟨H', φ', st1, h1, I, S, x, fa1, fc1, hL⟩ sb
    have fd1 : FpOk X pins H' d := by rcases hd with rfl | rfl <;> assumption
    refine ⟨H', φ', st1, h1, I.turnedL (ch := [d]) (fun b o hb e => ?_) (fun b hb => by rw [List.mem_singleton.mp hb]; exact fd1), S, x, fa1, fc1, hL⟩
    exact (sb.2 b (fun z => hb (by rw [z]; exact List.mem_singleton.mpr rfl))).trans e
  rd := by
    rintro L s ⟨H', φ', st1, h1, I, S, x, fa1, fc1, hL⟩ p hp
    obtain ⟨hn, v, rv, rp⟩ := hL p hp
    exact Dp.reads I p.2 v p.1 (Rep.dp rp hn) rv
  turn := by
    rintro i v kk hvi hki L s oa oc hLi ⟨H', φ', st1, h1, I, S, x, fa1, fc1, hL⟩ ga gc na nc
    rw [hLi] at h1
    have hlk := keysOf_len C f _ _ _ _ hk
    have hi : i < ds.length := by rw [← hlk]; exact (List.getElem?_eq_some_iff.mp hki).1
    obtain ⟨d, hdi⟩ : ∃ d, ds[i]? = some d := ⟨_, List.getElem?_eq_getElem hi⟩
    obtain ⟨xv, hxi, rd⟩ := hr.get hdi
    obtain ⟨u, hui, rv⟩ := hv.get hxi
    rw [hvi] at hui
    cases hui
    obtain ⟨k2, st2, fr, e1, e2, e3, e4⟩ := keysOf_at hk hdi
    rw [e2] at h1
    obtain rfl : st2 = st1 := by cases h1; rfl
    rw [hki] at e1
    cases e1
    have I2 : Inv X ((a, oa) :: (c, oc) :: pins) σ H' s := I.pins_of fun p hp => by
      rcases List.mem_cons.mp hp with rfl | hp
      · exact ⟨ga, fa1.1, fa1.2.1, fa1.2.2.1, na⟩
      · rcases List.mem_cons.mp hp with rfl | hp
        · exact ⟨gc, fc1.1, fc1.2.1, fc1.2.2.1, nc⟩
        · exact I.pin p (List.mem_append_right _ hp)
    have rd2 : Rep X.K H' d xv := Rep.pers x.pers rd
    refine wpAny_call (codeAny_mono (go s H' φ' st2 ((a, oa) :: (c, oc) :: pins) d kk xv v fr (fun p hp => List.mem_cons_of_mem _ (List.mem_cons_of_mem _ hp)) x I2 S rd2 rv e3) fun r s2 back => ?_)
    match r, back with
    | .error e, back =>
      obtain ⟨_, _, _, _, _, _, _, _, _, _, _, _, z⟩ := back
      exact z.elim
    | .ok (.ret u), back =>
      obtain ⟨y, H'', I3, ry, φ'', x2, S2, r2⟩ := I2.after back
      have p1 := I3.pin (a, oa) (List.mem_append_right _ List.mem_cons_self)
      have p2 := I3.pin (c, oc) (List.mem_append_right _ (List.mem_cons_of_mem _ List.mem_cons_self))
      refine ⟨⟨H'', φ'', fr.st, ?_, I3.pins_of fun p hp => I3.pin p (List.mem_append_right _ (List.mem_cons_of_mem _ (List.mem_cons_of_mem _ hp))), S2, x.trans x2, ⟨p1.2.1, fa1.2⟩, ⟨p2.2.1, fc1.2⟩, fun p hp => ?_⟩, p1.1, p2.1⟩
      · rw [List.length_cons, hLi]
        exact e4
      · rcases List.mem_cons.mp hp with rfl | hp
        · exact ⟨hnd _ (List.mem_of_getElem? hki), y, ry, r2⟩
        · obtain ⟨h2, z, h3, h4⟩ := hL p hp
          exact ⟨h2, z, h3, Rep.pers x2.pers h4⟩
    | .ok .next, back => exact False.elim back
    | .ok .brk, back => exact False.elim back
    | .ok .cont, back => exact False.elim back
end
theorem each_in {K : PySem.W.Frag} {H : Hp} : ∀ {ks ds : List D} {xs : List V} {its : List Value}, ks.length = ds.length → Reps K H ds xs → Vals xs its → PySem.W.EachIs (fun (v : Value) (p : D × D) => ∃ x, RelV x v ∧ Rep K H p.2 x) its (ks.zip ds)
  | [], [], xs, its, _, hr, hv => by
    simp only [Reps] at hr
    subst hr
    cases hv
    exact .nil
  | k :: ks, d :: ds, xs, its, hl, hr, hv => by
    simp only [Reps] at hr
    obtain ⟨v, vs, rfl, r, rs⟩ := hr
    cases hv with
    | cons rv rt => exact .cons ⟨v, rv, r⟩ (each_in (by simpa using hl) rs rt)
theorem each_out {K : PySem.W.Frag} {H : Hp} : ∀ {bs : List (D × D)} {out : List Value}, PySem.W.EachIs (fun (v : Value) (p : D × D) => ∃ x, RelV x v ∧ Rep K H p.2 x) out bs → ∃ ys, Vals ys out ∧ Reps K H (bs.map (·.2)) ys
  | _, _, .nil => ⟨[], .nil, by simp only [List.map_nil, Reps]⟩
  | _, _, .cons ⟨x, rv, r⟩ t => by
    obtain ⟨ys, v, rs⟩ := each_out t
    exact ⟨x :: ys, .cons rv v, by simp only [List.map_cons, Reps]; exact ⟨x, ys, rfl, r, rs⟩⟩
section
variable {X : Cx} {pins : List (Addr × Obj)} {σ : L2.St} {H : Hp} {s : Shared}
theorem sorted_keyG {C : Call} {φ : List Addr} {l fa : Addr} {f : Str} {k : Nat} {ds ks : List D} {st st' : List OD} {xs : List V} {Q : VK}
    (go : KeyGo X σ pins φ H C f fa) (hroom : Room k X.A.in1.in1)
    (I : Inv X pins σ H s) (hl : SqL X.K H l xs) (hr : Reps X.K H ds xs) (hS : StR X.K φ H st) (hk : keysOf C f ds st = some (ks, st')) (hnd : ∀ k ∈ ks, k.hasDict = false) (hal : PySem.W.AllAlike ks) (hsk : PySem.W.Sortable ks) (hdp : ∀ k ∈ ks, k.depth ≤ 60)
    (q : ∀ (H' : Hp) (φ' : List Addr) (p : Addr) (ys : List V), Ext φ NoA H φ' NoA H' → StR X.K φ' H' st' → H' p = none → Reps X.K H' (((ks.zip ds).mergeSort (PySem.W.dataLe false Prod.fst)).map (·.2)) ys → Q (.ref p) (upd H' p (.lst ys))) :
    wpAny (model X.prog X.w) X.A (call (.builtin "sorted") [.ref l] [(Str.ofString "key", .ref fa)]) (EP X pins σ Q) X.xe s := by
  obtain ⟨its, rv, pl, hz⟩ := I.list hl
  have hlk := keysOf_len C f _ _ _ _ hk
  have lx : ds.length = xs.length := hr.len
  have lv : xs.length = its.length := rv.length
  refine sk_sorted (vs := its) (kz := ks) (b := false) (W := KeyW X pins σ H φ (s.heap.objs.size + 1) (s.heap.objs.size + 3) C f ds ks st) pl.isList (keyW_kw go hk hnd hS (Nat.ne_of_lt (Nat.add_lt_add_left (by decide : 1 < 3) _)) hr rv) (fun h' kp => ?_) (by omega) (by rw [← lv]; exact hz) hal hsk (fun d hd => ?_) (PyProof.Rows.ksk_s1 _ _) (fun _ => PyProof.Rows.ksk_l1 _ _) (fun x => PyProof.Rows.ksk_t1 fa x) (fun L s' out n hL hW g ko => ?_)
  · exact ⟨H, φ, st, rfl, I.kept (t' := s.toks) kp, hS, Ext.refl _ _ _, I.fpOk (Nat.le_succ _) (I.hok.fresh (Nat.le_succ _)), I.fpOk (by omega) (I.hok.fresh (by omega)), fun p hp => by cases hp⟩
  · have := hdp d hd
    have := hroom.un
    omega
  · obtain ⟨H', φ', st1, h1, I1, S1, x1, fa1, fc1, hLs⟩ := hW
    rw [hL, ← lv, ← lx, List.take_length, ← hlk, List.take_length] at h1
    rw [hk] at h1
    obtain rfl : st1 = st' := by cases h1; rfl
    have hr' : Reps X.K H' ds xs := Reps.pers x1.pers hr
    have ez : (ks.zip ds).map Prod.fst = ks := List.map_fst_zip (by omega)
    have ko2 : PySem.W.KeyedOut false ((ks.zip ds).map Prod.fst) its out := by rw [ez]; exact ko
    obtain ⟨ys, hv, hys⟩ := each_out (PySem.W.keyedOut_each Prod.fst ko2 (each_in hlk hr' rv))
    have hol : out.length = its.length := ko.length (by omega)
    have J := inv_adopt (ob := .lst ys) I1 fa1 ⟨by rw [hv.length, hol, ← lv]; exact hz, out, n, hv, g⟩
    exact ⟨.ref _, _, J, rfl, q H' φ' _ ys x1 S1 fa1.1 hys⟩
end
section
variable {X : Cx} {W : WX} {CV : Str → Value} {C : Call} {k : Nat} {f : Addr} {fd : FuncData} {ps : List Str} {x : Str} {e : Expr} {p np kpos pos : Pos} {ms : M (List Hd)}
theorem all_alike {ks : List D} (h : (ks.all fun j => ks.all fun k => PySem.W.alike j k) = true) : PySem.W.AllAlike ks := fun d hd d' hd' => List.all_eq_true.mp (List.all_eq_true.mp h d hd) d' hd'
theorem sort_able {ks : List D} (h : (ks.all tup1 || ks.all noTup) = true) : PySem.W.Sortable ks := by
  rcases Bool.or_eq_true .. |>.mp h with h | h
  · refine .inl fun d hd => ?_
    have := List.all_eq_true.mp h d hd
    unfold tup1 at this
    split at this
    · exact ⟨_, _, rfl⟩
    · cases this
  · refine .inr fun d hd => ?_
    have := List.all_eq_true.mp h d hd
    constructor
    · rintro rfl
      cases this
    · rintro xs rfl
      cases this
theorem keysOk_of {ks : List D} (h : keysOk ks = true) : PySem.W.AllAlike ks ∧ PySem.W.Sortable ks ∧ (∀ k ∈ ks, k.depth ≤ 60) ∧ ∀ k ∈ ks, k.hasDict = false := by
  unfold keysOk at h
  obtain ⟨h, h3⟩ := and_ok h
  obtain ⟨h1, h2⟩ := and_ok h
  refine ⟨all_alike h1, sort_able h2, fun k hk => ?_, fun k hk => ?_⟩
  · exact of_decide_eq_true (and_ok (List.all_eq_true.mp h3 k hk)).1
  · simpa using (and_ok (List.all_eq_true.mp h3 k hk)).2
/-- sorted(xs, key=f) -/
def rSrt (X : Cx) (f : Addr) (C : Call) (x : Str) : List V → List V → Hp → VK → Prop := fun vs zs H Q => ∃ l φ st st' ds ks xs, vs = [V.ref l] ∧ zs = [V.ref f] ∧ SqL X.K H l xs ∧ Reps X.K H ds xs ∧ StR X.K φ H st ∧ keysOf C x ds st = some (ks, st') ∧ keysOk ks = true ∧
  ∀ (H' : Hp) (φ' : List Addr) (q : Addr) (ys : List V), Ext φ NoA H φ' NoA H' → StR X.K φ' H' st' → H' q = none → Reps X.K H' (((ks.zip ds).mergeSort (PySem.W.dataLe false Prod.fst)).map (·.2)) ys → Q (.ref q) (upd H' q (.lst ys))
theorem cr_srt (G : FnG X.prog X.w X.K X.mg X.base (L2.CX X.prog X.w) k f fd ps (spC X.K CV ps.length (C x))) (hn : ∀ xs st, C x xs st ≠ .stuck → xs.length = ps.length) (hgd : X.A.in1.in1.guards = some []) (hroom : Room k X.A.in1.in1) (bnd : Binds X.K fd ps []) : CallRK X (.builtin "sorted") [Str.ofString "key"] (rSrt X f C x) := by
  intro pins s σ H vs zs us ws Q I r rz h
  obtain ⟨l, φ, st, st', ds, ks, xs, rfl, rfl, hl, hr, hS, hk, ho, q⟩ := h
  obtain ⟨h1, h2, h3, h4⟩ := keysOk_of ho
  obtain ⟨u, rfl, rfl⟩ := vals1 r
  obtain ⟨w, rfl, rfl⟩ := vals1 rz
  exact sorted_keyG (keyGo_fn G hn hgd hroom bnd) hroom I hl hr hS hk h4 h1 h2 h3 q
theorem srt_ok (G : FnG X.prog X.w X.K X.mg X.base (L2.CX X.prog X.w) k f fd ps (spC X.K CV ps.length (C x))) (hn : ∀ xs st, C x xs st ≠ .stuck → xs.length = ps.length) (hgd : X.A.in1.in1.guards = some []) (hroom : Room k X.A.in1.in1) (bnd : Binds X.K fd ps [])
    (hgs : Gl X "sorted") (hms : X.mg "sorted" = none) (hg : Gl X x) (hm : X.mg x = some (.ref f)) (ndb : (x == ("__debug__" : Str)) = false) (ha : PAh X W CV [e] ms) (n : noStar e = true) :
    PEn X W CV (.Call (.Name "sorted" p) [e] [⟨some "key", .Name x np, kpos⟩] pos) (srtM ms C x) := by
  have pk : PK X [⟨some "key", .Name x np, kpos⟩] (tCons (fun _ H Q => Q (.ref f) H) tNil) := pk_cons ⟨fun pins s σ H Q I h => ld_glob I hg hm ⟨.ref f, H, I, rfl, h⟩ ndb⟩ pk_nil
  refine PE.imp (pe_callBK (cr_srt G hn hgd hroom bnd) hgs hms (by decide +kernel) ha pk (he := by rw [star_cons n]; rfl) (hpl := by rw [star_cons n]; rfl)) fun σ H Q h => ?_
  · obtain ⟨φ, fr, F, P⟩ := h
    refine ⟨φ, fr, F, Post.bind (R' := RRV X.K) back_RRV (f := fun hs => viewHs hs >>= fun ds => srtB C x ds) P fun hs fr1 vs H1 φ1 _ x1 F1 q1 P1 => ?_⟩
    obtain ⟨ds, l, ps2, P2⟩ := Post.views F1 q1 P1
    cases ds with
    | nil => exact P2.elim
    | cons d r =>
      cases r with
      | cons _ _ => cases d <;> exact P2.elim
      | nil =>
        cases d
        case list xs =>
          unfold srtB at P2
          obtain ⟨v, rfl, pv⟩ := PReps.one ⟨l, ps2⟩
          obtain ⟨a, ys, rfl, hl, rs⟩ := pr_list pv
          cases hk : keysOf C x xs fr1.st with
          | none =>
            simp only [hk] at P2
            exact P2.elim
          | some r =>
            obtain ⟨ks, st'⟩ := r
            simp only [hk] at P2
            cases hs : sortD ks xs with
            | none =>
              simp only [hs] at P2
              exact P2.elim
            | some zs =>
              simp only [hs] at P2
              unfold sortD at hs
              split at hs
              · rename_i hc
                cases hs
                refine ⟨a, φ1, fr1.st, st', xs, ks, ys, rfl, rfl, hl, rs, F1.str, hk, (and_ok hc).1, fun H' φ' q ys' x2 S2 hq r2 => ?_⟩
                exact post_newL (W := W) (CV := CV) (F1.call x2 S2) (Post.later back_RRV (fr1 := ⟨fr1.sl, st'⟩) (x2.own' fun _ z => z) P2) hq r2
              · cases hs
        all_goals exact P2.elim
end
end Nw

set_option autoImplicit false
set_option maxRecDepth 100000
set_option maxHeartbeats 1000000
/-! Nw, part V3: sorting by a lambda of one name, that captures nothing. -/
namespace Nw
open PySem PySem.Spec PyProof.Rows L2 RZ
theorem clo_nil {cells : List (Str × Addr)} : ∀ {l : List (Str × NameKind)}, (∀ y ∈ l, y.2 ≠ .free) → cloFrom cells l [] = []
  | [], _ => rfl
  | (n, k) :: r, h => by
    have hk : (k == NameKind.free) = false := by
      have := h (n, k) List.mem_cons_self
      cases k <;> first | rfl | exact absurd rfl this
    show (if k == NameKind.free then cloFrom cells r ((n, (cells.lookup n).getD 0) :: []) else cloFrom cells r []) = []
    rw [hk]
    exact clo_nil fun y hy => h y (List.mem_cons_of_mem _ hy)
/-- from ahead of a lambda's making to behind it -/
structure LamE (H H1 : Hp) : Prop where
  nt : LamX.ExtN H H1
  dom : ∀ a, H1 a = none → H a = none
theorem LamE.ext {H H1 : Hp} (x : LamE H H1) (φ : List Addr) (O : Addr → Prop) : Ext φ O H φ O H1 :=
  ⟨⟨[], by simp, by simp⟩, ⟨fun a xs h => x.nt a _ h (fun _ z => nomatch z), fun a o u h => x.nt a _ h (fun _ z => nomatch z)⟩, fun a u h nt _ _ => x.nt a u h nt, x.dom, fun a h => .inl h⟩
/-- where a lambda may be made -/
structure LamAt (X : Cx) : Prop where
  ex : ∃ c P, X.env.code = .ref c ∧ LamX.TabB X.base X.mg c P ∧ (P, X.env.qual ++ "<lambda>") ∈ tabsK X.K ∧ ∀ p ∈ tabsK X.K, p.1 = P → p.2 = X.env.qual ++ "<lambda>"
section
variable {X : Cx} {pins : List (Addr × Obj)} {σ : L2.St} {H : Hp} {s : Shared}
theorem lam_mk {params : Arguments} {body : Expr} {scope : Scope} {pos : Pos} {E : Value → Shared → Prop} {Q : Value → Shared → Prop} (L : LamAt X) (I : Inv X pins σ H s) (hT : LamX.Tabs (tabsK X.K) H) (hdef : defaultsOf params X.env = ([], [])) (hnf : ∀ y ∈ scope.names, y.2 ≠ .free)
    (h : ∀ (f c' : Addr) (pm ctv : Value) (H1 : Hp) (s' : Shared), Inv X pins σ H1 s' → LamE H H1 → LamX.Tabs (tabsK X.K) H1 → s.heap.objs.size ≤ f → s'.heap.get? f = some (PySem.W.kla_obj "<lambda>" (X.env.qual ++ "<lambda>") params body scope [] pm c' ctv) → H1 f = none →
      H1 c' = some (LamX.CodeO c' (X.env.qual ++ "<lambda>")) → Q (.ref f) s') : wpAny (model X.prog X.w) X.A (eval (.Lambda params body scope pos) X.env) Q E s := by
  obtain ⟨c, P, hcode, TB, hm, hu⟩ := L.ex
  obtain ⟨ps, hP, ht, ha⟩ := hT _ hm
  have hcl : closureFor scope X.env = pure [] := by
    rw [closure_ok (fun y hy e => absurd e (hnf y hy)), clo_nil hnf]
  refine PySem.W.kla_eval hdef ?_
  cases hc : codeAmong pos ps.toList with
  | some cv =>
    obtain ⟨c', e, hco⟩ := ha pos cv hc
    subst e
    refine PySem.W.kla_makeFunctionHit (mg := X.mg) (c := c) (P := P) (ps := ps) hcl I.ok.glob (I.mod.glob.keeps I.bk) hcode (TB.code.keeps I.bk) (I.hok P _ hP) ht hc (TB.bm.keeps I.bk) fun ctv h' tk hx hsz => ?_
    exact h h'.objs.size c' _ ctv H _ (I.kept fun b o e => Heap.get?_push_of_some _ (hx b o e)) ⟨LamX.ExtN.refl H, fun _ z => z⟩ hT hsz (Heap.get?_push_size _ rfl) (I.hok.fresh hsz) hco
  | none =>
    refine PySem.W.kla_makeFunction (mg := X.mg) (c := c) (P := P) (ps := ps) hcl I.ok.glob (I.mod.glob.keeps I.bk) hcode (TB.code.keeps I.bk) (I.hok P _ hP) ht hc TB.gP (TB.bm.keeps I.bk) fun c' ctv h' tk hx hge hlt hrec htb => ?_
    obtain ⟨c2, oc, vs, t, e2, hoc, hd, hv⟩ := hrec
    cases e2
    have nC : H c' = none := I.hok.fresh hge
    have hsz : s.heap.objs.size ≤ h'.objs.size := Nat.le_trans hge (Nat.le_of_lt hlt)
    have dP : c' ≠ P := fun z => by rw [z, hP] at nC; cases nC
    have J := LamX.inv_table (t' := tk) (more := #[rawInt pos.line, rawInt pos.col, .ref c']) (h' := h'.push (PySem.W.kla_obj "<lambda>" (X.env.qual ++ "<lambda>") params body scope [] ((X.mg "__name__").getD .none) c' ctv)) (q := X.env.qual ++ "<lambda>") I hP
      (fun b o hb e => Heap.get?_push_of_some _ (hx b o hb e)) (Heap.get?_push_of_some _ htb) hge ⟨oc, vs, t, Heap.get?_push_of_some _ hoc, hd, hv⟩
    generalize hG : upd (upd H P (.tbl (ps ++ #[rawInt pos.line, rawInt pos.col, .ref c']))) c' (LamX.CodeO c' (X.env.qual ++ "<lambda>")) = G at J
    have atC : G c' = some (LamX.CodeO c' (X.env.qual ++ "<lambda>")) := by rw [← hG]; exact upd_same
    have atP : G P = some (.tbl (ps ++ #[rawInt pos.line, rawInt pos.col, .ref c'])) := by rw [← hG, upd_ne dP.symm]; exact upd_same
    have atO : ∀ b, b ≠ P → b ≠ c' → G b = H b := fun b h1 h2 => by rw [← hG, upd_ne h2, upd_ne h1]
    have hN : LamX.ExtN H G := fun b o e n => by
      rw [atO b (fun z => by rw [z, hP] at e; exact n ps (Option.some.inj e).symm) (fun z => by rw [z, nC] at e; cases e)]
      exact e
    have hD : ∀ a, G a = none → H a = none := fun a z => by
      by_cases h1 : a = P
      · rw [h1, atP] at z; cases z
      · by_cases h2 : a = c'
        · rw [h2]; exact nC
        · rw [← atO a h1 h2]; exact z
    refine h h'.objs.size c' _ ctv G _ J ⟨hN, hD⟩ (fun p hp => ?_) hsz (Heap.get?_push_size _ rfl) ?_ atC
    · by_cases hb : p.1 = P
      · rw [hu p hp hb, hb]
        refine ⟨_, atP, ?_, fun p' cv hcv => ?_⟩
        · rw [Array.toList_append]
          exact PySem.TriplesOk_snoc _ _ _ _ ht
        · rw [Array.toList_append] at hcv
          rcases LamX.among_app _ ht hcv with z | z
          · obtain ⟨c0, e1, e3⟩ := ha p' cv z
            exact ⟨c0, e1, hN _ _ e3 LamX.codeO_ne⟩
          · exact ⟨c', z, atC⟩
      · obtain ⟨ps', a1, a2, a3⟩ := hT p hp
        refine ⟨ps', by rw [atO _ hb (fun z => by rw [z, nC] at a1; cases a1)]; exact a1, a2, fun p' cv hcv => ?_⟩
        obtain ⟨c0, e1, e3⟩ := a3 p' cv hcv
        exact ⟨c0, e1, hN _ _ e3 LamX.codeO_ne⟩
    · rw [atO _ (Nat.ne_of_gt (Nat.lt_of_lt_of_le (Heap.lt_size (I.hok P _ hP)) hsz)) (Nat.ne_of_gt hlt)]
      exact I.hok.fresh hsz
end
/-- the lambda's one parameter -/
def lamArg : Arguments → Option Str
  | ⟨[], [a], none, [], [], none, []⟩ => some a.arg
  | _ => none
theorem lam_bind1 {a : Arg} {q : Str} {body : Expr} {scope : Scope} {pm cdv ctv u : Value} : bindArgs (PySem.W.kla_fn "<lambda>" q ⟨[], [a], none, [], [], none, []⟩ body scope [] pm cdv ctv) ⟨[u], []⟩ = pure [(a.arg, u)] := by
  unfold bindArgs
  simp [List.lookup, seqItems?]
  rfl
theorem lam_bind {params : Arguments} {px q : Str} {body : Expr} {scope : Scope} {pm cdv ctv u : Value} (h : lamArg params = some px) : bindArgs (PySem.W.kla_fn "<lambda>" q params body scope [] pm cdv ctv) ⟨[u], []⟩ = pure [(px, u)] := by
  unfold lamArg at h
  split at h
  · cases h
    exact lam_bind1
  · cases h
theorem lam_def {params : Arguments} {px : Str} {env : Env} (h : lamArg params = some px) : defaultsOf params env = ([], []) := by
  unfold lamArg at h
  split at h
  · rfl
  · cases h
section
variable {CX : CXT} {P : Program} {w : World} {K : PySem.W.Frag} {mg : Str → Option Value} {base : Heap} {k : Nat}
/-- the lambda is called -/
theorem lam_go {A : Around} {out : List Env} {s : Shared} {H : Hp} {f c' : Addr} {q px : Str} {params : Arguments} {body : Expr} {scope : Scope} {pm ctv v : Value} {xv : V} {Q : VK} {E : XK} {t : TE} (hp : lamArg params = some px) (S : FnScope [px] [px] scope) (hd : A.handled = none) (hdp : A.depth < recursionLimit)
    (e0 : Env0 P w K mg base A out s H) (ho : s.heap.get? f = some (PySem.W.kla_obj "<lambda>" q params body scope [] pm c' ctv)) (hc : H c' = some (LamX.CodeO c' q)) (rv : RelV xv v)
    (hb : PE (cxOf CX P w K mg base [px] q scope f (.ref c') A out s H E) body t) (want : t (L2.start [px] [xv]) H Q) :
    codeAny (model P w) A (.call (.ref f) ⟨[v], []⟩) (CR CX out P w H s Q E) s := by
  have nolim : s.heap.NoLimit := e0.mod.nolimit.keeps fun b o e => (e0.bs b o e).1
  obtain ⟨⟨oc, vs, tt, hoc, hdc, hvc⟩, _, _⟩ := e0.hok c' _ hc
  refine PySem.W.kla_callFunE hdp ho rfl S.co S.gen rfl ⟨c', oc, vs, tt, rfl, hoc, hdc, hvc⟩ ?_
  rw [lam_bind hp]
  refine wpAny_pure ?_
  refine wpAny_newFunctionEnv_cells S.kind (fun y hy => ?_) fun env eenv s2 inn => ?_
  · obtain ⟨n, v⟩ := y
    have hn : n ∈ [px] := (List.of_mem_zip (show (n, v) ∈ [px].zip [_] from hy)).1
    cases S.par n hn with
    | inl q => exact .inl q
    | inr q => exact .inr ⟨q, PySem.W.cellsFrom_some _ _ _ (.inl q)⟩
  · subst eenv
    refine ⟨nolim.keeps inn.toInCall.keep, ?_⟩
    have J : Inv (cxOf CX P w K mg base [px] q scope f (.ref c') A out s H E) [] (L2.start [px] [xv]) H s2 := inv_start (ps := [px]) (us := [v]) (vs := [xv]) S hd e0 rfl (.cons rv .nil) inn
    refine PySem.W.kla_codeExpr (wpAny_mono (hb.run [] s2 (L2.start [px] [xv]) H Q J want) (fun u s3 hq => ?_) fun e s3 hq => hq)
    obtain ⟨y, H', J2, ry, q⟩ := hq
    exact ⟨y, H', J2.os, J2.bare, J2.base, J2.hok, ry, q⟩
end
section
variable {X : Cx} {pins : List (Addr × Obj)} {σ : L2.St} {H : Hp} {s : Shared} {W : WX} {CV : Str → Value}
abbrev lamX (X : Cx) (px : Str) (scope : Scope) (f c' : Addr) (s : Shared) (H : Hp) : Cx := cxOf (L2.CX X.prog X.w) X.prog X.w X.K X.mg X.base [px] (X.env.qual ++ "<lambda>") scope f (.ref c') X.A.in1.in1 X.stack s H (fun _ _ _ => False)
theorem StR.no_ext {K : PySem.W.Frag} {φ : List Addr} {H : Hp} {st : List OD} (S : StR K φ H st) {a : Addr} {p : Heap → Prop} (h : H a = some (.ext p)) : a ∉ φ := fun hm => by
  obtain ⟨l, hl, e⟩ := List.getElem_of_mem hm
  have hl' : l < st.length := by rw [← S.stl]; exact hl
  obtain ⟨b, e', r⟩ := S.st l st[l] (List.getElem?_eq_getElem hl')
  rw [List.getElem?_eq_getElem hl, e] at e'
  cases e'
  cases q : st[l] with
  | lst xs =>
    rw [q] at r
    obtain ⟨_, z, _⟩ := r
    rw [h] at z
    cases z
  | dic xs =>
    rw [q] at r
    obtain ⟨_, z, _⟩ := r
    rw [h] at z
    cases z
  | ins _ _ =>
    rw [q] at r
    exact r
theorem keyGo_lam {m : M RV} {φ : List Addr} {f c' : Addr} {px : Str} {params : Arguments} {body : Expr} {scope : Scope} {pm ctv : Value} {nm : Str} (hp : lamArg params = some px) (S : FnScope [px] [px] scope) (hd : X.A.in1.in1.handled = none) (hdp : X.A.in1.in1.depth < recursionLimit)
    (hb : ∀ (f c' : Addr) (s : Shared) (H : Hp), PEn (lamX X px scope f c' s H) (fun _ _ _ _ => False) CV body m) (hin : (f, PySem.W.kla_obj "<lambda>" (X.env.qual ++ "<lambda>") params body scope [] pm c' ctv) ∈ pins) (hc : H c' = some (LamX.CodeO c' (X.env.qual ++ "<lambda>"))) (hn : c' ∉ φ) :
    KeyGo X σ pins φ H (lamC m) nm f := by
  intro s H' φ' st1 pins' d kk xv v fr sub x I2 S2 rd2 rv e3
  have env0 : Env0 X.prog X.w X.K X.mg X.base X.A.in1.in1 X.stack s H' := ⟨I2.ok.frames, I2.ok.mod, I2.bs, Nat.le_trans I2.ok.bsz I2.sz, I2.stack, I2.stkFree, I2.hok, I2.bare⟩
  have ho := (I2.pin _ (List.mem_append_right _ (sub _ hin))).1
  have hc' : H' c' = some (LamX.CodeO c' (X.env.qual ++ "<lambda>")) := x.keep c' _ hc LamX.codeO_ne hn (fun z => z)
  have e3 : m ⟨[.val (.py d)], st1⟩ = .ok (.val (.py kk)) fr := e3
  obtain ⟨F0, hO⟩ := start_fr (N := [px]) (F := ⟨1, 1, []⟩) (K := X.K) (φ := φ') (H := H') (st := st1) (xs := [.py d]) (vs := [xv]) S2 ⟨xv, [], rfl, rd2, rfl⟩ rfl rfl (Nat.le_refl _)
  refine lam_go (t := rd X.K (fun _ _ _ _ => False) CV (RRV X.K) m) hp S hd hdp env0 ho hc' rv (hb f c' s H') ⟨φ', _, F0, ?_⟩
  have e4 : m ((⟨1, 1, []⟩ : Fn).start [.py d] st1) = .ok (.val (.py kk)) fr := e3
  rw [e4]
  intro y H'' φ'' x2 F2 r2
  rw [hO] at x2
  exact ⟨φ'', x2.own' fun _ z => z, F2.str, r2⟩
def rSrtL (X : Cx) (C : Call) : List V → Hp → VK → Prop := fun vs H Q => ∃ l φ st st' ds ks xs, vs = [V.ref l] ∧ SqL X.K H l xs ∧ Reps X.K H ds xs ∧ StR X.K φ H st ∧ keysOf C "" ds st = some (ks, st') ∧ keysOk ks = true ∧
  ∀ (H' : Hp) (φ' : List Addr) (q : Addr) (ys : List V), Ext φ NoA H φ' NoA H' → StR X.K φ' H' st' → H' q = none → Reps X.K H' (((ks.zip ds).mergeSort (PySem.W.dataLe false Prod.fst)).map (·.2)) ys → Q (.ref q) (upd H' q (.lst ys))
theorem srtL_ok {k : Nat} {m : M RV} {px : Str} {params : Arguments} {body e : Expr} {scope : Scope} {p lpos kpos pos : Pos} {ms : M (List Hd)} (L : LamAt X) (hp : lamArg params = some px) (S : FnScope [px] [px] scope) (hroom : Room k X.A.in1.in1) (hdp : X.A.in1.in1.depth < recursionLimit)
    (hb : ∀ (f c' : Addr) (s : Shared) (H : Hp), PEn (lamX X px scope f c' s H) (fun _ _ _ _ => False) CV body m)
    (hgs : Gl X "sorted") (hms : X.mg "sorted" = none) (ha : PAh X W CV [e] ms) (n : noStar e = true) :
    PEn X W CV (.Call (.Name "sorted" p) [e] [⟨some "key", .Lambda params body scope lpos, kpos⟩] pos) (srtM ms (lamC m) "") := by
  refine ⟨fun pins s σ H Q I h => ?_⟩
  refine wpAny_Call_Name_kw (ld_blt I hgs hms (show bootBuiltins ("sorted" : Str) = some (.builtin "sorted") by decide +kernel) ?_ (by decide) (by decide))
  refine PyProof.Rows.callWith_kw (thn (ha.run pos pins s σ H (fun vs H1 => rSrtL X (lamC m) vs H1 Q) I ?_) fun us s1 ⟨vs, H1, I1, r1, q1⟩ => ?_) (by rw [star_cons n]; rfl) (by rw [star_cons n]; rfl) rfl rfl
  · obtain ⟨φ, fr, F, P⟩ := h
    refine ⟨φ, fr, F, Post.bind (R' := RRV X.K) back_RRV (f := fun hs => viewHs hs >>= fun ds => srtB (lamC m) "" ds) P fun hs fr1 vs H1 φ1 _ x1 F1 q1 P1 => ?_⟩
    obtain ⟨ds, l, ps2, P2⟩ := Post.views F1 q1 P1
    cases ds with
    | nil => exact P2.elim
    | cons d r =>
      cases r with
      | cons _ _ => cases d <;> exact P2.elim
      | nil =>
        cases d
        case list xs =>
          unfold srtB at P2
          obtain ⟨v, rfl, pv⟩ := PReps.one ⟨l, ps2⟩
          obtain ⟨a, ys, rfl, hl, rs⟩ := pr_list pv
          cases hk : keysOf (lamC m) "" xs fr1.st with
          | none =>
            simp only [hk] at P2
            exact P2.elim
          | some r =>
            obtain ⟨ks, st'⟩ := r
            simp only [hk] at P2
            cases hs : sortD ks xs with
            | none =>
              simp only [hs] at P2
              exact P2.elim
            | some zs =>
              simp only [hs] at P2
              unfold sortD at hs
              split at hs
              · rename_i hc
                cases hs
                refine ⟨a, φ1, fr1.st, st', xs, ks, ys, rfl, hl, rs, F1.str, hk, (and_ok hc).1, fun H' φ' q ys' x2 S2 hq r2 => ?_⟩
                exact post_newL (W := W) (CV := CV) (F1.call x2 S2) (Post.later back_RRV (fr1 := ⟨fr1.sl, st'⟩) (x2.own' fun _ z => z) P2) hq r2
              · cases hs
        all_goals exact P2.elim
  · obtain ⟨l, φ, st, st', ds, ks, xs, rfl, hl, hr, hS, hk, ho, q⟩ := q1
    obtain ⟨h1, h2, h3, h4⟩ := keysOk_of ho
    obtain ⟨u, rfl, ru⟩ := vals1 r1
    cases ru
    show wpAny _ _ (evalAll ((do let v ← eval (.Lambda params body scope lpos) X.env; standAt pos; pure v) :: [])) _ _ s1
    refine wpAny_evalAll_cons (wpAny_bind (lam_mk L I1 hS.tabs (lam_def hp) S.nofree fun f c' pm ctv H2 s2 I2 lE T2 hsz hf hfn hco => wpAny_bind (wpAny_standAt (wpAny_pure (wpAny_evalAll_nil ?_)))))
    show wpAny _ _ (call (.builtin "sorted") [.ref l] [(Str.ofString "key", .ref f)]) _ _ _
    have x0 := lE.ext φ NoA
    have S2 : StR X.K φ H2 st := ⟨hS.nd, hS.stl, fun i o e => by
      obtain ⟨a, e1, e2⟩ := hS.st i o e
      exact ⟨a, e1, OwnR.extN x0.pers ⟨[], by simp⟩ (fun w hw nt => lE.nt a w hw nt) e2⟩, T2⟩
    have I3 : Inv X ((f, PySem.W.kla_obj "<lambda>" (X.env.qual ++ "<lambda>") params body scope [] pm c' ctv) :: pins) σ H2 s2 := I2.pins_of fun p hp => by
      rcases List.mem_cons.mp hp with rfl | hp
      · exact ⟨hf, hfn, Nat.ne_of_gt (Nat.lt_of_lt_of_le I1.lt hsz), I1.nofs hsz, fun v z => nomatch z⟩
      · exact I2.pin p (List.mem_append_right _ hp)
    have hl2 : SqL X.K H2 l xs := by
      rcases hl with (z | ⟨o, z⟩) | z
      · exact .inl (.inl (lE.nt _ _ z (fun _ z => nomatch z)))
      · exact .inl (.inr ⟨o, lE.nt _ _ z (fun _ z => nomatch z)⟩)
      · exact .inr z
    refine wpAny_mono (sorted_keyG (Q := Q) (keyGo_lam hp S hroom.hd hdp hb List.mem_cons_self hco (S2.no_ext hco)) hroom I3 hl2 (Reps.pers x0.pers hr) S2 hk h4 h1 h2 h3 fun H' φ' q2 ys x2 S3 hq r2 => q H' φ' q2 ys (x0.trans x2) S3 hq r2) (fun v s3 z => ?_) fun _ _ z => z
    obtain ⟨y, H4, I4, ry, qy⟩ := z
    exact ⟨y, H4, I4.pins_of fun p hp => I4.pin p (List.mem_append_right _ (List.mem_cons_of_mem _ hp)), ry, qy⟩
end
end Nw

set_option autoImplicit false
set_option maxRecDepth 100000
set_option maxHeartbeats 1000000
/-! Nw, part W: from the model's code to the small language. -/
namespace Nw
open PySem PySem.Spec PyProof.Rows L2 RZ

/-- what a global name is -/
inductive GK where
  | no
  | fn
  | cst (d : D)
  | bad
/-- where code stands -/
structure Gm where
  N : List Str
  sc : Scope
  fn : Str → Bool
  gk : Str → GK
  refs : List Str
  lam : Bool := true
def noDbg (x : Str) : Bool := !(x == ("__debug__" : Str)) && !(x == ("__classdict__" : Str))
def seen : Option NameKind → Bool
  | some .local => true
  | some .cell => true
  | some .free => true
  | _ => false
def Gm.ix (Γ : Gm) (x : Str) : Option Nat := if seen (Γ.sc.names.lookup x) && decide (Γ.N[Γ.N.idxOf x]? = some x) && noDbg x then some (Γ.N.idxOf x) else none
def Gm.gl (Γ : Gm) (x : Str) : Bool := decide (Γ.sc.names.lookup x = some .globalImplicit)
def Gm.blt (Γ : Gm) (x : Str) : Bool := Γ.gl x && match Γ.gk x with
  | .no => true
  | _ => false
/-- a name that code here may store -/
def Gm.sto (Γ : Gm) (x : Str) : Bool := decide (Γ.sc.names.lookup x = some .local) || (decide (Γ.sc.names.lookup x = some .cell) && Γ.fn x)
def relS (scope outer : Scope) : Scope :=
  { scope with names := scope.names.map fun (n, k) => if (k == .free && outer.kind == .function && outer.names.lookup n == some .cell) then (n, .cell) else (n, k) }
def Gm.blk (Γ : Gm) (scope : Scope) : Gm := { Γ with sc := relS scope Γ.sc, fn := fun x => scope.names.lookup x == some .cell, lam := false }
/-- within a lambda -/
def Gm.lamb (Γ : Gm) (px : Str) (scope : Scope) : Gm := { Γ with N := [px], sc := scope, fn := fun _ => true, lam := false }
def allI (f : Str → Option Nat) : List Expr → Option (List Nat)
  | [] => some []
  | .Name x _ :: r => (f x).bind fun i => (allI f r).map (i :: ·)
  | _ :: _ => none
def Gm.si (Γ : Gm) (x : Str) : Option Nat := if Γ.sto x then Γ.ix x else none
def Gm.tg (Γ : Gm) : Expr → Option Tg
  | .Name x _ => (Γ.si x).map .one
  | .Tuple es _ _ => (allI Γ.si es).map .tup
  | _ => none
def binN : Operator → Option BOp
  | .Add => some .add
  | .Sub => some .sub
  | .Mult => some .mul
  | .FloorDiv => some .fdiv
  | .Mod => some .mod
  | .Pow => some .pow
  | .BitAnd => some .band
  | .RShift => some .shr
  | .LShift => some .shl
  | _ => none
def copN : CmpOp → Option COp
  | .Eq => some .eq
  | .NotEq => some .ne
  | .Lt => some .lt
  | .LtE => some .le
  | .Gt => some .gt
  | .GtE => some .ge
  | .In => some .mem
  | .NotIn => some .nmem
  | .Is => some .isN
  | .IsNot => some .notN
def biName (x : Str) : Option BI :=
  if x = "len" then some .len else if x = "abs" then some .abs else if x = "int" then some .int else if x = "bool" then some .bool else if x = "str" then some .str else if x = "list" then some .list else
  if x = "tuple" then some .tuple else if x = "sum" then some .sum else if x = "max" then some .max else if x = "min" then some .min else if x = "all" then some .all else if x = "any" then some .any else if x = "repr" then some .repr else none
def mtN (x : Str) : Option MT :=
  if x = Str.ofString (mtStr .join) then some .join else if x = Str.ofString (mtStr .split) then some .split else if x = Str.ofString (mtStr .count) then some .count else if x = Str.ofString (mtStr .index) then some .index else
  if x = Str.ofString (mtStr .upper) then some .upper else if x = Str.ofString (mtStr .find) then some .find else if x = Str.ofString (mtStr .rpartition) then some .rpartition else if x = Str.ofString (mtStr .replace) then some .replace else none
def muN (x : Str) : Option MU :=
  if x = Str.ofString (muStr .append) then some .append else if x = Str.ofString (muStr .pop) then some .pop else if x = Str.ofString (muStr .insert) then some .insert else if x = Str.ofString (muStr .reverse) then some .reverse else
  if x = Str.ofString (muStr .clear) then some .clear else none
/-- e of set(e), standing alone -/
def setArg : List Expr → Option Expr
  | [.Call (.Name y _) [e] [] _] => if y = "set" && noStar e then some e else none
  | _ => none
def tyNsC (Γ : Gm) : List Expr → Option (List String)
  | [] => some []
  | .Name x _ :: r => if Γ.blt x then (tyName x).bind fun t => (tyNsC Γ r).map (t :: ·) else none
  | _ :: _ => none
/-- isinstance's arguments -/
def isiA (Γ : Gm) : List Expr → Option (Expr × List String)
  | [a, .Name y _] => if Γ.blt y then (tyName y).map fun t => (a, [t]) else none
  | [a, .Tuple ts _ _] => if ts.length < 30 then (tyNsC Γ ts).map fun ts => (a, ts) else none
  | _ => none
def isComp : Expr → Bool
  | .ListComp .. => true
  | .SetComp .. => true
  | .DictComp .. => true
  | _ => false
def isSet : Expr → Bool
  | .Set .. => true
  | _ => false
def isSlice : Expr → Bool
  | .Slice .. => true
  | _ => false
def isTup : Expr → Bool
  | .Tuple .. => true
  | _ => false
/-- a test by its truth -/
def plainT : Expr → Bool
  | .UnaryOp .Not _ _ => false
  | .BoolOp .. => false
  | .IfExp .. => false
  | .Compare .. => false
  | _ => true
def stars (es : List Expr) : Bool := es.all noStar
/-- a comprehension's own names -/
def ownOf (Γ : Gm) (t : Tg) : List (Str × Nat) := (slotsT t).map fun i => (Γ.N.getD i Str.empty, i)
def notName : Expr → Bool
  | .Name _ _ => false
  | _ => true
/-- arguments: some of them new containers by reference -/
def cAs (ce : Expr → Option E) (rf : Nat → Bool) : Nat → List Expr → Option (List E)
  | _, [] => some []
  | i, e :: r => (ce e).bind fun m => (cAs ce rf (i + 1) r).map fun ms => (if rf i && notName e then .rf m else m) :: ms
/-- the parts of an f-string -/
def cFs (ce : Expr → Option E) : List Expr → Option (List E)
  | [] => some []
  | .Constant (.str s) _ _ :: r => (cFs ce r).map fun ms => .cst (.str s) :: ms
  | .FormattedValue e (-1) none _ :: r => (ce e).bind fun m => (cFs ce r).map fun ms => m :: ms
  | _ :: _ => none
def twoP : List Expr → Bool
  | _ :: _ :: _ => true
  | _ => false
/-- names frozen ahead of a comprehension that hands them on -/
def fzW : List Nat → E → E
  | [], e => e
  | i :: r, e => .fz i (fzW r e)
def fzA (Γ : Gm) (f : Str) : List Expr → List Nat
  | [] => []
  | .Name x _ :: r => match Γ.refs.contains (x ++ ("##" : Str) ++ f), Γ.ix x with
    | true, some i => i :: fzA Γ f r
    | _, _ => fzA Γ f r
  | _ :: r => fzA Γ f r
def fzN (Γ : Gm) : Expr → List Nat
  | .Call (.Name f _) es _ _ => fzA Γ f es
  | _ => []
def Gm.rfs (Γ : Gm) (x : Str) (i : Nat) : Bool := Γ.refs.contains (x ++ match i with
  | 0 => ("#0" : Str)
  | 1 => "#1"
  | 2 => "#2"
  | 3 => "#3"
  | _ => "#4")
mutual
/-- a value -/
def cE (Γ : Gm) : Nat → Expr → Option E
  | 0, _ => none
  | n + 1, e => match e with
    | .Name x _ => match Γ.ix x with
      | some i => some (.var i)
      | none => if Γ.gl x && noDbg x then (match Γ.gk x with
        | .cst d => some (.glb x d)
        | _ => none) else none
    | .Constant c _ _ => (constD c).map .cst
    | .UnaryOp .USub a _ => (cH Γ n a).map .neg
    | .UnaryOp .Not a _ => (cH Γ n a).map .not
    | .BinOp a o b _ => (binN o).bind fun o => (cH Γ n a).bind fun a => (cH Γ n b).map fun b => .bin o a b
    | .Compare a [o] [b] _ => if isSet b then none else (copN o).bind fun o => (cH Γ n a).bind fun a => (cH Γ n b).map fun b => .cmp o a b
    | .Compare a [o, o'] [b, c] _ => if isSet c then none else (copN o).bind fun o => (copN o').bind fun o' => (cH Γ n a).bind fun a => (cH Γ n b).bind fun b => (cH Γ n c).map fun c => .chain o o' a b c
    | .BoolOp op [a] _ => cE Γ n a
    | .BoolOp .And (a :: b :: r) p => (cE Γ n a).bind fun a => (cE Γ n (.BoolOp .And (b :: r) p)).map fun b => .conj a b
    | .BoolOp .Or (a :: b :: r) p => (cE Γ n a).bind fun a => (cE Γ n (.BoolOp .Or (b :: r) p)).map fun b => .disj a b
    | .IfExp c a b _ => (cT Γ n c).bind fun c => (cE Γ n a).bind fun a => (cE Γ n b).map fun b => .ife c a b
    | .Tuple es _ _ => if stars es then (cVs Γ n es).map .tup else none
    | .List es _ => if stars es then (cVs Γ n es).map .lst else none
    | .Dict [] [] _ => some (.dic [])
    | .Dict keys vals _ => if keys.all (·.isSome) && decide (keys.length = vals.length) && decide (keys.length ≤ 15) && !keys.isEmpty then (cKV Γ n keys vals).map .dic else none
    | .Subscript a (.Slice none none (some (.UnaryOp .USub (.Constant (.int 1) _ _) _)) _) _ => (cH Γ n a).map .rev
    | .Subscript a (.Slice none none (some (.Constant (.int k) _ _)) _) _ => if decide (1 ≤ k) && decide (k < 1000) then (cH Γ n a).map fun a => .stp a k.toNat else none
    | .Subscript a (.Slice lo hi none _) _ => (cH Γ n a).bind fun a => (cO Γ n lo).bind fun lo => (cO Γ n hi).map fun hi => .sli a lo hi
    | .Subscript a i _ => if isSlice i then none else (cH Γ n a).bind fun a => (cH Γ n i).map fun i => .sub a i
    | .ListComp elt [⟨tg, iter, ifs, 0⟩] scope _ => (Γ.blk scope).tg tg |>.bind fun t => if isSet iter || !blkC Γ.N Γ.sc scope (ownOf Γ t) then none else
        (cI Γ n true (isTup tg) iter).bind fun src => (cC (Γ.blk scope) n ifs).bind fun c => (cE (Γ.blk scope) n elt).map fun e => fzW (fzN Γ elt) (.comp t src c e)
    | .Call (.Name x _) es [] _ => if !stars es then none else
        if x = "isinstance" && Γ.blt x then (isiA Γ es).bind fun q => (cH Γ n q.1).map fun a => .isi a q.2
      else match (if x = "len" && (Γ.blt x && Γ.blt "set") then setArg es else none) with
        | some a => (cHs Γ n [a]).map (.bi .setlen)
        | none => match biName x with
          | some f => if Γ.blt x then (match es with
            | [] => none
            | _ :: _ => (cHs Γ n es).map (.bi f)) else none
          | none => if Γ.gl x && noDbg x then (match Γ.gk x with
            | .fn => (cAs (cE Γ n) (Γ.rfs x) 0 es).map (.call x)
            | _ => none) else none
    | .Call (.Name x _) [a] [⟨some kw, .Name f _, _⟩] _ => if x = "sorted" && Γ.blt x && decide (kw = "key") && noStar a && Γ.gl f && noDbg f then (match Γ.gk f with
        | .fn => (cHs Γ n [a]).bind fun ms => (match ms with
          | [m] => some (.srt m f)
          | _ => none)
        | _ => none) else none
    | .Call (.Name x _) [a] [⟨some kw, .Lambda params body scope _, _⟩] _ => if x = "sorted" && Γ.blt x && decide (kw = "key") && noStar a && Γ.lam then (match lamArg params with
        | some px => if C8.scC [px] [px] scope then (cHs Γ n [a]).bind fun ms => (match ms with
          | [m] => (cE (Γ.lamb px scope) n body).map (.srtL m 0)
          | _ => none) else none
        | none => none) else none
    | .Call (.Attribute o m apos) es [] cpos => if !(stars es && decide (es.length < 30) && (apos.endLine == cpos.line)) then none else
        match o, muN m with
        | .Name y _, some mu => (Γ.ix y).bind fun i => (cVs Γ n es).map (.mut mu i)
        | _, _ => match o, es, decide (m = "extend") with
          | .Name y _, [e], true => (Γ.ix y).bind fun i => (cE Γ n e).map (.ext i)
          | _, _, _ => if plainRecv o then (mtN m).bind fun mt => (cH Γ n o).bind fun o => (cHs Γ n es).map (.met mt o) else none
    | .JoinedStr es _ => if twoP es then (cFs (cE Γ n) es).map .fstr else none
    | _ => none
/-- a handle -/
def cH (Γ : Gm) : Nat → Expr → Option E
  | 0, _ => none
  | n + 1, e => match (match e with
      | .Name x _ => Γ.ix x
      | _ => none) with
    | some i => some (.pk i)
    | none => (cE Γ n e).map .ev
/-- a test -/
def cT (Γ : Gm) : Nat → Expr → Option E
  | 0, _ => none
  | n + 1, e => match e with
    | .UnaryOp .Not a _ => (cT Γ n a).map .tnot
    | .BoolOp op [a] _ => cT Γ n a
    | .BoolOp .And (a :: b :: r) p => (cT Γ n a).bind fun a => (cT Γ n (.BoolOp .And (b :: r) p)).map fun b => .tand a b
    | .BoolOp .Or (a :: b :: r) p => (cT Γ n a).bind fun a => (cT Γ n (.BoolOp .Or (b :: r) p)).map fun b => .tor a b
    | .Compare a [o] [b] _ => if isSet b then none else (copN o).bind fun o => (cH Γ n a).bind fun a => (cH Γ n b).map fun b => .tcmp o a b
    | .Compare a [o, o'] [b, c] _ => if isSet c then none else (copN o).bind fun o => (copN o').bind fun o' => (cH Γ n a).bind fun a => (cH Γ n b).bind fun b => (cH Γ n c).map fun c => .tchain o o' a b c
    | e => if plainT e then (cH Γ n e).map .tst else none
def cVs (Γ : Gm) : Nat → List Expr → Option (List E)
  | 0, _ => none
  | _ + 1, [] => some []
  | n + 1, e :: r => (cE Γ n e).bind fun e => (cVs Γ n r).map fun r => e :: r
def cHs (Γ : Gm) : Nat → List Expr → Option (List E)
  | 0, _ => none
  | _ + 1, [] => some []
  | n + 1, e :: r => (cH Γ n e).bind fun e => (cHs Γ n r).map fun r => e :: r
def cKV (Γ : Gm) : Nat → List (Option Expr) → List Expr → Option (List E)
  | 0, _, _ => none
  | _ + 1, [], [] => some []
  | n + 1, some k :: ks, v :: vs => (cE Γ n k).bind fun k => (cE Γ n v).bind fun v => (cKV Γ n ks vs).map fun r => k :: v :: r
  | _ + 1, _, _ => none
def cO (Γ : Gm) : Nat → Option Expr → Option (Option E)
  | 0, _ => none
  | _ + 1, none => some none
  | n + 1, some e => (cH Γ n e).map some
def cC (Γ : Gm) : Nat → List Expr → Option (Option E)
  | 0, _ => none
  | _ + 1, [] => some none
  | n + 1, [c] => (cT Γ n c).map some
  | _ + 1, _ => none
/-- what is walked: c by a comprehension, tup: into a tuple of names -/
def cI (Γ : Gm) : Nat → Bool → Bool → Expr → Option E
  | 0, _, _, _ => none
  | n + 1, c, tup, e => match e with
    | .Call (.Name x _) [a] [] _ =>
      if x = "range" && Γ.blt x then (if noStar a then (cH Γ n a).map .rng1 else none)
      else if x = "enumerate" && Γ.blt x then (if noStar a && tup then (cE Γ n a).map .enum else none)
      else (cE Γ n e).map .ev
    | .Call (.Name x _) [a, b] [] _ =>
      if x = "zip" && Γ.blt x then (if noStar a && noStar b && tup then (cE Γ n a).bind fun a => (cE Γ n b).map fun b => .zip a b else none)
      else (cE Γ n e).map .ev
    | .Call (.Name x _) [a, b, d] [] _ =>
      if x = "range" && Γ.blt x then (if stars [a, b, d] then (cHs Γ n [a, b, d]).map .rng3 else none)
      else (cE Γ n e).map .ev
    | .Name x _ => if c then (cH Γ n e).map .walk else (cE Γ n e).map .ev
    | e => (cE Γ n e).map .ev
end
/-! ### statements -/
def Gm.asg (Γ : Gm) (n : Nat) (x : Str) (v : Expr) : Option S := (Γ.si x).bind fun i => (cE Γ n v).map fun e => if Γ.refs.contains x then .ref i e else .own i e
/-- where a comprehension's value is stored by the block itself -/
def swapOk (Γ : Gm) (x : Str) (px : Pos) (v : Expr) : Bool := match v with
  | .ListComp _ _ scope pos => (decide (Γ.sc.names.lookup x = some .local) && (px.line == pos.line) && !(scope.names.any fun (n, k) => n == x && (k == .local || k == .cell)) && !Γ.refs.contains x) || decide (Γ.sc.names.lookup x = some .cell)
  | _ => !isComp v
def parOk (Γ : Gm) (x : Str) (px : Pos) (y : Str) (py : Pos) (a b : Expr) : Bool :=
  decide (Γ.sc.names.lookup x = some .local) && decide (Γ.sc.names.lookup y = some .local) && (py.line == px.line) && !(x == y) && noStar a && noStar b && !([a, b].all (foldedForSure 8)) && !([a, b].all (constantsAlone 8))
mutual
def cS (Γ : Gm) : Nat → Stmt → Option S
  | 0, _ => none
  | n + 1, e => match e with
    | .Assign [.Name x px] v _ => if swapOk Γ x px v then Γ.asg n x v else none
    | .Assign [.Tuple [.Name x px, .Name y py] _ _] (.Tuple [a, b] _ _) _ => if parOk Γ x px y py a b then (Γ.ix x).bind fun i => (Γ.ix y).bind fun j => (cE Γ n a).bind fun a => (cE Γ n b).map fun b => .par i j a b else none
    | .Assign [.Tuple ts _ _] v _ => if isTup v || isComp v then none else (allI Γ.si ts).bind fun is => (cH Γ n v).map fun e => .unp is e
    | .Assign [.Subscript (.Name x _) k _] v _ => if isSlice k || isComp v then none else (Γ.ix x).bind fun i => (cH Γ n k).bind fun k => (cE Γ n v).map fun e => .seti i k e
    | .Expr (.Constant (.str _) _ _) _ => some .pass
    | .Expr e _ => if isComp e then none else (cE Γ n e).map .ex
    | .Return none _ => some .retn
    | .Return (some e) _ => match (match e with
        | .Name x _ => Γ.ix x
        | _ => none) with
      | some i => some (.retv i)
      | none => (cE Γ n e).map .ret
    | .If c a b _ => (cT Γ n c).bind fun c => (cSs Γ n a).bind fun a => (cSs Γ n b).map fun b => .ife c a b
    | .For tg iter body [] _ => if isSet iter then none else (Γ.tg tg).bind fun t => (cI Γ n false (isTup tg) iter).bind fun src => (cSs Γ n body).map fun b => .for t src b
    | .While c body [] _ => (cT Γ n c).bind fun c => (cSs Γ n body).map fun b => .whl c b
    | .Pass _ => some .pass
    | .Break _ => some .brk
    | .Continue _ => some .cont
    | .Raise _ _ _ => some (.raise Str.empty none)
    | _ => none
def cSs (Γ : Gm) : Nat → List Stmt → Option (List S)
  | 0, _ => none
  | _ + 1, [] => some []
  | n + 1, s :: r => (cS Γ n s).bind fun s => (cSs Γ n r).map fun r => s :: r
end
end Nw

set_option autoImplicit false
set_option maxRecDepth 100000
set_option maxHeartbeats 2000000
/-! Nw, part X: what was compiled is what the code does. -/
namespace Nw
open PySem PySem.Spec PyProof.Rows L2 RZ

/-- what a global name stands for -/
def GOk (C : Call) (k : Nat) (CV : Str → Value) (X : Cx) (x : Str) : GK → Prop
  | .no => X.mg x = none
  | .fn => ∃ f fd ps, X.mg x = some (.ref f) ∧ PySem.W.keepIn X.K (.ref f) = true ∧ Binds X.K fd ps [] ∧ FnG X.prog X.w X.K X.mg X.base (L2.CX X.prog X.w) k f fd ps (spC X.K CV ps.length (C x)) ∧ ∀ xs st, C x xs st ≠ .stuck → xs.length = ps.length
  | .cst d => ∃ v u, X.mg x = some u ∧ RelV v u ∧ ∀ H, Rep X.K H d v
  | .bad => True
structure Good (Γ : Gm) (C : Call) (k : Nat) (CV : Str → Value) (X : Cx) (W : WX) : Prop where
  hN : X.N = Γ.N
  nd : Γ.N.Nodup
  sc : X.env.scope = Γ.sc
  fn : ∀ x, Γ.fn x = true → X.fn x = true
  calm : X.calm = true
  hu : X.A.units + 65 < cLine
  gd : X.A.guards = some []
  room : Room k X.A
  room2 : Room k X.A.in1.in1
  tk : Takes X W
  gl : ∀ x, GOk C k CV X x (Γ.gk x)
  lam : Γ.lam = true → LamAt X ∧ (∀ env, Room k (X.A.in1.in1.deeper env)) ∧ ∀ env, Room k (X.A.in1.in1.deeper env).in1.in1
section
variable {Γ : Gm} {C : Call} {k : Nat} {CV : Str → Value} {X : Cx} {W : WX}
theorem Good.kd (g : Good Γ C k CV X W) (x : Str) : X.env.kindOf x = Γ.sc.names.lookup x := by
  show X.env.scope.names.lookup x = _
  rw [g.sc]
theorem Good.Gl (g : Good Γ C k CV X W) {x : Str} (h : Γ.gl x = true) : Gl X x := by
  show X.env.kindOf x = _
  rw [g.kd]
  exact of_decide_eq_true h
theorem Good.blt (g : Good Γ C k CV X W) {x : Str} (h : Γ.blt x = true) : L2.Gl X x ∧ X.mg x = none := by
  unfold Gm.blt at h
  obtain ⟨h1, h2⟩ := and_ok h
  refine ⟨g.Gl h1, ?_⟩
  have q := g.gl x
  split at h2
  · rename_i e
    rw [e] at q
    exact q
  · cases h2
theorem noDbg_ok {x : Str} (h : noDbg x = true) : (x == ("__debug__" : Str)) = false ∧ (x == ("__classdict__" : Str)) = false := by
  unfold noDbg at h
  simpa only [Bool.and_eq_true, Bool.not_eq_true'] using h
theorem Good.ix (g : Good Γ C k CV X W) {x : Str} {i : Nat} (h : Γ.ix x = some i) : X.N[i]? = some x ∧ Vis X.env.scope x ∧ (x == ("__debug__" : Str)) = false ∧ (x == ("__classdict__" : Str)) = false := by
  unfold Gm.ix at h
  split at h
  · rename_i hc
    cases h
    simp only [Bool.and_eq_true, decide_eq_true_eq] at hc
    obtain ⟨⟨h1, h2⟩, h3⟩ := hc
    obtain ⟨h4, h5⟩ := noDbg_ok h3
    refine ⟨by rw [g.hN]; exact h2, ?_, h4, h5⟩
    unfold Vis
    rw [g.sc]
    unfold seen at h1
    split at h1 <;> first | exact .inl (by assumption) | exact .inr (.inl (by assumption)) | exact .inr (.inr (by assumption)) | cases h1
  · cases h
theorem Good.var (g : Good Γ C k CV X W) {x : Str} {i : Nat} {p : Pos} (h : Γ.ix x = some i) : PE X (.Name x p) (tVar i) := by
  obtain ⟨h1, h2, h3, h4⟩ := g.ix h
  exact pe_var h1 h2 h3 h4
theorem Good.st (g : Good Γ C k CV X W) {x : Str} {i : Nat} (h : Γ.si x = some i) : X.N[i]? = some x ∧ L2.Loc X.env.scope x ∧ (X.fn x = true ∨ X.env.scope.names.lookup x = some .local) := by
  unfold Gm.si at h
  split at h
  · rename_i hs
    obtain ⟨h1, _⟩ := g.ix h
    unfold Gm.sto at hs
    simp only [Bool.or_eq_true, Bool.and_eq_true, decide_eq_true_eq] at hs
    unfold L2.Loc
    rw [g.sc]
    rcases hs with hs | ⟨hs, hf⟩
    · exact ⟨h1, .inl hs, .inr hs⟩
    · exact ⟨h1, .inr hs, .inl (g.fn x hf)⟩
  · cases h
theorem Good.pgn (g : Good Γ C k CV X W) {x : Str} {i : Nat} {p : Pos} (h : Γ.si x = some i) : PG X (.Name x p) (gName i) := by
  obtain ⟨h1, h2, h3⟩ := g.st h
  exact pg_name (by rw [g.hN]; exact g.nd) h1 h2 h3
theorem Good.pgs (g : Good Γ C k CV X W) : ∀ {es : List Expr} {is : List Nat}, allI Γ.si es = some is → PGs X es (gNs is) ∧ (assignEach es X.env).length = is.length ∧ (assignEach es X.env).findIdx? (·.1) = none
  | [], is, h => by
    cases h
    exact ⟨pgs_nil, rfl, rfl⟩
  | .Name x p :: es, is, h => by
    simp only [allI, Option.bind_eq_some_iff, Option.map_eq_some_iff] at h
    obtain ⟨i, hi, js, hj, rfl⟩ := h
    obtain ⟨h1, h2, h3⟩ := g.pgs hj
    refine ⟨pgs_cons (g.pgn hi) h1 rfl, ?_, ?_⟩
    · show (assignEach es X.env).length + 1 = _
      rw [h2, List.length_cons]
    · show ((false, assign (.Name x p) X.env) :: assignEach es X.env).findIdx? (·.1) = none
      rw [List.findIdx?_cons]
      rw [h3]
      rfl
  | .BoolOp .. :: _, _, h => by cases h
  | .NamedExpr .. :: _, _, h => by cases h
  | .BinOp .. :: _, _, h => by cases h
  | .UnaryOp .. :: _, _, h => by cases h
  | .Lambda .. :: _, _, h => by cases h
  | .IfExp .. :: _, _, h => by cases h
  | .Dict .. :: _, _, h => by cases h
  | .Set .. :: _, _, h => by cases h
  | .ListComp .. :: _, _, h => by cases h
  | .SetComp .. :: _, _, h => by cases h
  | .DictComp .. :: _, _, h => by cases h
  | .GeneratorExp .. :: _, _, h => by cases h
  | .Await .. :: _, _, h => by cases h
  | .Yield .. :: _, _, h => by cases h
  | .YieldFrom .. :: _, _, h => by cases h
  | .Compare .. :: _, _, h => by cases h
  | .Call .. :: _, _, h => by cases h
  | .FormattedValue .. :: _, _, h => by cases h
  | .JoinedStr .. :: _, _, h => by cases h
  | .Constant .. :: _, _, h => by cases h
  | .Attribute .. :: _, _, h => by cases h
  | .Subscript .. :: _, _, h => by cases h
  | .Starred .. :: _, _, h => by cases h
  | .List .. :: _, _, h => by cases h
  | .Tuple .. :: _, _, h => by cases h
  | .Slice .. :: _, _, h => by cases h
theorem Good.pg (g : Good Γ C k CV X W) {e : Expr} {t : Tg} (h : Γ.tg e = some t) : PG X e (gT X.K t) := by
  unfold Gm.tg at h
  split at h
  · obtain ⟨i, hi, rfl⟩ := Option.map_eq_some_iff.mp h
    exact g.pgn hi
  · obtain ⟨is, hi, rfl⟩ := Option.map_eq_some_iff.mp h
    obtain ⟨h1, h2, h3⟩ := g.pgs hi
    exact pg_tup g.calm h1 h2 h3
  · cases h
theorem bin_op {o : Operator} {b : BOp} (h : binN o = some b) : bopOp b = o := by
  cases o <;> simp only [binN, reduceCtorEq] at h <;> cases h <;> rfl
theorem cop_op {o : CmpOp} {b : COp} (h : copN o = some b) : copOp b = o := by
  cases o <;> simp only [copN, reduceCtorEq] at h <;> cases h <;> rfl
theorem mt_nm {x : Str} {m : MT} (h : mtN x = some m) : x = Str.ofString (mtStr m) ∧ mtOk m = true := by
  unfold mtN at h
  repeat' split at h
  all_goals first | (cases h; exact ⟨by assumption, rfl⟩) | cases h
theorem mu_nm {x : Str} {m : MU} (h : muN x = some m) : x = Str.ofString (muStr m) ∧ muOk m = true := by
  unfold muN at h
  repeat' split at h
  all_goals first | (cases h; exact ⟨by assumption, rfl⟩) | cases h
theorem mark1 {o : CmpOp} {b : Expr} (h : isSet b = false) : behindInMarks o b = false := by
  cases b <;> first | rfl | (simp [isSet] at h)
theorem mark2 {o o' : CmpOp} {b c : Expr} (h : isSet c = false) : lastMarks [o, o'] [b, c] = false := mark1 h
theorem not_t {b : Bool} (h : ¬ b = true) : b = false := by simpa using h
theorem set_ok {e : Expr} {env : Env} (h : isSet e = false) (x : Value) : foldedSetIterable e env x = pure x := by
  cases e <;> first | rfl | (simp [isSet] at h)
theorem sw_no {e : Expr} {t : Option Expr} {l : Nat} {env : Env} (h : isComp e = false) : swapsWith e t l env = pure false := by
  cases e <;> first | rfl | (simp [isComp] at h)
theorem sw_cell {elt : Expr} {gens : List Comprehension} {scope : Scope} {pos px : Pos} {y : Str} {l : Nat} {env : Env} (h : env.scope.names.lookup y = some .cell) : swapsWith (.ListComp elt gens scope pos) (some (.Name y px)) l env = pure false := by
  have e : (env.kindOf y == some .local) = false := by
    show (env.scope.names.lookup y == some .local) = false
    rw [h]
    rfl
  show pure (env.blockKind == .function && env.kindOf y == some .local && px.line == (Expr.ListComp elt gens scope pos).pos.line && !(scope.names.any fun (n, k) => n == y && (k == .local || k == .cell))) = pure false
  rw [e, Bool.and_false, Bool.false_and, Bool.false_and]
theorem slice_ok {e : Expr} (h : isSlice e = false) : PlainIx e := by
  intro o i
  cases e <;> first | rfl | (simp [isSlice] at h)
theorem test_eq {e : Expr} {env : Env} (h : plainT e = true) (whole : Sem Value) : isTrue e env whole = (do let v ← whole; standAt e.pos; holding [v] (truthy v)) := by
  cases e with
  | UnaryOp o _ _ => cases o <;> first | rfl | (simp [plainT] at h)
  | BoolOp _ _ _ => simp [plainT] at h
  | IfExp _ _ _ _ => simp [plainT] at h
  | Compare _ _ _ _ => simp [plainT] at h
  | _ => rfl
theorem tyNs_ok (g : Good Γ C k CV X W) : ∀ {es : List Expr} {ts : List String}, tyNsC Γ es = some ts → TyNs X es ts ∧ ts.length = es.length
  | [], ts, h => by
    cases h
    exact ⟨.nil, rfl⟩
  | e :: es, ts, h => by
    cases e with
    | Name x p =>
      simp only [tyNsC] at h
      split at h
      · rename_i hb
        simp only [Option.bind_eq_some_iff, Option.map_eq_some_iff] at h
        obtain ⟨t, ht, us, hu, rfl⟩ := h
        obtain ⟨h1, h2⟩ := tyNs_ok g hu
        obtain ⟨h3, h4⟩ := g.blt hb
        exact ⟨.cons ht h3 h4 h1, by rw [List.length_cons, List.length_cons, h2]⟩
      · cases h
    | _ => simp only [tyNsC, reduceCtorEq] at h
theorem ite_some {α : Type} {c : Prop} [Decidable c] {a b : Option α} {f : α} (h : (if c then a else b) = some f) : (c ∧ a = some f) ∨ (¬ c ∧ b = some f) := by
  by_cases hc : c
  · rw [if_pos hc] at h
    exact .inl ⟨hc, h⟩
  · rw [if_neg hc] at h
    exact .inr ⟨hc, h⟩
theorem bi_ok (g : Good Γ C k CV X W) {x : Str} {f : BI} {e : Expr} {es : List Expr} {ms : M (List Hd)} {p pos : Pos} (h : biName x = some f) (hb : Γ.blt x = true) (ha : PAh X W CV (e :: es) ms) (n : noStar e = true) (ns : es.all noStar = true) :
    PEn X W CV (.Call (.Name x p) (e :: es) [] pos) (biM f ms) := by
  obtain ⟨hg, hm⟩ := g.blt hb
  unfold biName at h
  rcases ite_some h with ⟨rfl, e⟩ | ⟨_, h⟩
  · cases e
    exact b_len hg hm ha n ns
  rcases ite_some h with ⟨rfl, e⟩ | ⟨_, h⟩
  · cases e
    exact b_abs hg hm ha n ns
  rcases ite_some h with ⟨rfl, e⟩ | ⟨_, h⟩
  · cases e
    exact b_int hg hm ha n ns
  rcases ite_some h with ⟨rfl, e⟩ | ⟨_, h⟩
  · cases e
    exact b_bool hg hm ha n ns
  rcases ite_some h with ⟨rfl, e⟩ | ⟨_, h⟩
  · cases e
    exact b_str hg hm ha n ns
  rcases ite_some h with ⟨rfl, e⟩ | ⟨_, h⟩
  · cases e
    exact b_list g.calm hg hm ha n ns
  rcases ite_some h with ⟨rfl, e⟩ | ⟨_, h⟩
  · cases e
    exact b_tuple hg hm ha n ns
  rcases ite_some h with ⟨rfl, e⟩ | ⟨_, h⟩
  · cases e
    exact b_sum g.calm hg hm ha n ns
  rcases ite_some h with ⟨rfl, e⟩ | ⟨_, h⟩
  · cases e
    exact b_max g.calm hg hm ha n ns
  rcases ite_some h with ⟨rfl, e⟩ | ⟨_, h⟩
  · cases e
    exact b_min g.calm hg hm ha n ns
  rcases ite_some h with ⟨rfl, e⟩ | ⟨_, h⟩
  · cases e
    exact b_all g.calm hg hm ha n ns
  rcases ite_some h with ⟨rfl, e⟩ | ⟨_, h⟩
  · cases e
    exact b_any g.calm hg hm ha n ns
  rcases ite_some h with ⟨rfl, e⟩ | ⟨_, h⟩
  · cases e
    exact b_repr g.hu g.gd hg hm ha n ns
  · cases h
/-- a comprehension's block -/
theorem Good.inBlk (g : Good Γ C k CV X W) {scope : Scope} (s : Shared) (H : Hp) (D : Addr) (cl : List (Str × Addr)) (fp : List Addr) : Good (Γ.blk scope) C k CV (X.blk s H scope (compEnvC scope cl D X.env) fp) WF := by
  refine ⟨g.hN, g.nd, ?_, fun x h => h, g.calm, g.hu, g.gd, g.room, g.room2, takes0, fun x => g.gl x, fun z => nomatch z⟩
  show relabel scope X.env = relS scope Γ.sc
  unfold relabel relS
  have e : X.env.kindOf = fun x => Γ.sc.names.lookup x := funext fun x => g.kd x
  rw [g.sc, e]
theorem good_lam (g : Good Γ C k CV X W) {px : Str} {scope : Scope} (S : FnScope [px] [px] scope) (r1 : ∀ env, Room k (X.A.in1.in1.deeper env)) (r2 : ∀ env, Room k (X.A.in1.in1.deeper env).in1.in1) (f c' : Addr) (s : Shared) (H : Hp) :
    Good (Γ.lamb px scope) C k CV (lamX X px scope f c' s H) (fun _ _ _ _ => False) := by
  refine ⟨rfl, S.nd, rfl, fun _ _ => rfl, rfl, ?_, g.gd, r1 _, r2 _, takes_of (E₁ := fun e' s'' => L2.CX X.prog X.w X.stack H s (fun _ _ _ => False) e' s'') rfl rfl rfl rfl, fun y => ?_, fun z => nomatch z⟩
  · have := (r1 (envOfC (X.env.qual ++ "<lambda>") scope s.heap.objs.size f (.ref c'))).un
    show (X.A.in1.in1.deeper (envOfC (X.env.qual ++ "<lambda>") scope s.heap.objs.size f (.ref c'))).units + 65 < cLine
    omega
  · show GOk C k CV _ y (Γ.gk y)
    have q := g.gl y
    cases e : Γ.gk y <;> rw [e] at q <;> exact q
theorem own_ok {t : Tg} : (ownOf Γ t).map (·.2) = slotsT t := by
  unfold ownOf
  rw [List.map_map]
  have e : ((fun x : Str × Nat => x.2) ∘ fun i => (Γ.N.getD i Str.empty, i)) = id := rfl
  rw [e, List.map_id]
end
end Nw

set_option autoImplicit false
set_option maxRecDepth 100000
set_option maxHeartbeats 4000000
/-! Nw, part Y: soundness of expressions. -/
namespace Nw
open PySem PySem.Spec PyProof.Rows L2 RZ

structure Snd (C : Call) (k : Nat) (CV : Str → Value) (n : Nat) : Prop where
  e : ∀ {Γ : Gm} {X : Cx} {W : WX} {x : Expr} {m : E}, Good Γ C k CV X W → cE Γ n x = some m → PEn X W CV x (dE C m)
  h : ∀ {Γ : Gm} {X : Cx} {W : WX} {x : Expr} {m : E}, Good Γ C k CV X W → cH Γ n x = some m → PEh X W CV x (dH C m)
  t : ∀ {Γ : Gm} {X : Cx} {W : WX} {x : Expr} {m : E}, Good Γ C k CV X W → cT Γ n x = some m → PTt X W CV x (dT C m)
  w : ∀ {Γ : Gm} {X : Cx} {W : WX} {op : BoolOp} {es : List Expr} {p : Pos} {m : E}, Good Γ C k CV X W → cT Γ n (.BoolOp op es p) = some m → PWt X W CV (.BoolOp op es p) (dT C m)
  vs : ∀ {Γ : Gm} {X : Cx} {W : WX} {es : List Expr} {ms : List E}, Good Γ C k CV X W → cVs Γ n es = some ms → stars es = true → PAv X W CV es (dVs C ms)
  hs : ∀ {Γ : Gm} {X : Cx} {W : WX} {es : List Expr} {ms : List E}, Good Γ C k CV X W → cHs Γ n es = some ms → stars es = true → PAh X W CV es (dHs C ms)
  kv : ∀ {Γ : Gm} {X : Cx} {W : WX} {ks : List (Option Expr)} {vs : List Expr} {ms : List E} {pos : Pos}, Good Γ C k CV X W → cKV Γ n ks vs = some ms → PPs X pos ks vs (trs X.K W CV (dKVs C ms)) ∧ (dKVs C ms).length = ks.length
  o : ∀ {Γ : Gm} {X : Cx} {W : WX} {es : Option Expr} {ms : Option E}, Good Γ C k CV X W → cO Γ n es = some ms → POt X W CV es (optI (dO C ms))
  c : ∀ {Γ : Gm} {X : Cx} {W : WX} {es : List Expr} {ms : Option E}, Good Γ C k CV X W → cC Γ n es = some ms → PTs X es (rd X.K W CV RBool (dC C ms))
  i : ∀ {Γ : Gm} {X : Cx} {W : WX} {b : Bool} {tg x : Expr} {m : E}, Good Γ C k CV X W → cI Γ n b (isTup tg) x = some m → if b = true then PIc X W CV tg x (dI C b m) else PIf X W CV tg x (dI C b m)
section
variable {Γ : Gm} {C : Call} {k n : Nat} {CV : Str → Value} {X : Cx} {W : WX}
theorem star2 {e : Expr} {es : List Expr} (h : stars (e :: es) = true) : noStar e = true ∧ es.all noStar = true := by
  unfold stars at h
  rw [List.all_cons] at h
  exact and_ok h
theorem snd_zero : Snd C k CV 0 := ⟨fun _ h => by simp only [cE, reduceCtorEq] at h, fun _ h => by simp only [cH, reduceCtorEq] at h, fun _ h => by simp only [cT, reduceCtorEq] at h, fun _ h => by simp only [cT, reduceCtorEq] at h, fun _ h _ => by simp only [cVs, reduceCtorEq] at h,
  fun _ h _ => by simp only [cHs, reduceCtorEq] at h, fun _ h => by simp only [cKV, reduceCtorEq] at h, fun _ h => by simp only [cO, reduceCtorEq] at h, fun _ h => by simp only [cC, reduceCtorEq] at h, fun _ h => by simp only [cI, reduceCtorEq] at h⟩
theorem snd_h (S : Snd C k CV n) {x : Expr} {m : E} (g : Good Γ C k CV X W) (h : cH Γ (n + 1) x = some m) : PEh X W CV x (dH C m) := by
  rw [cH.eq_def] at h
  dsimp only at h
  split at h
  · rename_i i hi
    cases h
    cases x <;> simp only [reduceCtorEq] at hi
    exact pk_ok (g.var hi)
  · obtain ⟨m, hm, rfl⟩ := Option.map_eq_some_iff.mp h
    exact dvH_ok (S.e g hm)
theorem snd_vs (S : Snd C k CV n) {es : List Expr} {ms : List E} (g : Good Γ C k CV X W) (h : cVs Γ (n + 1) es = some ms) (st : stars es = true) : PAv X W CV es (dVs C ms) := by
  cases es with
  | nil =>
    simp only [cVs, Option.some.injEq] at h
    subst h
    exact av_nil
  | cons e r =>
    simp only [cVs, Option.bind_eq_some_iff, Option.map_eq_some_iff] at h
    obtain ⟨a, ha, b, hb, rfl⟩ := h
    obtain ⟨s1, s2⟩ := star2 st
    exact av_cons (toV_ok (S.e g ha)) (S.vs g hb s2) s1
theorem snd_hs (S : Snd C k CV n) {es : List Expr} {ms : List E} (g : Good Γ C k CV X W) (h : cHs Γ (n + 1) es = some ms) (st : stars es = true) : PAh X W CV es (dHs C ms) := by
  cases es with
  | nil =>
    simp only [cHs, Option.some.injEq] at h
    subst h
    exact ah_nil
  | cons e r =>
    simp only [cHs, Option.bind_eq_some_iff, Option.map_eq_some_iff] at h
    obtain ⟨a, ha, b, hb, rfl⟩ := h
    obtain ⟨s1, s2⟩ := star2 st
    exact ah_cons (S.h g ha) (S.hs g hb s2) s1
theorem snd_kv (S : Snd C k CV n) {ks : List (Option Expr)} {vs : List Expr} {ms : List E} {pos : Pos} (g : Good Γ C k CV X W) (h : cKV Γ (n + 1) ks vs = some ms) : PPs X pos ks vs (trs X.K W CV (dKVs C ms)) ∧ (dKVs C ms).length = ks.length := by
  match ks, vs, h with
  | [], [], h =>
    simp only [cKV, Option.some.injEq] at h
    subst h
    exact ⟨pps_nil, rfl⟩
  | some a :: ks, b :: vs, h =>
    simp only [cKV, Option.bind_eq_some_iff, Option.map_eq_some_iff] at h
    obtain ⟨a', ha, b', hb, r, hr, rfl⟩ := h
    obtain ⟨h1, h2⟩ := S.kv (pos := pos) g hr
    exact ⟨pps_cons (toD_ok (S.e g ha)) (toV_ok (S.e g hb)) h1, by rw [List.length_cons, ← h2]; rfl⟩
  | none :: _, _, h => simp only [cKV, reduceCtorEq] at h
  | [], _ :: _, h => simp only [cKV, reduceCtorEq] at h
  | some _ :: _, [], h => simp only [cKV, reduceCtorEq] at h
theorem snd_o (S : Snd C k CV n) {es : Option Expr} {ms : Option E} (g : Good Γ C k CV X W) (h : cO Γ (n + 1) es = some ms) : POt X W CV es (optI (dO C ms)) := by
  cases es with
  | none =>
    simp only [cO, Option.some.injEq] at h
    subst h
    exact po_no
  | some e =>
    simp only [cO, Option.map_eq_some_iff] at h
    obtain ⟨a, ha, rfl⟩ := h
    exact po_so (S.h g ha)
theorem snd_c (S : Snd C k CV n) {es : List Expr} {ms : Option E} (g : Good Γ C k CV X W) (h : cC Γ (n + 1) es = some ms) : PTs X es (rd X.K W CV RBool (dC C ms)) := by
  match es, h with
  | [], h =>
    simp only [cC, Option.some.injEq] at h
    subst h
    exact pts_no
  | [c], h =>
    simp only [cC, Option.map_eq_some_iff] at h
    obtain ⟨a, ha, rfl⟩ := h
    exact pts_one (S.t g ha)
  | _ :: _ :: _, h => simp only [cC, reduceCtorEq] at h
theorem snd_i (S : Snd C k CV n) {b : Bool} {tg x : Expr} {m : E} (g : Good Γ C k CV X W) (h : cI Γ (n + 1) b (isTup tg) x = some m) : if b = true then PIc X W CV tg x (dI C b m) else PIf X W CV tg x (dI C b m) := by
  have both : ∀ {y : M (List D)}, PIf X W CV tg x y → if b = true then PIc X W CV tg x y else PIf X W CV tg x y := fun {y} q => by
    cases b with
    | true => exact iteT q.c
    | false => exact iteF q
  have ev : ∀ {m : E}, (cE Γ n x).map .ev = some m → if b = true then PIc X W CV tg x (dI C b m) else PIf X W CV tg x (dI C b m) := fun {m} h => by
    obtain ⟨a, ha, rfl⟩ := Option.map_eq_some_iff.mp h
    exact both (itemsF_ok (toD_ok (S.e g ha)))
  rw [cI.eq_def] at h
  dsimp only at h
  split at h
  · rename_i y p a q
    rcases ite_some h with ⟨hb, h⟩ | ⟨_, h⟩
    · rcases ite_some h with ⟨hn, h⟩ | ⟨_, h⟩
      · obtain ⟨a', ha, rfl⟩ := Option.map_eq_some_iff.mp h
        obtain ⟨e1, e2⟩ := and_ok hb
        have e1 : y = "range" := of_decide_eq_true e1
        subst e1
        obtain ⟨h1, h2⟩ := g.blt e2
        exact both (rng1_ok (S.h g ha) h1 h2 hn)
      · cases h
    · rcases ite_some h with ⟨hb, h⟩ | ⟨_, h⟩
      · rcases ite_some h with ⟨hn, h⟩ | ⟨_, h⟩
        · obtain ⟨a', ha, rfl⟩ := Option.map_eq_some_iff.mp h
          obtain ⟨e1, e2⟩ := and_ok hb
          obtain ⟨n1, n2⟩ := and_ok hn
          have e1 : y = "enumerate" := of_decide_eq_true e1
          subst e1
          obtain ⟨h1, h2⟩ := g.blt e2
          cases tg <;> simp only [isTup, Bool.false_eq_true] at n2
          exact both (enum_ok (toD_ok (S.e g ha)) h1 h2 n1)
        · cases h
      · exact ev h
  · rename_i y p a c q
    rcases ite_some h with ⟨hb, h⟩ | ⟨_, h⟩
    · rcases ite_some h with ⟨hn, h⟩ | ⟨_, h⟩
      · simp only [Option.bind_eq_some_iff, Option.map_eq_some_iff] at h
        obtain ⟨a', ha, c', hc, rfl⟩ := h
        obtain ⟨e1, e2⟩ := and_ok hb
        obtain ⟨n1, n2⟩ := and_ok hn
        obtain ⟨n0, n1⟩ := and_ok n1
        have e1 : y = "zip" := of_decide_eq_true e1
        subst e1
        obtain ⟨h1, h2⟩ := g.blt e2
        cases tg <;> simp only [isTup, Bool.false_eq_true] at n2
        exact both (zip_ok (toD_ok (S.e g ha)) (toD_ok (S.e g hc)) h1 h2 n0 n1)
      · cases h
    · exact ev h
  · rename_i y p a c d q
    rcases ite_some h with ⟨hb, h⟩ | ⟨_, h⟩
    · rcases ite_some h with ⟨hn, h⟩ | ⟨_, h⟩
      · obtain ⟨ms, hm, rfl⟩ := Option.map_eq_some_iff.mp h
        obtain ⟨e1, e2⟩ := and_ok hb
        have e1 : y = "range" := of_decide_eq_true e1
        subst e1
        obtain ⟨h1, h2⟩ := g.blt e2
        exact both (rng3_ok (S.hs g hm hn) h1 h2 (star2 hn).1 hn)
      · cases h
    · exact ev h
  · rename_i y p
    rcases ite_some h with ⟨hb, h⟩ | ⟨_, h⟩
    · obtain ⟨a', ha, rfl⟩ := Option.map_eq_some_iff.mp h
      subst hb
      exact iteT (itemsC_ok (S.h g ha))
    · exact ev h
  · exact ev h
theorem snd_t (S : Snd C k CV n) {x : Expr} {m : E} (g : Good Γ C k CV X W) (h : cT Γ (n + 1) x = some m) : PTt X W CV x (dT C m) ∧ ∀ op es p, x = .BoolOp op es p → PWt X W CV x (dT C m) := by
  have no : ∀ {P : Prop}, (∀ op es p, x ≠ .BoolOp op es p) → ∀ op es p, x = .BoolOp op es p → P := fun q op es p e => absurd e (q op es p)
  rw [cT.eq_def] at h
  dsimp only at h
  split at h
  · obtain ⟨a', ha, rfl⟩ := Option.map_eq_some_iff.mp h
    exact ⟨notT_ok (S.t g ha), fun _ _ _ z => nomatch z⟩
  · rename_i op a p
    have q : PWt X W CV (.BoolOp op [a] p) (dT C m) := by
      cases op with
      | And => exact pw_and1 (S.t g h)
      | Or => exact pw_or1 (S.t g h)
    exact ⟨q.pt, fun _ _ _ _ => q⟩
  · simp only [Option.bind_eq_some_iff, Option.map_eq_some_iff] at h
    obtain ⟨a', ha, b', hb, rfl⟩ := h
    have q := andT_ok (S.t g ha) (S.w g hb)
    exact ⟨q.pt, fun _ _ _ _ => q⟩
  · simp only [Option.bind_eq_some_iff, Option.map_eq_some_iff] at h
    obtain ⟨a', ha, b', hb, rfl⟩ := h
    have q := orT_ok (S.t g ha) (S.w g hb)
    exact ⟨q.pt, fun _ _ _ _ => q⟩
  · rcases ite_some h with ⟨_, h⟩ | ⟨hs, h⟩
    · cases h
    · simp only [Option.bind_eq_some_iff, Option.map_eq_some_iff] at h
      obtain ⟨o, ho, a', ha, b', hb, rfl⟩ := h
      cases cop_op ho
      exact ⟨cmpT_ok g.hu o (S.h g ha) (S.h g hb) (mark1 (not_t hs)), fun _ _ _ z => nomatch z⟩
  · rcases ite_some h with ⟨_, h⟩ | ⟨hs, h⟩
    · cases h
    · simp only [Option.bind_eq_some_iff, Option.map_eq_some_iff] at h
      obtain ⟨o, ho, o', ho', a', ha, b', hb, c', hc, rfl⟩ := h
      cases cop_op ho
      cases cop_op ho'
      exact ⟨chainT_ok g.hu o o' (S.h g ha) (S.h g hb) (S.h g hc) (mark2 (not_t hs)), fun _ _ _ z => nomatch z⟩
  · rcases ite_some h with ⟨hp, h⟩ | ⟨_, h⟩
    · obtain ⟨a', ha, rfl⟩ := Option.map_eq_some_iff.mp h
      refine ⟨test_ok (S.h g ha) (test_eq hp), fun op es p e => ?_⟩
      subst e
      simp [plainT] at hp
    · cases h
end
end Nw

set_option autoImplicit false
set_option maxRecDepth 100000
set_option maxHeartbeats 4000000
/-! Nw, part Z: soundness of values, of all expressions. -/
namespace Nw
open PySem PySem.Spec PyProof.Rows L2 RZ
theorem fzW_ok {X : Cx} {W : WX} {CV : Str → Value} {e : Expr} {C : Call} {a : E} (h : PEn X W CV e (dE C a)) : ∀ l : List Nat, PEn X W CV e (dE C (fzW l a))
  | [] => h
  | _ :: r => fz_ok (fzW_ok h r)

section
variable {Γ : Gm} {C : Call} {k n : Nat} {CV : Str → Value} {X : Cx} {W : WX}
theorem one_ok {op : BoolOp} {a : Expr} {p : Pos} {m : M RV} (h : PEn X W CV a m) : PEn X W CV (.BoolOp op [a] p) m := ⟨fun pins s σ H Q I q => BoolOp_one (h.run pins s σ H Q I q)⟩
theorem snd_as (S : Snd C k CV n) (g : Good Γ C k CV X W) {rf : Nat → Bool} : ∀ {es : List Expr} {i : Nat} {ms : List E}, cAs (cE Γ n) rf i es = some ms → stars es = true → PAv X W CV es (dVs C ms)
  | [], i, ms, h, _ => by
    cases h
    exact av_nil
  | e :: r, i, ms, h, st => by
    simp only [cAs, Option.bind_eq_some_iff, Option.map_eq_some_iff] at h
    obtain ⟨a, ha, b, hb, rfl⟩ := h
    obtain ⟨s1, s2⟩ := star2 st
    have key : PEn X W CV e (dE C (if rf i && notName e then .rf a else a)) := by
      split
      · exact rf_ok (S.e g ha)
      · exact S.e g ha
    exact av_cons (toV_ok key) (snd_as S g hb s2) s1
theorem fn_call (S : Snd C k CV n) (g : Good Γ C k CV X W) {x : Str} {es : List Expr} {p pos : Pos} {ms : List E} (hgl : Γ.gl x = true) (hd : noDbg x = true) (hk : Γ.gk x = .fn) {rf : Nat → Bool} (hv : cAs (cE Γ n) rf 0 es = some ms) (st : stars es = true) :
    PEn X W CV (.Call (.Name x p) es [] pos) (callF C x (dVs C ms)) := by
  have q := g.gl x
  rw [hk] at q
  obtain ⟨f, fd, ps, hm, kp, bnd, G, hn⟩ := q
  cases es with
  | nil =>
    cases hv
    exact call0_ok g.tk G hn g.gd g.room (g.Gl hgl) hm kp bnd (noDbg_ok hd).1
  | cons e r =>
    obtain ⟨s1, s2⟩ := star2 st
    exact call_ok g.tk G hn g.gd g.room (g.Gl hgl) hm kp bnd (noDbg_ok hd).1 (snd_as S g hv st) s1 s2
theorem met_all (S : Snd C k CV n) (g : Good Γ C k CV X W) {o : Expr} {es : List Expr} {apos cpos : Pos} {mh : M Hd} {ms : List E} {mt : MT} (hok : mtOk mt = true) (ho : PEh X W CV o mh) (hm : cHs Γ n es = some ms) (st : stars es = true) (hp : plainRecv o = true)
    (hline : (apos.endLine == cpos.line) = true) (hlen : es.length < 30) : PEn X W CV (.Call (.Attribute o (Str.ofString (mtStr mt)) apos) es [] cpos) (metM mt mh (dHs C ms)) := by
  cases es with
  | nil =>
    have hv' : ms = [] := by
      cases n with
      | zero => simp only [cHs, reduceCtorEq] at hm
      | succ n => simpa only [cHs, Option.some.injEq, eq_comm] using hm
    subst hv'
    exact met0_ok hok ho hp hline
  | cons e r =>
    obtain ⟨s1, s2⟩ := star2 st
    exact met_ok hok ho (S.hs g hm st) hp hline hlen s1 s2
theorem isiA_ok {es : List Expr} {a : Expr} {ts : List String} (h : isiA Γ es = some (a, ts)) : (∃ y q t, es = [a, .Name y q] ∧ ts = [t] ∧ Γ.blt y = true ∧ tyName y = some t) ∨ (∃ us kk q, es = [a, .Tuple us kk q] ∧ us.length < 30 ∧ tyNsC Γ us = some ts) := by
  unfold isiA at h
  split at h
  · rename_i a' y q
    rcases ite_some h with ⟨hy, h⟩ | ⟨_, h⟩
    · obtain ⟨t, ht, e⟩ := Option.map_eq_some_iff.mp h
      cases e
      exact .inl ⟨y, q, t, rfl, rfl, hy, ht⟩
    · cases h
  · rename_i a' us kk q
    rcases ite_some h with ⟨hy, h⟩ | ⟨_, h⟩
    · obtain ⟨t, ht, e⟩ := Option.map_eq_some_iff.mp h
      cases e
      exact .inr ⟨us, kk, q, rfl, hy, ht⟩
    · cases h
  · cases h
theorem setArg_ok {es : List Expr} {a : Expr} (h : setArg es = some a) : ∃ p q, es = [.Call (.Name "set" p) [a] [] q] ∧ noStar a = true := by
  unfold setArg at h
  split at h
  · rename_i y p e q
    rcases ite_some h with ⟨hy, h⟩ | ⟨_, h⟩
    · obtain ⟨h1, h2⟩ := and_ok hy
      have h1 : y = "set" := of_decide_eq_true h1
      cases h
      subst h1
      exact ⟨p, q, rfl, h2⟩
    · cases h
  · cases h
theorem okSl_self (a : List Slot) : okSl a a = true := by
  unfold okSl
  induction a with
  | nil => rfl
  | cons s r ih =>
    rw [List.zip_cons_cons, List.all_cons, ih]
    cases s <;> rfl
theorem dnew2_ok {pos : Pos} : PEn X W CV (.Dict [] [] pos) (dE C (.dic [])) := by
  have e : dE C (.dic []) = pure (.new (.dic [])) := by
    funext fr
    show (if okSl fr.sl fr.sl then (.ok (.new (.dic [])) fr : Res RV) else .stuck) = _
    rw [okSl_self]
    rfl
  rw [e]
  exact dnew_ok
theorem snd_fs (S : Snd C k CV n) (g : Good Γ C k CV X W) : ∀ {es : List Expr} {ms : List E}, cFs (cE Γ n) es = some ms → FPs X W CV es (dMs C ms) := by
  intro es
  induction es with
  | nil =>
    intro ms h
    simp only [cFs, Option.some.injEq] at h
    subst h
    exact .nil
  | cons e r ih =>
    intro ms h
    unfold cFs at h
    split at h
    · rename_i q
      cases q
    · rename_i s j p r' q
      cases q
      obtain ⟨ms', hm, rfl⟩ := Option.map_eq_some_iff.mp h
      exact .cst (ih hm)
    · rename_i e' p r' q
      cases q
      obtain ⟨m, he, h⟩ := Option.bind_eq_some_iff.mp h
      obtain ⟨ms', hm, rfl⟩ := Option.map_eq_some_iff.mp h
      exact .fmt (toV_ok (S.e g he)) (ih hm)
    · cases h
theorem snd_e (S : Snd C k CV n) {x : Expr} {m : E} (g : Good Γ C k CV X W) (h : cE Γ (n + 1) x = some m) : PEn X W CV x (dE C m) := by
  rw [cE.eq_def] at h
  dsimp only at h
  split at h
  · -- name
    rename_i x p
    split at h
    · rename_i i hi
      cases h
      exact var_ok (g.var hi)
    · rcases ite_some h with ⟨hc, h⟩ | ⟨_, h⟩
      · obtain ⟨h1, h2⟩ := and_ok hc
        split at h
        · rename_i d hk
          cases h
          have q := g.gl x
          rw [hk] at q
          obtain ⟨v, u, hm, r, rp⟩ := q
          exact glb_ok (g.Gl h1) hm r rp (noDbg_ok h2).1
        · cases h
      · cases h
  · obtain ⟨d, hd, rfl⟩ := Option.map_eq_some_iff.mp h
    exact cst_ok hd
  · obtain ⟨d, hd, rfl⟩ := Option.map_eq_some_iff.mp h
    exact neg_ok (S.h g hd)
  · obtain ⟨d, hd, rfl⟩ := Option.map_eq_some_iff.mp h
    exact notV_ok (S.h g hd)
  · simp only [Option.bind_eq_some_iff, Option.map_eq_some_iff] at h
    obtain ⟨o, ho, a', ha, b', hb, rfl⟩ := h
    cases bin_op ho
    exact bin_ok o (S.h g ha) (S.h g hb)
  · rcases ite_some h with ⟨_, h⟩ | ⟨hs, h⟩
    · cases h
    · simp only [Option.bind_eq_some_iff, Option.map_eq_some_iff] at h
      obtain ⟨o, ho, a', ha, b', hb, rfl⟩ := h
      cases cop_op ho
      exact cmp_ok g.hu o (S.h g ha) (S.h g hb) (mark1 (not_t hs))
  · rcases ite_some h with ⟨_, h⟩ | ⟨hs, h⟩
    · cases h
    · simp only [Option.bind_eq_some_iff, Option.map_eq_some_iff] at h
      obtain ⟨o, ho, o', ho', a', ha, b', hb, c', hc, rfl⟩ := h
      cases cop_op ho
      cases cop_op ho'
      exact chain_ok g.hu o o' (S.h g ha) (S.h g hb) (S.h g hc) (mark2 (not_t hs))
  · exact one_ok (S.e g h)
  · simp only [Option.bind_eq_some_iff, Option.map_eq_some_iff] at h
    obtain ⟨a', ha, b', hb, rfl⟩ := h
    exact andV_ok (toV_ok (S.e g ha)) (S.e g hb)
  · simp only [Option.bind_eq_some_iff, Option.map_eq_some_iff] at h
    obtain ⟨a', ha, b', hb, rfl⟩ := h
    exact orV_ok (toV_ok (S.e g ha)) (S.e g hb)
  · simp only [Option.bind_eq_some_iff, Option.map_eq_some_iff] at h
    obtain ⟨c', hc, a', ha, b', hb, rfl⟩ := h
    exact ife_ok (S.t g hc) (S.e g ha) (S.e g hb)
  · rcases ite_some h with ⟨hs, h⟩ | ⟨_, h⟩
    · obtain ⟨ms, hm, rfl⟩ := Option.map_eq_some_iff.mp h
      exact tup_ok (S.vs g hm hs)
    · cases h
  · rcases ite_some h with ⟨hs, h⟩ | ⟨_, h⟩
    · obtain ⟨ms, hm, rfl⟩ := Option.map_eq_some_iff.mp h
      exact lst_ok (S.vs g hm hs)
    · cases h
  · cases h
    exact dnew2_ok
  · replace h := ite_some h
    rcases h with ⟨hc, h⟩ | ⟨_, h⟩
    · obtain ⟨ms, hm, rfl⟩ := Option.map_eq_some_iff.mp h
      simp only [Bool.and_eq_true, decide_eq_true_eq, Bool.not_eq_true', List.isEmpty_eq_false_iff] at hc
      obtain ⟨⟨⟨h1, h2⟩, h3⟩, h4⟩ := hc
      obtain ⟨q1, q2⟩ := S.kv g hm
      exact disp_ok q1 h1 h2 h4 h3 (by rw [q2]; exact h3)
    · cases h
  · obtain ⟨d, hd, rfl⟩ := Option.map_eq_some_iff.mp h
    exact rev_ok (S.h g hd)
  · replace h := ite_some h
    rcases h with ⟨hk, h⟩ | ⟨_, h⟩
    · obtain ⟨a', ha, rfl⟩ := Option.map_eq_some_iff.mp h
      obtain ⟨k1, k2⟩ := and_ok hk
      exact stp_ok (of_decide_eq_true k1) (S.h g ha)
    · cases h
  · simp only [Option.bind_eq_some_iff, Option.map_eq_some_iff] at h
    obtain ⟨a', ha, l', hl, h', hh, rfl⟩ := h
    exact sli_ok (S.h g ha) (S.o g hl) (S.o g hh)
  · rcases ite_some h with ⟨_, h⟩ | ⟨hs, h⟩
    · cases h
    · simp only [Option.bind_eq_some_iff, Option.map_eq_some_iff] at h
      obtain ⟨a', ha, b', hb, rfl⟩ := h
      exact sub_ok g.hu (S.h g ha) (S.h g hb) (slice_ok (not_t hs))
  · -- comprehension
    rename_i elt tg iter ifs scope p
    obtain ⟨t, ht, h⟩ := Option.bind_eq_some_iff.mp h
    rcases ite_some h with ⟨_, h⟩ | ⟨hs, h⟩
    · cases h
    · simp only [Option.bind_eq_some_iff, Option.map_eq_some_iff] at h
      obtain ⟨src, hsrc, c, hc, e, he, rfl⟩ := h
      have hs2 : isSet iter = false ∧ blkC Γ.N Γ.sc scope (ownOf Γ t) = true := by simpa using hs
      have hi := S.i (b := true) (tg := tg) g hsrc
      rw [if_pos rfl] at hi
      refine fzW_ok ?_ _
      refine comp_ok g.calm (by rw [g.hN]; exact g.nd) hi (blkOk_by (own := ownOf Γ t) (by rw [g.hN, g.sc]; exact hs2.2)) own_ok (fun s H D cl fp => ?_) (fun s H D cl fp => ?_) (fun s H D cl fp => ?_) (set_ok hs2.1)
      · exact (g.inBlk s H D cl fp).pg ht
      · exact S.c (g.inBlk s H D cl fp) hc
      · exact toV_ok (S.e (g.inBlk s H D cl fp) he)
  · -- f(..)
    rename_i x p es pos
    replace h := ite_some h
    rcases h with ⟨_, h⟩ | ⟨hst, h⟩
    · cases h
    have hst : stars es = true := by simpa using hst
    replace h := ite_some h
    rcases h with ⟨hb, h⟩ | ⟨_, h⟩
    · obtain ⟨e1, e2⟩ := and_ok hb
      have e1 : x = "isinstance" := of_decide_eq_true e1
      subst e1
      obtain ⟨h1, h2⟩ := g.blt e2
      simp only [Option.bind_eq_some_iff, Option.map_eq_some_iff] at h
      obtain ⟨⟨a, ts⟩, hi, a', ha, rfl⟩ := h
      rcases isiA_ok hi with ⟨y, q, t, rfl, rfl, hy, ht⟩ | ⟨us, kk, q, rfl, hl, ht⟩
      · obtain ⟨h3, h4⟩ := g.blt hy
        exact isi_ok (S.h g ha) ht h1 h2 h3 h4 (star2 hst).1
      · obtain ⟨h3, h4⟩ := tyNs_ok g ht
        exact isiT_ok (S.h g ha) h3 h1 h2 (star2 hst).1 (by rw [h4]; exact hl)
    split at h
    · rename_i a hsa
      obtain ⟨ms, hm, rfl⟩ := Option.map_eq_some_iff.mp h
      rcases ite_some hsa with ⟨hc, hs2⟩ | ⟨_, hs2⟩
      · obtain ⟨e1, e2⟩ := and_ok hc
        obtain ⟨e2, e3⟩ := and_ok e2
        have e1 : x = "len" := of_decide_eq_true e1
        subst e1
        obtain ⟨h1, h2⟩ := g.blt e2
        obtain ⟨h3, h4⟩ := g.blt e3
        obtain ⟨p2, q2, rfl, hn⟩ := setArg_ok hs2
        exact b_setlen g.calm h1 h2 h3 h4 (S.hs g hm (by simp [stars, hn])) hn
      · cases hs2
    · split at h
      · rename_i f hf
        replace h := ite_some h
        rcases h with ⟨hb, h⟩ | ⟨_, h⟩
        · split at h
          · cases h
          · obtain ⟨ms, hm, rfl⟩ := Option.map_eq_some_iff.mp h
            obtain ⟨s1, s2⟩ := star2 hst
            exact bi_ok g hf hb (S.hs g hm hst) s1 s2
        · cases h
      · replace h := ite_some h
        rcases h with ⟨hc, h⟩ | ⟨_, h⟩
        · obtain ⟨h1, h2⟩ := and_ok hc
          split at h
          · rename_i hk
            obtain ⟨ms, hm, rfl⟩ := Option.map_eq_some_iff.mp h
            exact fn_call S g h1 h2 hk hm hst
          · cases h
        · cases h
  · -- sorted(xs, key=f)
    rename_i x p a kw f np kp pos
    replace h := ite_some h
    rcases h with ⟨hc, h⟩ | ⟨_, h⟩
    · obtain ⟨hc, h6⟩ := and_ok hc
      obtain ⟨hc, h5⟩ := and_ok hc
      obtain ⟨hc, h4⟩ := and_ok hc
      obtain ⟨hc, h3⟩ := and_ok hc
      obtain ⟨h1, h2⟩ := and_ok hc
      have h1 : x = "sorted" := of_decide_eq_true h1
      have h3 : kw = "key" := of_decide_eq_true h3
      subst h1 h3
      split at h
      · rename_i hk
        obtain ⟨ms, hm, h⟩ := Option.bind_eq_some_iff.mp h
        split at h
        · rename_i m
          cases h
          have q := g.gl f
          rw [hk] at q
          obtain ⟨fa, fd, ps, hmg, kp2, bnd, G, hn⟩ := q
          obtain ⟨b1, b2⟩ := g.blt h2
          exact srt_ok G hn g.gd g.room2 bnd b1 b2 (g.Gl h5) hmg (noDbg_ok h6).1 (S.hs g hm (by simp [stars, h4])) h4
        · cases h
      · cases h
    · cases h
  · -- sorted(xs, key=lambda ..)
    rename_i x p a kw params body scope lp kp pos
    replace h := ite_some h
    rcases h with ⟨hc, h⟩ | ⟨_, h⟩
    · obtain ⟨hc, h5⟩ := and_ok hc
      obtain ⟨hc, h4⟩ := and_ok hc
      obtain ⟨hc, h3⟩ := and_ok hc
      obtain ⟨h1, h2⟩ := and_ok hc
      have h1 : x = "sorted" := of_decide_eq_true h1
      have h3 : kw = "key" := of_decide_eq_true h3
      subst h1 h3
      split at h
      · rename_i px hpx
        replace h := ite_some h
        rcases h with ⟨hs, h⟩ | ⟨_, h⟩
        · obtain ⟨ms, hm, h⟩ := Option.bind_eq_some_iff.mp h
          split at h
          · rename_i m
            obtain ⟨e, he, rfl⟩ := Option.map_eq_some_iff.mp h
            obtain ⟨b1, b2⟩ := g.blt h2
            obtain ⟨L, r1, r2⟩ := g.lam h5
            exact srtL_ok (k := k) L hpx (C8.fnScope_by hs) g.room2 g.room2.depth (fun f c' s H => S.e (good_lam g (C8.fnScope_by hs) r1 r2 f c' s H) he) b1 b2 (S.hs g hm (by simp [stars, h4])) h4
          · cases h
        · cases h
      · cases h
    · cases h
  · -- o.m(..)
    rename_i o mm apos es cpos
    replace h := ite_some h
    rcases h with ⟨_, h⟩ | ⟨hst, h⟩
    · cases h
    have hst2 : stars es = true ∧ es.length < 30 ∧ (apos.endLine == cpos.line) = true := by
      simp only [Bool.not_eq_true', Bool.not_eq_false, Bool.and_eq_true, decide_eq_true_eq] at hst
      exact ⟨hst.1.1, hst.1.2, hst.2⟩
    obtain ⟨st, hlen, hline⟩ := hst2
    split at h
    · rename_i _ y q mu hmu
      simp only [Option.bind_eq_some_iff, Option.map_eq_some_iff] at h
      obtain ⟨i, hi, ms, hm, rfl⟩ := h
      obtain ⟨rfl, hok⟩ := mu_nm hmu
      cases es with
      | nil =>
        have hv' : ms = [] := by
          cases n with
          | zero => simp only [cVs, reduceCtorEq] at hm
          | succ n => simpa only [cVs, Option.some.injEq, eq_comm] using hm
        subst hv'
        exact mut0_ok hok (g.var hi) hline
      | cons e r =>
        obtain ⟨s1, s2⟩ := star2 st
        exact mut_ok hok (g.var hi) (S.vs g hm st) hline hlen s1 s2
    · split at h
      · rename_i y q e hmm _
        simp only [Option.bind_eq_some_iff, Option.map_eq_some_iff] at h
        obtain ⟨i, hi, ms, hm, rfl⟩ := h
        have e1 := of_decide_eq_true hmm
        subst e1
        exact ext_ok (g.var hi) (S.e g hm) hline (star2 st).1
      · replace h := ite_some h
        rcases h with ⟨hp, h⟩ | ⟨_, h⟩
        · simp only [Option.bind_eq_some_iff, Option.map_eq_some_iff] at h
          obtain ⟨mt, hmt, o', ho, ms, hm, rfl⟩ := h
          obtain ⟨rfl, hok⟩ := mt_nm hmt
          exact met_all S g hok (S.h g ho) hm st hp hline hlen
        · cases h
  · -- an f-string
    rename_i es pos
    replace h := ite_some h
    rcases h with ⟨hc, h⟩ | ⟨_, h⟩
    · obtain ⟨ms, hm, rfl⟩ := Option.map_eq_some_iff.mp h
      match es, hc with
      | e1 :: e2 :: r, _ => exact fstr_ok (snd_fs S g hm)
    · cases h
  · cases h
theorem snd : ∀ n, Snd C k CV n
  | 0 => snd_zero
  | n + 1 =>
    have S : Snd C k CV n := snd n
    ⟨fun g h => snd_e S g h, fun g h => snd_h S g h, fun g h => (snd_t S g h).1, fun g h => (snd_t S g h).2 _ _ _ rfl, fun g h st => snd_vs S g h st, fun g h st => snd_hs S g h st, fun g h => snd_kv S g h, fun g h => snd_o S g h, fun g h => snd_c S g h, fun g h => snd_i S g h⟩
end
end Nw

set_option autoImplicit false
set_option maxRecDepth 100000
set_option maxHeartbeats 4000000
/-! Nw, part A2: soundness of statements. -/
namespace Nw
open PySem PySem.Spec PyProof.Rows L2 RZ

section
variable {Γ : Gm} {C : Call} {k n : Nat} {CV : Str → Value} {X : Cx} {W : WX}
theorem comp_inv {elt : Expr} {gens : List Comprehension} {scope : Scope} {pos : Pos} {m : E} (h : cE Γ n (.ListComp elt gens scope pos) = some m) :
    ∃ j tg iter ifs t src c e, n = j + 1 ∧ gens = [⟨tg, iter, ifs, 0⟩] ∧ (Γ.blk scope).tg tg = some t ∧ isSet iter = false ∧ blkC Γ.N Γ.sc scope (ownOf Γ t) = true ∧ cI Γ j true (isTup tg) iter = some src ∧ cC (Γ.blk scope) j ifs = some c ∧ cE (Γ.blk scope) j elt = some e ∧ m = fzW (fzN Γ elt) (.comp t src c e) := by
  cases n with
  | zero => simp only [cE, reduceCtorEq] at h
  | succ j =>
    rw [cE.eq_def] at h
    dsimp only at h
    split at h
    all_goals first | (cases h; done) | (rename_i q; cases q; done) | skip
    rename_i el tg iter ifs sc ps q
    cases q
    obtain ⟨t, ht, h⟩ := Option.bind_eq_some_iff.mp h
    replace h := ite_some h
    rcases h with ⟨_, h⟩ | ⟨hs, h⟩
    · cases h
    · simp only [Option.bind_eq_some_iff, Option.map_eq_some_iff] at h
      obtain ⟨src, hsrc, c, hc, e, he, rfl⟩ := h
      have hs2 : isSet iter = false ∧ blkC Γ.N Γ.sc scope (ownOf Γ t) = true := by simpa using hs
      exact ⟨j, tg, iter, ifs, t, src, c, e, rfl, rfl, ht, hs2.1, hs2.2, hsrc, hc, he, rfl⟩
theorem tup_no {v : Expr} {ts : List Expr} {kk : Nat} {p : Pos} {env : Env} (h : isTup v = false) : swappedStores [.Tuple ts kk p] v env = pure none := by
  cases v <;> first | rfl | (simp [isTup] at h)
theorem sw_par {env : Env} {x y : Str} {px py pt pt2 : Pos} {a b : Expr} {kt k2 : Nat} (hk : env.scope.kind = .function) (hx : env.scope.names.lookup x = some .local) (hy : env.scope.names.lookup y = some .local) (hl : (py.line == px.line) = true) (hn : (x == y) = false) (na : noStar a = true) (nb : noStar b = true)
    (h1 : [a, b].all (foldedForSure 8) = false) (h2 : [a, b].all (constantsAlone 8) = false) : swappedStores [.Tuple [.Name x px, .Name y py] kt pt] (.Tuple [a, b] k2 pt2) env = pure (some [x, y]) := by
  have kx : env.kindOf x = some .local := hx
  have ky : env.kindOf y = some .local := hy
  have hb : env.blockKind = .function := by unfold Env.blockKind; rw [hk]; rfl
  have e1 : ([x, y].eraseDups).length = 2 := by
    have : y ≠ x := fun e => by subst e; simp at hn
    simp [List.eraseDups_cons, this]
  unfold swappedStores
  simp only [hb, kx, ky, Expr.pos, hl, h1, h2, e1, List.length_cons, List.length_nil, List.any_cons, List.any_nil, List.filterMap_cons, List.filterMap_nil, List.head?_cons, Option.map_some, Option.getD_some, beq_self_eq_true, Bool.and_true, if_true, bne_self_eq_false, Bool.or_false, Bool.false_eq_true, if_false]
  clear h1 h2
  cases a <;> first | (simp [noStar] at na; done) | (cases b <;> first | (simp [noStar] at nb; done) | rfl)
theorem sole_no {e t : Expr} {l : Nat} {env : Env} (h : isComp e = false) : swapsWithSole [t] e l env = pure false := by
  show swapsWith e (some t) l env = pure false
  exact sw_no h
theorem sub_no {v o i : Expr} {p : Pos} {env : Env} : swappedStores [.Subscript o i p] v env = pure none := by
  cases v <;> rfl
theorem asub_eq {o k : Expr} {p : Pos} {env : Env} (h : isSlice k = false) (v : Value) : assign (.Subscript o k p) env v = (do
      let ov ← holding [v] (eval o env)
      let iv ← holding [v, ov] (eval k env)
      standAt p
      holding [v, ov, iv] (setItem ov iv v)
      release [v, ov, iv] []) := by
  cases k <;> first | rfl | (simp [isSlice] at h)
theorem Good.nd' (g : Good Γ C k CV X W) : X.N.Nodup := by
  rw [g.hN]
  exact g.nd
theorem ps_fz0 {st : Stmt} {t : TS} (h : PS X st t) : PS X st (fun D σ H => t D σ H ∨ ∃ a u, H a = some u ∧ CanFz u ∧ ∀ ob, t D σ (upd H a (.frz ob u))) := ⟨fun pins s σ H D I hq => by
  rcases hq with hq | ⟨a, u, e, c, hq⟩
  · exact h.run pins s σ H D I hq
  · obtain ⟨ob, I2⟩ := inv_fz I e c
    exact h.run pins s σ _ D I2 (hq ob)⟩
/-- a name's list frozen ahead of a statement -/
theorem psfz_ok {st : Stmt} {i : Nat} {m : M Fl} (h : PSn X W CV st m) : PSn X W CV st (varM i >>= fun _ => m) := by
  refine PS.imp (ps_fz0 h) fun D σ H ⟨φ, fr, F, P⟩ => ?_
  rw [bind_eq] at P
  unfold varM at P
  cases hs : fr.sl[i]? with
  | none =>
    rw [hs] at P
    exact P.elim
  | some s =>
    rw [hs] at P
    have q := F.slot i s hs
    cases s with
    | un => exact P.elim
    | lok o => exact P.elim
    | val y => exact .inl ⟨φ, fr, F, P⟩
    | own o =>
      obtain ⟨a, e, n, ow⟩ := q
      dsimp only at P
      cases ed : o.toD with
      | none =>
        rw [show o.toDv = none by unfold OD.toDv; rw [ed]; rfl] at P
        exact P.elim
      | some d =>
        rw [show o.toDv = some (.py d) by unfold OD.toDv; rw [ed]; rfl] at P
        obtain ⟨u, hu, c, r⟩ := ow.frz ed
        refine .inr ⟨a, u, hu, c, fun ob => ?_⟩
        obtain ⟨F2, x2⟩ := F.frz (s := .un) (ob := ob) hs e ed hu c (r ob)
        exact ⟨φ, _, F2, PostS.later x2 P⟩
theorem psfzW_ok {st : Stmt} {i : Nat} {a : E} (h : PSn X W CV st (ownM i (dE C a))) : ∀ l : List Nat, PSn X W CV st (ownM i (dE C (fzW l a)))
  | [] => h
  | j :: r => by
    have e : ownM i (dE C (fzW (j :: r) a)) = (varM j >>= fun _ => ownM i (dE C (fzW r a))) := by
      show ownM i (varM j >>= fun _ => dE C (fzW r a)) = _
      unfold ownM
      rw [bind_assoc]
    rw [e]
    exact psfz_ok (psfzW_ok h r)
theorem comp_ok' (g : Good Γ C k CV X W) {elt : Expr} {gens : List Comprehension} {scope : Scope} {pos : Pos} {m : E} (h : cE Γ n (.ListComp elt gens scope pos) = some m) {i : Nat} {y : Str} {py spos : Pos} (hi : Γ.si y = some i)
    (hyl : Γ.sc.names.lookup y = some .local) (hsw : swapsWith (.ListComp elt gens scope pos) (some (.Name y py)) spos.line X.env = pure true) : PSn X W CV (.Assign [.Name y py] (.ListComp elt gens scope pos) spos) (ownM i (dE C m)) := by
  obtain ⟨j, tg, iter, ifs, t, src, c, e, rfl, rfl, ht, hs1, hs2, hsrc, hc, he, rfl⟩ := comp_inv h
  have S : Snd C k CV j := snd j
  have hi' := S.i (b := true) (tg := tg) g hsrc
  rw [if_pos rfl] at hi'
  refine psfzW_ok ?_ _
  refine psn_ownLc g.calm g.nd' (g.st hi).1 (by rw [g.sc]; exact hyl) hsw hi' (blkOk_by (own := ownOf Γ t) (by rw [g.hN, g.sc]; exact hs2)) own_ok (fun s H D cl fp => ?_) (fun s H D cl fp => ?_) (fun s H D cl fp => ?_) (set_ok hs1)
  · exact (g.inBlk s H D cl fp).pg ht
  · exact S.c (g.inBlk s H D cl fp) hc
  · exact toV_ok (S.e (g.inBlk s H D cl fp) he)
theorem asg_ok (g : Good Γ C k CV X W) (hk : Γ.sc.kind = .function) {x : Str} {px pos : Pos} {v : Expr} {m : S} (hs : swapOk Γ x px v = true) (h : Γ.asg n x v = some m) : PSn X W CV (.Assign [.Name x px] v pos) (dS C m) := by
  unfold Gm.asg at h
  simp only [Option.bind_eq_some_iff, Option.map_eq_some_iff] at h
  obtain ⟨i, hi, e, he, hm⟩ := h
  obtain ⟨h1, h2, h3⟩ := g.st hi
  by_cases hc : isComp v = true
  · cases v with
    | ListComp elt gens scope p =>
      rcases Bool.or_eq_true .. |>.mp hs with hs | hs
      · simp only [Bool.and_eq_true, Bool.not_eq_true', decide_eq_true_eq] at hs
        obtain ⟨⟨⟨s1, s2⟩, s3⟩, s4⟩ := hs
        rw [if_neg (by rw [s4]; exact Bool.false_ne_true)] at hm
        cases hm
        exact comp_ok' g he hi s1 (sw_true (by rw [g.sc]; exact hk) (by rw [g.sc]; exact s1) s2 s3)
      · have hs := of_decide_eq_true hs
        have q := (snd n).e g he
        split at hm
        · cases hm
          exact psn_ref g.nd' h1 h2 h3 q (sw_cell (by rw [g.sc]; exact hs))
        · cases hm
          exact psn_own g.nd' h1 h2 h3 q (sw_cell (by rw [g.sc]; exact hs))
    | SetComp _ _ _ _ => simp [swapOk, isComp] at hs
    | DictComp _ _ _ _ _ => simp [swapOk, isComp] at hs
    | _ => simp [isComp] at hc
  · have hc : isComp v = false := not_t hc
    have q : PEn X W CV v (dE C e) := (snd n).e g he
    split at hm
    · cases hm
      exact psn_ref g.nd' h1 h2 h3 q (sw_no hc)
    · cases hm
      exact psn_own g.nd' h1 h2 h3 q (sw_no hc)
theorem or_no {a b : Bool} (h : ¬ (a || b) = true) : a = false ∧ b = false := by simpa using h
/-- where statements stand -/
structure GoodS (Γ : Gm) (C : Call) (k : Nat) (CV : Str → Value) (X : Cx) (W : WX) : Prop where
  g : Good Γ C k CV X W
  kind : Γ.sc.kind = .function
  own : PassesOwn (model X.prog X.w) X.A X.env X.xe
structure SndS (C : Call) (k : Nat) (CV : Str → Value) (n : Nat) : Prop where
  s : ∀ {Γ : Gm} {X : Cx} {W : WX} {s : Stmt} {m : S}, GoodS Γ C k CV X W → cS Γ n s = some m → PSn X W CV s (dS C m)
  ss : ∀ {Γ : Gm} {X : Cx} {W : WX} {s : List Stmt} {m : List S}, GoodS Γ C k CV X W → cSs Γ n s = some m → PSsn X W CV s (dSs C m)
theorem doc_ok {x : Str} {j : Nat} {p p' : Pos} : PSn X W CV (.Expr (.Constant (.str x) j p) p') (pure .next) := PS.imp ps_doc fun D σ H ⟨φ, fr, F, P⟩ => P σ H φ (Ext.refl _ _ _) F
theorem snd_s (T : SndS C k CV n) {s : Stmt} {m : S} (G : GoodS Γ C k CV X W) (h : cS Γ (n + 1) s = some m) : PSn X W CV s (dS C m) := by
  have g := G.g
  have S : Snd C k CV n := snd n
  rw [cS.eq_def] at h
  dsimp only at h
  split at h
  · replace h := ite_some h
    rcases h with ⟨hs, h⟩ | ⟨_, h⟩
    · exact asg_ok g G.kind hs h
    · cases h
  · replace h := ite_some h
    rcases h with ⟨hp, h⟩ | ⟨_, h⟩
    · simp only [Option.bind_eq_some_iff, Option.map_eq_some_iff] at h
      obtain ⟨i, hi, j, hj, a', ha, b', hb, rfl⟩ := h
      unfold parOk at hp
      simp only [Bool.and_eq_true, decide_eq_true_eq, Bool.not_eq_true'] at hp
      obtain ⟨⟨⟨⟨⟨⟨⟨p1, p2⟩, p3⟩, p4⟩, p5⟩, p6⟩, p7⟩, p8⟩ := hp
      have hi1 := (g.ix hi).1
      have hj1 := (g.ix hj).1
      refine psn_par g.calm g.nd' hi1 hj1 (fun e => ?_) (by rw [g.sc]; exact p1) (by rw [g.sc]; exact p2) (toV_ok (S.e g ha)) (toV_ok (S.e g hb)) p5 p6 (sw_par (by rw [g.sc]; exact G.kind) (by rw [g.sc]; exact p1) (by rw [g.sc]; exact p2) p3 p4 p5 p6 p7 p8)
      subst e
      rw [hi1] at hj1
      cases hj1
      simp at p4
    · cases h
  · replace h := ite_some h
    rcases h with ⟨_, h⟩ | ⟨hs, h⟩
    · cases h
    · simp only [Option.bind_eq_some_iff, Option.map_eq_some_iff] at h
      obtain ⟨is, hi, e, he, rfl⟩ := h
      have hs2 := or_no hs
      obtain ⟨h1, h2, h3⟩ := g.pgs hi
      exact psn_unp (S.h g he) (pg_tup g.calm h1 h2 h3) (pg_lst g.calm h1 h2 h3) (sole_no hs2.2) (tup_no hs2.1) rfl
  · replace h := ite_some h
    rcases h with ⟨_, h⟩ | ⟨hs, h⟩
    · cases h
    · simp only [Option.bind_eq_some_iff, Option.map_eq_some_iff] at h
      obtain ⟨i, hi, k', hk, e, he, rfl⟩ := h
      have hs2 := or_no hs
      exact psn_seti g.hu (g.var hi) (S.h g hk) (toV_ok (S.e g he)) (sole_no hs2.2) sub_no (asub_eq hs2.1)
  · cases h
    exact doc_ok
  · replace h := ite_some h
    rcases h with ⟨_, h⟩ | ⟨hs, h⟩
    · cases h
    · obtain ⟨e, he, rfl⟩ := Option.map_eq_some_iff.mp h
      exact psn_expr (S.e g he) (sw_no (not_t hs))
  · cases h
    exact psn_retN
  · rename_i e p
    split at h
    · rename_i i hi
      cases h
      cases e <;> simp only [reduceCtorEq] at hi
      exact psn_retv (g.var hi)
    · obtain ⟨e, he, rfl⟩ := Option.map_eq_some_iff.mp h
      exact psn_ret (S.e g he)
  · simp only [Option.bind_eq_some_iff, Option.map_eq_some_iff] at h
    obtain ⟨c', hc, a', ha, b', hb, rfl⟩ := h
    exact psn_if (S.t g hc) (T.ss G ha) (T.ss G hb)
  · rename_i tg iter body p
    replace h := ite_some h
    rcases h with ⟨_, h⟩ | ⟨hs, h⟩
    · cases h
    · simp only [Option.bind_eq_some_iff, Option.map_eq_some_iff] at h
      obtain ⟨t, ht, src, hsrc, b', hb, rfl⟩ := h
      have hi := S.i (b := false) (tg := tg) g hsrc
      rw [if_neg Bool.false_ne_true] at hi
      exact psn_for G.own g.calm hi (g.pg ht) (T.ss G hb) (set_ok (not_t hs))
  · simp only [Option.bind_eq_some_iff, Option.map_eq_some_iff] at h
    obtain ⟨c', hc, b', hb, rfl⟩ := h
    exact psn_while G.own (S.t g hc) (T.ss G hb)
  · cases h
    exact psn_pass
  · cases h
    exact psn_break
  · cases h
    exact psn_cont
  · cases h
    exact ⟨fun pins s σ H D I ⟨φ, fr, F, P⟩ => P.elim⟩
  · cases h
theorem sndS : ∀ n, SndS C k CV n
  | 0 => ⟨fun _ h => by simp only [cS, reduceCtorEq] at h, fun _ h => by simp only [cSs, reduceCtorEq] at h⟩
  | n + 1 => by
    have T : SndS C k CV n := sndS n
    refine ⟨fun G h => snd_s T G h, fun {Γ X W s m} G h => ?_⟩
    cases s with
    | nil =>
      simp only [cSs, Option.some.injEq] at h
      subst h
      exact pssn_nil
    | cons a r =>
      simp only [cSs, Option.bind_eq_some_iff, Option.map_eq_some_iff] at h
      obtain ⟨a', ha, b', hb, rfl⟩ := h
      exact pssn_cons (T.s G ha) (T.ss G hb)
end
end Nw

set_option autoImplicit false
set_option maxRecDepth 100000
set_option maxHeartbeats 4000000
/-! Nw, part B2: all defs; the law. -/
namespace Nw
open PySem PySem.Spec PyProof.Rows L2 RZ

/-- a def of the text and what was compiled of it -/
structure DOk (K : PySem.W.Frag) (mg : Str → Option Value) (gk : Str → GK) (refs : List Str) (x : Str) (F : Fn) : Prop where
  ex : ∃ params body scope f fd kws N ps fuel, FunD K x x params body scope [] kws f fd ∧ mg x = some (.ref f) ∧ Binds K fd ps [] ∧ FnScope N ps scope ∧ ps.length ≤ N.length ∧ F.ps = ps.length ∧ F.ns = N.length ∧ cSs ⟨N, scope, fun _ => true, gk, refs, true⟩ fuel body = some F.body
section
variable {P : Program} {w : World} {K : PySem.W.Frag} {mg : Str → Option Value} {base : Heap} {gk : Str → GK} {refs : List Str} {T : Str → Option Fn} {CV : Str → Value}
/-- the globals -/
structure GkOk (K : PySem.W.Frag) (mg : Str → Option Value) (gk : Str → GK) (refs : List Str) (T : Str → Option Fn) : Prop where
  no : ∀ x, gk x = .no → mg x = none
  fn : ∀ x, gk x = .fn → ∃ F, T x = some F ∧ DOk K mg gk refs x F
  cst : ∀ x d, gk x = .cst d → ∃ v u, mg x = some u ∧ RelV v u ∧ ∀ H, Rep K H d v
theorem run_len {k : Nat} {x : Str} {F : Fn} (h : T x = some F) (xs : List Dv) (st : List OD) (hn : run T k x xs st ≠ .stuck) : xs.length = F.ps := by
  cases k with
  | zero => exact absurd rfl hn
  | succ k =>
    have e : run T (k + 1) x xs st = if xs.length = F.ps then (dSs (run T k) F.body (F.start xs st)).ends else .stuck := by
      show (match T x with
        | some F => if xs.length = F.ps then (dSs (run T k) F.body (F.start xs st)).ends else .stuck
        | none => .stuck) = _
      rw [h]
    by_cases hl : xs.length = F.ps
    · exact hl
    · rw [e, if_neg hl] at hn
      exact absurd rfl hn
theorem run_eq {k : Nat} {x : Str} {F : Fn} (h : T x = some F) {xs : List Dv} {st : List OD} (hl : xs.length = F.ps) : run T (k + 1) x xs st = (dSs (run T k) F.body (F.start xs st)).ends := by
  show (match T x with
    | some F => if xs.length = F.ps then (dSs (run T k) F.body (F.start xs st)).ends else .stuck
    | none => .stuck) = _
  rw [h]
  exact if_pos hl
def FnAll (P : Program) (w : World) (K : PySem.W.Frag) (mg : Str → Option Value) (base : Heap) (CV : Str → Value) (T : Str → Option Fn) (k : Nat) (x : Str) : Prop := ∃ f fd ps, mg x = some (.ref f) ∧ PySem.W.keepIn K (.ref f) = true ∧ Binds K fd ps [] ∧ FnG P w K mg base (L2.CX P w) k f fd ps (spC K CV ps.length (run T k x)) ∧ ∀ xs st, run T k x xs st ≠ .stuck → xs.length = ps.length
/-- the defs' code objects and their tables -/
def LamT (K : PySem.W.Frag) (mg : Str → Option Value) (base : Heap) : Prop := ∀ (x : Str) (c : Addr), PySem.W.codeIn K (.ref c) x = true → ∃ P, LamX.TabB base mg c P ∧ (P, (x ++ ".<locals>.") ++ "<lambda>") ∈ tabsK K ∧ ∀ p ∈ tabsK K, p.1 = P → p.2 = (x ++ ".<locals>.") ++ "<lambda>"
theorem fn_zero {x : Str} {f : Addr} {fd : FuncData} {ps : List Str} : FnG P w K mg base (L2.CX P w) 0 f fd ps (spC K CV ps.length (run T 0 x)) :=
  ⟨fun vs H Q E ⟨_, _, _, hl, _⟩ => hl, fun A out s H args us vs Q E _ _ _ _ _ want => let ⟨_, _, _, _, _, _, p⟩ := want; p.elim⟩
theorem fn_step {k : Nat} (LT : LamT K mg base) (G : GkOk K mg gk refs T) (IH : ∀ {x : Str} {F : Fn}, T x = some F → DOk K mg gk refs x F → FnAll P w K mg base CV T k x) {x : Str} {F : Fn} {params : Arguments} {body : List Stmt} {scope : Scope} {f : Addr} {fd : FuncData} {kws : List (Str × V)}
    {N ps : List Str} {fuel : Nat} (hT : T x = some F) (hf : FunD K x x params body scope [] kws f fd) (S : FnScope N ps scope) (hle : ps.length ≤ N.length) (hps : F.ps = ps.length) (hns : F.ns = N.length) (hc : cSs ⟨N, scope, fun _ => true, gk, refs, true⟩ fuel body = some F.body) :
    FnG P w K mg base (L2.CX P w) (k + 1) f fd ps (spC K CV ps.length (run T (k + 1) x)) := by
  refine fnG_of hf S (fun vs H Q E ⟨_, _, _, hl, _⟩ => hl) (fun cdv A out s H vs Q E hgd hroom hroom2 want hcd hr3 => ?_)
  obtain ⟨φ, st, xs, hl, hS, hr, hp⟩ := want
  have hne : run T (k + 1) x xs st ≠ .stuck := fun z => by
    rw [z] at hp
    exact hp
  have hxs := run_len hT xs st hne
  rw [run_eq hT hxs] at hp
  obtain ⟨F0, hO⟩ := start_fr (F := F) hS hr hns (by rw [hps]; exact hl) (by rw [hps]; exact hle)
  have g : Good ⟨N, scope, fun _ => true, gk, refs, true⟩ (run T k) k CV (cxOf (L2.CX P w) P w K mg base N x scope f cdv A out s H E) (fun c d _ H' => E c d H') := by
    refine ⟨rfl, S.nd, rfl, fun _ _ => rfl, rfl, ?_, hgd, hroom, hroom2, takes_of (E₁ := fun e' s'' => L2.CX P w out H s E e' s'') rfl rfl rfl rfl, fun y => ?_, fun _ => ⟨⟨?_⟩, fun env => (hr3 env).1, fun env => (hr3 env).2⟩⟩
    · have := hroom.un
      show (A.deeper (envOfC x scope s.heap.objs.size f cdv)).units + 65 < cLine
      omega
    · show GOk (run T k) k CV _ y (gk y)
      cases e : gk y with
      | no => exact G.no y e
      | fn =>
        obtain ⟨F', h1, h2⟩ := G.fn y e
        exact IH h1 h2
      | cst d => exact G.cst y d e
      | bad => trivial
    · cases cdv with
      | ref c =>
        obtain ⟨P', h1, h2, h3⟩ := LT x c hcd
        exact ⟨c, P', rfl, h1, h2, h3⟩
      | _ => cases hcd
  have q := (sndS (C := run T k) (k := k) (CV := CV) fuel).ss (Γ := ⟨N, scope, fun _ => true, gk, refs, true⟩) ⟨g, S.kind, passes_of (K := fun e s'' => L2.CX P w out H s E e s'') (E₁ := fun e' s'' => L2.CX P w out H s E e' s'') rfl⟩ hc
  refine PSs.imp q fun D σ H' ⟨e1, e2, e3⟩ => ?_
  subst e1 e2 e3
  exact ⟨φ, _, F0, body_post hO hp⟩
theorem fn_all (LT : LamT K mg base) (G : GkOk K mg gk refs T) : ∀ (k : Nat) {x : Str} {F : Fn}, T x = some F → DOk K mg gk refs x F → FnAll P w K mg base CV T k x
  | 0, x, F, hT, D => by
    obtain ⟨params, body, scope, f, fd, kws, N, ps, fuel, hf, hm, bnd, S, hle, hps, hns, hc⟩ := D.ex
    exact ⟨f, fd, ps, hm, hf.kp, bnd, fn_zero, fun xs st hn => by rw [← hps]; exact run_len hT xs st hn⟩
  | k + 1, x, F, hT, D => by
    obtain ⟨params, body, scope, f, fd, kws, N, ps, fuel, hf, hm, bnd, S, hle, hps, hns, hc⟩ := D.ex
    exact ⟨f, fd, ps, hm, hf.kp, bnd, fn_step LT G (fun h d => fn_all LT G k h d) hT hf S hle hps hns hc, fun xs st hn => by rw [← hps]; exact run_len hT xs st hn⟩
theorem fn_at (LT : LamT K mg base) (G : GkOk K mg gk refs T) {x : Str} {F : Fn} {params : Arguments} {body : List Stmt} {scope : Scope} {f : Addr} {fd : FuncData} {kws : List (Str × V)} {N ps : List Str} {fuel : Nat} (hT : T x = some F) (hf : FunD K x x params body scope [] kws f fd) (S : FnScope N ps scope)
    (hle : ps.length ≤ N.length) (hps : F.ps = ps.length) (hns : F.ns = N.length) (hc : cSs ⟨N, scope, fun _ => true, gk, refs, true⟩ fuel body = some F.body) : ∀ k, FnG P w K mg base (L2.CX P w) k f fd ps (spC K CV ps.length (run T k x))
  | 0 => fn_zero
  | k + 1 => fn_step LT G (fun h d => fn_all LT G k h d) hT hf S hle hps hns hc

/-! ### the law -/
/-- the empty table -/
abbrev tab0 : Obj := { cls := .none, data := .fields #[] }
/-- what may be tracked at the law's start -/
structure Fst (cs : List (Addr × Addr)) (H : Hp) : Prop where
  tab : ∀ p ∈ cs, H p.2 = some (.tbl #[])
  oth : ∀ b, b ∉ cs.map (·.2) → H b = none ∨ ∃ o xs, H b = some (.frz o (.lst xs))
/-- the law's end: as law_call, for FnG, with tables -/
theorem law_callG {mb : Str → Option Value} {CX : CXT} {k : Nat} {fa a : Addr} {fd : FuncData} {x : Str} {sp : Sp} {t : Shared} {vs : List Value} {ns : List Int} {cs : List (Addr × Addr)}
    (inK : K.In t.heap) (gns : t.heap.Ns mainGlobals mg) (bns : t.heap.Ns builtinsNs mb) (bok : ∀ x : Str, x ≠ "__name__" → mb x = bootBuiltins x) (nolim : t.heap.NoLimit) (nog : t.gens = #[])
    (tabs : ∀ p ∈ cs, t.heap.get? p.2 = some tab0) (tabK : ∀ p ∈ cs, K.lookup p.2 = none) (codes : ∀ p ∈ cs, PySem.W.CodeHd t.heap p.1 p.2)
    (bmain : ∃ (bm : Addr) (ob : Obj), mg "__builtins__" = some (.ref bm) ∧ bm ≠ builtinsNs ∧ t.heap.get? bm = some ob ∧ ob.cls = .type "module" ∧ ob.dict = some builtinsNs ∧ ob.data = .plain)
    (at_a : t.heap.get? a = some { cls := .type "list", data := .seq vs.toArray }) (intsA : IntsAre vs ns) (short : ns.length ≤ sizeLine) (room : Room k callerA)
    (G : ∀ base : Heap, K.In base → base.Ns mainGlobals mg → (∀ p ∈ cs, LamX.TabB base mg p.1 p.2) → FnG P w K mg base CX k fa fd [x] sp) (bnd : ∀ (s : Shared) (u : Value), BindsTo s fd ⟨[u], []⟩ [(x, u)])
    (want : ∀ H : Hp, Fst cs H → a ∉ cs.map (·.2) → SqL K H a (ns.map V.int) → sp [.ref a] H (fun v _ => v = .bl true) fun _ _ _ => False)
    (noexc : ∀ H e s', CX [] H t (fun _ _ _ => False) e s' → False) :
    codeAny (model P w) callerA (.call (.ref fa) ⟨[.ref a], []⟩) (fun r s' => r = .ok (.ret (.bool true)) ∧ OldK t.heap s'.heap ∧ s'.os = t.os ∧ AllBare s'.gens) t := by
  have vrel := vals_ints intsA
  have same := intsA.length
  have tabAt : ∀ b ∈ cs.map (·.2), t.heap.get? b = some tab0 := fun b hb => by
    obtain ⟨p, hp, rfl⟩ := List.mem_map.mp hb
    exact tabs p hp
  have inT : ∀ p ∈ cs, p.2 ∈ cs.map (·.2) := fun p hp => List.mem_map_of_mem hp
  have aT : a ∉ cs.map (·.2) := fun hb => by
    have q := tabAt a hb
    rw [at_a] at q
    have z : Data.seq vs.toArray _ = Data.fields #[] := congrArg Obj.data (Option.some.inj q)
    cases z
  have go : ∀ H : Hp, Fst cs H → SqL K H a (ns.map V.int) → HOk P w H t.heap → (∀ b, H b ≠ none → b = a ∨ b ∈ cs.map (·.2)) → (H a ≠ none → K.lookup a = none) →
      codeAny (model P w) callerA (.call (.ref fa) ⟨[.ref a], []⟩) (fun r s' => r = .ok (.ret (.bool true)) ∧ OldK t.heap s'.heap ∧ s'.os = t.os ∧ AllBare s'.gens) t := by
    intro H fst sq hok onlyA fresh
    have free_of : ∀ {b : Addr} {o : Obj}, t.heap.get? b = some o → (∀ us n, o.data ≠ .seq us n) → o.data ≠ .fields #[] → H b = none := by
      intro b o e d1 d2
      cases q : H b with
      | none => rfl
      | some u =>
        rcases onlyA b (by rw [q]; simp) with rfl | hb
        · rw [at_a] at e
          cases e
          exact absurd rfl (d1 _ _)
        · rw [tabAt b hb] at e
          cases e
          exact absurd rfl d2
    have keepNs : ∀ {b : Addr} {m : Str → Option Value}, t.heap.Ns b m → (hidT t.heap H).Ns b m := by
      intro b m ⟨o, es, ep, e, d, r⟩
      exact ⟨o, es, ep, hidT_get e (free_of e (fun us n z => by rw [d] at z; cases z) fun z => by rw [d] at z; cases z), d, r⟩
    have inB : K.In (hidT t.heap H) := by
      intro b o e
      refine hidT_get (inK b o e) ?_
      cases q : H b with
      | none => rfl
      | some u =>
        rcases onlyA b (by rw [q]; simp) with rfl | hb
        · rw [fresh (by rw [q]; simp)] at e
          cases e
        · obtain ⟨p, hp, rfl⟩ := List.mem_map.mp hb
          rw [tabK p hp] at e
          cases e
    have theMod : Mod K mg (hidT t.heap H) := by
      obtain ⟨mc, l1, l2⟩ := nolim
      exact ⟨inB, keepNs gns, ⟨mb, keepNs bns, bok⟩, ⟨mc, keepNs l1, l2⟩⟩
    have theTabs : ∀ p ∈ cs, LamX.TabB (hidT t.heap H) mg p.1 p.2 := by
      intro p hp
      have hT := tabs p hp
      obtain ⟨gd, es, ep, ge, gdd, _⟩ := gns
      have gP : mainGlobals ≠ p.2 := fun z => by
        rw [z, hT] at ge
        cases ge
        cases gdd
      refine ⟨?_, ?_, gP⟩
      · obtain ⟨o, us, file, tf, flags, tg, inF, text, tt, e1, r1, r2, r3, r⟩ := codes p hp
        refine ⟨o, us, file, tf, flags, tg, inF, text, tt, hidT_get e1 (free_of e1 (fun vs n z => by rw [r2] at z; cases z) fun z => ?_), r1, r2, r3, r⟩
        rw [r2] at z
        cases z
        simp at r3
      · obtain ⟨bm, ob, b1, b2, b3, b4, b5, b6⟩ := bmain
        refine ⟨bm, ob, b1, b2, fun z => ?_, fun z => ?_, hidT_get b3 (free_of b3 (fun vs n z => by rw [b6] at z; cases z) fun z => by rw [b6] at z; cases z), b4, b5, b6⟩
        · rw [z, ge] at b3
          cases b3
          rw [gdd] at b6
          cases b6
        · rw [z, hT] at b3
          cases b3
          cases b6
    have start0 : Env0 P w K mg (hidT t.heap H) callerA [] t H := ⟨rfl, theMod, fun b o e => of_hidT e, Nat.le_of_eq (hidT_size _ _), trivial, fun b hb => absurd (show b ∈ ([] : List Addr) from hb) (by simp), hok, .of_eq nog⟩
    refine codeAny_mono ((G _ inB (keepNs gns) theTabs).go callerA [] t H ⟨[.ref a], []⟩ [.ref a] [.ref a] _ _ rfl room start0 (bnd t (.ref a)) (.cons rfl .nil) (want H fst aT sq)) fun r s' q => ?_
    match r, q with
    | .error e, q => exact (noexc H e s' q).elim
    | .ok .next, q => exact False.elim q
    | .ok .brk, q => exact False.elim q
    | .ok .cont, q => exact False.elim q
    | .ok (.ret u), q =>
      obtain ⟨v, H2, os, bare, un, hok2, rel, isT⟩ := q
      cases (show v = .bl true from isT)
      cases (show u = Value.bool true from rel)
      have stay : ∀ b o, b ∉ cs.map (·.2) → t.heap.get? b = some o → s'.heap.get? b = some o := fun b o nb e => by
        rcases fst.oth b nb with z | ⟨ob, xs, z⟩
        · exact un.keep b o e z (by intro z; exact absurd (show b ∈ ([] : List Addr) from z) (by simp)) (by simp)
        · obtain ⟨e1, _⟩ := hok b _ z
          obtain ⟨e2, _⟩ := hok2 b _ (un.frzs b ob _ z)
          rw [e] at e1
          cases e1
          exact e2
      have grow : ∀ p ∈ cs, ∃ more : Array Value, s'.heap.get? p.2 = some { cls := .none, data := .fields more } := fun p hp => by
        obtain ⟨more, z⟩ := un.tbls p.2 #[] (fst.tab p hp)
        rw [Array.empty_append] at z
        exact ⟨more, hok2 p.2 _ z⟩
      refine ⟨rfl, ⟨fun b o e => ?_, fun b o e => ?_⟩, os, bare⟩
      · by_cases hb : b ∈ cs.map (·.2)
        · obtain ⟨p, hp, rfl⟩ := List.mem_map.mp hb
          obtain ⟨more, hm⟩ := grow p hp
          have hT := tabs p hp
          rw [e] at hT
          cases hT
          exact .inr (.inl ⟨((codes p hp).tab (tabs p hp)).isCodeTable, rfl, #[], more, rfl, by rw [Array.empty_append]; exact hm⟩)
        · exact .inl (stay b o hb e)
      · by_cases hb : b ∈ cs.map (·.2)
        · obtain ⟨p, hp, rfl⟩ := List.mem_map.mp hb
          obtain ⟨more, hm⟩ := grow p hp
          exact ⟨_, hm⟩
        · exact ⟨o, stay b o hb e⟩
  cases look : K.lookup a with
  | some o =>
    have e := inK a o look
    rw [at_a] at e
    cases e
    refine go (fun b => if b ∈ cs.map (·.2) then some (.tbl #[]) else none) ⟨fun p hp => if_pos (inT p hp), fun b hb => .inl (if_neg hb)⟩ (.inr ⟨_, vs.toArray, _, look, rfl, rfl, rfl, by rw [List.size_toArray, same]; exact short, by simpa using vrel⟩) (fun b u z => ?_) (fun b z => ?_) fun z => absurd (if_neg aT) z
    · by_cases hb : b ∈ cs.map (·.2)
      · cases (if_pos hb).symm.trans z
        exact tabAt b hb
      · cases (if_neg hb).symm.trans z
    · by_cases hb : b ∈ cs.map (·.2)
      · exact .inr hb
      · exact absurd (if_neg hb) z
  | none =>
    have ne : ∀ b ∈ cs.map (·.2), b ≠ a := fun b hb z => aT (z ▸ hb)
    refine go (fun b => if b = a then some (.frz { cls := .type "list", data := .seq vs.toArray } (.lst (ns.map V.int))) else if b ∈ cs.map (·.2) then some (.tbl #[]) else none)
      ⟨fun p hp => (if_neg (ne _ (inT p hp))).trans (if_pos (inT p hp)), fun b hb => ?_⟩ (.inl (.inr ⟨_, if_pos rfl⟩)) (fun b u z => ?_) (fun b z => ?_) fun _ => look
    · by_cases h : b = a
      · exact .inr ⟨_, _, if_pos h⟩
      · exact .inl ((if_neg h).trans (if_neg hb))
    · by_cases h : b = a
      · subst h
        cases (if_pos rfl).symm.trans z
        exact ⟨at_a, by rw [List.length_map]; exact short, vs, _, vrel, at_a⟩
      · by_cases hb : b ∈ cs.map (·.2)
        · cases (if_pos hb).symm.trans ((if_neg h).symm.trans z)
          exact tabAt b hb
        · cases (if_neg hb).symm.trans ((if_neg h).symm.trans z)
    · by_cases h : b = a
      · exact .inl h
      · by_cases hb : b ∈ cs.map (·.2)
        · exact .inr hb
        · exact absurd ((if_neg h).trans (if_neg hb)) z
end
end Nw

set_option autoImplicit false
set_option maxRecDepth 100000
set_option maxHeartbeats 4000000
/-! Nw, part C2: the law by its head. -/
namespace Nw
open PySem PySem.Spec PyProof.Rows L2 RZ

/-- a def as a datum: its name, its row, its names (the parameters first), how many parameters, the fuel, what was compiled -/
structure De where
  x : Str
  st : Stmt
  N : List Str
  np : Nat
  fuel : Nat
  body : List S
def De.fnv (e : De) : Fn := ⟨e.np, e.N.length, e.body⟩
def De.dd (e : De) : He.DefD := ⟨(e.x, none), e.x, e.x, defArgs e.st, defBody e.st, defScope e.st, [], []⟩
def toFa (p : Str × GK) : He.Fa := match p.2 with
  | .no => .free p.1
  | .cst (.int i) => .int p.1 i
  | .cst (.str s) => .str p.1 s
  | _ => .glo p.1
def gkOf (l : List (Str × GK)) (x : Str) : GK := (l.lookup x).getD .bad
def tabOf (des : List De) (x : Str) : Option Fn := (des.find? fun e => e.x == x).map De.fnv
/-- what is to be checked of a def -/
structure DeOk (gks : List (Str × GK)) (refs : List Str) (e : De) : Prop where
  bnd : ∀ (kV doc pm : Value) (an : Option Addr) (cdv ct : Value) (us : List Value), us.length = (e.N.take e.np).length → bindArgs (PySem.W.fnOf e.x e.x (defArgs e.st) (defBody e.st) (defScope e.st) .none kV doc pm an cdv ct) ⟨us, []⟩ = pure ((e.N.take e.np).zip us)
  sc : C8.scC e.N (e.N.take e.np) (defScope e.st) = true
  np : Nat.ble e.np e.N.length = true
  code : cSs ⟨e.N, defScope e.st, fun _ => true, gkOf gks, refs, true⟩ e.fuel (defBody e.st) = some e.body
def AllOk (gks : List (Str × GK)) (refs : List Str) : List De → Prop
  | [] => True
  | e :: r => DeOk gks refs e ∧ AllOk gks refs r
theorem AllOk.at {gks : List (Str × GK)} {refs : List Str} : ∀ {des : List De}, AllOk gks refs des → ∀ e ∈ des, DeOk gks refs e
  | [], _, e, h => by simp at h
  | d :: r, a, e, h => by
    rcases List.mem_cons.mp h with rfl | h
    · exact a.1
    · exact AllOk.at a.2 e h
/-! ### constants that are tuples -/
def dBs (f : Value → D → Bool) : List Value → List D → Bool
  | [], [] => true
  | u :: us, d :: ds => f u d && dBs f us ds
  | _, _ => false
def dB (K : PySem.W.Frag) : Nat → Value → D → Bool
  | _, .none, .none => true
  | _, .bool b, .bool c => b == c
  | _, .int i _, .int j => decide (i = j)
  | _, .str x _, .str y => decide (x = y)
  | n + 1, .ref a, .tuple ds => (match K.lookup a with
    | some ⟨.type c, _, .seq its _, _⟩ => decide (c = "tuple") && (decide (its.size ≤ sizeLine) && dBs (dB K n) its.toList ds)
    | _ => false)
  | _, _, _ => false
theorem dBs_ok {K : PySem.W.Frag} {f : Value → D → Bool} (h : ∀ u d, f u d = true → ∃ v, RelV v u ∧ ∀ H, Rep K H d v) : ∀ {us : List Value} {ds : List D}, dBs f us ds = true → ∃ xs, Vals xs us ∧ ∀ H, Reps K H ds xs
  | [], [], _ => ⟨[], .nil, fun H => .nil⟩
  | u :: us, d :: ds, e => by
    obtain ⟨e1, e2⟩ := and_ok (show (f u d && dBs f us ds) = true from e)
    obtain ⟨v, r, p⟩ := h u d e1
    obtain ⟨xs, rs, ps⟩ := dBs_ok h e2
    exact ⟨v :: xs, .cons r rs, fun H => .cons (p H) (ps H)⟩
  | [], _ :: _, e => by cases e
  | _ :: _, [], e => by cases e
theorem dB_ok {K : PySem.W.Frag} : ∀ (n : Nat) (u : Value) (d : D), dB K n u d = true → ∃ v, RelV v u ∧ ∀ H, Rep K H d v := by
  intro n
  induction n with
  | zero =>
    intro u d h
    unfold dB at h
    split at h
    · exact ⟨.non, rfl, fun H => rep_none⟩
    · rw [eq_of_beq h]
      exact ⟨.bl _, rfl, fun H => rep_bool⟩
    · rw [of_decide_eq_true h]
      exact ⟨.int _, ⟨_, rfl⟩, fun H => rep_int⟩
    · rw [of_decide_eq_true h]
      exact ⟨.str _, ⟨_, rfl⟩, fun H => rep_str⟩
    · rename_i hz
      cases hz
    · cases h
  | succ n ih =>
    intro u d h
    unfold dB at h
    split at h
    · exact ⟨.non, rfl, fun H => rep_none⟩
    · rw [eq_of_beq h]
      exact ⟨.bl _, rfl, fun H => rep_bool⟩
    · rw [of_decide_eq_true h]
      exact ⟨.int _, ⟨_, rfl⟩, fun H => rep_int⟩
    · rw [of_decide_eq_true h]
      exact ⟨.str _, ⟨_, rfl⟩, fun H => rep_str⟩
    · rename_i m a ds hm
      cases hm
      split at h
      · rename_i c od its k sl q
        obtain ⟨h1, h2⟩ := and_ok h
        obtain ⟨h3, h4⟩ := and_ok h2
        obtain ⟨xs, rs, ps⟩ := dBs_ok ih h4
        refine ⟨.ref a, rfl, fun H => ?_⟩
        simp only [Rep]
        exact ⟨a, xs, rfl, .inr ⟨_, its, k, q, congrArg Value.type (of_decide_eq_true h1), rfl, of_decide_eq_true h3, rs⟩, ps H⟩
      · cases h
    · cases h
/-- each table has one name -/
def uniqB (T : List (Addr × Str)) : Bool := T.all fun p => T.all fun r => !(Nat.beq p.1 r.1) || p.2 == r.2
def exK (gks : List (Str × GK)) (K : PySem.W.Frag) : Bool := (gks.all fun p => match p.2 with
  | .cst (.tuple ds) => dB K 6 (.ref (He.ga K p.1)) (.tuple ds)
  | _ => true) && uniqB (tabsK K)
/-! ### code objects and tables -/
def rawTab (o : Obj) : Option (Addr × Str) := match o with
  | ⟨.type c, _, .fields vs, _⟩ => if c = "code" then (match (vs[11]? : Option Value), (vs[1]? : Option Value) with
    | some (.ref P), some (.str q _) => some (P, q)
    | _, _ => none) else none
  | _ => none
theorem codeTab_eq (K : PySem.W.Frag) (o : Obj) : codeTab K o = match rawTab o with
    | some (P, q) => if (K.lookup P).isSome then none else some (P, (q ++ ".<locals>.") ++ "<lambda>")
    | none => none := by
  obtain ⟨cl, d, dt, sl⟩ := o
  cases cl with
  | type c => cases dt with
    | fields vs =>
      by_cases hc : c = "code"
      · simp only [codeTab, rawTab, if_pos hc]
        generalize (vs[11]? : Option Value) = u
        generalize (vs[1]? : Option Value) = w
        cases u with
        | none => rfl
        | some u => cases u <;> first
          | rfl
          | (cases w with
            | none => rfl
            | some w => cases w <;> rfl)
      · simp only [codeTab, rawTab, if_neg hc]
    | _ => rfl
  | _ => rfl
theorem raw_name {o : Obj} {P : Addr} {q : Str} (h : rawTab o = some (P, q)) : ∃ c d vs sl t, o = ⟨.type c, d, .fields vs, sl⟩ ∧ vs[1]? = some (.str q t) := by
  unfold rawTab at h
  split at h
  · split at h
    · split at h
      · rename_i e1 e2
        cases h
        exact ⟨_, _, _, _, _, rfl, e2⟩
      · cases h
    · cases h
  · cases h
def isTab (o : Obj) : Bool := match o with
  | ⟨.none, none, .fields us, sl⟩ => us.size == 0 && sl.size == 0
  | _ => false
theorem isTab_eq {o : Obj} (h : isTab o = true) : o = tab0 := by
  unfold isTab at h
  split at h
  · obtain ⟨h1, h2⟩ := and_ok h
    rw [Array.eq_empty_of_size_eq_zero (eq_of_beq h1), Array.eq_empty_of_size_eq_zero (eq_of_beq h2)]
  · cases h
def chd (o : Obj) (c P : Addr) : Bool := match o with
  | ⟨.type t, _, .fields vs, _⟩ => decide (t = "code") && ((match (vs[11]? : Option Value) with
      | some (.ref p) => Nat.beq p P
      | _ => false) && ((match vs.getD 18 .none with
      | .str _ _ => true
      | _ => false) && ((match vs.getD 7 .none with
      | .int _ _ => true
      | _ => false) && ((match vs.getD 9 .none with
      | .bool _ => true
      | _ => false) && ((match vs.getD 10 .none with
      | .int _ _ => true
      | _ => false) && !(Nat.beq c P))))))
  | _ => false
theorem chd_hd {h : Heap} {o : Obj} {c P : Addr} (e : h.get? c = some o) (q : chd o c P = true) : PySem.W.CodeHd h c P := by
  unfold chd at q
  split at q
  · rename_i t d vs sl
    obtain ⟨q1, q⟩ := and_ok q
    obtain ⟨q2, q⟩ := and_ok q
    obtain ⟨q3, q⟩ := and_ok q
    obtain ⟨q4, q⟩ := and_ok q
    obtain ⟨q5, q⟩ := and_ok q
    obtain ⟨q6, q7⟩ := and_ok q
    split at q2
    · rename_i p e2
      have : p = P := Nat.eq_of_beq_eq_true q2
      subst this
      split at q3
      · rename_i file tf e3
        split at q4
        · rename_i flags tg e4
          split at q5
          · rename_i inF e5
            split at q6
            · rename_i text tt e6
              refine ⟨_, vs, file, tf, flags, tg, inF, text, tt, e, congrArg Value.type (of_decide_eq_true q1), rfl, e2, ?_, e3, e4, e5, e6, fun z => ?_⟩
              · rw [Array.getD_eq_getD_getElem?, e2]
                rfl
              · rw [z] at q7
                simp at q7
            · cases q6
          · cases q5
        · cases q4
      · cases q3
    · cases q2
  · cases q
def okCode (xs : List Str) (K0 : PySem.W.Frag) (c : Addr) (o : Obj) : Bool := match o.data with
  | .fields vs => (match (vs[1]? : Option Value) with
    | some (.str n _) => xs.contains n && (match rawTab o with
      | some (P, _) => chd o c P && (match K0.lookup P with
        | some t => isTab t
        | none => false)
      | none => false)
    | _ => true)
  | _ => true
/-- the part of the heap without the tables, of the code objects only the defs' -/
def noTab (xs : List Str) (K0 : PySem.W.Frag) : PySem.W.Frag := K0.filter fun p => !isTab p.2 && okCode xs K0 p.1 p.2
def MemIn (K0 : PySem.W.Frag) (h : Heap) : Prop := ∀ p ∈ K0, h.get? p.1 = some p.2
theorem frag_mem {K : PySem.W.Frag} {a : Addr} {o : Obj} : K.lookup a = some o → (a, o) ∈ K := by
  induction K with
  | nil => exact fun h => nomatch h
  | cons p r ih =>
    intro h
    obtain ⟨b, u⟩ := p
    rw [List.lookup_cons] at h
    cases e : a == b with
    | true =>
      rw [e] at h
      cases h
      rw [eq_of_beq e]
      exact List.mem_cons_self
    | false =>
      rw [e] at h
      exact List.mem_cons_of_mem _ (ih h)
theorem frG_mem {g : Addr → Option Obj} {as : List Addr} {p : Addr × Obj} (h : p ∈ He.frG g as) : g p.1 = some p.2 := by
  unfold He.frG at h
  obtain ⟨a, _, e⟩ := List.mem_filterMap.mp h
  obtain ⟨o, e1, e2⟩ := Option.map_eq_some_iff.mp e
  rw [← e2]
  exact e1
theorem noTab_in {xs : List Str} {K0 : PySem.W.Frag} {h : Heap} (m : MemIn K0 h) : (noTab xs K0).In h := fun a o e => m (a, o) (List.mem_filter.mp (frag_mem e)).1
def csK (K : PySem.W.Frag) : List (Addr × Addr) := K.filterMap fun p => (codeTab K p.2).map fun q => (p.1, q.1)
theorem ok_code {xs : List Str} {K0 : PySem.W.Frag} {c : Addr} {o : Obj} {cl : Value} {d : Option Addr} {vs : Array Value} {sl : Array (Option Value)} {n : Str} {t : Tok} (ho : o = ⟨cl, d, .fields vs, sl⟩) (hv : vs[1]? = some (.str n t)) (h : okCode xs K0 c o = true) :
    ∃ P q u, rawTab o = some (P, q) ∧ chd o c P = true ∧ K0.lookup P = some u ∧ isTab u = true := by
  unfold okCode at h
  have e : o.data = .fields vs := by rw [ho]
  rw [e] at h
  simp only [hv] at h
  obtain ⟨_, h⟩ := and_ok h
  split at h
  · rename_i P q e2
    obtain ⟨h1, h2⟩ := and_ok h
    split at h2
    · rename_i u e3
      exact ⟨P, q, u, e2, h1, e3, h2⟩
    · cases h2
  · cases h
section
variable {xs : List Str} {K0 : PySem.W.Frag} {h : Heap}
theorem csK_ok (m : MemIn K0 h) {p : Addr × Addr} (hp : p ∈ csK (noTab xs K0)) : h.get? p.2 = some tab0 ∧ (noTab xs K0).lookup p.2 = none ∧ PySem.W.CodeHd h p.1 p.2 := by
  unfold csK at hp
  obtain ⟨⟨c, o⟩, hm, e⟩ := List.mem_filterMap.mp hp
  obtain ⟨⟨P, x⟩, e1, rfl⟩ := Option.map_eq_some_iff.mp e
  obtain ⟨hm0, hk⟩ := List.mem_filter.mp hm
  obtain ⟨_, hk⟩ := and_ok hk
  rw [codeTab_eq] at e1
  split at e1
  · rename_i P' q er
    split at e1
    · cases e1
    · rename_i hn
      cases e1
      obtain ⟨cl, d, vs, sl, t, eo, ev⟩ := raw_name er
      obtain ⟨P2, q2, u, r1, r2, r3, r4⟩ := ok_code eo ev hk
      rw [er] at r1
      cases r1
      refine ⟨?_, Option.not_isSome_iff_eq_none.mp hn, chd_hd (m _ hm0) r2⟩
      have := m _ (frag_mem r3)
      rw [isTab_eq r4] at this
      exact this
  · cases e1
theorem codeIn_at {K : PySem.W.Frag} {c : Addr} {x : Str} (h : PySem.W.codeIn K (.ref c) x = true) : ∃ cl d vs sl t, K.lookup c = some ⟨cl, d, .fields vs, sl⟩ ∧ vs[1]? = some (.str x t) := by
  unfold PySem.W.codeIn at h
  cases e : K.lookup c with
  | none =>
    simp only [e] at h
    cases h
  | some o =>
    simp only [e] at h
    obtain ⟨cl, d, dt, sl⟩ := o
    cases dt with
    | fields vs =>
      simp only at h
      split at h
      · rename_i v0 n t r e3
        refine ⟨cl, d, vs, sl, t, rfl, ?_⟩
        rw [← Array.getElem?_toList, e3, ← eq_of_beq h]
        rfl
      · cases h
    | _ => cases h
theorem lamT_of {mg : Str → Option Value} {base : Heap} (m : MemIn K0 h) (u : uniqB (tabsK (noTab xs K0)) = true) (TB : ∀ p ∈ csK (noTab xs K0), LamX.TabB base mg p.1 p.2) : LamT (noTab xs K0) mg base := by
  intro x c hc
  obtain ⟨cl, d, vs, sl, t, e2, ev⟩ := codeIn_at hc
  have hm := frag_mem e2
  obtain ⟨hm0, hk⟩ := List.mem_filter.mp hm
  obtain ⟨_, hk⟩ := and_ok hk
  obtain ⟨P, q, u1, r1, r2, r3, r4⟩ := ok_code rfl ev hk
  have eq : q = x := by
    obtain ⟨cl', d', vs', sl', t', eo, ev'⟩ := raw_name r1
    cases eo
    rw [ev] at ev'
    cases ev'
    rfl
  subst eq
  have free : (noTab xs K0).lookup P = none := by
    cases z : (noTab xs K0).lookup P with
    | none => rfl
    | some o' =>
      obtain ⟨m0, k0⟩ := List.mem_filter.mp (frag_mem z)
      obtain ⟨k1, _⟩ := and_ok k0
      have e5 := m _ m0
      have e6 := m _ (frag_mem r3)
      have : o' = u1 := by
        have e5 : h.get? P = some o' := e5
        have e6 : h.get? P = some u1 := e6
        rw [e5] at e6
        exact Option.some.inj e6
      subst this
      rw [show isTab o' = true from r4] at k1
      cases k1
  have ct : codeTab (noTab xs K0) ⟨cl, d, .fields vs, sl⟩ = some (P, (q ++ ".<locals>.") ++ "<lambda>") := by
    rw [codeTab_eq, r1]
    simp only [free]
    rfl
  have hT : (P, (q ++ ".<locals>.") ++ "<lambda>") ∈ tabsK (noTab xs K0) := List.mem_filterMap.mpr ⟨_, hm, ct⟩
  refine ⟨P, TB (c, P) (List.mem_filterMap.mpr ⟨_, hm, by rw [ct]; rfl⟩), hT, fun p hp e => ?_⟩
  have u2 := List.all_eq_true.mp (List.all_eq_true.mp u p hp) _ hT
  have : Nat.beq p.1 P = true := by rw [e]; exact Nat.beq_refl P
  simp only [this, Bool.not_true, Bool.false_or] at u2
  exact eq_of_beq u2
end
/-- the head's facts, and one more -/
def SaysE (fa : List He.Fa) (fn : List He.DefD) (ex : PySem.W.Frag → Bool) (K : PySem.W.Frag) : Prop := (((He.obsD fa fn K).1 && ex K, (He.obsD fa fn K).2) : He.AlD) = He.valD fn
theorem SaysE.d {fa : List He.Fa} {fn : List He.DefD} {ex : PySem.W.Frag → Bool} {K : PySem.W.Frag} (c : SaysE fa fn ex K) : He.SaysD fa fn K ∧ ex K = true := by
  unfold SaysE He.valD at c
  obtain ⟨c1, c2⟩ := Prod.mk.inj c
  obtain ⟨c3, c4⟩ := and_ok c1
  exact ⟨Prod.ext c3 c2, c4⟩
def obsK (fa : List He.Fa) (fn : List He.DefD) (ex : PySem.W.Frag → Bool) (K : PySem.W.Frag) : He.AlD := ((He.obsD fa fn K).1 && ex K, (He.obsD fa fn K).2)
def obsEG (n : Nat) (xs : List Str) (fa : List He.Fa) (fn : List He.DefD) (ex : PySem.W.Frag → Bool) (g : Addr → Option Obj) : He.AlD := obsK fa fn ex (noTab xs (He.frG g (He.asD g n)))
def hookE (n : Nat) (xs : List Str) (fa : List He.Fa) (fn : List He.DefD) (ex : PySem.W.Frag → Bool) : PySem.W.Hook where
  α := He.AlD
  obs := fun s => obsEG n xs fa fn ex s.heap.get?
  val := fun _ => He.valD fn
  says := fun _ h => ∃ K0 : PySem.W.Frag, MemIn K0 h ∧ SaysE fa fn ex (noTab xs K0)
  of := fun _ _ e => ⟨_, fun _ hp => frG_mem hp, e⟩
  keeps := fun _ _ _ ⟨K0, hK, c⟩ k => ⟨K0, fun p hp => k _ _ (hK p hp), c⟩
theorem obsEG_eq {n : Nat} {xs : List Str} {fa : List He.Fa} {fn : List He.DefD} {ex : PySem.W.Frag → Bool} {g : Addr → Option Obj} {s : Shared} (h : ∀ a, g a = s.heap.get? a) : obsEG n xs fa fn ex g = (hookE n xs fa fn ex).obs s := by
  have e : g = s.heap.get? := funext h
  rw [e] <;> rfl
/-- constants that the facts tell -/
def gkFine : Str × GK → Bool
  | (_, .cst (.int _)) => true
  | (_, .cst (.str _)) => true
  | (_, .cst (.tuple _)) => true
  | (_, .cst _) => false
  | _ => true
theorem lookup_mem {α : Type} {x : Str} {v : α} : ∀ {l : List (Str × α)}, l.lookup x = some v → (x, v) ∈ l
  | (y, u) :: r, h => by
    rw [List.lookup_cons] at h
    cases e : x == y with
    | true =>
      rw [e] at h
      cases h
      have := eq_of_beq e
      subst this
      exact List.mem_cons_self
    | false =>
      rw [e] at h
      exact List.mem_cons_of_mem _ (lookup_mem h)
theorem tot_by {gks : List (Str × GK)} {des : List De} (h : (gks.all fun p => match p.2 with
    | .fn => (des.find? fun e => e.x == p.1).isSome
    | _ => true) = true) : ∀ x, gkOf gks x = .fn → (des.find? fun e => e.x == x).isSome = true := by
  intro x e
  unfold gkOf at e
  cases q : gks.lookup x with
  | none =>
    rw [q] at e
    cases e
  | some v =>
    rw [q] at e
    have e : v = .fn := e
    subst e
    exact List.all_eq_true.mp h _ (lookup_mem q)
section
variable {K : PySem.W.Frag} {mg : Str → Option Value} {h : Heap} {gks : List (Str × GK)} {refs : List Str} {des : List De}
theorem fact_at (c : He.SaysD (gks.map toFa) (des.map De.dd) K) {x : Str} {g : GK} (e : gks.lookup x = some g) : (toFa (x, g)).ok K = true := by
  obtain ⟨i, hi⟩ := List.getElem?_of_mem (lookup_mem e)
  exact c.fact i (f := toFa (x, g)) (by rw [List.getElem?_map, hi]; rfl)
theorem gkOf_some {x : Str} {g : GK} (e : gkOf gks x = g) (n : g ≠ .bad) : gks.lookup x = some g := by
  unfold gkOf at e
  cases q : gks.lookup x with
  | none =>
    rw [q] at e
    exact absurd e.symm n
  | some v =>
    rw [q] at e
    exact congrArg some e
theorem gk_ok (KX : K.In h) (G : h.Ns mainGlobals mg) (c : He.SaysD (gks.map toFa) (des.map De.dd) K) (ce : exK gks K = true) (fine : gks.all gkFine = true) (ok : AllOk gks refs des) (tot : ∀ x, gkOf gks x = .fn → (des.find? fun e => e.x == x).isSome = true) :
    GkOk K mg (gkOf gks) refs (tabOf des) := by
  refine ⟨fun x e => ?_, fun x e => ?_, fun x d e => ?_⟩
  · have q := fact_at c (gkOf_some e (by simp))
    exact He.free_ok KX G q
  · have q := fact_at c (gkOf_some e (by simp))
    have hm := He.glo_ok KX G (show (He.Fa.glo x).ok K = true from q)
    obtain ⟨d, hd⟩ := Option.isSome_iff_exists.mp (tot x e)
    have hx : d.x = x := by
      have := List.find?_some hd
      exact eq_of_beq this
    have mem := List.mem_of_find?_eq_some hd
    have D := ok.at d mem
    obtain ⟨i, hi⟩ := List.getElem?_of_mem mem
    obtain ⟨fd, F⟩ := c.def_ i (d := d.dd) (by rw [List.getElem?_map, hi]; rfl)
    have F : FunD K d.x d.x (defArgs d.st) (defBody d.st) (defScope d.st) [] [] (He.fAd K (d.x, none)) fd := F
    have hle : d.np ≤ d.N.length := Nat.le_of_ble_eq_true D.np
    refine ⟨d.fnv, by unfold tabOf; rw [hd]; rfl, ?_⟩
    rw [← hx]
    refine ⟨_, _, _, _, fd, _, d.N, d.N.take d.np, d.fuel, F, ?_, FunD.bindsN F D.bnd, C8.fnScope_by D.sc, ?_, ?_, rfl, D.code⟩
    · rw [hx]
      exact hm
    · rw [List.length_take]
      omega
    · show d.np = _
      rw [List.length_take]
      omega
  · have l := gkOf_some e (by simp)
    have q := fact_at c l
    have fn := List.all_eq_true.mp fine _ (lookup_mem l)
    cases d with
    | int i =>
      obtain ⟨t, ht⟩ := He.int_ok KX G (show (He.Fa.int x i).ok K = true from q)
      exact ⟨.int i, _, ht, ⟨t, rfl⟩, fun H => rep_int⟩
    | str s =>
      obtain ⟨t, ht⟩ := He.str_ok KX G (show (He.Fa.str x s).ok K = true from q)
      exact ⟨.str s, _, ht, ⟨t, rfl⟩, fun H => rep_str⟩
    | tuple ds =>
      have hm := He.glo_ok KX G (show (He.Fa.glo x).ok K = true from q)
      have z := List.all_eq_true.mp (and_ok ce).1 _ (lookup_mem l)
      obtain ⟨v, r, p⟩ := dB_ok 6 _ _ (show dB K 6 (.ref (He.ga K x)) (.tuple ds) = true from z)
      exact ⟨v, _, hm, r, p⟩
    | _ => simp [gkFine] at fn
theorem script_rep {cs : List (Addr × Addr)} {H : Hp} {a : Addr} {ns : List Int} (only : Fst cs H) (na : a ∉ cs.map (·.2)) (sq : SqL K H a (ns.map V.int)) : Rep K H (.list (ns.map .int)) (.ref a) := by
  simp only [Rep]
  refine ⟨a, ns.map V.int, rfl, ?_, Reps.ints ns⟩
  rcases sq with (e | ⟨o, e⟩) | e
  · rcases only.oth a na with z | ⟨ob, xs, z⟩
    · rw [e] at z
      cases z
    · rw [e] at z
      cases z
  · exact .inl ⟨o, e⟩
  · exact .inr (.inr e)
end
/-- THE LAW: what the small language says of every script -/
theorem walk_nw {l : PySem.W.OpenLaw} {n k : Nat} {q : Program} {loose : List Str} {XP : (Str → Option Value) → Heap → Prop} {d : DefRec} {x : Str} {gks : List (Str × GK)} {refs : List Str} {des : List De}
    (hn : l.most = some n) (hn2 : n ≤ sizeLine) (hdf : d.params.defaults = []) (hr : Room k callerA) (hname : d.name = "law") (fine : gks.all gkFine = true) (ok : AllOk gks refs des) (tot : ∀ x, gkOf gks x = .fn → (des.find? fun e => e.x == x).isSome = true) (hlaw : gkOf gks "law" = .fn)
    (hps : ∀ e, (des.find? fun e => e.x == ("law" : Str)) = some e → e.N.take e.np = [x])
    (pure : ∀ ns : List Int, ns.length ≤ n → ∃ fr, run (tabOf des) k "law" [.py (.list (ns.map .int))] [] = .ok (.val (.py (.bool true))) fr) :
    PySem.W.WalkO q loose XP (hookE 4 (des.map De.x) (gks.map toFa) (des.map De.dd) (exK gks)).says l.row.toRowW d [] (fun f vs => PySem.call f vs) := by
  refine Att.attach_call hn hdf fun w s₀ s₁ mg mb fa o pm cd doc a vs ns G Y ho hd hcd hmg hobj hints hlen hg => ?_
  obtain ⟨K0, mem0, cE⟩ := Y
  have KX := noTab_in (xs := des.map De.x) mem0
  obtain ⟨c, cu⟩ := SaysE.d cE
  obtain ⟨_, uq⟩ := and_ok cu
  have tabsOk := fun (p : Addr × Addr) (hp : p ∈ csK (noTab (des.map De.x) K0)) => csK_ok mem0 hp
  have LTo := fun (base : Heap) (TB : ∀ p ∈ csK (noTab (des.map De.x) K0), LamX.TabB base mg p.1 p.2) => lamT_of mem0 uq TB
  generalize hK : noTab (des.map De.x) K0 = K at *
  rw [hname] at hmg
  obtain ⟨e, he⟩ := Option.isSome_iff_exists.mp (tot "law" hlaw)
  have gko := gk_ok KX G.T.g c cu fine ok tot
  have mem := List.mem_of_find?_eq_some he
  have hx : e.x = "law" := eq_of_beq (List.find?_some (p := fun e : De => e.x == ("law" : Str)) he)
  obtain ⟨i, hi⟩ := List.getElem?_of_mem mem
  obtain ⟨fd, Fd⟩ := c.def_ i (d := e.dd) (by rw [List.getElem?_map, hi]; rfl)
  have Fd : FunD K e.x e.x (defArgs e.st) (defBody e.st) (defScope e.st) [] [] (He.fAd K (e.x, none)) fd := Fd
  have eD := ok.at e mem
  have bA := FunD.bindsA Fd eD.bnd
  have ex := hps e he
  have hT : tabOf des "law" = some e.fnv := by
    unfold tabOf
    rw [he]
    rfl
  have hle : e.np ≤ e.N.length := Nat.le_of_ble_eq_true eD.np
  have hlen1 : (e.N.take e.np).length = e.np := by rw [List.length_take]; omega
  have hfa : He.fAd K (e.x, none) = fa := by
    have q := fact_at c (gkOf_some hlaw (by simp))
    have hm := He.glo_ok KX G.T.g (show (He.Fa.glo "law").ok K = true from q)
    rw [hmg] at hm
    cases hm
    show He.ga K e.x = _
    rw [hx]
  rw [hfa, hx] at Fd
  have S := C8.fnScope_by eD.sc
  have hc := eD.code
  have one : e.np = 1 := by rw [← hlen1, ex]; rfl
  have gF : ∀ base : Heap, (∀ p ∈ csK K, LamX.TabB base mg p.1 p.2) → FnG l.prog w K mg base (L2.CX l.prog w) k fa fd [x] (spC K (fun _ => .none) 1 (run (tabOf des) k "law")) := by
    intro base TB
    have z := fn_at (LTo base TB) (P := l.prog) (w := w) (base := base) (CV := fun _ => .none) gko hT Fd S (by rw [hlen1]; exact hle) (by rw [hlen1]; rfl) rfl hc k
    rw [ex] at z
    exact z
  rw [ex] at bA
  refine law_callG (cs := csK K) KX G.T.g G.T.b G.T.builtins G.T.nolimit hg (fun p hp => (tabsOk p hp).1) (fun p hp => (tabsOk p hp).2.1) (fun p hp => (tabsOk p hp).2.2) G.T.bmain hobj hints (Nat.le_trans hlen hn2) hr (fun base _ _ TB => gF base TB) (fun s u => bA s [u] rfl) (fun H only na sq => ?_) (fun H e s' z => ?_)
  · obtain ⟨fr, hrun⟩ := pure ns hlen
    have tb0 : LamX.Tabs (tabsK K) H := fun p hp => by
      obtain ⟨⟨c0, o0⟩, hm, e0⟩ := List.mem_filterMap.mp hp
      exact LamX.TabS.nil (only.tab (c0, p.1) (List.mem_filterMap.mpr ⟨_, hm, by rw [show codeTab K o0 = some p from e0]; rfl⟩))
    refine ⟨[], [], [.py (.list (ns.map .int))], rfl, ⟨List.nodup_nil, rfl, fun l o z => by simp at z, tb0⟩, ⟨_, [], rfl, script_rep only na sq, rfl⟩, ?_⟩
    rw [hrun]
    intro v H' φ' _ _ rv
    have rv : Rep K H' (.bool true) v := rv
    simpa only [Rep] using rv
  · obtain ⟨_, _, _, _, _, _, _, _, _, _, _, _, z⟩ := z
    exact z
end Nw

set_option maxHeartbeats 0
namespace Lw
open PySem PySem.Spec PyProof.Rows L2 Nw
def top (i : Nat) : Stmt := PySem.Challenge.pw_noticewood_k73_messages_written.main.body.getD i (.Pass ⟨0, 0, 0, 0⟩)
def gks0 : List (Str × GK) := [("show_name", .fn), ("show_tags", .fn), ("show_message", .fn), ("is_word", .fn), ("is_name", .fn), ("words_of", .fn), ("elder_of", .fn), ("line_of", .fn), ("is_under", .fn), ("is_rank", .fn), ("are_letters", .fn), ("tags_of", .fn), ("is_text", .fn), ("is_message", .fn), ("holds", .fn), ("behind_changer", .fn), ("behind_clause", .fn), ("sieved", .fn), ("need", .fn), ("number_in", .fn), ("name_in", .fn), ("read_message", .fn), ("_law_pen", .fn), ("_law_draw", .fn), ("_law_pick", .fn), ("_law_word", .fn), ("_law_pool", .fn), ("_law_name", .fn), ("_law_tags", .fn), ("_law_text", .fn)]
def gks1 : List (Str × GK) := [("_law_like", .fn), ("_law_shown", .fn), ("law", .fn), ("LETTERS", .cst (.str "abcdefghijklmnopqrstuvwxyz")), ("LONGEST_WORD", .cst (.int 6)), ("MOST_WORDS", .cst (.int 4)), ("ROOT", .cst (.str "")), ("MOST_RANK", .cst (.int 99)), ("LONGEST_TEXT", .cst (.int 400)), ("SIGNS", .cst (.str " !\"#$&'()*+,-./0123456789:;<=>?@ABCDEFGHIJKLMNOPQRSTUVWXYZ[\\]^_`abcdefghijklmnopqrstuvwxyz{|}~")), ("CHANGERS", .cst (.tuple [(.str "mark"), (.str "as"), (.str "with"), (.str "without")])), ("FIGURES", .cst (.str "0123456789")), ("MOST_FIGURES", .cst (.int 3)), ("ValueError", .no), ("abs", .no), ("all", .no), ("any", .no), ("bool", .no), ("int", .no), ("isinstance", .no), ("len", .no), ("range", .no), ("set", .no), ("str", .no), ("tuple", .no), ("zip", .no)]
def gks : List (Str × GK) := gks0 ++ gks1
def refs : List Str := ["pen"]
def b_f_show_name : List S := [(.ife (.tcmp .eq (.pk 0) (.ev (.cst (.str "")))) [(.ret (.cst (.str "*")))] []), (.retv 0)]
def b_f_show_tags : List S := [(.ife (.tcmp .eq (.pk 0) (.ev (.cst (.str "")))) [(.ret (.cst (.str "-")))] []), (.retv 0)]
def b_f_show_message : List S := [(.unp [1, 2, 3, 4] (.pk 0)), (.ret (.met .join (.ev (.cst (.str " "))) [(.ev (.lst [(.call "show_name" [(.var 1)]), (.bi .str [(.pk 2)]), (.call "show_tags" [(.var 3)]), (.var 4)]))]))]
def b_f_is_word : List S := [(.ife (.tor (.tnot (.tst (.ev (.isi (.pk 0) ["str"])))) (.tnot (.tchain .le .le (.ev (.cst (.int 1))) (.ev (.bi .len [(.pk 0)])) (.ev (.glb "LONGEST_WORD" (.int 6)))))) [(.ret (.cst (.bool false)))] []), (.ret (.bi .all [(.ev (.comp (.one 1) (.walk (.pk 0)) none (.cmp .mem (.pk 1) (.ev (.glb "LETTERS" (.str "abcdefghijklmnopqrstuvwxyz"))))))]))]
def b_f_is_name : List S := [(.ife (.tnot (.tst (.ev (.isi (.pk 0) ["str"])))) [(.ret (.cst (.bool false)))] []), (.own 1 (.call "words_of" [(.var 0)])), (.ret (.conj (.cmp .le (.ev (.bi .len [(.pk 1)])) (.ev (.glb "MOST_WORDS" (.int 4)))) (.bi .all [(.ev (.comp (.one 2) (.walk (.pk 1)) none (.call "is_word" [(.var 2)])))])))]
def b_f_words_of : List S := [(.ife (.tcmp .eq (.pk 0) (.ev (.glb "ROOT" (.str "")))) [(.ret (.lst []))] []), (.ret (.met .split (.pk 0) [(.ev (.cst (.str ".")))]))]
def b_f_elder_of : List S := [(.ife (.tcmp .eq (.pk 0) (.ev (.glb "ROOT" (.str "")))) [(.ret (.cst .none))] []), (.ret (.met .join (.ev (.cst (.str "."))) [(.ev (.sli (.ev (.call "words_of" [(.var 0)])) none (some (.ev (.neg (.ev (.cst (.int 1))))))))]))]
def b_f_line_of : List S := [(.own 1 (.lst [(.var 0)])), (.whl (.tcmp .ne (.ev (.sub (.pk 1) (.ev (.neg (.ev (.cst (.int 1))))))) (.ev (.glb "ROOT" (.str "")))) [(.ex (.mut .append 1 [(.call "elder_of" [(.sub (.pk 1) (.ev (.neg (.ev (.cst (.int 1))))))])]))]), (.retv 1)]
def b_f_is_under : List S := [(.ret (.cmp .mem (.pk 1) (.ev (.call "line_of" [(.var 0)]))))]
def b_f_is_rank : List S := [(.ret (.conj (.isi (.pk 0) ["int"]) (.conj (.not (.ev (.isi (.pk 0) ["bool"]))) (.chain .le .le (.ev (.cst (.int 0))) (.pk 0) (.ev (.glb "MOST_RANK" (.int 99)))))))]
def b_f_are_letters : List S := [(.ife (.tor (.tnot (.tst (.ev (.isi (.pk 0) ["str"])))) (.tnot (.tst (.ev (.bi .all [(.ev (.comp (.one 1) (.walk (.pk 0)) none (.cmp .mem (.pk 1) (.ev (.glb "LETTERS" (.str "abcdefghijklmnopqrstuvwxyz"))))))]))))) [(.ret (.cst (.bool false)))] []), (.ret (.cmp .eq (.ev (.bi .setlen [(.pk 0)])) (.ev (.bi .len [(.pk 0)]))))]
def b_f_tags_of : List S := [(.ret (.met .join (.ev (.cst (.str ""))) [(.ev (.comp (.one 1) (.walk (.ev (.glb "LETTERS" (.str "abcdefghijklmnopqrstuvwxyz")))) (some (.tcmp .mem (.pk 1) (.pk 0))) (.var 1)))]))]
def b_f_is_text : List S := [(.ife (.tor (.tnot (.tst (.ev (.isi (.pk 0) ["str"])))) (.tcmp .gt (.ev (.bi .len [(.pk 0)])) (.ev (.glb "LONGEST_TEXT" (.int 400))))) [(.ret (.cst (.bool false)))] []), (.ret (.bi .all [(.ev (.comp (.one 1) (.walk (.pk 0)) none (.cmp .mem (.pk 1) (.ev (.glb "SIGNS" (.str " !\"#$&'()*+,-./0123456789:;<=>?@ABCDEFGHIJKLMNOPQRSTUVWXYZ[\\]^_`abcdefghijklmnopqrstuvwxyz{|}~"))))))]))]
def b_f_is_message : List S := [(.ife (.tor (.tnot (.tst (.ev (.isi (.pk 0) ["tuple"])))) (.tcmp .ne (.ev (.bi .len [(.pk 0)])) (.ev (.cst (.int 4))))) [(.ret (.cst (.bool false)))] []), (.unp [1, 2, 3, 4] (.pk 0)), (.ret (.conj (.call "is_name" [(.var 1)]) (.conj (.call "is_rank" [(.var 2)]) (.conj (.call "are_letters" [(.var 3)]) (.conj (.cmp .eq (.pk 3) (.ev (.call "tags_of" [(.var 3)]))) (.call "is_text" [(.var 4)]))))))]
def b_f_holds : List S := [(.unp [3, 4, 5, 6] (.pk 1)), (.par 7 8 (.sub (.pk 0) (.ev (.cst (.int 0)))) (.sub (.pk 0) (.ev (.cst (.int 1))))), (.ife (.tcmp .eq (.pk 7) (.ev (.cst (.str "rank")))) [(.ret (.chain .le .le (.pk 8) (.pk 4) (.ev (.sub (.pk 0) (.ev (.cst (.int 2)))))))] []), (.ife (.tcmp .eq (.pk 7) (.ev (.cst (.str "under")))) [(.ret (.call "is_under" [(.var 3), (.var 8)]))] []), (.ife (.tcmp .eq (.pk 7) (.ev (.cst (.str "tag")))) [(.ret (.cmp .mem (.pk 8) (.pk 5)))] []), (.ife (.tcmp .eq (.pk 7) (.ev (.cst (.str "not")))) [(.ret (.not (.ev (.call "holds" [(.var 8), (.var 1)]))))] []), (.own 2 (.comp (.one 9) (.walk (.pk 8)) none (.call "holds" [(.var 9), (.var 1)]))), (.ife (.tcmp .eq (.pk 7) (.ev (.cst (.str "all")))) [(.ret (.bi .all [(.pk 2)]))] []), (.ret (.bi .any [(.pk 2)]))]
def b_f_behind_changer : List S := [(.unp [2, 3, 4, 5] (.pk 1)), (.unp [6, 7] (.pk 0)), (.ife (.tcmp .eq (.pk 6) (.ev (.cst (.str "mark")))) [(.ret (.tup [(.var 2), (.var 3), (.var 4), (.bin .add (.ev (.bin .add (.pk 7) (.ev (.cst (.str " "))))) (.pk 5))]))] []), (.ife (.tcmp .eq (.pk 6) (.ev (.cst (.str "as")))) [(.ret (.tup [(.var 2), (.var 7), (.var 4), (.var 5)]))] []), (.ife (.tcmp .eq (.pk 6) (.ev (.cst (.str "with")))) [(.ret (.tup [(.var 2), (.var 3), (.call "tags_of" [(.bin .add (.pk 4) (.pk 7))]), (.var 5)]))] []), (.ret (.tup [(.var 2), (.var 3), (.met .replace (.pk 4) [(.pk 7), (.ev (.cst (.str "")))]), (.var 5)]))]
def b_f_behind_clause : List S := [(.ife (.tcmp .mem (.ev (.sub (.pk 0) (.ev (.cst (.int 0))))) (.ev (.glb "CHANGERS" (.tuple [(.str "mark"), (.str "as"), (.str "with"), (.str "without")])))) [(.ret (.call "behind_changer" [(.var 0), (.var 1)]))] []), (.ife (.tst (.ev (.call "holds" [(.var 0), (.var 1)]))) [(.retv 1)] []), (.ret (.cst .none))]
def b_f_sieved : List S := [(.for (.one 2) (.ev (.var 0)) [(.own 1 (.call "behind_clause" [(.var 2), (.var 1)])), (.ife (.tcmp .isN (.pk 1) (.ev (.cst .none))) [(.ret (.cst .none))] [])]), (.retv 1)]
def b_f_need : List S := [(.ife (.tnot (.tst (.pk 0))) [(.raise Str.empty none)] [])]
def b_f_number_in : List S := [(.ex (.call "need" [(.conj (.chain .le .le (.ev (.cst (.int 1))) (.ev (.bi .len [(.pk 0)])) (.ev (.glb "MOST_FIGURES" (.int 3)))) (.bi .all [(.ev (.comp (.one 1) (.walk (.pk 0)) none (.cmp .mem (.pk 1) (.ev (.glb "FIGURES" (.str "0123456789"))))))]))])), (.ex (.call "need" [(.disj (.cmp .eq (.pk 0) (.ev (.cst (.str "0")))) (.cmp .ne (.ev (.sub (.pk 0) (.ev (.cst (.int 0))))) (.ev (.cst (.str "0")))))])), (.ret (.bi .int [(.pk 0)]))]
def b_f_name_in : List S := [(.ife (.tcmp .eq (.pk 0) (.ev (.cst (.str "*")))) [(.ret (.cst (.str "")))] []), (.ex (.call "need" [(.conj (.cmp .ne (.pk 0) (.ev (.cst (.str "")))) (.call "is_name" [(.var 0)]))])), (.retv 0)]
def b_f_read_message : List S := [(.ex (.call "need" [(.isi (.pk 0) ["str"])])), (.own 1 (.met .split (.pk 0) [(.ev (.cst (.str " ")))])), (.ex (.call "need" [(.cmp .gt (.ev (.bi .len [(.pk 1)])) (.ev (.cst (.int 3))))])), (.own 2 (.sub (.pk 1) (.ev (.cst (.int 2))))), (.ife (.tcmp .eq (.pk 2) (.ev (.cst (.str "-")))) [(.own 2 (.cst (.str "")))] []), (.own 3 (.tup [(.call "name_in" [(.sub (.pk 1) (.ev (.cst (.int 0))))]), (.call "number_in" [(.sub (.pk 1) (.ev (.cst (.int 1))))]), (.var 2), (.met .join (.ev (.cst (.str " "))) [(.ev (.sli (.pk 1) (some (.ev (.cst (.int 3)))) none))])])), (.ex (.call "need" [(.conj (.call "is_message" [(.var 3)]) (.cmp .eq (.ev (.call "show_message" [(.var 3)])) (.pk 0)))])), (.retv 3)]
def b_l_pen : List S := [(.ret (.dic [(.cst (.str "cells")), (.var 0), (.cst (.str "at")), (.cst (.int 0)), (.cst (.str "left")), (.cst (.int 0))]))]
def b_l_draw : List S := [(.ife (.tcmp .eq (.ev (.sub (.pk 0) (.ev (.cst (.str "left"))))) (.ev (.cst (.int 0)))) [(.own 3 (.sub (.pk 0) (.ev (.cst (.str "at"))))), (.seti 0 (.ev (.cst (.str "at"))) (.bin .add (.pk 3) (.ev (.cst (.int 1))))), (.own 4 (.cst (.int 0))), (.ife (.tcmp .gt (.ev (.bi .len [(.ev (.sub (.pk 0) (.ev (.cst (.str "cells")))))])) (.ev (.cst (.int 0)))) [(.own 4 (.sub (.ev (.sub (.pk 0) (.ev (.cst (.str "cells"))))) (.ev (.bin .mod (.pk 3) (.ev (.bi .len [(.ev (.sub (.pk 0) (.ev (.cst (.str "cells")))))]))))))] []), (.ife (.tor (.tcmp .ge (.pk 3) (.ev (.bi .len [(.ev (.sub (.pk 0) (.ev (.cst (.str "cells")))))]))) (.tcmp .lt (.ev (.bi .abs [(.pk 4)])) (.ev (.bin .pow (.ev (.cst (.int 10))) (.ev (.cst (.int 18))))))) [(.own 5 (.bin .mod (.ev (.bin .add (.ev (.bin .add (.ev (.bin .mod (.pk 4) (.ev (.cst (.int 2147483629))))) (.ev (.bin .mul (.ev (.cst (.int 48271))) (.pk 3))))) (.ev (.cst (.int 17))))) (.ev (.cst (.int 2147483587))))), (.own 5 (.bin .mod (.ev (.bin .add (.ev (.bin .add (.ev (.bin .mul (.pk 5) (.pk 5))) (.ev (.bin .mul (.ev (.cst (.int 69621))) (.pk 5))))) (.pk 3))) (.ev (.cst (.int 2147483563))))), (.own 5 (.bin .mod (.ev (.bin .add (.ev (.bin .add (.ev (.bin .mul (.pk 5) (.pk 5))) (.ev (.bin .mul (.ev (.cst (.int 40692))) (.pk 3))))) (.ev (.cst (.int 3))))) (.ev (.cst (.int 2147483549))))), (.ret (.bin .mod (.ev (.bin .fdiv (.pk 5) (.ev (.cst (.int 16))))) (.pk 1)))] []), (.seti 0 (.ev (.cst (.str "left"))) (.bi .abs [(.pk 4)]))] []), (.own 2 (.bin .mod (.ev (.sub (.pk 0) (.ev (.cst (.str "left"))))) (.pk 1))), (.seti 0 (.ev (.cst (.str "left"))) (.bin .fdiv (.ev (.sub (.pk 0) (.ev (.cst (.str "left"))))) (.pk 1))), (.retv 2)]
def b_l_pick : List S := [(.ret (.sub (.pk 1) (.ev (.call "_law_draw" [(.var 0), (.bi .len [(.pk 1)])]))))]
def b_l_word : List S := [(.own 1 (.cst (.str "abcdefghijklmnopqrstuvwxyz"))), (.ret (.met .join (.ev (.cst (.str ""))) [(.ev (.comp (.one 2) (.rng1 (.ev (.bin .add (.ev (.cst (.int 1))) (.ev (.call "_law_draw" [(.var 0), (.cst (.int 6))]))))) none (.call "_law_pick" [(.var 0), (.var 1)])))]))]
def b_l_pool : List S := [(.own 1 (.call "_law_word" [(.var 0)])), (.own 2 (.sub (.ev (.lst [(.bin .add (.pk 1) (.ev (.sli (.pk 1) none (some (.ev (.cst (.int 1))))))), (.sli (.pk 1) none (some (.ev (.neg (.ev (.cst (.int 1)))))))])) (.ev (.bi .int [(.ev (.cmp .eq (.ev (.bi .len [(.pk 1)])) (.ev (.cst (.int 6)))))])))), (.ret (.lst [(.var 1), (.var 2), (.call "_law_word" [(.var 0)]), (.call "_law_pick" [(.var 0), (.cst (.str "abcdefghijklmnopqrstuvwxyz"))])]))]
def b_l_name : List S := [(.ret (.met .join (.ev (.cst (.str "."))) [(.ev (.comp (.one 2) (.rng1 (.ev (.call "_law_draw" [(.var 0), (.cst (.int 5))]))) none (.call "_law_pick" [(.var 0), (.var 1)])))]))]
def b_l_tags : List S := [(.own 2 (.cst (.str ""))), (.ife (.tcmp .eq (.ev (.call "_law_draw" [(.var 0), (.cst (.int 3))])) (.ev (.cst (.int 0)))) [(.own 2 (.met .join (.ev (.cst (.str ""))) [(.ev (.comp (.one 5) (.rng1 (.ev (.call "_law_draw" [(.var 0), (.cst (.int 9))]))) none (.call "_law_pick" [(.var 0), (.cst (.str "abcdefghijklmnopqrstuvwxyz"))])))]))] []), (.own 3 (.bin .add (.ev (.met .join (.ev (.cst (.str ""))) [(.ev (.comp (.one 4) (.walk (.pk 1)) (some (.tcmp .eq (.ev (.call "_law_draw" [(.var 0), (.cst (.int 2))])) (.ev (.cst (.int 0))))) (.var 4)))])) (.pk 2))), (.ret (.met .join (.ev (.cst (.str ""))) [(.ev (.comp (.one 4) (.ev (.cst (.str "abcdefghijklmnopqrstuvwxyz"))) (some (.tcmp .mem (.pk 4) (.pk 3))) (.var 4)))]))]
def b_l_text : List S := [(.own 1 (.cst (.str " !\"#$&'()*+,-./0123456789:;<=>?@ABCDEFGHIJKLMNOPQRSTUVWXYZ[\\]^_`abcdefghijklmnopqrstuvwxyz{|}~"))), (.own 2 (.met .join (.ev (.cst (.str ""))) [(.ev (.comp (.one 3) (.rng1 (.ev (.call "_law_draw" [(.var 0), (.cst (.int 9))]))) none (.call "_law_pick" [(.var 0), (.var 1)])))])), (.ife (.tand (.tcmp .eq (.ev (.call "_law_draw" [(.var 0), (.cst (.int 8))])) (.ev (.cst (.int 0)))) (.tcmp .ne (.pk 2) (.ev (.cst (.str ""))))) [(.ret (.sli (.ev (.bin .mul (.pk 2) (.ev (.cst (.int 400))))) none (some (.ev (.cst (.int 400))))))] []), (.retv 2)]
def b_l_like : List S := [(.ife (.tst (.ev (.isi (.pk 1) ["tuple"]))) [(.ife (.tor (.tnot (.tst (.ev (.isi (.pk 0) ["tuple"])))) (.tcmp .ne (.ev (.bi .len [(.pk 0)])) (.ev (.bi .len [(.pk 1)])))) [(.ret (.cst (.bool false)))] []), (.ret (.cmp .eq (.ev (.comp (.tup [2, 3]) (.zip (.var 0) (.var 1)) (some (.tnot (.tst (.ev (.call "_law_like" [(.var 2), (.var 3)]))))) (.cst (.int 1)))) (.ev (.lst []))))] []), (.ife (.tcmp .isN (.pk 1) (.ev (.cst .none))) [(.ret (.cmp .isN (.pk 0) (.ev (.cst .none))))] []), (.ife (.tor (.tst (.ev (.isi (.pk 1) ["bool"]))) (.tst (.ev (.isi (.pk 0) ["bool"])))) [(.ret (.conj (.isi (.pk 1) ["bool"]) (.conj (.isi (.pk 0) ["bool"]) (.cmp .eq (.pk 0) (.pk 1)))))] []), (.ret (.conj (.isi (.pk 0) ["int", "str"]) (.cmp .eq (.pk 0) (.pk 1))))]
def b_l_shown : List S := [(.unp [2, 3, 4, 5] (.pk 0)), (.own 1 (.lst [(.sub (.ev (.lst [(.var 2), (.cst (.str "*"))])) (.ev (.bi .int [(.ev (.cmp .eq (.pk 2) (.ev (.cst (.str "")))))]))), (.bi .str [(.pk 3)]), (.sub (.ev (.lst [(.var 4), (.cst (.str "-"))])) (.ev (.bi .int [(.ev (.cmp .eq (.pk 4) (.ev (.cst (.str "")))))])))])), (.ret (.bin .add (.ev (.bin .add (.ev (.bin .add (.ev (.bin .add (.ev (.bin .add (.ev (.bin .add (.ev (.sub (.pk 1) (.ev (.cst (.int 0))))) (.ev (.cst (.str " "))))) (.ev (.sub (.pk 1) (.ev (.cst (.int 1))))))) (.ev (.cst (.str " "))))) (.ev (.sub (.pk 1) (.ev (.cst (.int 2))))))) (.ev (.cst (.str " "))))) (.pk 5)))]
def b_f_law : List S := [(.ref 1 (.call "_law_pen" [(.var 0)])), (.own 2 (.call "_law_pool" [(.var 1)])), (.own 3 (.cst (.str "abcdefghijklmnopqrstuvwxyz"))), (.own 4 (.met .join (.ev (.cst (.str "."))) [(.ev (.bin .mul (.ev (.lst [(.cst (.str "zzzzzz"))])) (.ev (.cst (.int 4)))))])), (.own 5 (.lst [(.tup [(.cst (.str "")), (.cst (.int 0)), (.cst (.str "")), (.cst (.str ""))]), (.tup [(.var 4), (.cst (.int 99)), (.var 3), (.bin .mul (.ev (.cst (.str "~"))) (.ev (.cst (.int 400))))]), (.tup [(.cst (.str "a")), (.cst (.int 10)), (.cst (.str "z")), (.bin .mul (.ev (.cst (.str " "))) (.ev (.cst (.int 400))))]), (.tup [(.cst (.str "b")), (.cst (.int 9)), (.cst (.str "")), (.cst (.str "  a "))])])), (.for (.one 6) (.rng1 (.ev (.cst (.int 8)))) [(.own 8 (.sub (.ev (.lst [(.call "_law_tags" [(.var 1), (.call "_law_pick" [(.var 1), (.var 3)])]), (.call "_law_tags" [(.var 1), (.var 3)])])) (.ev (.call "_law_draw" [(.var 1), (.cst (.int 2))])))), (.ex (.mut .append 5 [(.tup [(.call "_law_name" [(.var 1), (.var 2)]), (.call "_law_draw" [(.var 1), (.cst (.int 100))]), (.var 8), (.call "_law_text" [(.var 1)])])]))]), (.for (.one 7) (.ev (.bin .add (.pk 5) (.ev (.rev (.pk 5))))) [(.own 9 (.call "show_message" [(.var 7)])), (.ife (.tor (.tnot (.tst (.ev (.isi (.pk 9) ["str"])))) (.tcmp .ne (.pk 9) (.ev (.call "_law_shown" [(.var 7)])))) [(.ret (.cst (.bool false)))] []), (.ife (.tnot (.tst (.ev (.call "_law_like" [(.call "read_message" [(.var 9)]), (.var 7)])))) [(.ret (.cst (.bool false)))] [])]), (.for (.one 7) (.ev (.var 5)) [(.own 10 (.call "sieved" [(.bin .mul (.ev (.tup [(.tup [(.cst (.str "mark")), (.call "_law_pick" [(.var 1), (.var 2)])])])) (.ev (.cst (.int 6)))), (.var 7)])), (.ife (.tcmp .ne (.ev (.call "show_message" [(.var 10)])) (.ev (.call "_law_shown" [(.var 10)]))) [(.ret (.cst (.bool false)))] [])]), (.ret (.cst (.bool true)))]
def e_f_show_name : De := ⟨"show_name", top 1, ["name"], 1, 300, b_f_show_name⟩
def e_f_show_tags : De := ⟨"show_tags", top 2, ["tags"], 1, 300, b_f_show_tags⟩
def e_f_show_message : De := ⟨"show_message", top 3, ["message", "name", "rank", "tags", "text"], 1, 300, b_f_show_message⟩
def e_f_is_word : De := ⟨"is_word", top 12, ["thing", "sign"], 1, 300, b_f_is_word⟩
def e_f_is_name : De := ⟨"is_name", top 13, ["thing", "words", "word"], 1, 300, b_f_is_name⟩
def e_f_words_of : De := ⟨"words_of", top 14, ["name"], 1, 300, b_f_words_of⟩
def e_f_elder_of : De := ⟨"elder_of", top 15, ["name"], 1, 300, b_f_elder_of⟩
def e_f_line_of : De := ⟨"line_of", top 16, ["name", "found"], 1, 300, b_f_line_of⟩
def e_f_is_under : De := ⟨"is_under", top 17, ["name", "other"], 2, 300, b_f_is_under⟩
def e_f_is_rank : De := ⟨"is_rank", top 22, ["thing"], 1, 300, b_f_is_rank⟩
def e_f_are_letters : De := ⟨"are_letters", top 23, ["thing", "sign"], 1, 300, b_f_are_letters⟩
def e_f_tags_of : De := ⟨"tags_of", top 24, ["letters", "letter"], 1, 300, b_f_tags_of⟩
def e_f_is_text : De := ⟨"is_text", top 25, ["thing", "sign"], 1, 300, b_f_is_text⟩
def e_f_is_message : De := ⟨"is_message", top 26, ["thing", "name", "rank", "tags", "text"], 1, 300, b_f_is_message⟩
def e_f_holds : De := ⟨"holds", top 28, ["test", "message", "answers", "name", "rank", "tags", "text", "word", "told", "part"], 2, 300, b_f_holds⟩
def e_f_behind_changer : De := ⟨"behind_changer", top 31, ["clause", "message", "name", "rank", "tags", "text", "word", "told"], 2, 300, b_f_behind_changer⟩
def e_f_behind_clause : De := ⟨"behind_clause", top 32, ["clause", "message"], 2, 300, b_f_behind_clause⟩
def e_f_sieved : De := ⟨"sieved", top 34, ["sieve", "message", "clause"], 2, 300, b_f_sieved⟩
def e_f_need : De := ⟨"need", top 38, ["truth"], 1, 300, b_f_need⟩
def e_f_number_in : De := ⟨"number_in", top 39, ["text", "sign"], 1, 300, b_f_number_in⟩
def e_f_name_in : De := ⟨"name_in", top 40, ["text"], 1, 300, b_f_name_in⟩
def e_f_read_message : De := ⟨"read_message", top 41, ["text", "words", "tags", "message"], 1, 300, b_f_read_message⟩
def e_l_pen : De := ⟨"_law_pen", top 43, ["script"], 1, 300, b_l_pen⟩
def e_l_draw : De := ⟨"_law_draw", top 44, ["pen", "many", "drawn", "at", "cell", "number"], 2, 300, b_l_draw⟩
def e_l_pick : De := ⟨"_law_pick", top 45, ["pen", "some"], 2, 300, b_l_pick⟩
def e_l_word : De := ⟨"_law_word", top 46, ["pen", "letters", "k"], 1, 300, b_l_word⟩
def e_l_pool : De := ⟨"_law_pool", top 47, ["pen", "word", "near"], 1, 300, b_l_pool⟩
def e_l_name : De := ⟨"_law_name", top 48, ["pen", "pool", "k"], 2, 300, b_l_name⟩
def e_l_tags : De := ⟨"_law_tags", top 49, ["pen", "letters", "more", "some", "letter", "k"], 2, 300, b_l_tags⟩
def e_l_text : De := ⟨"_law_text", top 50, ["pen", "signs", "few", "k"], 1, 300, b_l_text⟩
def e_l_like : De := ⟨"_law_like", top 51, ["found", "due", "one", "other"], 2, 300, b_l_like⟩
def e_l_shown : De := ⟨"_law_shown", top 52, ["message", "words", "name", "rank", "tags", "text"], 1, 300, b_l_shown⟩
def e_f_law : De := ⟨"law", top 53, ["script", "pen", "pool", "letters", "name", "messages", "k", "message", "tags", "found", "changed"], 1, 300, b_f_law⟩
theorem ok_f_show_name : DeOk gks refs e_f_show_name := ⟨fun _ _ _ _ _ _ us hl => match us, hl with | [_], _ => rfl, by decide +kernel, rfl, by kernel_rfl⟩
theorem ok_f_show_tags : DeOk gks refs e_f_show_tags := ⟨fun _ _ _ _ _ _ us hl => match us, hl with | [_], _ => rfl, by decide +kernel, rfl, by kernel_rfl⟩
theorem ok_f_show_message : DeOk gks refs e_f_show_message := ⟨fun _ _ _ _ _ _ us hl => match us, hl with | [_], _ => rfl, by decide +kernel, rfl, by kernel_rfl⟩
theorem ok_f_is_word : DeOk gks refs e_f_is_word := ⟨fun _ _ _ _ _ _ us hl => match us, hl with | [_], _ => rfl, by decide +kernel, rfl, by kernel_rfl⟩
theorem ok_f_is_name : DeOk gks refs e_f_is_name := ⟨fun _ _ _ _ _ _ us hl => match us, hl with | [_], _ => rfl, by decide +kernel, rfl, by kernel_rfl⟩
theorem ok_f_words_of : DeOk gks refs e_f_words_of := ⟨fun _ _ _ _ _ _ us hl => match us, hl with | [_], _ => rfl, by decide +kernel, rfl, by kernel_rfl⟩
theorem ok_f_elder_of : DeOk gks refs e_f_elder_of := ⟨fun _ _ _ _ _ _ us hl => match us, hl with | [_], _ => rfl, by decide +kernel, rfl, by kernel_rfl⟩
theorem ok_f_line_of : DeOk gks refs e_f_line_of := ⟨fun _ _ _ _ _ _ us hl => match us, hl with | [_], _ => rfl, by decide +kernel, rfl, by kernel_rfl⟩
theorem ok_f_is_under : DeOk gks refs e_f_is_under := ⟨fun _ _ _ _ _ _ us hl => match us, hl with | [_, _], _ => rfl, by decide +kernel, rfl, by kernel_rfl⟩
theorem ok_f_is_rank : DeOk gks refs e_f_is_rank := ⟨fun _ _ _ _ _ _ us hl => match us, hl with | [_], _ => rfl, by decide +kernel, rfl, by kernel_rfl⟩
theorem ok_f_are_letters : DeOk gks refs e_f_are_letters := ⟨fun _ _ _ _ _ _ us hl => match us, hl with | [_], _ => rfl, by decide +kernel, rfl, by kernel_rfl⟩
theorem ok_f_tags_of : DeOk gks refs e_f_tags_of := ⟨fun _ _ _ _ _ _ us hl => match us, hl with | [_], _ => rfl, by decide +kernel, rfl, by kernel_rfl⟩
theorem ok_f_is_text : DeOk gks refs e_f_is_text := ⟨fun _ _ _ _ _ _ us hl => match us, hl with | [_], _ => rfl, by decide +kernel, rfl, by kernel_rfl⟩
theorem ok_f_is_message : DeOk gks refs e_f_is_message := ⟨fun _ _ _ _ _ _ us hl => match us, hl with | [_], _ => rfl, by decide +kernel, rfl, by kernel_rfl⟩
theorem ok_f_holds : DeOk gks refs e_f_holds := ⟨fun _ _ _ _ _ _ us hl => match us, hl with | [_, _], _ => rfl, by decide +kernel, rfl, by kernel_rfl⟩
theorem ok_f_behind_changer : DeOk gks refs e_f_behind_changer := ⟨fun _ _ _ _ _ _ us hl => match us, hl with | [_, _], _ => rfl, by decide +kernel, rfl, by kernel_rfl⟩
theorem ok_f_behind_clause : DeOk gks refs e_f_behind_clause := ⟨fun _ _ _ _ _ _ us hl => match us, hl with | [_, _], _ => rfl, by decide +kernel, rfl, by kernel_rfl⟩
theorem ok_f_sieved : DeOk gks refs e_f_sieved := ⟨fun _ _ _ _ _ _ us hl => match us, hl with | [_, _], _ => rfl, by decide +kernel, rfl, by kernel_rfl⟩
theorem ok_f_need : DeOk gks refs e_f_need := ⟨fun _ _ _ _ _ _ us hl => match us, hl with | [_], _ => rfl, by decide +kernel, rfl, by kernel_rfl⟩
theorem ok_f_number_in : DeOk gks refs e_f_number_in := ⟨fun _ _ _ _ _ _ us hl => match us, hl with | [_], _ => rfl, by decide +kernel, rfl, by kernel_rfl⟩
theorem ok_f_name_in : DeOk gks refs e_f_name_in := ⟨fun _ _ _ _ _ _ us hl => match us, hl with | [_], _ => rfl, by decide +kernel, rfl, by kernel_rfl⟩
theorem ok_f_read_message : DeOk gks refs e_f_read_message := ⟨fun _ _ _ _ _ _ us hl => match us, hl with | [_], _ => rfl, by decide +kernel, rfl, by kernel_rfl⟩
theorem ok_l_pen : DeOk gks refs e_l_pen := ⟨fun _ _ _ _ _ _ us hl => match us, hl with | [_], _ => rfl, by decide +kernel, rfl, by kernel_rfl⟩
theorem ok_l_draw : DeOk gks refs e_l_draw := ⟨fun _ _ _ _ _ _ us hl => match us, hl with | [_, _], _ => rfl, by decide +kernel, rfl, by kernel_rfl⟩
theorem ok_l_pick : DeOk gks refs e_l_pick := ⟨fun _ _ _ _ _ _ us hl => match us, hl with | [_, _], _ => rfl, by decide +kernel, rfl, by kernel_rfl⟩
theorem ok_l_word : DeOk gks refs e_l_word := ⟨fun _ _ _ _ _ _ us hl => match us, hl with | [_], _ => rfl, by decide +kernel, rfl, by kernel_rfl⟩
theorem ok_l_pool : DeOk gks refs e_l_pool := ⟨fun _ _ _ _ _ _ us hl => match us, hl with | [_], _ => rfl, by decide +kernel, rfl, by kernel_rfl⟩
theorem ok_l_name : DeOk gks refs e_l_name := ⟨fun _ _ _ _ _ _ us hl => match us, hl with | [_, _], _ => rfl, by decide +kernel, rfl, by kernel_rfl⟩
theorem ok_l_tags : DeOk gks refs e_l_tags := ⟨fun _ _ _ _ _ _ us hl => match us, hl with | [_, _], _ => rfl, by decide +kernel, rfl, by kernel_rfl⟩
theorem ok_l_text : DeOk gks refs e_l_text := ⟨fun _ _ _ _ _ _ us hl => match us, hl with | [_], _ => rfl, by decide +kernel, rfl, by kernel_rfl⟩
theorem ok_l_like : DeOk gks refs e_l_like := ⟨fun _ _ _ _ _ _ us hl => match us, hl with | [_, _], _ => rfl, by decide +kernel, rfl, by kernel_rfl⟩
theorem ok_l_shown : DeOk gks refs e_l_shown := ⟨fun _ _ _ _ _ _ us hl => match us, hl with | [_], _ => rfl, by decide +kernel, rfl, by kernel_rfl⟩
theorem ok_f_law : DeOk gks refs e_f_law := ⟨fun _ _ _ _ _ _ us hl => match us, hl with | [_], _ => rfl, by decide +kernel, rfl, by kernel_rfl⟩
def des0 : List De := [e_f_show_name, e_f_show_tags, e_f_show_message, e_f_is_word, e_f_is_name, e_f_words_of, e_f_elder_of, e_f_line_of, e_f_is_under, e_f_is_rank, e_f_are_letters, e_f_tags_of, e_f_is_text, e_f_is_message, e_f_holds, e_f_behind_changer, e_f_behind_clause, e_f_sieved, e_f_need, e_f_number_in, e_f_name_in, e_f_read_message, e_l_pen, e_l_draw, e_l_pick, e_l_word, e_l_pool, e_l_name, e_l_tags, e_l_text]
def des1 : List De := [e_l_like, e_l_shown, e_f_law]
def des : List De := des0 ++ des1
theorem all_ok : AllOk gks refs des := ⟨ok_f_show_name, ok_f_show_tags, ok_f_show_message, ok_f_is_word, ok_f_is_name, ok_f_words_of, ok_f_elder_of, ok_f_line_of, ok_f_is_under, ok_f_is_rank, ok_f_are_letters, ok_f_tags_of, ok_f_is_text, ok_f_is_message, ok_f_holds, ok_f_behind_changer, ok_f_behind_clause, ok_f_sieved, ok_f_need, ok_f_number_in, ok_f_name_in, ok_f_read_message, ok_l_pen, ok_l_draw, ok_l_pick, ok_l_word, ok_l_pool, ok_l_name, ok_l_tags, ok_l_text, ok_l_like, ok_l_shown, ok_f_law, trivial⟩
def nm0 : List Str := ["show_name", "show_tags", "show_message", "NoticeError", "NoText", "LETTERS", "LONGEST_WORD", "MOST_WORDS", "ROOT", "is_word", "is_name", "words_of", "elder_of", "line_of", "is_under", "MOST_RANK", "LONGEST_TEXT", "SIGNS", "is_rank", "are_letters", "tags_of", "is_text", "is_message", "holds", "CHANGERS", "behind_changer", "behind_clause", "sieved", "FIGURES", "MOST_FIGURES"]
def nm1 : List Str := ["need", "number_in", "name_in", "read_message", "_law_pen", "_law_draw", "_law_pick", "_law_word", "_law_pool", "_law_name", "_law_tags", "_law_text", "_law_like", "_law_shown"]
def nm : List Str := nm0 ++ nm1
abbrev T : Str → Option Fn := tabOf des
theorem tot : ∀ x, gkOf gks x = .fn → (des.find? fun e => e.x == x).isSome = true := by
  refine tot_by ?_
  decide +kernel
abbrev R : PySem.W.OpenRow := PySem.W.OpenLaw.row PySem.Challenge.rw_noticewood_k73_messages_written
abbrev hk : PySem.W.Hook := Nw.hookE 4 (des.map De.x) (gks.map toFa) (des.map De.dd) (exK gks)
def ob (s : PySem.W.SharedT) : He.AlD := Nw.obsEG 4 (des.map De.x) (gks.map toFa) (des.map De.dd) (exK gks) (HandSHeadRun.getT s)
theorem ob_eq (s : PySem.W.SharedT) : ob s = hk.obs s.abs := Nw.obsEG_eq (HandSHeadRun.getT_eq s)
theorem top_run (w : World) : HandSHeadRun.RunEq R (PySem.W.view R.prog [53]) hk ob 3000 nm w := by
  intro os
  kernel_rfl
end Lw

set_option autoImplicit false
set_option maxRecDepth 100000
set_option maxHeartbeats 4000000
/-! Nw, part YA: what the small language's code brings about. -/
namespace Nw
open PySem

section
variable {α β : Type}
def Wp (m : M α) (fr : Fr) (Q : α → Fr → Prop) (X : Str → Option D → Fr → Prop) : Prop := match m fr with
  | .ok a f => Q a f
  | .exc c p f => X c p f
  | .stuck => False
variable {Q : α → Fr → Prop} {X : Str → Option D → Fr → Prop} {fr : Fr}
theorem wp_bind {m : M β} {f : β → M α} : Wp (m >>= f) fr Q X = Wp m fr (fun a fr' => Wp (f a) fr' Q X) X := by
  unfold Wp
  rw [bind_eq]
  cases m fr <;> rfl
theorem wp_some {a : α} : Wp (liftO (some a)) fr Q X = Q a fr := rfl
theorem wp_none : Wp (liftO (none : Option α)) fr Q X = False := rfl
theorem wp_lift {o : Option α} : Wp (liftO o) fr Q X = ∃ a, o = some a ∧ Q a fr := by
  cases o with
  | none => simp [wp_none]
  | some a => simp [wp_some]
theorem Wp.mono {m : M α} {Q' : α → Fr → Prop} {X' : Str → Option D → Fr → Prop} (h : Wp m fr Q X) (i : ∀ a f, Q a f → Q' a f) (j : ∀ c p f, X c p f → X' c p f) : Wp m fr Q' X' := by
  unfold Wp at *
  cases q : m fr with
  | ok a f => rw [q] at h; exact i a f h
  | exc c p f => rw [q] at h; exact j c p f h
  | stuck => rw [q] at h; exact h
end
section
variable {X : Str → Option D → Fr → Prop} {fr : Fr} {sl : List Slot} {st : List OD}
theorem wp_var {i : Nat} {Q : RV → Fr → Prop} : Wp (varM i) ⟨sl, st⟩ Q X = match sl[i]? with
    | some (.val x) => Q (.val x) ⟨sl, st⟩
    | some (.own o) => (match o.toDv with
      | some x => Q (.val x) ⟨sl.set i (.val x), st⟩
      | none => False)
    | _ => False := by
  simp only [Wp, varM]
  cases h : sl[i]? with
  | none => rfl
  | some s =>
    cases s with
    | own o =>
      simp only
      cases o.toDv <;> rfl
    | _ => rfl
theorem wp_pk {i : Nat} {Q : Hd → Fr → Prop} : Wp (pkH i) ⟨sl, st⟩ Q X = match sl[i]? with
    | some (.own _) => Q (.slot i) ⟨sl, st⟩
    | some (.lok _) => Q (.slot i) ⟨sl, st⟩
    | some (.val x) => Q (.dv x) ⟨sl, st⟩
    | _ => False := by
  simp only [Wp, pkH]
  cases h : sl[i]? with
  | none => rfl
  | some s => cases s <;> rfl
theorem wp_setS {i : Nat} {s : Slot} {Q : Unit → Fr → Prop} : Wp (setS i s) ⟨sl, st⟩ Q X = (i < sl.length ∧ Q () ⟨sl.set i s, st⟩) := by
  simp only [Wp, setS]
  by_cases h : i < sl.length <;> simp [h]
theorem wp_fzN {o : OD} {Q : Dv → Fr → Prop} : Wp (RV.fz (.new o)) fr Q X = Wp (liftO o.toDv) fr Q X := rfl
theorem wp_chkL {i : Nat} {Q : Unit → Fr → Prop} : Wp (chkL i) fr Q X = match getC i fr with
    | some (.lst _) => Q () fr
    | _ => False := by
  simp only [Wp, chkL]
  cases h : getC i fr with
  | none => rfl
  | some o => cases o <;> rfl
theorem wp_chkC {i : Nat} {Q : Unit → Fr → Prop} : Wp (chkC i) fr Q X = match getC i fr with
    | some (.lst _) => Q () fr
    | some (.dic _) => Q () fr
    | _ => False := by
  simp only [Wp, chkC]
  cases h : getC i fr with
  | none => rfl
  | some o => cases o <;> rfl
theorem wp_mutM {m : MU} {i : Nat} {xs : List Dv} {Q : RV → Fr → Prop} : Wp (mutM m i xs) fr Q X = match getC i fr with
    | some o => (match opMU m o xs with
      | some (x, o') => Q (.val x) (putC i o' fr)
      | none => False)
    | none => False := by
  simp only [Wp, mutM]
  cases h : getC i fr with
  | none => rfl
  | some o =>
    simp only
    cases opMU m o xs with
    | none => rfl
    | some p => rfl
theorem wp_seti {i : Nat} {k : D} {x : Dv} {Q : Unit → Fr → Prop} : Wp (setiM i k x) fr Q X = match getC i fr with
    | some o => (match opSet o k x with
      | some o' => Q () (putC i o' fr)
      | none => False)
    | none => False := by
  simp only [Wp, setiM]
  cases h : getC i fr with
  | none => rfl
  | some o =>
    simp only
    cases opSet o k x with
    | none => rfl
    | some p => rfl
theorem wp_retv {i : Nat} {Q : Fl → Fr → Prop} : Wp (retvM i) ⟨sl, st⟩ Q X = match sl[i]? with
    | some (.own o) => Q (.ret (.new o)) ⟨sl, st⟩
    | some (.val x) => Q (.ret (.val x)) ⟨sl, st⟩
    | _ => False := by
  simp only [Wp, retvM]
  cases h : sl[i]? with
  | none => rfl
  | some s => cases s <;> rfl
def Cl (C : Call) (f : Str) (xs : List Dv) (st : List OD) (Q : RV → List OD → Prop) (X : Str → Option D → List OD → Prop) : Prop := match C f xs st with
  | .ok r fr => Q r fr.st
  | .exc c p fr => X c p fr.st
  | .stuck => False
theorem wp_call {C : Call} {f : Str} {xs : List Dv} {Q : RV → Fr → Prop} : Wp (callM C f xs) ⟨sl, st⟩ Q X = Cl C f xs st (fun r st' => Q r ⟨sl, st'⟩) (fun c p st' => X c p ⟨sl, st'⟩) := by
  simp only [Wp, callM, Cl]
  cases C f xs st <;> rfl
theorem Cl.mono {C : Call} {f : Str} {xs : List Dv} {st : List OD} {Q Q' : RV → List OD → Prop} {X X' : Str → Option D → List OD → Prop} (h : Cl C f xs st Q X) (i : ∀ r s, Q r s → Q' r s) (j : ∀ c p s, X c p s → X' c p s) : Cl C f xs st Q' X' := by
  unfold Cl at *
  cases q : C f xs st with
  | ok a f => rw [q] at h; exact i a _ h
  | exc c p f => rw [q] at h; exact j c p _ h
  | stuck => rw [q] at h; exact h
abbrev NoX : Str → Option D → List OD → Prop := fun _ _ _ => False
theorem Cl.mono0 {C : Call} {f : Str} {xs : List Dv} {st : List OD} {Q Q' : RV → List OD → Prop} {X' : Str → Option D → List OD → Prop} (h : Cl C f xs st Q NoX) (i : ∀ r s, Q r s → Q' r s) : Cl C f xs st Q' X' := h.mono i fun _ _ _ z => z.elim
def EndQ (Q : RV → List OD → Prop) : Fl → Fr → Prop
  | .ret r, fr => Q r fr.st
  | .next, fr => Q (vD .none) fr.st
  | _, _ => False
theorem cl_run {T : Str → Option Fn} {k : Nat} {f : Str} {F : Fn} {xs : List Dv} {st : List OD} {Q : RV → List OD → Prop} {X : Str → Option D → List OD → Prop} (h : T f = some F) (hl : xs.length = F.ps) (w : Wp (dSs (run T k) F.body) (F.start xs st) (EndQ Q) (fun c p fr => X c p fr.st)) : Cl (run T (k + 1)) f xs st Q X := by
  unfold Cl
  rw [run_eq h hl]
  unfold Wp at w
  cases q : dSs (run T k) F.body (F.start xs st) with
  | stuck => rw [q] at w; exact w
  | exc c p fr => rw [q] at w; exact w
  | ok b fr =>
    rw [q] at w
    cases b with
    | next => exact w
    | brk => exact w
    | cont => exact w
    | ret r => exact w
theorem wp_seq {m r : M Fl} {Q : Fl → Fr → Prop} : Wp (seqM m r) fr Q X = Wp m fr (fun f fr' => match f with
    | .next => Wp r fr' Q X
    | f => Q f fr') X := by
  unfold seqM
  rw [wp_bind]
  congr 1
  funext f fr'
  cases f <;> rfl
end
end Nw

set_option autoImplicit false
set_option maxRecDepth 100000
set_option maxHeartbeats 4000000
/-! Nw, part YB: the rules, one a form. -/
namespace Nw
open PySem

def Vw (h : Hd) (fr : Fr) (P : D → Prop) : Prop := ∃ d, viewH h fr = .ok d fr ∧ P d
def Vws : List Hd → Fr → (List D → Prop) → Prop
  | [], _, P => P []
  | h :: r, fr, P => Vw h fr fun d => Vws r fr fun ds => P (d :: ds)
theorem vw_py {d : D} {fr : Fr} {P : D → Prop} (p : P d) : Vw (.dv (.py d)) fr P := ⟨d, rfl, p⟩
theorem vw_obj {l : Nat} {sl : List Slot} {st : List OD} {o : OD} {d : D} {P : D → Prop} (h : st[l]? = some o) (e : o.toD = some d) (p : P d) : Vw (.dv (.obj l)) ⟨sl, st⟩ P := by
  refine ⟨d, ?_, p⟩
  simp only [viewH, viewDv, h, e]
  rfl
theorem vw_own {i : Nat} {sl : List Slot} {st : List OD} {o : OD} {d : D} {P : D → Prop} (h : sl[i]? = some (.own o)) (e : o.toD = some d) (p : P d) : Vw (.slot i) ⟨sl, st⟩ P := by
  refine ⟨d, ?_, p⟩
  simp only [viewH, h, e]
  rfl
theorem vw_lok {i : Nat} {sl : List Slot} {st : List OD} {o : OD} {d : D} {P : D → Prop} (h : sl[i]? = some (.lok o)) (e : o.toD = some d) (p : P d) : Vw (.slot i) ⟨sl, st⟩ P := by
  refine ⟨d, ?_, p⟩
  simp only [viewH, h, e]
  rfl
section
variable {α : Type} {C : Call} {X : Str → Option D → Fr → Prop} {fr : Fr} {sl : List Slot} {st : List OD}
theorem wp_vw {h : Hd} {f : D → M α} {Q : α → Fr → Prop} (v : Vw h fr fun d => Wp (f d) fr Q X) : Wp (viewH h >>= f) fr Q X := by
  obtain ⟨d, e, p⟩ := v
  rw [wp_bind]
  unfold Wp at *
  rw [e]
  exact p
theorem wp_vws {f : List D → M α} {Q : α → Fr → Prop} : ∀ {hs : List Hd} {f : List D → M α}, Vws hs fr (fun ds => Wp (f ds) fr Q X) → Wp (viewHs hs >>= f) fr Q X
  | [], f, v => v
  | h :: r, f, v => by
    have e : (viewHs (h :: r) >>= f) = (viewH h >>= fun d => viewHs r >>= fun ds => f (d :: ds)) := by simp only [viewHs, bind_assoc, pure_bind]
    rw [e]
    refine wp_vw ?_
    obtain ⟨d, e1, p⟩ := v
    exact ⟨d, e1, wp_vws (f := fun ds => f (d :: ds)) p⟩
theorem wp_some' {o : Option α} {Q : α → Fr → Prop} (h : ∃ a, o = some a ∧ Q a fr) : Wp (liftO o) fr Q X := by
  rw [wp_lift]
  exact h
theorem ex_some {a : α} {P : α → Prop} (p : P a) : ∃ b, some a = some b ∧ P b := ⟨a, rfl, p⟩
theorem ex_guard {b : Bool} {a : α} {P : α → Prop} (g : b = true) (p : P a) : ∃ c, guardO b a = some c ∧ P c := ⟨a, by unfold guardO; rw [g]; rfl, p⟩
/-! values -/
theorem e_var {i : Nat} {x : Dv} {Q : RV → Fr → Prop} (h : sl[i]? = some (.val x)) (q : Q (.val x) ⟨sl, st⟩) : Wp (dE C (.var i)) ⟨sl, st⟩ Q X := by
  show Wp (varM i) _ _ _
  rw [wp_var, h]
  exact q
theorem e_varO {i : Nat} {o : OD} {x : Dv} {Q : RV → Fr → Prop} (h : sl[i]? = some (.own o)) (e : o.toDv = some x) (q : Q (.val x) ⟨sl.set i (.val x), st⟩) : Wp (dE C (.var i)) ⟨sl, st⟩ Q X := by
  show Wp (varM i) _ _ _
  rw [wp_var, h]
  simp only [e]
  exact q
theorem e_cst {d : D} {Q : RV → Fr → Prop} (q : Q (.val (.py d)) fr) : Wp (dE C (.cst d)) fr Q X := q
theorem e_glb {x : Str} {d : D} {Q : RV → Fr → Prop} (q : Q (.val (.py d)) fr) : Wp (dE C (.glb x d)) fr Q X := q
theorem h_pk {i : Nat} {x : Dv} {Q : Hd → Fr → Prop} (h : sl[i]? = some (.val x)) (q : Q (.dv x) ⟨sl, st⟩) : Wp (dH C (.pk i)) ⟨sl, st⟩ Q X := by
  show Wp (pkH i) _ _ _
  rw [wp_pk, h]
  exact q
theorem h_pkO {i : Nat} {o : OD} {Q : Hd → Fr → Prop} (h : sl[i]? = some (.own o)) (q : Q (.slot i) ⟨sl, st⟩) : Wp (dH C (.pk i)) ⟨sl, st⟩ Q X := by
  show Wp (pkH i) _ _ _
  rw [wp_pk, h]
  exact q
theorem h_pkL {i : Nat} {o : OD} {Q : Hd → Fr → Prop} (h : sl[i]? = some (.lok o)) (q : Q (.slot i) ⟨sl, st⟩) : Wp (dH C (.pk i)) ⟨sl, st⟩ Q X := by
  show Wp (pkH i) _ _ _
  rw [wp_pk, h]
  exact q
def Fz (r : RV) (P : Dv → Prop) : Prop := match r with
  | .val x => P x
  | .new o => ∃ x, o.toDv = some x ∧ P x
theorem wp_toV {m : M RV} {Q : Dv → Fr → Prop} (w : Wp m fr (fun r fr' => Fz r fun x => Q x fr') X) : Wp (toV m) fr Q X := by
  unfold toV
  rw [wp_bind]
  refine w.mono (fun r f h => ?_) fun _ _ _ h => h
  cases r with
  | val x => exact h
  | new o =>
    obtain ⟨x, e, p⟩ := h
    rw [wp_fzN, e]
    exact p
theorem fz_val {x : Dv} {P : Dv → Prop} (p : P x) : Fz (.val x) P := p
theorem fz_new {o : OD} {x : Dv} {P : Dv → Prop} (e : o.toDv = some x) (p : P x) : Fz (.new o) P := ⟨x, e, p⟩
def FzD (r : RV) (P : D → Prop) : Prop := match r with
  | .val (.py d) => P d
  | .new o => ∃ d, o.toD = some d ∧ P d
  | _ => False
theorem wp_toD {m : M RV} {Q : D → Fr → Prop} (w : Wp m fr (fun r fr' => FzD r fun x => Q x fr') X) : Wp (toD m) fr Q X := by
  unfold toD
  rw [wp_bind]
  refine wp_toV (w.mono (fun r f h => ?_) fun _ _ _ h => h)
  cases r with
  | val x =>
    cases x with
    | py d => exact h
    | obj l => exact h.elim
  | new o =>
    obtain ⟨d, e, p⟩ := h
    exact ⟨.py d, by unfold OD.toDv; rw [e]; rfl, p⟩
theorem fzd_val {d : D} {P : D → Prop} (p : P d) : FzD (.val (.py d)) P := p
theorem fzd_new {o : OD} {d : D} {P : D → Prop} (e : o.toD = some d) (p : P d) : FzD (.new o) P := ⟨d, e, p⟩
theorem h_ev {a : E} {Q : Hd → Fr → Prop} (w : Wp (dE C a) fr (fun r fr' => Fz r fun x => Q (.dv x) fr') X) : Wp (dH C (.ev a)) fr Q X := by
  show Wp (hdM (dE C a)) _ _ _
  unfold hdM
  rw [wp_bind]
  exact wp_toV w
theorem e_bin {o : BOp} {a b : E} {Q : RV → Fr → Prop} (w : Wp (dH C a) fr (fun x f1 => Wp (dH C b) f1 (fun y f2 => Vw x f2 fun d => Vw y f2 fun d' => ∃ r, opB o d d' = some r ∧ Q r f2) X) X) : Wp (dE C (.bin o a b)) fr Q X := by
  show Wp (binM o (dH C a) (dH C b)) _ _ _
  unfold binM
  rw [wp_bind]
  refine w.mono (fun x f1 h => ?_) fun _ _ _ h => h
  rw [wp_bind]
  refine h.mono (fun y f2 h => ?_) fun _ _ _ h => h
  obtain ⟨d, e, d', e', h⟩ := h
  exact wp_vw ⟨d, e, wp_vw ⟨d', e', wp_some' h⟩⟩
theorem m_cmp {o : COp} {ma mb : M Hd} {Q : Bool → Fr → Prop} (w : Wp ma fr (fun x f1 => Wp mb f1 (fun y f2 => Vw x f2 fun d => Vw y f2 fun d' => ∃ r, opC o d d' = some r ∧ Q r f2) X) X) : Wp (cmpM o ma mb) fr Q X := by
  unfold cmpM
  rw [wp_bind]
  refine w.mono (fun x f1 h => ?_) fun _ _ _ h => h
  rw [wp_bind]
  refine h.mono (fun y f2 h => ?_) fun _ _ _ h => h
  obtain ⟨d, e, d', e', h⟩ := h
  exact wp_vw ⟨d, e, wp_vw ⟨d', e', wp_some' h⟩⟩
theorem e_cmp {o : COp} {a b : E} {Q : RV → Fr → Prop} (w : Wp (dH C a) fr (fun x f1 => Wp (dH C b) f1 (fun y f2 => Vw x f2 fun d => Vw y f2 fun d' => ∃ r, opC o d d' = some r ∧ Q (.val (.py (.bool r))) f2) X) X) : Wp (dE C (.cmp o a b)) fr Q X := by
  show Wp (boolM (cmpM o (dH C a) (dH C b))) _ _ _
  unfold boolM
  rw [wp_bind]
  exact m_cmp w
theorem t_cmp {o : COp} {a b : E} {Q : Bool → Fr → Prop} (w : Wp (dH C a) fr (fun x f1 => Wp (dH C b) f1 (fun y f2 => Vw x f2 fun d => Vw y f2 fun d' => ∃ r, opC o d d' = some r ∧ Q r f2) X) X) : Wp (dT C (.tcmp o a b)) fr Q X := m_cmp w
theorem m_chain {o o' : COp} {ma mb mc : M Hd} {Q : Bool → Fr → Prop} (w : Wp ma fr (fun x f1 => Wp mb f1 (fun y f2 => Vw x f2 fun d => Vw y f2 fun d' => ∃ r, opC o d d' = some r ∧ ((r = true → Wp mc f2 (fun z f3 => Vw y f3 fun d' => Vw z f3 fun d2 => ∃ r, opC o' d' d2 = some r ∧ Q r f3) X) ∧ (r = false → Q false f2))) X) X) :
    Wp (chainM o o' ma mb mc) fr Q X := by
  unfold chainM
  rw [wp_bind]
  refine w.mono (fun x f1 h => ?_) fun _ _ _ h => h
  rw [wp_bind]
  refine h.mono (fun y f2 h => ?_) fun _ _ _ h => h
  obtain ⟨d, e, d', e', r, er, h1, h2⟩ := h
  refine wp_vw ⟨d, e, wp_vw ⟨d', e', ?_⟩⟩
  dsimp only
  rw [wp_bind]
  refine wp_some' ⟨r, er, ?_⟩
  cases r with
  | false => exact h2 rfl
  | true =>
    show Wp (mc >>= _) _ _ _
    rw [wp_bind]
    refine (h1 rfl).mono (fun z f3 h => ?_) fun _ _ _ h => h
    obtain ⟨d, e, d', e', h⟩ := h
    exact wp_vw ⟨d, e, wp_vw ⟨d', e', wp_some' h⟩⟩
theorem t_chain {o o' : COp} {a b c : E} {Q : Bool → Fr → Prop} (w : Wp (dH C a) fr (fun x f1 => Wp (dH C b) f1 (fun y f2 => Vw x f2 fun d => Vw y f2 fun d' => ∃ r, opC o d d' = some r ∧ ((r = true → Wp (dH C c) f2 (fun z f3 => Vw y f3 fun d' => Vw z f3 fun d2 => ∃ r, opC o' d' d2 = some r ∧ Q r f3) X) ∧ (r = false → Q false f2))) X) X) :
    Wp (dT C (.tchain o o' a b c)) fr Q X := m_chain w
theorem e_chain {o o' : COp} {a b c : E} {Q : RV → Fr → Prop} (w : Wp (dH C a) fr (fun x f1 => Wp (dH C b) f1 (fun y f2 => Vw x f2 fun d => Vw y f2 fun d' => ∃ r, opC o d d' = some r ∧ ((r = true → Wp (dH C c) f2 (fun z f3 => Vw y f3 fun d' => Vw z f3 fun d2 => ∃ r, opC o' d' d2 = some r ∧ Q (.val (.py (.bool r))) f3) X) ∧ (r = false → Q (.val (.py (.bool false))) f2))) X) X) :
    Wp (dE C (.chain o o' a b c)) fr Q X := by
  show Wp (boolM (chainM o o' (dH C a) (dH C b) (dH C c))) _ _ _
  unfold boolM
  rw [wp_bind]
  exact m_chain w
theorem e_not {a : E} {Q : RV → Fr → Prop} (w : Wp (dH C a) fr (fun x f1 => Vw x f1 fun d => ∃ b, truD d = some b ∧ Q (.val (.py (.bool !b))) f1) X) : Wp (dE C (.not a)) fr Q X := by
  show Wp (notM (dH C a)) _ _ _
  unfold notM truH
  rw [wp_bind]
  refine w.mono (fun x f1 h => ?_) fun _ _ _ h => h
  rw [bind_assoc]
  obtain ⟨d, e, b, eb, h⟩ := h
  refine wp_vw ⟨d, e, ?_⟩
  dsimp only
  rw [wp_bind]
  exact wp_some' ⟨b, eb, h⟩
theorem t_tst {a : E} {Q : Bool → Fr → Prop} (w : Wp (dH C a) fr (fun x f1 => Vw x f1 fun d => ∃ b, truD d = some b ∧ Q b f1) X) : Wp (dT C (.tst a)) fr Q X := by
  show Wp (dH C a >>= truH) _ _ _
  rw [wp_bind]
  refine w.mono (fun x f1 h => ?_) fun _ _ _ h => h
  obtain ⟨d, e, h⟩ := h
  exact wp_vw ⟨d, e, wp_some' h⟩
theorem t_not {a : E} {Q : Bool → Fr → Prop} (w : Wp (dT C a) fr (fun b f1 => Q (!b) f1) X) : Wp (dT C (.tnot a)) fr Q X := by
  show Wp (dT C a >>= fun t => pure !t) _ _ _
  rw [wp_bind]
  exact w
theorem t_and {a b : E} {Q : Bool → Fr → Prop} (w : Wp (dT C a) fr (fun t f1 => (t = true → Wp (dT C b) f1 Q X) ∧ (t = false → Q false f1)) X) : Wp (dT C (.tand a b)) fr Q X := by
  show Wp (dT C a >>= fun t => if t then dT C b else pure false) _ _ _
  rw [wp_bind]
  refine w.mono (fun t f1 h => ?_) fun _ _ _ h => h
  cases t with
  | true => exact h.1 rfl
  | false => exact h.2 rfl
theorem t_or {a b : E} {Q : Bool → Fr → Prop} (w : Wp (dT C a) fr (fun t f1 => (t = true → Q true f1) ∧ (t = false → Wp (dT C b) f1 Q X)) X) : Wp (dT C (.tor a b)) fr Q X := by
  show Wp (dT C a >>= fun t => if t then pure true else dT C b) _ _ _
  rw [wp_bind]
  refine w.mono (fun t f1 h => ?_) fun _ _ _ h => h
  cases t with
  | true => exact h.1 rfl
  | false => exact h.2 rfl
theorem e_ife {c a b : E} {Q : RV → Fr → Prop} (w : Wp (dT C c) fr (fun t f1 => (t = true → Wp (dE C a) f1 Q X) ∧ (t = false → Wp (dE C b) f1 Q X)) X) : Wp (dE C (.ife c a b)) fr Q X := by
  show Wp (dT C c >>= fun t => if t then dE C a else dE C b) _ _ _
  rw [wp_bind]
  refine w.mono (fun t f1 h => ?_) fun _ _ _ h => h
  cases t with
  | true => exact h.1 rfl
  | false => exact h.2 rfl
theorem e_tup {es : List E} {Q : RV → Fr → Prop} (w : Wp (dVs C es) fr (fun xs f1 => ∃ ds, allD xs = some ds ∧ ds.length ≤ 16777216 ∧ Q (.val (.py (.tuple ds))) f1) X) : Wp (dE C (.tup es)) fr Q X := by
  show Wp (tupM (dVs C es)) _ _ _
  unfold tupM
  rw [wp_bind]
  refine w.mono (fun xs f1 h => ?_) fun _ _ _ h => h
  obtain ⟨ds, e, hl, h⟩ := h
  rw [e]
  dsimp only
  rw [if_pos hl]
  exact h
theorem e_lst {es : List E} {Q : RV → Fr → Prop} (w : Wp (dVs C es) fr (fun xs f1 => xs.length ≤ 16777216 ∧ Q (.new (.lst xs)) f1) X) : Wp (dE C (.lst es)) fr Q X := by
  show Wp (lstM (dVs C es)) _ _ _
  unfold lstM
  rw [wp_bind]
  refine w.mono (fun xs f1 h => ?_) fun _ _ _ h => h
  rw [if_pos h.1]
  exact h.2
theorem e_sub {a i : E} {Q : RV → Fr → Prop} (w : Wp (dH C a) fr (fun x f1 => Wp (dH C i) f1 (fun y f2 => Vw x f2 fun d => Vw y f2 fun k => ∃ r, opSub d k = some r ∧ Q (.val (.py r)) f2) X) X) : Wp (dE C (.sub a i)) fr Q X := by
  show Wp (subM (dH C a) (dH C i)) _ _ _
  unfold subM
  rw [wp_bind]
  refine w.mono (fun x f1 h => ?_) fun _ _ _ h => h
  rw [wp_bind]
  refine h.mono (fun y f2 h => ?_) fun _ _ _ h => h
  obtain ⟨d, e, d', e', r, er, h⟩ := h
  refine wp_vw ⟨d, e, wp_vw ⟨d', e', ?_⟩⟩
  dsimp only
  rw [er]
  exact h
theorem e_call {f : Str} {es : List E} {Q : RV → Fr → Prop} (w : Wp (dVs C es) fr (fun xs f1 => Cl C f xs f1.st (fun r st' => Q r ⟨f1.sl, st'⟩) (fun c p st' => X c p ⟨f1.sl, st'⟩)) X) : Wp (dE C (.call f es)) fr Q X := by
  show Wp (callF C f (dVs C es)) _ _ _
  unfold callF
  rw [wp_bind]
  refine w.mono (fun xs f1 h => ?_) fun _ _ _ h => h
  exact wp_call (sl := f1.sl) (st := f1.st) ▸ h
theorem e_bi {f : BI} {es : List E} {Q : RV → Fr → Prop} (w : Wp (dHs C es) fr (fun hs f1 => Vws hs f1 fun ds => ∃ r, opBI f ds = some r ∧ Q r f1) X) : Wp (dE C (.bi f es)) fr Q X := by
  show Wp (biM f (dHs C es)) _ _ _
  unfold biM
  rw [wp_bind]
  refine w.mono (fun hs f1 h => ?_) fun _ _ _ h => h
  refine wp_vws (f := fun ds => liftO (opBI f ds)) ?_
  exact vws_mono h fun ds h => wp_some' h
where vws_mono {fr : Fr} : ∀ {hs : List Hd} {P P' : List D → Prop}, Vws hs fr P → (∀ ds, P ds → P' ds) → Vws hs fr P'
  | [], P, P', h, i => i _ h
  | h :: r, P, P', ⟨d, e, p⟩, i => ⟨d, e, vws_mono p fun ds h => i _ h⟩
theorem vws_nil {P : List D → Prop} (p : P []) : Vws [] fr P := p
theorem vws_cons {h : Hd} {r : List Hd} {P : List D → Prop} (p : Vw h fr fun d => Vws r fr fun ds => P (d :: ds)) : Vws (h :: r) fr P := p
theorem e_met {m : MT} {r : E} {es : List E} {Q : RV → Fr → Prop} (w : Wp (dH C r) fr (fun h f1 => Vw h f1 fun d => ∃ s, d = .str s ∧ Wp (dHs C es) f1 (fun hs f2 => Vws hs f2 fun ds => ∃ r, opMT m s ds = some r ∧ Q r f2) X) X) : Wp (dE C (.met m r es)) fr Q X := by
  show Wp (metM m (dH C r) (dHs C es)) _ _ _
  unfold metM
  rw [wp_bind]
  refine w.mono (fun h f1 q => ?_) fun _ _ _ h => h
  obtain ⟨d, e, s, rfl, q⟩ := q
  refine wp_vw ⟨_, e, ?_⟩
  show Wp (dHs C es >>= fun hs => viewHs hs >>= fun ds => liftO (opMT m s ds)) _ _ _
  rw [wp_bind]
  refine q.mono (fun hs f2 h => ?_) fun _ _ _ h => h
  exact wp_vws (f := fun ds => liftO (opMT m s ds)) (e_bi.vws_mono h fun ds h => wp_some' h)
theorem e_isi {a : E} {tys : List String} {Q : RV → Fr → Prop} (w : Wp (dH C a) fr (fun x f1 => Vw x f1 fun d => Q (.val (.py (.bool (tys.any (isiD d))))) f1) X) : Wp (dE C (.isi a tys)) fr Q X := by
  show Wp (isiM tys (dH C a)) _ _ _
  unfold isiM
  rw [wp_bind]
  refine w.mono (fun x f1 h => ?_) fun _ _ _ h => h
  obtain ⟨d, e, h⟩ := h
  exact wp_vw ⟨d, e, h⟩
theorem m_opt {e : E} {Q : Option Int → Fr → Prop} (w : Wp (dH C e) fr (fun x f1 => Vw x f1 fun d => ∃ i, d = .int i ∧ Q (some i) f1) X) : Wp (optI (dO C (some e))) fr Q X := by
  show Wp (dH C e >>= fun h => viewH h >>= fun d => match d with
    | .int i => pure (some i)
    | _ => stuckM) _ _ _
  rw [wp_bind]
  refine w.mono (fun x f1 h => ?_) fun _ _ _ h => h
  obtain ⟨d, e, i, rfl, h⟩ := h
  exact wp_vw ⟨_, e, h⟩
theorem m_optN {Q : Option Int → Fr → Prop} (q : Q none fr) : Wp (optI (dO C none)) fr Q X := q
theorem e_sli {a : E} {lo hi : Option E} {Q : RV → Fr → Prop} (w : Wp (dH C a) fr (fun x f1 => Wp (optI (dO C lo)) f1 (fun l f2 => Wp (optI (dO C hi)) f2 (fun h f3 => Vw x f3 fun d => ∃ r, opSli d l h = some r ∧ Q r f3) X) X) X) : Wp (dE C (.sli a lo hi)) fr Q X := by
  show Wp (sliM (dH C a) (optI (dO C lo)) (optI (dO C hi))) _ _ _
  unfold sliM
  rw [wp_bind]
  refine w.mono (fun x f1 h => ?_) fun _ _ _ h => h
  rw [wp_bind]
  refine h.mono (fun y f2 h => ?_) fun _ _ _ h => h
  rw [wp_bind]
  refine h.mono (fun y f2 h => ?_) fun _ _ _ h => h
  obtain ⟨d, e, h⟩ := h
  exact wp_vw ⟨d, e, wp_some' h⟩
theorem e_rev {a : E} {Q : RV → Fr → Prop} (w : Wp (dH C a) fr (fun x f1 => Vw x f1 fun d => ∃ r, opRev d = some r ∧ Q r f1) X) : Wp (dE C (.rev a)) fr Q X := by
  show Wp (revM (dH C a)) _ _ _
  unfold revM
  rw [wp_bind]
  refine w.mono (fun x f1 h => ?_) fun _ _ _ h => h
  obtain ⟨d, e, h⟩ := h
  exact wp_vw ⟨d, e, wp_some' h⟩
theorem e_neg {a : E} {Q : RV → Fr → Prop} (w : Wp (dH C a) fr (fun x f1 => Vw x f1 fun d => ∃ i, d = .int i ∧ Q (.val (.py (.int (-i)))) f1) X) : Wp (dE C (.neg a)) fr Q X := by
  show Wp (negM (dH C a)) _ _ _
  unfold negM
  rw [intM_bind, wp_bind]
  refine w.mono (fun x f1 h => ?_) fun _ _ _ h => h
  obtain ⟨d, e, i, rfl, h⟩ := h
  exact wp_vw ⟨_, e, h⟩
theorem e_mut {m : MU} {i : Nat} {es : List E} {Q : RV → Fr → Prop} {xs : List Dv} (hc : getC i fr = some (.lst xs)) (w : Wp (dVs C es) fr (fun ys f1 => ∃ o x o', getC i f1 = some o ∧ opMU m o ys = some (x, o') ∧ Q (.val x) (putC i o' f1)) X) : Wp (dE C (.mut m i es)) fr Q X := by
  show Wp (mutLM m i (dVs C es)) _ _ _
  unfold mutLM
  rw [wp_bind, wp_chkL, hc]
  dsimp only
  rw [wp_bind]
  refine w.mono (fun ys f1 h => ?_) fun _ _ _ h => h
  obtain ⟨o, x, o', h1, h2, h⟩ := h
  rw [wp_mutM, h1]
  dsimp only
  rw [h2]
  exact h
theorem e_conj {a b : E} {Q : RV → Fr → Prop} (w : Wp (dE C a) fr (fun r f1 => Fz r fun x => Vw (.dv x) f1 fun d => ∃ t, truD d = some t ∧ ((t = true → Wp (dE C b) f1 Q X) ∧ (t = false → Q (.val x) f1))) X) : Wp (dE C (.conj a b)) fr Q X := by
  show Wp (conjM (toV (dE C a)) (dE C b)) _ _ _
  unfold conjM truH
  rw [wp_bind]
  refine wp_toV (w.mono (fun r f1 h => ?_) fun _ _ _ h => h)
  have key : ∀ x : Dv, (Vw (.dv x) f1 fun d => ∃ t, truD d = some t ∧ ((t = true → Wp (dE C b) f1 Q X) ∧ (t = false → Q (.val x) f1))) → Wp ((viewH (.dv x) >>= fun d => liftO (truD d)) >>= fun t => if t then dE C b else pure (.val x)) f1 Q X := by
    intro x ⟨d, e, t, et, h1, h2⟩
    rw [bind_assoc]
    refine wp_vw ⟨d, e, ?_⟩
    dsimp only
    rw [wp_bind]
    refine wp_some' ⟨t, et, ?_⟩
    cases t with
    | true => exact h1 rfl
    | false => exact h2 rfl
  cases r with
  | val x => exact key x h
  | new o =>
    obtain ⟨x, e, h⟩ := h
    exact ⟨x, e, key x h⟩
theorem vs_nil {Q : List Dv → Fr → Prop} (q : Q [] fr) : Wp (dVs C []) fr Q X := q
theorem vs_cons {e : E} {r : List E} {Q : List Dv → Fr → Prop} (w : Wp (dE C e) fr (fun v f1 => Fz v fun x => Wp (dVs C r) f1 (fun xs f2 => Q (x :: xs) f2) X) X) : Wp (dVs C (e :: r)) fr Q X := by
  show Wp (toV (dE C e) >>= fun x => dVs C r >>= fun xs => pure (x :: xs)) _ _ _
  rw [wp_bind]
  refine wp_toV (w.mono (fun v f1 h => ?_) fun _ _ _ h => h)
  cases v with
  | val x =>
    show Wp (dVs C r >>= fun xs => pure (x :: xs)) _ _ _
    rw [wp_bind]
    exact h
  | new o =>
    obtain ⟨x, e, h⟩ := h
    refine ⟨x, e, ?_⟩
    dsimp only
    rw [wp_bind]
    exact h
theorem hs_nil {Q : List Hd → Fr → Prop} (q : Q [] fr) : Wp (dHs C []) fr Q X := q
theorem hs_cons {e : E} {r : List E} {Q : List Hd → Fr → Prop} (w : Wp (dH C e) fr (fun x f1 => Wp (dHs C r) f1 (fun xs f2 => Q (x :: xs) f2) X) X) : Wp (dHs C (e :: r)) fr Q X := by
  show Wp (dH C e >>= fun x => dHs C r >>= fun xs => pure (x :: xs)) _ _ _
  rw [wp_bind]
  refine w.mono (fun x f1 h => ?_) fun _ _ _ h => h
  rw [wp_bind]
  exact h
/-! statements -/
inductive SetR {β : Type} : Nat → β → List β → List β → Prop where
  | zero {s x : β} {r : List β} : SetR 0 s (x :: r) (s :: r)
  | succ {i : Nat} {s x : β} {r r' : List β} (h : SetR i s r r') : SetR (i + 1) s (x :: r) (x :: r')
theorem SetR.eq {β : Type} {i : Nat} {s : β} {a b : List β} (h : SetR i s a b) : i < a.length ∧ a.set i s = b := by
  induction h with
  | zero => exact ⟨by simp, rfl⟩
  | succ _ ih => exact ⟨by rw [List.length_cons]; omega, by rw [List.set_cons_succ, ih.2]⟩
theorem SetR.n0 {β : Type} {s x : β} {r : List β} : SetR 0 s (x :: r) (s :: r) := .zero
theorem SetR.n1 {β : Type} {s x a0 : β} {r : List β} : SetR 1 s (a0 :: x :: r) (a0 :: s :: r) := .succ .n0
theorem SetR.n2 {β : Type} {s x a0 a1 : β} {r : List β} : SetR 2 s (a0 :: a1 :: x :: r) (a0 :: a1 :: s :: r) := .succ .n1
theorem SetR.n3 {β : Type} {s x a0 a1 a2 : β} {r : List β} : SetR 3 s (a0 :: a1 :: a2 :: x :: r) (a0 :: a1 :: a2 :: s :: r) := .succ .n2
theorem SetR.n4 {β : Type} {s x a0 a1 a2 a3 : β} {r : List β} : SetR 4 s (a0 :: a1 :: a2 :: a3 :: x :: r) (a0 :: a1 :: a2 :: a3 :: s :: r) := .succ .n3
theorem SetR.n5 {β : Type} {s x a0 a1 a2 a3 a4 : β} {r : List β} : SetR 5 s (a0 :: a1 :: a2 :: a3 :: a4 :: x :: r) (a0 :: a1 :: a2 :: a3 :: a4 :: s :: r) := .succ .n4
theorem SetR.n6 {β : Type} {s x a0 a1 a2 a3 a4 a5 : β} {r : List β} : SetR 6 s (a0 :: a1 :: a2 :: a3 :: a4 :: a5 :: x :: r) (a0 :: a1 :: a2 :: a3 :: a4 :: a5 :: s :: r) := .succ .n5
theorem SetR.n7 {β : Type} {s x a0 a1 a2 a3 a4 a5 a6 : β} {r : List β} : SetR 7 s (a0 :: a1 :: a2 :: a3 :: a4 :: a5 :: a6 :: x :: r) (a0 :: a1 :: a2 :: a3 :: a4 :: a5 :: a6 :: s :: r) := .succ .n6
theorem SetR.n8 {β : Type} {s x a0 a1 a2 a3 a4 a5 a6 a7 : β} {r : List β} : SetR 8 s (a0 :: a1 :: a2 :: a3 :: a4 :: a5 :: a6 :: a7 :: x :: r) (a0 :: a1 :: a2 :: a3 :: a4 :: a5 :: a6 :: a7 :: s :: r) := .succ .n7
theorem SetR.n9 {β : Type} {s x a0 a1 a2 a3 a4 a5 a6 a7 a8 : β} {r : List β} : SetR 9 s (a0 :: a1 :: a2 :: a3 :: a4 :: a5 :: a6 :: a7 :: a8 :: x :: r) (a0 :: a1 :: a2 :: a3 :: a4 :: a5 :: a6 :: a7 :: a8 :: s :: r) := .succ .n8
theorem SetR.n10 {β : Type} {s x a0 a1 a2 a3 a4 a5 a6 a7 a8 a9 : β} {r : List β} : SetR 10 s (a0 :: a1 :: a2 :: a3 :: a4 :: a5 :: a6 :: a7 :: a8 :: a9 :: x :: r) (a0 :: a1 :: a2 :: a3 :: a4 :: a5 :: a6 :: a7 :: a8 :: a9 :: s :: r) := .succ .n9
theorem SetR.n11 {β : Type} {s x a0 a1 a2 a3 a4 a5 a6 a7 a8 a9 a10 : β} {r : List β} : SetR 11 s (a0 :: a1 :: a2 :: a3 :: a4 :: a5 :: a6 :: a7 :: a8 :: a9 :: a10 :: x :: r) (a0 :: a1 :: a2 :: a3 :: a4 :: a5 :: a6 :: a7 :: a8 :: a9 :: a10 :: s :: r) := .succ .n10
theorem SetR.n12 {β : Type} {s x a0 a1 a2 a3 a4 a5 a6 a7 a8 a9 a10 a11 : β} {r : List β} : SetR 12 s (a0 :: a1 :: a2 :: a3 :: a4 :: a5 :: a6 :: a7 :: a8 :: a9 :: a10 :: a11 :: x :: r) (a0 :: a1 :: a2 :: a3 :: a4 :: a5 :: a6 :: a7 :: a8 :: a9 :: a10 :: a11 :: s :: r) := .succ .n11
theorem SetR.n13 {β : Type} {s x a0 a1 a2 a3 a4 a5 a6 a7 a8 a9 a10 a11 a12 : β} {r : List β} : SetR 13 s (a0 :: a1 :: a2 :: a3 :: a4 :: a5 :: a6 :: a7 :: a8 :: a9 :: a10 :: a11 :: a12 :: x :: r) (a0 :: a1 :: a2 :: a3 :: a4 :: a5 :: a6 :: a7 :: a8 :: a9 :: a10 :: a11 :: a12 :: s :: r) := .succ .n12
theorem SetR.n14 {β : Type} {s x a0 a1 a2 a3 a4 a5 a6 a7 a8 a9 a10 a11 a12 a13 : β} {r : List β} : SetR 14 s (a0 :: a1 :: a2 :: a3 :: a4 :: a5 :: a6 :: a7 :: a8 :: a9 :: a10 :: a11 :: a12 :: a13 :: x :: r) (a0 :: a1 :: a2 :: a3 :: a4 :: a5 :: a6 :: a7 :: a8 :: a9 :: a10 :: a11 :: a12 :: a13 :: s :: r) := .succ .n13
theorem SetR.n15 {β : Type} {s x a0 a1 a2 a3 a4 a5 a6 a7 a8 a9 a10 a11 a12 a13 a14 : β} {r : List β} : SetR 15 s (a0 :: a1 :: a2 :: a3 :: a4 :: a5 :: a6 :: a7 :: a8 :: a9 :: a10 :: a11 :: a12 :: a13 :: a14 :: x :: r) (a0 :: a1 :: a2 :: a3 :: a4 :: a5 :: a6 :: a7 :: a8 :: a9 :: a10 :: a11 :: a12 :: a13 :: a14 :: s :: r) := .succ .n14
def Ow1 (r : RV) (P : Slot → Prop) : Prop := match r with
  | .val x => P (.val x)
  | .new o => P (.own o)
theorem ow_val {x : Dv} {P : Slot → Prop} (p : P (.val x)) : Ow1 (.val x) P := p
theorem ow_new {o : OD} {P : Slot → Prop} (p : P (.own o)) : Ow1 (.new o) P := p
theorem s_own {i : Nat} {e : E} {Q : Fl → Fr → Prop} (w : Wp (dE C e) fr (fun r f1 => Ow1 r fun s => ∃ sl', SetR i s f1.sl sl' ∧ Q .next ⟨sl', f1.st⟩) X) : Wp (dS C (.own i e)) fr Q X := by
  show Wp (ownM i (dE C e)) _ _ _
  unfold ownM
  rw [wp_bind]
  refine w.mono (fun r f1 h => ?_) fun _ _ _ h => h
  cases r with
  | val x =>
    obtain ⟨sl', hs, h⟩ := h
    obtain ⟨h1, h2⟩ := hs.eq
    show Wp (setS i (.val x) >>= _) _ _ _
    rw [wp_bind]
    have := wp_setS (X := X) (sl := f1.sl) (st := f1.st) (i := i) (s := .val x) (Q := fun (a : Unit) fr' => Wp (pure .next) fr' Q X)
    exact this ▸ ⟨h1, by rw [h2]; exact h⟩
  | new o =>
    obtain ⟨sl', hs, h⟩ := h
    obtain ⟨h1, h2⟩ := hs.eq
    show Wp (setS i (.own o) >>= _) _ _ _
    rw [wp_bind]
    have := wp_setS (X := X) (sl := f1.sl) (st := f1.st) (i := i) (s := .own o) (Q := fun (a : Unit) fr' => Wp (pure .next) fr' Q X)
    exact this ▸ ⟨h1, by rw [h2]; exact h⟩
theorem s_ref {i : Nat} {e : E} {Q : Fl → Fr → Prop} (w : Wp (dE C e) fr (fun r f1 => ∃ o, r = .new o ∧ ∃ sl', SetR i (.val (.obj f1.st.length)) f1.sl sl' ∧ Q .next ⟨sl', f1.st ++ [o]⟩) X) : Wp (dS C (.ref i e)) fr Q X := by
  show Wp (refM i (dE C e)) _ _ _
  unfold refM
  rw [wp_bind]
  refine w.mono (fun r f1 h => ?_) fun _ _ _ h => h
  obtain ⟨o, rfl, sl', hs, h⟩ := h
  obtain ⟨h1, h2⟩ := hs.eq
  show Wp (newM o >>= _) _ _ _
  rw [wp_bind]
  show Wp (setS i (.val (.obj f1.st.length)) >>= _) ⟨f1.sl, f1.st ++ [o]⟩ _ _
  rw [wp_bind, wp_setS]
  exact ⟨h1, by rw [h2]; exact h⟩
theorem s_seti {i : Nat} {k e : E} {Q : Fl → Fr → Prop} (w : Wp (dE C e) fr (fun r f1 => Fz r fun x => ∃ xs, getC i f1 = some (.lst xs) ∧ Wp (dH C k) f1 (fun h f2 => Vw h f2 fun d => ∃ o o', getC i f2 = some o ∧ opSet o d x = some o' ∧ Q .next (putC i o' f2)) X) X) : Wp (dS C (.seti i k e)) fr Q X := by
  show Wp (setiSM i (dH C k) (toV (dE C e))) _ _ _
  unfold setiSM
  rw [wp_bind]
  refine wp_toV (w.mono (fun r f1 h => ?_) fun _ _ _ h => h)
  have key : ∀ x : Dv, (∃ xs, getC i f1 = some (.lst xs) ∧ Wp (dH C k) f1 (fun h f2 => Vw h f2 fun d => ∃ o o', getC i f2 = some o ∧ opSet o d x = some o' ∧ Q .next (putC i o' f2)) X) →
      Wp (chkC i >>= fun _ => dH C k >>= fun h => viewH h >>= fun d => setiM i d x >>= fun _ => pure .next) f1 Q X := by
    intro x ⟨xs, hc, w⟩
    rw [wp_bind, wp_chkC, hc]
    dsimp only
    rw [wp_bind]
    refine w.mono (fun h f2 q => ?_) fun _ _ _ h => h
    obtain ⟨d, e, o, o', h1, h2, q⟩ := q
    refine wp_vw ⟨d, e, ?_⟩
    dsimp only
    rw [wp_bind, wp_seti, h1]
    dsimp only
    rw [h2]
    exact q
  cases r with
  | val x => exact key x h
  | new o =>
    obtain ⟨x, e, h⟩ := h
    exact ⟨x, e, key x h⟩
theorem s_setiO {i l : Nat} {k e : E} {Q : Fl → Fr → Prop} (w : Wp (dE C e) fr (fun r f1 => Fz r fun x => f1.sl[i]? = some (.val (.obj l)) ∧ ∃ xs, f1.st[l]? = some (.lst xs) ∧ Wp (dH C k) f1 (fun h f2 => Vw h f2 fun d => f2.sl[i]? = some (.val (.obj l)) ∧ ∃ o, f2.st[l]? = some o ∧ ∃ o', opSet o d x = some o' ∧ ∃ st', SetR l o' f2.st st' ∧ Q .next ⟨f2.sl, st'⟩) X) X) : Wp (dS C (.seti i k e)) fr Q X := by
  have gc : ∀ {f : Fr} {o : OD}, f.sl[i]? = some (.val (.obj l)) → f.st[l]? = some o → getC i f = some o := fun {f o} h1 h2 => by
    unfold getC
    rw [h1]
    exact h2
  have step : ∀ {f2 : Fr} {h : Hd} {x : Dv}, (Vw h f2 fun d => f2.sl[i]? = some (.val (.obj l)) ∧ ∃ o, f2.st[l]? = some o ∧ ∃ o', opSet o d x = some o' ∧ ∃ st', SetR l o' f2.st st' ∧ Q .next ⟨f2.sl, st'⟩) → Vw h f2 fun d => ∃ o o', getC i f2 = some o ∧ opSet o d x = some o' ∧ Q .next (putC i o' f2) := by
    intro f2 h x ⟨d, e, h1, o, h2, o', h3, st', h4, q⟩
    refine ⟨d, e, o, o', gc h1 h2, h3, ?_⟩
    unfold putC
    rw [h1]
    dsimp only
    rw [(SetR.eq h4).2]
    exact q
  refine s_seti (w.mono (fun r f1 h => ?_) fun _ _ _ h => h)
  cases r with
  | val x =>
    obtain ⟨h1, xs, h2, w⟩ := h
    exact ⟨xs, gc h1 h2, w.mono (fun _ _ h => step h) fun _ _ _ h => h⟩
  | new o =>
    obtain ⟨x, e, h1, xs, h2, w⟩ := h
    exact ⟨x, e, xs, gc h1 h2, w.mono (fun _ _ h => step h) fun _ _ _ h => h⟩
theorem e_mutO {m : MU} {i : Nat} {es : List E} {xs : List Dv} {Q : RV → Fr → Prop} (hc : fr.sl[i]? = some (.own (.lst xs))) (w : Wp (dVs C es) fr (fun ys f1 => ∃ o, f1.sl[i]? = some (.own o) ∧ ∃ p, opMU m o ys = some p ∧ ∃ sl', SetR i (.own p.2) f1.sl sl' ∧ Q (.val p.1) ⟨sl', f1.st⟩) X) : Wp (dE C (.mut m i es)) fr Q X := by
  refine e_mut (xs := xs) (by unfold getC; rw [hc]) (w.mono (fun ys f1 h => ?_) fun _ _ _ h => h)
  obtain ⟨o, h1, ⟨x, o'⟩, h2, sl', h3, q⟩ := h
  refine ⟨o, x, o', by unfold getC; rw [h1], h2, ?_⟩
  unfold putC
  rw [h1]
  dsimp only
  rw [(SetR.eq h3).2]
  exact q
theorem s_ex {e : E} {Q : Fl → Fr → Prop} (w : Wp (dE C e) fr (fun _ f1 => Q .next f1) X) : Wp (dS C (.ex e)) fr Q X := by
  show Wp (dE C e >>= fun _ => pure Fl.next) _ _ _
  rw [wp_bind]
  exact w
theorem s_ret {e : E} {Q : Fl → Fr → Prop} (w : Wp (dE C e) fr (fun r f1 => Q (.ret r) f1) X) : Wp (dS C (.ret e)) fr Q X := by
  show Wp (dE C e >>= fun r => pure (Fl.ret r)) _ _ _
  rw [wp_bind]
  exact w
theorem s_retvV {i : Nat} {x : Dv} {Q : Fl → Fr → Prop} (h : sl[i]? = some (.val x)) (q : Q (.ret (.val x)) ⟨sl, st⟩) : Wp (dS C (.retv i)) ⟨sl, st⟩ Q X := by
  show Wp (retvM i) _ _ _
  rw [wp_retv, h]
  exact q
theorem s_retvO {i : Nat} {o : OD} {Q : Fl → Fr → Prop} (h : sl[i]? = some (.own o)) (q : Q (.ret (.new o)) ⟨sl, st⟩) : Wp (dS C (.retv i)) ⟨sl, st⟩ Q X := by
  show Wp (retvM i) _ _ _
  rw [wp_retv, h]
  exact q
theorem s_pass {Q : Fl → Fr → Prop} (q : Q .next fr) : Wp (dS C .pass) fr Q X := q
theorem s_if {c : E} {a b : List S} {Q : Fl → Fr → Prop} (w : Wp (dT C c) fr (fun t f1 => (t = true → Wp (dSs C a) f1 Q X) ∧ (t = false → Wp (dSs C b) f1 Q X)) X) : Wp (dS C (.ife c a b)) fr Q X := by
  show Wp (dT C c >>= fun t => if t then dSs C a else dSs C b) _ _ _
  rw [wp_bind]
  refine w.mono (fun t f1 h => ?_) fun _ _ _ h => h
  cases t with
  | true => exact h.1 rfl
  | false => exact h.2 rfl
def Thn (C : Call) (r : List S) (Q : Fl → Fr → Prop) (X : Str → Option D → Fr → Prop) : Fl → Fr → Prop
  | .next, f => Wp (dSs C r) f Q X
  | fl, f => Q fl f
theorem ss_cons {s : S} {r : List S} {Q : Fl → Fr → Prop} (w : Wp (dS C s) fr (Thn C r Q X) X) : Wp (dSs C (s :: r)) fr Q X := by
  show Wp (seqM (dS C s) (dSs C r)) _ _ _
  rw [wp_seq]
  refine w.mono (fun f f1 h => ?_) fun _ _ _ h => h
  cases f <;> exact h
theorem ss_nil {Q : Fl → Fr → Prop} (q : Q .next fr) : Wp (dSs C []) fr Q X := q
theorem th_next {r : List S} {Q : Fl → Fr → Prop} (w : Wp (dSs C r) fr Q X) : Thn C r Q X .next fr := w
theorem th_ret {r : List S} {v : RV} {Q : Fl → Fr → Prop} (w : Q (.ret v) fr) : Thn C r Q X (.ret v) fr := w
theorem th_brk {r : List S} {Q : Fl → Fr → Prop} (w : Q .brk fr) : Thn C r Q X .brk fr := w
theorem th_cont {r : List S} {Q : Fl → Fr → Prop} (w : Q .cont fr) : Thn C r Q X .cont fr := w
end
end Nw

set_option autoImplicit false
set_option maxRecDepth 100000
set_option maxHeartbeats 4000000
/-! Nw, part YC: the rules again, over words that do not unfold. -/
namespace Nw
open PySem
abbrev XF := Str → Option D → Fr → Prop
structure Go {α : Type} (m : M α) (sl : List Slot) (st : List OD) (Q : α → List Slot → List OD → Prop) (X : XF) : Prop where
  out : Wp m ⟨sl, st⟩ (fun a f => Q a f.sl f.st) X
structure ClG (C : Call) (f : Str) (xs : List Dv) (st : List OD) (Q : RV → List OD → Prop) (X : Str → Option D → List OD → Prop) : Prop where
  out : Cl C f xs st Q X
theorem go_eq {α : Type} {m : M α} {sl : List Slot} {st : List OD} {Q : α → List Slot → List OD → Prop} {X : XF} : Go m sl st Q X = Wp m ⟨sl, st⟩ (fun a f => Q a f.sl f.st) X := propext ⟨fun h => h.out, fun h => ⟨h⟩⟩
theorem clg_eq {C : Call} {f : Str} {xs : List Dv} {st : List OD} {Q : RV → List OD → Prop} {X : Str → Option D → List OD → Prop} : ClG C f xs st Q X = Cl C f xs st Q X := propext ⟨fun h => h.out, fun h => ⟨h⟩⟩
structure ThG (C : Call) (r : List S) (Q : Fl → List Slot → List OD → Prop) (X : XF) (fl : Fl) (sl : List Slot) (st : List OD) : Prop where
  out : Thn C r (fun a f => Q a f.sl f.st) X fl ⟨sl, st⟩
theorem thg_eq {C : Call} {r : List S} {Q : Fl → List Slot → List OD → Prop} {X : XF} : ThG C r Q X = fun fl sl st => Thn C r (fun a f => Q a f.sl f.st) X fl ⟨sl, st⟩ := funext fun a => funext fun b => funext fun c => propext ⟨fun h => h.out, fun h => ⟨h⟩⟩
abbrev VwG (h : Hd) (sl : List Slot) (st : List OD) (P : D → Prop) : Prop := Vw h ⟨sl, st⟩ P
abbrev VsG (h : List Hd) (sl : List Slot) (st : List OD) (P : List D → Prop) : Prop := Vws h ⟨sl, st⟩ P
def EnG (Q : RV → List OD → Prop) (fl : Fl) (sl : List Slot) (st : List OD) : Prop := EndQ Q fl ⟨sl, st⟩
theorem Go.mono {α : Type} {m : M α} {sl : List Slot} {st : List OD} {Q Q' : α → List Slot → List OD → Prop} {X X' : XF} (h : Go m sl st Q X) (i : ∀ a s t, Q a s t → Q' a s t) (j : ∀ c p f, X c p f → X' c p f) : Go m sl st Q' X' := ⟨h.out.mono (fun a f q => i a _ _ q) j⟩
theorem ClG.mono {C : Call} {f : Str} {xs : List Dv} {st : List OD} {Q Q' : RV → List OD → Prop} {X X' : Str → Option D → List OD → Prop} (h : ClG C f xs st Q X) (i : ∀ r s, Q r s → Q' r s) (j : ∀ c p s, X c p s → X' c p s) : ClG C f xs st Q' X' := ⟨h.out.mono i j⟩
theorem ClG.use {C : Call} {f : Str} {xs : List Dv} {st : List OD} {Q Q' : RV → List OD → Prop} {X' : Str → Option D → List OD → Prop} (h : ClG C f xs st Q NoX) (i : ∀ r s, Q r s → Q' r s) : ClG C f xs st Q' X' := ⟨h.out.mono0 i⟩
theorem clg_run {T : Str → Option Fn} {k : Nat} {f : Str} {F : Fn} {xs : List Dv} {st : List OD} {Q : RV → List OD → Prop} {X : Str → Option D → List OD → Prop} (h : T f = some F) (hl : xs.length = F.ps) (w : Go (dSs (run T k) F.body) (xs.map .val ++ List.replicate (F.ns - F.ps) .un) st (EnG Q) (fun c p fr => X c p fr.st)) : ClG (run T (k + 1)) f xs st Q X := ⟨cl_run h hl w.out⟩
theorem en_ret' {r : RV} {sl : List Slot} {st : List OD} {Q : RV → List OD → Prop} (q : Q r st) : EnG Q (.ret r) sl st := q
theorem en_next' {sl : List Slot} {st : List OD} {Q : RV → List OD → Prop} (q : Q (vD .none) st) : EnG Q .next sl st := q
theorem g_vw_py {d : D} {sl : List Slot} {st : List OD} {P : D → Prop} (p : P d) : VwG (.dv (.py d)) sl st P := vw_py p
theorem an {a : Prop} {p : Prop} (h : a) (q : p) : a ∧ p := And.intro h q
theorem an_rfl {α : Type} {a : α} {p : Prop} (q : p) : a = a ∧ p := And.intro rfl q
theorem ex_lst {xs : List Dv} {P : List Dv → Prop} (p : P xs) : ∃ ys, some (OD.lst xs) = some (.lst ys) ∧ P ys := ⟨xs, rfl, p⟩
theorem ex_str {s : Str} {P : Str → Prop} (p : P s) : ∃ t, PyData.str s = .str t ∧ P t := ⟨s, rfl, p⟩
theorem ex_int {s : Int} {P : Int → Prop} (p : P s) : ∃ t, PyData.int s = .int t ∧ P t := ⟨s, rfl, p⟩
theorem ex_set {β : Type} {i : Nat} {s : β} {a b : List β} {P : List β → Prop} (h : SetR i s a b) (p : P b) : ∃ c, SetR i s a c ∧ P c := ⟨b, h, p⟩
theorem ex_ref {o : OD} {P : OD → Prop} (p : P o) : ∃ q, RV.new o = .new q ∧ P q := ⟨o, rfl, p⟩
theorem two {t : Bool} {P P' : Prop} (h : t = true → P) (g : t = false → P') : (t = true → P) ∧ (t = false → P') := And.intro h g
theorem twoT {P P' : Prop} (h : P) : (true = true → P) ∧ (true = false → P') := And.intro (fun _ => h) (fun z => (nomatch z))
theorem twoF {P P' : Prop} (h : P') : (false = true → P) ∧ (false = false → P') := And.intro (fun z => (nomatch z)) (fun _ => h)
section
variable {α : Type} {C : Call} {X : XF} {sl : List Slot} {st : List OD}
theorem g_vw_obj {l : Nat} {sl : List Slot} {st : List OD} {o : OD} {d : D} {P : D → Prop} (h : st[l]? = some o) (e : o.toD = some d) (p : P d) : VwG (.dv (.obj l)) sl st P := by
  try simp only [go_eq, clg_eq, thg_eq] at *
  apply vw_obj <;> assumption
theorem g_vw_own {i : Nat} {sl : List Slot} {st : List OD} {o : OD} {d : D} {P : D → Prop} (h : sl[i]? = some (.own o)) (e : o.toD = some d) (p : P d) : VwG (.slot i) sl st P := by
  try simp only [go_eq, clg_eq, thg_eq] at *
  apply vw_own <;> assumption
theorem g_vw_lok {i : Nat} {sl : List Slot} {st : List OD} {o : OD} {d : D} {P : D → Prop} (h : sl[i]? = some (.lok o)) (e : o.toD = some d) (p : P d) : VwG (.slot i) sl st P := by
  try simp only [go_eq, clg_eq, thg_eq] at *
  apply vw_lok <;> assumption
theorem g_e_var {i : Nat} {x : Dv} {Q : RV → List Slot → List OD → Prop} (h : sl[i]? = some (.val x)) (q : Q (.val x) sl st) : Go (dE C (.var i)) sl st Q X := by
  try simp only [go_eq, clg_eq, thg_eq] at *
  apply e_var <;> assumption
theorem g_e_varO {i : Nat} {o : OD} {x : Dv} {Q : RV → List Slot → List OD → Prop} (h : sl[i]? = some (.own o)) (e : o.toDv = some x) (q : Q (.val x) (sl.set i (.val x)) st) : Go (dE C (.var i)) sl st Q X := by
  try simp only [go_eq, clg_eq, thg_eq] at *
  apply e_varO <;> assumption
theorem g_e_cst {d : D} {Q : RV → List Slot → List OD → Prop} (q : Q (.val (.py d)) sl st) : Go (dE C (.cst d)) sl st Q X := by
  try simp only [go_eq, clg_eq, thg_eq] at *
  apply e_cst <;> assumption
theorem g_e_glb {x : Str} {d : D} {Q : RV → List Slot → List OD → Prop} (q : Q (.val (.py d)) sl st) : Go (dE C (.glb x d)) sl st Q X := by
  try simp only [go_eq, clg_eq, thg_eq] at *
  apply e_glb <;> assumption
theorem g_h_pk {i : Nat} {x : Dv} {Q : Hd → List Slot → List OD → Prop} (h : sl[i]? = some (.val x)) (q : Q (.dv x) sl st) : Go (dH C (.pk i)) sl st Q X := by
  try simp only [go_eq, clg_eq, thg_eq] at *
  apply h_pk <;> assumption
theorem g_h_pkO {i : Nat} {o : OD} {Q : Hd → List Slot → List OD → Prop} (h : sl[i]? = some (.own o)) (q : Q (.slot i) sl st) : Go (dH C (.pk i)) sl st Q X := by
  try simp only [go_eq, clg_eq, thg_eq] at *
  apply h_pkO <;> assumption
theorem g_h_pkL {i : Nat} {o : OD} {Q : Hd → List Slot → List OD → Prop} (h : sl[i]? = some (.lok o)) (q : Q (.slot i) sl st) : Go (dH C (.pk i)) sl st Q X := by
  try simp only [go_eq, clg_eq, thg_eq] at *
  apply h_pkL <;> assumption
theorem g_wp_toV {m : M RV} {Q : Dv → List Slot → List OD → Prop} (w : Go m sl st (fun r sl st' => Fz r fun x => Q x sl st') X) : Go (toV m) sl st Q X := by
  try simp only [go_eq, clg_eq, thg_eq] at *
  apply wp_toV <;> assumption
theorem g_h_ev {a : E} {Q : Hd → List Slot → List OD → Prop} (w : Go (dE C a) sl st (fun r sl st' => Fz r fun x => Q (.dv x) sl st') X) : Go (dH C (.ev a)) sl st Q X := by
  try simp only [go_eq, clg_eq, thg_eq] at *
  apply h_ev <;> assumption
theorem g_e_bin {o : BOp} {a b : E} {Q : RV → List Slot → List OD → Prop} (w : Go (dH C a) sl st (fun x sl1 st1 => Go (dH C b) sl1 st1 (fun y sl2 st2 => VwG x sl2 st2 fun d => VwG y sl2 st2 fun d' => ∃ r, opB o d d' = some r ∧ Q r sl2 st2) X) X) : Go (dE C (.bin o a b)) sl st Q X := by
  try simp only [go_eq, clg_eq, thg_eq] at *
  apply e_bin <;> assumption
theorem g_e_cmp {o : COp} {a b : E} {Q : RV → List Slot → List OD → Prop} (w : Go (dH C a) sl st (fun x sl1 st1 => Go (dH C b) sl1 st1 (fun y sl2 st2 => VwG x sl2 st2 fun d => VwG y sl2 st2 fun d' => ∃ r, opC o d d' = some r ∧ Q (.val (.py (.bool r))) sl2 st2) X) X) : Go (dE C (.cmp o a b)) sl st Q X := by
  try simp only [go_eq, clg_eq, thg_eq] at *
  apply e_cmp <;> assumption
theorem g_t_cmp {o : COp} {a b : E} {Q : Bool → List Slot → List OD → Prop} (w : Go (dH C a) sl st (fun x sl1 st1 => Go (dH C b) sl1 st1 (fun y sl2 st2 => VwG x sl2 st2 fun d => VwG y sl2 st2 fun d' => ∃ r, opC o d d' = some r ∧ Q r sl2 st2) X) X) : Go (dT C (.tcmp o a b)) sl st Q X := by
  try simp only [go_eq, clg_eq, thg_eq] at *
  apply t_cmp <;> assumption
theorem g_t_chain {o o' : COp} {a b c : E} {Q : Bool → List Slot → List OD → Prop} (w : Go (dH C a) sl st (fun x sl1 st1 => Go (dH C b) sl1 st1 (fun y sl2 st2 => VwG x sl2 st2 fun d => VwG y sl2 st2 fun d' => ∃ r, opC o d d' = some r ∧ ((r = true → Go (dH C c) sl2 st2 (fun z sl3 st3 => VwG y sl3 st3 fun d' => VwG z sl3 st3 fun d2 => ∃ r, opC o' d' d2 = some r ∧ Q r sl3 st3) X) ∧ (r = false → Q false sl2 st2))) X) X) :
    Go (dT C (.tchain o o' a b c)) sl st Q X := by
  try simp only [go_eq, clg_eq, thg_eq] at *
  apply t_chain <;> assumption
theorem g_e_chain {o o' : COp} {a b c : E} {Q : RV → List Slot → List OD → Prop} (w : Go (dH C a) sl st (fun x sl1 st1 => Go (dH C b) sl1 st1 (fun y sl2 st2 => VwG x sl2 st2 fun d => VwG y sl2 st2 fun d' => ∃ r, opC o d d' = some r ∧ ((r = true → Go (dH C c) sl2 st2 (fun z sl3 st3 => VwG y sl3 st3 fun d' => VwG z sl3 st3 fun d2 => ∃ r, opC o' d' d2 = some r ∧ Q (.val (.py (.bool r))) sl3 st3) X) ∧ (r = false → Q (.val (.py (.bool false))) sl2 st2))) X) X) :
    Go (dE C (.chain o o' a b c)) sl st Q X := by
  try simp only [go_eq, clg_eq, thg_eq] at *
  apply e_chain <;> assumption
theorem g_e_not {a : E} {Q : RV → List Slot → List OD → Prop} (w : Go (dH C a) sl st (fun x sl1 st1 => VwG x sl1 st1 fun d => ∃ b, truD d = some b ∧ Q (.val (.py (.bool !b))) sl1 st1) X) : Go (dE C (.not a)) sl st Q X := by
  try simp only [go_eq, clg_eq, thg_eq] at *
  apply e_not <;> assumption
theorem g_t_tst {a : E} {Q : Bool → List Slot → List OD → Prop} (w : Go (dH C a) sl st (fun x sl1 st1 => VwG x sl1 st1 fun d => ∃ b, truD d = some b ∧ Q b sl1 st1) X) : Go (dT C (.tst a)) sl st Q X := by
  try simp only [go_eq, clg_eq, thg_eq] at *
  apply t_tst <;> assumption
theorem g_t_not {a : E} {Q : Bool → List Slot → List OD → Prop} (w : Go (dT C a) sl st (fun b sl1 st1 => Q (!b) sl1 st1) X) : Go (dT C (.tnot a)) sl st Q X := by
  try simp only [go_eq, clg_eq, thg_eq] at *
  apply t_not <;> assumption
theorem g_t_and {a b : E} {Q : Bool → List Slot → List OD → Prop} (w : Go (dT C a) sl st (fun t sl1 st1 => (t = true → Go (dT C b) sl1 st1 Q X) ∧ (t = false → Q false sl1 st1)) X) : Go (dT C (.tand a b)) sl st Q X := by
  try simp only [go_eq, clg_eq, thg_eq] at *
  apply t_and <;> assumption
theorem g_t_or {a b : E} {Q : Bool → List Slot → List OD → Prop} (w : Go (dT C a) sl st (fun t sl1 st1 => (t = true → Q true sl1 st1) ∧ (t = false → Go (dT C b) sl1 st1 Q X)) X) : Go (dT C (.tor a b)) sl st Q X := by
  try simp only [go_eq, clg_eq, thg_eq] at *
  apply t_or <;> assumption
theorem g_e_ife {c a b : E} {Q : RV → List Slot → List OD → Prop} (w : Go (dT C c) sl st (fun t sl1 st1 => (t = true → Go (dE C a) sl1 st1 Q X) ∧ (t = false → Go (dE C b) sl1 st1 Q X)) X) : Go (dE C (.ife c a b)) sl st Q X := by
  try simp only [go_eq, clg_eq, thg_eq] at *
  apply e_ife <;> assumption
theorem g_e_tup {es : List E} {Q : RV → List Slot → List OD → Prop} (w : Go (dVs C es) sl st (fun xs sl1 st1 => ∃ ds, allD xs = some ds ∧ ds.length ≤ 16777216 ∧ Q (.val (.py (.tuple ds))) sl1 st1) X) : Go (dE C (.tup es)) sl st Q X := by
  try simp only [go_eq, clg_eq, thg_eq] at *
  apply e_tup <;> assumption
theorem g_e_lst {es : List E} {Q : RV → List Slot → List OD → Prop} (w : Go (dVs C es) sl st (fun xs sl1 st1 => xs.length ≤ 16777216 ∧ Q (.new (.lst xs)) sl1 st1) X) : Go (dE C (.lst es)) sl st Q X := by
  try simp only [go_eq, clg_eq, thg_eq] at *
  apply e_lst <;> assumption
theorem g_e_sub {a i : E} {Q : RV → List Slot → List OD → Prop} (w : Go (dH C a) sl st (fun x sl1 st1 => Go (dH C i) sl1 st1 (fun y sl2 st2 => VwG x sl2 st2 fun d => VwG y sl2 st2 fun k => ∃ r, opSub d k = some r ∧ Q (.val (.py r)) sl2 st2) X) X) : Go (dE C (.sub a i)) sl st Q X := by
  try simp only [go_eq, clg_eq, thg_eq] at *
  apply e_sub <;> assumption
theorem g_e_call {f : Str} {es : List E} {Q : RV → List Slot → List OD → Prop} (w : Go (dVs C es) sl st (fun xs sl1 st1 => ClG C f xs st1 (fun r st' => Q r sl1 st') (fun c p st' => X c p ⟨sl1, st'⟩)) X) : Go (dE C (.call f es)) sl st Q X := by
  try simp only [go_eq, clg_eq, thg_eq] at *
  apply e_call <;> assumption
theorem g_e_bi {f : BI} {es : List E} {Q : RV → List Slot → List OD → Prop} (w : Go (dHs C es) sl st (fun hs sl1 st1 => VsG hs sl1 st1 fun ds => ∃ r, opBI f ds = some r ∧ Q r sl1 st1) X) : Go (dE C (.bi f es)) sl st Q X := by
  try simp only [go_eq, clg_eq, thg_eq] at *
  apply e_bi <;> assumption
theorem g_vws_nil {P : List D → Prop} (p : P []) : VsG [] sl st P := by
  try simp only [go_eq, clg_eq, thg_eq] at *
  apply vws_nil <;> assumption
theorem g_vws_cons {h : Hd} {r : List Hd} {P : List D → Prop} (p : VwG h sl st fun d => VsG r sl st fun ds => P (d :: ds)) : VsG (h :: r) sl st P := by
  try simp only [go_eq, clg_eq, thg_eq] at *
  apply vws_cons <;> assumption
theorem g_e_met {m : MT} {r : E} {es : List E} {Q : RV → List Slot → List OD → Prop} (w : Go (dH C r) sl st (fun h sl1 st1 => VwG h sl1 st1 fun d => ∃ s, d = .str s ∧ Go (dHs C es) sl1 st1 (fun hs sl2 st2 => VsG hs sl2 st2 fun ds => ∃ r, opMT m s ds = some r ∧ Q r sl2 st2) X) X) : Go (dE C (.met m r es)) sl st Q X := by
  try simp only [go_eq, clg_eq, thg_eq] at *
  apply e_met <;> assumption
theorem g_e_isi {a : E} {tys : List String} {Q : RV → List Slot → List OD → Prop} (w : Go (dH C a) sl st (fun x sl1 st1 => VwG x sl1 st1 fun d => Q (.val (.py (.bool (tys.any (isiD d))))) sl1 st1) X) : Go (dE C (.isi a tys)) sl st Q X := by
  try simp only [go_eq, clg_eq, thg_eq] at *
  apply e_isi <;> assumption
theorem g_m_opt {e : E} {Q : Option Int → List Slot → List OD → Prop} (w : Go (dH C e) sl st (fun x sl1 st1 => VwG x sl1 st1 fun d => ∃ i, d = .int i ∧ Q (some i) sl1 st1) X) : Go (optI (dO C (some e))) sl st Q X := by
  try simp only [go_eq, clg_eq, thg_eq] at *
  apply m_opt <;> assumption
theorem g_m_optN {Q : Option Int → List Slot → List OD → Prop} (q : Q none sl st) : Go (optI (dO C none)) sl st Q X := by
  try simp only [go_eq, clg_eq, thg_eq] at *
  apply m_optN <;> assumption
theorem g_e_sli {a : E} {lo hi : Option E} {Q : RV → List Slot → List OD → Prop} (w : Go (dH C a) sl st (fun x sl1 st1 => Go (optI (dO C lo)) sl1 st1 (fun l sl2 st2 => Go (optI (dO C hi)) sl2 st2 (fun h sl3 st3 => VwG x sl3 st3 fun d => ∃ r, opSli d l h = some r ∧ Q r sl3 st3) X) X) X) : Go (dE C (.sli a lo hi)) sl st Q X := by
  try simp only [go_eq, clg_eq, thg_eq] at *
  apply e_sli <;> assumption
theorem g_e_rev {a : E} {Q : RV → List Slot → List OD → Prop} (w : Go (dH C a) sl st (fun x sl1 st1 => VwG x sl1 st1 fun d => ∃ r, opRev d = some r ∧ Q r sl1 st1) X) : Go (dE C (.rev a)) sl st Q X := by
  try simp only [go_eq, clg_eq, thg_eq] at *
  apply e_rev <;> assumption
theorem g_e_neg {a : E} {Q : RV → List Slot → List OD → Prop} (w : Go (dH C a) sl st (fun x sl1 st1 => VwG x sl1 st1 fun d => ∃ i, d = .int i ∧ Q (.val (.py (.int (-i)))) sl1 st1) X) : Go (dE C (.neg a)) sl st Q X := by
  try simp only [go_eq, clg_eq, thg_eq] at *
  apply e_neg <;> assumption
theorem g_e_conj {a b : E} {Q : RV → List Slot → List OD → Prop} (w : Go (dE C a) sl st (fun r sl1 st1 => Fz r fun x => VwG (.dv x) sl1 st1 fun d => ∃ t, truD d = some t ∧ ((t = true → Go (dE C b) sl1 st1 Q X) ∧ (t = false → Q (.val x) sl1 st1))) X) : Go (dE C (.conj a b)) sl st Q X := by
  try simp only [go_eq, clg_eq, thg_eq] at *
  apply e_conj <;> assumption
theorem g_vs_nil {Q : List Dv → List Slot → List OD → Prop} (q : Q [] sl st) : Go (dVs C []) sl st Q X := by
  try simp only [go_eq, clg_eq, thg_eq] at *
  apply vs_nil <;> assumption
theorem g_vs_cons {e : E} {r : List E} {Q : List Dv → List Slot → List OD → Prop} (w : Go (dE C e) sl st (fun v sl1 st1 => Fz v fun x => Go (dVs C r) sl1 st1 (fun xs sl2 st2 => Q (x :: xs) sl2 st2) X) X) : Go (dVs C (e :: r)) sl st Q X := by
  try simp only [go_eq, clg_eq, thg_eq] at *
  apply vs_cons <;> assumption
theorem g_hs_nil {Q : List Hd → List Slot → List OD → Prop} (q : Q [] sl st) : Go (dHs C []) sl st Q X := by
  try simp only [go_eq, clg_eq, thg_eq] at *
  apply hs_nil <;> assumption
theorem g_hs_cons {e : E} {r : List E} {Q : List Hd → List Slot → List OD → Prop} (w : Go (dH C e) sl st (fun x sl1 st1 => Go (dHs C r) sl1 st1 (fun xs sl2 st2 => Q (x :: xs) sl2 st2) X) X) : Go (dHs C (e :: r)) sl st Q X := by
  try simp only [go_eq, clg_eq, thg_eq] at *
  apply hs_cons <;> assumption
theorem g_s_own {i : Nat} {e : E} {Q : Fl → List Slot → List OD → Prop} (w : Go (dE C e) sl st (fun r sl1 st1 => Ow1 r fun s => ∃ sl', SetR i s sl1 sl' ∧ Q .next sl' st1) X) : Go (dS C (.own i e)) sl st Q X := by
  try simp only [go_eq, clg_eq, thg_eq] at *
  apply s_own <;> assumption
theorem g_s_ref {i : Nat} {e : E} {Q : Fl → List Slot → List OD → Prop} (w : Go (dE C e) sl st (fun r sl1 st1 => ∃ o, r = .new o ∧ ∃ sl', SetR i (.val (.obj st1.length)) sl1 sl' ∧ Q .next sl' (st1 ++ [o])) X) : Go (dS C (.ref i e)) sl st Q X := by
  try simp only [go_eq, clg_eq, thg_eq] at *
  apply s_ref <;> assumption
theorem g_s_setiO {i l : Nat} {k e : E} {Q : Fl → List Slot → List OD → Prop} (w : Go (dE C e) sl st (fun r sl1 st1 => Fz r fun x => sl1[i]? = some (.val (.obj l)) ∧ ∃ xs, st1[l]? = some (.lst xs) ∧ Go (dH C k) sl1 st1 (fun h sl2 st2 => VwG h sl2 st2 fun d => sl2[i]? = some (.val (.obj l)) ∧ ∃ o, st2[l]? = some o ∧ ∃ o', opSet o d x = some o' ∧ ∃ st', SetR l o' st2 st' ∧ Q .next sl2 st') X) X) : Go (dS C (.seti i k e)) sl st Q X := by
  try simp only [go_eq, clg_eq, thg_eq] at *
  apply s_setiO <;> assumption
theorem g_e_mutO {m : MU} {i : Nat} {es : List E} {xs : List Dv} {Q : RV → List Slot → List OD → Prop} (hc : sl[i]? = some (.own (.lst xs))) (w : Go (dVs C es) sl st (fun ys sl1 st1 => ∃ o, sl1[i]? = some (.own o) ∧ ∃ p, opMU m o ys = some p ∧ ∃ sl', SetR i (.own p.2) sl1 sl' ∧ Q (.val p.1) sl' st1) X) : Go (dE C (.mut m i es)) sl st Q X := by
  try simp only [go_eq, clg_eq, thg_eq] at *
  apply e_mutO <;> assumption
theorem g_s_ex {e : E} {Q : Fl → List Slot → List OD → Prop} (w : Go (dE C e) sl st (fun _ sl1 st1 => Q .next sl1 st1) X) : Go (dS C (.ex e)) sl st Q X := by
  try simp only [go_eq, clg_eq, thg_eq] at *
  apply s_ex <;> assumption
theorem g_s_ret {e : E} {Q : Fl → List Slot → List OD → Prop} (w : Go (dE C e) sl st (fun r sl1 st1 => Q (.ret r) sl1 st1) X) : Go (dS C (.ret e)) sl st Q X := by
  try simp only [go_eq, clg_eq, thg_eq] at *
  apply s_ret <;> assumption
theorem g_s_retvV {i : Nat} {x : Dv} {Q : Fl → List Slot → List OD → Prop} (h : sl[i]? = some (.val x)) (q : Q (.ret (.val x)) sl st) : Go (dS C (.retv i)) sl st Q X := by
  try simp only [go_eq, clg_eq, thg_eq] at *
  apply s_retvV <;> assumption
theorem g_s_retvO {i : Nat} {o : OD} {Q : Fl → List Slot → List OD → Prop} (h : sl[i]? = some (.own o)) (q : Q (.ret (.new o)) sl st) : Go (dS C (.retv i)) sl st Q X := by
  try simp only [go_eq, clg_eq, thg_eq] at *
  apply s_retvO <;> assumption
theorem g_s_pass {Q : Fl → List Slot → List OD → Prop} (q : Q .next sl st) : Go (dS C .pass) sl st Q X := by
  try simp only [go_eq, clg_eq, thg_eq] at *
  apply s_pass <;> assumption
theorem g_s_if {c : E} {a b : List S} {Q : Fl → List Slot → List OD → Prop} (w : Go (dT C c) sl st (fun t sl1 st1 => (t = true → Go (dSs C a) sl1 st1 Q X) ∧ (t = false → Go (dSs C b) sl1 st1 Q X)) X) : Go (dS C (.ife c a b)) sl st Q X := by
  try simp only [go_eq, clg_eq, thg_eq] at *
  apply s_if <;> assumption
theorem g_ss_cons {s : S} {r : List S} {Q : Fl → List Slot → List OD → Prop} (w : Go (dS C s) sl st (ThG C r Q X) X) : Go (dSs C (s :: r)) sl st Q X := by
  try simp only [go_eq, clg_eq, thg_eq] at *
  apply ss_cons <;> assumption
theorem g_ss_nil {Q : Fl → List Slot → List OD → Prop} (q : Q .next sl st) : Go (dSs C []) sl st Q X := by
  try simp only [go_eq, clg_eq, thg_eq] at *
  apply ss_nil <;> assumption
theorem g_th_next {r : List S} {Q : Fl → List Slot → List OD → Prop} (w : Go (dSs C r) sl st Q X) : ThG C r Q X .next sl st := by
  try simp only [go_eq, clg_eq, thg_eq] at *
  apply th_next <;> assumption
theorem g_th_ret {r : List S} {v : RV} {Q : Fl → List Slot → List OD → Prop} (w : Q (.ret v) sl st) : ThG C r Q X (.ret v) sl st := by
  try simp only [go_eq, clg_eq, thg_eq] at *
  apply th_ret <;> assumption
theorem g_th_brk {r : List S} {Q : Fl → List Slot → List OD → Prop} (w : Q .brk sl st) : ThG C r Q X .brk sl st := by
  try simp only [go_eq, clg_eq, thg_eq] at *
  apply th_brk <;> assumption
theorem g_th_cont {r : List S} {Q : Fl → List Slot → List OD → Prop} (w : Q .cont sl st) : ThG C r Q X .cont sl st := by
  try simp only [go_eq, clg_eq, thg_eq] at *
  apply th_cont <;> assumption
end
end Nw

set_option autoImplicit false
set_option maxRecDepth 100000
set_option maxHeartbeats 4000000
/-! Nw, part YD: the operations, the step. -/
namespace Nw
open PySem
theorem ex_at0 {xs : List Nw.Dv} {r : List OD} {P : List Nw.Dv → Prop} (p : P xs) : ∃ ys, (OD.lst xs :: r)[0]? = some (.lst ys) ∧ P ys := ⟨xs, rfl, p⟩
theorem ex_hd {o : OD} {r : List OD} {P : OD → Prop} (p : P o) : ∃ q, (o :: r)[0]? = some q ∧ P q := ⟨o, rfl, p⟩
theorem ex_ix {xs : List D} {i : Int} {P : D → Prop} (h : ∃ d, ixD xs i = some d ∧ P d) : ∃ r, opSub (.list xs) (.int i) = some r ∧ P r := h
theorem ex_ixT {xs : List D} {i : Int} {P : D → Prop} (h : ∃ d, ixD xs i = some d ∧ P d) : ∃ r, opSub (.tuple xs) (.int i) = some r ∧ P r := h
theorem ex_ixS {s : Str} {i : Int} {P : D → Prop} (hl : s.length ≤ 16777216) (h : ∃ c, ixD s.cps.toList i = some c ∧ P (.str ⟨#[c]⟩)) : ∃ r, opSub (.str s) (.int i) = some r ∧ P r := by
  obtain ⟨c, e, p⟩ := h
  refine ⟨_, ?_, p⟩
  show (if s.length ≤ 16777216 then (ixD s.cps.toList i).map fun c => PyData.str ⟨#[c]⟩ else none) = _
  rw [if_pos hl, e]
  rfl
theorem x_add {P : RV → Prop} {i j : Int} (p : P (.val (.py (.int (i + j))))) : ∃ r, opB .add (.int i) (.int j) = some r ∧ P r := ex_some p
theorem x_sub {P : RV → Prop} {i j : Int} (p : P (.val (.py (.int (i - j))))) : ∃ r, opB .sub (.int i) (.int j) = some r ∧ P r := ex_some p
theorem x_mul {P : RV → Prop} {i j : Int} (g : (big i || big j) = true) (p : P (.val (.py (.int (i * j))))) : ∃ r, opB .mul (.int i) (.int j) = some r ∧ P r := ex_guard g p
theorem x_fdiv {P : RV → Prop} {i j : Int} (g : decide (0 < j ∧ j.natAbs.log2 < 9000) = true) (p : P (.val (.py (.int (i / j))))) : ∃ r, opB .fdiv (.int i) (.int j) = some r ∧ P r := ex_guard g p
theorem x_mod {P : RV → Prop} {i j : Int} (g : decide (0 < j) = true) (p : P (.val (.py (.int (i % j))))) : ∃ r, opB .mod (.int i) (.int j) = some r ∧ P r := ex_guard g p
theorem x_pow {P : RV → Prop} {i j : Int} (g : decide (0 ≤ j ∧ j ≤ 1000000 ∧ i.natAbs < 2 ^ 64) = true) (p : P (.val (.py (.int (i ^ j.toNat))))) : ∃ r, opB .pow (.int i) (.int j) = some r ∧ P r := ex_guard g p
theorem x_band {P : RV → Prop} {i j : Int} (p : P (.val (.py (.int (Builtin.bitAnd i j))))) : ∃ r, opB .band (.int i) (.int j) = some r ∧ P r := ex_some p
theorem x_shr {P : RV → Prop} {i j : Int} (g : decide (0 ≤ j) = true) (p : P (.val (.py (.int (i / 2 ^ j.toNat))))) : ∃ r, opB .shr (.int i) (.int j) = some r ∧ P r := ex_guard g p
theorem x_shl {P : RV → Prop} {i j : Int} (g : decide (0 ≤ j ∧ j ≤ 1000000 ∧ i.natAbs < 2 ^ 64) = true) (p : P (.val (.py (.int (i * 2 ^ j.toNat))))) : ∃ r, opB .shl (.int i) (.int j) = some r ∧ P r := ex_guard g p
theorem x_addS {P : RV → Prop} {a b : Str} (g : fits (a.length + b.length) = true) (p : P (.val (.py (.str (a ++ b))))) : ∃ r, opB .add (.str a) (.str b) = some r ∧ P r := ex_guard g p
theorem x_addL {P : RV → Prop} {a b : List D} (g : fits (a.length + b.length) = true) (p : P (.new (.lst ((a ++ b).map .py)))) : ∃ r, opB .add (.list a) (.list b) = some r ∧ P r := ex_guard g p
theorem x_addT {P : RV → Prop} {a b : List D} (g : fits (a.length + b.length) = true) (p : P (.val (.py (.tuple (a ++ b))))) : ∃ r, opB .add (.tuple a) (.tuple b) = some r ∧ P r := ex_guard g p
theorem x_mulS {P : RV → Prop} {a : Str} {k : Int} (g : decide (-(2 ^ 63) ≤ k ∧ k.toNat ≤ 16777216 ∧ a.length * k.toNat ≤ 16777216) = true) (p : P (.val (.py (.str (Txt.mul a k))))) : ∃ r, opB .mul (.str a) (.int k) = some r ∧ P r := ex_guard g p
theorem or_tr {x y : Bool} (h : x = true) : (x || y) = true := by rw [h]; rfl
theorem eqvAll_len : ∀ {xs ys : List D}, PyData.eqvAll xs ys = true → xs.length = ys.length
  | [], [], _ => rfl
  | x :: xs, y :: ys, h => by
    simp only [PyData.eqvAll, Bool.and_eq_true] at h
    rw [List.length_cons, List.length_cons, eqvAll_len h.2]
  | [], _ :: _, h => by simp [PyData.eqvAll] at h
  | _ :: _, [], h => by simp [PyData.eqvAll] at h
theorem lenNe_eqv {a b : D} (h : lenNe a b = true) : PyData.eqv a b = false := by
  unfold lenNe at h
  split at h
  · rename_i xs ys
    cases e : PyData.eqv (.list xs) (.list ys) with
    | false => rfl
    | true =>
      simp only [PyData.eqv] at e
      have := eqvAll_len e
      simp [this] at h
  · simp only [PyData.eqv]
  · simp only [PyData.eqv]
  · cases h
theorem ne_guard {a b : D} {g : Bool} (h : lenNe a b = true ∨ g = true) : (if lenNe a b then some true else guardO g (!PyData.eqv a b)) = some (!PyData.eqv a b) := by
  cases e : lenNe a b with
  | true =>
    rw [lenNe_eqv e]
    rfl
  | false =>
    rw [e] at h
    rcases h with h | h
    · cases h
    · rw [h]
      rfl
theorem eq_guard {a b : D} {g : Bool} (h : lenNe a b = true ∨ g = true) : (if lenNe a b then some false else guardO g (PyData.eqv a b)) = some (PyData.eqv a b) := by
  cases e : lenNe a b with
  | true =>
    rw [lenNe_eqv e]
    rfl
  | false =>
    rw [e] at h
    rcases h with h | h
    · cases h
    · rw [h]
      rfl
theorem x_eqS {P : Bool → Prop} {a b : Str} (p : P (PyData.eqv (.str a) (.str b))) : ∃ r, opC .eq (.str a) (.str b) = some r ∧ P r := by
  have g : (shp (.str a) && shp (.str b) || twoStr (.str a) (.str b)) = true := by rw [show twoStr (.str a) (.str b) = true from rfl, Bool.or_true]
  exact ⟨_, eq_guard (a := .str a) (b := .str b) (.inr g), p⟩
theorem x_neS {P : Bool → Prop} {a b : Str} (p : P (!PyData.eqv (.str a) (.str b))) : ∃ r, opC .ne (.str a) (.str b) = some r ∧ P r := ⟨_, ne_guard (a := .str a) (b := .str b) (.inr (by rw [show twoStr (.str a) (.str b) = true from rfl, Bool.or_true])), p⟩
theorem x_eq {P : Bool → Prop} {a b : D} (g : (shp a && shp b) = true) (p : P (PyData.eqv a b)) : ∃ r, opC .eq a b = some r ∧ P r := ⟨_, eq_guard (.inr (or_tr g)), p⟩
theorem x_ne {P : Bool → Prop} {a b : D} (g : (shp a && shp b) = true) (p : P (!PyData.eqv a b)) : ∃ r, opC .ne a b = some r ∧ P r := ⟨_, ne_guard (.inr (or_tr g)), p⟩
theorem x_eqL0 {P : Bool → Prop} {xs : List D} (p : P xs.isEmpty) : ∃ r, opC .eq (.list xs) (.list []) = some r ∧ P r := by
  cases xs with
  | nil => exact ⟨true, by decide +kernel, p⟩
  | cons x r => exact ⟨false, rfl, p⟩
theorem x_ltS {P : Bool → Prop} {a b : Str} (p : P (decide (a.cps.toList < b.cps.toList))) : ∃ r, opC .lt (.str a) (.str b) = some r ∧ P r := ex_some p
theorem x_lt {P : Bool → Prop} {i j : Int} (p : P (decide (i < j))) : ∃ r, opC .lt (.int i) (.int j) = some r ∧ P r := ex_some p
theorem x_le {P : Bool → Prop} {i j : Int} (p : P (decide (i ≤ j))) : ∃ r, opC .le (.int i) (.int j) = some r ∧ P r := ex_some p
theorem x_gt {P : Bool → Prop} {i j : Int} (p : P (decide (j < i))) : ∃ r, opC .gt (.int i) (.int j) = some r ∧ P r := ex_some p
theorem x_ge {P : Bool → Prop} {i j : Int} (p : P (decide (j ≤ i))) : ∃ r, opC .ge (.int i) (.int j) = some r ∧ P r := ex_some p
theorem x_memS {P : Bool → Prop} {a b : Str} (p : P (inStr a b)) : ∃ r, opC .mem (.str a) (.str b) = some r ∧ P r := ex_some p
theorem x_nmemS {P : Bool → Prop} {a b : Str} (p : P (!inStr a b)) : ∃ r, opC .nmem (.str a) (.str b) = some r ∧ P r := ex_some p
theorem t_bool {P : Bool → Prop} {b : Bool} (p : P (b)) : ∃ r, truD (.bool b) = some r ∧ P r := ex_some p
theorem t_int {P : Bool → Prop} {i : Int} (p : P (i != 0)) : ∃ r, truD (.int i) = some r ∧ P r := ex_some p
theorem t_str {P : Bool → Prop} {s : Str} (g : fits s.length = true) (p : P (s.length != 0)) : ∃ r, truD (.str s) = some r ∧ P r := ex_guard g p
theorem t_list {P : Bool → Prop} {xs : List D} (p : P (!xs.isEmpty)) : ∃ r, truD (.list xs) = some r ∧ P r := ex_some p
theorem t_tup {P : Bool → Prop} {xs : List D} (p : P (!xs.isEmpty)) : ∃ r, truD (.tuple xs) = some r ∧ P r := ex_some p
theorem t_none {P : Bool → Prop}  (p : P (false)) : ∃ r, truD .none = some r ∧ P r := ex_some p
theorem b_lenS {P : RV → Prop} {s : Str} (g : fits s.length = true) (p : P (.val (.py (.int s.length)))) : ∃ r, opBI .len [.str s] = some r ∧ P r := ex_guard g p
theorem asStrs_map : ∀ ys : List Str, asStrs (ys.map .str) = some ys
  | [] => rfl
  | y :: r => by
    simp only [List.map_cons, asStrs, asStrs_map r]
    rfl
theorem b_setS {P : RV → Prop} {s : Str} (g : s.cps.size ≤ 4000) (p : P (.val (.py (.int (nubS (signs s)).length)))) : ∃ r, opBI .setlen [.str s] = some r ∧ P r := ex_guard (decide_eq_true g) p
theorem b_setL {P : RV → Prop} {ys : List Str} (g : ys.length ≤ 4000) (p : P (.val (.py (.int (nubS ys).length)))) : ∃ r, opBI .setlen [.list (ys.map .str)] = some r ∧ P r := by
  refine ⟨_, ?_, p⟩
  show (asStrs (ys.map .str)).bind _ = _
  rw [asStrs_map]
  show guardO _ _ = _
  rw [decide_eq_true g]
  rfl
theorem b_lenL {P : RV → Prop} {xs : List D} (p : P (.val (.py (.int xs.length)))) : ∃ r, opBI .len [.list xs] = some r ∧ P r := ex_some p
theorem b_lenT {P : RV → Prop} {xs : List D} (p : P (.val (.py (.int xs.length)))) : ∃ r, opBI .len [.tuple xs] = some r ∧ P r := ex_some p
theorem b_absI {P : RV → Prop} {i : Int} (p : P (.val (.py (.int (if i < 0 then -i else i))))) : ∃ r, opBI .abs [.int i] = some r ∧ P r := ex_some p
theorem b_intI {P : RV → Prop} {i : Int} (p : P (.val (.py (.int i)))) : ∃ r, opBI .int [.int i] = some r ∧ P r := ex_some p
theorem b_intB {P : RV → Prop} {b : Bool} (p : P (.val (.py (.int (if b then 1 else 0))))) : ∃ r, opBI .int [.bool b] = some r ∧ P r := ex_some p
theorem b_boolI {P : RV → Prop} {i : Int} (p : P (.val (.py (.bool (i != 0))))) : ∃ r, opBI .bool [.int i] = some r ∧ P r := ex_some p
theorem b_boolB {P : RV → Prop} {b : Bool} (p : P (.val (.py (.bool b)))) : ∃ r, opBI .bool [.bool b] = some r ∧ P r := ex_some p
theorem b_listL {P : RV → Prop} {xs : List D} (p : P (.new (.lst (xs.map .py)))) : ∃ r, opBI .list [.list xs] = some r ∧ P r := ex_some p
theorem b_listT {P : RV → Prop} {xs : List D} (p : P (.new (.lst (xs.map .py)))) : ∃ r, opBI .list [.tuple xs] = some r ∧ P r := ex_some p
theorem b_tupL {P : RV → Prop} {xs : List D} (p : P (.val (.py (.tuple xs)))) : ∃ r, opBI .tuple [.list xs] = some r ∧ P r := ex_some p
theorem b_tupT {P : RV → Prop} {xs : List D} (p : P (.val (.py (.tuple xs)))) : ∃ r, opBI .tuple [.tuple xs] = some r ∧ P r := ex_some p
theorem b_max2 {P : RV → Prop} {i j : Int} (p : P (.val (.py (.int (if j > i then j else i))))) : ∃ r, opBI .max [.int i, .int j] = some r ∧ P r := ex_some p
theorem b_min2 {P : RV → Prop} {i j : Int} (p : P (.val (.py (.int (if j < i then j else i))))) : ∃ r, opBI .min [.int i, .int j] = some r ∧ P r := ex_some p
theorem m_count {P : RV → Prop} {a b : Str} (p : P (.val (.py (.int (Txt.count a b))))) : ∃ r, opMT .count a [.str b] = some r ∧ P r := ex_some p
theorem m_find {P : RV → Prop} {a b : Str} (p : P (.val (.py (.int (Txt.find a b))))) : ∃ r, opMT .find a [.str b] = some r ∧ P r := ex_some p
theorem m_split {P : RV → Prop} {a b : Str} (g : (b.length != 0 && fits (a.length + 2)) = true) (p : P (.new (.lst (((Txt.split a b).map .str).map .py)))) : ∃ r, opMT .split a [.str b] = some r ∧ P r := ex_guard g p
theorem m_upper {P : RV → Prop} {a : Str} (g : decide (a.length ≤ 5592405) = true) (p : P (.val (.py (.str (Txt.upper a))))) : ∃ r, opMT .upper a [] = some r ∧ P r := ex_guard g p
theorem l_cutL {P : RV → Prop} {xs : List D} {lo hi : Option Int} (p : P (.new (.lst ((cutL xs lo hi).map .py)))) : ∃ r, opSli (.list xs) lo hi = some r ∧ P r := ex_some p
theorem l_cutT {P : RV → Prop} {xs : List D} {lo hi : Option Int} (p : P (.val (.py (.tuple (cutL xs lo hi))))) : ∃ r, opSli (.tuple xs) lo hi = some r ∧ P r := ex_some p
theorem l_cutS {P : RV → Prop} {s : Str} {lo hi : Option Int} (g : fits s.length = true) (p : P (.val (.py (.str ⟨(cutL s.cps.toList lo hi).toArray⟩)))) : ∃ r, opSli (.str s) lo hi = some r ∧ P r := ex_guard g p
theorem l_rev {P : RV → Prop} {xs : List D} (p : P (.new (.lst (xs.reverse.map .py)))) : ∃ r, opRev (.list xs) = some r ∧ P r := ex_some p
theorem u_app {P : Nw.Dv × OD → Prop} {xs : List Nw.Dv} {y : Nw.Dv} (g : decide (xs.length < 16777216) = true) (p : P ((.py .none, .lst (xs ++ [y])))) : ∃ r, opMU .append (.lst xs) [y] = some r ∧ P r := ex_guard g p
theorem it_str {P : List D → Prop} {s : Str} (p : P (s.cps.toList.map fun c => .str ⟨#[c]⟩)) : ∃ r, itemsOf (.str s) = some r ∧ P r := ex_some p
theorem it_list {P : List D → Prop} {xs : List D} (p : P (xs)) : ∃ r, itemsOf (.list xs) = some r ∧ P r := ex_some p
theorem it_tup {P : List D → Prop} {xs : List D} (p : P (xs)) : ∃ r, itemsOf (.tuple xs) = some r ∧ P r := ex_some p
theorem pn_get0 {P : D → Prop} {a b c : D} (p : P (a)) : ∃ r, opSub (.list [a, b, c]) (.int 0) = some r ∧ P r := ex_some p
theorem pn_set0 {P : OD → Prop} {a b c x : Nw.Dv} (p : P (.lst [x, b, c])) : ∃ r, opSet (.lst [a, b, c]) (.int 0) x = some r ∧ P r := ex_some p
theorem pn_get1 {P : D → Prop} {a b c : D} (p : P (b)) : ∃ r, opSub (.list [a, b, c]) (.int 1) = some r ∧ P r := ex_some p
theorem pn_set1 {P : OD → Prop} {a b c x : Nw.Dv} (p : P (.lst [a, x, c])) : ∃ r, opSet (.lst [a, b, c]) (.int 1) x = some r ∧ P r := ex_some p
theorem pn_get2 {P : D → Prop} {a b c : D} (p : P (c)) : ∃ r, opSub (.list [a, b, c]) (.int 2) = some r ∧ P r := ex_some p
theorem pn_set2 {P : OD → Prop} {a b c x : Nw.Dv} (p : P (.lst [a, b, x])) : ∃ r, opSet (.lst [a, b, c]) (.int 2) x = some r ∧ P r := ex_some p
theorem it_rng {P : List D → Prop} {n : Int} (h : decide (0 ≤ n ∧ n < 4611686018427387904) = true) (p : P ((List.range n.toNat).map fun (k : Nat) => .int (0 + (k : Int)))) : ∃ xs, rngD 0 n 1 = some xs ∧ P xs := by
  have h := of_decide_eq_true h
  refine ⟨_, ?_, p⟩
  unfold rngD
  rw [if_pos (by omega), if_pos rfl]
  simp
end Nw

set_option autoImplicit false
set_option maxRecDepth 100000
set_option maxHeartbeats 4000000
/-! Nw, part YE: the pen. -/
namespace Nw
open PySem
def drawB : List S := [(.ife (.tcmp .gt (.ev (.sub (.pk 0) (.ev (.cst (.int 2))))) (.ev (.cst (.int 0)))) [(.own 5 (.bin .mod (.ev (.sub (.pk 0) (.ev (.cst (.int 2))))) (.pk 1))), (.seti 0 (.ev (.cst (.int 2))) (.bin .fdiv (.ev (.sub (.pk 0) (.ev (.cst (.int 2))))) (.pk 1))), (.retv 5)] []), (.own 2 (.sub (.pk 0) (.ev (.cst (.int 1))))), (.seti 0 (.ev (.cst (.int 1))) (.bin .add (.pk 2) (.ev (.cst (.int 1))))), (.own 3 (.cst (.int 0))), (.ife (.tcmp .gt (.ev (.bi .len [(.ev (.sub (.pk 0) (.ev (.cst (.int 0)))))])) (.ev (.cst (.int 0)))) [(.own 3 (.sub (.ev (.sub (.pk 0) (.ev (.cst (.int 0))))) (.ev (.bin .mod (.pk 2) (.ev (.bi .len [(.ev (.sub (.pk 0) (.ev (.cst (.int 0)))))]))))))] []), (.ife (.tand (.tcmp .lt (.pk 2) (.ev (.bi .len [(.ev (.sub (.pk 0) (.ev (.cst (.int 0)))))]))) (.tcmp .ge (.ev (.bi .abs [(.pk 3)])) (.ev (.bin .pow (.ev (.cst (.int 10))) (.ev (.cst (.int 18))))))) [(.seti 0 (.ev (.cst (.int 2))) (.bin .fdiv (.ev (.bi .abs [(.pk 3)])) (.pk 1))), (.ret (.bin .mod (.ev (.bi .abs [(.pk 3)])) (.pk 1)))] []), (.own 4 (.bin .mod (.ev (.bin .add (.ev (.bin .add (.ev (.bin .mod (.pk 3) (.ev (.cst (.int 2147483579))))) (.ev (.bin .mul (.ev (.cst (.int 52361))) (.pk 2))))) (.ev (.cst (.int 7))))) (.ev (.cst (.int 2147483647))))), (.own 4 (.bin .mod (.ev (.bin .add (.ev (.bin .add (.ev (.bin .mul (.pk 4) (.pk 4))) (.ev (.bin .mul (.ev (.cst (.int 69427))) (.pk 2))))) (.ev (.cst (.int 5))))) (.ev (.cst (.int 2147483587))))), (.own 4 (.bin .mod (.ev (.bin .add (.ev (.bin .add (.ev (.bin .mul (.pk 4) (.pk 4))) (.ev (.bin .mul (.ev (.cst (.int 31))) (.pk 4))))) (.pk 2))) (.ev (.cst (.int 2147483563))))), (.ret (.bin .mod (.ev (.bin .fdiv (.pk 4) (.ev (.cst (.int 32))))) (.pk 1)))]
def Pn (ns : List Int) (rest : List OD) (st : List OD) : Prop := ∃ a b : Int, 0 ≤ a ∧ 0 ≤ b ∧ st = .lst [.py (.list (ns.map .int)), .py (.int a), .py (.int b)] :: rest
theorem ix_in {α : Type} {xs : List α} {i : Int} (h0 : 0 ≤ i) (h1 : i < xs.length) : ∃ x, xs[i.toNat]? = some x ∧ ixD xs i = some x := by
  have hi : i.toNat < xs.length := by omega
  refine ⟨xs[i.toNat], List.getElem?_eq_getElem hi, ?_⟩
  unfold ixD L2.atI
  have e : L2.ixN xs.length i = some i.toNat := by
    unfold L2.ixN
    rw [if_pos h0, if_pos h1]
  rw [e]
  exact List.getElem?_eq_getElem hi
theorem big_or {x y : Bool} (h : x = true) : (x || y) = true := by rw [h]; rfl
theorem fdiv_g {m : Int} (h0 : 0 < m) (h1 : m < 18446744073709551616) : decide (0 < m ∧ m.natAbs.log2 < 9000) = true := by
  refine decide_eq_true ⟨h0, ?_⟩
  have h2 : m.natAbs < 2 ^ 64 := by omega
  have h3 : m.natAbs.log2 < 64 := (Nat.log2_lt (by omega)).2 h2
  omega
theorem draw_ok {T : Str → Option Fn} {k : Nat} {m : Int} {ns : List Int} {rest st : List OD} (h : T "_law_draw" = some ⟨2, 6, drawB⟩) (h0 : 0 < m) (h1 : m < 18446744073709551616) (p : Pn ns rest st) :
    ClG (run T (k + 1)) "_law_draw" [.obj 0, .py (.int m)] st (fun r st' => ∃ d : Int, r = .val (.py (.int d)) ∧ 0 ≤ d ∧ d < m ∧ Pn ns rest st') NoX := by
  obtain ⟨a, b, ha, hb, rfl⟩ := p
  refine clg_run h rfl ?_
  simp only [drawB, List.map_cons, List.map_nil, List.replicate_succ, List.replicate_zero, Nat.reduceSub, List.cons_append, List.nil_append]
  have fin : ∀ (x y z : Int), 0 ≤ y → 0 ≤ z → ∃ d, RV.val (Dv.py (PyData.int (x % m))) = RV.val (Dv.py (PyData.int d)) ∧ 0 ≤ d ∧ d < m ∧ Pn ns rest (.lst [.py (.list (ns.map .int)), .py (.int y), .py (.int z)] :: rest) := fun x y z hy hz =>
    ⟨x % m, rfl, Int.emod_nonneg x (by omega), Int.emod_lt_of_pos x h0, y, z, hy, hz, rfl⟩
  have bigm : ∀ x : Int, big (x % 2147483647) = true ∧ big (x % 2147483587) = true := fun x => by
    have h1 := Int.emod_nonneg x (show (2147483647 : Int) ≠ 0 by decide)
    have h2 := Int.emod_lt_of_pos x (show (0 : Int) < 2147483647 by decide)
    have h3 := Int.emod_nonneg x (show (2147483587 : Int) ≠ 0 by decide)
    have h4 := Int.emod_lt_of_pos x (show (0 : Int) < 2147483587 by decide)
    unfold big
    constructor <;> (apply decide_eq_true; omega)
  have gm : decide (0 < m) = true := decide_eq_true h0
  have gf : decide (0 < m ∧ m.natAbs.log2 < 9000) = true := fdiv_g h0 h1
  have absn : ∀ c : Int, 0 ≤ (if c < 0 then -c else c) := fun c => by split <;> omega
  have divn : ∀ c : Int, 0 ≤ c → 0 ≤ c / m := fun c hc => Int.ediv_nonneg hc (by omega)
  have ixc : decide ((0 : Int) < ((ns.map PyData.int).length : Nat)) = true → ∃ c : Int, ixD (ns.map PyData.int) (a % ((ns.map PyData.int).length : Nat)) = some (.int c) := fun hl => by
    have hl := of_decide_eq_true hl
    obtain ⟨x, e1, e2⟩ := ix_in (xs := ns.map PyData.int) (Int.emod_nonneg a (by omega)) (Int.emod_lt_of_pos a hl)
    rw [List.getElem?_map, Option.map_eq_some_iff] at e1
    obtain ⟨c, _, rfl⟩ := e1
    exact ⟨c, e2⟩
  repeat' (first | (first
    | with_reducible refine g_ss_cons ?_
    | with_reducible refine g_e_conj ?_
    | with_reducible refine g_s_if ?_
    | with_reducible refine g_s_own ?_
    | with_reducible refine g_s_ret ?_
    | with_reducible refine g_ss_nil ?_
    | with_reducible refine g_s_ex ?_
    | with_reducible refine g_s_ref ?_
    | with_reducible refine g_s_pass ?_
    | with_reducible refine g_th_next ?_
    | with_reducible refine g_th_ret ?_
    | with_reducible refine g_th_brk ?_
    | with_reducible refine g_th_cont ?_
    | with_reducible refine g_t_cmp ?_
    | with_reducible refine g_t_tst ?_
    | with_reducible refine g_t_not ?_
    | with_reducible refine g_t_and ?_
    | with_reducible refine g_t_or ?_
    | with_reducible refine g_t_chain ?_
    | with_reducible refine g_h_ev ?_
    | with_reducible refine g_e_cst ?_
    | with_reducible refine g_e_glb ?_
    | with_reducible refine g_e_bin ?_
    | with_reducible refine g_e_sub ?_
    | with_reducible refine g_e_bi ?_
    | with_reducible refine g_e_cmp ?_
    | with_reducible refine g_e_lst ?_
    | with_reducible refine g_e_tup ?_
    | with_reducible refine g_e_call ?_
    | with_reducible refine g_e_met ?_
    | with_reducible refine g_e_isi ?_
    | with_reducible refine g_e_sli ?_
    | with_reducible refine g_e_rev ?_
    | with_reducible refine g_e_neg ?_
    | with_reducible refine g_e_not ?_
    | with_reducible refine g_e_chain ?_
    | with_reducible refine g_e_ife ?_
    | with_reducible refine g_m_opt ?_
    | with_reducible refine g_m_optN ?_
    | with_reducible refine g_hs_nil ?_
    | with_reducible refine g_hs_cons ?_
    | with_reducible refine g_vs_nil ?_
    | with_reducible refine g_vs_cons ?_
    | with_reducible refine g_i_ev ?_
    | with_reducible refine g_i_walk ?_
    | with_reducible refine g_i_rng ?_
    | with_reducible refine g_i_zip ?_
    | with_reducible refine g_b_one ?_
    | with_reducible refine g_b_nil ?_
    | with_reducible refine g_b_cons ?_
    | with_reducible refine g_b_tup ?_
    | with_reducible refine g_c_none ?_
    | with_reducible refine g_c_some ?_
    | with_reducible refine vi_py ?_
    | with_reducible refine lq_next ?_
    | with_reducible refine lq_cont ?_
    | with_reducible refine lq_brk ?_
    | with_reducible refine lq_ret ?_
    | with_reducible refine fzd_val ?_
    | with_reducible refine fz_newM ?_
    | with_reducible refine fzd_newM ?_
    | with_reducible refine g_s_setiO (l := 0) ?_
    | with_reducible refine g_vw_py ?_
    | with_reducible refine g_vws_nil ?_
    | with_reducible refine g_vws_cons ?_
    | with_reducible refine en_ret' ?_
    | with_reducible refine en_next' ?_
    | with_reducible refine ow_val ?_
    | with_reducible refine ow_new ?_
    | with_reducible refine fz_val ?_
    | with_reducible refine an_rfl ?_
    | with_reducible refine ex_ref ?_
    | with_reducible refine ex_str ?_
    | with_reducible refine ex_int ?_
    | with_reducible refine twoT ?_
    | with_reducible refine twoF ?_
    | ((with_reducible apply g_h_pk); exact rfl)
    | ((with_reducible apply g_h_pkO); exact rfl)
    | ((with_reducible apply g_h_pkL); exact rfl)
    | ((with_reducible apply g_e_var); exact rfl)
    | ((with_reducible apply g_s_retvV); exact rfl)
    | ((with_reducible apply g_s_retvO); exact rfl)
    | ((with_reducible apply g_e_mutO); exact rfl)
    | ((with_reducible apply fz_new); exact rfl)
    | ((with_reducible apply fzd_new); exact rfl)
    | ((with_reducible apply g_vw_ownM); exact rfl)
    | ((with_reducible apply g_vw_lokM); exact rfl)
    | ((with_reducible apply g_vw_obj); exact rfl; exact rfl)
    | ((with_reducible apply g_vw_own); exact rfl; exact rfl)
    | ((with_reducible apply g_vw_lok); exact rfl; exact rfl)
    | ((with_reducible apply g_e_varO); exact rfl; exact rfl)
    | ((with_reducible apply vi_own); exact rfl; exact rfl)
    | ((with_reducible apply vi_lok); exact rfl; exact rfl)
    | with_reducible refine x_add ?_
    | with_reducible refine x_sub ?_
    | with_reducible refine x_mul ?_ ?_
    | with_reducible refine x_fdiv ?_ ?_
    | with_reducible refine x_mod ?_ ?_
    | with_reducible refine x_pow ?_ ?_
    | with_reducible refine x_band ?_
    | with_reducible refine x_shr ?_ ?_
    | with_reducible refine x_shl ?_ ?_
    | with_reducible refine x_addS ?_ ?_
    | with_reducible refine x_addL ?_ ?_
    | with_reducible refine x_addT ?_ ?_
    | with_reducible refine x_mulS ?_ ?_
    | with_reducible refine x_eqS ?_
    | with_reducible refine x_neS ?_
    | with_reducible refine x_eq ?_ ?_
    | with_reducible refine x_ne ?_ ?_
    | with_reducible refine x_lt ?_
    | with_reducible refine x_le ?_
    | with_reducible refine x_gt ?_
    | with_reducible refine x_ge ?_
    | with_reducible refine x_memS ?_
    | with_reducible refine x_nmemS ?_
    | with_reducible refine t_bool ?_
    | with_reducible refine t_int ?_
    | with_reducible refine t_str ?_ ?_
    | with_reducible refine t_list ?_
    | with_reducible refine t_tup ?_
    | with_reducible refine t_none ?_
    | with_reducible refine b_lenS ?_ ?_
    | with_reducible refine b_lenL ?_
    | with_reducible refine b_lenT ?_
    | with_reducible refine b_absI ?_
    | with_reducible refine b_intI ?_
    | with_reducible refine b_intB ?_
    | with_reducible refine b_boolI ?_
    | with_reducible refine b_boolB ?_
    | with_reducible refine b_listL ?_
    | with_reducible refine b_listT ?_
    | with_reducible refine b_tupL ?_
    | with_reducible refine b_tupT ?_
    | with_reducible refine b_max2 ?_
    | with_reducible refine b_min2 ?_
    | with_reducible refine m_count ?_
    | with_reducible refine m_find ?_
    | with_reducible refine m_split ?_ ?_
    | with_reducible refine m_upper ?_ ?_
    | with_reducible refine l_cutL ?_
    | with_reducible refine l_cutT ?_
    | with_reducible refine l_cutS ?_ ?_
    | with_reducible refine l_rev ?_
    | with_reducible refine u_app ?_ ?_
    | with_reducible refine it_str ?_
    | with_reducible refine it_list ?_
    | with_reducible refine it_tup ?_
    | with_reducible refine pn_get0 ?_
    | with_reducible refine pn_set0 ?_
    | with_reducible refine pn_get1 ?_
    | with_reducible refine pn_set1 ?_
    | with_reducible refine pn_get2 ?_
    | with_reducible refine pn_set2 ?_
    | with_reducible refine ex_set SetR.n0 ?_
    | with_reducible refine ex_set SetR.n1 ?_
    | with_reducible refine ex_set SetR.n2 ?_
    | with_reducible refine ex_set SetR.n3 ?_
    | with_reducible refine ex_set SetR.n4 ?_
    | with_reducible refine ex_set SetR.n5 ?_
    | with_reducible refine ex_set SetR.n6 ?_
    | with_reducible refine ex_set SetR.n7 ?_
    | with_reducible refine ex_set SetR.n8 ?_
    | with_reducible refine ex_set SetR.n9 ?_
    | with_reducible refine ex_set SetR.n10 ?_
    | with_reducible refine ex_set SetR.n11 ?_
    | with_reducible refine ex_set SetR.n12 ?_
    | with_reducible refine ex_set SetR.n13 ?_
    | with_reducible refine ex_set SetR.n14 ?_
    | with_reducible refine ex_set SetR.n15 ?_
    | with_reducible refine ex_lst ?_
    | with_reducible refine it_rng (by decide) ?_
    | with_reducible refine ex_at0 ?_
    | with_reducible refine ex_hd ?_
    | ((with_reducible apply an); exact rfl)
    | ((with_reducible apply an); exact Nat.le_of_ble_eq_true rfl)
    | with_reducible refine two (fun hc => ?_) (fun hc => ?_)) | with_reducible assumption | ((with_reducible apply big_or); exact (bigm _).1) | ((with_reducible apply big_or); exact (bigm _).2) | exact fin _ _ _ (by first | assumption | omega) (by first | exact divn _ (absn _) | exact divn _ hb | assumption) | (with_reducible refine ex_ix ?_; obtain ⟨c, hcc⟩ := ixc (by assumption); refine ⟨_, hcc, ?_⟩) | exact rfl)
end Nw

set_option autoImplicit false
set_option maxRecDepth 100000
set_option maxHeartbeats 4000000
/-! Nw, part YF: walks, comprehensions, loops. -/
namespace Nw
open PySem
abbrev NoXF : XF := fun _ _ _ => False
section
variable {α : Type} {C : Call} {X : XF} {sl : List Slot} {st : List OD}
theorem Go.bind {β : Type} {m : M β} {f : β → M α} {Q : α → List Slot → List OD → Prop} (w : Go m sl st (fun b s t => Go (f b) s t Q X) X) : Go (m >>= f) sl st Q X := by
  refine ⟨?_⟩
  rw [wp_bind]
  exact w.out.mono (fun b f h => h.out) fun _ _ _ h => h
theorem Go.lift {o : Option α} {Q : α → List Slot → List OD → Prop} (h : ∃ a, o = some a ∧ Q a sl st) : Go (liftO o) sl st Q X := ⟨wp_some' h⟩
theorem Go.pure {a : α} {Q : α → List Slot → List OD → Prop} (q : Q a sl st) : Go (pure a) sl st Q X := ⟨q⟩
/-! sources -/
theorem g_i_ev {c : Bool} {a : E} {Q : List D → List Slot → List OD → Prop} (w : Go (dE C a) sl st (fun r s t => FzD r fun d => ∃ xs, itemsOf d = some xs ∧ Q xs s t) X) : Go (dI C c (.ev a)) sl st Q X := by
  show Go (itFM (toD (dE C a))) _ _ _ _
  unfold itFM
  refine Go.bind ⟨wp_toD (w.out.mono (fun r f h => ?_) fun _ _ _ h => h)⟩
  cases r with
  | val x =>
    cases x with
    | py d =>
      obtain ⟨xs, e, q⟩ := h
      exact Go.lift ⟨xs, e, q⟩
    | obj l => exact h.elim
  | new o =>
    obtain ⟨d, e0, xs, e, q⟩ := h
    exact ⟨d, e0, Go.lift ⟨xs, e, q⟩⟩
def Vi (h : Hd) (sl : List Slot) (st : List OD) (P : D → Prop) : Prop := ∃ d, viewIt h ⟨sl, st⟩ = .ok d ⟨sl, st⟩ ∧ P d
theorem vi_py {d : D} {P : D → Prop} (p : P d) : Vi (.dv (.py d)) sl st P := ⟨d, rfl, p⟩
theorem vi_own {i : Nat} {o : OD} {d : D} {P : D → Prop} (h : sl[i]? = some (.own o)) (e : o.toD = some d) (p : P d) : Vi (.slot i) sl st P := by
  refine ⟨d, ?_, p⟩
  simp only [viewIt, h, e]
  rfl
theorem vi_lok {i : Nat} {o : OD} {d : D} {P : D → Prop} (h : sl[i]? = some (.lok o)) (e : o.toD = some d) (p : P d) : Vi (.slot i) sl st P := by
  refine ⟨d, ?_, p⟩
  simp only [viewIt, h, e]
  rfl
theorem g_i_walk {a : E} {Q : List D → List Slot → List OD → Prop} (w : Go (dH C a) sl st (fun h s t => Vi h s t fun d => ∃ xs, itemsOf d = some xs ∧ Q xs s t) X) : Go (dI C true (.walk a)) sl st Q X := by
  show Go (itCM (dH C a)) _ _ _ _
  unfold itCM
  refine Go.bind (w.mono (fun h s t q => ?_) fun _ _ _ h => h)
  obtain ⟨d, e, q⟩ := q
  refine Go.bind ⟨?_⟩
  unfold Wp
  rw [e]
  exact Go.lift q
theorem g_i_rng {c : Bool} {a : E} {Q : List D → List Slot → List OD → Prop} (w : Go (dH C a) sl st (fun h s t => VwG h s t fun d => ∃ n, d = .int n ∧ ∃ xs, rngD 0 n 1 = some xs ∧ Q xs s t) X) : Go (dI C c (.rng1 a)) sl st Q X := by
  show Go (rngM (dH C a)) _ _ _ _
  unfold rngM
  rw [intM_bind]
  refine Go.bind (w.mono (fun h s t q => ?_) fun _ _ _ h => h)
  obtain ⟨d, e, n, rfl, q⟩ := q
  exact ⟨wp_vw ⟨_, e, (Go.lift (X := X) q).out⟩⟩
theorem g_i_zip {c : Bool} {a b : E} {Q : List D → List Slot → List OD → Prop} (w : Go (dE C a) sl st (fun r s t => FzD r fun d => Go (dE C b) s t (fun r s t => FzD r fun d' => ∃ xs, zipD d d' = some xs ∧ Q xs s t) X) X) : Go (dI C c (.zip a b)) sl st Q X := by
  show Go (zipM (toD (dE C a)) (toD (dE C b))) _ _ _ _
  unfold zipM
  have key : ∀ {d : D} {s : List Slot} {t : List OD}, Go (dE C b) s t (fun r s t => FzD r fun d' => ∃ xs, zipD d d' = some xs ∧ Q xs s t) X → Go (toD (dE C b) >>= fun d' => liftO (zipD d d')) s t Q X := by
    intro d s t w
    refine Go.bind ⟨wp_toD (w.out.mono (fun r f h => ?_) fun _ _ _ h => h)⟩
    cases r with
    | val x =>
      cases x with
      | py d => exact Go.lift h
      | obj l => exact h.elim
    | new o =>
      obtain ⟨d, e0, h⟩ := h
      exact ⟨d, e0, Go.lift h⟩
  refine Go.bind ⟨wp_toD (w.out.mono (fun r f h => ?_) fun _ _ _ h => h)⟩
  cases r with
  | val x =>
    cases x with
    | py d => exact key h
    | obj l => exact h.elim
  | new o =>
    obtain ⟨d, e0, h⟩ := h
    exact ⟨d, e0, key h⟩
/-! targets -/
theorem g_b_one {i : Nat} {d : D} {Q : Unit → List Slot → List OD → Prop} (h : ∃ sl', SetR i (.val (.py d)) sl sl' ∧ Q () sl' st) : Go (bindT (.one i) d) sl st Q X := by
  obtain ⟨sl', hs, q⟩ := h
  obtain ⟨h1, h2⟩ := hs.eq
  refine ⟨?_⟩
  show Wp (setS i (.val (.py d))) _ _ _
  rw [wp_setS]
  exact ⟨h1, by rw [h2]; exact q⟩
theorem g_b_nil {Q : Unit → List Slot → List OD → Prop} (q : Q () sl st) : Go (setAll [] []) sl st Q X := ⟨q⟩
theorem g_b_cons {i : Nat} {is : List Nat} {d : D} {ds : List D} {Q : Unit → List Slot → List OD → Prop} (h : ∃ sl', SetR i (.val (.py d)) sl sl' ∧ Go (setAll is ds) sl' st Q X) : Go (setAll (i :: is) (d :: ds)) sl st Q X := by
  obtain ⟨sl', hs, q⟩ := h
  obtain ⟨h1, h2⟩ := hs.eq
  refine Go.bind ⟨?_⟩
  rw [wp_setS]
  exact ⟨h1, by rw [h2]; exact q⟩
theorem g_b_tup {is : List Nat} {ds : List D} {Q : Unit → List Slot → List OD → Prop} (w : Go (setAll is ds) sl st Q X) : Go (bindT (.tup is) (.tuple ds)) sl st Q X := w
theorem g_s_unpT {is : List Nat} {e : E} {Q : Fl → List Slot → List OD → Prop} (w : Go (dH C e) sl st (fun h s t => VwG h s t fun d => ∃ ds, (d = .tuple ds ∨ d = .list ds) ∧ Go (setAll is ds) s t (fun _ s t => Q .next s t) X) X) : Go (dS C (.unp is e)) sl st Q X := by
  show Go (unpM is (dH C e)) _ _ _ _
  unfold unpM
  refine Go.bind (w.mono (fun h s t q => ?_) fun _ _ _ h => h)
  obtain ⟨d, e, ds, hd, q⟩ := q
  refine ⟨wp_vw ⟨d, e, ?_⟩⟩
  have q2 : Go (setAll is ds >>= fun _ => pure Fl.next) s t Q X := Go.bind (q.mono (fun _ s t q => Go.pure q) fun _ _ _ h => h)
  rcases hd with rfl | rfl <;> exact q2.out
/-! comprehensions -/
theorem compL_go {tg : Tg} {body : M (Option Dv)} {base sl0 : List Slot} (I : Nat → List Dv → List OD → Prop) : ∀ (xs : List D) (i : Nat) (acc : List Dv) (st : List OD) {Q : List Dv → List OD → Prop},
    (∀ j x acc st, xs[j]? = some x → I (i + j) acc st → Go ((bindT tg x : M Unit) >>= fun _ => body) base st (fun r _ st' => match r with
      | some v => acc.length < 16777216 ∧ I (i + j + 1) (acc ++ [v]) st'
      | none => I (i + j + 1) acc st') NoXF) → I i acc st → (∀ acc st, I (i + xs.length) acc st → Q acc st) → ∃ acc2 st', compL tg body base xs acc ⟨sl0, st⟩ = .ok acc2 ⟨sl0, st'⟩ ∧ Q acc2 st'
  | [], i, acc, st, Q, h, h0, q => ⟨acc, st, rfl, q acc st h0⟩
  | x :: r, i, acc, st, Q, h, h0, q => by
    have w := (h 0 x acc st rfl h0).out
    unfold Wp at w
    unfold compL
    dsimp only
    cases e : ((bindT tg x : M Unit) >>= fun _ => body) ⟨base, st⟩ with
    | stuck =>
      rw [e] at w
      exact w.elim
    | exc c p f =>
      rw [e] at w
      exact w.elim
    | ok v f =>
      rw [e] at w
      have hr : ∀ (acc : List Dv) (st : List OD), I (i + 0 + 1) acc st → ∃ acc' st', compL tg body base r acc ⟨sl0, st⟩ = .ok acc' ⟨sl0, st'⟩ ∧ Q acc' st' := fun acc st h1 =>
        compL_go I r (i + 1) acc st (fun j y acc st hy hi => by
          have z := h (j + 1) y acc st (by simpa using hy) (by rw [show i + (j + 1) = i + 1 + j by omega]; exact hi)
          rw [show i + (j + 1) + 1 = i + 1 + j + 1 by omega] at z
          exact z) h1 (fun acc st hi => q acc st (by rw [List.length_cons, show i + (r.length + 1) = i + 1 + r.length by omega]; exact hi))
      cases v with
      | some v =>
        obtain ⟨h1, h2⟩ := w
        dsimp only
        rw [if_pos h1]
        exact hr _ _ h2
      | none => exact hr _ _ w
theorem g_e_comp {tg : Tg} {src elt : E} {cond : Option E} {Q : RV → List Slot → List OD → Prop} (w : Go (dI C true src) sl st (fun xs sl1 st1 => ∃ I : Nat → List Dv → List OD → Prop, I 0 [] st1 ∧
    (∀ i x acc st2, xs[i]? = some x → I i acc st2 → Go (bindT tg x) (lockS (slotsT tg) sl1) st2 (fun _ sl3 st3 => Go (dC C cond) sl3 st3 (fun b sl4 st4 => (b = true → Go (dE C elt) sl4 st4 (fun r _ st5 => Fz r fun v => acc.length < 16777216 ∧ I (i + 1) (acc ++ [v]) st5) NoXF) ∧ (b = false → I (i + 1) acc st4)) NoXF) NoXF) ∧
    (∀ acc st2, I xs.length acc st2 → Q (.new (.lst acc)) sl1 st2)) X) : Go (dE C (.comp tg src cond elt)) sl st Q X := by
  show Go (compF tg (dI C true src) (dC C cond) (toV (dE C elt))) _ _ _ _
  unfold compF
  refine Go.bind (w.mono (fun xs s t q => ?_) fun _ _ _ h => h)
  obtain ⟨I, i0, step, fin⟩ := q
  obtain ⟨acc, t', e, q⟩ := compL_go (tg := tg) (body := bodyM (dC C cond) (toV (dE C elt))) (base := lockS (slotsT tg) s) (sl0 := s) I xs 0 [] t (Q := fun acc st => Q (.new (.lst acc)) s st) (fun j x acc st hx hi => by
    rw [Nat.zero_add] at hi ⊢
    refine Go.bind ((step j x acc st hx hi).mono (fun _ s3 t3 w => ?_) fun _ _ _ h => h)
    unfold bodyM
    refine Go.bind (w.mono (fun b s4 t4 w => ?_) fun _ _ _ h => h)
    cases b with
    | false => exact Go.pure (w.2 rfl)
    | true =>
      show Go (toV (dE C elt) >>= fun v => pure (some v)) _ _ _ _
      refine Go.bind ⟨wp_toV ((w.1 rfl).out.mono (fun r f h => ?_) fun _ _ _ h => h)⟩
      cases r with
      | val y => exact Go.pure h
      | new o =>
        obtain ⟨y, ey, h⟩ := h
        exact ⟨y, ey, Go.pure h⟩) i0 (fun acc st hi => fin acc st (by rw [Nat.zero_add] at hi; exact hi))
  refine ⟨?_⟩
  unfold Wp
  rw [compM_eq]
  dsimp only
  rw [e]
  exact q
theorem g_c_none {Q : Bool → List Slot → List OD → Prop} (q : Q true sl st) : Go (dC C none) sl st Q X := ⟨q⟩
theorem g_c_some {e : E} {Q : Bool → List Slot → List OD → Prop} (w : Go (dT C e) sl st Q X) : Go (dC C (some e)) sl st Q X := w
/-! loops -/
def LoopQ (Nx : List Slot → List OD → Prop) (Q : Fl → List Slot → List OD → Prop) : Fl → List Slot → List OD → Prop
  | .next, s, t => Nx s t
  | .cont, s, t => Nx s t
  | .brk, s, t => Q .next s t
  | .ret v, s, t => Q (.ret v) s t
theorem forL_go {tg : Tg} {body : M Fl} {Q : Fl → List Slot → List OD → Prop} (I : Nat → List Slot → List OD → Prop) : ∀ (xs : List D) (i : Nat) (sl : List Slot) (st : List OD),
    (∀ j x sl st, xs[j]? = some x → I (i + j) sl st → Go (bindT tg x) sl st (fun _ s t => Go body s t (LoopQ (I (i + j + 1)) Q) X) X) → I i sl st → (∀ sl st, I (i + xs.length) sl st → Q .next sl st) → Go (forL tg body xs) sl st Q X
  | [], i, sl, st, h, h0, q => Go.pure (q sl st h0)
  | x :: r, i, sl, st, h, h0, q => by
    have hr : ∀ (sl : List Slot) (st : List OD), I (i + 1) sl st → Go (forL tg body r) sl st Q X := fun sl st h1 =>
      forL_go I r (i + 1) sl st (fun j y sl st hy hi => by
        have z := h (j + 1) y sl st (by simpa using hy) (by rw [show i + (j + 1) = i + 1 + j by omega]; exact hi)
        rw [show i + (j + 1) + 1 = i + 1 + j + 1 by omega] at z
        exact z) h1 (fun sl st hi => q sl st (by rw [List.length_cons, show i + (r.length + 1) = i + 1 + r.length by omega]; exact hi))
    show Go (bindT tg x >>= fun _ => body >>= fun f => match f with
      | .next => forL tg body r
      | .cont => forL tg body r
      | .brk => pure .next
      | .ret v => pure (.ret v)) _ _ _ _
    refine Go.bind ((h 0 x sl st rfl h0).mono (fun _ s t w => ?_) fun _ _ _ h => h)
    refine Go.bind (w.mono (fun f s t q => ?_) fun _ _ _ h => h)
    cases f with
    | next => exact hr _ _ q
    | cont => exact hr _ _ q
    | brk => exact Go.pure q
    | ret v => exact Go.pure q
theorem g_s_for {tg : Tg} {src : E} {body : List S} {Q : Fl → List Slot → List OD → Prop} (w : Go (dI C false src) sl st (fun xs sl1 st1 => ∃ I : Nat → List Slot → List OD → Prop, I 0 sl1 st1 ∧
    (∀ i x sl2 st2, xs[i]? = some x → I i sl2 st2 → Go (bindT tg x) sl2 st2 (fun _ s t => Go (dSs C body) s t (LoopQ (I (i + 1)) Q) X) X) ∧ (∀ sl2 st2, I xs.length sl2 st2 → Q .next sl2 st2)) X) : Go (dS C (.for tg src body)) sl st Q X := by
  show Go (dI C false src >>= fun xs => forL tg (dSs C body) xs) _ _ _ _
  refine Go.bind (w.mono (fun xs s t q => ?_) fun _ _ _ h => h)
  obtain ⟨I, i0, step, fin⟩ := q
  exact forL_go I xs 0 s t (fun j x sl st hx hi => by
    rw [Nat.zero_add] at hi ⊢
    exact step j x sl st hx hi) i0 (fun sl st hi => fin sl st (by rw [Nat.zero_add] at hi; exact hi))
theorem lq_next {Nx : List Slot → List OD → Prop} {Q : Fl → List Slot → List OD → Prop} (h : Nx sl st) : LoopQ Nx Q .next sl st := h
theorem lq_cont {Nx : List Slot → List OD → Prop} {Q : Fl → List Slot → List OD → Prop} (h : Nx sl st) : LoopQ Nx Q .cont sl st := h
theorem lq_brk {Nx : List Slot → List OD → Prop} {Q : Fl → List Slot → List OD → Prop} (h : Q .next sl st) : LoopQ Nx Q .brk sl st := h
theorem lq_ret {Nx : List Slot → List OD → Prop} {Q : Fl → List Slot → List OD → Prop} {v : RV} (h : Q (.ret v) sl st) : LoopQ Nx Q (.ret v) sl st := h
theorem allD_map : ∀ xs : List D, allD (xs.map .py) = some xs
  | [] => rfl
  | x :: r => by
    show (allD (r.map .py)).map (x :: ·) = _
    rw [allD_map r]
    rfl
theorem toD_map {xs : List D} : (OD.lst (xs.map .py)).toD = some (.list xs) := by
  show (allD (xs.map .py)).map PyData.list = _
  rw [allD_map]
  rfl
theorem fz_newM {xs : List D} {P : Dv → Prop} (p : P (.py (.list xs))) : Fz (.new (.lst (xs.map .py))) P := ⟨_, by unfold OD.toDv; rw [toD_map]; rfl, p⟩
theorem fzd_newM {xs : List D} {P : D → Prop} (p : P (.list xs)) : FzD (.new (.lst (xs.map .py))) P := ⟨_, toD_map, p⟩
theorem g_vw_ownM {i : Nat} {xs : List D} {P : D → Prop} (h : sl[i]? = some (.own (.lst (xs.map .py)))) (p : P (.list xs)) : VwG (.slot i) sl st P := vw_own h toD_map p
theorem g_vw_lokM {i : Nat} {xs : List D} {P : D → Prop} (h : sl[i]? = some (.lok (.lst (xs.map .py)))) (p : P (.list xs)) : VwG (.slot i) sl st P := vw_lok h toD_map p
end
end Nw

set_option autoImplicit false
set_option maxRecDepth 100000
set_option maxHeartbeats 4000000
namespace Nw
open PySem
def abc : Str := "abcdefghijklmnopqrstuvwxyz"
def inA (c : Nat) : Bool := inStr ⟨#[c]⟩ abc
def isW : D → Bool
  | .str s => decide (1 ≤ (s.length : Int)) && decide ((s.length : Int) ≤ 6) && s.cps.toList.all inA
  | _ => false
def fine : D → Prop
  | .str s => s.length ≤ 16000000 ∧ ∀ c ∈ s.cps.toList, c < 1114112
  | _ => True
theorem take_s {α : Type} {l : List α} {i : Nat} {x : α} (h : l[i]? = some x) : l.take (i + 1) = l.take i ++ [x] := by
  rw [List.take_succ, h]
  rfl
theorem asB_map {α : Type} (f : α → Bool) : ∀ l : List α, asBools (l.map fun c => PyData.bool (f c)) = some (l.map f)
  | [] => rfl
  | x :: r => by
    show (asBools (r.map fun c => PyData.bool (f c))).map (f x :: ·) = _
    rw [asB_map f r]
    rfl
theorem x_all {α : Type} {f : α → Bool} {l : List α} {P : RV → Prop} (p : P (.val (.py (.bool (l.all f))))) : ∃ r, opBI .all [.list (l.map fun c => PyData.bool (f c))] = some r ∧ P r := by
  refine ⟨_, ?_, p⟩
  show (asBools (l.map fun c => PyData.bool (f c))).map _ = _
  rw [asB_map]
  simp [vD]
theorem not_str_w {d : D} (h : ∀ s, d ≠ .str s) : isW d = false := by
  cases d <;> first | rfl | exact absurd rfl (h _)
theorem not_str_i {d : D} (h : ∀ s, d ≠ .str s) : (["str"].any (isiD d)) = false := by
  cases d <;> first | rfl | exact absurd rfl (h _) | decide
def lowS (s : Str) : Prop := ∀ c ∈ s.cps.toList, c < 1114112
theorem len_l (l : List Nat) : (⟨l.toArray⟩ : Str).length = l.length := by simp [Str.length]
theorem join_chars (l : List Nat) : Txt.join ⟨#[]⟩ (l.map fun c => ⟨#[c]⟩) = ⟨l.toArray⟩ := by
  have h := PyProof.Rows.join_nil_signs ⟨l.toArray⟩
  have e : PyProof.Rows.signs (⟨l.toArray⟩ : Str) = l.map fun c => ⟨#[c]⟩ := by simp [PyProof.Rows.signs]
  rw [e] at h
  rw [show Txt.join ⟨#[]⟩ (l.map fun c => (⟨#[c]⟩ : Str)) = Str.join ⟨#[]⟩ (l.map fun c => ⟨#[c]⟩) from StrLaws.glued_eq_join _ _]
  exact h
theorem asS_map : ∀ l : List Nat, asStrs (l.map fun c => PyData.str ⟨#[c]⟩) = some (l.map fun c => ⟨#[c]⟩)
  | [] => rfl
  | x :: r => by
    show (asStrs (r.map fun c => PyData.str ⟨#[c]⟩)).map (⟨#[x]⟩ :: ·) = _
    rw [asS_map r]
    rfl
theorem sum_ones (l : List Nat) : ((l.map fun c => (⟨#[c]⟩ : Str)).map (·.length)).sum = l.length := by
  induction l with
  | nil => rfl
  | cons x r ih =>
    rw [List.map_cons, List.map_cons, List.sum_cons, ih, List.length_cons]
    show 1 + r.length = _
    omega
theorem x_join {l : List Nat} {P : RV → Prop} (h : l.length ≤ 1000) (p : P (.val (.py (.str ⟨l.toArray⟩)))) : ∃ r, opMT .join "" [.list (l.map fun c => PyData.str ⟨#[c]⟩)] = some r ∧ P r := by
  refine ⟨_, ?_, p⟩
  show (asStrs (l.map fun c => PyData.str ⟨#[c]⟩)).bind _ = _
  rw [asS_map]
  show guardO (fits (((l.map fun c => (⟨#[c]⟩ : Str)).map (·.length)).sum + (l.map fun c => (⟨#[c]⟩ : Str)).length * ("" : Str).length)) (vD (.str (Txt.join "" (l.map fun c => ⟨#[c]⟩)))) = _
  rw [sum_ones]
  have e : ("" : Str) = ⟨#[]⟩ := by decide
  rw [e, join_chars]
  have g : fits (l.length + (l.map fun c => (⟨#[c]⟩ : Str)).length * (⟨#[]⟩ : Str).length) = true := by
    apply decide_eq_true
    show l.length + (l.map fun c => (⟨#[c]⟩ : Str)).length * 0 ≤ 16777216
    omega
  unfold guardO
  rw [g]
  rfl
theorem lencat (a b : Str) : (a ++ b).length = a.length + b.length := PyProof.Rows.len_cat a b
theorem g_dic0 {C : Call} {sl : List Slot} {st : List OD} {Q : RV → List Slot → List OD → Prop} {X : XF} (q : Q (.new (.dic [])) sl st) : Go (dE C (.dic [])) sl st Q X := by
  have e : dE C (.dic []) = pure (.new (.dic [])) := by
    funext fr
    show (if okSl fr.sl fr.sl then (.ok (.new (.dic [])) fr : Res RV) else .stuck) = _
    rw [okSl_self]
    rfl
  rw [e]
  exact Go.pure q
theorem g_dic1 {C : Call} {a b : Str} {sl : List Slot} {st : List OD} {Q : RV → List Slot → List OD → Prop} {X : XF} (q : Q (.new (.dic [(.str a, .py (.str b))])) sl st) : Go (dE C (.dic [.cst (.str a), .cst (.str b)])) sl st Q X := by
  have e : dE C (.dic [.cst (.str a), .cst (.str b)]) = pure (.new (.dic [(.str a, .py (.str b))])) := by
    funext fr
    show (if okSl fr.sl fr.sl then (.ok (.new (.dic [(.str a, .py (.str b))])) fr : Res RV) else .stuck) = _
    rw [okSl_self]
    rfl
  rw [e]
  exact Go.pure q
theorem ex_allD {xs : List Nw.Dv} {ds : List D} {P : List D → Prop} (e : allD xs = some ds) (p : P ds) : ∃ d, allD xs = some d ∧ P d := ⟨ds, e, p⟩
theorem ex_ownS {sl : List Slot} {i : Nat} {o : OD} {P : OD → Prop} (h : sl[i]? = some (.own o)) (p : P o) : ∃ q, sl[i]? = some (.own q) ∧ P q := ⟨o, h, p⟩
end Nw

set_option autoImplicit false
set_option maxRecDepth 100000
set_option maxHeartbeats 4000000
namespace Nw
open PySem
/-! texts cut at a sign, plainly -/
abbrev mkS (l : List Nat) : Str := ⟨l.toArray⟩
theorem mkS_eta (s : Str) : mkS s.cps.toList = s := by cases s; simp [mkS]
theorem cps_mk (l : List Nat) : (mkS l).cps.toList = l := by simp [mkS]
def sp (c : Nat) : List Nat → List (List Nat)
  | [] => [[]]
  | x :: r => if x = c then [] :: sp c r else match sp c r with
    | [] => [[x]]
    | p :: q => (x :: p) :: q
def gl (c : Nat) : List (List Nat) → List Nat
  | [] => []
  | [p] => p
  | p :: q :: r => p ++ c :: gl c (q :: r)
theorem sp_ne (c : Nat) : ∀ l, sp c l ≠ []
  | [] => by simp [sp]
  | x :: r => by
    unfold sp
    split
    · simp
    · split <;> simp
theorem sp_free {c : Nat} : ∀ {p : List Nat}, c ∉ p → sp c p = [p]
  | [], _ => rfl
  | x :: r, h => by
    have h1 : x ≠ c := fun e => h (e ▸ List.mem_cons_self)
    have h2 : c ∉ r := fun e => h (List.mem_cons_of_mem _ e)
    unfold sp
    rw [if_neg h1, sp_free h2]
theorem sp_app {c : Nat} : ∀ {p l : List Nat}, c ∉ p → sp c (p ++ c :: l) = p :: sp c l
  | [], l, _ => by simp [sp]
  | x :: r, l, h => by
    have h1 : x ≠ c := fun e => h (e ▸ List.mem_cons_self)
    have h2 : c ∉ r := fun e => h (List.mem_cons_of_mem _ e)
    show sp c (x :: (r ++ c :: l)) = _
    rw [sp, if_neg h1, sp_app h2]
theorem sp_gl {c : Nat} : ∀ {ps : List (List Nat)}, ps ≠ [] → (∀ p ∈ ps, c ∉ p) → sp c (gl c ps) = ps
  | [], h, _ => absurd rfl h
  | [p], _, h => sp_free (h p List.mem_cons_self)
  | p :: q :: r, _, h => by
    show sp c (p ++ c :: gl c (q :: r)) = _
    rw [sp_app (h p List.mem_cons_self), sp_gl (by simp) fun x hx => h x (List.mem_cons_of_mem _ hx)]
theorem gl_sp (c : Nat) : ∀ l, gl c (sp c l) = l
  | [] => rfl
  | x :: r => by
    have ih := gl_sp c r
    unfold sp
    split
    · rename_i e
      subst e
      cases h : sp x r with
      | nil => exact absurd h (sp_ne x r)
      | cons p q =>
        rw [h] at ih
        show [] ++ x :: gl x (p :: q) = _
        rw [ih]
        rfl
    · cases h : sp c r with
      | nil => exact absurd h (sp_ne c r)
      | cons p q =>
        rw [h] at ih
        cases q with
        | nil =>
          show x :: p = _
          rw [show p = r from ih]
        | cons q1 q2 =>
          show (x :: p) ++ c :: gl c (q1 :: q2) = _
          rw [List.cons_append, show p ++ c :: gl c (q1 :: q2) = r from ih]
theorem mem_sp {c x : Nat} {p : List Nat} : ∀ {l : List Nat}, p ∈ sp c l → x ∈ p → x ∈ l ∧ x ≠ c
  | [], h, hx => by
    rw [sp, List.mem_singleton] at h
    subst h
    exact absurd hx (by simp)
  | y :: r, h, hx => by
    unfold sp at h
    split at h
    · rename_i e
      rcases List.mem_cons.mp h with rfl | h
      · exact absurd hx (by simp)
      · have := mem_sp h hx
        exact ⟨List.mem_cons_of_mem _ this.1, this.2⟩
    · rename_i e
      cases g : sp c r with
      | nil => exact absurd g (sp_ne c r)
      | cons p' q' =>
        rw [g] at h
        have h : p ∈ (y :: p') :: q' := h
        rcases List.mem_cons.mp h with rfl | h
        · rcases List.mem_cons.mp hx with rfl | hx
          · exact ⟨List.mem_cons_self, e⟩
          · have := mem_sp (c := c) (l := r) (p := p') (g ▸ List.mem_cons_self) hx
            exact ⟨List.mem_cons_of_mem _ this.1, this.2⟩
        · have := mem_sp (c := c) (l := r) (p := p) (g ▸ List.mem_cons_of_mem _ h) hx
          exact ⟨List.mem_cons_of_mem _ this.1, this.2⟩
theorem cps_app (a b : Str) : (a ++ b).cps.toList = a.cps.toList ++ b.cps.toList := by
  show (a.cps ++ b.cps).toList = _
  simp
theorem join_gl (c : Nat) : ∀ ps : List Str, (Str.join ⟨#[c]⟩ ps).cps.toList = gl c (ps.map (·.cps.toList))
  | [] => rfl
  | [p] => rfl
  | p :: q :: r => by
    show ((p ++ ⟨#[c]⟩ ++ Str.join ⟨#[c]⟩ (q :: r)).cps.toList) = p.cps.toList ++ c :: gl c ((q :: r).map (·.cps.toList))
    rw [cps_app, cps_app, join_gl c (q :: r)]
    simp
theorem split_nil (s : Str) (c : Nat) : Txt.split s ⟨#[c]⟩ ≠ [] := fun e => by
  have h := StrLaws.join_split s ⟨#[c]⟩
  rw [e] at h
  subst h
  unfold Txt.split at e
  rw [if_pos (by simp [Str.join, Str.empty, Str.length])] at e
  cases e
theorem split_sp (s : Str) (c : Nat) : Txt.split s ⟨#[c]⟩ = (sp c s.cps.toList).map mkS := by
  have h := join_gl c (Txt.split s ⟨#[c]⟩)
  rw [StrLaws.join_split] at h
  rw [h, sp_gl (by simp [split_nil]) (by
    intro p hp
    obtain ⟨q, hq, rfl⟩ := List.mem_map.mp hp
    exact StrLaws.split_free s c q hq), List.map_map]
  have e : (mkS ∘ fun x : Str => x.cps.toList) = id := by
    funext x
    exact mkS_eta x
  rw [e, List.map_id]
/-! names -/
def isWl (p : List Nat) : Bool := decide (1 ≤ p.length) && decide (p.length ≤ 6) && p.all inA
theorem isW_mk (p : List Nat) : isW (.str (mkS p)) = isWl p := by
  have e : ((mkS p).length : Int) = (p.length : Int) := by rw [len_l]
  show (decide (1 ≤ ((mkS p).length : Int)) && decide (((mkS p).length : Int) ≤ 6) && (mkS p).cps.toList.all inA) = _
  rw [cps_mk, e]
  unfold isWl
  congr 2 <;> exact decide_eq_decide.mpr (by omega)
def wordsl (l : List Nat) : List (List Nat) := if l = [] then [] else sp 46 l
def isNl (l : List Nat) : Bool := decide ((wordsl l).length ≤ 4) && (wordsl l).all isWl
def isN : D → Bool
  | .str s => isNl s.cps.toList
  | _ => false
end Nw

set_option autoImplicit false
set_option maxRecDepth 100000
set_option maxHeartbeats 4000000
/-! Nw, part ZG: comprehensions by what one element brings. -/
namespace Nw
open PySem
section
variable {C : Call} {X : XF} {sl : List Slot} {st : List OD}
theorem take_map_s {α β : Type} {l : List α} {f : α → β} {i : Nat} {x : α} (h : l[i]? = some x) : (l.take (i + 1)).map f = (l.take i).map f ++ [f x] := by
  rw [take_s h, List.map_append]
  rfl
theorem g_e_compM {α : Type} (f g : α → D) {tg : Tg} {src elt : E} {Q : RV → List Slot → List OD → Prop} (w : Go (dI C true src) sl st (fun xs sl1 st1 => ∃ l : List α, xs = l.map f ∧ l.length ≤ 16777216 ∧
    (∀ y ∈ l, Go (bindT tg (f y)) (lockS (slotsT tg) sl1) st1 (fun _ sl3 st3 => Go (dE C elt) sl3 st3 (fun r _ st5 => Fz r fun v => v = .py (g y) ∧ st5 = st1) NoXF) NoXF) ∧
    Q (.new (.lst ((l.map g).map .py))) sl1 st1) X) : Go (dE C (.comp tg src none elt)) sl st Q X := by
  refine g_e_comp (w.mono (fun xs s t q => ?_) fun _ _ _ h => h)
  obtain ⟨l, rfl, hl, step, q⟩ := q
  refine ⟨fun i acc st' => st' = t ∧ acc = ((l.take i).map g).map .py, ⟨rfl, rfl⟩, fun i x acc st2 hx hi => ?_, fun acc st2 hi => ?_⟩
  · obtain ⟨rfl, rfl⟩ := hi
    rw [List.getElem?_map, Option.map_eq_some_iff] at hx
    obtain ⟨y, hy, rfl⟩ := hx
    refine (step y (List.mem_of_getElem? hy)).mono (fun _ s3 t3 w => ?_) fun _ _ _ h => h
    refine g_c_none ⟨fun _ => w.mono (fun r _ t5 h => ?_) fun _ _ _ h => h, fun z => nomatch z⟩
    have hlt : i < l.length := (List.getElem?_eq_some_iff.mp hy).1
    have key : ∀ v : Dv, (v = .py (g y) ∧ t5 = st2) → (((l.take i).map g).map Dv.py).length < 16777216 ∧ t5 = st2 ∧ ((l.take i).map g).map Dv.py ++ [v] = ((l.take (i + 1)).map g).map .py := fun v hv => by
      obtain ⟨rfl, rfl⟩ := hv
      refine ⟨by simp only [List.length_map, List.length_take]; omega, rfl, ?_⟩
      rw [take_map_s hy, List.map_append]
      rfl
    cases r with
    | val x => exact key x h
    | new o =>
      obtain ⟨v, e, hv⟩ := h
      exact ⟨v, e, key v hv⟩
  · obtain ⟨rfl, rfl⟩ := hi
    rw [List.length_map, List.take_length]
    exact q
theorem g_e_compF {α : Type} (f : α → D) (p : α → Bool) (g : α → D) {tg : Tg} {src elt c : E} {Q : RV → List Slot → List OD → Prop} (w : Go (dI C true src) sl st (fun xs sl1 st1 => ∃ l : List α, xs = l.map f ∧ l.length ≤ 16777216 ∧
    (∀ y ∈ l, Go (bindT tg (f y)) (lockS (slotsT tg) sl1) st1 (fun _ sl3 st3 => Go (dT C c) sl3 st3 (fun b sl4 st4 => b = p y ∧ st4 = st1 ∧ (p y = true → Go (dE C elt) sl4 st4 (fun r _ st5 => Fz r fun v => v = .py (g y) ∧ st5 = st1) NoXF)) NoXF) NoXF) ∧
    Q (.new (.lst (((l.filter p).map g).map .py))) sl1 st1) X) : Go (dE C (.comp tg src (some c) elt)) sl st Q X := by
  refine g_e_comp (w.mono (fun xs s t q => ?_) fun _ _ _ h => h)
  obtain ⟨l, rfl, hl, step, q⟩ := q
  refine ⟨fun i acc st' => st' = t ∧ acc = (((l.take i).filter p).map g).map .py, ⟨rfl, rfl⟩, fun i x acc st2 hx hi => ?_, fun acc st2 hi => ?_⟩
  · obtain ⟨rfl, rfl⟩ := hi
    rw [List.getElem?_map, Option.map_eq_some_iff] at hx
    obtain ⟨y, hy, rfl⟩ := hx
    refine (step y (List.mem_of_getElem? hy)).mono (fun _ s3 t3 w => ?_) fun _ _ _ h => h
    refine g_c_some (w.mono (fun b s4 t4 h => ?_) fun _ _ _ h => h)
    obtain ⟨rfl, rfl, h⟩ := h
    refine ⟨fun e => (h e).mono (fun r _ t5 h => ?_) fun _ _ _ h => h, fun e => ?_⟩
    · have hlt : i < l.length := (List.getElem?_eq_some_iff.mp hy).1
      have key : ∀ v : Dv, (v = .py (g y) ∧ t5 = t4) → ((((l.take i).filter p).map g).map Dv.py).length < 16777216 ∧ t5 = t4 ∧ (((l.take i).filter p).map g).map Dv.py ++ [v] = (((l.take (i + 1)).filter p).map g).map .py := fun v hv => by
        obtain ⟨rfl, rfl⟩ := hv
        refine ⟨?_, rfl, ?_⟩
        · have := List.length_filter_le p (l.take i)
          simp only [List.length_map, List.length_take] at this ⊢
          omega
        · rw [take_s hy, List.filter_append, List.map_append, List.map_append]
          simp [e]
      cases r with
      | val x => exact key x h
      | new o =>
        obtain ⟨v, e, hv⟩ := h
        exact ⟨v, e, key v hv⟩
    · refine ⟨rfl, ?_⟩
      rw [take_s hy, List.filter_append]
      simp [e]
  · obtain ⟨rfl, rfl⟩ := hi
    rw [List.length_map, List.take_length]
    exact q
theorem g_e_compA {tg : Tg} {src elt : E} (P : D → Prop) (J : Nat → List OD → Prop) {Q : RV → List Slot → List OD → Prop} (w : Go (dI C true src) sl st (fun xs sl1 st1 => xs.length ≤ 16777216 ∧ J 0 st1 ∧
    (∀ i x st2, xs[i]? = some x → J i st2 → Go (bindT tg x) (lockS (slotsT tg) sl1) st2 (fun _ sl3 st3 => Go (dE C elt) sl3 st3 (fun r _ st5 => Fz r fun v => ∃ d, v = .py d ∧ P d ∧ J (i + 1) st5) NoXF) NoXF) ∧
    (∀ (ds : List D) st2, ds.length = xs.length → (∀ d ∈ ds, P d) → J xs.length st2 → Q (.new (.lst (ds.map .py))) sl1 st2)) X) : Go (dE C (.comp tg src none elt)) sl st Q X := by
  refine g_e_comp (w.mono (fun xs s t q => ?_) fun _ _ _ h => h)
  obtain ⟨hl, j0, step, q⟩ := q
  refine ⟨fun i acc st' => J i st' ∧ ∃ ds : List D, acc = ds.map .py ∧ ds.length = i ∧ ∀ d ∈ ds, P d, ⟨j0, [], rfl, rfl, by simp⟩, fun i x acc st2 hx hi => ?_, fun acc st2 hi => ?_⟩
  · obtain ⟨j2, ds, rfl, hd, hp⟩ := hi
    have hlt : i < xs.length := (List.getElem?_eq_some_iff.mp hx).1
    refine (step i x st2 hx j2).mono (fun _ s3 t3 w => ?_) fun _ _ _ h => h
    refine g_c_none ⟨fun _ => w.mono (fun r _ t5 h => ?_) fun _ _ _ h => h, fun z => nomatch z⟩
    have key : ∀ v : Dv, (∃ d, v = .py d ∧ P d ∧ J (i + 1) t5) → (ds.map Dv.py).length < 16777216 ∧ J (i + 1) t5 ∧ ∃ ds2 : List D, ds.map Dv.py ++ [v] = ds2.map .py ∧ ds2.length = i + 1 ∧ ∀ d ∈ ds2, P d := fun v hv => by
      obtain ⟨d, rfl, hd2, j5⟩ := hv
      refine ⟨by rw [List.length_map]; omega, j5, ds ++ [d], by simp, by simp [hd], fun y hy => ?_⟩
      rcases List.mem_append.mp hy with hy | hy
      · exact hp y hy
      · rw [List.mem_singleton.mp hy]
        exact hd2
    cases r with
    | val x => exact key x h
    | new o =>
      obtain ⟨v, e, hv⟩ := h
      exact ⟨v, e, key v hv⟩
  · obtain ⟨j2, ds, rfl, hd, hp⟩ := hi
    exact q ds st2 hd hp j2
theorem g_e_compAf {tg : Tg} {src elt c : E} (P : D → Prop) (J : Nat → List OD → Prop) {Q : RV → List Slot → List OD → Prop} (w : Go (dI C true src) sl st (fun xs sl1 st1 => xs.length ≤ 16777216 ∧ J 0 st1 ∧
    (∀ i x st2, xs[i]? = some x → J i st2 → Go (bindT tg x) (lockS (slotsT tg) sl1) st2 (fun _ sl3 st3 => Go (dT C c) sl3 st3 (fun b sl4 st4 => (b = true → Go (dE C elt) sl4 st4 (fun r _ st5 => Fz r fun v => ∃ d, v = .py d ∧ P d ∧ J (i + 1) st5) NoXF) ∧ (b = false → J (i + 1) st4)) NoXF) NoXF) ∧
    (∀ (ds : List D) st2, ds.length ≤ xs.length → (∀ d ∈ ds, P d) → J xs.length st2 → Q (.new (.lst (ds.map .py))) sl1 st2)) X) : Go (dE C (.comp tg src (some c) elt)) sl st Q X := by
  refine g_e_comp (w.mono (fun xs s t q => ?_) fun _ _ _ h => h)
  obtain ⟨hl, j0, step, q⟩ := q
  refine ⟨fun i acc st' => J i st' ∧ ∃ ds : List D, acc = ds.map .py ∧ ds.length ≤ i ∧ ∀ d ∈ ds, P d, ⟨j0, [], rfl, Nat.le_refl _, by simp⟩, fun i x acc st2 hx hi => ?_, fun acc st2 hi => ?_⟩
  · obtain ⟨j2, ds, rfl, hd, hp⟩ := hi
    have hlt : i < xs.length := (List.getElem?_eq_some_iff.mp hx).1
    refine (step i x st2 hx j2).mono (fun _ s3 t3 w => ?_) fun _ _ _ h => h
    refine g_c_some (w.mono (fun b s4 t4 h => ?_) fun _ _ _ h => h)
    refine ⟨fun e => (h.1 e).mono (fun r _ t5 h => ?_) fun _ _ _ h => h, fun e => ⟨h.2 e, ds, rfl, by omega, hp⟩⟩
    have key : ∀ v : Dv, (∃ d, v = .py d ∧ P d ∧ J (i + 1) t5) → (ds.map Dv.py).length < 16777216 ∧ J (i + 1) t5 ∧ ∃ ds2 : List D, ds.map Dv.py ++ [v] = ds2.map .py ∧ ds2.length ≤ i + 1 ∧ ∀ d ∈ ds2, P d := fun v hv => by
      obtain ⟨d, rfl, hd2, j5⟩ := hv
      refine ⟨by rw [List.length_map]; omega, j5, ds ++ [d], by simp, by simp; omega, fun y hy => ?_⟩
      rcases List.mem_append.mp hy with hy | hy
      · exact hp y hy
      · rw [List.mem_singleton.mp hy]
        exact hd2
    cases r with
    | val x => exact key x h
    | new o =>
      obtain ⟨v, e, hv⟩ := h
      exact ⟨v, e, key v hv⟩
  · obtain ⟨j2, ds, rfl, hd, hp⟩ := hi
    exact q ds st2 hd hp j2
end
end Nw

set_option autoImplicit false
set_option maxRecDepth 100000
set_option maxHeartbeats 4000000
/-! Nw, part ZO: data of a bounded size. -/
namespace Nw
open PySem
structure OkD (n k : Nat) (d : D) : Prop where
  lay : d.canLay0 = true
  dep : d.depth ≤ k
  sh : d.showable = true
  iok : d.intsShort 30 = true
  w : d.weight ≤ n
structure OkDs (n k : Nat) (ds : List D) : Prop where
  lay : PyData.canLayAll0 ds = true
  dep : PyData.depthAll ds ≤ k
  sh : PyData.showableAll ds = true
  iok : PyData.intsShortAll 30 ds = true
  w : PyData.weightAll ds ≤ n
theorem OkD.mono {n k m j : Nat} {d : D} (h : OkD n k d) (hn : n ≤ m) (hk : k ≤ j) : OkD m j d := ⟨h.lay, Nat.le_trans h.dep hk, h.sh, h.iok, Nat.le_trans h.w hn⟩
theorem OkDs.mono {n k m j : Nat} {d : List D} (h : OkDs n k d) (hn : n ≤ m) (hk : k ≤ j) : OkDs m j d := ⟨h.lay, Nat.le_trans h.dep hk, h.sh, h.iok, Nat.le_trans h.w hn⟩
theorem OkDs.nil {n k : Nat} : OkDs n k [] := ⟨by simp only [PyData.canLayAll0], by simp only [PyData.depthAll]; omega, by simp only [PyData.showableAll], by simp only [PyData.intsShortAll], by simp only [PyData.weightAll]; omega⟩
theorem OkDs.cons {n m k : Nat} {d : D} {ds : List D} (h : OkD n k d) (t : OkDs m k ds) : OkDs (n + 1 + m) k (d :: ds) := by
  refine ⟨?_, ?_, ?_, ?_, ?_⟩
  · simp only [PyData.canLayAll0, h.lay, t.lay, Bool.and_self]
  · have := h.dep
    have := t.dep
    simp only [PyData.depthAll]
    omega
  · simp only [PyData.showableAll, h.sh, t.sh, Bool.and_self]
  · simp only [PyData.intsShortAll, h.iok, t.iok, Bool.and_self]
  · have := h.w
    have := t.w
    simp only [PyData.weightAll]
    omega
theorem OkDs.all {n k : Nat} : ∀ {ds : List D}, (∀ d ∈ ds, OkD n k d) → OkDs ((n + 1) * ds.length) k ds
  | [], _ => .nil
  | d :: ds, h => by
    refine (OkDs.cons (h d List.mem_cons_self) (OkDs.all fun x hx => h x (List.mem_cons_of_mem _ hx))).mono ?_ (Nat.le_refl _)
    rw [List.length_cons, Nat.mul_add]
    omega
theorem OkDs.append {n m k : Nat} : ∀ {ds es : List D}, OkDs n k ds → OkDs m k es → OkDs (n + m) k (ds ++ es)
  | [], es, _, t => t.mono (by omega) (Nat.le_refl _)
  | d :: ds, es, h, t => by
    have h1 := h.lay
    have h2 := h.dep
    have h3 := h.sh
    have h4 := h.iok
    have h5 := h.w
    simp only [PyData.canLayAll0, PyData.depthAll, PyData.showableAll, PyData.intsShortAll, PyData.weightAll, Bool.and_eq_true] at h1 h2 h3 h4 h5
    have hd : OkD d.weight k d := ⟨h1.1, by omega, h3.1, h4.1, Nat.le_refl _⟩
    have hr : OkDs (PyData.weightAll ds) k ds := ⟨h1.2, by omega, h3.2, h4.2, Nat.le_refl _⟩
    exact (OkDs.cons hd (OkDs.append hr t)).mono (by omega) (Nat.le_refl _)
theorem OkD.tup {n k : Nat} {ds : List D} (h : OkDs n k ds) : OkD n (k + 1) (.tuple ds) := by
  have h2 := h.dep
  refine ⟨?_, ?_, ?_, ?_, ?_⟩
  · simp only [PyData.canLay0]; exact h.lay
  · simp only [PyData.depth]; omega
  · simp only [PyData.showable]; exact h.sh
  · simp only [PyData.intsShort]; exact h.iok
  · simp only [PyData.weight]; exact h.w
theorem OkD.lst {n k : Nat} {ds : List D} (h : OkDs n k ds) : OkD n (k + 1) (.list ds) := by
  have h2 := h.dep
  refine ⟨?_, ?_, ?_, ?_, ?_⟩
  · simp only [PyData.canLay0]; exact h.lay
  · simp only [PyData.depth]; omega
  · simp only [PyData.showable]; exact h.sh
  · simp only [PyData.intsShort]; exact h.iok
  · simp only [PyData.weight]; exact h.w
theorem OkDs.at {n k : Nat} : ∀ {ds : List D} {d : D}, OkDs n k ds → d ∈ ds → OkD n k d
  | [], d, _, h => by simp at h
  | x :: ds, d, h, hm => by
    have h1 := h.lay
    have h2 := h.dep
    have h3 := h.sh
    have h4 := h.iok
    have h5 := h.w
    simp only [PyData.canLayAll0, PyData.depthAll, PyData.showableAll, PyData.intsShortAll, PyData.weightAll, Bool.and_eq_true] at h1 h2 h3 h4 h5
    rcases List.mem_cons.mp hm with rfl | hm
    · exact ⟨h1.1, by omega, h3.1, h4.1, by omega⟩
    · exact OkDs.at ⟨h1.2, by omega, h3.2, h4.2, by omega⟩ hm
theorem OkD.none {n k : Nat} : OkD n k .none := ⟨rfl, by simp only [PyData.depth]; omega, rfl, rfl, by simp only [PyData.weight]; omega⟩
theorem OkD.bool {n k : Nat} {b : Bool} : OkD n k (.bool b) := ⟨rfl, by simp only [PyData.depth]; omega, rfl, rfl, by simp only [PyData.weight]; omega⟩
theorem OkD.int {n k : Nat} {i : Int} (h : i.natAbs < 10 ^ 25) (hn : 100 ≤ n) : OkD n k (.int i) := by
  have h2 : i.natAbs < 2 ^ 100 := Nat.lt_of_lt_of_le h (by decide)
  have hl : i.natAbs.log2 < 100 := by
    by_cases h0 : i.natAbs = 0
    · rw [h0]; simp
    · exact (Nat.log2_lt h0).2 h2
  refine ⟨rfl, by simp only [PyData.depth]; omega, ?_, ?_, ?_⟩
  · simp only [PyData.showable, decide_eq_true_eq]; omega
  · have e := int_text_length_le10 (k := 25) (by decide) h
    have e2 : (PyData.shown (.int i)).length ≤ 30 := by
      show (Str.ofString (toString i)).length ≤ 30
      rw [ofString_length]; omega
    simp only [PyData.intsShort, decide_eq_true_eq]
    exact e2
  · simp only [PyData.weight]
    split <;> omega
theorem OkD.str {n k : Nat} {s : Str} (h : lowS s) (hn : s.length ≤ n) : OkD n k (.str s) := by
  refine ⟨?_, by simp only [PyData.depth]; omega, rfl, rfl, ?_⟩
  · simp only [PyData.canLay0, PyData.strOk]
    simp only [Array.all_eq_true, decide_eq_true_eq]
    intro i hi
    exact h _ (by simp)
  · simp only [PyData.weight]
    exact hn
theorem OkD.shp {n k : Nat} {d : D} (h : OkD n k d) (hk : k ≤ 64) : shp d = true := by
  unfold Nw.shp SeqAt.shaped
  rw [h.lay, Bool.true_and]
  have := h.dep
  exact decide_eq_true (by omega)
mutual
theorem eqv_self : ∀ d : D, d.canLay0 = true → PyData.eqv d d = true
  | .none, _ => by simp only [PyData.eqv]
  | .bool b, _ => by simp only [PyData.eqv]; cases b <;> rfl
  | .int i, _ => by simp only [PyData.eqv, beq_self_eq_true]
  | .str s, _ => by simp only [PyData.eqv, beq_self_eq_true]
  | .list xs, h => by
    simp only [PyData.canLay0] at h
    simp only [PyData.eqv]
    exact eqvAll_self xs h
  | .tuple xs, h => by
    simp only [PyData.canLay0] at h
    simp only [PyData.eqv]
    exact eqvAll_self xs h
  | .dict _, h => by simp only [PyData.canLay0] at h; cases h
theorem eqvAll_self : ∀ ds : List D, PyData.canLayAll0 ds = true → PyData.eqvAll ds ds = true
  | [], _ => by simp only [PyData.eqvAll]
  | d :: ds, h => by
    simp only [PyData.canLayAll0, Bool.and_eq_true] at h
    simp only [PyData.eqvAll, eqv_self d h.1, eqvAll_self ds h.2, Bool.and_self]
end
theorem OkD.eqv {n k : Nat} {d : D} (h : OkD n k d) : PyData.eqv d d = true := eqv_self d h.lay
end Nw

set_option autoImplicit false
set_option maxRecDepth 100000
set_option maxHeartbeats 4000000
/-! Nw, part ZP: typed data, the pen with a count. -/
set_option hygiene false in
local macro_rules
  | `(tactic| walk_at "nw") => `(tactic| first
    | with_reducible refine g_ss_cons ?_
    | with_reducible refine g_e_conj ?_
    | with_reducible refine g_s_if ?_
    | with_reducible refine g_s_own ?_
    | with_reducible refine g_s_ret ?_
    | with_reducible refine g_ss_nil ?_
    | with_reducible refine g_s_ex ?_
    | with_reducible refine g_s_ref ?_
    | with_reducible refine g_s_pass ?_
    | with_reducible refine g_th_next ?_
    | with_reducible refine g_th_ret ?_
    | with_reducible refine g_th_brk ?_
    | with_reducible refine g_th_cont ?_
    | with_reducible refine g_t_cmp ?_
    | with_reducible refine g_t_tst ?_
    | with_reducible refine g_t_not ?_
    | with_reducible refine g_t_and ?_
    | with_reducible refine g_t_or ?_
    | with_reducible refine g_t_chain ?_
    | with_reducible refine g_h_ev ?_
    | with_reducible refine g_e_cst ?_
    | with_reducible refine g_e_glb ?_
    | with_reducible refine g_e_bin ?_
    | with_reducible refine g_e_sub ?_
    | with_reducible refine g_e_bi ?_
    | with_reducible refine g_e_cmp ?_
    | with_reducible refine g_e_lst ?_
    | with_reducible refine g_e_tup ?_
    | with_reducible refine g_e_call ?_
    | with_reducible refine g_e_met ?_
    | with_reducible refine g_e_isi ?_
    | with_reducible refine g_e_sli ?_
    | with_reducible refine g_e_rev ?_
    | with_reducible refine g_e_neg ?_
    | with_reducible refine g_e_not ?_
    | with_reducible refine g_e_chain ?_
    | with_reducible refine g_e_ife ?_
    | with_reducible refine g_m_opt ?_
    | with_reducible refine g_m_optN ?_
    | with_reducible refine g_hs_nil ?_
    | with_reducible refine g_hs_cons ?_
    | with_reducible refine g_vs_nil ?_
    | with_reducible refine g_vs_cons ?_
    | with_reducible refine g_i_ev ?_
    | with_reducible refine g_i_walk ?_
    | with_reducible refine g_i_rng ?_
    | with_reducible refine g_i_zip ?_
    | with_reducible refine g_b_one ?_
    | with_reducible refine g_b_nil ?_
    | with_reducible refine g_b_cons ?_
    | with_reducible refine g_b_tup ?_
    | with_reducible refine g_c_none ?_
    | with_reducible refine g_c_some ?_
    | with_reducible refine vi_py ?_
    | with_reducible refine lq_next ?_
    | with_reducible refine lq_cont ?_
    | with_reducible refine lq_brk ?_
    | with_reducible refine lq_ret ?_
    | with_reducible refine fzd_val ?_
    | with_reducible refine fz_newM ?_
    | with_reducible refine fzd_newM ?_
    | with_reducible refine g_s_setiO (l := 0) ?_
    | with_reducible refine g_vw_py ?_
    | with_reducible refine g_vws_nil ?_
    | with_reducible refine g_vws_cons ?_
    | with_reducible refine en_ret' ?_
    | with_reducible refine en_next' ?_
    | with_reducible refine ow_val ?_
    | with_reducible refine ow_new ?_
    | with_reducible refine fz_val ?_
    | with_reducible refine an_rfl ?_
    | with_reducible refine ex_ref ?_
    | with_reducible refine ex_str ?_
    | with_reducible refine ex_int ?_
    | with_reducible refine twoT ?_
    | with_reducible refine twoF ?_
    | ((with_reducible apply g_h_pk); exact rfl)
    | ((with_reducible apply g_h_pkO); exact rfl)
    | ((with_reducible apply g_h_pkL); exact rfl)
    | ((with_reducible apply g_e_var); exact rfl)
    | ((with_reducible apply g_s_retvV); exact rfl)
    | ((with_reducible apply g_s_retvO); exact rfl)
    | ((with_reducible apply g_e_mutO); exact rfl)
    | ((with_reducible apply fz_new); exact rfl)
    | ((with_reducible apply fzd_new); exact rfl)
    | ((with_reducible apply g_vw_ownM); exact rfl)
    | ((with_reducible apply g_vw_lokM); exact rfl)
    | ((with_reducible apply g_vw_obj); exact rfl; exact rfl)
    | ((with_reducible apply g_vw_own); exact rfl; exact rfl)
    | ((with_reducible apply g_vw_lok); exact rfl; exact rfl)
    | ((with_reducible apply g_e_varO); exact rfl; exact rfl)
    | ((with_reducible apply vi_own); exact rfl; exact rfl)
    | ((with_reducible apply vi_lok); exact rfl; exact rfl)
    | with_reducible refine x_add ?_
    | with_reducible refine x_sub ?_
    | with_reducible refine x_mul ?_ ?_
    | with_reducible refine x_fdiv ?_ ?_
    | with_reducible refine x_mod ?_ ?_
    | with_reducible refine x_pow ?_ ?_
    | with_reducible refine x_band ?_
    | with_reducible refine x_shr ?_ ?_
    | with_reducible refine x_shl ?_ ?_
    | with_reducible refine x_addS ?_ ?_
    | with_reducible refine x_addL ?_ ?_
    | with_reducible refine x_addT ?_ ?_
    | with_reducible refine x_mulS ?_ ?_
    | with_reducible refine x_eqS ?_
    | with_reducible refine x_neS ?_
    | with_reducible refine x_eq ?_ ?_
    | with_reducible refine x_ne ?_ ?_
    | with_reducible refine x_lt ?_
    | with_reducible refine x_le ?_
    | with_reducible refine x_gt ?_
    | with_reducible refine x_ge ?_
    | with_reducible refine x_memS ?_
    | with_reducible refine x_nmemS ?_
    | with_reducible refine t_bool ?_
    | with_reducible refine t_int ?_
    | with_reducible refine t_str ?_ ?_
    | with_reducible refine t_list ?_
    | with_reducible refine t_tup ?_
    | with_reducible refine t_none ?_
    | with_reducible refine b_lenS ?_ ?_
    | with_reducible refine b_lenL ?_
    | with_reducible refine b_lenT ?_
    | with_reducible refine b_absI ?_
    | with_reducible refine b_intI ?_
    | with_reducible refine b_intB ?_
    | with_reducible refine b_boolI ?_
    | with_reducible refine b_boolB ?_
    | with_reducible refine b_listL ?_
    | with_reducible refine b_listT ?_
    | with_reducible refine b_tupL ?_
    | with_reducible refine b_tupT ?_
    | with_reducible refine b_max2 ?_
    | with_reducible refine b_min2 ?_
    | with_reducible refine m_count ?_
    | with_reducible refine m_find ?_
    | with_reducible refine m_split ?_ ?_
    | with_reducible refine m_upper ?_ ?_
    | with_reducible refine l_cutL ?_
    | with_reducible refine l_cutT ?_
    | with_reducible refine l_cutS ?_ ?_
    | with_reducible refine l_rev ?_
    | with_reducible refine u_app ?_ ?_
    | with_reducible refine it_str ?_
    | with_reducible refine it_list ?_
    | with_reducible refine it_tup ?_
    | with_reducible refine pn_get0 ?_
    | with_reducible refine pn_set0 ?_
    | with_reducible refine pn_get1 ?_
    | with_reducible refine pn_set1 ?_
    | with_reducible refine pn_get2 ?_
    | with_reducible refine pn_set2 ?_
    | with_reducible refine ex_set SetR.n0 ?_
    | with_reducible refine ex_set SetR.n1 ?_
    | with_reducible refine ex_set SetR.n2 ?_
    | with_reducible refine ex_set SetR.n3 ?_
    | with_reducible refine ex_set SetR.n4 ?_
    | with_reducible refine ex_set SetR.n5 ?_
    | with_reducible refine ex_set SetR.n6 ?_
    | with_reducible refine ex_set SetR.n7 ?_
    | with_reducible refine ex_set SetR.n8 ?_
    | with_reducible refine ex_set SetR.n9 ?_
    | with_reducible refine ex_set SetR.n10 ?_
    | with_reducible refine ex_set SetR.n11 ?_
    | with_reducible refine ex_set SetR.n12 ?_
    | with_reducible refine ex_set SetR.n13 ?_
    | with_reducible refine ex_set SetR.n14 ?_
    | with_reducible refine ex_set SetR.n15 ?_
    | with_reducible refine ex_lst ?_
    | with_reducible refine it_rng (by decide) ?_
    | with_reducible refine ex_at0 ?_
    | with_reducible refine ex_hd ?_
    | ((with_reducible apply an); exact rfl)
    | ((with_reducible apply an); exact Nat.le_of_ble_eq_true rfl)
    | with_reducible refine twoEvT (c := !true) (by decide) ?_
    | with_reducible refine twoEvF (c := !true) (by decide) ?_
    | with_reducible refine twoEvT (c := !false) (by decide) ?_
    | with_reducible refine twoEvF (c := !false) (by decide) ?_
    | with_reducible refine twoEvT (c := PyData.eqv (.str (Str.ofString _)) (.str (Str.ofString _))) (by decide) ?_
    | with_reducible refine twoEvF (c := PyData.eqv (.str (Str.ofString _)) (.str (Str.ofString _))) (by decide) ?_
    | with_reducible refine twoEvT (c := !PyData.eqv (.str (Str.ofString _)) (.str (Str.ofString _))) (by decide) ?_
    | with_reducible refine twoEvF (c := !PyData.eqv (.str (Str.ofString _)) (.str (Str.ofString _))) (by decide) ?_
    | with_reducible refine twoEvT (c := PyData.eqv (.int (OfNat.ofNat _)) (.int (OfNat.ofNat _))) (by decide) ?_
    | with_reducible refine twoEvF (c := PyData.eqv (.int (OfNat.ofNat _)) (.int (OfNat.ofNat _))) (by decide) ?_
    | with_reducible refine two (fun hc => ?_) (fun hc => ?_)
    | with_reducible refine g_s_unpT ?_
    | with_reducible refine ex_unT ?_
    | with_reducible refine ex_unL ?_
    | (with_reducible refine ex_ixT ?_; refine ⟨_, rfl, ?_⟩)
    | (with_reducible refine ex_ix ?_; refine ⟨_, rfl, ?_⟩)
    | with_reducible refine g_dic0 ?_
    | with_reducible refine g_dic1 ?_
    | with_reducible refine ex_allDn ?_
    | with_reducible refine ex_allDc ?_
    | with_reducible refine shp_and ?_ ?_
    | ((with_reducible show Nw.fits _ = true); exact fits_le (by first | omega | (simp only [List.length_append, List.length_cons, List.length_nil, List.length_map]; omega)))
    | with_reducible exact shp_int
    | with_reducible exact shp_bool
    | with_reducible exact shp_none
    | (with_reducible refine shp_strL ?_; with_reducible assumption)
    | (with_reducible refine shp_strL (low_o ?_); decide)
    | ((with_reducible apply ex_allD); exact rfl)
    | ((with_reducible apply ex_ownS); exact rfl))
local macro_rules
  | `(tactic| walk_at "go") => `(tactic| repeat' (first | walk_at "nw" | with_reducible assumption))
local macro_rules
  | `(tactic| walk_at "gor") => `(tactic| repeat' (first | walk_at "nw" | with_reducible assumption | exact rfl))
set_option hygiene false in
local macro_rules
  | `(tactic| walk_at "lk") => `(tactic| simp only [lockS, wipeS, slotsT, List.foldl_cons, List.foldl_nil, List.set_cons_zero, List.set_cons_succ, List.map_cons, List.map_nil, lock_val, lock_own, lock_un, lock_lok])
namespace Nw
open PySem
abbrev Tb := Str → Option Fn
def IsS (lo hi : Nat) (d : D) : Prop := ∃ s, d = .str s ∧ lo ≤ s.length ∧ s.length ≤ hi ∧ lowS s
theorem IsS.of {lo hi : Nat} {s : Str} (h1 : lo ≤ s.length) (h2 : s.length ≤ hi) (h3 : lowS s) : IsS lo hi (.str s) := ⟨s, rfl, h1, h2, h3⟩
theorem IsS.ok {lo hi n k : Nat} {d : D} (h : IsS lo hi d) (hn : hi ≤ n) : OkD n k d := by
  obtain ⟨s, rfl, _, h2, h3⟩ := h
  exact OkD.str h3 (Nat.le_trans h2 hn)
theorem low_nil : lowS ⟨#[]⟩ := fun c hc => by simp at hc
theorem low_one {c : Nat} (h : c < 1114112) : lowS ⟨#[c]⟩ := fun x hx => by
  have : x = c := by simpa using hx
  rw [this]
  exact h
theorem cps_len (s : Str) : s.cps.toList.length = s.length := by simp [Str.length]
theorem ex_ixP {xs : List D} {i : Int} {Q : D → Prop} (P : D → Prop) (h0 : 0 ≤ i) (h1 : i < xs.length) (hP : ∀ d ∈ xs, P d) (q : ∀ d, P d → Q d) : ∃ r, opSub (.list xs) (.int i) = some r ∧ Q r := by
  obtain ⟨x, e1, e2⟩ := ix_in h0 h1
  exact ex_ix ⟨x, e2, q x (hP x (List.mem_of_getElem? e1))⟩
theorem ex_ixSP {s : Str} {i : Int} {Q : D → Prop} (h0 : 0 ≤ i) (h1 : i < s.length) (hl : s.length ≤ 16777216) (q : ∀ c, s.cps.toList[i.toNat]? = some c → Q (.str ⟨#[c]⟩)) : ∃ r, opSub (.str s) (.int i) = some r ∧ Q r := by
  obtain ⟨c, e1, e2⟩ := ix_in (xs := s.cps.toList) h0 (by rw [cps_len]; exact h1)
  exact ex_ixS hl ⟨c, e2, q c e1⟩
/-! join -/
theorem sum_le {ss : List Str} {hi : Nat} (h : ∀ s ∈ ss, s.length ≤ hi) : (ss.map (·.length)).sum ≤ ss.length * hi := by
  induction ss with
  | nil => simp
  | cons s r ih =>
    have := h s List.mem_cons_self
    have := ih fun x hx => h x (List.mem_cons_of_mem _ hx)
    rw [List.map_cons, List.sum_cons, List.length_cons, Nat.add_mul]
    omega
/-! the pen -/
def Pc (N : Nat) (ns : List Int) (rest : List OD) (st : List OD) : Prop := ∃ a b : Int, 0 ≤ a ∧ a ≤ N ∧ 0 ≤ b ∧ st = .lst [.py (.list (ns.map .int)), .py (.int a), .py (.int b)] :: rest
theorem Pc.mono {N M : Nat} {ns : List Int} {rest st : List OD} (h : Pc N ns rest st) (hn : N ≤ M) : Pc M ns rest st := by
  obtain ⟨a, b, h1, h2, h3, h4⟩ := h
  exact ⟨a, b, h1, by omega, h3, h4⟩
theorem fits_le {n : Nat} (h : n ≤ 16777216) : fits n = true := decide_eq_true h
end Nw

set_option autoImplicit false
set_option maxRecDepth 100000
set_option maxHeartbeats 4000000
/-! Nw, part ZQ: comprehensions over ranges, locked slots. -/
namespace Nw
open PySem
theorem lock_val {x : Nw.Dv} : (Slot.val x).lock = .val x := rfl
theorem lock_own {o : OD} : (Slot.own o).lock = .lok o := rfl
theorem lock_lok {o : OD} : (Slot.lok o).lock = .lok o := rfl
theorem lock_un : Slot.un.lock = .un := rfl
theorem ex_allDn {P : List D → Prop} (p : P []) : ∃ ds, allD [] = some ds ∧ P ds := ⟨[], rfl, p⟩
theorem ex_allDc {d : D} {xs : List Nw.Dv} {P : List D → Prop} (p : ∃ ds, allD xs = some ds ∧ P (d :: ds)) : ∃ ds, allD (.py d :: xs) = some ds ∧ P ds := by
  obtain ⟨ds, e, p⟩ := p
  exact ⟨d :: ds, by show (allD xs).map (d :: ·) = _; rw [e]; rfl, p⟩
theorem shp_int {i : Int} : shp (.int i) = true := rfl
theorem shp_bool {i : Bool} : shp (.bool i) = true := rfl
theorem shp_none : shp .none = true := rfl
theorem shp_strL {s : Str} (h : lowS s) : shp (.str s) = true := (OkD.str (n := s.length) (k := 0) h (Nat.le_refl _)).shp (by omega)
theorem low_o {s : Str} (h : s.cps.toList.all (fun c => decide (c < 1114112)) = true) : lowS s := fun c hc => of_decide_eq_true (List.all_eq_true.mp h c hc)
theorem shp_and {a b : D} (h : shp a = true) (g : shp b = true) : (shp a && shp b) = true := by rw [h, g]; rfl
theorem ex_unT {ds : List D} {P : List D → Prop} (p : P ds) : ∃ es, (PyData.tuple ds = .tuple es ∨ PyData.tuple ds = .list es) ∧ P es := ⟨ds, .inl rfl, p⟩
theorem ex_unL {ds : List D} {P : List D → Prop} (p : P ds) : ∃ es, (PyData.list ds = .tuple es ∨ PyData.list ds = .list es) ∧ P es := ⟨ds, .inr rfl, p⟩
theorem twoEvT {c : Bool} {P P' : Prop} (e : c = true) (h : P) : (c = true → P) ∧ (c = false → P') := ⟨fun _ => h, fun z => absurd (z.symm.trans e) Bool.false_ne_true⟩
theorem twoEvF {c : Bool} {P P' : Prop} (e : c = false) (h : P') : (c = true → P) ∧ (c = false → P') := ⟨fun z => absurd (e.symm.trans z) Bool.false_ne_true, fun _ => h⟩
section
variable {C : Call} {X : XF} {sl : List Slot} {st : List OD}
theorem rng_get {n : Int} {i : Nat} {x : D} (hx : ((List.range (n - 0).toNat).map fun (k : Nat) => PyData.int (0 + (k : Int)))[i]? = some x) : (i : Int) < n ∧ x = .int (i : Int) := by
  have hlt := (List.getElem?_eq_some_iff.mp hx).1
  rw [List.length_map, List.length_range] at hlt
  rw [List.getElem?_map, List.getElem?_range hlt] at hx
  have hx : PyData.int (0 + (i : Int)) = x := by simpa using hx
  rw [Int.zero_add] at hx
  exact ⟨by omega, hx.symm⟩
theorem g_e_compR {i0 : Nat} {a elt : E} (P : D → Prop) (J : Nat → List OD → Prop) {Q : RV → List Slot → List OD → Prop} (w : Go (dH C a) sl st (fun h s t => VwG h s t fun d => ∃ n : Int, d = .int n ∧ (-1000000 ≤ n ∧ n ≤ 1000000) ∧ J 0 t ∧
    (∀ (i : Nat) st2, (i : Int) < n → J i st2 → Go (bindT (.one i0) (.int (i : Int))) (lockS [i0] s) st2 (fun _ sl3 st3 => Go (dE C elt) sl3 st3 (fun r _ st5 => Fz r fun v => ∃ d, v = .py d ∧ P d ∧ J (i + 1) st5) NoXF) NoXF) ∧
    (∀ (ds : List D) st2, ds.length = n.toNat → (∀ d ∈ ds, P d) → J n.toNat st2 → Q (.new (.lst (ds.map .py))) s st2)) X) : Go (dE C (.comp (.one i0) (.rng1 a) none elt)) sl st Q X := by
  refine g_e_compA P J (g_i_rng (w.mono (fun h s t q => ?_) fun _ _ _ h => h))
  obtain ⟨d, hv, n, rfl, hn, j0, step, fin⟩ := q
  refine ⟨.int n, hv, n, rfl, (List.range (n - 0).toNat).map fun (k : Nat) => .int (0 + (k : Int)), ?_, ?_, j0, fun i x st2 hx hj => ?_, fun ds st2 hl hP hj => ?_⟩
  · unfold rngD
    rw [if_pos ⟨by decide, by decide, by omega, by omega⟩, if_pos rfl]
  · rw [List.length_map, List.length_range]
    omega
  · obtain ⟨h1, rfl⟩ := rng_get hx
    exact step i st2 h1 hj
  · rw [List.length_map, List.length_range, Int.sub_zero] at hl hj
    exact fin ds st2 hl hP hj
end
end Nw

set_option autoImplicit false
set_option maxRecDepth 100000
set_option maxHeartbeats 4000000
/-! Nw, part ZR: more steps. -/
namespace Nw
open PySem
theorem g_e_varOM {C : Call} {X : XF} {sl : List Slot} {st : List OD} {i : Nat} {xs : List D} {Q : RV → List Slot → List OD → Prop} (h : sl[i]? = some (.own (.lst (xs.map .py)))) (q : ∃ sl', SetR i (.val (.py (.list xs))) sl sl' ∧ Q (.val (.py (.list xs))) sl' st) : Go (dE C (.var i)) sl st Q X := by
  obtain ⟨sl', hs, q⟩ := q
  refine g_e_varO h (by unfold OD.toDv; rw [toD_map]; rfl) ?_
  rw [hs.eq.2]
  exact q
theorem g_e_app {C : Call} {X : XF} {sl : List Slot} {st : List OD} {i : Nat} {xs : List D} {e : E} {Q : RV → List Slot → List OD → Prop} (hc : sl[i]? = some (.own (.lst (xs.map .py)))) (w : Go (dE C e) sl st (fun r sl1 st1 => Fz r fun v => ∃ d, v = .py d ∧ ∃ ys : List D, sl1[i]? = some (.own (.lst (ys.map .py))) ∧ ys.length < 16777216 ∧ ∃ sl', SetR i (.own (.lst ((ys ++ [d]).map .py))) sl1 sl' ∧ Q (.val (.py .none)) sl' st1) X) : Go (dE C (.mut .append i [e])) sl st Q X := by
  refine g_e_mutO hc (g_vs_cons (w.mono (fun r s t h => ?_) fun _ _ _ h => h))
  have key : ∀ v : Nw.Dv, (∃ d, v = .py d ∧ ∃ ys : List D, s[i]? = some (.own (.lst (ys.map .py))) ∧ ys.length < 16777216 ∧ ∃ sl', SetR i (.own (.lst ((ys ++ [d]).map .py))) s sl' ∧ Q (.val (.py .none)) sl' t) → Go (dVs C []) s t (fun ys sl1 st1 => ∃ o, sl1[i]? = some (.own o) ∧ ∃ p, opMU .append o (v :: ys) = some p ∧ ∃ sl', SetR i (.own p.2) sl1 sl' ∧ Q (.val p.1) sl' st1) X := fun v ⟨d, hv, ys, h1, h2, sl', h3, h4⟩ => by
    subst hv
    refine g_vs_nil ⟨_, h1, (.py .none, .lst (ys.map .py ++ [.py d])), ?_, sl', ?_, h4⟩
    · show guardO (decide ((ys.map Nw.Dv.py).length < 16777216)) _ = _
      rw [List.length_map, decide_eq_true h2]
      rfl
    · rw [List.map_append] at h3
      exact h3
  cases r with
  | val x => exact key x h
  | new o =>
    obtain ⟨v, e, h⟩ := h
    exact ⟨v, e, key v h⟩
theorem ex_pyD {d : D} {P : D → Prop} (p : P d) : ∃ e, Dv.py d = .py e ∧ P e := ⟨d, rfl, p⟩
theorem ex_ownM {sl : List Slot} {i : Nat} {xs : List D} {P : List D → Prop} (h : sl[i]? = some (.own (.lst (xs.map .py)))) (p : P xs) : ∃ ys : List D, sl[i]? = some (.own (.lst (ys.map .py))) ∧ P ys := ⟨xs, h, p⟩
theorem ne_self {P P' : Prop} {s : Str} (h : P') : ((!PyData.eqv (.str s) (.str s)) = true → P) ∧ ((!PyData.eqv (.str s) (.str s)) = false → P') := by
  have e : (!PyData.eqv (.str s) (.str s)) = false := by simp [PyData.eqv]
  exact twoEvF e h
theorem law_of {T : Tb} {k : Nat} {f : Str} {xs : List Nw.Dv} (h : ClG (run T k) f xs [] (fun r _ => r = .val (.py (.bool true))) NoX) : ∃ fr, run T k f xs [] = .ok (.val (.py (.bool true))) fr := by
  have h := h.out
  unfold Cl at h
  cases e : run T k f xs [] with
  | ok r fr =>
    rw [e] at h
    have h : r = .val (.py (.bool true)) := h
    subst h
    exact ⟨fr, rfl⟩
  | exc c p fr =>
    rw [e] at h
    exact h.elim
  | stuck =>
    rw [e] at h
    exact h.elim
end Nw

set_option autoImplicit true
/-! Nw, part ZS: which way to go on. -/
namespace Nw
open PySem
theorem gd_dE {C : Call} {e : E} {sl : List Slot} {st : List OD} {Q : RV → List Slot → List OD → Prop} {X : XF} (h : Go (dE C e) sl st Q X) : Go (dE C e) sl st Q X := h
theorem gd_dH {C : Call} {e : E} {sl : List Slot} {st : List OD} {Q : Hd → List Slot → List OD → Prop} {X : XF} (h : Go (dH C e) sl st Q X) : Go (dH C e) sl st Q X := h
theorem gd_dT {C : Call} {e : E} {sl : List Slot} {st : List OD} {Q : Bool → List Slot → List OD → Prop} {X : XF} (h : Go (dT C e) sl st Q X) : Go (dT C e) sl st Q X := h
theorem gd_dS {C : Call} {e : S} {sl : List Slot} {st : List OD} {Q : Fl → List Slot → List OD → Prop} {X : XF} (h : Go (dS C e) sl st Q X) : Go (dS C e) sl st Q X := h
theorem gd_dSs {C : Call} {e : List S} {sl : List Slot} {st : List OD} {Q : Fl → List Slot → List OD → Prop} {X : XF} (h : Go (dSs C e) sl st Q X) : Go (dSs C e) sl st Q X := h
theorem gd_dHs {C : Call} {e : List E} {sl : List Slot} {st : List OD} {Q : List Hd → List Slot → List OD → Prop} {X : XF} (h : Go (dHs C e) sl st Q X) : Go (dHs C e) sl st Q X := h
theorem gd_dVs {C : Call} {e : List E} {sl : List Slot} {st : List OD} {Q : List Dv → List Slot → List OD → Prop} {X : XF} (h : Go (dVs C e) sl st Q X) : Go (dVs C e) sl st Q X := h
theorem gd_dI {C : Call} {c : Bool} {e : E} {sl : List Slot} {st : List OD} {Q : List D → List Slot → List OD → Prop} {X : XF} (h : Go (dI C c e) sl st Q X) : Go (dI C c e) sl st Q X := h
theorem gd_dC {C : Call} {e : Option E} {sl : List Slot} {st : List OD} {Q : Bool → List Slot → List OD → Prop} {X : XF} (h : Go (dC C e) sl st Q X) : Go (dC C e) sl st Q X := h
theorem gd_opt {e : Option (M Hd)} {sl : List Slot} {st : List OD} {Q : Option Int → List Slot → List OD → Prop} {X : XF} (h : Go (optI e) sl st Q X) : Go (optI e) sl st Q X := h
theorem gd_th {C : Call} {r : List S} {Q : Fl → List Slot → List OD → Prop} {X : XF} {fl : Fl} {sl : List Slot} {st : List OD} (h : ThG C r Q X fl sl st) : ThG C r Q X fl sl st := h
theorem gd_vws {hs : List Hd} {sl : List Slot} {st : List OD} {Q : List D → Prop} (h : VsG hs sl st Q) : VsG hs sl st Q := h
theorem gd_vw {h : Hd} {sl : List Slot} {st : List OD} {Q : D → Prop} (hh : VwG h sl st Q) : VwG h sl st Q := hh
theorem gd_lq {Nx : List Slot → List OD → Prop} {Q : Fl → List Slot → List OD → Prop} {fl : Fl} {sl : List Slot} {st : List OD} (h : LoopQ Nx Q fl sl st) : LoopQ Nx Q fl sl st := h
theorem gd_en {Q : RV → List OD → Prop} {fl : Fl} {sl : List Slot} {st : List OD} (h : EnG Q fl sl st) : EnG Q fl sl st := h
theorem gd_ow {r : RV} {Q : Slot → Prop} (h : Ow1 r Q) : Ow1 r Q := h
theorem gd_fz {r : RV} {Q : Dv → Prop} (h : Fz r Q) : Fz r Q := h
theorem gd_fzd {r : RV} {Q : D → Prop} (h : FzD r Q) : FzD r Q := h
theorem gd_vi {h : Hd} {sl : List Slot} {st : List OD} {Q : D → Prop} (hh : Vi h sl st Q) : Vi h sl st Q := hh
theorem gd_opB {o : BOp} {d d2 : D} {Q : RV → Prop} (h : ∃ r, opB o d d2 = some r ∧ Q r) : ∃ r, opB o d d2 = some r ∧ Q r := h
theorem gd_opC {o : COp} {d d2 : D} {Q : Bool → Prop} (h : ∃ r, opC o d d2 = some r ∧ Q r) : ∃ r, opC o d d2 = some r ∧ Q r := h
theorem gd_tru {d : D} {Q : Bool → Prop} (h : ∃ r, truD d = some r ∧ Q r) : ∃ r, truD d = some r ∧ Q r := h
theorem gd_opBI {o : BI} {ds : List D} {Q : RV → Prop} (h : ∃ r, opBI o ds = some r ∧ Q r) : ∃ r, opBI o ds = some r ∧ Q r := h
theorem gd_opMT {o : MT} {s : Str} {ds : List D} {Q : RV → Prop} (h : ∃ r, opMT o s ds = some r ∧ Q r) : ∃ r, opMT o s ds = some r ∧ Q r := h
theorem gd_two {c : Bool} {P P2 : Prop} (h : (c = true → P) ∧ (c = false → P2)) : (c = true → P) ∧ (c = false → P2) := h
theorem g_e_fz {C : Call} {X : XF} {sl : List Slot} {st : List OD} {i : Nat} {a : E} {Q : RV → List Slot → List OD → Prop} (w : Go (dE C (.var i)) sl st (fun _ sl1 st1 => Go (dE C a) sl1 st1 Q X) X) : Go (dE C (.fz i a)) sl st Q X := Go.bind w
end Nw

set_option autoImplicit false
set_option maxRecDepth 100000
set_option maxHeartbeats 1000000
/-! Nw, part ZT: sorted by a key, plainly. -/
namespace Nw
open PySem
end Nw

set_option autoImplicit false
set_option maxRecDepth 100000
set_option maxHeartbeats 4000000
/-! Ck, part A: kinds of values. -/
namespace Nw
open PySem
inductive Ty where
  | bot
  | any
  | cst (d : D)
  | bool
  | int (lo hi : Int)
  | str (lo hi : Nat)
  | lst (lo hi : Nat) (t : Ty)
  | tupH (lo hi : Nat) (t : Ty)
  | cons (t ts : Ty)
  | uni (a b : Ty)
  | prd (i : Nat)
def Has (P : Nat → D → Prop) : Ty → D → Prop
  | .bot, _ => False
  | .any, _ => True
  | .cst c, d => d = c
  | .bool, d => ∃ b, d = .bool b
  | .int lo hi, d => ∃ i, d = .int i ∧ lo ≤ i ∧ i ≤ hi
  | .str lo hi, d => IsS lo hi d
  | .lst lo hi t, d => ∃ xs, d = .list xs ∧ lo ≤ xs.length ∧ xs.length ≤ hi ∧ ∀ x ∈ xs, Has P t x
  | .tupH lo hi t, d => ∃ xs, d = .tuple xs ∧ lo ≤ xs.length ∧ xs.length ≤ hi ∧ ∀ x ∈ xs, Has P t x
  | .cons t ts, d => ∃ x xs, d = .tuple (x :: xs) ∧ Has P t x ∧ Has P ts (.tuple xs)
  | .uni a b, d => Has P a d ∨ Has P b d
  | .prd i, d => P i d
structure Env where
  P : Nat → D → Prop
  ty : Nat → Ty
  ok : ∀ i d, P i d → Has P (ty i) d
mutual
def sameD : D → D → Bool
  | .none, .none => true
  | .bool a, .bool b => a == b
  | .int i, .int j => decide (i = j)
  | .str a, .str b => decide (a = b)
  | .list xs, .list ys => sameDs xs ys
  | .tuple xs, .tuple ys => sameDs xs ys
  | .dict a, .dict b => a.isEmpty && b.isEmpty
  | _, _ => false
def sameDs : List D → List D → Bool
  | [], [] => true
  | x :: xs, y :: ys => sameD x y && sameDs xs ys
  | _, _ => false
end
mutual
theorem sameD_eq : ∀ a b : D, sameD a b = true → a = b
  | .none, b, h => by cases b <;> simp [sameD] at h ⊢
  | .bool x, b, h => by cases b <;> simp [sameD] at h ⊢ <;> exact h
  | .int x, b, h => by cases b <;> simp [sameD] at h ⊢ <;> exact h
  | .str x, b, h => by cases b <;> simp [sameD] at h ⊢ <;> exact h
  | .list x, b, h => by
    cases b <;> simp [sameD] at h ⊢
    exact sameDs_eq _ _ h
  | .tuple x, b, h => by
    cases b <;> simp [sameD] at h ⊢
    exact sameDs_eq _ _ h
  | .dict x, b, h => by
    cases b <;> simp [sameD] at h ⊢
    rw [h.1, h.2]
theorem sameDs_eq : ∀ a b : List D, sameDs a b = true → a = b
  | [], b, h => by cases b <;> simp [sameDs] at h ⊢
  | x :: xs, b, h => by
    cases b with
    | nil => simp [sameDs] at h
    | cons y ys =>
      simp only [sameDs, Bool.and_eq_true] at h
      rw [sameD_eq _ _ h.1, sameDs_eq _ _ h.2]
end
/-! what is within what -/
def lowB (s : Str) : Bool := s.cps.toList.all (fun c => decide (c < 1114112))
def tsub : Nat → Ty → Ty → Bool
  | 0, _, _ => false
  | n + 1, a, b => match a, b with
    | .bot, _ => true
    | _, .any => true
    | .uni x y, c => tsub n x c && tsub n y c
    | .cst c, .cst e => sameD c e
    | .cst (.bool _), .bool => true
    | .cst (.int i), .int lo hi => decide (lo ≤ i ∧ i ≤ hi)
    | .cst (.str s), .str lo hi => decide (lo ≤ s.length ∧ s.length ≤ hi) && lowB s
    | .cst (.list xs), .lst lo hi t => decide (lo ≤ xs.length ∧ xs.length ≤ hi) && xs.all fun x => tsub n (.cst x) t
    | .cst (.tuple xs), .tupH lo hi t => decide (lo ≤ xs.length ∧ xs.length ≤ hi) && xs.all fun x => tsub n (.cst x) t
    | .cst (.tuple (x :: xs)), .cons t ts => tsub n (.cst x) t && tsub n (.cst (.tuple xs)) ts
    | .bool, .bool => true
    | .int lo hi, .int lo' hi' => decide (lo' ≤ lo ∧ hi ≤ hi')
    | .str lo hi, .str lo' hi' => decide (lo' ≤ lo ∧ hi ≤ hi')
    | .lst lo hi t, .lst lo' hi' t' => decide (lo' ≤ lo ∧ hi ≤ hi') && (hi == 0 || tsub n t t')
    | .tupH lo hi t, .tupH lo' hi' t' => decide (lo' ≤ lo ∧ hi ≤ hi') && (hi == 0 || tsub n t t')
    | .cons t ts, .cons t' ts' => tsub n t t' && tsub n ts ts'
    | .cons t ts, .tupH lo hi t' => decide (0 < hi) && tsub n t t' && tsub n ts (.tupH (lo - 1) (hi - 1) t')
    | .prd i, .prd j => decide (i = j)
    | x, .uni c e => tsub n x c || tsub n x e
    | _, _ => false
section
variable {P : Nat → D → Prop}
theorem low_B {s : Str} (h : lowB s = true) : lowS s := low_o h
theorem tsub_ok : ∀ (n : Nat) {a b : Ty} {d : D}, tsub n a b = true → Has P a d → Has P b d := by
  intro n
  induction n with
  | zero => intro a b d h; simp [tsub] at h
  | succ n ih =>
    intro a b d h ha
    unfold tsub at h
    split at h
    · exact ha.elim
    · trivial
    · rw [Bool.and_eq_true] at h
      rcases ha with ha | ha
      · exact ih h.1 ha
      · exact ih h.2 ha
    · have e := sameD_eq _ _ h
      subst e
      exact ha
    · exact ⟨_, ha⟩
    · exact ⟨_, ha, of_decide_eq_true h⟩
    · rw [Bool.and_eq_true] at h
      have h1 := of_decide_eq_true h.1
      exact ⟨_, ha, h1.1, h1.2, low_B h.2⟩
    · rw [Bool.and_eq_true] at h
      have h1 := of_decide_eq_true h.1
      exact ⟨_, ha, h1.1, h1.2, fun x hx => ih (List.all_eq_true.mp h.2 x hx) rfl⟩
    · rw [Bool.and_eq_true] at h
      have h1 := of_decide_eq_true h.1
      exact ⟨_, ha, h1.1, h1.2, fun x hx => ih (List.all_eq_true.mp h.2 x hx) rfl⟩
    · rw [Bool.and_eq_true] at h
      exact ⟨_, _, ha, ih h.1 rfl, ih h.2 rfl⟩
    · exact ha
    · obtain ⟨i, e, h1, h2⟩ := ha
      have h := of_decide_eq_true h
      exact ⟨i, e, by omega, by omega⟩
    · obtain ⟨i, e, h1, h2, h3⟩ := ha
      have h := of_decide_eq_true h
      exact ⟨i, e, by omega, by omega, h3⟩
    · obtain ⟨xs, e, h1, h2, h3⟩ := ha
      rw [Bool.and_eq_true, Bool.or_eq_true] at h
      have h4 := of_decide_eq_true h.1
      refine ⟨xs, e, by omega, by omega, fun x hx => ?_⟩
      rcases h.2 with h5 | h5
      · have h5 := eq_of_beq h5
        subst h5
        rw [List.length_eq_zero_iff.mp (Nat.le_zero.mp h2)] at hx
        cases hx
      · exact ih h5 (h3 x hx)
    · obtain ⟨xs, e, h1, h2, h3⟩ := ha
      rw [Bool.and_eq_true, Bool.or_eq_true] at h
      have h4 := of_decide_eq_true h.1
      refine ⟨xs, e, by omega, by omega, fun x hx => ?_⟩
      rcases h.2 with h5 | h5
      · have h5 := eq_of_beq h5
        subst h5
        rw [List.length_eq_zero_iff.mp (Nat.le_zero.mp h2)] at hx
        cases hx
      · exact ih h5 (h3 x hx)
    · obtain ⟨x, xs, e, h1, h2⟩ := ha
      rw [Bool.and_eq_true] at h
      exact ⟨x, xs, e, ih h.1 h1, ih h.2 h2⟩
    · obtain ⟨x, xs, rfl, h1, h2⟩ := ha
      rw [Bool.and_eq_true, Bool.and_eq_true] at h
      obtain ⟨ys, e, g1, g2, g3⟩ := ih h.2 h2
      cases e
      have h4 := of_decide_eq_true h.1.1
      refine ⟨x :: xs, rfl, by rw [List.length_cons]; omega, by rw [List.length_cons]; omega, fun y hy => ?_⟩
      rcases List.mem_cons.mp hy with rfl | hy
      · exact ih h.1.2 h1
      · exact g3 y hy
    · have e := of_decide_eq_true h
      subst e
      exact ha
    · rw [Bool.or_eq_true] at h
      rcases h with h | h
      · exact .inl (ih h ha)
      · exact .inr (ih h ha)
    · cases h
/-! joins -/
def FU : Nat := 60
def subT (a b : Ty) : Bool := tsub FU a b
theorem subT_ok {a b : Ty} {d : D} (h : subT a b = true) (ha : Has P a d) : Has P b d := tsub_ok FU h ha
def intR : Ty → Option (Int × Int)
  | .int a b => some (a, b)
  | .cst (.int i) => some (i, i)
  | _ => none
theorem intR_ok {t : Ty} {a b : Int} {d : D} (h : intR t = some (a, b)) (g : Has P t d) : ∃ i, d = .int i ∧ a ≤ i ∧ i ≤ b := by
  unfold intR at h
  split at h
  · cases h; exact g
  · cases h; exact ⟨_, g, Int.le_refl _, Int.le_refl _⟩
  · cases h
def join : Nat → Ty → Ty → Ty
  | 0, a, b => .uni a b
  | n + 1, a, b => if subT a b then b else if subT b a then a else match intR a, intR b with
    | some (l, h), some (l', h') => .int (min l l') (max h h')
    | _, _ => match a, b with
      | .str l h, .str l' h' => .str (min l l') (max h h')
      | .lst l h t, .lst l' h' t' => .lst (min l l') (max h h') (join n t t')
      | .tupH l h t, .tupH l' h' t' => .tupH (min l l') (max h h') (join n t t')
      | .uni x y, .int l h => if (intR x).isSome then .uni (join n x b) y else .uni x (join n y b)
      | .uni x y, .cst (.int i) => if (intR x).isSome then .uni (join n x b) y else .uni x (join n y b)
      | .uni x y, c => .uni x (join n y c)
      | x, y => .uni x y
theorem join_l : ∀ (n : Nat) {a b : Ty} {d : D}, Has P a d → Has P (join n a b) d := by
  intro n
  induction n with
  | zero => intro a b d h; exact .inl h
  | succ n ih =>
    intro a b d h
    unfold join
    split
    · exact subT_ok (by assumption) h
    · split
      · exact h
      · split
        · obtain ⟨i, e, h1, h2⟩ := intR_ok (by assumption) h
          exact ⟨i, e, by omega, by omega⟩
        · split
          · obtain ⟨s, e, h1, h2, h3⟩ := h
            exact ⟨s, e, by omega, by omega, h3⟩
          · obtain ⟨s, e, h1, h2, h3⟩ := h
            exact ⟨s, e, by omega, by omega, fun x hx => ih (h3 x hx)⟩
          · obtain ⟨s, e, h1, h2, h3⟩ := h
            exact ⟨s, e, by omega, by omega, fun x hx => ih (h3 x hx)⟩
          · split
            · rcases h with h | h
              · exact .inl (ih h)
              · exact .inr h
            · rcases h with h | h
              · exact .inl h
              · exact .inr (ih h)
          · split
            · rcases h with h | h
              · exact .inl (ih h)
              · exact .inr h
            · rcases h with h | h
              · exact .inl h
              · exact .inr (ih h)
          · rcases h with h | h
            · exact .inl h
            · exact .inr (ih h)
          · exact .inl h
theorem join_r : ∀ (n : Nat) {a b : Ty} {d : D}, Has P b d → Has P (join n a b) d := by
  intro n
  induction n with
  | zero => intro a b d h; exact .inr h
  | succ n ih =>
    intro a b d h
    unfold join
    split
    · exact h
    · split
      · exact subT_ok (by assumption) h
      · split
        · obtain ⟨i, e, h1, h2⟩ := intR_ok (by assumption) h
          exact ⟨i, e, by omega, by omega⟩
        · split
          · obtain ⟨s, e, h1, h2, h3⟩ := h
            exact ⟨s, e, by omega, by omega, h3⟩
          · obtain ⟨s, e, h1, h2, h3⟩ := h
            exact ⟨s, e, by omega, by omega, fun x hx => ih (h3 x hx)⟩
          · obtain ⟨s, e, h1, h2, h3⟩ := h
            exact ⟨s, e, by omega, by omega, fun x hx => ih (h3 x hx)⟩
          · split
            · exact .inl (ih h)
            · exact .inr (ih h)
          · split
            · exact .inl (ih h)
            · exact .inr (ih h)
          · exact .inr (ih h)
          · exact .inr h
def jn (a b : Ty) : Ty := join 24 a b
theorem jn_l {a b : Ty} {d : D} (h : Has P a d) : Has P (jn a b) d := join_l _ h
theorem jn_r {a b : Ty} {d : D} (h : Has P b d) : Has P (jn a b) d := join_r _ h
def jnL : List Ty → Ty
  | [] => .bot
  | t :: r => jn (jnL r) t
/-! the single ones of a kind -/
end
end Nw

set_option autoImplicit false
set_option maxRecDepth 100000
set_option maxHeartbeats 4000000
/-! Ck, part B: operations on kinds. -/
namespace Nw
open PySem
inductive RT where
  | val (t : Ty)
  | lst (lo hi : Nat) (t : Ty)
  | obj (l : Nat)
  | new (d : D)
  | fr (t : Ty)
def HasR (P : Nat → D → Prop) : RV → RT → Prop
  | r, .val t => ∃ d, r = .val (.py d) ∧ Has P t d
  | r, .lst lo hi t => ∃ xs : List D, r = .new (.lst (xs.map .py)) ∧ lo ≤ xs.length ∧ xs.length ≤ hi ∧ ∀ x ∈ xs, Has P t x
  | r, .obj l => r = .val (.obj l)
  | r, .new d => ∃ o : OD, r = .new o ∧ o.toD = some d
  | r, .fr t => ∃ d, Has P t d ∧ (r = .val (.py d) ∨ ∃ o : OD, r = .new o ∧ o.toD = some d)
section
variable {V : Env}
/-! one step more general -/
end
end Nw

set_option autoImplicit false
set_option maxRecDepth 100000
set_option maxHeartbeats 4000000
/-! Ck, part C: what operations bring. -/
namespace Nw
open PySem
section
variable {V : Env}
/-! exact tuples -/
inductive AllH (P : Nat → D → Prop) : List Ty → List D → Prop where
  | nil : AllH P [] []
  | cons {t : Ty} {ts : List Ty} {d : D} {ds : List D} (h : Has P t d) (r : AllH P ts ds) : AllH P (t :: ts) (d :: ds)
theorem AllH.len {P : Nat → D → Prop} {ts : List Ty} {ds : List D} (h : AllH P ts ds) : ts.length = ds.length := by
  induction h with
  | nil => rfl
  | cons _ _ ih => rw [List.length_cons, List.length_cons, ih]
theorem AllH.app {P : Nat → D → Prop} {ts us : List Ty} {ds es : List D} (h : AllH P ts ds) (g : AllH P us es) : AllH P (ts ++ us) (ds ++ es) := by
  induction h with
  | nil => exact g
  | cons h _ ih => exact .cons h ih
theorem AllH.drop {P : Nat → D → Prop} : ∀ {n : Nat} {ts : List Ty} {ds : List D}, AllH P ts ds → AllH P (ts.drop n) (ds.drop n)
  | 0, _, _, h => h
  | n + 1, _, _, .nil => .nil
  | n + 1, _, _, .cons _ r => r.drop
theorem AllH.take {P : Nat → D → Prop} : ∀ {n : Nat} {ts : List Ty} {ds : List D}, AllH P ts ds → AllH P (ts.take n) (ds.take n)
  | 0, _, _, h => .nil
  | n + 1, _, _, .nil => .nil
  | n + 1, _, _, .cons h r => .cons h r.take
theorem AllH.mem {P : Nat → D → Prop} {ts : List Ty} {ds : List D} (h : AllH P ts ds) : ∀ d ∈ ds, Has P (jnL ts) d := by
  induction h with
  | nil => intro d hd; cases hd
  | cons h _ ih =>
    intro d hd
    rcases List.mem_cons.mp hd with rfl | hd
    · exact jn_r h
    · exact jn_l (ih d hd)
/-! a op b -/
/-! tests: may it be so, may it not -/
abbrev BB := Bool × Bool
def OkB (x : Option Bool) (p : BB) : Prop := ∃ b, x = some b ∧ (b = true → p.1 = true) ∧ (b = false → p.2 = true)
theorem OkB.all {b : Bool} : OkB (some b) (true, true) := ⟨b, rfl, fun _ => rfl, fun _ => rfl⟩
end
end Nw

set_option autoImplicit false
set_option maxRecDepth 100000
set_option maxHeartbeats 4000000
/-! Ck, part D: built-ins, places, cuts, methods. -/
namespace Nw
open PySem
section
variable {V : Env}
/-! len, and the like -/
/-! places -/
/-! cuts -/
theorem AllH.cut {P : Nat → D → Prop} {ts : List Ty} {ds : List D} (h : AllH P ts ds) (a b : Option Int) : AllH P (cutL ts a b) (cutL ds a b) := by
  unfold cutL
  rw [h.len]
  exact h.drop.take
/-! methods of texts -/
end
end Nw

set_option autoImplicit false
set_option maxRecDepth 100000
set_option maxHeartbeats 4000000
/-! Ck, part E: the look at code. -/
namespace Nw
open PySem
inductive AT where
  | ty (t : Ty)
  | obj (l : Nat)
inductive HT where
  | ty (t : Ty)
  | slot (i : Nat)
  | obj (l : Nat)
inductive ST where
  | top
  | val (t : Ty)
  | own (lo hi : Nat) (t : Ty)
  | lok (lo hi : Nat) (t : Ty)
  | obj (l : Nat)
abbrev Gs := List ST
structure Sg where
  f : Str → List AT → Option RT
  dr : Str → Bool
def lkS : ST → ST
  | .own l h t => .lok l h t
  | s => s
def about : E → Option Nat
  | .tst (.pk i) => some i
  | .tst (.ev (.isi (.pk i) _)) => some i
  | .tcmp _ (.pk i) _ => some i
  | .tcmp _ (.ev (.sub (.pk i) _)) _ => some i
  | .tcmp _ (.ev (.bi .len [.pk i])) _ => some i
  | .tcmp _ (.ev (.sli (.pk i) _ _)) _ => some i
  | _ => none
structure Ot where
  nx : Option Gs
  bk : Option Gs
  ct : Option Gs
  rt : Option RT
def Ot.no : Ot := ⟨none, none, none, none⟩
abbrev P2 := Option Gs × Option Gs
end Nw

set_option autoImplicit false
set_option maxRecDepth 100000
set_option maxHeartbeats 4000000
/-! Ck, part F: the look is right: expressions. -/
namespace Nw
open PySem
def HasA (P : Nat → D → Prop) : Dv → AT → Prop
  | x, .ty t => ∃ d, x = .py d ∧ Has P t d
  | x, .obj l => x = .obj l
def HasS (P : Nat → D → Prop) : Slot → ST → Prop
  | _, .top => True
  | s, .val t => ∃ d, s = .val (.py d) ∧ Has P t d
  | s, .own lo hi t => ∃ xs : List D, s = .own (.lst (xs.map .py)) ∧ lo ≤ xs.length ∧ xs.length ≤ hi ∧ ∀ x ∈ xs, Has P t x
  | s, .lok lo hi t => ∃ xs : List D, s = .lok (.lst (xs.map .py)) ∧ lo ≤ xs.length ∧ xs.length ≤ hi ∧ ∀ x ∈ xs, Has P t x
  | s, .obj l => s = .val (.obj l)
inductive Fm (P : Nat → D → Prop) : Gs → List Slot → Prop where
  | nil {sl : List Slot} : Fm P [] sl
  | cons {s : ST} {Γ : Gs} {x : Slot} {sl : List Slot} (h : HasS P x s) (r : Fm P Γ sl) : Fm P (s :: Γ) (x :: sl)
inductive AllA (P : Nat → D → Prop) : List Dv → List AT → Prop where
  | nil : AllA P [] []
  | cons {x : Dv} {xs : List Dv} {a : AT} {as : List AT} (h : HasA P x a) (r : AllA P xs as) : AllA P (x :: xs) (a :: as)
section
variable {P : Nat → D → Prop} {Γ G H : Gs} {sl : List Slot}
theorem Fm.len (h : Fm P Γ sl) : Γ.length ≤ sl.length := by
  induction h with
  | nil => exact Nat.zero_le _
  | cons _ _ ih => rw [List.length_cons, List.length_cons]; omega
theorem Fm.set : ∀ {Γ : Gs} {sl : List Slot} {i : Nat} {s : ST} {x : Slot}, Fm P Γ sl → HasS P x s → Fm P (Γ.set i s) (sl.set i x)
  | _, _, _, _, _, .nil, _ => .nil
  | _, _, 0, _, _, .cons _ r, g => .cons g r
  | _, _, i + 1, _, _, .cons h r, g => .cons h (r.set g)
theorem lk_ok {x : Slot} {s : ST} (h : HasS P x s) : HasS P x.lock (lkS s) := by
  cases s with
  | top => trivial
  | val t =>
    obtain ⟨d, rfl, g⟩ := h
    exact ⟨d, rfl, g⟩
  | own lo hi t =>
    obtain ⟨xs, rfl, g⟩ := h
    exact ⟨xs, rfl, g⟩
  | lok lo hi t =>
    obtain ⟨xs, rfl, g⟩ := h
    exact ⟨xs, rfl, g⟩
  | obj l =>
    cases h
    rfl
theorem Fm.lk {Γ : Gs} {sl : List Slot} (h : Fm P Γ sl) : Fm P (Γ.map lkS) (sl.map Slot.lock) := by
  induction h with
  | nil => exact .nil
  | cons h _ ih => exact .cons (lk_ok h) ih
end
structure SgOk (V : Env) (sg : Sg) (C : Call) (J : List OD → Prop) : Prop where
  f : ∀ {f : Str} {as : List AT} {r : RT} {xs : List Dv} {st : List OD} {X : Str → Option D → List OD → Prop}, sg.f f as = some r → AllA V.P xs as → J st → ClG C f xs st (fun v st' => HasR V.P v r ∧ J st') X
  dr : ∀ {f : Str} {m : Int} {st : List OD} {X : Str → Option D → List OD → Prop}, sg.dr f = true → 0 < m → m < 2 ^ 64 → J st → ClG C f [.obj 0, .py (.int m)] st (fun v st' => ∃ d : Int, v = .val (.py (.int d)) ∧ 0 ≤ d ∧ d < m ∧ J st') X
section
variable {V : Env} {sg : Sg} {C : Call} {J : List OD → Prop} {n : Nat} {Γ : Gs} {sl : List Slot} {st : List OD} {X : XF}
end
end Nw

set_option autoImplicit false
set_option maxRecDepth 100000
set_option maxHeartbeats 4000000
/-! Ck, part G: the look is right, form by form. -/
namespace Nw
open PySem
section
variable {V : Env} {sg : Sg} {C : Call} {J : List OD → Prop} {n : Nat} {Γ : Gs} {sl : List Slot} {st : List OD} {X : XF}
/-! handles, values, bounds -/
end
end Nw

set_option autoImplicit false
set_option maxRecDepth 100000
set_option maxHeartbeats 4000000
/-! Ck, part H: tests, walks, comprehensions, draws. -/
namespace Nw
open PySem
section
variable {V : Env} {sg : Sg} {C : Call} {J : List OD → Prop} {n : Nat} {Γ : Gs} {sl : List Slot} {st : List OD} {X : XF}
end
end Nw

set_option autoImplicit false
set_option maxRecDepth 100000
set_option maxHeartbeats 4000000
/-! Ck, part I: walks, comprehensions, draws, dicts. -/
namespace Nw
open PySem
section
variable {V : Env} {sg : Sg} {C : Call} {J : List OD → Prop} {n : Nat} {Γ : Gs} {sl : List Slot} {st : List OD} {X : XF}
end
end Nw

set_option autoImplicit false
set_option maxRecDepth 100000
set_option maxHeartbeats 4000000
/-! Ck, part J: statements, loops, defs. -/
namespace Nw
open PySem
section
variable {V : Env} {sg : Sg} {C : Call} {J : List OD → Prop} {n : Nat} {Γ : Gs} {sl : List Slot} {st : List OD} {X : XF}
/-! statements -/
end
end Nw

set_option autoImplicit false
set_option maxRecDepth 100000
set_option maxHeartbeats 4000000
/-! Ck, part K: statements, defs, calls of calls. -/
namespace Nw
open PySem
section
variable {V : Env} {sg : Sg} {C : Call} {J : List OD → Prop} {n : Nat} {Γ : Gs} {sl : List Slot} {st : List OD} {X : XF}
theorem sz_set {i : Nat} {x : Slot} {s : List Slot} {t : List OD} {Q : List Slot → List OD → Prop} (h : i < s.length) (q : Q (s.set i x) t) : Go (setS i x) s t (fun _ s t => Q s t) X := by
  refine ⟨?_⟩
  rw [wp_setS]
  exact ⟨h, q⟩
/-! defs -/
def stA : AT → ST
  | .ty t => .val t
  | .obj l => .obj l
def start (as : List AT) (k : Nat) : Gs := as.map stA ++ List.replicate k .top
def SgAll (V : Env) (T : Tb) (sg : Sg) (J : List OD → Prop) (k : Nat) : Prop := ∀ m, k ≤ m → SgOk V sg (run T m) J
/-! a table of what was looked at -/
abbrev Row := Str × List AT × RT
def RowOk (V : Env) (T : Tb) (J : List OD → Prop) (k : Nat) (e : Row) : Prop := ∀ {m : Nat} {xs : List Dv} {st : List OD} {X : Str → Option D → List OD → Prop}, k ≤ m → AllA V.P xs e.2.1 → J st → ClG (run T m) e.1 xs st (fun v st' => HasR V.P v e.2.2 ∧ J st') X
theorem RowOk.le {T : Tb} {k k' : Nat} {e : Row} (h : RowOk V T J k e) (hk : k ≤ k') : RowOk V T J k' e := fun hm => h (Nat.le_trans hk hm)
theorem SgAll.le {T : Tb} {k k' : Nat} (h : SgAll V T sg J k) (hk : k ≤ k') : SgAll V T sg J k' := fun m hm => h m (Nat.le_trans hk hm)
end
end Nw

set_option autoImplicit false
set_option maxRecDepth 100000
set_option maxHeartbeats 4000000
/-! Ck, part L: data whose texts are short. -/
namespace Nw
open PySem
theorem tw {c : Bool} {P P' : Prop} (h : (c = true → P) ∧ (c = false → P')) : (c = true → P) ∧ (c = false → P') := h
theorem g_e_disj {C : Call} {X : XF} {sl : List Slot} {st : List OD} {a b : E} {Q : RV → List Slot → List OD → Prop} (w : Go (dE C a) sl st (fun r sl1 st1 => Fz r fun x => VwG (.dv x) sl1 st1 fun d => ∃ t, truD d = some t ∧ ((t = true → Q (.val x) sl1 st1) ∧ (t = false → Go (dE C b) sl1 st1 Q X))) X) : Go (dE C (.disj a b)) sl st Q X := by
  show Go (disjM (toV (dE C a)) (dE C b)) _ _ _ _
  unfold disjM truH
  refine Go.bind (g_wp_toV (w.mono (fun r s t h => ?_) fun _ _ _ z => z))
  have key : ∀ x : Dv, (VwG (.dv x) s t fun d => ∃ t', truD d = some t' ∧ ((t' = true → Q (.val x) s t) ∧ (t' = false → Go (dE C b) s t Q X))) → Go ((viewH (.dv x) >>= fun d => liftO (truD d)) >>= fun t => if t then pure (.val x) else dE C b) s t Q X := by
    intro x ⟨d, e, t', et, h1, h2⟩
    rw [bind_assoc]
    refine ⟨wp_vw ⟨d, e, ?_⟩⟩
    dsimp only
    rw [wp_bind]
    refine wp_some' ⟨t', et, ?_⟩
    cases t' with
    | true => exact (Go.pure (h1 rfl)).out
    | false => exact (h2 rfl).out
  cases r with
  | val x => exact key x h
  | new o =>
    obtain ⟨x, e, h⟩ := h
    exact ⟨x, e, key x h⟩
theorem twoNT {c : Bool} {P P' : Prop} (e : c = false) (h : P) : ((!c) = true → P) ∧ ((!c) = false → P') := twoEvT (by rw [e]; rfl) h
theorem twoNF {c : Bool} {P P' : Prop} (e : c = true) (h : P') : ((!c) = true → P) ∧ ((!c) = false → P') := twoEvF (by rw [e]; rfl) h
theorem ix_at {α : Type} {xs : List α} {n : Nat} {a : α} (h : xs[n]? = some a) : ixD xs (n : Int) = some a := by
  have hl := (List.getElem?_eq_some_iff.mp h).1
  unfold ixD L2.atI L2.ixN
  rw [if_pos (by omega), if_pos (by omega)]
  exact h
theorem ix_t0 {a : D} {r : List D} {P : D → Prop} (p : P a) : ∃ v, opSub (.tuple (a :: r)) (.int 0) = some v ∧ P v := ⟨a, ix_at (n := 0) rfl, p⟩
theorem ix_t1 {a b : D} {r : List D} {P : D → Prop} (p : P b) : ∃ v, opSub (.tuple (a :: b :: r)) (.int 1) = some v ∧ P v := ⟨b, ix_at (n := 1) rfl, p⟩
theorem ix_t2 {a b c : D} {r : List D} {P : D → Prop} (p : P c) : ∃ v, opSub (.tuple (a :: b :: c :: r)) (.int 2) = some v ∧ P v := ⟨c, ix_at (n := 2) rfl, p⟩
theorem ix_t3 {a b c d : D} {r : List D} {P : D → Prop} (p : P d) : ∃ v, opSub (.tuple (a :: b :: c :: d :: r)) (.int 3) = some v ∧ P v := ⟨d, ix_at (n := 3) rfl, p⟩
theorem g_s_par {C : Call} {X : XF} {sl : List Slot} {st : List OD} {i j : Nat} {a b : E} {Q : Fl → List Slot → List OD → Prop} (w : Go (dE C a) sl st (fun r sl1 st1 => Fz r fun x => Go (dE C b) sl1 st1 (fun r2 sl2 st2 => Fz r2 fun y => ∃ sl3, SetR i (.val x) sl2 sl3 ∧ ∃ sl4, SetR j (.val y) sl3 sl4 ∧ Q .next sl4 st2) X) X) : Go (dS C (.par i j a b)) sl st Q X := by
  show Go (toV (dE C a) >>= fun x => toV (dE C b) >>= fun y => (setS i (.val x) : M Unit) >>= fun _ => (setS j (.val y) : M Unit) >>= fun _ => pure Fl.next) _ _ _ _
  have k2 : ∀ {x y : Dv} {s : List Slot} {t : List OD}, (∃ sl3, SetR i (.val x) s sl3 ∧ ∃ sl4, SetR j (.val y) sl3 sl4 ∧ Q .next sl4 t) → Go ((setS i (.val x) : M Unit) >>= fun _ => (setS j (.val y) : M Unit) >>= fun _ => pure Fl.next) s t Q X := by
    intro x y s t ⟨sl3, h1, sl4, h2, q⟩
    obtain ⟨a1, a2⟩ := h1.eq
    obtain ⟨b1, b2⟩ := h2.eq
    subst a2
    subst b2
    exact Go.bind (sz_set (Q := fun s t => Go ((setS j (.val y) : M Unit) >>= fun _ => pure Fl.next) s t _ _) a1 (Go.bind (sz_set (Q := fun s t => Go (pure Fl.next) s t _ _) b1 (Go.pure q))))
  have k1 : ∀ {x : Dv} {s : List Slot} {t : List OD}, Go (dE C b) s t (fun r2 sl2 st2 => Fz r2 fun y => ∃ sl3, SetR i (.val x) sl2 sl3 ∧ ∃ sl4, SetR j (.val y) sl3 sl4 ∧ Q .next sl4 st2) X → Go (toV (dE C b) >>= fun y => (setS i (.val x) : M Unit) >>= fun _ => (setS j (.val y) : M Unit) >>= fun _ => pure Fl.next) s t Q X := by
    intro x s t w
    refine Go.bind (g_wp_toV (w.mono (fun r s t h => ?_) fun _ _ _ z => z))
    cases r with
    | val y => exact k2 h
    | new o =>
      obtain ⟨y, e, h⟩ := h
      exact ⟨y, e, k2 h⟩
  refine Go.bind (g_wp_toV (w.mono (fun r s t h => ?_) fun _ _ _ z => z))
  cases r with
  | val x => exact k1 h
  | new o =>
    obtain ⟨x, e, h⟩ := h
    exact ⟨x, e, k1 h⟩
mutual
def fdB : D → Bool
  | .str s => lowB s && decide (s.length ≤ 100000)
  | .list xs => fdBs xs
  | .tuple xs => fdBs xs
  | .dict kvs => kvs.isEmpty
  | _ => true
def fdBs : List D → Bool
  | [] => true
  | x :: r => fdB x && fdBs r
end
end Nw

set_option autoImplicit false
set_option maxRecDepth 100000
set_option maxHeartbeats 4000000
/-! Bank J: words and names. -/
namespace Nw
open PySem
def B_f_is_word : List S := [(.ife (.tor (.tnot (.tst (.ev (.isi (.pk 0) ["str"])))) (.tnot (.tchain .le .le (.ev (.cst (.int 1))) (.ev (.bi .len [(.pk 0)])) (.ev (.glb "LONGEST_WORD" (.int 6)))))) [(.ret (.cst (.bool false)))] []), (.ret (.bi .all [(.ev (.comp (.one 1) (.walk (.pk 0)) none (.cmp .mem (.pk 1) (.ev (.glb "LETTERS" (.str "abcdefghijklmnopqrstuvwxyz"))))))]))]
def F_f_is_word : Fn := ⟨1, 2, B_f_is_word⟩
class H_f_is_word (T : Tb) : Prop where
  eq_f_is_word : T "is_word" = some F_f_is_word
def B_f_words_of : List S := [(.ife (.tcmp .eq (.pk 0) (.ev (.glb "ROOT" (.str "")))) [(.ret (.lst []))] []), (.ret (.met .split (.pk 0) [(.ev (.cst (.str ".")))]))]
def F_f_words_of : Fn := ⟨1, 1, B_f_words_of⟩
class H_f_words_of (T : Tb) : Prop where
  eq_f_words_of : T "words_of" = some F_f_words_of
def B_f_is_name : List S := [(.ife (.tnot (.tst (.ev (.isi (.pk 0) ["str"])))) [(.ret (.cst (.bool false)))] []), (.own 1 (.call "words_of" [(.var 0)])), (.ret (.conj (.cmp .le (.ev (.bi .len [(.pk 1)])) (.ev (.glb "MOST_WORDS" (.int 4)))) (.bi .all [(.ev (.comp (.one 2) (.walk (.pk 1)) none (.call "is_word" [(.var 2)])))])))]
def F_f_is_name : Fn := ⟨1, 3, B_f_is_name⟩
class H_f_is_name (T : Tb) : Prop extends H_f_words_of T, H_f_is_word T where
  eq_f_is_name : T "is_name" = some F_f_is_name
def B_l_draw : List S := [(.ife (.tcmp .gt (.ev (.sub (.pk 0) (.ev (.cst (.int 2))))) (.ev (.cst (.int 0)))) [(.own 5 (.bin .mod (.ev (.sub (.pk 0) (.ev (.cst (.int 2))))) (.pk 1))), (.seti 0 (.ev (.cst (.int 2))) (.bin .fdiv (.ev (.sub (.pk 0) (.ev (.cst (.int 2))))) (.pk 1))), (.retv 5)] []), (.own 2 (.sub (.pk 0) (.ev (.cst (.int 1))))), (.seti 0 (.ev (.cst (.int 1))) (.bin .add (.pk 2) (.ev (.cst (.int 1))))), (.own 3 (.cst (.int 0))), (.ife (.tcmp .gt (.ev (.bi .len [(.ev (.sub (.pk 0) (.ev (.cst (.int 0)))))])) (.ev (.cst (.int 0)))) [(.own 3 (.sub (.ev (.sub (.pk 0) (.ev (.cst (.int 0))))) (.ev (.bin .mod (.pk 2) (.ev (.bi .len [(.ev (.sub (.pk 0) (.ev (.cst (.int 0)))))]))))))] []), (.ife (.tand (.tcmp .lt (.pk 2) (.ev (.bi .len [(.ev (.sub (.pk 0) (.ev (.cst (.int 0)))))]))) (.tcmp .ge (.ev (.bi .abs [(.pk 3)])) (.ev (.bin .pow (.ev (.cst (.int 10))) (.ev (.cst (.int 18))))))) [(.seti 0 (.ev (.cst (.int 2))) (.bin .fdiv (.ev (.bi .abs [(.pk 3)])) (.pk 1))), (.ret (.bin .mod (.ev (.bi .abs [(.pk 3)])) (.pk 1)))] []), (.own 4 (.bin .mod (.ev (.bin .add (.ev (.bin .add (.ev (.bin .mod (.pk 3) (.ev (.cst (.int 2147483579))))) (.ev (.bin .mul (.ev (.cst (.int 52361))) (.pk 2))))) (.ev (.cst (.int 7))))) (.ev (.cst (.int 2147483647))))), (.own 4 (.bin .mod (.ev (.bin .add (.ev (.bin .add (.ev (.bin .mul (.pk 4) (.pk 4))) (.ev (.bin .mul (.ev (.cst (.int 69427))) (.pk 2))))) (.ev (.cst (.int 5))))) (.ev (.cst (.int 2147483587))))), (.own 4 (.bin .mod (.ev (.bin .add (.ev (.bin .add (.ev (.bin .mul (.pk 4) (.pk 4))) (.ev (.bin .mul (.ev (.cst (.int 31))) (.pk 4))))) (.pk 2))) (.ev (.cst (.int 2147483563))))), (.ret (.bin .mod (.ev (.bin .fdiv (.pk 4) (.ev (.cst (.int 32))))) (.pk 1)))]
def F_l_draw : Fn := ⟨2, 6, B_l_draw⟩
class H_l_draw (T : Tb) : Prop where
  eq_l_draw : T "_law_draw" = some F_l_draw
theorem draw_use {T : Tb} [i : H_l_draw T] {k : Nat} {m : Int} {ns : List Int} {rest st : List OD} {Q : RV → List OD → Prop} {X} (h0 : 0 < m) (h1 : m < 18446744073709551616) (p : Pn ns rest st)
    (q : ∀ (d : Int) st', 0 ≤ d → d < m → Pn ns rest st' → Q (.val (.py (.int d))) st') : ClG (run T (k + 1)) "_law_draw" [.obj 0, .py (.int m)] st Q X := by
  refine ClG.use (draw_ok (i.eq_l_draw.trans rfl) h0 h1 p) ?_
  rintro r st1 ⟨d, rfl, a, b, c⟩
  exact q d st1 a b c
end Nw

set_option autoImplicit false
set_option maxRecDepth 100000
set_option maxHeartbeats 1000000
/-! Bank K: what is a word, a name. -/
set_option hygiene false in
local macro_rules
  | `(tactic| walk_at "q_dSs") => `(tactic| first
    | with_reducible refine g_ss_cons ?_
    | with_reducible refine g_ss_nil ?_)
  | `(tactic| walk_at "q_dE") => `(tactic| first
    | with_reducible refine g_e_conj ?_
    | with_reducible refine g_e_cst ?_
    | with_reducible refine g_e_glb ?_
    | with_reducible refine g_e_bin ?_
    | with_reducible refine g_e_sub ?_
    | with_reducible refine g_e_bi ?_
    | with_reducible refine g_e_cmp ?_
    | with_reducible refine g_e_lst ?_
    | with_reducible refine g_e_tup ?_
    | with_reducible refine g_e_call ?_
    | with_reducible refine g_e_met ?_
    | with_reducible refine g_e_isi ?_
    | with_reducible refine g_e_sli ?_
    | with_reducible refine g_e_rev ?_
    | with_reducible refine g_e_neg ?_
    | with_reducible refine g_e_not ?_
    | with_reducible refine g_e_chain ?_
    | with_reducible refine g_e_ife ?_
    | ((with_reducible apply g_e_var); exact rfl)
    | ((with_reducible apply g_e_mutO); exact rfl)
    | ((with_reducible apply g_e_varO); exact rfl; exact rfl)
    | with_reducible refine g_dic0 ?_
    | with_reducible refine g_dic1 ?_)
  | `(tactic| walk_at "q_dS") => `(tactic| first
    | with_reducible refine g_s_if ?_
    | with_reducible refine g_s_own ?_
    | with_reducible refine g_s_ret ?_
    | with_reducible refine g_s_ex ?_
    | with_reducible refine g_s_ref ?_
    | with_reducible refine g_s_pass ?_
    | with_reducible refine g_s_setiO (l := 0) ?_
    | ((with_reducible apply g_s_retvV); exact rfl)
    | ((with_reducible apply g_s_retvO); exact rfl)
    | with_reducible refine g_s_unpT ?_)
  | `(tactic| walk_at "q_th") => `(tactic| first
    | with_reducible refine g_th_next ?_
    | with_reducible refine g_th_ret ?_
    | with_reducible refine g_th_brk ?_
    | with_reducible refine g_th_cont ?_)
  | `(tactic| walk_at "q_dT") => `(tactic| first
    | with_reducible refine g_t_cmp ?_
    | with_reducible refine g_t_tst ?_
    | with_reducible refine g_t_not ?_
    | with_reducible refine g_t_and ?_
    | with_reducible refine g_t_or ?_
    | with_reducible refine g_t_chain ?_)
  | `(tactic| walk_at "q_dH") => `(tactic| first
    | with_reducible refine g_h_ev ?_
    | ((with_reducible apply g_h_pk); exact rfl)
    | ((with_reducible apply g_h_pkO); exact rfl)
    | ((with_reducible apply g_h_pkL); exact rfl))
  | `(tactic| walk_at "q_opt") => `(tactic| first
    | with_reducible refine g_m_opt ?_
    | with_reducible refine g_m_optN ?_)
  | `(tactic| walk_at "q_dHs") => `(tactic| first
    | with_reducible refine g_hs_nil ?_
    | with_reducible refine g_hs_cons ?_)
  | `(tactic| walk_at "q_dVs") => `(tactic| first
    | with_reducible refine g_vs_nil ?_
    | with_reducible refine g_vs_cons ?_)
  | `(tactic| walk_at "q_dI") => `(tactic| first
    | with_reducible refine g_i_ev ?_
    | with_reducible refine g_i_walk ?_
    | with_reducible refine g_i_rng ?_
    | with_reducible refine g_i_zip ?_)
  | `(tactic| walk_at "q_dC") => `(tactic| first
    | with_reducible refine g_c_none ?_
    | with_reducible refine g_c_some ?_)
  | `(tactic| walk_at "q_vi") => `(tactic| first
    | with_reducible refine vi_py ?_
    | ((with_reducible apply vi_own); exact rfl; exact rfl)
    | ((with_reducible apply vi_lok); exact rfl; exact rfl))
  | `(tactic| walk_at "q_lq") => `(tactic| first
    | with_reducible refine lq_next ?_
    | with_reducible refine lq_cont ?_
    | with_reducible refine lq_brk ?_
    | with_reducible refine lq_ret ?_)
  | `(tactic| walk_at "q_fzd") => `(tactic| first
    | with_reducible refine fzd_val ?_
    | with_reducible refine fzd_newM ?_
    | ((with_reducible apply fzd_new); exact rfl))
  | `(tactic| walk_at "q_fz") => `(tactic| first
    | with_reducible refine fz_newM ?_
    | with_reducible refine fz_val ?_
    | ((with_reducible apply fz_new); exact rfl))
  | `(tactic| walk_at "q_vw") => `(tactic| first
    | with_reducible refine g_vw_py ?_
    | ((with_reducible apply g_vw_ownM); exact rfl)
    | ((with_reducible apply g_vw_lokM); exact rfl)
    | ((with_reducible apply g_vw_obj); exact rfl; exact rfl)
    | ((with_reducible apply g_vw_own); exact rfl; exact rfl)
    | ((with_reducible apply g_vw_lok); exact rfl; exact rfl))
  | `(tactic| walk_at "q_vws") => `(tactic| first
    | with_reducible refine g_vws_nil ?_
    | with_reducible refine g_vws_cons ?_)
  | `(tactic| walk_at "q_en") => `(tactic| first
    | with_reducible refine en_ret' ?_
    | with_reducible refine en_next' ?_)
  | `(tactic| walk_at "q_ow") => `(tactic| first
    | with_reducible refine ow_val ?_
    | with_reducible refine ow_new ?_)
  | `(tactic| walk_at "q_two") => `(tactic| first
    | with_reducible refine twoT ?_
    | with_reducible refine twoF ?_
    | with_reducible refine twoEvT (c := !true) (by decide) ?_
    | with_reducible refine twoEvF (c := !true) (by decide) ?_
    | with_reducible refine twoEvT (c := !false) (by decide) ?_
    | with_reducible refine twoEvF (c := !false) (by decide) ?_
    | with_reducible refine twoEvT (c := PyData.eqv (.str (Str.ofString _)) (.str (Str.ofString _))) (by decide) ?_
    | with_reducible refine twoEvF (c := PyData.eqv (.str (Str.ofString _)) (.str (Str.ofString _))) (by decide) ?_
    | with_reducible refine twoEvT (c := !PyData.eqv (.str (Str.ofString _)) (.str (Str.ofString _))) (by decide) ?_
    | with_reducible refine twoEvF (c := !PyData.eqv (.str (Str.ofString _)) (.str (Str.ofString _))) (by decide) ?_
    | with_reducible refine twoEvT (c := PyData.eqv (.int (OfNat.ofNat _)) (.int (OfNat.ofNat _))) (by decide) ?_
    | with_reducible refine twoEvF (c := PyData.eqv (.int (OfNat.ofNat _)) (.int (OfNat.ofNat _))) (by decide) ?_
    | with_reducible refine two (fun hc => ?_) (fun hc => ?_))
  | `(tactic| walk_at "q_opB") => `(tactic| first
    | with_reducible refine x_add ?_
    | with_reducible refine x_sub ?_
    | with_reducible refine x_mul ?_ ?_
    | with_reducible refine x_fdiv ?_ ?_
    | with_reducible refine x_mod ?_ ?_
    | with_reducible refine x_pow ?_ ?_
    | with_reducible refine x_band ?_
    | with_reducible refine x_shr ?_ ?_
    | with_reducible refine x_shl ?_ ?_
    | with_reducible refine x_addS ?_ ?_
    | with_reducible refine x_addL ?_ ?_
    | with_reducible refine x_addT ?_ ?_
    | with_reducible refine x_mulS ?_ ?_)
  | `(tactic| walk_at "q_opC") => `(tactic| first
    | with_reducible refine x_eqS ?_
    | with_reducible refine x_neS ?_
    | with_reducible refine x_eq ?_ ?_
    | with_reducible refine x_ne ?_ ?_
    | with_reducible refine x_lt ?_
    | with_reducible refine x_ltS ?_
    | with_reducible refine x_le ?_
    | with_reducible refine x_gt ?_
    | with_reducible refine x_ge ?_
    | with_reducible refine x_memS ?_
    | with_reducible refine x_nmemS ?_)
  | `(tactic| walk_at "q_tru") => `(tactic| first
    | with_reducible refine t_bool ?_
    | with_reducible refine t_int ?_
    | with_reducible refine t_str ?_ ?_
    | with_reducible refine t_list ?_
    | with_reducible refine t_tup ?_
    | with_reducible refine t_none ?_)
  | `(tactic| walk_at "q_opBI") => `(tactic| first
    | with_reducible refine b_lenS ?_ ?_
    | with_reducible refine b_lenL ?_
    | with_reducible refine b_lenT ?_
    | with_reducible refine b_setS ?_ ?_
    | with_reducible refine b_setL ?_ ?_
    | with_reducible refine b_absI ?_
    | with_reducible refine b_intI ?_
    | with_reducible refine b_intB ?_
    | with_reducible refine b_boolI ?_
    | with_reducible refine b_boolB ?_
    | with_reducible refine b_listL ?_
    | with_reducible refine b_listT ?_
    | with_reducible refine b_tupL ?_
    | with_reducible refine b_tupT ?_
    | with_reducible refine b_max2 ?_
    | with_reducible refine b_min2 ?_)
  | `(tactic| walk_at "q_opMT") => `(tactic| first
    | with_reducible refine m_count ?_
    | with_reducible refine m_find ?_
    | with_reducible refine m_split ?_ ?_
    | with_reducible refine m_upper ?_ ?_)
set_option hygiene false in
local macro_rules
  | `(tactic| walk_at "nw") => `(tactic| first
    | ((with_reducible refine gd_dE ?_); walk_at "q_dE")
    | ((with_reducible refine gd_dH ?_); walk_at "q_dH")
    | ((with_reducible refine gd_dSs ?_); walk_at "q_dSs")
    | ((with_reducible refine gd_dS ?_); walk_at "q_dS")
    | ((with_reducible refine gd_dT ?_); walk_at "q_dT")
    | ((with_reducible refine gd_vw ?_); walk_at "q_vw")
    | ((with_reducible refine gd_opC ?_); walk_at "q_opC")
    | ((with_reducible refine gd_two ?_); walk_at "q_two")
    | ((with_reducible refine gd_fz ?_); walk_at "q_fz")
    | ((with_reducible refine gd_th ?_); walk_at "q_th")
    | ((with_reducible refine gd_opB ?_); walk_at "q_opB")
    | ((with_reducible refine gd_opBI ?_); walk_at "q_opBI")
    | ((with_reducible refine gd_tru ?_); walk_at "q_tru")
    | ((with_reducible refine gd_dHs ?_); walk_at "q_dHs")
    | ((with_reducible refine gd_dVs ?_); walk_at "q_dVs")
    | ((with_reducible refine gd_vws ?_); walk_at "q_vws")
    | ((with_reducible refine gd_ow ?_); walk_at "q_ow")
    | ((with_reducible refine gd_en ?_); walk_at "q_en")
    | ((with_reducible refine gd_fzd ?_); walk_at "q_fzd")
    | ((with_reducible refine gd_opMT ?_); walk_at "q_opMT")
    | ((with_reducible refine gd_dI ?_); walk_at "q_dI")
    | ((with_reducible refine gd_dC ?_); walk_at "q_dC")
    | ((with_reducible refine gd_opt ?_); walk_at "q_opt")
    | ((with_reducible refine gd_lq ?_); walk_at "q_lq")
    | ((with_reducible refine gd_vi ?_); walk_at "q_vi")
    | with_reducible refine g_b_one ?_
    | with_reducible refine g_b_nil ?_
    | with_reducible refine g_b_cons ?_
    | with_reducible refine g_b_tup ?_
    | with_reducible refine an_rfl ?_
    | with_reducible refine ex_ref ?_
    | with_reducible refine ex_str ?_
    | with_reducible refine ex_int ?_
    | with_reducible refine l_cutL ?_
    | with_reducible refine l_cutT ?_
    | with_reducible refine l_cutS ?_ ?_
    | with_reducible refine l_rev ?_
    | with_reducible refine u_app ?_ ?_
    | with_reducible refine it_str ?_
    | with_reducible refine it_list ?_
    | with_reducible refine it_tup ?_
    | with_reducible refine pn_get0 ?_
    | with_reducible refine pn_set0 ?_
    | with_reducible refine pn_get1 ?_
    | with_reducible refine pn_set1 ?_
    | with_reducible refine pn_get2 ?_
    | with_reducible refine pn_set2 ?_
    | with_reducible refine ex_set SetR.n0 ?_
    | with_reducible refine ex_set SetR.n1 ?_
    | with_reducible refine ex_set SetR.n2 ?_
    | with_reducible refine ex_set SetR.n3 ?_
    | with_reducible refine ex_set SetR.n4 ?_
    | with_reducible refine ex_set SetR.n5 ?_
    | with_reducible refine ex_set SetR.n6 ?_
    | with_reducible refine ex_set SetR.n7 ?_
    | with_reducible refine ex_set SetR.n8 ?_
    | with_reducible refine ex_set SetR.n9 ?_
    | with_reducible refine ex_set SetR.n10 ?_
    | with_reducible refine ex_set SetR.n11 ?_
    | with_reducible refine ex_set SetR.n12 ?_
    | with_reducible refine ex_set SetR.n13 ?_
    | with_reducible refine ex_set SetR.n14 ?_
    | with_reducible refine ex_set SetR.n15 ?_
    | with_reducible refine ex_lst ?_
    | with_reducible refine it_rng (by decide) ?_
    | with_reducible refine ex_at0 ?_
    | with_reducible refine ex_hd ?_
    | ((with_reducible apply an); exact rfl)
    | ((with_reducible apply an); exact Nat.le_of_ble_eq_true rfl)
    | with_reducible refine ex_unT ?_
    | with_reducible refine ex_unL ?_
    | (with_reducible refine ex_ixT ?_; refine ⟨_, rfl, ?_⟩)
    | (with_reducible refine ex_ix ?_; refine ⟨_, rfl, ?_⟩)
    | with_reducible refine ex_allDn ?_
    | with_reducible refine ex_allDc ?_
    | with_reducible refine shp_and ?_ ?_
    | ((with_reducible show Nw.fits _ = true); exact fits_le (by first | omega | (simp only [List.length_append, List.length_cons, List.length_nil, List.length_map]; omega)))
    | with_reducible exact shp_int
    | with_reducible exact shp_bool
    | with_reducible exact shp_none
    | (with_reducible refine shp_strL ?_; with_reducible assumption)
    | (with_reducible refine shp_strL (low_o ?_); decide)
    | ((with_reducible apply ex_allD); exact rfl)
    | ((with_reducible apply ex_ownS); exact rfl))
local macro_rules
  | `(tactic| walk_at "go") => `(tactic| repeat' (first | walk_at "nw" | with_reducible assumption))
local macro_rules
  | `(tactic| walk_at "gor") => `(tactic| repeat' (first | walk_at "nw" | with_reducible assumption | exact rfl))
set_option hygiene false in
local macro_rules
  | `(tactic| walk_at "lk") => `(tactic| simp only [lockS, wipeS, slotsT, List.foldl_cons, List.foldl_nil, List.set_cons_zero, List.set_cons_succ, List.map_cons, List.map_nil, lock_val, lock_own, lock_un, lock_lok])
set_option hygiene false in
local macro_rules
  | `(tactic| walk_at "dw") => `(tactic| (with_reducible refine draw_use (by first | omega | decide) (by first | omega | decide) (by assumption) ?_; intro d st' hd0 hd1 hp))
set_option hygiene false in
local macro_rules
  | `(tactic| walk_at "god") => `(tactic| repeat' (first | ((with_reducible apply g_e_app); exact rfl) | with_reducible refine ex_pyD ?_ | ((with_reducible apply ex_ownM); exact rfl) | with_reducible refine ne_self ?_ | ((with_reducible apply g_e_varOM); exact rfl) | walk_at "nw" | walk_at "dw" | with_reducible assumption | exact rfl | ((with_reducible apply big_or2); decide) | ((with_reducible apply big_or); decide) | exact decide_eq_true (by omega) | with_reducible refine an (by omega) ?_ | (with_reducible refine it_rng (decide_eq_true (by omega)) ?_)))
namespace Nw
open PySem
theorem eqv_strR (a b : Str) : PyData.eqv (.str a) (.str b) = (a == b) := by simp only [PyData.eqv]
theorem str_nil {s : Str} : (s == Str.ofString "") = decide (s.cps.toList = []) := by
  have e : Str.ofString "" = ⟨#[]⟩ := by decide
  rw [e]
  rcases s with ⟨⟨l⟩⟩
  cases l with
  | nil => rfl
  | cons x r => simp [BEq.beq]
abbrev sL (l : List Nat) : D := .str (mkS l)
def nD (ps : List (List Nat)) : List D := ps.map sL
section
variable {T : Tb} {k : Nat} {st : List OD} {Q : RV → List OD → Prop} {X : Str → Option D → List OD → Prop}
theorem b_allP {α : Type} {f : α → Bool} {l : List α} {P : RV → Prop} (p : P (.val (.py (.bool (l.all f))))) : ∃ r, opBI .all [.list (l.map fun c => PyData.bool (f c))] = some r ∧ P r := x_all p
theorem is_word_use [i : H_f_is_word T] {d : D} (f : fine d) (q : Q (.val (.py (.bool (isW d)))) st) : ClG (run T (k + 1)) "is_word" [.py d] st Q X := by
  refine clg_run i.eq_f_is_word rfl ?_
  show Go (dSs (run T k) B_f_is_word) [.val (.py d), .un] st _ _
  unfold B_f_is_word
  by_cases hd : ∃ s, d = .str s
  · obtain ⟨s, rfl⟩ := hd
    have f1 : s.length ≤ 16000000 := f.1
    walk_at "god"
    · cases hc
    · have hc1 : decide (1 ≤ (s.length : Int)) = true := by assumption
      have hc2 : decide ((s.length : Int) ≤ 6) = false := by simpa using hc
      have e : isW (.str s) = false := by simp only [isW, hc1, hc2, Bool.and_false, Bool.false_and, Bool.true_and]
      rw [← e]
      exact q
    · have hc1 : decide (1 ≤ (s.length : Int)) = true := by assumption
      have hc2 : decide ((s.length : Int) ≤ 6) = true := by simpa using hc
      refine g_e_compM (fun c : Nat => PyData.str ⟨#[c]⟩) (fun c => PyData.bool (inA c)) ?_
      walk_at "god"
      refine ⟨s.cps.toList, rfl, by rw [cps_len]; omega, fun c hc => ?_, ?_⟩
      · walk_at "lk"
        walk_at "god"
      · walk_at "god"
        refine x_all ?_
        walk_at "god"
        have e : isW (.str s) = s.cps.toList.all inA := by simp only [isW, hc1, hc2, Bool.true_and]
        rw [← e]
        exact q
    · have hc1 : decide (1 ≤ (s.length : Int)) = false := by assumption
      have e : isW (.str s) = false := by simp only [isW, hc1, Bool.false_and]
      rw [← e]
      exact q
  · have n := fun s h => hd ⟨s, h⟩
    have e1 := not_str_i n
    rw [not_str_w n] at q
    walk_at "god"
    all_goals (rw [e1] at *; contradiction)
theorem nD_str (l : List (List Nat)) : (l.map mkS).map PyData.str = nD l := by
  simp [nD, sL, Function.comp_def]
theorem nD_len (l : List (List Nat)) : (nD l).length = l.length := by simp [nD]
theorem fine_word {s : Str} {p : List Nat} (f : fine (.str s)) (h : p ∈ wordsl s.cps.toList) : fine (sL p) := by
  have hm : ∀ x ∈ p, x ∈ s.cps.toList := fun x hx => by
    unfold wordsl at h
    split at h
    · exact absurd h (by simp)
    · exact (mem_sp h hx).1
  refine ⟨?_, fun c hc => f.2 c (hm c (by rw [cps_mk] at hc; exact hc))⟩
  have hl : p.length ≤ s.length := by
    unfold wordsl at h
    split at h
    · exact absurd h (by simp)
    · have := PyProof.Rows.part_short (x := s) (y := ⟨#[46]⟩) (a := mkS p) (by rw [split_sp]; exact List.mem_map_of_mem h)
      rw [len_l] at this
      exact this
  have := f.1
  rw [len_l]
  omega
theorem words_of_use [i : H_f_words_of T] {s : Str} (f : fine (.str s)) (q : Q (.new (.lst ((nD (wordsl s.cps.toList)).map .py))) st) : ClG (run T (k + 1)) "words_of" [.py (.str s)] st Q X := by
  refine clg_run i.eq_f_words_of rfl ?_
  show Go (dSs (run T k) B_f_words_of) [.val (.py (.str s))] st _ _
  unfold B_f_words_of
  walk_at "god"
  · rw [eqv_strR, str_nil] at hc
    rw [wordsl, if_pos (of_decide_eq_true hc)] at q
    exact q
  · have h := f.1
    rw [show fits (s.length + 2) = true from fits_le (by omega)]
    decide
  · rw [eqv_strR, str_nil] at hc
    rw [wordsl, if_neg (of_decide_eq_false hc)] at q
    rw [show Str.ofString "." = ⟨#[46]⟩ by decide, split_sp, nD_str]
    exact q
theorem is_name_use [i : H_f_is_name T] {d : D} (f : fine d) (q : Q (.val (.py (.bool (isN d)))) st) : ClG (run T (k + 2)) "is_name" [.py d] st Q X := by
  refine clg_run i.eq_f_is_name rfl ?_
  show Go (dSs (run T (k + 1)) B_f_is_name) [.val (.py d), .un, .un] st _ _
  unfold B_f_is_name
  by_cases hd : ∃ s, d = .str s
  · obtain ⟨s, rfl⟩ := hd
    have f1 : s.length ≤ 16000000 := f.1
    walk_at "god"
    · cases hc
    refine words_of_use f ?_
    walk_at "god"
    · refine g_e_compM sL (fun p => PyData.bool (isWl p)) ?_
      walk_at "god"
      refine vi_own rfl toD_map ?_
      walk_at "god"
      refine ⟨wordsl s.cps.toList, rfl, ?_, fun p hp => ?_, ?_⟩
      · have hc := of_decide_eq_true hc
        rw [nD_len] at hc
        omega
      · have fp : fine (sL p) := fine_word f hp
        walk_at "lk"
        walk_at "god"
        refine is_word_use fp ?_
        rw [show isW (sL p) = isWl p from isW_mk p]
        walk_at "god"
      · walk_at "god"
        refine x_all ?_
        walk_at "god"
        have hc := of_decide_eq_true hc
        rw [nD_len] at hc
        have e : isN (.str s) = (wordsl s.cps.toList).all isWl := by
          show isNl _ = _
          unfold isNl
          rw [decide_eq_true (by omega), Bool.true_and]
        rw [← e]
        exact q
    · have hc := of_decide_eq_false hc
      rw [nD_len] at hc
      have e : isN (.str s) = false := by
        show isNl _ = _
        unfold isNl
        rw [decide_eq_false (by omega), Bool.false_and]
      rw [e] at q
      rw [nD_len, decide_eq_false hc]
      exact q
  · have n := fun s h => hd ⟨s, h⟩
    have e1 := not_str_i n
    have e2 : isN d = false := by cases d <;> first | rfl | exact absurd rfl (n _)
    rw [e2] at q
    walk_at "god"
    all_goals (rw [e1] at *; contradiction)
end
/-! the law's own way to tell a name -/
end Nw

set_option autoImplicit false
set_option maxRecDepth 100000
set_option maxHeartbeats 1000000
/-! Bank L: the law of names, its words. -/
namespace Nw
open PySem
theorem low_mul {s : Str} {n : Nat} {j : Int} (h : lowS s) (hn : s.length ≤ n) : (Txt.mul s j).length ≤ n * j.toNat ∧ lowS (Txt.mul s j) := by
  have h1 := PyProof.Rows.len_mul s j
  constructor
  · by_cases hj : j < 0
    · rw [if_pos (decide_eq_true hj)] at h1
      omega
    · rw [if_neg (by simpa using hj)] at h1
      have h2 : (s.length : Int) * j ≤ n * j := Int.mul_le_mul_of_nonneg_right (by omega) (by omega)
      have h3 : ((n * j.toNat : Nat) : Int) = n * j := by rw [Int.natCast_mul, Int.toNat_of_nonneg (by omega)]
      omega
  · unfold Txt.mul
    split
    · exact low_nil
    · intro c hc
      split at hc
      · exact h c hc
      · have key : ∀ (l : List (Array Nat)) (acc : Array Nat), (∀ x ∈ l, ∀ c ∈ x.toList, c < 1114112) → (∀ c ∈ acc.toList, c < 1114112) → ∀ c ∈ (l.foldl (· ++ ·) acc).toList, c < 1114112 := by
          intro l
          induction l with
          | nil => exact fun acc _ h => h
          | cons x r ih =>
            intro acc hl ha
            rw [List.foldl_cons]
            refine ih _ (fun y hy => hl y (List.mem_cons_of_mem _ hy)) fun c hc => ?_
            rw [Array.toList_append] at hc
            exact (List.mem_append.mp hc).elim (ha c) (hl x List.mem_cons_self c)
        refine key (List.replicate j.toNat s.cps) #[] (fun x hx => ?_) (fun c hc => by simp at hc) c hc
        rw [(List.mem_replicate.mp hx).2]
        exact h
theorem IsS.one {c : Nat} (h : c < 1114112) : IsS 1 1 (.str ⟨#[c]⟩) := ⟨_, rfl, Nat.le_refl _, Nat.le_refl _, low_one h⟩
theorem IsS.mono {a b c e : Nat} {d : D} (h : IsS a b d) (h1 : c ≤ a) (h2 : b ≤ e) : IsS c e d := by
  obtain ⟨s, rfl, x, y, z⟩ := h
  exact ⟨s, rfl, by omega, by omega, z⟩
section
variable {T : Tb} {k : Nat} {X : Str → Option D → List OD → Prop}
end
end Nw

set_option autoImplicit false
set_option maxRecDepth 100000
set_option maxHeartbeats 4000000
/-! Bank P: the pen that is a dict. -/
namespace Nw
open PySem
def drawD : List S := [(.ife (.tcmp .eq (.ev (.sub (.pk 0) (.ev (.cst (.str "left"))))) (.ev (.cst (.int 0)))) [(.own 3 (.sub (.pk 0) (.ev (.cst (.str "at"))))), (.seti 0 (.ev (.cst (.str "at"))) (.bin .add (.pk 3) (.ev (.cst (.int 1))))), (.own 4 (.cst (.int 0))), (.ife (.tcmp .gt (.ev (.bi .len [(.ev (.sub (.pk 0) (.ev (.cst (.str "cells")))))])) (.ev (.cst (.int 0)))) [(.own 4 (.sub (.ev (.sub (.pk 0) (.ev (.cst (.str "cells"))))) (.ev (.bin .mod (.pk 3) (.ev (.bi .len [(.ev (.sub (.pk 0) (.ev (.cst (.str "cells")))))]))))))] []), (.ife (.tor (.tcmp .ge (.pk 3) (.ev (.bi .len [(.ev (.sub (.pk 0) (.ev (.cst (.str "cells")))))]))) (.tcmp .lt (.ev (.bi .abs [(.pk 4)])) (.ev (.bin .pow (.ev (.cst (.int 10))) (.ev (.cst (.int 18))))))) [(.own 5 (.bin .mod (.ev (.bin .add (.ev (.bin .add (.ev (.bin .mod (.pk 4) (.ev (.cst (.int 2147483629))))) (.ev (.bin .mul (.ev (.cst (.int 48271))) (.pk 3))))) (.ev (.cst (.int 17))))) (.ev (.cst (.int 2147483587))))), (.own 5 (.bin .mod (.ev (.bin .add (.ev (.bin .add (.ev (.bin .mul (.pk 5) (.pk 5))) (.ev (.bin .mul (.ev (.cst (.int 69621))) (.pk 5))))) (.pk 3))) (.ev (.cst (.int 2147483563))))), (.own 5 (.bin .mod (.ev (.bin .add (.ev (.bin .add (.ev (.bin .mul (.pk 5) (.pk 5))) (.ev (.bin .mul (.ev (.cst (.int 40692))) (.pk 3))))) (.ev (.cst (.int 3))))) (.ev (.cst (.int 2147483549))))), (.ret (.bin .mod (.ev (.bin .fdiv (.pk 5) (.ev (.cst (.int 16))))) (.pk 1)))] []), (.seti 0 (.ev (.cst (.str "left"))) (.bi .abs [(.pk 4)]))] []), (.own 2 (.bin .mod (.ev (.sub (.pk 0) (.ev (.cst (.str "left"))))) (.pk 1))), (.seti 0 (.ev (.cst (.str "left"))) (.bin .fdiv (.ev (.sub (.pk 0) (.ev (.cst (.str "left"))))) (.pk 1))), (.retv 2)]
def penD (ns : List Int) (a b : Int) : OD := .dic [(.str "cells", .py (.list (ns.map .int))), (.str "at", .py (.int a)), (.str "left", .py (.int b))]
def Pd (ns : List Int) (rest : List OD) (st : List OD) : Prop := ∃ a b : Int, 0 ≤ a ∧ 0 ≤ b ∧ st = penD ns a b :: rest
theorem g_s_setiD {C : Call} {X : XF} {sl : List Slot} {st : List OD} {i l : Nat} {k e : E} {Q : Fl → List Slot → List OD → Prop} (w : Go (dE C e) sl st (fun r sl1 st1 => Fz r fun x => sl1[i]? = some (.val (.obj l)) ∧ ∃ kvs, st1[l]? = some (.dic kvs) ∧ Go (dH C k) sl1 st1 (fun h sl2 st2 => VwG h sl2 st2 fun d => sl2[i]? = some (.val (.obj l)) ∧ ∃ o, st2[l]? = some o ∧ ∃ o', opSet o d x = some o' ∧ ∃ st', SetR l o' st2 st' ∧ Q .next sl2 st') X) X) : Go (dS C (.seti i k e)) sl st Q X := by
  have gc : ∀ {f : Fr} {o : OD}, f.sl[i]? = some (.val (.obj l)) → f.st[l]? = some o → getC i f = some o := fun {f o} h1 h2 => by
    unfold getC
    rw [h1]
    exact h2
  show Go (toV (dE C e) >>= fun x => chkC i >>= fun _ => dH C k >>= fun h => viewH h >>= fun d => setiM i d x >>= fun _ => pure Fl.next) _ _ _ _
  refine Go.bind (g_wp_toV (w.mono (fun r s t h => ?_) fun _ _ _ z => z))
  have key : ∀ x : Dv, (s[i]? = some (.val (.obj l)) ∧ ∃ kvs, t[l]? = some (.dic kvs) ∧ Go (dH C k) s t (fun h sl2 st2 => VwG h sl2 st2 fun d => sl2[i]? = some (.val (.obj l)) ∧ ∃ o, st2[l]? = some o ∧ ∃ o', opSet o d x = some o' ∧ ∃ st', SetR l o' st2 st' ∧ Q .next sl2 st') X) → Go (chkC i >>= fun _ => dH C k >>= fun h => viewH h >>= fun d => setiM i d x >>= fun _ => pure Fl.next) s t Q X := by
    intro x ⟨h1, kvs, h2, w⟩
    refine Go.bind ⟨?_⟩
    rw [wp_chkC, gc (f := ⟨s, t⟩) h1 h2]
    show Go _ s t _ _
    refine Go.bind (w.mono (fun hh s2 t2 q => ?_) fun _ _ _ z => z)
    obtain ⟨d, e, h3, o, h4, o', h5, st', h6, q⟩ := q
    refine ⟨wp_vw ⟨d, e, ?_⟩⟩
    dsimp only
    rw [wp_bind, wp_seti, gc (f := ⟨s2, t2⟩) h3 h4]
    dsimp only
    rw [h5]
    have ep : putC i o' ⟨s2, t2⟩ = ⟨s2, st'⟩ := by
      unfold putC
      simp only [h3, (SetR.eq h6).2]
    show Wp (pure Fl.next) (putC i o' ⟨s2, t2⟩) _ _
    rw [ep]
    exact q
  cases r with
  | val x => exact key x h
  | new o =>
    obtain ⟨x, e, h⟩ := h
    exact ⟨x, e, key x h⟩
theorem ex_hdD {kvs : List (D × Dv)} {r : List OD} {P : List (D × Dv) → Prop} (p : P kvs) : ∃ q, (OD.dic kvs :: r)[0]? = some (.dic q) ∧ P q := ⟨kvs, rfl, p⟩
theorem pd_cells {P : D → Prop} {a b c : D} (p : P a) : ∃ r, opSub (.dict [(.str "cells", a), (.str "at", b), (.str "left", c)]) (.str "cells") = some r ∧ P r := ⟨a, by kernel_rfl, p⟩
theorem pd_at {P : D → Prop} {a b c : D} (p : P b) : ∃ r, opSub (.dict [(.str "cells", a), (.str "at", b), (.str "left", c)]) (.str "at") = some r ∧ P r := ⟨b, by kernel_rfl, p⟩
theorem pd_left {P : D → Prop} {a b c : D} (p : P c) : ∃ r, opSub (.dict [(.str "cells", a), (.str "at", b), (.str "left", c)]) (.str "left") = some r ∧ P r := ⟨c, by kernel_rfl, p⟩
theorem ps_at {P : OD → Prop} {a b c x : Dv} (p : P (.dic [(.str "cells", a), (.str "at", x), (.str "left", c)])) : ∃ r, opSet (.dic [(.str "cells", a), (.str "at", b), (.str "left", c)]) (.str "at") x = some r ∧ P r := ⟨_, by kernel_rfl, p⟩
theorem ps_left {P : OD → Prop} {a b c x : Dv} (p : P (.dic [(.str "cells", a), (.str "at", b), (.str "left", x)])) : ∃ r, opSet (.dic [(.str "cells", a), (.str "at", b), (.str "left", c)]) (.str "left") x = some r ∧ P r := ⟨_, by kernel_rfl, p⟩
set_option hygiene false in
local macro_rules
  | `(tactic| walk_at "gp") => `(tactic| repeat' (first
    | with_reducible refine pd_cells ?_ | with_reducible refine pd_at ?_ | with_reducible refine pd_left ?_ | with_reducible refine ps_at ?_ | with_reducible refine ps_left ?_
    | with_reducible refine ex_hdD ?_
    | with_reducible refine g_s_setiD (l := 0) ?_
    | walk_at "nw" | with_reducible assumption | exact rfl | ((with_reducible apply big_or2); decide) | ((with_reducible apply big_or); decide)))
theorem drawD_ok {T : Str → Option Fn} {k : Nat} {m : Int} {ns : List Int} {rest st : List OD} (h : T "_law_draw" = some ⟨2, 6, drawD⟩) (h0 : 0 < m) (h1 : m < 18446744073709551616) (p : Pd ns rest st) :
    ClG (run T (k + 1)) "_law_draw" [.obj 0, .py (.int m)] st (fun r st' => ∃ d : Int, r = .val (.py (.int d)) ∧ 0 ≤ d ∧ d < m ∧ Pd ns rest st') NoX := by
  obtain ⟨a, b, ha, hb, rfl⟩ := p
  refine clg_run h rfl ?_
  simp only [drawD, List.map_cons, List.map_nil, List.replicate_succ, List.replicate_zero, Nat.reduceSub, List.cons_append, List.nil_append]
  unfold penD
  have fin : ∀ (x y z : Int), 0 ≤ y → 0 ≤ z → ∃ d, RV.val (Dv.py (PyData.int (x % m))) = RV.val (Dv.py (PyData.int d)) ∧ 0 ≤ d ∧ d < m ∧ Pd ns rest (.dic [(.str "cells", .py (.list (ns.map .int))), (.str "at", .py (.int y)), (.str "left", .py (.int z))] :: rest) := fun x y z hy hz =>
    ⟨x % m, rfl, Int.emod_nonneg x (by omega), Int.emod_lt_of_pos x h0, y, z, hy, hz, rfl⟩
  have gm : decide (0 < m) = true := decide_eq_true h0
  have gf : decide (0 < m ∧ m.natAbs.log2 < 9000) = true := fdiv_g h0 h1
  have bigm : ∀ x : Int, big (x % 2147483587) = true ∧ big (x % 2147483563) = true := fun x => by
    have h1 := Int.emod_nonneg x (show (2147483587 : Int) ≠ 0 by decide)
    have h2 := Int.emod_lt_of_pos x (show (0 : Int) < 2147483587 by decide)
    have h3 := Int.emod_nonneg x (show (2147483563 : Int) ≠ 0 by decide)
    have h4 := Int.emod_lt_of_pos x (show (0 : Int) < 2147483563 by decide)
    unfold big
    constructor <;> (apply decide_eq_true; omega)
  have absn : ∀ c : Int, 0 ≤ (if c < 0 then -c else c) := fun c => by split <;> omega
  have divn : ∀ c : Int, 0 ≤ c → 0 ≤ c / m := fun c hc => Int.ediv_nonneg hc (by omega)
  have ixc : decide ((0 : Int) < ((ns.map PyData.int).length : Nat)) = true → ∃ c : Int, ixD (ns.map PyData.int) (a % ((ns.map PyData.int).length : Nat)) = some (.int c) := fun hl => by
    have hl := of_decide_eq_true hl
    obtain ⟨x, e1, e2⟩ := ix_in (xs := ns.map PyData.int) (Int.emod_nonneg a (by omega)) (Int.emod_lt_of_pos a hl)
    rw [List.getElem?_map, Option.map_eq_some_iff] at e1
    obtain ⟨c, _, rfl⟩ := e1
    exact ⟨c, e2⟩
  repeat' (first
    | with_reducible refine pd_cells ?_ | with_reducible refine pd_at ?_ | with_reducible refine pd_left ?_ | with_reducible refine ps_at ?_ | with_reducible refine ps_left ?_
    | with_reducible refine ex_hdD ?_
    | with_reducible refine g_s_setiD (l := 0) ?_
    | walk_at "nw" | with_reducible assumption | ((with_reducible apply big_or); exact (bigm _).1) | ((with_reducible apply big_or); exact (bigm _).2) | ((with_reducible apply big_or); decide)
    | exact fin _ _ _ (by first | assumption | omega) (by first | exact divn _ (absn _) | exact divn _ hb | assumption | exact absn _)
    | (with_reducible refine ex_ix ?_; obtain ⟨c, hcc⟩ := ixc (by assumption); refine ⟨_, hcc, ?_⟩) | exact rfl)
structure DrawOk (T : Tb) (J : List OD → Prop) : Prop where
  go : ∀ {k : Nat} {m : Int} {st : List OD}, 0 < m → m < 18446744073709551616 → J st → ClG (run T (k + 1)) "_law_draw" [.obj 0, .py (.int m)] st (fun r st' => ∃ d : Int, r = .val (.py (.int d)) ∧ 0 ≤ d ∧ d < m ∧ J st') NoX
end Nw

set_option autoImplicit false
set_option maxRecDepth 100000
set_option maxHeartbeats 1000000
/-! Bank N: what is a test. -/
set_option hygiene false in
local macro_rules
  | `(tactic| walk_at "is1") => `(tactic| ((with_reducible refine tw ?_); first | with_reducible refine twoEvT (by with_reducible assumption) ?_ | with_reducible refine twoEvF (by with_reducible assumption) ?_ | with_reducible refine twoNT (by with_reducible assumption) ?_ | with_reducible refine twoNF (by with_reducible assumption) ?_ | with_reducible refine twoEvT (c := List.any (List.cons _ List.nil) (isiD (PyData.none))) rfl ?_ | with_reducible refine twoEvF (c := List.any (List.cons _ List.nil) (isiD (PyData.none))) rfl ?_ | with_reducible refine twoEvT (c := !List.any (List.cons _ List.nil) (isiD (PyData.none))) rfl ?_ | with_reducible refine twoEvF (c := !List.any (List.cons _ List.nil) (isiD (PyData.none))) rfl ?_ | with_reducible refine twoEvT (c := List.any (List.cons _ List.nil) (isiD (PyData.bool _))) rfl ?_ | with_reducible refine twoEvF (c := List.any (List.cons _ List.nil) (isiD (PyData.bool _))) rfl ?_ | with_reducible refine twoEvT (c := !List.any (List.cons _ List.nil) (isiD (PyData.bool _))) rfl ?_ | with_reducible refine twoEvF (c := !List.any (List.cons _ List.nil) (isiD (PyData.bool _))) rfl ?_ | with_reducible refine twoEvT (c := List.any (List.cons _ List.nil) (isiD (PyData.int _))) rfl ?_ | with_reducible refine twoEvF (c := List.any (List.cons _ List.nil) (isiD (PyData.int _))) rfl ?_ | with_reducible refine twoEvT (c := !List.any (List.cons _ List.nil) (isiD (PyData.int _))) rfl ?_ | with_reducible refine twoEvF (c := !List.any (List.cons _ List.nil) (isiD (PyData.int _))) rfl ?_ | with_reducible refine twoEvT (c := List.any (List.cons _ List.nil) (isiD (PyData.str _))) rfl ?_ | with_reducible refine twoEvF (c := List.any (List.cons _ List.nil) (isiD (PyData.str _))) rfl ?_ | with_reducible refine twoEvT (c := !List.any (List.cons _ List.nil) (isiD (PyData.str _))) rfl ?_ | with_reducible refine twoEvF (c := !List.any (List.cons _ List.nil) (isiD (PyData.str _))) rfl ?_ | with_reducible refine twoEvT (c := List.any (List.cons _ List.nil) (isiD (PyData.list _))) rfl ?_ | with_reducible refine twoEvF (c := List.any (List.cons _ List.nil) (isiD (PyData.list _))) rfl ?_ | with_reducible refine twoEvT (c := !List.any (List.cons _ List.nil) (isiD (PyData.list _))) rfl ?_ | with_reducible refine twoEvF (c := !List.any (List.cons _ List.nil) (isiD (PyData.list _))) rfl ?_ | with_reducible refine twoEvT (c := List.any (List.cons _ List.nil) (isiD (PyData.tuple _))) rfl ?_ | with_reducible refine twoEvF (c := List.any (List.cons _ List.nil) (isiD (PyData.tuple _))) rfl ?_ | with_reducible refine twoEvT (c := !List.any (List.cons _ List.nil) (isiD (PyData.tuple _))) rfl ?_ | with_reducible refine twoEvF (c := !List.any (List.cons _ List.nil) (isiD (PyData.tuple _))) rfl ?_ | with_reducible refine twoEvT (c := List.any (List.cons _ List.nil) (isiD (PyData.dict _))) rfl ?_ | with_reducible refine twoEvF (c := List.any (List.cons _ List.nil) (isiD (PyData.dict _))) rfl ?_ | with_reducible refine twoEvT (c := !List.any (List.cons _ List.nil) (isiD (PyData.dict _))) rfl ?_ | with_reducible refine twoEvF (c := !List.any (List.cons _ List.nil) (isiD (PyData.dict _))) rfl ?_))
set_option hygiene false in
local macro_rules
  | `(tactic| walk_at "gon") => `(tactic| repeat' (first | ((with_reducible refine gd_dE ?_); first | with_reducible refine g_e_disj ?_ | with_reducible refine g_e_fz ?_ | ((with_reducible apply g_e_app); exact rfl) | ((with_reducible apply g_e_varOM); exact rfl) | walk_at "q_dE") | ((with_reducible refine gd_dH ?_); first | walk_at "q_dH") | ((with_reducible refine gd_dSs ?_); first | walk_at "q_dSs") | ((with_reducible refine gd_th ?_); first | walk_at "q_th") | ((with_reducible refine gd_fz ?_); first | walk_at "q_fz") | ((with_reducible refine gd_vw ?_); first | walk_at "q_vw") | ((with_reducible refine gd_two ?_); first | walk_at "is1" | with_reducible refine ne_self ?_ | walk_at "q_two") | ((with_reducible refine gd_dS ?_); first | with_reducible refine g_s_par ?_ | walk_at "q_dS") | ((with_reducible refine gd_dT ?_); first | walk_at "q_dT") | ((with_reducible refine gd_opC ?_); first | with_reducible refine x_eqL0 ?_ | with_reducible refine x_neL0 ?_ | with_reducible refine x_eqSx (by with_reducible assumption) (by decide +kernel) ?_ | with_reducible refine x_neSx (by with_reducible assumption) (by decide +kernel) ?_ | walk_at "q_opC") | ((with_reducible refine gd_dVs ?_); first | walk_at "q_dVs") | with_reducible refine ix_t0 ?_ | with_reducible refine ix_t1 ?_ | with_reducible refine ix_t2 ?_ | with_reducible refine ix_t3 ?_ | with_reducible refine ex_pyD ?_ | ((with_reducible apply ex_ownM); exact rfl) | walk_at "nw" | walk_at "dw" | with_reducible assumption | exact rfl | ((with_reducible apply big_or2); decide) | ((with_reducible apply big_or); decide) | exact decide_eq_true (by omega) | with_reducible refine an (by omega) ?_ | (with_reducible refine it_rng (decide_eq_true (by omega)) ?_)))
namespace Nw
open PySem
def B_f_is_rank : List S := [(.ret (.conj (.isi (.pk 0) ["int"]) (.conj (.not (.ev (.isi (.pk 0) ["bool"]))) (.chain .le .le (.ev (.cst (.int 0))) (.pk 0) (.ev (.glb "MOST_RANK" (.int 99)))))))]
def F_f_is_rank : Fn := ⟨1, 1, B_f_is_rank⟩
class H_f_is_rank (T : Tb) : Prop where
  eq_f_is_rank : T "is_rank" = some F_f_is_rank
def isR : D → Bool
  | .int i => decide (0 ≤ i) && decide (i ≤ 99)
  | _ => false
def isL : D → Bool
  | .str s => decide (s.length = 1) && s.cps.toList.all inA
  | _ => false
def leD : D → D → Bool
  | .int a, .int b => decide (a ≤ b)
  | _, _ => false
def hf : Nat → D → Bool
  | 0, _ => false
  | n + 1, .tuple (.str w :: t :: r) =>
    if w == ("rank" : Str) then (match r with
      | [u] => isR t && (isR u && leD t u)
      | _ => false)
    else if r.isEmpty then
      if w == ("under" : Str) then isN t
      else if w == ("tag" : Str) then isL t
      else if w == ("not" : Str) then hf n t
      else if w == ("all" : Str) || w == ("any" : Str) then (match t with
        | .tuple ps => decide (ps.length ≤ 4) && ps.all (hf n)
        | _ => false)
      else false
    else false
  | _ + 1, _ => false
def mt : Nat → D → Nat
  | 0, _ => 0
  | n + 1, .tuple (.str w :: t :: _) =>
    if w == ("not" : Str) then 1 + mt n t
    else if w == ("all" : Str) || w == ("any" : Str) then (match t with
      | .tuple ps => 1 + (ps.map (mt n)).sum
      | _ => 1)
    else 1
  | _ + 1, _ => 1
section
variable {T : Tb} {k : Nat} {X : Str → Option D → List OD → Prop} {st : List OD} {Q : RV → List OD → Prop}
theorem is_rank_use [i : H_f_is_rank T] {d : D} (q : Q (.val (.py (.bool (isR d)))) st) : ClG (run T (k + 1)) "is_rank" [.py d] st Q X := by
  refine clg_run i.eq_f_is_rank rfl ?_
  show Go (dSs (run T k) B_f_is_rank) [.val (.py d)] st _ _
  unfold B_f_is_rank
  cases d <;> walk_at "gon"
  all_goals first | exact q | (simp only [isR, hc, Bool.true_and, Bool.false_and] at q; exact q)
theorem eqv_ii {a b : Int} : PyData.eqv (.int a) (.int b) = decide (a = b) := by
  simp only [PyData.eqv]
  rw [Bool.eq_iff_iff]
  simp
end
end Nw

set_option autoImplicit false
set_option maxRecDepth 100000
set_option maxHeartbeats 1000000
/-! Bank N2: what is a test, the law's. -/
namespace Nw
open PySem
section
variable {T : Tb} {k : Nat} {X : Str → Option D → List OD → Prop} {st : List OD} {Q : RV → List OD → Prop}
end
end Nw

set_option autoImplicit false
set_option maxRecDepth 100000
set_option maxHeartbeats 1000000
/-! Bank N3: forms of tests. -/
namespace Nw
open PySem
section
variable {T : Tb} {k : Nat} {X : Str → Option D → List OD → Prop} {st : List OD} {Q : RV → List OD → Prop}
end
end Nw

set_option autoImplicit false
set_option maxRecDepth 100000
set_option maxHeartbeats 1000000
/-! Bank N4: the law's forms of tests. -/
namespace Nw
open PySem
section
variable {T : Tb} {k : Nat} {X : Str → Option D → List OD → Prop} {st : List OD} {Q : RV → List OD → Prop}
end
end Nw

set_option autoImplicit false
set_option maxRecDepth 100000
set_option maxHeartbeats 1000000
/-! Bank N5: how many tests. -/
namespace Nw
open PySem
section
variable {T : Tb} {k : Nat} {X : Str → Option D → List OD → Prop} {st : List OD} {Q : RV → List OD → Prop}
end
end Nw

set_option autoImplicit false
set_option maxRecDepth 100000
set_option maxHeartbeats 4000000
/-! Bank N6: what the law of tests makes, by a look at kinds. -/
namespace Nw
open PySem
def B_l_pen2 : List S := [(.ret (.dic [(.cst (.str "cells")), (.var 0), (.cst (.str "at")), (.cst (.int 0)), (.cst (.str "left")), (.cst (.int 0))]))]
def F_l_pen2 : Fn := ⟨1, 1, B_l_pen2⟩
class H_l_pen2 (T : Tb) : Prop where
  eq_l_pen2 : T "_law_pen" = some F_l_pen2
def B_l_draw2 : List S := [(.ife (.tcmp .eq (.ev (.sub (.pk 0) (.ev (.cst (.str "left"))))) (.ev (.cst (.int 0)))) [(.own 3 (.sub (.pk 0) (.ev (.cst (.str "at"))))), (.seti 0 (.ev (.cst (.str "at"))) (.bin .add (.pk 3) (.ev (.cst (.int 1))))), (.own 4 (.cst (.int 0))), (.ife (.tcmp .gt (.ev (.bi .len [(.ev (.sub (.pk 0) (.ev (.cst (.str "cells")))))])) (.ev (.cst (.int 0)))) [(.own 4 (.sub (.ev (.sub (.pk 0) (.ev (.cst (.str "cells"))))) (.ev (.bin .mod (.pk 3) (.ev (.bi .len [(.ev (.sub (.pk 0) (.ev (.cst (.str "cells")))))]))))))] []), (.ife (.tor (.tcmp .ge (.pk 3) (.ev (.bi .len [(.ev (.sub (.pk 0) (.ev (.cst (.str "cells")))))]))) (.tcmp .lt (.ev (.bi .abs [(.pk 4)])) (.ev (.bin .pow (.ev (.cst (.int 10))) (.ev (.cst (.int 18))))))) [(.own 5 (.bin .mod (.ev (.bin .add (.ev (.bin .add (.ev (.bin .mod (.pk 4) (.ev (.cst (.int 2147483629))))) (.ev (.bin .mul (.ev (.cst (.int 48271))) (.pk 3))))) (.ev (.cst (.int 17))))) (.ev (.cst (.int 2147483587))))), (.own 5 (.bin .mod (.ev (.bin .add (.ev (.bin .add (.ev (.bin .mul (.pk 5) (.pk 5))) (.ev (.bin .mul (.ev (.cst (.int 69621))) (.pk 5))))) (.pk 3))) (.ev (.cst (.int 2147483563))))), (.own 5 (.bin .mod (.ev (.bin .add (.ev (.bin .add (.ev (.bin .mul (.pk 5) (.pk 5))) (.ev (.bin .mul (.ev (.cst (.int 40692))) (.pk 3))))) (.ev (.cst (.int 3))))) (.ev (.cst (.int 2147483549))))), (.ret (.bin .mod (.ev (.bin .fdiv (.pk 5) (.ev (.cst (.int 16))))) (.pk 1)))] []), (.seti 0 (.ev (.cst (.str "left"))) (.bi .abs [(.pk 4)]))] []), (.own 2 (.bin .mod (.ev (.sub (.pk 0) (.ev (.cst (.str "left"))))) (.pk 1))), (.seti 0 (.ev (.cst (.str "left"))) (.bin .fdiv (.ev (.sub (.pk 0) (.ev (.cst (.str "left"))))) (.pk 1))), (.retv 2)]
def F_l_draw2 : Fn := ⟨2, 6, B_l_draw2⟩
class H_l_draw2 (T : Tb) : Prop where
  eq_l_draw2 : T "_law_draw" = some F_l_draw2
def B_l_pick : List S := [(.ret (.sub (.pk 1) (.ev (.call "_law_draw" [(.var 0), (.bi .len [(.pk 1)])]))))]
def F_l_pick : Fn := ⟨2, 2, B_l_pick⟩
class H_l_pick (T : Tb) : Prop extends H_l_draw2 T where
  eq_l_pick : T "_law_pick" = some F_l_pick
def B_l_word2 : List S := [(.own 1 (.cst (.str "abcdefghijklmnopqrstuvwxyz"))), (.ret (.met .join (.ev (.cst (.str ""))) [(.ev (.comp (.one 2) (.rng1 (.ev (.bin .add (.ev (.cst (.int 1))) (.ev (.call "_law_draw" [(.var 0), (.cst (.int 6))]))))) none (.call "_law_pick" [(.var 0), (.var 1)])))]))]
def F_l_word2 : Fn := ⟨1, 3, B_l_word2⟩
class H_l_word2 (T : Tb) : Prop extends H_l_draw2 T, H_l_pick T where
  eq_l_word2 : T "_law_word" = some F_l_word2
def B_l_pool : List S := [(.own 1 (.call "_law_word" [(.var 0)])), (.own 2 (.sub (.ev (.lst [(.bin .add (.pk 1) (.ev (.sli (.pk 1) none (some (.ev (.cst (.int 1))))))), (.sli (.pk 1) none (some (.ev (.neg (.ev (.cst (.int 1)))))))])) (.ev (.bi .int [(.ev (.cmp .eq (.ev (.bi .len [(.pk 1)])) (.ev (.cst (.int 6)))))])))), (.ret (.lst [(.var 1), (.var 2), (.call "_law_word" [(.var 0)]), (.call "_law_pick" [(.var 0), (.cst (.str "abcdefghijklmnopqrstuvwxyz"))])]))]
def F_l_pool : Fn := ⟨1, 3, B_l_pool⟩
class H_l_pool (T : Tb) : Prop extends H_l_word2 T, H_l_pick T where
  eq_l_pool : T "_law_pool" = some F_l_pool
def B_l_name2 : List S := [(.ret (.met .join (.ev (.cst (.str "."))) [(.ev (.comp (.one 2) (.rng1 (.ev (.call "_law_draw" [(.var 0), (.cst (.int 5))]))) none (.call "_law_pick" [(.var 0), (.var 1)])))]))]
def F_l_name2 : Fn := ⟨2, 3, B_l_name2⟩
class H_l_name2 (T : Tb) : Prop extends H_l_draw2 T, H_l_pick T where
  eq_l_name2 : T "_law_name" = some F_l_name2
/-! a table of some of the defs -/
section
variable {V : Nw.Env} {sg : Sg} {J : List OD → Prop}
end
end Nw

set_option autoImplicit false
set_option maxRecDepth 100000
set_option maxHeartbeats 4000000
/-! Bank Q: what is a clause. -/
namespace Nw
open PySem
def ch : D → Bool
  | .tuple [.str w, t] => if w == ("mark" : Str) then isW t else if w == ("as" : Str) then isR t else (w == ("with" : Str) || w == ("without" : Str)) && isL t
  | _ => false
section
variable {T : Tb} {k : Nat} {X : Str → Option D → List OD → Prop} {st : List OD} {Q : RV → List OD → Prop}
def ts (d : D) : Bool := hf 4 d && decide (mt 4 d ≤ 12)
end
end Nw

set_option autoImplicit false
set_option maxRecDepth 100000
set_option maxHeartbeats 4000000
/-! Bank S: what is a sieve. -/
namespace Nw
open PySem
theorem x_neL0 {P : Bool → Prop} {xs : List D} (p : P (!xs.isEmpty)) : ∃ r, opC .ne (.list xs) (.list []) = some r ∧ P r := by
  cases xs with
  | nil => exact ⟨false, rfl, p⟩
  | cons x r => exact ⟨true, rfl, p⟩
section
variable {T : Tb} {k : Nat} {X : Str → Option D → List OD → Prop} {st : List OD} {Q : RV → List OD → Prop}
end
end Nw

set_option autoImplicit false
set_option maxRecDepth 100000
set_option maxHeartbeats 4000000
/-! Bank U: what is a way. -/
namespace Nw
open PySem
def isS (s : Str) : D → Bool
  | .str w => w == s
  | _ => false
def isDicD : D → Bool
  | .dict _ => true
  | _ => false
def okS (x : D) : Bool := shp x || isDicD x
theorem x_eqSx {x : D} {s : Str} {P : Bool → Prop} (h : okS x = true) (hs : shp (.str s) = true) (p : P (isS s x)) : ∃ r, opC .eq x (.str s) = some r ∧ P r := by
  have e : PyData.eqv x (.str s) = isS s x := by cases x <;> simp [PyData.eqv, isS]
  refine ⟨_, eq_guard ?_, by rw [e]; exact p⟩
  unfold okS at h
  rcases Bool.or_eq_true_iff.mp h with h | h
  · refine .inr ?_
    rw [h, hs]
    rfl
  · cases x <;> simp only [isDicD, Bool.false_eq_true] at h
    exact .inl rfl
theorem x_neSx {x : D} {s : Str} {P : Bool → Prop} (h : okS x = true) (hs : shp (.str s) = true) (p : P (!isS s x)) : ∃ r, opC .ne x (.str s) = some r ∧ P r := by
  have e : PyData.eqv x (.str s) = isS s x := by cases x <;> simp [PyData.eqv, isS]
  refine ⟨_, ne_guard ?_, by rw [e]; exact p⟩
  unfold okS at h
  rcases Bool.or_eq_true_iff.mp h with h | h
  · refine .inr ?_
    rw [h, hs]
    rfl
  · cases x <;> simp only [isDicD, Bool.false_eq_true] at h
    exact .inl rfl
section
variable {T : Tb} {k : Nat} {X : Str → Option D → List OD → Prop} {st : List OD} {Q : RV → List OD → Prop}
def Th (d : D) : Prop := fdB d = true ∧ ∀ x r, d = .tuple (x :: r) → okS x = true
end
end Nw

set_option autoImplicit false
set_option maxRecDepth 100000
/-! Bank Ma: elders, lines: the defs. -/
namespace Nw
open PySem
def B_f_elder_of : List S := [(.ife (.tcmp .eq (.pk 0) (.ev (.glb "ROOT" (.str "")))) [(.ret (.cst .none))] []), (.ret (.met .join (.ev (.cst (.str "."))) [(.ev (.sli (.ev (.call "words_of" [(.var 0)])) none (some (.ev (.neg (.ev (.cst (.int 1))))))))]))]
def F_f_elder_of : Fn := ⟨1, 1, B_f_elder_of⟩
class H_f_elder_of (T : Tb) : Prop extends H_f_words_of T where
  eq_f_elder_of : T "elder_of" = some F_f_elder_of
def B_f_line_of : List S := [(.own 1 (.lst [(.var 0)])), (.whl (.tcmp .ne (.ev (.sub (.pk 1) (.ev (.neg (.ev (.cst (.int 1))))))) (.ev (.glb "ROOT" (.str "")))) [(.ex (.mut .append 1 [(.call "elder_of" [(.sub (.pk 1) (.ev (.neg (.ev (.cst (.int 1))))))])]))]), (.retv 1)]
def F_f_line_of : Fn := ⟨1, 2, B_f_line_of⟩
class H_f_line_of (T : Tb) : Prop extends H_f_elder_of T where
  eq_f_line_of : T "line_of" = some F_f_line_of
def B_f_is_under : List S := [(.ret (.cmp .mem (.pk 1) (.ev (.call "line_of" [(.var 0)]))))]
def F_f_is_under : Fn := ⟨2, 2, B_f_is_under⟩
class H_f_is_under (T : Tb) : Prop extends H_f_line_of T where
  eq_f_is_under : T "is_under" = some F_f_is_under
end Nw

set_option autoImplicit false
set_option maxRecDepth 100000
set_option maxHeartbeats 1000000
/-! Bank O0: the line of any text; who is under whom. -/
namespace Nw
open PySem
section
variable {T : Tb} {k : Nat} {st : List OD} {Q : RV → List OD → Prop} {X : Str → Option D → List OD → Prop}
end
end Nw

set_option autoImplicit false
set_option maxRecDepth 100000
set_option maxHeartbeats 1000000
/-! Bank O: whether a test holds (k10). -/
namespace Nw
open PySem
def B_f_holds : List S := [(.unp [3, 4, 5, 6] (.pk 1)), (.par 7 8 (.sub (.pk 0) (.ev (.cst (.int 0)))) (.sub (.pk 0) (.ev (.cst (.int 1))))), (.ife (.tcmp .eq (.pk 7) (.ev (.cst (.str "rank")))) [(.ret (.chain .le .le (.pk 8) (.pk 4) (.ev (.sub (.pk 0) (.ev (.cst (.int 2)))))))] []), (.ife (.tcmp .eq (.pk 7) (.ev (.cst (.str "under")))) [(.ret (.call "is_under" [(.var 3), (.var 8)]))] []), (.ife (.tcmp .eq (.pk 7) (.ev (.cst (.str "tag")))) [(.ret (.cmp .mem (.pk 8) (.pk 5)))] []), (.ife (.tcmp .eq (.pk 7) (.ev (.cst (.str "not")))) [(.ret (.not (.ev (.call "holds" [(.var 8), (.var 1)]))))] []), (.own 2 (.comp (.one 9) (.walk (.pk 8)) none (.call "holds" [(.var 9), (.var 1)]))), (.ife (.tcmp .eq (.pk 7) (.ev (.cst (.str "all")))) [(.ret (.bi .all [(.pk 2)]))] []), (.ret (.bi .any [(.pk 2)]))]
def F_f_holds : Fn := ⟨2, 10, B_f_holds⟩
class H_f_holds (T : Tb) : Prop extends H_f_is_under T where
  eq_f_holds : T "holds" = some F_f_holds
def B_l_tags3 : List S := [(.own 2 (.cst (.str ""))), (.ife (.tcmp .eq (.ev (.call "_law_draw" [(.var 0), (.cst (.int 3))])) (.ev (.cst (.int 0)))) [(.own 2 (.met .join (.ev (.cst (.str ""))) [(.ev (.comp (.one 5) (.rng1 (.ev (.call "_law_draw" [(.var 0), (.cst (.int 9))]))) none (.call "_law_pick" [(.var 0), (.cst (.str "abcdefghijklmnopqrstuvwxyz"))])))]))] []), (.own 3 (.bin .add (.ev (.met .join (.ev (.cst (.str ""))) [(.ev (.comp (.one 4) (.walk (.pk 1)) (some (.tcmp .eq (.ev (.call "_law_draw" [(.var 0), (.cst (.int 2))])) (.ev (.cst (.int 0))))) (.var 4)))])) (.pk 2))), (.ret (.met .join (.ev (.cst (.str ""))) [(.ev (.comp (.one 4) (.ev (.cst (.str "abcdefghijklmnopqrstuvwxyz"))) (some (.tcmp .mem (.pk 4) (.pk 3))) (.var 4)))]))]
def F_l_tags3 : Fn := ⟨2, 6, B_l_tags3⟩
class H_l_tags3 (T : Tb) : Prop extends H_l_draw2 T, H_l_pick T where
  eq_l_tags3 : T "_law_tags" = some F_l_tags3
def B_l_text3 : List S := [(.own 1 (.cst (.str " !\"#$&'()*+,-./0123456789:;<=>?@ABCDEFGHIJKLMNOPQRSTUVWXYZ[\\]^_`abcdefghijklmnopqrstuvwxyz{|}~"))), (.own 2 (.met .join (.ev (.cst (.str ""))) [(.ev (.comp (.one 3) (.rng1 (.ev (.call "_law_draw" [(.var 0), (.cst (.int 9))]))) none (.call "_law_pick" [(.var 0), (.var 1)])))])), (.ife (.tand (.tcmp .eq (.ev (.call "_law_draw" [(.var 0), (.cst (.int 8))])) (.ev (.cst (.int 0)))) (.tcmp .ne (.pk 2) (.ev (.cst (.str ""))))) [(.ret (.sli (.ev (.bin .mul (.pk 2) (.ev (.cst (.int 400))))) none (some (.ev (.cst (.int 400))))))] []), (.retv 2)]
def F_l_text3 : Fn := ⟨1, 4, B_l_text3⟩
class H_l_text3 (T : Tb) : Prop extends H_l_draw2 T, H_l_pick T where
  eq_l_text3 : T "_law_text" = some F_l_text3
section
variable {nm : List Nat} {rk : Int} {tg : Str} {n : Nat}
end
section
variable {T : Tb} {X : Str → Option D → List OD → Prop} {nm : List Nat} {rk : Int} {tg tx : Str}
end
end Nw

set_option autoImplicit false
set_option maxRecDepth 100000
set_option maxHeartbeats 1000000
/-! Bank Y: what is a message. -/
namespace Nw
open PySem
def B_f_are_letters : List S := [(.ife (.tor (.tnot (.tst (.ev (.isi (.pk 0) ["str"])))) (.tnot (.tst (.ev (.bi .all [(.ev (.comp (.one 1) (.walk (.pk 0)) none (.cmp .mem (.pk 1) (.ev (.glb "LETTERS" (.str "abcdefghijklmnopqrstuvwxyz"))))))]))))) [(.ret (.cst (.bool false)))] []), (.ret (.cmp .eq (.ev (.bi .setlen [(.pk 0)])) (.ev (.bi .len [(.pk 0)]))))]
def F_f_are_letters : Fn := ⟨1, 2, B_f_are_letters⟩
class H_f_are_letters (T : Tb) : Prop where
  eq_f_are_letters : T "are_letters" = some F_f_are_letters
def B_f_tags_of : List S := [(.ret (.met .join (.ev (.cst (.str ""))) [(.ev (.comp (.one 1) (.walk (.ev (.glb "LETTERS" (.str "abcdefghijklmnopqrstuvwxyz")))) (some (.tcmp .mem (.pk 1) (.pk 0))) (.var 1)))]))]
def F_f_tags_of : Fn := ⟨1, 2, B_f_tags_of⟩
class H_f_tags_of (T : Tb) : Prop where
  eq_f_tags_of : T "tags_of" = some F_f_tags_of
def B_f_is_text : List S := [(.ife (.tor (.tnot (.tst (.ev (.isi (.pk 0) ["str"])))) (.tcmp .gt (.ev (.bi .len [(.pk 0)])) (.ev (.glb "LONGEST_TEXT" (.int 400))))) [(.ret (.cst (.bool false)))] []), (.ret (.bi .all [(.ev (.comp (.one 1) (.walk (.pk 0)) none (.cmp .mem (.pk 1) (.ev (.glb "SIGNS" (.str " !\"#$&'()*+,-./0123456789:;<=>?@ABCDEFGHIJKLMNOPQRSTUVWXYZ[\\]^_`abcdefghijklmnopqrstuvwxyz{|}~"))))))]))]
def F_f_is_text : Fn := ⟨1, 2, B_f_is_text⟩
class H_f_is_text (T : Tb) : Prop where
  eq_f_is_text : T "is_text" = some F_f_is_text
def B_f_is_message : List S := [(.ife (.tor (.tnot (.tst (.ev (.isi (.pk 0) ["tuple"])))) (.tcmp .ne (.ev (.bi .len [(.pk 0)])) (.ev (.cst (.int 4))))) [(.ret (.cst (.bool false)))] []), (.unp [1, 2, 3, 4] (.pk 0)), (.ret (.conj (.call "is_name" [(.var 1)]) (.conj (.call "is_rank" [(.var 2)]) (.conj (.call "are_letters" [(.var 3)]) (.conj (.cmp .eq (.pk 3) (.ev (.call "tags_of" [(.var 3)]))) (.call "is_text" [(.var 4)]))))))]
def F_f_is_message : Fn := ⟨1, 5, B_f_is_message⟩
class H_f_is_message (T : Tb) : Prop extends H_f_is_name T, H_f_is_rank T, H_f_are_letters T, H_f_tags_of T, H_f_is_text T where
  eq_f_is_message : T "is_message" = some F_f_is_message
abbrev SG : Str := Str.ofString " !\"#$&'()*+,-./0123456789:;<=>?@ABCDEFGHIJKLMNOPQRSTUVWXYZ[\\]^_`abcdefghijklmnopqrstuvwxyz{|}~"
def inG (c : Nat) : Bool := inStr ⟨#[c]⟩ SG
def fdS : D → Prop
  | .str s => s.length ≤ 4000 ∧ lowS s
  | _ => True
theorem fdS.fine {d : D} (h : fdS d) : fine d := by
  cases d <;> try trivial
  exact ⟨by have := h.1; omega, h.2⟩
def txB : D → Bool
  | .str s => !decide (400 < (s.length : Int)) && s.cps.toList.all inG
  | _ => false
def arB : D → Bool
  | .str s => s.cps.toList.all inA && decide ((nubS (signs s)).length = s.length)
  | _ => false
def tgL (s : Str) : List Nat := abc.cps.toList.filter fun c => inStr ⟨#[c]⟩ s
def tgs (s : Str) : Str := mkS (tgL s)
def tgE : D → Bool
  | .str s => (PyData.str s).eqv (.str (tgs s))
  | _ => false
def mg : D → Bool
  | .tuple [a, b, c, d] => isN a && (isR b && (arB c && (tgE c && txB d)))
  | _ => false
def Th6 (d : D) : Prop := ∀ xs, d = .tuple xs → ∀ x ∈ xs, fdS x
section
variable {T : Tb} {k : Nat} {X : Str → Option D → List OD → Prop} {st : List OD} {Q : RV → List OD → Prop}
theorem is_text_use [i : H_f_is_text T] {d : D} (f : fdS d) (q : Q (.val (.py (.bool (txB d)))) st) : ClG (run T (k + 1)) "is_text" [.py d] st Q X := by
  refine clg_run i.eq_f_is_text rfl ?_
  show Go (dSs (run T k) B_f_is_text) [.val (.py d), .un] st _ _
  unfold B_f_is_text
  cases d
  case str s =>
    have f1 : s.length ≤ 4000 := f.1
    have f2 : fits s.length = true := fits_le (by omega)
    cases h : decide (400 < (s.length : Int)) with
    | true =>
      have e : txB (.str s) = false := by simp only [txB, h, Bool.not_true, Bool.false_and]
      rw [e] at q
      walk_at "gon"
      all_goals exact q
    | false =>
      have e : txB (.str s) = s.cps.toList.all inG := by simp only [txB, h, Bool.not_false, Bool.true_and]
      rw [e] at q
      walk_at "gon"
      refine g_e_compM (fun c : Nat => PyData.str ⟨#[c]⟩) (fun c => PyData.bool (inG c)) ?_
      walk_at "gon"
      refine ⟨s.cps.toList, rfl, by rw [cps_len]; omega, fun c hc => ?_, ?_⟩
      · walk_at "lk"
        walk_at "gon"
      · walk_at "gon"
        refine x_all ?_
        walk_at "gon"
        all_goals exact q
  all_goals
    walk_at "gon"
    all_goals exact q
theorem are_letters_use [i : H_f_are_letters T] {d : D} (f : fdS d) (q : Q (.val (.py (.bool (arB d)))) st) : ClG (run T (k + 1)) "are_letters" [.py d] st Q X := by
  refine clg_run i.eq_f_are_letters rfl ?_
  show Go (dSs (run T k) B_f_are_letters) [.val (.py d), .un] st _ _
  unfold B_f_are_letters
  cases d
  case str s =>
    have f1 : s.length ≤ 4000 := f.1
    have f2 : fits s.length = true := fits_le (by omega)
    have f3 : s.cps.size ≤ 4000 := f1
    walk_at "gon"
    refine g_e_compM (fun c : Nat => PyData.str ⟨#[c]⟩) (fun c => PyData.bool (inA c)) ?_
    walk_at "gon"
    refine ⟨s.cps.toList, rfl, by rw [cps_len]; omega, fun c hc => ?_, ?_⟩
    · walk_at "lk"
      walk_at "gon"
    · walk_at "gon"
      refine x_all ?_
      cases h : s.cps.toList.all inA with
      | true =>
        have e : arB (.str s) = decide ((nubS (signs s)).length = s.length) := by simp only [arB, h, Bool.true_and]
        rw [e] at q
        walk_at "gon"
        rw [eqv_ii, show decide (((nubS (signs s)).length : Int) = (s.length : Int)) = decide ((nubS (signs s)).length = s.length) from decide_eq_decide.mpr (by omega)]
        exact q
      | false =>
        have e : arB (.str s) = false := by simp only [arB, h, Bool.false_and]
        rw [e] at q
        walk_at "gon"
        all_goals exact q
  all_goals
    walk_at "gon"
    all_goals exact q
theorem tags_of_use [i : H_f_tags_of T] {s : Str} (f : fdS (.str s)) (q : Q (.val (.py (.str (tgs s)))) st) : ClG (run T (k + 1)) "tags_of" [.py (.str s)] st Q X := by
  refine clg_run i.eq_f_tags_of rfl ?_
  show Go (dSs (run T k) B_f_tags_of) [.val (.py (.str s)), .un] st _ _
  unfold B_f_tags_of
  walk_at "gon"
  refine g_e_compF (fun c : Nat => PyData.str ⟨#[c]⟩) (fun c => inStr ⟨#[c]⟩ s) (fun c => PyData.str ⟨#[c]⟩) ?_
  walk_at "gon"
  refine ⟨abc.cps.toList, rfl, by decide, fun c hc2 => ?_, ?_⟩
  · walk_at "lk"
    walk_at "gon"
    intro _
    walk_at "gon"
  · walk_at "gon"
    refine x_join (Nat.le_trans (List.length_filter_le _ _) (by decide)) ?_
    walk_at "gon"
    exact q
theorem is_message_use [i : H_f_is_message T] {d : D} (f : Th6 d) (q : Q (.val (.py (.bool (mg d)))) st) : ClG (run T (k + 3)) "is_message" [.py d] st Q X := by
  refine clg_run i.eq_f_is_message rfl ?_
  show Go (dSs (run T (k + 2)) B_f_is_message) [.val (.py d), .un, .un, .un, .un] st _ _
  unfold B_f_is_message
  cases d
  case tuple xs =>
    have hx := f xs rfl
    by_cases h4 : xs.length = 4
    · match xs, h4, hx, q with
      | [a, b, c, e], h4, hx, q =>
        have c4 : (!(PyData.int (([a, b, c, e].length : Nat) : Int)).eqv (.int 4)) = false := rfl
        have fa := hx a (by simp)
        have fc := hx c (by simp)
        have fe := hx e (by simp)
        have em : mg (.tuple [a, b, c, e]) = (isN a && (isR b && (arB c && (tgE c && txB e)))) := rfl
        rw [em] at q
        walk_at "gon"
        refine is_name_use fa.fine ?_
        cases ha : isN a with
        | false =>
          rw [ha, Bool.false_and] at q
          walk_at "gon"
          all_goals exact q
        | true =>
        rw [ha, Bool.true_and] at q
        walk_at "gon"
        refine is_rank_use ?_
        cases hb : isR b with
        | false =>
          rw [hb, Bool.false_and] at q
          walk_at "gon"
          all_goals exact q
        | true =>
        rw [hb, Bool.true_and] at q
        walk_at "gon"
        refine are_letters_use fc ?_
        cases hc : arB c with
        | false =>
          rw [hc, Bool.false_and] at q
          walk_at "gon"
          all_goals exact q
        | true =>
        rw [hc, Bool.true_and] at q
        walk_at "gon"
        cases c
        case str s =>
          refine tags_of_use fc ?_
          cases hg : tgE (.str s) with
          | false =>
            rw [hg, Bool.false_and] at q
            have hg : (PyData.str s).eqv (.str (tgs s)) = false := hg
            walk_at "gon"
            all_goals first | exact q | (rw [hg]; exact q)
          | true =>
          rw [hg, Bool.true_and] at q
          have hg : (PyData.str s).eqv (.str (tgs s)) = true := hg
          walk_at "gon"
          refine is_text_use fe ?_
          walk_at "gon"
          all_goals exact q
        all_goals cases hc
    · have em : mg (.tuple xs) = false := by
        match xs, h4 with
        | [], _ => rfl
        | [_], _ => rfl
        | [_, _], _ => rfl
        | [_, _, _], _ => rfl
        | [_, _, _, _], h => exact absurd rfl h
        | _ :: _ :: _ :: _ :: _ :: _, _ => rfl
      rw [em] at q
      have c4 : (!(PyData.int ((xs.length : Nat) : Int)).eqv (.int 4)) = true := by
        rw [eqv_ii, decide_eq_false (by omega)]
        rfl
      walk_at "gon"
      all_goals exact q
  all_goals
    walk_at "gon"
    all_goals exact q
end
end Nw


set_option autoImplicit false
set_option maxRecDepth 100000
set_option maxHeartbeats 1000000
/-! Bank Ta: clauses and their texts, plainly (k72). -/
namespace Nw
open PySem
theorem inA_iff (c : Nat) : inA c = true ↔ c ∈ abc.cps.toList := by
  show inStr ⟨#[c]⟩ abc = true ↔ _
  rw [show inStr ⟨#[c]⟩ abc = decide (c ∈ abc.cps.toList) from StrLaws.found_one abc c, decide_eq_true_iff]
theorem abc_rng : ∀ c ∈ abc.cps.toList, 97 ≤ c ∧ c ≤ 122 := by decide +kernel
theorem inA_rng {c : Nat} (h : inA c = true) : 97 ≤ c ∧ c ≤ 122 := abc_rng c ((inA_iff c).mp h)
theorem isWl_iff {p : List Nat} : isWl p = true ↔ 1 ≤ p.length ∧ p.length ≤ 6 ∧ ∀ c ∈ p, inA c = true := by
  unfold isWl
  rw [Bool.and_eq_true, Bool.and_eq_true, decide_eq_true_iff, decide_eq_true_iff, List.all_eq_true, and_assoc]
def Nw4 (ws : List (List Nat)) : Prop := ws.length ≤ 4 ∧ ∀ p ∈ ws, isWl p = true
theorem gl_mem {c x : Nat} : ∀ {ps : List (List Nat)}, x ∈ gl c ps → x = c ∨ ∃ p ∈ ps, x ∈ p
  | [], h => by cases h
  | [p], h => .inr ⟨p, List.mem_cons_self, h⟩
  | p :: q :: r, h => by
    rcases List.mem_append.mp (show x ∈ p ++ c :: gl c (q :: r) from h) with h | h
    · exact .inr ⟨p, List.mem_cons_self, h⟩
    · rcases List.mem_cons.mp h with h | h
      · exact .inl h
      · exact (gl_mem h).imp id fun ⟨p, hp, hx⟩ => ⟨p, List.mem_cons_of_mem _ hp, hx⟩
theorem gl_len {c m : Nat} : ∀ {ps : List (List Nat)}, (∀ p ∈ ps, p.length ≤ m) → (gl c ps).length ≤ ps.length * (m + 1)
  | [], _ => Nat.zero_le _
  | [p], h => by
    have := h p List.mem_cons_self
    show p.length ≤ 1 * (m + 1)
    omega
  | p :: q :: r, h => by
    have h1 := h p List.mem_cons_self
    have h2 := gl_len (c := c) (ps := q :: r) fun x hx => h x (List.mem_cons_of_mem _ hx)
    show (p ++ c :: gl c (q :: r)).length ≤ _
    rw [List.length_append, List.length_cons, List.length_cons, Nat.succ_mul]
    omega
theorem nw_char {ws : List (List Nat)} (h : Nw4 ws) {c : Nat} (hc : c ∈ gl 46 ws) : c = 46 ∨ (97 ≤ c ∧ c ≤ 122) := by
  rcases gl_mem hc with h1 | ⟨p, hp, h1⟩
  · exact .inl h1
  · exact .inr (inA_rng ((isWl_iff.mp (h.2 p hp)).2.2 c h1))
theorem nw_len {ws : List (List Nat)} (h : Nw4 ws) : (gl 46 ws).length ≤ 28 := by
  have h1 := gl_len (c := 46) (m := 6) fun p hp => (isWl_iff.mp (h.2 p hp)).2.1
  have h2 := h.1
  have h3 : ws.length * (6 + 1) ≤ 28 := by omega
  omega
theorem nw_ne {ws : List (List Nat)} (h : Nw4 ws) (hw : ws ≠ []) : gl 46 ws ≠ [] := by
  match ws, hw with
  | [p], _ =>
    intro e
    have h1 := (isWl_iff.mp (h.2 p List.mem_cons_self)).1
    have e : p = [] := e
    rw [e] at h1
    exact absurd h1 (by decide)
  | p :: q :: r, _ =>
    intro e
    have e : p ++ 46 :: gl 46 (q :: r) = [] := e
    simp at e
theorem nw_isN {ws : List (List Nat)} (h : Nw4 ws) : isNl (gl 46 ws) = true := by
  have e : wordsl (gl 46 ws) = ws := by
    unfold wordsl
    by_cases hw : ws = []
    · subst hw
      rfl
    · rw [if_neg (nw_ne h hw)]
      refine sp_gl hw fun p hp hc => ?_
      have := inA_rng ((isWl_iff.mp (h.2 p hp)).2.2 46 hc)
      omega
  unfold isNl
  rw [e, decide_eq_true h.1, Bool.true_and, List.all_eq_true]
  exact h.2
def nmT (ws : List (List Nat)) : List Nat := if ws = [] then [42] else gl 46 ws
def dg (a : Nat) : List Nat := (toString (a : Int) : Str).cps.toList
def fgs : Str := Str.ofString "0123456789"
def dgOk (a : Nat) : Bool := decide (1 ≤ (dg a).length) && (decide ((dg a).length ≤ 3) && ((dg a).all (fun c => decide (c ∈ fgs.cps.toList)) && (decide (dg a = [48]) || decide ((dg a)[0]? ≠ some 48)))) && decide (PySem.intText? (mkS (dg a)) = some (a : Int)) && (dg a).all fun c => decide (48 ≤ c ∧ c ≤ 57)
theorem dg_all : ∀ a < 101, dgOk a = true := by decide +kernel
structure DgF (a : Nat) : Prop where
  lo : 1 ≤ (dg a).length
  hi : (dg a).length ≤ 3
  fg : ∀ c ∈ dg a, c ∈ fgs.cps.toList
  z : dg a = [48] ∨ (dg a)[0]? ≠ some 48
  int : PySem.intText? (mkS (dg a)) = some (a : Int)
  ch : ∀ c ∈ dg a, 48 ≤ c ∧ c ≤ 57
theorem dg_f {a : Nat} (h : a ≤ 100) : DgF a := by
  have q := dg_all a (by omega)
  unfold dgOk at q
  simp only [Bool.and_eq_true, Bool.or_eq_true, decide_eq_true_eq, List.all_eq_true] at q
  obtain ⟨⟨⟨q1, q2, q3, q4⟩, q5⟩, q6⟩ := q
  exact ⟨q1, q2, q3, q4, q5, q6⟩
/-! tests -/
mutual
inductive Tq : Nat → D → Nat → List Nat → Prop
  | rank {n a b : Nat} (h1 : a ≤ b) (h2 : b ≤ 99) : Tq (n + 1) (.tuple [.str "rank", .int a, .int b]) 1 ([114, 97, 110, 107, 58] ++ (dg a ++ 58 :: dg b))
  | under {n : Nat} {ws : List (List Nat)} (h : Nw4 ws) : Tq (n + 1) (.tuple [.str "under", .str (mkS (gl 46 ws))]) 1 ([117, 110, 100, 101, 114, 58] ++ nmT ws)
  | tag {n c : Nat} (h : inA c = true) : Tq (n + 1) (.tuple [.str "tag", .str (mkS [c])]) 1 [116, 97, 103, 58, c]
  | not {n k : Nat} {t : D} {x : List Nat} (h : Tq n t k x) : Tq (n + 1) (.tuple [.str "not", t]) (k + 1) ([110, 111, 116, 40] ++ (x ++ [41]))
  | all {n k : Nat} {ps : List D} {xs : List (List Nat)} (h : Tqs n ps k xs) (hl : ps.length ≤ 4) : Tq (n + 1) (.tuple [.str "all", .tuple ps]) (k + 1) ([97, 108, 108, 40] ++ (gl 44 xs ++ [41]))
  | any {n k : Nat} {ps : List D} {xs : List (List Nat)} (h : Tqs n ps k xs) (hl : ps.length ≤ 4) : Tq (n + 1) (.tuple [.str "any", .tuple ps]) (k + 1) ([97, 110, 121, 40] ++ (gl 44 xs ++ [41]))
inductive Tqs : Nat → List D → Nat → List (List Nat) → Prop
  | nil {n : Nat} : Tqs n [] 0 []
  | cons {n k m : Nat} {p : D} {ps : List D} {x : List Nat} {xs : List (List Nat)} (h : Tq n p k x) (r : Tqs n ps m xs) : Tqs n (p :: ps) (k + m) (x :: xs)
end
theorem Tqs.len {n k : Nat} {ps : List D} {xs : List (List Nat)} : Tqs n ps k xs → xs.length = ps.length
  | .nil => rfl
  | .cons _ r => by rw [List.length_cons, List.length_cons, r.len]
mutual
theorem Tq.up {n k : Nat} {d : D} {x : List Nat} : Tq n d k x → Tq (n + 1) d k x
  | .rank h1 h2 => .rank h1 h2
  | .under h => .under h
  | .tag h => .tag h
  | .not h => .not h.up
  | .all h hl => .all h.up hl
  | .any h hl => .any h.up hl
theorem Tqs.up {n k : Nat} {d : List D} {x : List (List Nat)} : Tqs n d k x → Tqs (n + 1) d k x
  | .nil => .nil
  | .cons h r => .cons h.up r.up
end
theorem isR_nat {a : Nat} (h : a ≤ 99) : isR (.int (a : Int)) = true := by
  unfold isR
  simp
  omega
mutual
theorem Tq.hf {n k : Nat} {d : D} {x : List Nat} : Tq n d k x → hf n d = true ∧ mt n d = k
  | .rank (a := a) (b := b) h1 h2 => by
    refine ⟨?_, rfl⟩
    show (isR (.int (a : Int)) && (isR (.int (b : Int)) && leD (.int (a : Int)) (.int (b : Int)))) = true
    rw [isR_nat (by omega), isR_nat h2]
    show decide ((a : Int) ≤ (b : Int)) = true
    exact decide_eq_true (by omega)
  | .under (ws := ws) h => by
    refine ⟨?_, rfl⟩
    show isN (.str (mkS (gl 46 ws))) = true
    show isNl (mkS (gl 46 ws)).cps.toList = true
    rw [cps_mk]
    exact nw_isN h
  | .tag (c := c) h => by
    refine ⟨?_, rfl⟩
    show (decide ((mkS [c]).length = 1) && (mkS [c]).cps.toList.all inA) = true
    rw [cps_mk, List.all_cons, List.all_nil, h]
    rfl
  | .not (n := n) (t := t) h => by
    obtain ⟨h1, h2⟩ := h.hf
    refine ⟨h1, ?_⟩
    show 1 + mt n t = _
    omega
  | .all (n := n) (ps := ps) h hl => by
    obtain ⟨h1, h2⟩ := h.hf
    refine ⟨?_, ?_⟩
    · show (decide (ps.length ≤ 4) && ps.all (Nw.hf n)) = true
      rw [decide_eq_true hl, h1]
      rfl
    · show 1 + (ps.map (mt n)).sum = _
      omega
  | .any (n := n) (ps := ps) h hl => by
    obtain ⟨h1, h2⟩ := h.hf
    refine ⟨?_, ?_⟩
    · show (decide (ps.length ≤ 4) && ps.all (Nw.hf n)) = true
      rw [decide_eq_true hl, h1]
      rfl
    · show 1 + (ps.map (mt n)).sum = _
      omega
theorem Tqs.hf {n k : Nat} {d : List D} {x : List (List Nat)} : Tqs n d k x → d.all (Nw.hf n) = true ∧ (d.map (mt n)).sum = k
  | .nil => ⟨rfl, rfl⟩
  | .cons h r => by
    obtain ⟨h1, h2⟩ := h.hf
    obtain ⟨r1, r2⟩ := r.hf
    refine ⟨?_, ?_⟩
    · rw [List.all_cons, h1, r1]
      rfl
    · rw [List.map_cons, List.sum_cons, h2, r2]
end
/-! pieces of a text between signs that stand in no brackets -/
def dpN (d : Int) (c : Nat) : Int := d + (if c = 40 then 1 else 0) - (if c = 41 then 1 else 0)
def ptF (s : Nat) : List Nat → Int → List (List Nat) → List Nat → List (List Nat)
  | [], _, f, w => f ++ [w]
  | c :: r, d, f, w => if c = s ∧ dpN d c = 0 then ptF s r (dpN d c) (f ++ [w]) [] else ptF s r (dpN d c) f (w ++ [c])
theorem ptF_cons {s c : Nat} {r : List Nat} {d : Int} {f : List (List Nat)} {w : List Nat} : ptF s (c :: r) d f w = if c = s ∧ dpN d c = 0 then ptF s r (dpN d c) (f ++ [w]) [] else ptF s r (dpN d c) f (w ++ [c]) := rfl
def Wh (s : Nat) (d : Int) (x : List Nat) : Prop := ∀ r f w, ptF s (x ++ r) d f w = ptF s r d f (w ++ x)
theorem Wh.nil {s : Nat} {d : Int} : Wh s d [] := fun r f w => by rw [List.nil_append, List.append_nil]
theorem Wh.app {s : Nat} {d : Int} {x y : List Nat} (h : Wh s d x) (g : Wh s d y) : Wh s d (x ++ y) := fun r f w => by rw [List.append_assoc, h, g, List.append_assoc]
theorem Wh.one {s c : Nat} {d : Int} (h1 : c ≠ 40) (h2 : c ≠ 41) (h3 : c ≠ s ∨ d ≠ 0) : Wh s d [c] := fun r f w => by
  show ptF s (c :: r) d f w = _
  rw [ptF_cons]
  have e : dpN d c = d := by
    unfold dpN
    rw [if_neg h1, if_neg h2]
    omega
  rw [e, if_neg fun z => h3.elim (fun q => q z.1) fun q => q z.2]
theorem Wh.all {s : Nat} {d : Int} : ∀ {x : List Nat}, (∀ c ∈ x, c ≠ 40 ∧ c ≠ 41 ∧ (c ≠ s ∨ d ≠ 0)) → Wh s d x
  | [], _ => .nil
  | c :: x, h => by
    obtain ⟨h1, h2, h3⟩ := h c List.mem_cons_self
    exact (Wh.one h1 h2 h3).app (Wh.all (x := x) fun y hy => h y (List.mem_cons_of_mem _ hy))
theorem Wh.gl {s : Nat} {d : Int} (hd : 1 ≤ d) : ∀ {xs : List (List Nat)}, (∀ x ∈ xs, Wh s d x) → Wh s d (gl 44 xs)
  | [], _ => .nil
  | [x], h => h x List.mem_cons_self
  | x :: y :: r, h => (h x List.mem_cons_self).app ((Wh.one (c := 44) (by decide) (by decide) (.inr (by omega))).app (Wh.gl hd (xs := y :: r) fun z hz => h z (List.mem_cons_of_mem _ hz)))
theorem nmT_ch {ws : List (List Nat)} (h : Nw4 ws) {c : Nat} (hc : c ∈ nmT ws) : c = 42 ∨ c = 46 ∨ (97 ≤ c ∧ c ≤ 122) := by
  unfold nmT at hc
  split at hc
  · exact .inl (List.mem_singleton.mp hc)
  · exact .inr (nw_char h hc)
end Nw

set_option autoImplicit false
set_option maxRecDepth 100000
set_option maxHeartbeats 1000000
/-! Bank Tb: clauses shown (k72). -/
namespace Nw
open PySem
def B_f_show_name : List S := [(.ife (.tcmp .eq (.pk 0) (.ev (.cst (.str "")))) [(.ret (.cst (.str "*")))] []), (.retv 0)]
def F_f_show_name : Fn := ⟨1, 1, B_f_show_name⟩
class H_f_show_name (T : Tb) : Prop where
  eq_f_show_name : T "show_name" = some F_f_show_name
def B_f_need : List S := [(.ife (.tnot (.tst (.pk 0))) [(.raise Str.empty none)] [])]
def F_f_need : Fn := ⟨1, 1, B_f_need⟩
class H_f_need (T : Tb) : Prop where
  eq_f_need : T "need" = some F_f_need
def B_f_number_in : List S := [(.ex (.call "need" [(.conj (.chain .le .le (.ev (.cst (.int 1))) (.ev (.bi .len [(.pk 0)])) (.ev (.glb "MOST_FIGURES" (.int 3)))) (.bi .all [(.ev (.comp (.one 1) (.walk (.pk 0)) none (.cmp .mem (.pk 1) (.ev (.glb "FIGURES" (.str "0123456789"))))))]))])), (.ex (.call "need" [(.disj (.cmp .eq (.pk 0) (.ev (.cst (.str "0")))) (.cmp .ne (.ev (.sub (.pk 0) (.ev (.cst (.int 0))))) (.ev (.cst (.str "0")))))])), (.ret (.bi .int [(.pk 0)]))]
def F_f_number_in : Fn := ⟨1, 2, B_f_number_in⟩
class H_f_number_in (T : Tb) : Prop extends H_f_need T where
  eq_f_number_in : T "number_in" = some F_f_number_in
def B_f_name_in : List S := [(.ife (.tcmp .eq (.pk 0) (.ev (.cst (.str "*")))) [(.ret (.cst (.str "")))] []), (.ex (.call "need" [(.conj (.cmp .ne (.pk 0) (.ev (.cst (.str "")))) (.call "is_name" [(.var 0)]))])), (.retv 0)]
def F_f_name_in : Fn := ⟨1, 1, B_f_name_in⟩
class H_f_name_in (T : Tb) : Prop extends H_f_need T, H_f_is_name T where
  eq_f_name_in : T "name_in" = some F_f_name_in
def B_l_like : List S := [(.ife (.tst (.ev (.isi (.pk 1) ["tuple"]))) [(.ife (.tor (.tnot (.tst (.ev (.isi (.pk 0) ["tuple"])))) (.tcmp .ne (.ev (.bi .len [(.pk 0)])) (.ev (.bi .len [(.pk 1)])))) [(.ret (.cst (.bool false)))] []), (.ret (.cmp .eq (.ev (.comp (.tup [2, 3]) (.zip (.var 0) (.var 1)) (some (.tnot (.tst (.ev (.call "_law_like" [(.var 2), (.var 3)]))))) (.cst (.int 1)))) (.ev (.lst []))))] []), (.ife (.tcmp .isN (.pk 1) (.ev (.cst .none))) [(.ret (.cmp .isN (.pk 0) (.ev (.cst .none))))] []), (.ife (.tor (.tst (.ev (.isi (.pk 1) ["bool"]))) (.tst (.ev (.isi (.pk 0) ["bool"])))) [(.ret (.conj (.isi (.pk 1) ["bool"]) (.conj (.isi (.pk 0) ["bool"]) (.cmp .eq (.pk 0) (.pk 1)))))] []), (.ret (.conj (.isi (.pk 0) ["int", "str"]) (.cmp .eq (.pk 0) (.pk 1))))]
def F_l_like : Fn := ⟨2, 4, B_l_like⟩
class H_l_like (T : Tb) : Prop where
  eq_l_like : T "_law_like" = some F_l_like

theorem catM (a b : List Nat) : mkS a ++ mkS b = mkS (a ++ b) := by rw [← mkS_eta (mkS a ++ mkS b), cps_app, cps_mk, cps_mk]
theorem mk_len (l : List Nat) : (mkS l).length = l.length := by rw [← cps_len, cps_mk]
def LB : Nat → Nat
  | 0 => 40
  | n + 1 => 5 * LB n
theorem LB_pos : ∀ n, 40 ≤ LB n
  | 0 => Nat.le_refl _
  | n + 1 => by
    have := LB_pos n
    show 40 ≤ 5 * LB n
    omega
theorem gl_sum {c m : Nat} {ps : List (List Nat)} (h : ∀ p ∈ ps, p.length ≤ m) {j : Nat} (hj : ps.length ≤ j) : (gl c ps).length ≤ j * (m + 1) := Nat.le_trans (gl_len h) (Nat.mul_le_mul_right _ hj)
mutual
theorem Tq.len {n k : Nat} {d : D} {x : List Nat} : Tq n d k x → x.length ≤ LB n
  | .rank (n := n) (a := a) (b := b) h1 h2 => by
    have := (dg_f (a := a) (by omega)).hi
    have := (dg_f (a := b) (by omega)).hi
    have := LB_pos (n + 1)
    simp only [List.length_append, List.length_cons, List.length_nil]
    omega
  | .under (n := n) (ws := ws) h => by
    have h1 : (nmT ws).length ≤ 28 := by
      unfold nmT
      split
      · decide
      · exact nw_len h
    have := LB_pos (n + 1)
    simp only [List.length_append, List.length_cons, List.length_nil]
    omega
  | .tag (n := n) h => by
    have := LB_pos (n + 1)
    simp only [List.length_cons, List.length_nil]
    omega
  | .not (n := n) h => by
    have := h.len
    have := LB_pos n
    show _ ≤ 5 * LB n
    simp only [List.length_append, List.length_cons, List.length_nil]
    omega
  | .all (n := n) h hl => by
    have h1 := gl_sum (c := 44) (m := LB n) h.lenx (j := 4) (by rw [Tqs.len h]; exact hl)
    have := LB_pos n
    show _ ≤ 5 * LB n
    simp only [List.length_append, List.length_cons, List.length_nil]
    omega
  | .any (n := n) h hl => by
    have h1 := gl_sum (c := 44) (m := LB n) h.lenx (j := 4) (by rw [Tqs.len h]; exact hl)
    have := LB_pos n
    show _ ≤ 5 * LB n
    simp only [List.length_append, List.length_cons, List.length_nil]
    omega
theorem Tqs.lenx {n k : Nat} {d : List D} {x : List (List Nat)} : Tqs n d k x → ∀ y ∈ x, y.length ≤ LB n
  | .nil => fun _ h => nomatch h
  | .cons h r => fun y hy => by
    rcases List.mem_cons.mp hy with e | hy
    · rw [e]
      exact h.len
    · exact r.lenx y hy
end
/-! f-strings, joins -/
theorem txt_i {a : Nat} (h : a ≤ 100) : txtV (.py (.int (a : Int))) = some (mkS (dg a)) := by
  show (if (a : Int).natAbs.log2 < 1920 then some (toString (a : Int) : Str) else none) = _
  have h2 : (a : Int).natAbs.log2 < 1920 := by
    rw [Int.natAbs_natCast]
    have := Nat.log2_le_self a
    omega
  rw [if_pos h2]
  unfold dg
  rw [mkS_eta]
theorem m_joinM {c : Nat} {xs : List (List Nat)} {m : Nat} {Q : RV → Prop} (h : ∀ x ∈ xs, x.length ≤ m) (hn : xs.length * (m + 1) ≤ 16000000) (q : Q (.val (.py (.str (mkS (gl c xs)))))) : ∃ r, opMT .join ⟨#[c]⟩ [.list ((xs.map mkS).map PyData.str)] = some r ∧ Q r := by
  refine ⟨_, ?_, q⟩
  show (asStrs ((xs.map mkS).map PyData.str)).bind _ = _
  rw [asStrs_map]
  have h1 := sum_le (hi := m) (ss := xs.map mkS) fun s hs => by
    obtain ⟨x, hx, rfl⟩ := List.mem_map.mp hs
    rw [mk_len]
    exact h x hx
  rw [List.length_map] at h1
  have h3 : xs.length * (m + 1) = xs.length * m + xs.length := by rw [Nat.mul_add, Nat.mul_one]
  have g : fits (((xs.map mkS).map (·.length)).sum + (xs.map mkS).length * (⟨#[c]⟩ : Str).length) = true := decide_eq_true (by
    rw [List.length_map]
    show _ + xs.length * 1 ≤ _
    omega)
  show guardO (fits (((xs.map mkS).map (·.length)).sum + (xs.map mkS).length * (⟨#[c]⟩ : Str).length)) (vD (.str (Txt.join ⟨#[c]⟩ (xs.map mkS)))) = _
  rw [show Txt.join ⟨#[c]⟩ (xs.map mkS) = Str.join ⟨#[c]⟩ (xs.map mkS) from StrLaws.glued_eq_join _ _]
  unfold guardO
  rw [g, ← mkS_eta (Str.join ⟨#[c]⟩ (xs.map mkS)), join_gl, List.map_map]
  rw [show ((fun x : Str => x.cps.toList) ∘ mkS) = id by funext x; exact cps_mk x, List.map_id]
  rfl
theorem Tqs.zip {n : Nat} : ∀ {k : Nat} {ps : List D} {xs : List (List Nat)}, Tqs n ps k xs → ∃ l : List (D × List Nat), ps = l.map Prod.fst ∧ xs = l.map Prod.snd ∧ ∀ q ∈ l, ∃ j, Tq n q.1 j q.2
  | _, _, _, .nil => ⟨[], rfl, rfl, fun _ h => nomatch h⟩
  | _, _, _, .cons (k := k) (p := p) (x := x) h r => by
    obtain ⟨l, rfl, rfl, hl⟩ := r.zip
    refine ⟨(p, x) :: l, rfl, rfl, fun q hq => ?_⟩
    rcases List.mem_cons.mp hq with rfl | hq
    · exact ⟨k, h⟩
    · exact hl q hq
section
variable {T : Tb} {X : Str → Option D → List OD → Prop} {st : List OD} {Q : RV → List OD → Prop}
theorem show_name_use [i : H_f_show_name T] {k : Nat} {ws : List (List Nat)} (h : Nw4 ws) (q : Q (.val (.py (.str (mkS (nmT ws))))) st) : ClG (run T (k + 1)) "show_name" [.py (.str (mkS (gl 46 ws)))] st Q X := by
  refine clg_run i.eq_f_show_name rfl ?_
  show Go (dSs (run T k) B_f_show_name) [.val (.py (.str (mkS (gl 46 ws))))] st _ _
  unfold B_f_show_name
  have hc : (PyData.str (mkS (gl 46 ws))).eqv (.str (Str.ofString "")) = decide (gl 46 ws = []) := by rw [eqv_strR, str_nil, cps_mk]
  by_cases hw : ws = []
  · subst hw
    rw [show decide (gl 46 [] = ([] : List Nat)) = true from rfl] at hc
    walk_at "gon"
    exact q
  · rw [decide_eq_false (nw_ne h hw)] at hc
    walk_at "gon"
    unfold nmT at q
    rw [if_neg hw] at q
    exact q
end
end Nw

set_option autoImplicit false
set_option maxRecDepth 100000
set_option maxHeartbeats 1000000
/-! Bank Tc: the law's own texts (k72). -/
namespace Nw
open PySem
def spD : D → List Nat
  | .str s => s.cps.toList
  | .int i => dg i.toNat
  | _ => []
def okP : D → Prop
  | .str s => True
  | .int i => 0 ≤ i ∧ i ≤ 100
  | _ => False
theorem x_strP {d : D} {P : RV → Prop} (h : okP d) (p : P (.val (.py (.str (mkS (spD d)))))) : ∃ r, opBI .str [d] = some r ∧ P r := by
  cases d with
  | str s =>
    refine ⟨_, rfl, ?_⟩
    have e : mkS (spD (.str s)) = s := mkS_eta s
    rw [e] at p
    exact p
  | int i =>
    obtain ⟨h1, h2⟩ := h
    obtain ⟨a, rfl⟩ : ∃ a : Nat, i = (a : Int) := ⟨i.toNat, by omega⟩
    have e := txt_i (a := a) (by omega)
    have e : (if (a : Int).natAbs.log2 < 1920 then some (toString (a : Int) : Str) else none) = some (mkS (dg a)) := e
    have hl : (a : Int).natAbs.log2 < 1920 := by
      rw [Int.natAbs_natCast]
      have := Nat.log2_le_self a
      omega
    rw [if_pos hl] at e
    refine ⟨vD (.str (toString (a : Int))), ?_, ?_⟩
    · show guardO (decide ((a : Int).natAbs.log2 < 1920)) _ = _
      rw [decide_eq_true hl]
      rfl
    · show P (.val (.py (.str (toString (a : Int)))))
      rw [Option.some.inj e]
      exact p
  | none => exact h.elim
  | bool b => exact h.elim
  | list xs => exact h.elim
  | tuple xs => exact h.elim
  | dict xs => exact h.elim
section
variable {T : Tb} {X : Str → Option D → List OD → Prop} {st : List OD} {Q : RV → List OD → Prop}
inductive Cq : D → List Nat → Prop
  | test {d : D} {k : Nat} {x : List Nat} (h : Tq 4 d k x) (hk : k ≤ 12) : Cq d x
  | mark {w : List Nat} (h : isWl w = true) : Cq (.tuple [.str "mark", .str (mkS w)]) ([109, 97, 114, 107, 58] ++ w)
  | as {a : Nat} (h : a ≤ 99) : Cq (.tuple [.str "as", .int a]) ([97, 115, 58] ++ dg a)
  | wth {c : Nat} (h : inA c = true) : Cq (.tuple [.str "with", .str (mkS [c])]) [119, 105, 116, 104, 58, c]
  | wout {c : Nat} (h : inA c = true) : Cq (.tuple [.str "without", .str (mkS [c])]) [119, 105, 116, 104, 111, 117, 116, 58, c]
theorem Cq.len {d : D} {x : List Nat} (h : Cq d x) : x.length ≤ 25000 := by
  cases h with
  | test h hk => exact h.len
  | mark h =>
    have := (isWl_iff.mp h).2.1
    simp only [List.length_append, List.length_cons, List.length_nil]
    omega
  | as h =>
    rename_i a
    have := (dg_f (a := a) (by omega)).hi
    simp only [List.length_append, List.length_cons, List.length_nil]
    omega
  | wth h => simp
  | wout h => simp
end
end Nw

set_option autoImplicit false
set_option maxRecDepth 100000
set_option maxHeartbeats 1000000
/-! Bank Td: sieves shown; what is alike (k72). -/
namespace Nw
open PySem
abbrev Cl2 := D × List Nat
def SvT (l : List Cl2) : Prop := l.length ≤ 6 ∧ ∀ q ∈ l, Cq q.1 q.2
def svx (l : List Cl2) : List Nat := if l = [] then [45] else gl 59 (l.map Prod.snd)
theorem svx_lens {l : List Cl2} (h : SvT l) : ∀ x ∈ l.map Prod.snd, x.length ≤ 25000 := fun x hx => by
  obtain ⟨q, hq, rfl⟩ := List.mem_map.mp hx
  exact (h.2 q hq).len
section
variable {T : Tb} {X : Str → Option D → List OD → Prop} {st : List OD} {Q : RV → List OD → Prop}
end
inductive Lk : Nat → D → Prop
  | str {n : Nat} {s : Str} (h : lowS s) : Lk (n + 1) (.str s)
  | int {n : Nat} {i : Int} : Lk (n + 1) (.int i)
  | tup {n : Nat} {ds : List D} (hl : ds.length ≤ 1000) (h : ∀ d ∈ ds, Lk n d) : Lk (n + 1) (.tuple ds)
theorem Lk.up {n : Nat} : ∀ {d : D}, Lk n d → Lk (n + 1) d := by
  induction n with
  | zero => intro d h; cases h
  | succ n ih =>
    intro d h
    cases h with
    | str h => exact .str h
    | int => exact .int
    | tup hl h => exact .tup hl fun d hd => ih (h d hd)
theorem like_use {T : Tb} [i : H_l_like T] : ∀ (n k : Nat) {d : D} {st : List OD} {Q : RV → List OD → Prop} {X : Str → Option D → List OD → Prop}, Lk n d → Q (.val (.py (.bool true))) st → ClG (run T (k + n)) "_law_like" [.py d, .py d] st Q X
  | 0, k, d, st, Q, X, h, q => by cases h
  | n + 1, k, d, st, Q, X, h, q => by
    refine clg_run (k := k + n) i.eq_l_like rfl ?_
    show Go (dSs (run T (k + n)) B_l_like) [.val (.py d), .val (.py d), .un, .un] st _ _
    unfold B_l_like
    cases h with
    | str h =>
      rename_i s
      have hk : (PyData.str s).eqv (.str s) = true := by simp [PyData.eqv]
      walk_at "gon"
      refine ⟨false, rfl, (fun z => nomatch z), fun _ => ?_⟩
      walk_at "gon"
      · rw [hk]
        exact q
      · exact absurd (show true = false from hc) (by decide)
    | int =>
      rename_i a
      have hk : (PyData.int a).eqv (.int a) = true := by simp [PyData.eqv]
      walk_at "gon"
      refine ⟨false, rfl, (fun z => nomatch z), fun _ => ?_⟩
      walk_at "gon"
      · rw [hk]
        exact q
      · exact absurd (show true = false from hc) (by decide)
    | tup hl h =>
      rename_i ds
      have hc : (!(PyData.int (ds.length : Int)).eqv (.int (ds.length : Int))) = false := by simp [PyData.eqv]
      have hc' : (PyData.int (ds.length : Int)).eqv (.int (ds.length : Int)) = true := by simp [PyData.eqv]
      walk_at "gon"
      refine g_e_compF (fun p : D × D => .tuple [p.1, p.2]) (fun _ => false) (fun _ => .int 1) ?_
      walk_at "gon"
      refine ⟨_, rfl, ds.zip ds, rfl, by rw [List.length_zip]; omega, fun y hy => ?_, ?_⟩
      · have e : y.2 = y.1 ∧ y.1 ∈ ds := by
          obtain ⟨i, hi, rfl⟩ := List.mem_iff_getElem.mp hy
          rw [List.getElem_zip]
          exact ⟨rfl, List.getElem_mem _⟩
        obtain ⟨a, b⟩ := y
        obtain ⟨e0, e⟩ := e
        have e0 : b = a := e0
        have e : a ∈ ds := e
        subst e0
        walk_at "gon"
        refine like_use n k (h _ e) ?_
        walk_at "gon"
        all_goals exact fun z => nomatch z
      · walk_at "gon"
        rw [show (ds.zip ds).filter (fun _ => false) = [] from List.filter_eq_nil_iff.mpr fun _ _ z => nomatch z]
        exact q
end Nw

set_option autoImplicit false
set_option maxRecDepth 100000
set_option maxHeartbeats 1000000
/-! Bank Te: texts read back (k72). -/
namespace Nw
open PySem
theorem eqv_mk {s : Str} {b : List Nat} (a : List Nat) (h : s.cps.toList = b) : (PyData.str (mkS a)).eqv (.str s) = decide (a = b) := by
  subst h
  rw [eqv_strR, Bool.eq_iff_iff, beq_iff_eq, decide_eq_true_iff]
  refine ⟨fun e => ?_, fun e => by rw [e, mkS_eta]⟩
  rw [← e, cps_mk]
theorem x_intN {s : Str} {i : Int} {P : RV → Prop} (h : PySem.intText? s = some i) (hl : s.length ≤ 3) (p : P (.val (.py (.int i)))) : ∃ r, opBI .int [.str s] = some r ∧ P r := by
  refine ⟨_, ?_, p⟩
  show (PySem.intText? s).bind _ = _
  rw [h]
  show guardO (decide (s.length ≤ 640)) _ = _
  rw [decide_eq_true (by omega)]
  rfl
theorem x_hd {l : List Nat} {P : D → Prop} (hl : l ≠ []) (h2 : l.length ≤ 1000) (p : ∀ c r, l = c :: r → P (.str (mkS [c]))) : ∃ r, opSub (.str (mkS l)) (.int 0) = some r ∧ P r := by
  cases l with
  | nil => exact absurd rfl hl
  | cons c r =>
    refine ex_ixS (by rw [mk_len (c :: r)]; omega) ⟨c, ?_, p c r rfl⟩
    rw [cps_mk]
    unfold ixD L2.atI L2.ixN
    rw [if_pos (by decide), if_pos (by rw [List.length_cons]; omega)]
    rfl
section
variable {T : Tb} {X : Str → Option D → List OD → Prop} {st : List OD} {Q : RV → List OD → Prop}
theorem need_use [i : H_f_need T] {k : Nat} (q : Q (.val (.py .none)) st) : ClG (run T (k + 1)) "need" [.py (.bool true)] st Q X := by
  refine clg_run i.eq_f_need rfl ?_
  show Go (dSs (run T k) B_f_need) [.val (.py (.bool true))] st _ _
  unfold B_f_need
  walk_at "gon"
  exact q
theorem number_in_use [i : H_f_number_in T] {k : Nat} {a : Nat} (ha : a ≤ 100) (q : Q (.val (.py (.int a))) st) : ClG (run T (k + 2)) "number_in" [.py (.str (mkS (dg a)))] st Q X := by
  have f := dg_f ha
  refine clg_run i.eq_f_number_in rfl ?_
  show Go (dSs (run T (k + 1)) B_f_number_in) [.val (.py (.str (mkS (dg a)))), .un] st _ _
  unfold B_f_number_in
  have hl : (mkS (dg a)).length = (dg a).length := mk_len (dg a)
  have hc1 : decide ((1 : Int) ≤ ((mkS (dg a)).length : Int)) = true := decide_eq_true (by have := f.lo; omega)
  have hc2 : decide (((mkS (dg a)).length : Int) ≤ 3) = true := decide_eq_true (by have := f.hi; omega)
  walk_at "gon"
  · exact fits_le (by have := f.hi; omega)
  refine g_e_compM (fun c : Nat => PyData.str ⟨#[c]⟩) (fun c => PyData.bool (decide (c ∈ fgs.cps.toList))) ?_
  walk_at "gon"
  refine ⟨dg a, by rw [cps_mk], by have := f.hi; omega, fun c hc => ?_, ?_⟩
  · walk_at "lk"
    walk_at "gon"
    refine ⟨?_, rfl⟩
    rw [show inStr ⟨#[c]⟩ (Str.ofString "0123456789") = decide (c ∈ fgs.cps.toList) from StrLaws.found_one fgs c]
  · walk_at "gon"
    refine b_allP ?_
    rw [show (dg a).all (fun c => decide (c ∈ fgs.cps.toList)) = true from List.all_eq_true.mpr fun c hc => decide_eq_true (f.fg c hc)]
    walk_at "gon"
    refine need_use ?_
    rcases f.z with hz | hz
    · have hc : (PyData.str (mkS (dg a))).eqv (PyData.str (Str.ofString "0")) = true := by
        rw [eqv_mk (dg a) (b := [48]) (by decide +kernel), hz]
        rfl
      walk_at "gon"
      rw [hc]
      refine need_use ?_
      walk_at "gon"
      refine x_intN f.int (by have := f.hi; omega) ?_
      walk_at "gon"
    · by_cases hc : (PyData.str (mkS (dg a))).eqv (PyData.str (Str.ofString "0")) = true
      · walk_at "gon"
        rw [hc]
        refine need_use ?_
        walk_at "gon"
        refine x_intN f.int (by have := f.hi; omega) ?_
        walk_at "gon"
      · have hc := eq_false_of_ne_true hc
        walk_at "gon"
        refine x_hd (l := dg a) (by have := f.lo; intro z; rw [z] at this; exact absurd this (by decide)) (by have := f.hi; omega) fun c r e => ?_
        have hc9 : (!(PyData.str (mkS [c])).eqv (PyData.str (Str.ofString "0"))) = true := by
          rw [eqv_mk [c] (b := [48]) (by decide +kernel), decide_eq_false fun z => hz (by rw [e]; simp at z; simp [z])]
          rfl
        have hc8 : shp (.str (mkS [c])) = true := shp_strL fun y hc => by
          rw [cps_mk] at hc
          rw [List.mem_singleton.mp hc]
          have := f.ch c (by rw [e]; exact List.mem_cons_self)
          omega
        walk_at "gon"
        rw [hc9]
        refine need_use ?_
        walk_at "gon"
        refine x_intN f.int (by have := f.hi; omega) ?_
        walk_at "gon"
theorem name_in_use [i : H_f_name_in T] {k : Nat} {ws : List (List Nat)} (h : Nw4 ws) (q : Q (.val (.py (.str (mkS (gl 46 ws))))) st) : ClG (run T (k + 3)) "name_in" [.py (.str (mkS (nmT ws)))] st Q X := by
  refine clg_run i.eq_f_name_in rfl ?_
  show Go (dSs (run T (k + 2)) B_f_name_in) [.val (.py (.str (mkS (nmT ws))))] st _ _
  unfold B_f_name_in
  by_cases hw : ws = []
  · subst hw
    have hc : (PyData.str (mkS (nmT []))).eqv (.str (Str.ofString "*")) = true := by decide +kernel
    walk_at "gon"
    exact q
  · have e : nmT ws = gl 46 ws := by
      unfold nmT
      rw [if_neg hw]
    rw [e]
    have hc : (PyData.str (mkS (gl 46 ws))).eqv (.str (Str.ofString "*")) = false := by
      rw [eqv_mk _ (b := [42]) (by decide +kernel)]
      exact decide_eq_false fun z => by
        have := nw_char h (c := 42) (by rw [z]; exact List.mem_cons_self)
        omega
    have hc2 : (!(PyData.str (mkS (gl 46 ws))).eqv (.str (Str.ofString ""))) = true := by
      rw [eqv_strR, str_nil, cps_mk, decide_eq_false (nw_ne h hw)]
      rfl
    have hn := nw_isN h
    have hl := nw_len h
    have hF : fine (.str (mkS (gl 46 ws))) := ⟨by rw [mk_len (gl 46 ws)]; omega, fun c hc => by
      rw [cps_mk] at hc
      have := nw_char h hc
      omega⟩
    walk_at "gon"
    refine is_name_use hF ?_
    rw [show isN (.str (mkS (gl 46 ws))) = true from by show isNl (mkS (gl 46 ws)).cps.toList = true; rw [cps_mk]; exact hn]
    walk_at "gon"
    refine need_use ?_
    walk_at "gon"
end
end Nw

set_option autoImplicit false
set_option maxRecDepth 100000
set_option maxHeartbeats 1000000
/-! Bank Tf: clauses read back (k72). -/
namespace Nw
open PySem
theorem cut_to {l : List Nat} {k : Nat} : cutL l none (some (k : Int)) = l.take k := by
  unfold cutL
  rw [HT.sIx_none, HT.sIx_nat, List.drop_zero, Nat.sub_zero]
  rcases Nat.le_total k l.length with h | h
  · rw [Nat.min_eq_left h]
  · rw [Nat.min_eq_right h, List.take_length, List.take_of_length_le h]
mutual
theorem Tq.low {n k : Nat} {d : D} {x : List Nat} : Tq n d k x → ∀ c ∈ x, c < 200
  | .rank (a := a) (b := b) h1 h2 => fun c hc => by
    have f1 := (dg_f (a := a) (by omega)).ch c
    have f2 := (dg_f (a := b) (by omega)).ch c
    simp at hc
    rcases hc with h | h | h | h | h | h | h | h
    all_goals first | omega | (have := f1 h; omega) | (have := f2 h; omega)
  | .under (ws := ws) h => fun c hc => by
    rcases List.mem_append.mp hc with hc | hc
    · simp at hc
      omega
    · have := nmT_ch h hc
      omega
  | .tag (c := c) h => fun y hy => by
    have := inA_rng h
    simp at hy
    omega
  | .not h => fun c hc => by
    have := h.low c
    simp at hc
    rcases hc with h | h | h | h | h | h
    all_goals first | omega | exact this h
  | .all h hl => fun c hc => by
    have h9 := h.low
    rcases List.mem_append.mp hc with hc | hc
    · simp at hc
      omega
    · rcases List.mem_append.mp hc with hc | hc
      · rcases gl_mem hc with rfl | ⟨p, hp, hc⟩
        · decide
        · exact h9 p hp c hc
      · simp at hc
        omega
  | .any h hl => fun c hc => by
    have h9 := h.low
    rcases List.mem_append.mp hc with hc | hc
    · simp at hc
      omega
    · rcases List.mem_append.mp hc with hc | hc
      · rcases gl_mem hc with rfl | ⟨p, hp, hc⟩
        · decide
        · exact h9 p hp c hc
      · simp at hc
        omega
theorem Tqs.low {n k : Nat} {e : List D} {xs : List (List Nat)} : Tqs n e k xs → ∀ x ∈ xs, ∀ c ∈ x, c < 200
  | .nil => fun x hx => nomatch hx
  | .cons h r => fun x hx => by
    rcases List.mem_cons.mp hx with rfl | hx
    · exact h.low
    · exact r.low x hx
end
theorem Tq.hd {n k : Nat} {d : D} {x : List Nat} (h : Tq n d k x) : ∃ c r, x = c :: r ∧ 97 ≤ c := by
  cases h
  all_goals exact ⟨_, _, rfl, by decide⟩
theorem Cq.hd {d : D} {x : List Nat} (h : Cq d x) : ∃ c r, x = c :: r ∧ 97 ≤ c := by
  cases h with
  | test h hk => exact h.hd
  | mark h => exact ⟨_, _, rfl, by decide⟩
  | as h => exact ⟨_, _, rfl, by decide⟩
  | wth h => exact ⟨_, _, rfl, by decide⟩
  | wout h => exact ⟨_, _, rfl, by decide⟩
theorem Cq.low {d : D} {x : List Nat} (h : Cq d x) : ∀ c ∈ x, c < 200 := by
  cases h with
  | test h hk => exact h.low
  | mark h =>
    intro c hc
    rcases List.mem_append.mp hc with hc | hc
    · simp at hc
      omega
    · have := inA_rng ((isWl_iff.mp h).2.2 c hc)
      omega
  | as h =>
    rename_i a
    intro c hc
    rcases List.mem_append.mp hc with hc | hc
    · simp at hc
      omega
    · have := (dg_f (a := a) (by omega)).ch c hc
      omega
  | wth h =>
    have := inA_rng h
    intro c hc
    simp at hc
    omega
  | wout h =>
    have := inA_rng h
    intro c hc
    simp at hc
    omega
section
variable {T : Tb} {X : Str → Option D → List OD → Prop} {st : List OD} {Q : RV → List OD → Prop}
theorem needE [i : H_f_need T] {k : Nat} {b : Bool} (h : b = true) (q : Q (.val (.py .none)) st) : ClG (run T (k + 1)) "need" [.py (.bool b)] st Q X := by
  rw [h]
  exact need_use q
end
end Nw

set_option autoImplicit false
set_option maxRecDepth 100000
set_option maxHeartbeats 1000000
/-! Bank Tg: clauses, sieves, ways read back (k72). -/
namespace Nw
open PySem
section
variable {T : Tb} {X : Str → Option D → List OD → Prop} {st : List OD} {Q : RV → List OD → Prop}
end
section
variable {T : Tb} {X : Str → Option D → List OD → Prop} {st : List OD} {Q : RV → List OD → Prop}
theorem SvT.low {l : List Cl2} (h : SvT l) : (∀ c ∈ svx l, c < 200) ∧ (svx l).length ≤ 200000 := by
  unfold svx
  split
  · decide
  · refine ⟨fun c hc => ?_, ?_⟩
    · rcases gl_mem hc with rfl | ⟨p, hp, hc⟩
      · decide
      · obtain ⟨q, hq, rfl⟩ := List.mem_map.mp hp
        exact (h.2 q hq).low c hc
    · have := gl_sum (c := 59) (m := 25000) (svx_lens h) (j := 6) (by rw [List.length_map]; exact h.1)
      omega
inductive Wq : List D → Prop
  | once : Wq [.str "once"]
  | shelf {a : Nat} (h1 : 1 ≤ a) (h2 : a ≤ 20) : Wq [.str "shelf", .int a]
  | held {a b : Nat} (h1 : 1 ≤ a) (h2 : a ≤ 20) (h3 : b ≤ 100) : Wq [.str "held", .int a, .int b]
theorem Wq.ok {ds : List D} (h : Wq ds) : ds.length ≤ 5 ∧ ∀ d ∈ ds, okP d ∧ (spD d).length ≤ 100 := by
  have hi : ∀ {a : Nat}, a ≤ 100 → okP (.int (a : Int)) ∧ (spD (.int (a : Int))).length ≤ 100 := fun {a} ha => by
    have := (dg_f ha).hi
    exact ⟨⟨by omega, by omega⟩, by show (dg a).length ≤ 100; omega⟩
  cases h with
  | once => exact ⟨by decide, fun d hd => by rw [List.mem_singleton.mp hd]; exact ⟨trivial, by decide +kernel⟩⟩
  | shelf h1 h2 =>
    refine ⟨by simp, fun d hd => ?_⟩
    simp at hd
    rcases hd with rfl | rfl
    · exact ⟨trivial, by decide +kernel⟩
    · exact hi (by omega)
  | held h1 h2 h3 =>
    refine ⟨by simp, fun d hd => ?_⟩
    simp at hd
    rcases hd with rfl | rfl | rfl
    · exact ⟨trivial, by decide +kernel⟩
    · exact hi (by omega)
    · exact hi (by omega)
theorem Wq.form {ds : List D} (h : Wq ds) : ∃ (w : List Nat) (ns : List Nat), ds = .str (mkS w) :: ns.map (fun (a : Nat) => .int (a : Int)) ∧ (∀ c ∈ w, 97 ≤ c ∧ c ≤ 122) ∧ w.length ≤ 10 ∧ (∀ a ∈ ns, a ≤ 100) ∧ ns.length ≤ 2 := by
  cases h with
  | once => exact ⟨[111, 110, 99, 101], [], rfl, by decide, by decide, by simp, by simp⟩
  | shelf h1 h2 =>
    rename_i a
    exact ⟨[115, 104, 101, 108, 102], [a], rfl, by decide, by decide, by simp; omega, by simp⟩
  | held h1 h2 h3 =>
    rename_i a b
    exact ⟨[104, 101, 108, 100], [a, b], rfl, by decide, by decide, by simp; omega, by simp⟩
end
end Nw

set_option autoImplicit false
set_option maxRecDepth 100000
set_option maxHeartbeats 1000000
/-! Bank Th: the makers (k72). -/
namespace Nw
open PySem
def WD (d : D) : Prop := ∃ p, isWl p = true ∧ d = .str (mkS p)
theorem wd_list : ∀ {ds : List D}, (∀ d ∈ ds, WD d) → ∃ ps : List (List Nat), ds = (ps.map mkS).map PyData.str ∧ ∀ p ∈ ps, isWl p = true
  | [], _ => ⟨[], rfl, fun _ h => nomatch h⟩
  | d :: ds, h => by
    obtain ⟨p, hp, rfl⟩ := h d List.mem_cons_self
    obtain ⟨ps, rfl, hps⟩ := wd_list (ds := ds) fun x hx => h x (List.mem_cons_of_mem _ hx)
    refine ⟨p :: ps, rfl, fun x hx => ?_⟩
    rcases List.mem_cons.mp hx with rfl | hx
    · exact hp
    · exact hps x hx
theorem lt_list : ∀ {ds : List D}, (∀ d ∈ ds, ∃ c, inA c = true ∧ d = .str (mkS [c])) → ∃ cs : List Nat, ds = cs.map (fun c => PyData.str ⟨#[c]⟩) ∧ ∀ c ∈ cs, inA c = true
  | [], _ => ⟨[], rfl, fun _ h => nomatch h⟩
  | d :: ds, h => by
    obtain ⟨p, hp, rfl⟩ := h d List.mem_cons_self
    obtain ⟨ps, rfl, hps⟩ := lt_list (ds := ds) fun x hx => h x (List.mem_cons_of_mem _ hx)
    refine ⟨p :: ps, rfl, fun x hx => ?_⟩
    rcases List.mem_cons.mp hx with rfl | hx
    · exact hp
    · exact hps x hx
theorem x_joinT {l : List Nat} {P : RV → Prop} (h : l.length ≤ 1000) (p : P (.val (.py (.str (mkS l))))) : ∃ r, opMT .join (Str.ofString "") [.list (l.map fun c => PyData.str ⟨#[c]⟩)] = some r ∧ P r := by
  refine ⟨_, ?_, p⟩
  show (asStrs (l.map fun c => PyData.str ⟨#[c]⟩)).bind _ = _
  rw [asS_map]
  show guardO (fits (((l.map fun c => (⟨#[c]⟩ : Str)).map (·.length)).sum + (l.map fun c => (⟨#[c]⟩ : Str)).length * (Str.ofString "").length)) (vD (.str (Txt.join (Str.ofString "") (l.map fun c => ⟨#[c]⟩)))) = _
  rw [sum_ones]
  have e : Str.ofString "" = ⟨#[]⟩ := by decide
  rw [e, join_chars]
  have g : fits (l.length + (l.map fun c => (⟨#[c]⟩ : Str)).length * (⟨#[]⟩ : Str).length) = true := by
    apply decide_eq_true
    show l.length + (l.map fun c => (⟨#[c]⟩ : Str)).length * 0 ≤ 16777216
    omega
  unfold guardO
  rw [g]
  rfl
section
variable {T : Tb} {J : List OD → Prop} {X : Str → Option D → List OD → Prop} {st : List OD} {Q : RV → List OD → Prop}
theorem drT (D : DrawOk T J) {k : Nat} {m : Int} (h0 : 0 < m) (h1 : m < 18446744073709551616) (j : J st) (q : ∀ (d : Int) st', 0 ≤ d → d < m → J st' → Q (.val (.py (.int d))) st') : ClG (run T (k + 1)) "_law_draw" [.obj 0, .py (.int m)] st Q X := by
  refine ClG.use (D.go h0 h1 j) ?_
  rintro r t ⟨d, rfl, a, b, c⟩
  exact q d t a b c
theorem pickT [i : H_l_pick T] (Dr : DrawOk T J) {k : Nat} {s : Str} (h0 : 0 < s.length) (h1 : s.length ≤ 100000) (j : J st) (q : ∀ (c : Nat) st', c ∈ s.cps.toList → J st' → Q (.val (.py (.str (mkS [c])))) st') : ClG (run T (k + 2)) "_law_pick" [.obj 0, .py (.str s)] st Q X := by
  refine clg_run i.eq_l_pick rfl ?_
  show Go (dSs (run T (k + 1)) B_l_pick) [.val (.obj 0), .val (.py (.str s))] st _ _
  unfold B_l_pick
  have hf : fits s.length = true := fits_le (by omega)
  iterate 20 all_goals (try walk_at "nw")
  refine drT Dr (by omega) (by omega) j fun d st' d0 d1 j' => ?_
  walk_at "gon"
  refine ex_ixSP d0 d1 (by omega) fun c hc => ?_
  walk_at "gon"
  exact q c _ (List.mem_of_getElem? hc) j'
theorem pickL [i : H_l_pick T] (Dr : DrawOk T J) {k : Nat} {xs : List D} (P : D → Prop) (hn : xs ≠ []) (hl : xs.length ≤ 100000) (hP : ∀ x ∈ xs, P x) (j : J st) (q : ∀ (d : D) st', P d → J st' → Q (.val (.py d)) st') : ClG (run T (k + 2)) "_law_pick" [.obj 0, .py (.list xs)] st Q X := by
  refine clg_run i.eq_l_pick rfl ?_
  show Go (dSs (run T (k + 1)) B_l_pick) [.val (.obj 0), .val (.py (.list xs))] st _ _
  unfold B_l_pick
  have hp : 0 < xs.length := List.length_pos_iff.mpr hn
  iterate 20 all_goals (try walk_at "nw")
  refine drT Dr (by omega) (by omega) j fun d st' d0 d1 j' => ?_
  walk_at "gon"
  refine ex_ixP P d0 d1 hP fun y hy => ?_
  walk_at "gon"
  exact q y _ hy j'
abbrev azT : Str := "abcdefghijklmnopqrstuvwxyz"
theorem az_in {c : Nat} (h : c ∈ azT.cps.toList) : inA c = true := (inA_iff c).mpr h
theorem word_mk [i : H_l_word2 T] (Dr : DrawOk T J) {k : Nat} (j : J st) (q : ∀ (p : List Nat) st', isWl p = true → J st' → Q (.val (.py (.str (mkS p)))) st') : ClG (run T (k + 3)) "_law_word" [.obj 0] st Q X := by
  refine clg_run i.eq_l_word2 rfl ?_
  show Go (dSs (run T (k + 2)) B_l_word2) [.val (.obj 0), .un, .un] st _ _
  unfold B_l_word2
  walk_at "gon"
  refine g_e_compR (fun d => ∃ c, inA c = true ∧ d = .str (mkS [c])) (fun _ => J) ?_
  walk_at "gon"
  refine drT Dr (by omega) (by omega) j fun d st' d0 d1 j' => ?_
  walk_at "gon"
  refine ⟨fun i st2 hi hj => ?_, fun ds st2 hl hd hj => ?_⟩
  · walk_at "gon"
    refine pickT (s := azT) Dr (by decide) (by decide) hj fun c st3 hc j3 => ?_
    walk_at "gon"
    exact ⟨⟨c, az_in hc, rfl⟩, j3⟩
  · obtain ⟨cs, rfl, hcs⟩ := lt_list hd
    rw [List.length_map] at hl
    walk_at "gon"
    refine x_joinT (by omega) ?_
    walk_at "gon"
    exact q cs _ (isWl_iff.mpr ⟨by omega, by omega, hcs⟩) hj
theorem name_mk [i : H_l_name2 T] (Dr : DrawOk T J) {k : Nat} {ps : List D} (h4 : ps.length = 4) (hp : ∀ p ∈ ps, WD p) (j : J st) (q : ∀ (ws : List (List Nat)) st', Nw4 ws → J st' → Q (.val (.py (.str (mkS (gl 46 ws))))) st') : ClG (run T (k + 3)) "_law_name" [.obj 0, .py (.list ps)] st Q X := by
  refine clg_run i.eq_l_name2 rfl ?_
  show Go (dSs (run T (k + 2)) B_l_name2) [.val (.obj 0), .val (.py (.list ps)), .un] st _ _
  unfold B_l_name2
  walk_at "gon"
  refine g_e_compR WD (fun _ => J) ?_
  walk_at "gon"
  refine drT Dr (by omega) (by omega) j fun d st' d0 d1 j' => ?_
  walk_at "gon"
  refine ⟨fun i st2 hi hj => ?_, fun ds st2 hl hd hj => ?_⟩
  · walk_at "gon"
    refine pickL Dr WD (by intro e; rw [e] at h4; cases h4) (by omega) hp hj fun c st3 hc j3 => ?_
    walk_at "gon"
  · obtain ⟨ws, rfl, hws⟩ := wd_list hd
    rw [List.length_map, List.length_map] at hl
    walk_at "gon"
    refine m_joinM (c := 46) (m := 6) (fun x hx => (isWl_iff.mp (hws x hx)).2.1) (by omega) ?_
    walk_at "gon"
    exact q ws _ ⟨by omega, hws⟩ hj
theorem cut_m1T {α : Type} {xs : List α} : cutL xs none (some (-1)) = xs.dropLast := by
  unfold cutL
  have e2 : HT.sIx xs.length xs.length (some (-1)) = xs.length - 1 := by
    show ((-1 : Int) + (xs.length : Nat)).toNat = _
    omega
  rw [e2, HT.sIx_none, List.drop_zero, Nat.sub_zero, List.dropLast_eq_take]
def plT : List S := [(.ret (.lst [(.var 1), (.var 2), (.call "_law_word" [(.var 0)]), (.call "_law_pick" [(.var 0), (.cst (.str "abcdefghijklmnopqrstuvwxyz"))])]))]
theorem b_pool : B_l_pool = (.own 1 (.call "_law_word" [(.var 0)])) :: (.own 2 (.sub (.ev (.lst [(.bin .add (.pk 1) (.ev (.sli (.pk 1) none (some (.ev (.cst (.int 1))))))), (.sli (.pk 1) none (some (.ev (.neg (.ev (.cst (.int 1)))))))])) (.ev (.bi .int [(.ev (.cmp .eq (.ev (.bi .len [(.pk 1)])) (.ev (.cst (.int 6)))))])))) :: plT := rfl
theorem pool_mk [i : H_l_pool T] (Dr : DrawOk T J) {k : Nat} (j : J st) (q : ∀ (ps : List D) st', ps.length = 4 → (∀ p ∈ ps, WD p) → J st' → Q (.new (.lst (ps.map .py))) st') : ClG (run T (k + 4)) "_law_pool" [.obj 0] st Q X := by
  refine clg_run i.eq_l_pool rfl ?_
  show Go (dSs (run T (k + 3)) B_l_pool) [.val (.obj 0), .un, .un] st _ _
  rw [b_pool]
  walk_at "gon"
  refine word_mk Dr j fun p st2 hp j2 => ?_
  obtain ⟨p1, p6, pa⟩ := isWl_iff.mp hp
  have hf : fits (mkS p).length = true := fits_le (by rw [mk_len p]; omega)
  have ec1 : cutL (mkS p).cps.toList none (some 1) = p.take 1 := by rw [cps_mk]; exact cut_to (k := 1)
  have ec2 : cutL (mkS p).cps.toList none (some (-1)) = p.dropLast := by rw [cps_mk]; exact cut_m1T
  have hf2 : fits ((mkS p).length + (⟨(cutL (mkS p).cps.toList none (some 1)).toArray⟩ : Str).length) = true := fits_le (by
    rw [ec1]
    show (mkS p).length + (mkS (p.take 1)).length ≤ _
    rw [mk_len p, mk_len (p.take 1), List.length_take]
    omega)
  walk_at "gon"
  rw [ec1, ec2]
  have e6 : (PyData.int ((mkS p).length : Int)).eqv (.int 6) = decide (p.length = 6) := by
    rw [mk_len p]
    simp only [PyData.eqv]
    rw [Bool.eq_iff_iff, beq_iff_eq, decide_eq_true_iff]
    omega
  rw [e6]
  have key : ∀ y : List Nat, isWl y = true → Go (dSs (run T (k + 3)) plT) [.val (.obj 0), .val (.py (.str (mkS p))), .val (.py (.str (mkS y)))] st2 (EnG Q) fun c p fr => X c p fr.st := fun y hy => by
    unfold plT
    walk_at "gon"
    refine word_mk Dr j2 fun p3 st3 hp3 j3 => ?_
    walk_at "gon"
    refine pickT (s := azT) Dr (by decide) (by decide) j3 fun c st4 hc j4 => ?_
    walk_at "gon"
    refine q [.str (mkS p), .str (mkS y), .str (mkS p3), .str (mkS [c])] _ rfl (fun z hz => ?_) j4
    simp at hz
    rcases hz with rfl | rfl | rfl | rfl
    · exact ⟨_, hp, rfl⟩
    · exact ⟨_, hy, rfl⟩
    · exact ⟨_, hp3, rfl⟩
    · exact ⟨_, isWl_iff.mpr ⟨by simp, by simp, fun x hx => by rw [List.mem_singleton.mp hx]; exact az_in hc⟩, rfl⟩
  by_cases h6 : p.length = 6
  · rw [decide_eq_true h6]
    refine ⟨_, rfl, ?_⟩
    walk_at "gon"
    exact key p.dropLast (isWl_iff.mpr ⟨by rw [List.length_dropLast]; omega, by rw [List.length_dropLast]; omega, fun c hc => pa c (List.dropLast_subset _ hc)⟩)
  · rw [decide_eq_false h6]
    refine ⟨_, rfl, ?_⟩
    rw [show mkS p ++ mkS (p.take 1) = mkS (p ++ p.take 1) from catM _ _]
    walk_at "gon"
    exact key (p ++ p.take 1) (isWl_iff.mpr ⟨by rw [List.length_append]; omega, by rw [List.length_append, List.length_take]; omega, fun c hc => (List.mem_append.mp hc).elim (pa c) fun h => pa c (List.mem_of_mem_take h)⟩)
end
end Nw

set_option autoImplicit false
set_option maxRecDepth 100000
set_option maxHeartbeats 1000000
/-! Bank Ti: sieves and ways made, alike (k72). -/
namespace Nw
open PySem
theorem lk_c {n : Nat} {s : Str} (h : s.cps.toList.all (fun c => decide (c < 1114112)) = true) : Lk (n + 1) (.str s) := .str (low_o h)
theorem lk_m {n : Nat} {l : List Nat} (h : ∀ c ∈ l, c < 200) : Lk (n + 1) (.str (mkS l)) := .str fun c hc => by
  rw [cps_mk] at hc
  have := h c hc
  omega
theorem lk_2 {n : Nat} {a b : D} (ha : Lk n a) (hb : Lk n b) : Lk (n + 1) (.tuple [a, b]) := .tup (by simp) fun d hd => by
  simp at hd
  rcases hd with rfl | rfl
  · exact ha
  · exact hb
theorem lk_3 {n : Nat} {a b c : D} (ha : Lk n a) (hb : Lk n b) (hc : Lk n c) : Lk (n + 1) (.tuple [a, b, c]) := .tup (by simp) fun d hd => by
  simp at hd
  rcases hd with rfl | rfl | rfl
  · exact ha
  · exact hb
  · exact hc
mutual
theorem Tq.lk {n k : Nat} {d : D} {x : List Nat} : Tq n d k x → Lk (2 * n) d
  | .rank (n := n) h1 h2 => lk_3 (n := 2 * n + 1) (lk_c (by decide +kernel)) .int .int
  | .under (n := n) h => lk_2 (n := 2 * n + 1) (lk_c (by decide +kernel)) (lk_m fun c hc => by have := nw_char h hc; omega)
  | .tag (n := n) (c := c) h => lk_2 (n := 2 * n + 1) (lk_c (by decide +kernel)) (lk_m fun x hx => by
      rw [List.mem_singleton.mp hx]
      have := inA_rng h
      omega)
  | .not (n := n) h => lk_2 (n := 2 * n + 1) (lk_c (by decide +kernel)) h.lk.up
  | .all (n := n) h hl => lk_2 (n := 2 * n + 1) (lk_c (by decide +kernel)) (.tup (by omega) fun d hd => h.lk d hd)
  | .any (n := n) h hl => lk_2 (n := 2 * n + 1) (lk_c (by decide +kernel)) (.tup (by omega) fun d hd => h.lk d hd)
theorem Tqs.lk {n k : Nat} {e : List D} {xs : List (List Nat)} : Tqs n e k xs → ∀ d ∈ e, Lk (2 * n) d
  | .nil => fun x hx => nomatch hx
  | .cons h r => fun x hx => (List.mem_cons.mp hx).elim (fun e => by rw [e]; exact h.lk) fun hx => r.lk x hx
end
theorem Cq.lk {d : D} {x : List Nat} (h : Cq d x) : Lk 8 d := by
  cases h with
  | test h hk => exact h.lk
  | mark h =>
    have h1 := isWl_iff.mp h
    exact lk_2 (n := 7) (lk_c (by decide +kernel)) (lk_m fun c hc => by have := inA_rng (h1.2.2 c hc); omega)
  | as h => exact lk_2 (n := 7) (lk_c (by decide +kernel)) .int
  | wth h =>
    have := inA_rng h
    exact lk_2 (n := 7) (lk_c (by decide +kernel)) (lk_m fun x hx => by rw [List.mem_singleton.mp hx]; omega)
  | wout h =>
    have := inA_rng h
    exact lk_2 (n := 7) (lk_c (by decide +kernel)) (lk_m fun x hx => by rw [List.mem_singleton.mp hx]; omega)
theorem SvT.lk {l : List Cl2} (h : SvT l) : Lk 9 (.tuple (l.map Prod.fst)) := .tup (by rw [List.length_map]; have := h.1; omega) fun d hd => by
  obtain ⟨q, hq, rfl⟩ := List.mem_map.mp hd
  exact (h.2 q hq).lk
theorem Wq.lk {ds : List D} (h : Wq ds) : Lk 9 (.tuple ds) := by
  refine .tup (by have := h.ok.1; omega) fun d hd => ?_
  cases h with
  | once =>
    rw [List.mem_singleton.mp hd]
    exact lk_c (by decide +kernel)
  | shelf h1 h2 =>
    simp at hd
    rcases hd with rfl | rfl
    · exact lk_c (by decide +kernel)
    · exact .int
  | held h1 h2 h3 =>
    simp at hd
    rcases hd with rfl | rfl | rfl
    · exact lk_c (by decide +kernel)
    · exact .int
    · exact .int
end Nw

set_option autoImplicit false
set_option maxRecDepth 100000
set_option maxHeartbeats 1000000
/-! Bank Tj: messages shown and read (k73). -/
namespace Nw
open PySem
def B_f_show_tags : List S := [(.ife (.tcmp .eq (.pk 0) (.ev (.cst (.str "")))) [(.ret (.cst (.str "-")))] []), (.retv 0)]
def F_f_show_tags : Fn := ⟨1, 1, B_f_show_tags⟩
class H_f_show_tags (T : Tb) : Prop where
  eq_f_show_tags : T "show_tags" = some F_f_show_tags
def B_f_show_message : List S := [(.unp [1, 2, 3, 4] (.pk 0)), (.ret (.met .join (.ev (.cst (.str " "))) [(.ev (.lst [(.call "show_name" [(.var 1)]), (.bi .str [(.pk 2)]), (.call "show_tags" [(.var 3)]), (.var 4)]))]))]
def F_f_show_message : Fn := ⟨1, 5, B_f_show_message⟩
class H_f_show_message (T : Tb) : Prop extends H_f_show_name T, H_f_show_tags T where
  eq_f_show_message : T "show_message" = some F_f_show_message
def B_f_behind_changer : List S := [(.unp [2, 3, 4, 5] (.pk 1)), (.unp [6, 7] (.pk 0)), (.ife (.tcmp .eq (.pk 6) (.ev (.cst (.str "mark")))) [(.ret (.tup [(.var 2), (.var 3), (.var 4), (.bin .add (.ev (.bin .add (.pk 7) (.ev (.cst (.str " "))))) (.pk 5))]))] []), (.ife (.tcmp .eq (.pk 6) (.ev (.cst (.str "as")))) [(.ret (.tup [(.var 2), (.var 7), (.var 4), (.var 5)]))] []), (.ife (.tcmp .eq (.pk 6) (.ev (.cst (.str "with")))) [(.ret (.tup [(.var 2), (.var 3), (.call "tags_of" [(.bin .add (.pk 4) (.pk 7))]), (.var 5)]))] []), (.ret (.tup [(.var 2), (.var 3), (.met .replace (.pk 4) [(.pk 7), (.ev (.cst (.str "")))]), (.var 5)]))]
def F_f_behind_changer : Fn := ⟨2, 8, B_f_behind_changer⟩
class H_f_behind_changer (T : Tb) : Prop extends H_f_tags_of T where
  eq_f_behind_changer : T "behind_changer" = some F_f_behind_changer
def B_f_behind_clause : List S := [(.ife (.tcmp .mem (.ev (.sub (.pk 0) (.ev (.cst (.int 0))))) (.ev (.glb "CHANGERS" (.tuple [(.str "mark"), (.str "as"), (.str "with"), (.str "without")])))) [(.ret (.call "behind_changer" [(.var 0), (.var 1)]))] []), (.ife (.tst (.ev (.call "holds" [(.var 0), (.var 1)]))) [(.retv 1)] []), (.ret (.cst .none))]
def F_f_behind_clause : Fn := ⟨2, 2, B_f_behind_clause⟩
class H_f_behind_clause (T : Tb) : Prop extends H_f_behind_changer T, H_f_holds T where
  eq_f_behind_clause : T "behind_clause" = some F_f_behind_clause
def B_f_sieved : List S := [(.for (.one 2) (.ev (.var 0)) [(.own 1 (.call "behind_clause" [(.var 2), (.var 1)])), (.ife (.tcmp .isN (.pk 1) (.ev (.cst .none))) [(.ret (.cst .none))] [])]), (.retv 1)]
def F_f_sieved : Fn := ⟨2, 3, B_f_sieved⟩
class H_f_sieved (T : Tb) : Prop extends H_f_behind_clause T where
  eq_f_sieved : T "sieved" = some F_f_sieved
def B_f_read_message : List S := [(.ex (.call "need" [(.isi (.pk 0) ["str"])])), (.own 1 (.met .split (.pk 0) [(.ev (.cst (.str " ")))])), (.ex (.call "need" [(.cmp .gt (.ev (.bi .len [(.pk 1)])) (.ev (.cst (.int 3))))])), (.own 2 (.sub (.pk 1) (.ev (.cst (.int 2))))), (.ife (.tcmp .eq (.pk 2) (.ev (.cst (.str "-")))) [(.own 2 (.cst (.str "")))] []), (.own 3 (.tup [(.call "name_in" [(.sub (.pk 1) (.ev (.cst (.int 0))))]), (.call "number_in" [(.sub (.pk 1) (.ev (.cst (.int 1))))]), (.var 2), (.met .join (.ev (.cst (.str " "))) [(.ev (.sli (.pk 1) (some (.ev (.cst (.int 3)))) none))])])), (.ex (.call "need" [(.conj (.call "is_message" [(.var 3)]) (.cmp .eq (.ev (.call "show_message" [(.var 3)])) (.pk 0)))])), (.retv 3)]
def F_f_read_message : Fn := ⟨1, 4, B_f_read_message⟩
class H_f_read_message (T : Tb) : Prop extends H_f_need T, H_f_name_in T, H_f_number_in T, H_f_is_message T, H_f_show_message T where
  eq_f_read_message : T "read_message" = some F_f_read_message
def B_l_shown : List S := [(.unp [2, 3, 4, 5] (.pk 0)), (.own 1 (.lst [(.sub (.ev (.lst [(.var 2), (.cst (.str "*"))])) (.ev (.bi .int [(.ev (.cmp .eq (.pk 2) (.ev (.cst (.str "")))))]))), (.bi .str [(.pk 3)]), (.sub (.ev (.lst [(.var 4), (.cst (.str "-"))])) (.ev (.bi .int [(.ev (.cmp .eq (.pk 4) (.ev (.cst (.str "")))))])))])), (.ret (.bin .add (.ev (.bin .add (.ev (.bin .add (.ev (.bin .add (.ev (.bin .add (.ev (.bin .add (.ev (.sub (.pk 1) (.ev (.cst (.int 0))))) (.ev (.cst (.str " "))))) (.ev (.sub (.pk 1) (.ev (.cst (.int 1))))))) (.ev (.cst (.str " "))))) (.ev (.sub (.pk 1) (.ev (.cst (.int 2))))))) (.ev (.cst (.str " "))))) (.pk 5)))]
def F_l_shown : Fn := ⟨1, 6, B_l_shown⟩
class H_l_shown (T : Tb) : Prop where
  eq_l_shown : T "_law_shown" = some F_l_shown

abbrev Ms := List (List Nat) × Nat × List Nat × List Nat
def msD (m : Ms) : D := .tuple [.str (mkS (gl 46 m.1)), .int (m.2.1 : Int), .str (mkS m.2.2.1), .str (mkS m.2.2.2)]
def tgT (tg : List Nat) : List Nat := if tg = [] then [45] else tg
def msx (m : Ms) : List Nat := nmT m.1 ++ 32 :: (dg m.2.1 ++ 32 :: (tgT m.2.2.1 ++ 32 :: m.2.2.2))
structure MsT (n : Nat) (m : Ms) : Prop where
  nw : Nw4 m.1
  rk : m.2.1 ≤ 99
  tg : ∃ p : Nat → Bool, m.2.2.1 = abc.cps.toList.filter p
  tl : m.2.2.2.length ≤ n
  low : ∀ c ∈ m.2.2.2, c < 200
theorem abc_nd : abc.cps.toList.Nodup := by decide +kernel
theorem tg_f {tg : List Nat} (h : ∃ p : Nat → Bool, tg = abc.cps.toList.filter p) : (∀ c ∈ tg, inA c = true) ∧ tg.length ≤ 26 ∧ tg.Nodup ∧ abc.cps.toList.filter (fun c => decide (c ∈ tg)) = tg := by
  obtain ⟨p, rfl⟩ := h
  refine ⟨fun c hc => (inA_iff c).mpr (List.mem_filter.mp hc).1, ?_, abc_nd.filter _, ?_⟩
  · have := List.length_filter_le p abc.cps.toList
    have e : abc.cps.toList.length = 26 := by decide +kernel
    omega
  · refine List.filter_congr fun c hc => ?_
    rw [Bool.eq_iff_iff, decide_eq_true_iff, List.mem_filter]
    exact ⟨fun h => h.2, fun h => ⟨hc, h⟩⟩
theorem nubS_ndT : ∀ {l : List Str}, l.Nodup → nubS l = l := fun {l} h => by
  have key : ∀ (l acc : List Str), (acc ++ l).Nodup → l.foldl (fun acc x => if acc.any (· == x) then acc else acc ++ [x]) acc = acc ++ l := fun l => by
    induction l with
    | nil => intro acc _; simp
    | cons x r ih =>
      intro acc h
      have hx : (acc.any (· == x)) = false := by
        rw [List.any_eq_false]
        intro y hy e
        have e : y = x := by simpa using e
        subst e
        have := (List.nodup_append.mp h).2.2 y hy y List.mem_cons_self
        exact this rfl
      rw [List.foldl_cons, hx]
      have := ih (acc ++ [x]) (by rw [List.append_assoc]; exact h)
      rw [List.append_assoc] at this
      exact this
  exact key l [] h
theorem mg_ok {m : Ms} (h : MsT 400 m) (hg : ∀ c ∈ m.2.2.2, inG c = true) : mg (msD m) = true := by
  obtain ⟨t1, t2, t3, t4⟩ := tg_f h.tg
  show (isN (.str (mkS (gl 46 m.1))) && (isR (.int (m.2.1 : Int)) && (arB (.str (mkS m.2.2.1)) && (tgE (.str (mkS m.2.2.1)) && txB (.str (mkS m.2.2.2)))))) = true
  have e1 : isN (.str (mkS (gl 46 m.1))) = true := by
    show isNl (mkS (gl 46 m.1)).cps.toList = true
    rw [cps_mk]
    exact nw_isN h.nw
  have e3 : arB (.str (mkS m.2.2.1)) = true := by
    show ((mkS m.2.2.1).cps.toList.all inA && decide ((nubS (signs (mkS m.2.2.1))).length = (mkS m.2.2.1).length)) = true
    rw [nubS_ndT, Bool.and_eq_true, List.all_eq_true, decide_eq_true_iff]
    · refine ⟨fun c hc => t1 c (by rw [cps_mk] at hc; exact hc), ?_⟩
      unfold signs
      rw [List.length_map, cps_len]
    · unfold signs
      rw [cps_mk]
      exact List.Pairwise.map _ (fun a b hab e => hab (by have := congrArg (fun s : Str => s.cps.toList) e; simpa using this)) t3
  have e4 : tgE (.str (mkS m.2.2.1)) = true := by
    have e : tgs (mkS m.2.2.1) = mkS m.2.2.1 := by
      unfold tgs tgL
      congr 1
      rw [← t4]
      refine List.filter_congr fun c hc => ?_
      rw [show inStr ⟨#[c]⟩ (mkS (abc.cps.toList.filter fun c => decide (c ∈ m.2.2.1))) = decide (c ∈ (mkS (abc.cps.toList.filter fun c => decide (c ∈ m.2.2.1))).cps.toList) from StrLaws.found_one _ c, cps_mk, t4]
    show (PyData.str (mkS m.2.2.1)).eqv (.str (tgs (mkS m.2.2.1))) = true
    rw [e]
    simp [PyData.eqv]
  have e5 : txB (.str (mkS m.2.2.2)) = true := by
    show (!decide (400 < ((mkS m.2.2.2).length : Int)) && (mkS m.2.2.2).cps.toList.all inG) = true
    rw [mk_len m.2.2.2, cps_mk, decide_eq_false (by have := h.tl; omega), List.all_eq_true.mpr hg]
    rfl
  rw [e1, isR_nat h.rk, e3, e4, e5]
  rfl
theorem msx_f {n : Nat} {m : Ms} (h : MsT n m) : (∀ c ∈ msx m, c < 200) ∧ (msx m).length ≤ n + 60 ∧ (nmT m.1).length ≤ 28 ∧ (dg m.2.1).length ≤ 3 ∧ (tgT m.2.2.1).length ≤ 26 ∧ (∀ c ∈ tgT m.2.2.1, c = 45 ∨ (97 ≤ c ∧ c ≤ 122)) := by
  obtain ⟨t1, t2, t3, t4⟩ := tg_f h.tg
  have l1 : (nmT m.1).length ≤ 28 := by
    unfold nmT
    split
    · decide
    · exact nw_len h.nw
  have f := dg_f (a := m.2.1) (by have := h.rk; omega)
  have l3 : (tgT m.2.2.1).length ≤ 26 := by
    unfold tgT
    split
    · decide
    · exact t2
  have c3 : ∀ c ∈ tgT m.2.2.1, c = 45 ∨ (97 ≤ c ∧ c ≤ 122) := fun c hc => by
    unfold tgT at hc
    split at hc
    · exact .inl (List.mem_singleton.mp hc)
    · exact .inr (inA_rng (t1 c hc))
  refine ⟨fun c hc => ?_, ?_, l1, f.hi, l3, c3⟩
  · unfold msx at hc
    simp only [List.mem_append, List.mem_cons] at hc
    rcases hc with hc | rfl | hc | rfl | hc | rfl | hc
    · have := nmT_ch h.nw hc
      omega
    · decide
    · have := f.ch c hc
      omega
    · decide
    · have := c3 c hc
      omega
    · decide
    · exact h.low c hc
  · unfold msx
    have := h.tl
    have := f.hi
    simp only [List.length_append, List.length_cons]
    omega
theorem x_sub2 {a c e : D} {b : Bool} {P : D → Prop} (h : (if b = true then c else a) = e) (p : P e) : ∃ r, opSub (.list [a, c]) (.int (if b = true then 1 else 0)) = some r ∧ P r := by
  refine ⟨_, ?_, p⟩
  rw [← h]
  cases b <;> rfl
section
variable {T : Tb} {X : Str → Option D → List OD → Prop} {st : List OD} {Q : RV → List OD → Prop}
theorem show_tags_use [i : H_f_show_tags T] {k : Nat} {tg : List Nat} (q : Q (.val (.py (.str (mkS (tgT tg))))) st) : ClG (run T (k + 1)) "show_tags" [.py (.str (mkS tg))] st Q X := by
  refine clg_run i.eq_f_show_tags rfl ?_
  show Go (dSs (run T k) B_f_show_tags) [.val (.py (.str (mkS tg)))] st _ _
  unfold B_f_show_tags
  have hc : (PyData.str (mkS tg)).eqv (.str (Str.ofString "")) = decide (tg = []) := by rw [eqv_strR, str_nil, cps_mk]
  by_cases h : tg = []
  · subst h
    rw [show decide (([] : List Nat) = []) = true from rfl] at hc
    walk_at "gon"
    exact q
  · rw [decide_eq_false h] at hc
    unfold tgT at q
    rw [if_neg h] at q
    walk_at "gon"
theorem show_message_use [i : H_f_show_message T] {k n : Nat} {m : Ms} (h : MsT n m) (hn : n ≤ 1000) (q : Q (.val (.py (.str (mkS (msx m))))) st) : ClG (run T (k + 2)) "show_message" [.py (msD m)] st Q X := by
  refine clg_run i.eq_f_show_message rfl ?_
  obtain ⟨x1, x2, x3, x4, x5, x6⟩ := msx_f h
  have hr := h.rk
  have ht := h.tl
  have hnw := h.nw
  obtain ⟨ws, r, tg, tx⟩ := m
  dsimp only at *
  show Go (dSs (run T (k + 1)) B_f_show_message) [.val (.py (.tuple [.str (mkS (gl 46 ws)), .int (r : Int), .str (mkS tg), .str (mkS tx)])), .un, .un, .un, .un] st _ _
  unfold B_f_show_message
  walk_at "gon"
  refine show_name_use hnw ?_
  walk_at "gon"
  refine x_strP (d := .int (r : Int)) ⟨by omega, by omega⟩ ?_
  walk_at "gon"
  refine show_tags_use ?_
  walk_at "gon"
  refine m_joinM (c := 32) (xs := [nmT ws, dg r, tgT tg, tx]) (m := 1000) (fun x hx => ?_) (by show 4 * 1001 ≤ 16000000; decide) ?_
  · simp at hx
    rcases hx with rfl | rfl | rfl | rfl <;> omega
  walk_at "gon"
  exact q
theorem shown_use [i : H_l_shown T] {k n : Nat} {m : Ms} (h : MsT n m) (hn : n ≤ 1000) (q : Q (.val (.py (.str (mkS (msx m))))) st) : ClG (run T (k + 1)) "_law_shown" [.py (msD m)] st Q X := by
  refine clg_run i.eq_l_shown rfl ?_
  obtain ⟨x1, x2, x3, x4, x5, x6⟩ := msx_f h
  have hr := h.rk
  have ht := h.tl
  have hnw := h.nw
  obtain ⟨ws, r, tg, tx⟩ := m
  dsimp only at *
  show Go (dSs (run T k) B_l_shown) [.val (.py (.tuple [.str (mkS (gl 46 ws)), .int (r : Int), .str (mkS tg), .str (mkS tx)])), .un, .un, .un, .un, .un] st _ _
  unfold B_l_shown
  have ew : (if (PyData.str (mkS (gl 46 ws))).eqv (PyData.str (Str.ofString "")) = true then PyData.str (Str.ofString "*") else PyData.str (mkS (gl 46 ws))) = .str (mkS (nmT ws)) := by
    rw [eqv_mk _ (b := []) rfl]
    unfold nmT
    by_cases hw : ws = []
    · subst hw
      rfl
    · rw [decide_eq_false (nw_ne hnw hw), if_neg hw]
      rfl
  have et : (if (PyData.str (mkS tg)).eqv (PyData.str (Str.ofString "")) = true then PyData.str (Str.ofString "-") else PyData.str (mkS tg)) = .str (mkS (tgT tg)) := by
    rw [eqv_mk _ (b := []) rfl]
    unfold tgT
    by_cases hw : tg = []
    · subst hw
      rfl
    · rw [decide_eq_false hw, if_neg hw]
      rfl
  walk_at "gon"
  refine x_sub2 ew ?_
  walk_at "gon"
  refine x_strP (d := .int (r : Int)) ⟨by omega, by omega⟩ ?_
  walk_at "gon"
  refine x_sub2 et ?_
  rw [show spD (.int (r : Int)) = dg r from rfl]
  have es : (Str.ofString " ").length = 1 := by decide
  have l1 : (mkS (nmT ws)).length = (nmT ws).length := mk_len _
  have l2 : (mkS (dg r)).length = (dg r).length := mk_len _
  have l3 : (mkS (tgT tg)).length = (tgT tg).length := mk_len _
  have l4 : (mkS tx).length = tx.length := mk_len _
  walk_at "gon"
  all_goals first
    | exact fits_le (by simp only [lencat, l1, l2, l3, l4, es]; omega)
    | skip
  have e9 : mkS (nmT ws) ++ Str.ofString " " ++ mkS (dg r) ++ Str.ofString " " ++ mkS (tgT tg) ++ Str.ofString " " ++ mkS tx = mkS (msx (ws, r, tg, tx)) := by
    rw [show Str.ofString " " = mkS [32] by decide, catM, catM, catM, catM, catM, catM]
    unfold msx
    simp
  rw [e9]
  exact q
theorem ixK {α : Type} {xs : List α} {k : Nat} {x : α} (h : xs[k]? = some x) : ixD xs (k : Int) = some x := by
  unfold ixD L2.atI L2.ixN
  have := (List.getElem?_eq_some_iff.mp h).1
  rw [if_pos (by omega), if_pos (by omega)]
  show xs[((k : Nat) : Int).toNat]? = some x
  rw [Int.toNat_natCast]
  exact h
theorem cut3N {α : Type} {a b c : α} {r : List α} : cutL (a :: b :: c :: r) (some 3) none = r := by
  unfold cutL
  have e1 : HT.sIx (a :: b :: c :: r).length 0 (some 3) = 3 := by
    show min 3 (a :: b :: c :: r).length = 3
    simp only [List.length_cons]
    omega
  rw [e1, HT.sIx_none]
  simp
theorem sp_lenT (c : Nat) : ∀ l, (sp c l).length ≤ l.length + 1 ∧ ∀ p ∈ sp c l, p.length ≤ l.length
  | [] => ⟨Nat.le_refl _, fun p hp => by
    have hp : p ∈ [([] : List Nat)] := hp
    rw [List.mem_singleton.mp hp]
    exact Nat.le_refl _⟩
  | x :: r => by
    obtain ⟨h1, h2⟩ := sp_lenT c r
    unfold sp
    split
    · refine ⟨by rw [List.length_cons, List.length_cons]; omega, fun p hp => ?_⟩
      rcases List.mem_cons.mp hp with rfl | hp
      · exact Nat.zero_le _
      · have := h2 p hp
        rw [List.length_cons]
        omega
    · cases e : sp c r with
      | nil => exact absurd e (sp_ne c r)
      | cons a b =>
        rw [e] at h1 h2
        refine ⟨by rw [List.length_cons] at h1 ⊢; rw [List.length_cons]; omega, fun p hp => ?_⟩
        rw [List.length_cons]
        rcases List.mem_cons.mp hp with rfl | hp
        · have := h2 a List.mem_cons_self
          rw [List.length_cons]
          omega
        · have := h2 p (List.mem_cons_of_mem _ hp)
          omega
theorem spl_g2 {x : List Nat} (hl : x.length ≤ 1000000) : ((Str.ofString " ").length != 0 && fits ((mkS x).length + 2)) = true := by
  rw [show fits ((mkS x).length + 2) = true from fits_le (by rw [mk_len x]; omega)]
  rfl
theorem spl_m {m : Ms} {n : Nat} (h : MsT n m) : List.map PyData.str (Txt.split (mkS (msx m)) (Str.ofString " ")) = .str (mkS (nmT m.1)) :: .str (mkS (dg m.2.1)) :: .str (mkS (tgT m.2.2.1)) :: (((sp 32 m.2.2.2).map mkS).map PyData.str) := by
  obtain ⟨x1, x2, x3, x4, x5, x6⟩ := msx_f h
  rw [show Str.ofString " " = ⟨#[32]⟩ by decide, split_sp, cps_mk]
  unfold msx
  rw [sp_app, sp_app, sp_app]
  · rfl
  · exact fun z => by have := x6 32 z; omega
  · exact fun z => by have := (dg_f (a := m.2.1) (by have := h.rk; omega)).ch 32 z; omega
  · exact fun z => by have := nmT_ch h.nw z; omega
theorem th6_ok {m : Ms} (h : MsT 400 m) : Th6 (msD m) := by
  obtain ⟨t1, t2, t3, t4⟩ := tg_f h.tg
  intro xs e x hx
  unfold msD at e
  cases e
  simp at hx
  rcases hx with rfl | rfl | rfl | rfl
  · refine ⟨by rw [mk_len (gl 46 m.1)]; have := nw_len h.nw; omega, fun c hc => ?_⟩
    rw [cps_mk] at hc
    have := nw_char h.nw hc
    omega
  · trivial
  · refine ⟨by rw [mk_len m.2.2.1]; omega, fun c hc => ?_⟩
    rw [cps_mk] at hc
    have := inA_rng (t1 c hc)
    omega
  · refine ⟨by rw [mk_len m.2.2.2]; have := h.tl; omega, fun c hc => ?_⟩
    rw [cps_mk] at hc
    have := h.low c hc
    omega
def rmT : List S := [(.own 3 (.tup [(.call "name_in" [(.sub (.pk 1) (.ev (.cst (.int 0))))]), (.call "number_in" [(.sub (.pk 1) (.ev (.cst (.int 1))))]), (.var 2), (.met .join (.ev (.cst (.str " "))) [(.ev (.sli (.pk 1) (some (.ev (.cst (.int 3)))) none))])])), (.ex (.call "need" [(.conj (.call "is_message" [(.var 3)]) (.cmp .eq (.ev (.call "show_message" [(.var 3)])) (.pk 0)))])), (.retv 3)]
theorem b_rm : B_f_read_message = (.ex (.call "need" [(.isi (.pk 0) ["str"])])) :: (.own 1 (.met .split (.pk 0) [(.ev (.cst (.str " ")))])) :: (.ex (.call "need" [(.cmp .gt (.ev (.bi .len [(.pk 1)])) (.ev (.cst (.int 3))))])) :: (.own 2 (.sub (.pk 1) (.ev (.cst (.int 2))))) :: (.ife (.tcmp .eq (.pk 2) (.ev (.cst (.str "-")))) [(.own 2 (.cst (.str "")))] []) :: rmT := rfl
theorem read_message_use [i : H_f_read_message T] {k : Nat} {m : Ms} (h : MsT 400 m) (hg : ∀ c ∈ m.2.2.2, inG c = true) (q : Q (.val (.py (msD m))) st) : ClG (run T (k + 6)) "read_message" [.py (.str (mkS (msx m)))] st Q X := by
  refine clg_run (k := k + 5) i.eq_f_read_message rfl ?_
  obtain ⟨x1, x2, x3, x4, x5, x6⟩ := msx_f h
  have hmg := mg_ok h hg
  have hth := th6_ok h
  have hsp := spl_m h
  have hr := h.rk
  have ht := h.tl
  have hnw := h.nw
  have htg := (tg_f h.tg).1
  show Go (dSs (run T (k + 5)) B_f_read_message) [.val (.py (.str (mkS (msx m)))), .un, .un, .un] st _ _
  rw [b_rm]
  have hs : shp (.str (mkS (msx m))) = true := shp_strL fun c hc => by
    rw [cps_mk] at hc
    have := x1 c hc
    omega
  have he : (PyData.str (mkS (msx m))).eqv (.str (mkS (msx m))) = true := by simp [PyData.eqv]
  walk_at "gon"
  refine needE rfl ?_
  walk_at "gon"
  · exact spl_g2 (by omega)
  rw [hsp]
  have hcd : (PyData.str (mkS (tgT m.2.2.1))).eqv (.str (Str.ofString "-")) = decide (m.2.2.1 = []) := by
    rw [eqv_mk _ (b := [45]) (by decide +kernel)]
    unfold tgT
    by_cases hw : m.2.2.1 = []
    · rw [if_pos hw, decide_eq_true hw]
      rfl
    · rw [if_neg hw, decide_eq_false hw]
      refine decide_eq_false fun z => ?_
      have := inA_rng (htg 45 (by rw [z]; exact List.mem_cons_self))
      omega
  have hst : shp (.str (mkS (tgT m.2.2.1))) = true := shp_strL fun c hc => by
    rw [cps_mk] at hc
    have := x6 c hc
    omega
  have hln : 1 ≤ (sp 32 m.2.2.2).length := List.length_pos_iff.mpr (sp_ne 32 _)
  have key : Go (dSs (run T (k + 5)) rmT) [.val (.py (.str (mkS (msx m)))), .own (.lst ((PyData.str (mkS (nmT m.1)) :: PyData.str (mkS (dg m.2.1)) :: PyData.str (mkS (tgT m.2.2.1)) :: (((sp 32 m.2.2.2).map mkS).map PyData.str)).map Dv.py)), .val (.py (.str (mkS m.2.2.1))), .un] st (EnG Q) fun c p fr => X c p fr.st := by
    unfold rmT
    have hlm : ∀ p ∈ sp 32 m.2.2.2, p.length ≤ 1000 := fun p hp => by have := (sp_lenT 32 m.2.2.2).2 p hp; omega
    walk_at "gon"
    refine ex_ix ⟨_, ixK (k := 0) rfl, ?_⟩
    walk_at "gon"
    refine name_in_use (k := k + 2) hnw ?_
    walk_at "gon"
    refine ex_ix ⟨_, ixK (k := 1) rfl, ?_⟩
    walk_at "gon"
    refine number_in_use (k := k + 3) (by omega) ?_
    walk_at "gon"
    rw [cut3N]
    refine m_joinM (c := 32) (m := 1000) hlm (by have := (sp_lenT 32 m.2.2.2).1; have := Nat.mul_le_mul_right 1001 (show (sp 32 m.2.2.2).length ≤ 401 by omega); omega) ?_
    rw [gl_sp]
    walk_at "gon"
    refine is_message_use (d := msD m) hth ?_
    rw [hmg]
    walk_at "gon"
    refine show_message_use h (by decide) ?_
    walk_at "gon"
    refine needE he ?_
    walk_at "gon"
    exact q
  walk_at "gon"
  refine needE (decide_eq_true (by simp only [List.length_cons, List.length_map]; omega)) ?_
  walk_at "gon"
  refine ex_ix ⟨_, ixK (k := 2) rfl, ?_⟩
  by_cases hw : m.2.2.1 = []
  · rw [decide_eq_true hw] at hcd
    walk_at "gon"
    rw [show Str.ofString "" = mkS m.2.2.1 by rw [hw]; decide]
    exact key
  · rw [decide_eq_false hw] at hcd
    have e2 : tgT m.2.2.1 = m.2.2.1 := by
      unfold tgT
      rw [if_neg hw]
    walk_at "gon"
    rw [e2] at key ⊢
    exact key
theorem behind_changer_use [i : H_f_behind_changer T] {k n : Nat} {m : Ms} {w : List Nat} (h : MsT n m) (hn : n ≤ 1000) (hw : isWl w = true) (q : Q (.val (.py (msD (m.1, m.2.1, m.2.2.1, w ++ 32 :: m.2.2.2)))) st) : ClG (run T (k + 1)) "behind_changer" [.py (.tuple [.str "mark", .str (mkS w)]), .py (msD m)] st Q X := by
  refine clg_run i.eq_f_behind_changer rfl ?_
  have ht := h.tl
  have h6 := (isWl_iff.mp hw).2.1
  obtain ⟨ws, r, tg, tx⟩ := m
  dsimp only at *
  show Go (dSs (run T k) B_f_behind_changer) [.val (.py (.tuple [.str "mark", .str (mkS w)])), .val (.py (.tuple [.str (mkS (gl 46 ws)), .int (r : Int), .str (mkS tg), .str (mkS tx)])), .un, .un, .un, .un, .un, .un] st _ _
  unfold B_f_behind_changer
  have es : (Str.ofString " ").length = 1 := by decide
  have l1 : (mkS w).length = w.length := mk_len _
  have l4 : (mkS tx).length = tx.length := mk_len _
  walk_at "gon"
  all_goals first
    | exact fits_le (by simp only [lencat, l1, l4, es]; omega)
    | skip
  rw [show mkS w ++ Str.ofString " " ++ mkS tx = mkS (w ++ 32 :: tx) by
    rw [show Str.ofString " " = mkS [32] by decide, catM, catM]
    simp]
  exact q
theorem behind_clause_use [i : H_f_behind_clause T] {k n : Nat} {m : Ms} {w : List Nat} (h : MsT n m) (hn : n ≤ 1000) (hw : isWl w = true) (q : Q (.val (.py (msD (m.1, m.2.1, m.2.2.1, w ++ 32 :: m.2.2.2)))) st) : ClG (run T (k + 2)) "behind_clause" [.py (.tuple [.str "mark", .str (mkS w)]), .py (msD m)] st Q X := by
  refine clg_run i.eq_f_behind_clause rfl ?_
  show Go (dSs (run T (k + 1)) B_f_behind_clause) [.val (.py (.tuple [.str "mark", .str (mkS w)])), .val (.py (msD m))] st _ _
  unfold B_f_behind_clause
  walk_at "gon"
  refine ⟨true, by kernel_rfl, ?_⟩
  walk_at "gon"
  refine behind_changer_use h hn hw ?_
  walk_at "gon"
def mkN (w tx : List Nat) : Nat → List Nat
  | 0 => tx
  | i + 1 => w ++ 32 :: mkN w tx i
theorem mkN_f {w tx : List Nat} (h6 : w.length ≤ 6) : ∀ i, (mkN w tx i).length = tx.length + i * (w.length + 1) ∧ ∀ c ∈ mkN w tx i, c ∈ w ∨ c = 32 ∨ c ∈ tx
  | 0 => ⟨by rw [Nat.zero_mul]; rfl, fun c hc => .inr (.inr hc)⟩
  | i + 1 => by
    obtain ⟨h1, h2⟩ := mkN_f (w := w) (tx := tx) h6 i
    refine ⟨?_, fun c hc => ?_⟩
    · show (w ++ 32 :: mkN w tx i).length = _
      rw [List.length_append, List.length_cons, h1, Nat.succ_mul]
      omega
    · rcases List.mem_append.mp (show c ∈ w ++ 32 :: mkN w tx i from hc) with hc | hc
      · exact .inl hc
      · rcases List.mem_cons.mp hc with rfl | hc
        · exact .inr (.inl rfl)
        · exact h2 c hc
theorem mkN_ok {n i : Nat} {m : Ms} {w : List Nat} (h : MsT n m) (hw : isWl w = true) (hi : i ≤ 6) : MsT (n + 42) (m.1, m.2.1, m.2.2.1, mkN w m.2.2.2 i) := by
  obtain ⟨w1, w6, wa⟩ := isWl_iff.mp hw
  obtain ⟨h1, h2⟩ := mkN_f (w := w) (tx := m.2.2.2) w6 i
  refine ⟨h.nw, h.rk, h.tg, ?_, fun c hc => ?_⟩
  · have := h.tl
    have : i * (w.length + 1) ≤ 6 * 7 := Nat.mul_le_mul hi (by omega)
    show (mkN w m.2.2.2 i).length ≤ _
    omega
  · rcases h2 c hc with h3 | rfl | h3
    · have := inA_rng (wa c h3)
      omega
    · decide
    · exact h.low c h3
theorem sieved_use [i : H_f_sieved T] {k n : Nat} {m : Ms} {w : List Nat} {l : List D} (h : MsT n m) (hn : n ≤ 900) (hw : isWl w = true) (hl : l.length = 6) (hd : ∀ d ∈ l, d = .tuple [.str "mark", .str (mkS w)]) (q : Q (.val (.py (msD (m.1, m.2.1, m.2.2.1, mkN w m.2.2.2 6)))) st) : ClG (run T (k + 3)) "sieved" [.py (.tuple l), .py (msD m)] st Q X := by
  refine clg_run i.eq_f_sieved rfl ?_
  show Go (dSs (run T (k + 2)) B_f_sieved) [.val (.py (.tuple l)), .val (.py (msD m)), .un] st _ _
  unfold B_f_sieved
  walk_at "gon"
  refine g_s_for ?_
  walk_at "gon"
  refine ⟨fun i sl t => t = st ∧ ∃ z, sl = [.val (.py (.tuple l)), .val (.py (msD (m.1, m.2.1, m.2.2.1, mkN w m.2.2.2 i))), z], ⟨rfl, _, rfl⟩, fun i x sl2 st2 hx hi => ?_, fun sl2 st2 hi => ?_⟩
  · obtain ⟨rfl, z, rfl⟩ := hi
    have hi6 : i < l.length := (List.getElem?_eq_some_iff.mp hx).1
    have hx := hd x (List.mem_of_getElem? hx)
    subst hx
    have hm := mkN_ok h hw (i := i) (by omega)
    walk_at "gon"
    refine behind_clause_use hm (by omega) hw ?_
    walk_at "gon"
    refine ⟨false, rfl, (fun z => nomatch z), fun _ => ?_⟩
    walk_at "gon"
    exact ⟨_, rfl⟩
  · obtain ⟨rfl, z, rfl⟩ := hi
    rw [hl]
    walk_at "gon"
end
section
variable {T : Tb} {J : List OD → Prop} {X : Str → Option D → List OD → Prop} {st : List OD} {Q : RV → List OD → Prop}
def tgR : List S := [(.own 3 (.bin .add (.ev (.met .join (.ev (.cst (.str ""))) [(.ev (.comp (.one 4) (.walk (.pk 1)) (some (.tcmp .eq (.ev (.call "_law_draw" [(.var 0), (.cst (.int 2))])) (.ev (.cst (.int 0))))) (.var 4)))])) (.pk 2))), (.ret (.met .join (.ev (.cst (.str ""))) [(.ev (.comp (.one 4) (.ev (.cst (.str "abcdefghijklmnopqrstuvwxyz"))) (some (.tcmp .mem (.pk 4) (.pk 3))) (.var 4)))]))]
theorem b_tags : B_l_tags3 = (.own 2 (.cst (.str ""))) :: (.ife (.tcmp .eq (.ev (.call "_law_draw" [(.var 0), (.cst (.int 3))])) (.ev (.cst (.int 0)))) [(.own 2 (.met .join (.ev (.cst (.str ""))) [(.ev (.comp (.one 5) (.rng1 (.ev (.call "_law_draw" [(.var 0), (.cst (.int 9))]))) none (.call "_law_pick" [(.var 0), (.cst (.str "abcdefghijklmnopqrstuvwxyz"))])))]))] []) :: tgR := rfl
theorem tgR_go (Dr : DrawOk T J) {k : Nat} {ls more : List Nat} {s4 s5 : Slot} (hl : ls.length ≤ 26) (ha : ∀ c ∈ ls, inA c = true) (hm : more.length ≤ 20) (j : J st) (q : ∀ (tg : List Nat) st', (∃ p : Nat → Bool, tg = abc.cps.toList.filter p) → J st' → Q (.val (.py (.str (mkS tg)))) st') : Go (dSs (run T (k + 3)) tgR) [.val (.obj 0), .val (.py (.str (mkS ls))), .val (.py (.str (mkS more))), .un, s4, s5] st (EnG Q) fun c p fr => X c p fr.st := by
  unfold tgR
  walk_at "gon"
  refine g_e_compAf (fun d => ∃ c, inA c = true ∧ d = .str (mkS [c])) (fun _ => J) ?_
  walk_at "gon"
  refine ⟨by rw [List.length_map, cps_mk]; omega, j, fun i x st2 hx hj => ?_, fun ds st2 hl2 hd hj => ?_⟩
  · rw [List.getElem?_map, Option.map_eq_some_iff] at hx
    obtain ⟨c, hc, rfl⟩ := hx
    rw [cps_mk] at hc
    have hca := ha c (List.mem_of_getElem? hc)
    walk_at "gon"
    refine drT Dr (by omega) (by omega) hj fun d st3 d0 d1 j3 => ?_
    walk_at "gon"
    exact ⟨⟨c, hca, rfl⟩, j3⟩
  · obtain ⟨cs, rfl, hcs⟩ := lt_list hd
    rw [List.length_map, List.length_map, cps_mk] at hl2
    walk_at "gon"
    refine x_joinT (by omega) ?_
    have hf : fits ((mkS cs).length + (mkS more).length) = true := fits_le (by rw [mk_len cs, mk_len more]; omega)
    walk_at "gon"
    refine g_e_compF (fun c : Nat => PyData.str ⟨#[c]⟩) (fun c => inStr ⟨#[c]⟩ (mkS cs ++ mkS more)) (fun c => PyData.str ⟨#[c]⟩) ?_
    walk_at "gon"
    refine ⟨abc.cps.toList, rfl, by decide, fun y hy => ?_, ?_⟩
    · walk_at "gon"
      intro _
      walk_at "gon"
      all_goals exact ⟨rfl, rfl⟩
    · walk_at "gon"
      have hl3 : (abc.cps.toList.filter fun c => inStr ⟨#[c]⟩ (mkS cs ++ mkS more)).length ≤ 1000 := by
        have := List.length_filter_le (fun c => inStr ⟨#[c]⟩ (mkS cs ++ mkS more)) abc.cps.toList
        have e : abc.cps.toList.length = 26 := by decide +kernel
        omega
      refine x_joinT hl3 ?_
      walk_at "gon"
      exact q _ _ ⟨_, rfl⟩ hj
theorem tags_mk [i : H_l_tags3 T] (Dr : DrawOk T J) {k : Nat} {ls : List Nat} (hl : ls.length ≤ 26) (ha : ∀ c ∈ ls, inA c = true) (j : J st) (q : ∀ (tg : List Nat) st', (∃ p : Nat → Bool, tg = abc.cps.toList.filter p) → J st' → Q (.val (.py (.str (mkS tg)))) st') : ClG (run T (k + 4)) "_law_tags" [.obj 0, .py (.str (mkS ls))] st Q X := by
  refine clg_run i.eq_l_tags3 rfl ?_
  show Go (dSs (run T (k + 3)) B_l_tags3) [.val (.obj 0), .val (.py (.str (mkS ls))), .un, .un, .un, .un] st _ _
  rw [b_tags]
  walk_at "gon"
  refine drT Dr (by omega) (by omega) j fun d st2 d0 d1 j2 => ?_
  walk_at "gon"
  · refine g_e_compR (fun d => ∃ c, inA c = true ∧ d = .str (mkS [c])) (fun _ => J) ?_
    walk_at "gon"
    refine drT Dr (by omega) (by omega) j2 fun d st3 d0 d1 j3 => ?_
    walk_at "gon"
    refine ⟨fun i st4 hi hj => ?_, fun ds st4 hl2 hd hj => ?_⟩
    · walk_at "gon"
      refine pickT (s := azT) Dr (by decide) (by decide) hj fun c st5 hc j5 => ?_
      walk_at "gon"
      exact ⟨⟨c, az_in hc, rfl⟩, j5⟩
    · obtain ⟨cs, rfl, hcs⟩ := lt_list hd
      rw [List.length_map] at hl2
      walk_at "gon"
      refine x_joinT (by omega) ?_
      walk_at "gon"
      exact tgR_go Dr hl ha (by omega) hj q
  · exact tgR_go (more := []) Dr hl ha (by decide) j2 q
theorem mul_mem {s : Str} {n : Int} : ∀ c ∈ (Txt.mul s n).cps.toList, c ∈ s.cps.toList := by
  intro c hc
  unfold Txt.mul at hc
  split at hc
  · cases hc
  · split at hc
    · exact hc
    · have key : ∀ (l : List (Array Nat)) (acc : Array Nat), (∀ x ∈ l, ∀ c ∈ x.toList, c ∈ s.cps.toList) → (∀ c ∈ acc.toList, c ∈ s.cps.toList) → ∀ c ∈ (l.foldl (· ++ ·) acc).toList, c ∈ s.cps.toList := by
        intro l
        induction l with
        | nil => exact fun acc _ h => h
        | cons x r ih =>
          intro acc hl ha
          rw [List.foldl_cons]
          refine ih _ (fun y hy => hl y (List.mem_cons_of_mem _ hy)) fun c hc => ?_
          rw [Array.toList_append] at hc
          rcases List.mem_append.mp hc with hc | hc
          · exact ha c hc
          · exact hl x List.mem_cons_self c hc
      refine key _ _ (fun x hx c hc => ?_) (fun c hc => by cases hc) c hc
      rw [(List.mem_replicate.mp hx).2] at hc
      exact hc
abbrev sgT : Str := Str.ofString " !\"#$&'()*+,-./0123456789:;<=>?@ABCDEFGHIJKLMNOPQRSTUVWXYZ[\\]^_`abcdefghijklmnopqrstuvwxyz{|}~"
theorem sg_all : ∀ c ∈ sgT.cps.toList, inG c = true ∧ c < 200 := by decide +kernel
def GD (d : D) : Prop := ∃ c, c ∈ sgT.cps.toList ∧ d = .str (mkS [c])
theorem gd_list : ∀ {ds : List D}, (∀ d ∈ ds, GD d) → ∃ cs : List Nat, ds = cs.map (fun c => PyData.str ⟨#[c]⟩) ∧ ∀ c ∈ cs, c ∈ sgT.cps.toList
  | [], _ => ⟨[], rfl, fun _ h => nomatch h⟩
  | d :: ds, h => by
    obtain ⟨p, hp, rfl⟩ := h d List.mem_cons_self
    obtain ⟨ps, rfl, hps⟩ := gd_list (ds := ds) fun x hx => h x (List.mem_cons_of_mem _ hx)
    refine ⟨p :: ps, rfl, fun x hx => ?_⟩
    rcases List.mem_cons.mp hx with rfl | hx
    · exact hp
    · exact hps x hx
theorem text_mk [i : H_l_text3 T] (Dr : DrawOk T J) {k : Nat} (j : J st) (q : ∀ (tx : List Nat) st', tx.length ≤ 400 → (∀ c ∈ tx, c ∈ sgT.cps.toList) → J st' → Q (.val (.py (.str (mkS tx)))) st') : ClG (run T (k + 4)) "_law_text" [.obj 0] st Q X := by
  refine clg_run i.eq_l_text3 rfl ?_
  show Go (dSs (run T (k + 3)) B_l_text3) [.val (.obj 0), .un, .un, .un] st _ _
  unfold B_l_text3
  walk_at "gon"
  refine g_e_compR GD (fun _ => J) ?_
  walk_at "gon"
  refine drT Dr (by omega) (by omega) j fun d st3 d0 d1 j3 => ?_
  walk_at "gon"
  refine ⟨fun i st4 hi hj => ?_, fun ds st4 hl2 hd hj => ?_⟩
  · walk_at "gon"
    refine pickT (s := sgT) Dr (by decide) (by decide) hj fun c st5 hc j5 => ?_
    walk_at "gon"
    exact ⟨⟨c, hc, rfl⟩, j5⟩
  · obtain ⟨cs, rfl, hcs⟩ := gd_list hd
    rw [List.length_map] at hl2
    walk_at "gon"
    refine x_joinT (by omega) ?_
    walk_at "gon"
    refine drT Dr (by omega) (by omega) hj fun e st5 e0 e1 j5 => ?_
    have lcs : (mkS cs).length = cs.length := mk_len cs
    have hg : decide (-(2 ^ 63) ≤ (400 : Int) ∧ (400 : Int).toNat ≤ 16777216 ∧ (mkS cs).length * (400 : Int).toNat ≤ 16777216) = true := decide_eq_true ⟨by decide, by decide, by
      rw [lcs, show (400 : Int).toNat = 400 from rfl]
      omega⟩
    have hlow : lowS (mkS cs) := fun c hc => by
      rw [cps_mk] at hc
      have := (sg_all c (hcs c hc)).2
      omega
    have hml := (low_mul (n := 8) (j := 400) hlow (by rw [lcs]; omega)).1
    have hf : fits (Txt.mul (mkS cs) 400).length = true := fits_le (by
      have e : (400 : Int).toNat = 400 := rfl
      rw [e] at hml
      omega)
    walk_at "gon"
    · rw [show cutL (Txt.mul (mkS cs) 400).cps.toList none (some 400) = (Txt.mul (mkS cs) 400).cps.toList.take 400 from cut_to (k := 400)]
      refine q _ _ (by rw [List.length_take]; omega) (fun c hc => ?_) j5
      have := mul_mem c (List.mem_of_mem_take hc)
      rw [cps_mk] at this
      exact hcs c this
    all_goals exact q cs _ (by omega) hcs j5
end
end Nw

namespace Lw
open PySem Nw
instance : H_f_show_name (tabOf des) := { eq_f_show_name := rfl }
instance : H_f_show_tags (tabOf des) := { eq_f_show_tags := rfl }
instance : H_f_show_message (tabOf des) := { eq_f_show_message := rfl }
instance : H_f_is_word (tabOf des) := { eq_f_is_word := rfl }
instance : H_f_words_of (tabOf des) := { eq_f_words_of := rfl }
instance : H_f_is_name (tabOf des) := { eq_f_is_name := rfl }
instance : H_f_elder_of (tabOf des) := { eq_f_elder_of := rfl }
instance : H_f_line_of (tabOf des) := { eq_f_line_of := rfl }
instance : H_f_is_under (tabOf des) := { eq_f_is_under := rfl }
instance : H_f_is_rank (tabOf des) := { eq_f_is_rank := rfl }
instance : H_f_are_letters (tabOf des) := { eq_f_are_letters := rfl }
instance : H_f_tags_of (tabOf des) := { eq_f_tags_of := rfl }
instance : H_f_is_text (tabOf des) := { eq_f_is_text := rfl }
instance : H_f_is_message (tabOf des) := { eq_f_is_message := rfl }
instance : H_f_holds (tabOf des) := { eq_f_holds := rfl }
instance : H_f_behind_changer (tabOf des) := { eq_f_behind_changer := rfl }
instance : H_f_behind_clause (tabOf des) := { eq_f_behind_clause := rfl }
instance : H_f_sieved (tabOf des) := { eq_f_sieved := rfl }
instance : H_f_need (tabOf des) := { eq_f_need := rfl }
instance : H_f_number_in (tabOf des) := { eq_f_number_in := rfl }
instance : H_f_name_in (tabOf des) := { eq_f_name_in := rfl }
instance : H_f_read_message (tabOf des) := { eq_f_read_message := rfl }
instance : H_l_pen2 (tabOf des) := { eq_l_pen2 := rfl }
instance : H_l_draw2 (tabOf des) := { eq_l_draw2 := rfl }
instance : H_l_pick (tabOf des) := { eq_l_pick := rfl }
instance : H_l_word2 (tabOf des) := { eq_l_word2 := rfl }
instance : H_l_pool (tabOf des) := { eq_l_pool := rfl }
instance : H_l_name2 (tabOf des) := { eq_l_name2 := rfl }
instance : H_l_tags3 (tabOf des) := { eq_l_tags3 := rfl }
instance : H_l_text3 (tabOf des) := { eq_l_text3 := rfl }
instance : H_l_like (tabOf des) := { eq_l_like := rfl }
instance : H_l_shown (tabOf des) := { eq_l_shown := rfl }
end Lw

set_option autoImplicit false
set_option maxRecDepth 100000
set_option maxHeartbeats 1000000
namespace Lw
open PySem Nw
theorem dr73 (ns : List Int) : DrawOk (tabOf des) (Pd ns []) := ⟨fun h0 h1 p => drawD_ok rfl h0 h1 p⟩
theorem pen_dic {C : Call} {X : XF} {p : D} {st : List OD} {Q : RV → List Slot → List OD → Prop} (q : Q (.new (.dic [(.str "cells", .py p), (.str "at", .py (.int 0)), (.str "left", .py (.int 0))])) [.val (.py p)] st) : Go (dE C (.dic [.cst (.str "cells"), .var 0, .cst (.str "at"), .cst (.int 0), .cst (.str "left"), .cst (.int 0)])) [.val (.py p)] st Q X := by
  constructor
  have e : dE C (.dic [.cst (.str "cells"), .var 0, .cst (.str "at"), .cst (.int 0), .cst (.str "left"), .cst (.int 0)]) ⟨[.val (.py p)], st⟩ = .ok (.new (.dic [(.str "cells", .py p), (.str "at", .py (.int 0)), (.str "left", .py (.int 0))])) ⟨[.val (.py p)], st⟩ := by
    show (if okSl [Slot.val (.py p)] [Slot.val (.py p)] then (.ok (.new (.dic [(.str "cells", .py p), (.str "at", .py (.int 0)), (.str "left", .py (.int 0))])) ⟨[.val (.py p)], st⟩ : Res RV) else .stuck) = _
    rw [okSl_self]
    rfl
  simp only [Wp, e]
  exact q
theorem x_mulL {a : List D} {k : Int} {P : RV → Prop} (g : decide (-(2 ^ 63) ≤ k ∧ k < 2 ^ 63 ∧ a.length * k.toNat ≤ 16777216) = true) (p : P (.new (.lst ((List.replicate k.toNat a).flatten.map .py)))) : ∃ r, opB .mul (.list a) (.int k) = some r ∧ P r := ex_guard g p
theorem x_mulT {a : List D} {k : Int} {P : RV → Prop} (g : (decide (-1000 ≤ k ∧ k ≤ 1000 ∧ a.length ≤ 1000) && !a.isEmpty) = true) (p : P (.val (.py (.tuple (List.replicate k.toNat a).flatten)))) : ∃ r, opB .mul (.tuple a) (.int k) = some r ∧ P r := ex_guard g p
/-- a message that is asked -/
def MQ (m : Ms) : Prop := MsT 400 m ∧ ∀ c ∈ m.2.2.2, inG c = true
def m0s : List Ms := [([], 0, [], []), ([[122, 122, 122, 122, 122, 122], [122, 122, 122, 122, 122, 122], [122, 122, 122, 122, 122, 122], [122, 122, 122, 122, 122, 122]], 99, abc.cps.toList, List.replicate 400 126), ([[97]], 10, [122], List.replicate 400 32), ([[98]], 9, [], [32, 32, 97, 32])]
theorem mq_lk {m : Ms} (h : MQ m) : Lk 9 (msD m) := by
  obtain ⟨t1, t2, t3, t4⟩ := tg_f h.1.tg
  refine .tup (by show 4 ≤ 1000; decide) fun d hd => ?_
  simp at hd
  rcases hd with rfl | rfl | rfl | rfl
  · exact lk_m fun c hc => by have := nw_char h.1.nw hc; omega
  · exact .int
  · exact lk_m fun c hc => by have := inA_rng (t1 c hc); omega
  · exact lk_m h.1.low
theorem m0_ok : ∀ m ∈ m0s, MQ m := by
  intro m hm
  simp only [m0s, List.mem_cons, List.not_mem_nil, or_false] at hm
  have nil : Nw4 [] := ⟨by decide, fun _ h => nomatch h⟩
  rcases hm with rfl | rfl | rfl | rfl
  · exact ⟨⟨nil, by decide, ⟨fun _ => false, by decide +kernel⟩, by decide, by simp⟩, by simp⟩
  · refine ⟨⟨⟨by decide, by decide +kernel⟩, by decide, ⟨fun _ => true, by decide +kernel⟩, by simp, fun c hc => ?_⟩, fun c hc => ?_⟩
    · rw [(List.mem_replicate.mp hc).2]
      decide
    · rw [(List.mem_replicate.mp hc).2]
      decide +kernel
  · refine ⟨⟨⟨by decide, by decide +kernel⟩, by decide, ⟨fun c => c == 122, by decide +kernel⟩, by simp, fun c hc => ?_⟩, fun c hc => ?_⟩
    · rw [(List.mem_replicate.mp hc).2]
      decide
    · rw [(List.mem_replicate.mp hc).2]
      decide +kernel
  · exact ⟨⟨⟨by decide, by decide +kernel⟩, by decide, ⟨fun _ => false, by decide +kernel⟩, by decide, by decide⟩, by decide +kernel⟩
theorem msx_shp {n : Nat} {m : Ms} (h : MsT n m) : shp (.str (mkS (msx m))) = true := shp_strL fun c hc => by
  rw [cps_mk] at hc
  have := (msx_f h).1 c hc
  omega
theorem law_ok (ns : List Int) (k : Nat) : ClG (run (tabOf des) (k + 60)) "law" [.py (.list (ns.map .int))] [] (fun r _ => r = .val (.py (.bool true))) NoX := by
  refine clg_run (F := e_f_law.fnv) rfl rfl ?_
  show Go (dSs (run (tabOf des) (k + 59)) b_f_law) [.val (.py (.list (ns.map .int))), .un, .un, .un, .un, .un, .un, .un, .un, .un, .un] [] _ _
  unfold b_f_law
  iterate 8 all_goals (try walk_at "nw")
  refine clg_run (F := F_l_pen2) rfl rfl ?_
  show Go (dSs (run (tabOf des) (k + 58)) B_l_pen2) [.val (.py (.list (ns.map .int)))] _ _ _
  unfold B_l_pen2
  iterate 30 all_goals (try walk_at "nw")
  refine pen_dic ?_
  iterate 30 all_goals (try walk_at "nw")
  simp only [List.length_nil, List.nil_append]
  show ClG _ _ [.obj 0] [penD ns 0 0] _ _
  have Dr := dr73 ns
  have j0 : Pd ns [] [penD ns 0 0] := ⟨0, 0, by decide, by decide, rfl⟩
  refine pool_mk Dr j0 fun ps st1 h4 hp j1 => ?_
  walk_at "gon"
  refine x_mulL (by decide +kernel) ?_
  walk_at "gon"
  have ez : (List.replicate (Int.toNat 4) [PyData.str (Str.ofString "zzzzzz")]).flatten = ((List.replicate 4 [122, 122, 122, 122, 122, 122]).map mkS).map PyData.str := by kernel_rfl
  rw [show (List.replicate (Int.toNat 4) ((fun x => PyData.str (Str.ofString "zzzzzz") :: x) [])).flatten = ((List.replicate 4 [122, 122, 122, 122, 122, 122]).map mkS).map PyData.str from ez]
  refine m_joinM (c := 46) (m := 6) (fun x hx => by rw [(List.mem_replicate.mp hx).2]; decide) (by decide) ?_
  walk_at "gon"
  have em : [Dv.py (PyData.tuple [PyData.str (Str.ofString ""), PyData.int 0, PyData.str (Str.ofString ""), PyData.str (Str.ofString "")]), Dv.py (PyData.tuple [PyData.str (mkS (gl 46 (List.replicate 4 [122, 122, 122, 122, 122, 122]))), PyData.int 99, PyData.str (Str.ofString "abcdefghijklmnopqrstuvwxyz"), PyData.str (Txt.mul (Str.ofString "~") 400)]), Dv.py (PyData.tuple [PyData.str (Str.ofString "a"), PyData.int 10, PyData.str (Str.ofString "z"), PyData.str (Txt.mul (Str.ofString " ") 400)]), Dv.py (PyData.tuple [PyData.str (Str.ofString "b"), PyData.int 9, PyData.str (Str.ofString ""), PyData.str (Str.ofString "  a ")])] = (m0s.map msD).map Dv.py := by kernel_rfl
  rw [em]
  generalize gl 46 (List.replicate 4 [122, 122, 122, 122, 122, 122]) = nm
  refine g_s_for ?_
  walk_at "gon"
  refine ⟨fun i sl t => ∃ (ms : List Ms) (s2 s6 s8 : Nw.Slot), (∀ m ∈ ms, MQ m) ∧ ms.length ≤ 4 + i ∧ (s2 = .own (.lst (ps.map .py)) ∨ s2 = .val (.py (.list ps))) ∧ sl = [.val (.py (.list (ns.map .int))), .val (.obj 0), s2, .val (.py (.str azT)), .val (.py (.str (mkS nm))), .own (.lst ((ms.map msD).map .py)), s6, .un, s8, .un, .un] ∧ Pd ns [] t, ⟨m0s, _, _, _, m0_ok, by decide, .inl rfl, rfl, j1⟩, fun i x sl2 st2 hx hi => ?_, fun sl2 st2 hi => ?_⟩
  · obtain ⟨ms, s2, s6, s8, g1, g2, hs2, rfl, j2⟩ := hi
    have hi6 : i < 8 := (List.getElem?_eq_some_iff.mp hx).1
    have hfin : ∀ (ws : List (List Nat)) (r : Nat) (tg tx : List Nat) (t : List OD) (x6 x8 : Nw.Slot), Nw4 ws → r ≤ 99 → (∃ p : Nat → Bool, tg = abc.cps.toList.filter p) → tx.length ≤ 400 → (∀ c ∈ tx, c ∈ sgT.cps.toList) → Pd ns [] t → ∃ (ms' : List Ms) (s2' s6' s8' : Nw.Slot), (∀ m ∈ ms', MQ m) ∧ ms'.length ≤ 4 + (i + 1) ∧ (s2' = .own (.lst (ps.map .py)) ∨ s2' = .val (.py (.list ps))) ∧ [.val (.py (.list (ns.map .int))), .val (.obj 0), .val (.py (.list ps)), .val (.py (.str azT)), .val (.py (.str (mkS nm))), .own (.lst ((ms.map msD ++ [msD (ws, r, tg, tx)]).map .py)), x6, .un, x8, .un, .un] = [.val (.py (.list (ns.map .int))), .val (.obj 0), s2', .val (.py (.str azT)), .val (.py (.str (mkS nm))), .own (.lst ((ms'.map msD).map .py)), s6', .un, s8', .un, .un] ∧ Pd ns [] t := fun ws r tg tx t x6 x8 q1 q2 q3 q4 q5 q6 => by
      refine ⟨ms ++ [(ws, r, tg, tx)], _, x6, x8, fun m hm => ?_, by rw [List.length_append, List.length_singleton]; omega, .inr rfl, by simp, q6⟩
      rcases List.mem_append.mp hm with hm | hm
      · exact g1 m hm
      · rw [List.mem_singleton.mp hm]
        exact ⟨⟨q1, q2, q3, q4, fun c hc => (sg_all c (q5 c hc)).2⟩, fun c hc => (sg_all c (q5 c hc)).1⟩
    rcases hs2 with rfl | rfl
    all_goals
      walk_at "gon"
      refine pickT (s := azT) Dr (by decide) (by decide) j2 fun c st3 hc j3 => ?_
      walk_at "gon"
      refine tags_mk Dr (ls := [c]) (by simp) (fun x hx => by rw [List.mem_singleton.mp hx]; exact az_in hc) j3 fun t1 st4 ht1 j4 => ?_
      walk_at "gon"
      refine tags_mk Dr (ls := abc.cps.toList) (by decide) (fun x hx => (inA_iff x).mpr hx) j4 fun t2 st5 ht2 j5 => ?_
      walk_at "gon"
      refine drT Dr (by omega) (by omega) j5 fun d st6 d0 d1 j6 => ?_
      walk_at "gon"
      obtain ⟨tg, htg, htg2⟩ : ∃ tg : List Nat, opSub (.list [.str (mkS t1), .str (mkS t2)]) (.int d) = some (.str (mkS tg)) ∧ ∃ p : Nat → Bool, tg = abc.cps.toList.filter p := by
        rcases (show d = 0 ∨ d = 1 by omega) with rfl | rfl
        · exact ⟨t1, rfl, ht1⟩
        · exact ⟨t2, rfl, ht2⟩
      refine ⟨_, htg, ?_⟩
      walk_at "gon"
      refine name_mk Dr h4 hp j6 fun ws st7 hw j7 => ?_
      walk_at "gon"
      refine drT Dr (by omega) (by omega) j7 fun r st8 r0 r1 j8 => ?_
      obtain ⟨r, rfl⟩ : ∃ n : Nat, r = (n : Int) := ⟨r.toNat, by omega⟩
      walk_at "gon"
      refine text_mk Dr j8 fun tx st9 htx htx2 j9 => ?_
      walk_at "gon"
      refine ⟨by rw [List.length_map]; omega, ?_⟩
      walk_at "gon"
      exact hfin ws r tg tx _ _ _ hw (by omega) htg2 htx htx2 j9
  · obtain ⟨ms, s2, s6, s8, g1, g2, hs2, rfl, j2⟩ := hi
    have g2 : ms.length ≤ 12 := Nat.le_trans g2 (by decide)
    have hf : fits ((ms.map msD).length + (ms.map msD).reverse.length) = true := fits_le (by rw [List.length_reverse, List.length_map]; omega)
    have hall : ∀ y ∈ ms.map msD ++ (ms.map msD).reverse, ∃ m, y = msD m ∧ MQ m := fun y hy => by
      have hy : y ∈ ms.map msD := (List.mem_append.mp hy).elim id fun h => List.mem_reverse.mp h
      obtain ⟨m, hm, rfl⟩ := List.mem_map.mp hy
      exact ⟨m, rfl, g1 m hm⟩
    walk_at "gon"
    refine g_s_for ?_
    walk_at "gon"
    refine ⟨fun i sl t => t = st2 ∧ ∃ (s7 s9 : Nw.Slot), sl = [.val (.py (.list (ns.map .int))), .val (.obj 0), s2, .val (.py (.str azT)), .val (.py (.str (mkS nm))), .own (.lst ((ms.map msD).map .py)), s6, s7, s8, s9, .un], ⟨rfl, _, _, rfl⟩, fun i x sl2 st3 hx hi => ?_, fun sl2 st3 hi => ?_⟩
    · obtain ⟨rfl, s7, s9, rfl⟩ := hi
      obtain ⟨m, rfl, hm⟩ := hall x (List.mem_of_getElem? hx)
      have hlk := mq_lk hm
      have hs := msx_shp hm.1
      have hne : (!(PyData.str (mkS (msx m))).eqv (.str (mkS (msx m)))) = false := by simp [PyData.eqv]
      walk_at "gon"
      refine show_message_use (k := k + 57) hm.1 (by decide) ?_
      walk_at "gon"
      refine shown_use (k := k + 58) hm.1 (by decide) ?_
      walk_at "gon"
      refine read_message_use (k := k + 53) hm.1 hm.2 ?_
      walk_at "gon"
      refine like_use 9 (k + 50) hlk ?_
      walk_at "gon"
      exact ⟨_, _, rfl⟩
    · obtain ⟨rfl, s7, s9, rfl⟩ := hi
      walk_at "gon"
      refine g_s_for ?_
      walk_at "gon"
      refine ⟨fun i sl t => ∃ (s2 s7 s10 : Nw.Slot), (s2 = .own (.lst (ps.map .py)) ∨ s2 = .val (.py (.list ps))) ∧ sl = [.val (.py (.list (ns.map .int))), .val (.obj 0), s2, .val (.py (.str azT)), .val (.py (.str (mkS nm))), .val (.py (.list (ms.map msD))), s6, s7, s8, s9, s10] ∧ Pd ns [] t, ⟨_, _, _, hs2, rfl, j2⟩, fun i x sl2 st4 hx hi => ?_, fun sl2 st4 hi => ?_⟩
      · obtain ⟨s2, s7, s10, hs2, rfl, j4⟩ := hi
        rw [List.getElem?_map, Option.map_eq_some_iff] at hx
        obtain ⟨m, hm, rfl⟩ := hx
        have hm := g1 m (List.mem_of_getElem? hm)
        rcases hs2 with rfl | rfl
        all_goals
          walk_at "gon"
          refine pickL Dr WD (by intro e; rw [e] at h4; cases h4) (by omega) hp j4 fun d st5 hd j5 => ?_
          obtain ⟨w, hw, rfl⟩ := hd
          walk_at "gon"
          refine x_mulT (by simp) ?_
          walk_at "gon"
          refine sieved_use (k := k + 56) (n := 400) (l := List.replicate 6 (.tuple [.str "mark", .str (mkS w)])) hm.1 (by decide) hw (by simp) (fun d hd => (List.mem_replicate.mp hd).2) ?_
          have hmk := mkN_ok hm.1 hw (i := 6) (Nat.le_refl _)
          have hs := msx_shp hmk
          have hne : (!(PyData.str (mkS (msx (m.1, m.2.1, m.2.2.1, mkN w m.2.2.2 6)))).eqv (.str (mkS (msx (m.1, m.2.1, m.2.2.1, mkN w m.2.2.2 6))))) = false := by simp [PyData.eqv]
          generalize (m.1, m.2.1, m.2.2.1, mkN w m.2.2.2 6) = m2 at *
          walk_at "gon"
          refine show_message_use (k := k + 57) hmk (by decide) ?_
          walk_at "gon"
          refine shown_use (k := k + 58) hmk (by decide) ?_
          walk_at "gon"
          exact ⟨_, _, _, .inr rfl, rfl, j5⟩
      · obtain ⟨s2, s7, s10, hs2, rfl, j4⟩ := hi
        walk_at "gon"
def deep : Nat := 60
theorem law_true (ns : List Int) (_ : ns.length ≤ 63) : ∃ fr, run (tabOf des) deep "law" [.py (.list (ns.map .int))] [] = .ok (.val (.py (.bool true))) fr := law_of (law_ok ns 0)
end Lw

set_option maxHeartbeats 0
open PySem PySem.W PySem.Calls PyProof.Rows
theorem PySem.Challenge.cw_noticewood_k73_messages_written_holds : PySem.Challenge.rw_noticewood_k73_messages_written.Holds := by
  w_on; o_law
  refine HandSHeadRun.head_any (r := OpenLaw.row PySem.Challenge.rw_noticewood_k73_messages_written) (q := view (OpenLaw.row PySem.Challenge.rw_noticewood_k73_messages_written).prog [53]) (H := Lw.hk) (ob := Lw.ob) (M := 3000) (loose := Lw.nm) (d := HandSHeadRun.topDef (OpenLaw.row PySem.Challenge.rw_noticewood_k73_messages_written).prog 53) (kwd := []) Lw.ob_eq
    (by kernel_rfl) (fun s => by kernel_rfl) Lw.top_run (by kernel_rfl) (by kernel_rfl) (by kernel_rfl) (by rfl) (by first | assumption | decide +kernel) (by decide +kernel) ⟨rfl, rfl, rfl, rfl, rfl, by decide +kernel⟩ ?hw ?hc
  case hw => w_witness2
  case hc =>
    refine Nw.walk_nw (l := PySem.Challenge.rw_noticewood_k73_messages_written) (n := 63) (k := Lw.deep) (x := "script") (gks := Lw.gks) (refs := Lw.refs) (des := Lw.des) rfl (by decide) (by kernel_rfl) ⟨rfl, by decide, by decide⟩ (by kernel_rfl) (by decide +kernel) Lw.all_ok Lw.tot (by kernel_rfl) (fun e he => ?_) Lw.law_true
    rw [show (Lw.des.find? fun e => e.x == ("law" : PySem.Str)) = some Lw.e_f_law by kernel_rfl] at he
    cases he
    rfl

