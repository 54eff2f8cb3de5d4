import PyProof.Rows.All
import PySem.Challenge.RW_surekeys_k55_rules_in_tables_of_many_row
import KE.KStateDown
import Lean
import Wide.All
import OpenK.AllK
import Wide.FinOn
import HandS.ForMost
import HandS.ForExc
import HandS.TupAny
import HandS.TupMul
import HandS.TupLe
import HandS.Deep
import HandS.Wide
import HandS.SortInts
import HandS.Strs
import HandS.SetFor
import HandS.Style
import HandS.Flow
import HandS.Zip
import HandS.TryMany
import HandS.TryOnly
import HandS.Rev
import HandS.IsInst
import HandS.Head0
import HandS.Head1
import HandS.Head2
import HandS.HeadEnd
import HandS.HeadHook1
import HandS.HeadHook2
import KE.GoesMore
import HandS.Star
import HandS.TupSets
import HandS.Conv
import KE.KRevSl
import HandS.HeadHook3
import KE.GoesZip
import HandS.ExcIs
import HandS.ExcValue
set_option Elab.async false
set_option linter.all false
set_option maxRecDepth 100000
set_option maxHeartbeats 0
/-! MPA: a small language without places (E, S), its values and its meaning (den, denS, callN). -/
namespace MP
open PySem
/-- a value: plain data, or a changing object by its number -/
inductive W where
  | d (x : PyData)
  | ref (n : Nat)
  | scr (l : List Int)
  | exn (c : String)
/-- what stands at a number -/
inductive Cell where
  | dead
  | lst (l : List PyData)
  | dct (l : List (PyData × PyData))
  | rfs (ns : List Nat)
  | obj (c : String) (fs : List (String × W))
abbrev Mem := List Cell
/-- no numbers stand in it -/
def Cell.pl : Cell → Bool
  | .rfs _ => false
  | .obj _ _ => false
  | _ => true
/-- what m0 holds numbers in stands in m as it was -/
def keepsR (m0 m : Mem) : Prop := ∀ i, i < m0.length → m[i]? = m0[i]? ∨ ∃ c, m[i]? = some c ∧ c.pl = true
/-- .. and the rest falls away -/
def cutR (m0 m : Mem) (P : Mem → Prop) : Prop := keepsR m0 m ∧ P (m.take m0.length)
theorem keepsR_id {m : Mem} : keepsR m m := fun _ _ => .inl rfl
theorem cutR_id {m : Mem} {P : Mem → Prop} : cutR m m P = P m := by
  unfold cutR
  rw [List.take_length]
  exact propext ⟨fun h => h.2, fun h => ⟨keepsR_id, h⟩⟩
/-- the list's items by their numbers -/
def rowsAt (m : Mem) : List Nat → Option (List PyData)
  | [] => some []
  | n :: r => match m[n]? with
    | some (.lst l) => (rowsAt m r).map (.list l :: ·)
    | _ => none
def deadAll (m : Mem) : List Nat → Mem
  | [] => m
  | n :: r => deadAll (m.set n .dead) r
/-- the names of a def by slot -/
abbrev Vr := List (Option W)
/-- an own error: its class, what it was made with (if it keeps it) -/
structure Xn where
  c : String
  a : Option W
inductive Res (α : Type) where
  | ok (a : α) (m : Mem)
  | exc (x : Xn) (m : Mem)
  | no
inductive RS where
  | nx (v : Vr) (m : Mem)
  | rt (w : W) (m : Mem)
  | bk (v : Vr) (m : Mem)
  | ct (v : Vr) (m : Mem)
  | exc (x : Xn) (v : Vr) (m : Mem)
  | no
def Res.bind {α β : Type} (r : Res α) (f : α → Mem → Res β) : Res β :=
  match r with
  | .ok a m => f a m
  | .exc x m => .exc x m
  | .no => .no
def Res.toS {α : Type} (r : Res α) (v : Vr) (f : α → Mem → RS) : RS :=
  match r with
  | .ok a m => f a m
  | .exc x m => .exc x v m
  | .no => .no
def optR {α : Type} (o : Option α) (m : Mem) : Res α :=
  match o with
  | some a => .ok a m
  | none => .no
inductive Op where
  | add | sub | mul | mod | fdiv | pow
  deriving DecidableEq
inductive Cm where
  | eq | ne | lt | le | gt | ge | isin | nin
  deriving DecidableEq
/-- built-in functions of data -/
inductive Bi where
  | len | isInt | isBool | isTup | isStr | isLst | all | any | sum | max1 | min1 | max2 | min2 | abs | tuple | list | int | bool | repr | sorted | srtset | lenset
  deriving DecidableEq
/-- methods of data -/
inductive Me where
  | count | index
  deriving DecidableEq
/-- what is compared by is -/
inductive Sg where
  | none | tt | ff
  deriving DecidableEq
/-- targets -/
inductive Tg where
  | nm (i : Nat)
  | tup (t : Tg)
  | nil
  | cons (t u : Tg)
  deriving DecidableEq
inductive E where
  | var (i : Nat)
  | lit (x : PyData)
  | nil
  | cons (e es : E)
  | star (e es : E)
  | tup (es : E)
  | lst (es : E)
  | bin (o : Op) (a b : E)
  | neg (a : E)
  | cmp (o : Cm) (a b : E)
  | chain (o p : Cm) (a b c : E)
  | isc (s : Sg) (n : Bool) (a : E)
  | not (a : E)
  | and (a b : E)
  | or (a b : E)
  | ite (c a b : E)
  | call (f : String) (es : E)
  | bi (b : Bi) (es : E)
  | me (m : Me) (o es : E)
  | sub (a i : E)
  | slc (a lo hi : E)
  | frz (a : E)
  | rng1 (a : E)
  | rng2 (a b : E)
  | enum (a : E)
  | zip (a b : E)
  | rev (a : E)
  | itv (a : E)
  | tupR (a : E)
  | rvt (a : E)
  | isx (c : String) (a : E)
  | tget (nm : String) (l : List (String × Int)) (d : Int) (a : E)
  | subr (a i : E)
  | comp (g : Tg) (it ifs elt : E) (vs : List Nat)
  | comp2 (g : Tg) (it ifs : E) (g1 : Tg) (it1 ifs1 elt : E) (vs vs1 : List Nat)
inductive S where
  | skip
  | seq (s t : S)
  | ex (e : E)
  | set (i : Nat) (e : E)
  | new (i : Nat) (e : E)
  | par (i j : Nat) (p q : Bool) (a b : E)
  | par3 (i j k : Nat) (p q r : Bool) (a b c : E)
  | tgt (g : Tg) (e : E)
  | ite (c : E) (s t : S)
  | ret (e : E)
  | retn (e : E)
  | for_ (g : Tg) (it : E) (b : S)
  | brk
  | cnt
  | app (i : Nat) (e : E)
  | ext (i : Nat) (e : E)
  | rvs (i : Nat)
  | six (i : Nat) (k e : E)
  | nrw (i : Nat) (g : Tg) (it ifs elt : E) (vs : List Nat)
  | st2 (a k e : E)
  | stl (a k e : E)
  | raise (c : String)
  | tryx (b h : S)
  | tryas (b : S) (i j : Nat)
  | bad
  | hnd (c : String) (h r : S)
structure Fn where
  ar : Nat
  nv : Nat
  keep : Bool
  body : S
abbrev Tab := List (String × Fn)
/-- the plain data that a value is just now -/
def vw (m : Mem) : W → Option PyData
  | .d x => some x
  | .ref n => match m[n]? with
    | some (.lst l) => some (.list l)
    | _ => none
  | .scr _ => none
  | .exn _ => none
def small (i : Int) : Bool := decide (-(2 ^ 64) < i) && decide (i < 2 ^ 64)
def binF : Op → PyData → PyData → Option PyData
  | .add, .int a, .int b => some (.int (a + b))
  | .add, .tuple a, .tuple b => if a.length + b.length ≤ sizeLine then some (.tuple (a ++ b)) else none
  | .add, .list a, .list b => if a.length + b.length ≤ sizeLine then some (.list (a ++ b)) else none
  | .add, .str a, .str b => if a.length + b.length ≤ sizeLine then some (.str (a ++ b)) else none
  | .sub, .int a, .int b => some (.int (a - b))
  | .mul, .int a, .int b => if small a || small b then some (.int (a * b)) else none
  | .mul, .list a, .int k => if -1000 ≤ k ∧ k ≤ 1000 ∧ a.length ≤ 1000 then some (.list (List.replicate k.toNat a).flatten) else none
  | .mul, .tuple a, .int k => if 0 ≤ k ∧ k ≤ 1000 ∧ a.length ≤ 1000 then some (.tuple (List.replicate k.toNat a).flatten) else none
  | .mod, .int a, .int b => if 0 < b then some (.int (a % b)) else none
  | .fdiv, .int a, .int b => if 0 < b ∧ b < 1073741824 then some (.int (a / b)) else none
  | .pow, .int a, .int b => if 0 ≤ b ∧ b ≤ 1000000 ∧ small a then some (.int (a ^ b.toNat)) else none
  | _, _, _ => none
def deepOk (a b : PyData) : Prop := a.depth ≤ 64 ∧ b.depth ≤ 64
instance (a b : PyData) : Decidable (deepOk a b) := by unfold deepOk; infer_instance
def memD (x : PyData) (l : List PyData) : Bool := l.any fun z => PyData.eqv z x
def intsOf : List PyData → Option (List Int)
  | [] => some []
  | .int b :: r => (intsOf r).map (b :: ·)
  | _ :: _ => none
def leT (a b : List Int) : Bool := Ob.lexAt (fun j => decide (a.getD j 0 = b.getD j 0)) (fun j => decide (a.getD j 0 ≤ b.getD j 0)) (decide (a.length ≤ b.length)) 0 (min a.length b.length)
def cmpF : Cm → PyData → PyData → Option Bool
  | .eq, a, b => if deepOk a b then some (PyData.eqv a b) else none
  | .ne, a, b => if deepOk a b then some (!PyData.eqv a b) else none
  | .lt, .int a, .int b => some (decide (a < b))
  | .le, .int a, .int b => some (decide (a ≤ b))
  | .le, .tuple a, .tuple b => (intsOf a).bind fun x => (intsOf b).map fun y => leT x y
  | .gt, .int a, .int b => some (decide (b < a))
  | .ge, .int a, .int b => some (decide (b ≤ a))
  | .isin, x, .list l => if deepOk x (.list l) then some (memD x l) else none
  | .isin, x, .tuple l => if deepOk x (.tuple l) then some (memD x l) else none
  | .nin, x, .list l => if deepOk x (.list l) then some (!memD x l) else none
  | .nin, x, .tuple l => if deepOk x (.tuple l) then some (!memD x l) else none
  | _, _, _ => none
def truF : PyData → Option Bool
  | .none => some false
  | .bool b => some b
  | .int i => some (i != 0)
  | .str x => if x.length ≤ sizeLine then some ((x.length : Int) != 0) else none
  | .list l => some (!l.isEmpty)
  | .tuple l => some (!l.isEmpty)
  | .dict l => some (!l.isEmpty)
def isF : Sg → PyData → Bool
  | .none, .none => true
  | .tt, .bool b => b
  | .ff, .bool b => !b
  | _, _ => false
def ixF {α : Type} (l : List α) (i : Int) : Option α :=
  if 0 ≤ i then l[i.toNat]? else if -(l.length : Int) ≤ i then l[(i + l.length).toNat]? else none
def subF : PyData → PyData → Option PyData
  | .list l, .int i => ixF l i
  | .tuple l, .int i => ixF l i
  | _, _ => none
def cutF {α : Type} (l : List α) (lo hi : Option Int) : List α :=
  (l.drop (HT.sIx l.length 0 lo)).take (HT.sIx l.length l.length hi - HT.sIx l.length 0 lo)
def slcF : PyData → Option Int → Option Int → Option PyData
  | .list l, lo, hi => some (.list (cutF l lo hi))
  | .tuple l, lo, hi => some (.tuple (cutF l lo hi))
  | _, _, _ => none
def boolsOf : List PyData → Option (List Bool)
  | [] => some []
  | .bool b :: r => (boolsOf r).map (b :: ·)
  | _ :: _ => none
def seqOf : PyData → Option (List PyData)
  | .list l => some l
  | .tuple l => some l
  | _ => none
def seqP : PyData → Option PyData
  | .list l => some (.list l)
  | .tuple l => some (.tuple l)
  | _ => none
def seqM : Me → PyData → Option PyData
  | .count, p => seqP p
  | .index, .list l => some (.list l)
  | .index, _ => none
def lstOf : PyData → Option (List PyData)
  | .list l => some l
  | _ => none
def pairOf : PyData → PyData → Option (List PyData × List PyData)
  | .list l, .list k => some (l, k)
  | .tuple l, .tuple k => some (l, k)
  | .list l, .tuple k => some (l, k)
  | _, _ => none
/-- ascending, each once -/
def ins1 (x : Int) : List Int → List Int
  | [] => [x]
  | y :: r => if x < y then x :: y :: r else if x = y then y :: r else y :: ins1 x r
def srt1 : List Int → List Int
  | [] => []
  | x :: r => ins1 x (srt1 r)
def ins2 (x : Int) : List Int → List Int
  | [] => [x]
  | y :: r => if x ≤ y then x :: y :: r else y :: ins2 x r
def srt2 : List Int → List Int
  | [] => []
  | x :: r => ins2 x (srt2 r)
def maxL : List Int → Option Int
  | [] => none
  | x :: r => some (r.foldl max x)
def minL : List Int → Option Int
  | [] => none
  | x :: r => some (r.foldl min x)
def intD (l : List Int) : List PyData := l.map PyData.int
/-- tuples of ints, in their order -/
def tupsOf : List PyData → Option (List (List Int))
  | [] => some []
  | .tuple t :: r => (intsOf t).bind fun a => (tupsOf r).map (a :: ·)
  | _ :: _ => none
def ltL : List Int → List Int → Bool
  | [], [] => false
  | [], _ :: _ => true
  | _ :: _, [] => false
  | x :: a, y :: b => if x = y then ltL a b else decide (x < y)
def insL (x : List Int) : List (List Int) → List (List Int)
  | [] => [x]
  | y :: r => if ltL y x then y :: insL x r else x :: y :: r
def srtL : List (List Int) → List (List Int)
  | [] => []
  | x :: r => insL x (srtL r)
/-- .. few, none empty, none below 0 -/
def srtOk (T : List (List Int)) : Bool := decide (T.length < 64) && (decide (T.length ≤ 1) || T.all fun t => !t.isEmpty) && T.all fun t => t.all fun i => decide (0 ≤ i)
/-- .. and of pairs of them -/
abbrev Pr := List Int × List Int
def ltP (p q : Pr) : Bool := if p.1 = q.1 then ltL p.2 q.2 else ltL p.1 q.1
def insG {α : Type} (lt : α → α → Bool) (x : α) : List α → List α
  | [] => [x]
  | y :: r => if lt y x then y :: insG lt x r else x :: y :: r
def srtG {α : Type} (lt : α → α → Bool) : List α → List α
  | [] => []
  | x :: r => insG lt x (srtG lt r)
def prD (p : Pr) : PyData := .tuple [.tuple (intD p.1), .tuple (intD p.2)]
def prsOf : List PyData → Option (List Pr)
  | [] => some []
  | .tuple [.tuple a, .tuple b] :: r => (intsOf a).bind fun x => (intsOf b).bind fun y => (prsOf r).map ((x, y) :: ·)
  | _ :: _ => none
def prsOk (T : List Pr) : Bool := decide (T.length < 64) && T.all fun p => (p.1.all fun i => decide (0 ≤ i)) && p.2.all fun i => decide (0 ≤ i)
def srtF (l : List PyData) : Option (List PyData) := match intsOf l with
  | some b => some (intD (srt2 b))
  | none => match tupsOf l with
    | some T => if srtOk T then some ((srtL T).map fun t => .tuple (intD t)) else none
    | none => (prsOf l).bind fun T => if prsOk T then some ((srtG ltP T).map prD) else none
/-- .. where it is cut -/
def vws (m : Mem) : W → Option PyData
  | .scr l => some (.list (intD l))
  | w => vw m w
def reprOk (x : PyData) : Prop := x.showable = true ∧ x.depth ≤ 64 ∧ x.shown.length ≤ sizeLine ∧ x.hasDict = false ∧ PyData.strOk x.shown = true
open Classical in
noncomputable def biF : Bi → List PyData → Option PyData
  | .len, [.list l] => some (.int l.length)
  | .len, [.tuple l] => some (.int l.length)
  | .len, [.dict l] => some (.int l.length)
  | .len, [.str x] => if x.length ≤ sizeLine then some (.int x.length) else none
  | .isInt, [x] => some (.bool (match x with | .int _ => true | .bool _ => true | _ => false))
  | .isBool, [x] => some (.bool (match x with | .bool _ => true | _ => false))
  | .isTup, [x] => some (.bool (match x with | .tuple _ => true | _ => false))
  | .isStr, [x] => some (.bool (match x with | .str _ => true | _ => false))
  | .isLst, [x] => some (.bool (match x with | .list _ => true | _ => false))
  | .all, [.list l] => (boolsOf l).map fun b => .bool (b.all id)
  | .any, [.list l] => (boolsOf l).map fun b => .bool (b.any id)
  | .sum, [.list l] => (intsOf l).map fun b => .int b.sum
  | .max1, [.list l] => ((intsOf l).bind maxL).map .int
  | .min1, [.list l] => ((intsOf l).bind minL).map .int
  | .max2, [.int a, .int b] => some (.int (if b > a then b else a))
  | .min2, [.int a, .int b] => some (.int (if b < a then b else a))
  | .abs, [.int a] => some (.int (if a < 0 then -a else a))
  | .tuple, [.list l] => some (.tuple l)
  | .tuple, [.tuple l] => some (.tuple l)
  | .list, [.list l] => some (.list l)
  | .list, [.tuple l] => some (.list l)
  | .int, [.int a] => some (.int a)
  | .int, [.bool b] => some (.int (if b then 1 else 0))
  | .bool, [.int a] => some (.bool (a != 0))
  | .bool, [.bool b] => some (.bool b)
  | .repr, [x] => if reprOk x then some (.str x.shown) else none
  | .sorted, [.list l] => (srtF l).map .list
  | .srtset, [.tuple l] => if l.length ≤ 60 then (intsOf l).map fun b => .list (intD (srt1 b)) else none
  | .srtset, [.list l] => if l.length ≤ 60 then (intsOf l).map fun b => .list (intD (srt1 b)) else none
  | _, _ => none
def countD (x : PyData) (l : List PyData) : Nat := l.countP fun z => PyData.eqv z x
def meF : Me → PyData → List PyData → Option PyData
  | .count, .list l, [x] => if deepOk x (.list l) then some (.int (countD x l)) else none
  | .count, .tuple l, [x] => if deepOk x (.tuple l) then some (.int (countD x l)) else none
  | .index, .list l, [x] => if deepOk x (.list l) then (l.findIdx? fun z => PyData.eqv z x).map fun (k : Nat) => .int k else none
  | _, _, _ => none
/-- what a loop goes over: items, or the list at a number (which stays as it is) -/
inductive Src where
  | items (l : List PyData)
  | live (n : Nat) (l : List PyData)
def Src.list : Src → List PyData
  | .items l => l
  | .live _ l => l
def Src.stands : Src → Mem → Prop
  | .items _, _ => True
  | .live n l, m => m[n]? = some (.lst l)
def srcOf (m : Mem) : W → Option Src
  | .d (.list l) => some (.items l)
  | .d (.tuple l) => some (.items l)
  | .ref n => match m[n]? with
    | some (.lst l) => some (.live n l)
    | _ => none
  | _ => none
def setV : Tg → PyData → Vr → Option Vr
  | .nm i, x, v => if i < v.length then some (v.set i (some (.d x))) else none
  | .tup t, .tuple l, v => setAll t l v
  | _, _, _ => none
where setAll : Tg → List PyData → Vr → Option Vr
  | .nil, [], v => some v
  | .cons t u, x :: r, v => (setV t x v).bind fun v' => setAll u r v'
  | _, _, _ => none
def enumD : Nat → List PyData → List PyData
  | _, [] => []
  | k, x :: r => .tuple [.int k, x] :: enumD (k + 1) r
def zipD : List PyData → List PyData → List PyData
  | x :: r, y :: s => .tuple [x, y] :: zipD r s
  | _, _ => []
def rngD (lo : Int) : Nat → List PyData
  | 0 => []
  | n + 1 => .int lo :: rngD (lo + 1) n
def wipeV (v : Vr) : List Nat → Vr
  | [] => v
  | i :: r => (wipeV v r).set i none
abbrev CallF := String → List W → Mem → Res W
def asD : W → Option PyData
  | .d x => some x
  | _ => none
open Classical in
/-- a comprehension's turns -/
noncomputable def compL (st : Mem → Prop) (f : PyData → Mem → Res (Option PyData)) : List PyData → Mem → Res (List PyData)
  | [], m => if st m then .ok [] m else .no
  | x :: r, m => if st m then (f x m).bind fun y m1 => (compL st f r m1).bind fun ys m2 => .ok (match y with | some z => z :: ys | none => ys) m2 else .no
open Classical in
/-- .. whose items are new changing lists, by their numbers -/
noncomputable def compR (st : Mem → Prop) (f : PyData → Mem → Res (Option Nat)) : List PyData → Mem → Res (List Nat)
  | [], m => if st m then .ok [] m else .no
  | x :: r, m => if st m then (f x m).bind fun y m1 => (compR st f r m1).bind fun ys m2 => .ok (match y with | some z => z :: ys | none => ys) m2 else .no
open Classical in
/-- the turns of a first clause: each gives a list -/
noncomputable def compLL (st : Mem → Prop) (f : PyData → Mem → Res (List PyData)) : List PyData → Mem → Res (List PyData)
  | [], m => if st m then .ok [] m else .no
  | x :: r, m => if st m then (f x m).bind fun ys m1 => (compLL st f r m1).bind fun zs m2 => .ok (ys ++ zs) m2 else .no
open Classical in
noncomputable def forL (st : Mem → Prop) (f : PyData → Vr → Mem → RS) : List PyData → Vr → Mem → RS
  | [], v, m => if st m then .nx v m else .no
  | x :: r, v, m => if st m then (match f x v m with
    | .nx v1 m1 => forL st f r v1 m1
    | .ct v1 m1 => forL st f r v1 m1
    | .bk v1 m1 => .nx v1 m1
    | o => o) else .no
/-- no error may leave a comprehension's turn -/
def noX {α : Type} : Res α → Res α
  | .exc _ _ => .no
  | r => r
/-- a changing list that goes over into plain data -/
def frzF (m : Mem) : W → Res W
  | .d x => .ok (.d x) m
  | .ref n => match m[n]? with
    | some (.lst l) => .ok (.d (.list l)) (m.set n .dead)
    | some (.rfs ns) => if ns.Nodup then (match rowsAt m ns with
      | some ls => .ok (.d (.list ls)) (deadAll (m.set n .dead) ns)
      | none => .no) else .no
    | some (.obj _ _) => .no
    | _ => .ok (.ref n) m
  | .scr l => .ok (.scr l) m
  | .exn c => .ok (.exn c) m
/-- the program's own errors -/
def xnames : List String := ["InvalidColumns", "InvalidTable", "InvalidSet", "InvalidDemand", "InvalidEntry", "NotACertificate", "InvalidNumber", "InvalidRules", "NotAPaper", "InvalidKind", "InvalidWorths", "InvalidHeld", "InvalidRow", "InvalidValue", "InvalidRows", "InvalidChanges", "InvalidWorld"]
/-- is s -/
def isW (s : Sg) : W → Option Bool
  | .d p => some (isF s p)
  | _ => some false
/-- isinstance of an own error and a class -/
def isxF (c y : String) : Bool := y == c || c == "KeyRuleError" || c == "ValueError"
/-- what a table of the module with text keys gives: the number at a text, or d -/
def tgI (l : List (String × Int)) (d : Int) (s : Str) : Int := match l.find? fun p => decide (Str.ofString p.1 = s) with
  | some p => p.2
  | none => d
def tgF (l : List (String × Int)) (d : Int) : PyData → Option PyData
  | .str s => some (.int (tgI l d s))
  | _ => none
/-- the number of a changing object -/
def refOf : W → Option Nat
  | .ref n => some n
  | _ => none
def intOf : W → Option Int
  | .d (.int i) => some i
  | _ => none
def rfsAt (m : Mem) (n : Nat) : Option (List Nat) :=
  match m[n]? with
  | some (.rfs l) => some l
  | _ => none
/-- [::-1] -/
def rvF : PyData → Option PyData
  | .tuple l => if l.length ≤ 10000 then some (.tuple l.reverse) else none
  | _ => none
def partF : Option W → Option (Option Int)
  | none => some none
  | some (.d (.int i)) => some (some i)
  | _ => none
mutual
noncomputable def den (cf : CallF) : E → Vr → Mem → Res W
  | .var i, v, m => match v[i]? with
    | some (some w) => .ok w m
    | _ => .no
  | .lit x, _, m => .ok (.d x) m
  | .tup es, v, m => (denA cf es v m).bind fun l m1 => optR ((l.mapM asD).bind fun xs => if xs.length ≤ sizeLine then some (.d (.tuple xs)) else none) m1
  | .lst es, v, m => (denA cf es v m).bind fun l m1 => optR ((l.mapM asD).bind fun xs => if xs.length ≤ sizeLine then some (.d (.list xs)) else none) m1
  | .bin o a b, v, m => (den cf a v m).bind fun x m1 => (den cf b v m1).bind fun y m2 => optR ((vw m2 x).bind fun p => (vw m2 y).bind fun q => (binF o p q).map .d) m2
  | .neg a, v, m => (den cf a v m).bind fun x m1 => match x with
    | .d (.int i) => .ok (.d (.int (-i))) m1
    | _ => .no
  | .cmp o a b, v, m => (den cf a v m).bind fun x m1 => (den cf b v m1).bind fun y m2 => optR ((vw m2 x).bind fun p => (vw m2 y).bind fun q => (cmpF o p q).map fun t => .d (.bool t)) m2
  | .chain o o2 a b c, v, m => (den cf a v m).bind fun x m1 => (den cf b v m1).bind fun y m2 =>
      (optR ((vw m2 x).bind fun p => (vw m2 y).bind fun q => cmpF o p q) m2).bind fun t m3 =>
        if t then (den cf c v m3).bind fun z m4 => optR ((vw m4 y).bind fun p => (vw m4 z).bind fun q => (cmpF o2 p q).map fun t => .d (.bool t)) m4 else .ok (.d (.bool false)) m3
  | .isc s n a, v, m => (den cf a v m).bind fun x m1 => optR ((isW s x).map fun b => .d (.bool (if n then !b else b))) m1
  | .isx c a, v, m => (den cf a v m).bind fun x m1 => match x with
    | .exn y => .ok (.d (.bool (isxF c y))) m1
    | _ => .no
  | .rvt a, v, m => (den cf a v m).bind fun x m1 => optR ((asD x).bind fun p => (rvF p).map .d) m1
  | .tget _ l d a, v, m => (den cf a v m).bind fun x m1 => optR ((asD x).bind fun p => (tgF l d p).map .d) m1
  | .not a, v, m => (den cf a v m).bind fun x m1 => optR ((vw m1 x).bind fun p => (truF p).map fun t => .d (.bool (!t))) m1
  | .and a b, v, m => (den cf a v m).bind fun x m1 => (optR ((vw m1 x).bind truF) m1).bind fun t m2 => if t then den cf b v m2 else .ok x m2
  | .or a b, v, m => (den cf a v m).bind fun x m1 => (optR ((vw m1 x).bind truF) m1).bind fun t m2 => if t then .ok x m2 else den cf b v m2
  | .ite c a b, v, m => (den cf c v m).bind fun x m1 => (optR ((vw m1 x).bind truF) m1).bind fun t m2 => if t then den cf a v m2 else den cf b v m2
  | .call f es, v, m => (denA cf es v m).bind fun l m1 => cf f l m1
  | .bi b es, v, m => (denA cf es v m).bind fun l m1 => optR ((l.mapM (vw m1)).bind fun xs => (biF b xs).map .d) m1
  | .me o a es, v, m => (den cf a v m).bind fun x m1 => (optR ((asD x).bind (seqM o)) m1).bind fun p m2 => (denA cf es v m2).bind fun l m3 => optR ((l.mapM (vw m3)).bind fun xs => (meF o p xs).map .d) m3
  | .tupR a, v, m => (denI cf a v m).bind fun s m1 => optR (match s with
    | .items l => if l.length ≤ 10000 then some (.d (.tuple l)) else none
    | _ => none) m1
  | .sub a i, v, m => (den cf a v m).bind fun x m1 => (den cf i v m1).bind fun y m2 => optR ((vw m2 x).bind fun p => (vw m2 y).bind fun q => (subF p q).map .d) m2
  | .subr a i, v, m => (den cf a v m).bind fun x m1 => (den cf i v m1).bind fun y m2 => optR ((refOf x).bind fun n => (rfsAt m2 n).bind fun ns => (intOf y).bind fun j => (ixF ns j).map .ref) m2
  | .slc a lo hi, v, m => (den cf a v m).bind fun x m1 => ((denA cf lo v m1).bind fun l m2 => optR (partF l.head?) m2).bind fun i m2 => ((denA cf hi v m2).bind fun l m3 => optR (partF l.head?) m3).bind fun j m3 =>
      optR ((vws m3 x).bind fun p => (slcF p i j).map .d) m3
  | .frz a, v, m => (den cf a v m).bind fun x m1 => frzF m1 x
  | .comp g it ifs elt vs, v, m => (denI cf it v m).bind fun s m1 => if sizeLine < s.list.length then .no else (compL s.stands (fun x m2 => noX (match setV g x (wipeV v vs) with
      | some v1 => (denT cf ifs v1 m2).bind fun t m3 => if t then (den cf elt v1 m3).bind fun y m4 => optR ((asD y).map some) m4 else .ok none m3
      | none => .no)) s.list m1).bind fun ys m5 => .ok (.d (.list ys)) m5
  | .comp2 g it ifs g1 it1 ifs1 elt vs vs1, v, m => (denI cf it v m).bind fun s m1 => if 10000 < s.list.length then .no else (compLL s.stands (fun x m2 => noX (match setV g x (wipeV v vs) with
      | some v1 => (denT cf ifs v1 m2).bind fun t m3 => if t then (denI cf it1 v1 m3).bind fun s1 m4 => if 1000 < s1.list.length then .no else compL s1.stands (fun x m5 => noX (match setV g1 x (wipeV v1 vs1) with
        | some v2 => (denT cf ifs1 v2 m5).bind fun t m6 => if t then (den cf elt v2 m6).bind fun y m7 => optR ((asD y).map some) m7 else .ok none m6
        | none => .no)) s1.list m4 else .ok [] m3
      | none => .no)) s.list m1).bind fun ys m5 => .ok (.d (.list ys)) m5
  | _, _, _ => .no
noncomputable def denA (cf : CallF) : E → Vr → Mem → Res (List W)
  | .nil, _, m => .ok [] m
  | .cons e es, v, m => (den cf e v m).bind fun x m1 => (denA cf es v m1).bind fun l m2 => .ok (x :: l) m2
  | .star e es, v, m => (den cf e v m).bind fun x m1 => (optR ((vw m1 x).bind seqOf) m1).bind fun k m2 => (denA cf es v m2).bind fun l m3 => .ok (k.map W.d ++ l) m3
  | _, _, _ => .no
/-- a clause's tests -/
noncomputable def denT (cf : CallF) : E → Vr → Mem → Res Bool
  | .nil, _, m => .ok true m
  | .cons e es, v, m => (den cf e v m).bind fun x m1 => (optR ((vw m1 x).bind truF) m1).bind fun t m2 => if t then denT cf es v m2 else .ok false m2
  | _, _, _ => .no
/-- what a loop goes over -/
noncomputable def denI (cf : CallF) : E → Vr → Mem → Res Src
  | .rng1 a, v, m => (den cf a v m).bind fun x m1 => match x with
    | .d (.int n) => if n < 2 ^ 62 ∧ -(2 ^ 62) ≤ n then .ok (.items (rngD 0 n.toNat)) m1 else .no
    | _ => .no
  | .rng2 a b, v, m => (den cf a v m).bind fun x m1 => (den cf b v m1).bind fun y m2 => match x, y with
    | .d (.int i), .d (.int n) => if n < 2 ^ 62 ∧ -(2 ^ 62) ≤ n ∧ i < 2 ^ 62 ∧ -(2 ^ 62) ≤ i then .ok (.items (rngD i (n - i).toNat)) m2 else .no
    | _, _ => .no
  | .enum a, v, m => (den cf a v m).bind fun x m1 => (optR ((asD x).bind seqOf) m1).bind fun l m2 => .ok (.items (enumD 0 l)) m2
  | .zip a b, v, m => (den cf a v m).bind fun x m1 => (den cf b v m1).bind fun y m2 => (optR ((asD x).bind fun p => (asD y).bind fun q => pairOf p q) m2).bind fun l m3 => .ok (.items (zipD l.1 l.2)) m3
  | .rev a, v, m => (den cf a v m).bind fun x m1 => (optR ((asD x).bind seqOf) m1).bind fun l m2 => .ok (.items l.reverse) m2
  | .itv a, v, m => (den cf a v m).bind fun x m1 => optR (srcOf m1 x) m1
  | _, _, _ => .no
end
/-- a value that is to change goes into a cell of its own -/
def newC (p : Bool) (w : W) (m : Mem) : Res W :=
  if p then match w with
    | .d (.list l) => .ok (.ref m.length) (m ++ [.lst l])
    | _ => .no
  else .ok w m
def putV (i : Nat) (w : W) (v : Vr) (m : Mem) : RS := if i < v.length then .nx (v.set i (some w)) m else .no
/-- except c takes an error -/
def takesX (c : String) (x : Xn) : Bool := x.c == c || c == "KeyRuleError"
def atV (v : Vr) (i : Nat) : Option Nat :=
  match v[i]? with
  | some (some (.ref n)) => some n
  | _ => none
def lstAt (m : Mem) (n : Nat) : Option (List PyData) :=
  match m[n]? with
  | some (.lst l) => some l
  | _ => none
def placeIx (n : Nat) (i : Int) : Option Nat := if 0 ≤ i then (if i < n then some i.toNat else none) else if -(n : Int) ≤ i then some (i + n).toNat else none
def orNo (o : Option RS) : RS := o.getD .no
/-- no error may leave an except suite -/
def noXS : RS → RS
  | .exc _ _ _ => .no
  | r => r
mutual
noncomputable def denS (cf : CallF) : S → Vr → Mem → RS
  | .skip, v, m => .nx v m
  | .seq s t, v, m => match denS cf s v m with
    | .nx v1 m1 => denS cf t v1 m1
    | o => o
  | .ex e, v, m => (den cf e v m).toS v fun _ m1 => .nx v m1
  | .set i e, v, m => (den cf e v m).toS v fun w m1 => putV i w v m1
  | .new i e, v, m => (den cf e v m).toS v fun w m1 => (newC true w m1).toS v fun w2 m2 => putV i w2 v m2
  | .par i j p q a b, v, m => (den cf a v m).toS v fun x m1 => (newC p x m1).toS v fun x2 m2 => (den cf b v m2).toS v fun y m3 => (newC q y m3).toS v fun y2 m4 =>
      if i ≠ j ∧ i < v.length ∧ j < v.length then .nx ((v.set i (some x2)).set j (some y2)) m4 else .no
  | .par3 i j k p q r a b c, v, m => (den cf a v m).toS v fun x m1 => (newC p x m1).toS v fun x2 m2 => (den cf b v m2).toS v fun y m3 => (newC q y m3).toS v fun y2 m4 => (den cf c v m4).toS v fun z m5 => (newC r z m5).toS v fun z2 m6 =>
      if i ≠ j ∧ i ≠ k ∧ j ≠ k ∧ i < v.length ∧ j < v.length ∧ k < v.length then .nx (((v.set i (some x2)).set j (some y2)).set k (some z2)) m6 else .no
  | .tgt g e, v, m => (den cf e v m).toS v fun w m1 => orNo ((asD w).bind fun x => (setV g x v).map fun v1 => .nx v1 m1)
  | .ite c s t, v, m => (den cf c v m).toS v fun x m1 => orNo ((vw m1 x).bind fun p => (truF p).map fun b => if b then denS cf s v m1 else denS cf t v m1)
  | .ret e, v, m => (den cf e v m).toS v fun w m1 => .rt w m1
  | .retn e, v, m => (den cf e v m).toS v fun w m1 => (newC true w m1).toS v fun w2 m2 => .rt w2 m2
  | .for_ g it b, v, m => (denI cf it v m).toS v fun s m1 => forL s.stands (fun x v1 m2 => orNo ((setV g x v1).map fun v2 => denS cf b v2 m2)) s.list v m1
  | .brk, v, m => .bk v m
  | .cnt, v, m => .ct v m
  | .app i e, v, m => orNo ((atV v i).bind fun n => (lstAt m n).map fun _ => (den cf e v m).toS v fun w m1 => orNo ((asD w).bind fun y => (lstAt m1 n).bind fun l => if l.length < sizeLine then some (.nx v (m1.set n (.lst (l ++ [y])))) else none))
  | .ext i e, v, m => orNo ((atV v i).bind fun n => (lstAt m n).map fun _ => (den cf e v m).toS v fun w m1 => orNo (((asD w).bind lstOf).bind fun k => (lstAt m1 n).bind fun l => if l.length + k.length ≤ sizeLine then some (.nx v (m1.set n (.lst (l ++ k)))) else none))
  | .rvs i, v, m => orNo ((atV v i).bind fun n => (lstAt m n).bind fun l => if l.length ≤ sizeLine then some (.nx v (m.set n (.lst l.reverse))) else none)
  | .six i k e, v, m => (den cf e v m).toS v fun w m1 => orNo ((atV v i).map fun n => (den cf k v m1).toS v fun z m2 => orNo ((asD w).bind fun y => (lstAt m2 n).bind fun l => match z with
      | .d (.int j) => (placeIx l.length j).map fun q => .nx v (m2.set n (.lst (l.set q y)))
      | _ => none))
  | .nrw i g it ifs elt vs, v, m => (denI cf it v m).toS v fun s m1 => if sizeLine < s.list.length then .no else (compR s.stands (fun x m2 => noX (match setV g x (wipeV v vs) with
      | some v1 => (denT cf ifs v1 m2).bind fun t m3 => if t then (den cf elt v1 m3).bind fun y m4 => (newC true y m4).bind fun z m5 => optR ((refOf z).map some) m5 else .ok none m3
      | none => .no)) s.list m1).toS v fun ns m6 => putV i (.ref m6.length) v (m6 ++ [.rfs ns])
  | .st2 a k e, v, m => (den cf e v m).toS v fun w m1 => (den cf a v m1).toS v fun x m2 => (den cf k v m2).toS v fun z m3 => orNo ((asD w).bind fun y => (refOf x).bind fun n => (lstAt m3 n).bind fun l => (intOf z).bind fun j => (placeIx l.length j).map fun q => .nx v (m3.set n (.lst (l.set q y))))
  | .stl a k e, v, m => (den cf e v m).toS v fun w0 m0 => (newC true w0 m0).toS v fun w m1 => (den cf a v m1).toS v fun x m2 => (den cf k v m2).toS v fun z m3 => orNo ((refOf w).bind fun r => (refOf x).bind fun n => (rfsAt m3 n).bind fun l => (intOf z).bind fun j => (placeIx l.length j).map fun q => .nx v (m3.set n (.rfs (l.set q r))))
  | .raise c, v, m => .exc ⟨c, none⟩ v m
  | .tryx b h, v, m => match denS cf b v m with
    | .exc x v1 m1 => denH cf h x v1 m1
    | o => o
  | .tryas b i j, v, m => match denS cf b v m with
    | .exc x v1 m1 => if i ≠ j ∧ i < v1.length ∧ j < v1.length then .nx ((v1.set j (some (.exn x.c))).set i none) m1 else .no
    | o => o
  | .bad, _, _ => .no
  | .hnd _ _ _, _, _ => .no
/-- the except clauses -/
noncomputable def denH (cf : CallF) : S → Xn → Vr → Mem → RS
  | .hnd c h r, x, v, m => if takesX c x then noXS (denS cf h v m) else denH cf r x v m
  | .skip, x, v, m => .exc x v m
  | _, _, _, _ => .no
end
open Classical in
/-- a call's end: what the def itself has made is forgotten -/
noncomputable def finF (keep : Bool) (m0 : Mem) : RS → Res W
  | .nx _ m => if keep then .ok (.d .none) m else if keepsR m0 m then .ok (.d .none) (m.take m0.length) else .no
  | .rt w m => if keep then .ok w m else if keepsR m0 m then (match w with
    | .d x => .ok (.d x) (m.take m0.length)
    | .ref k => if k < m0.length then .ok (.ref k) (m.take m0.length) else match m[k]? with
      | some (.lst l) => .ok (.d (.list l)) (m.take m0.length)
      | _ => .no
    | .scr _ => .no
    | .exn _ => .no) else .no
  | .exc x _ m => if keepsR m0 m then .exc x (m.take m0.length) else .no
  | _ => .no
noncomputable def callN (P : Tab) : Nat → String → List W → Mem → Res W
  | 0, _, _, _ => .no
  | n + 1, f, args, m => match P.lookup f with
    | some fn => if args.length = fn.ar ∧ fn.ar ≤ fn.nv then finF fn.keep m (denS (callN P n) fn.body (args.map some ++ List.replicate (fn.nv - fn.ar) none) m) else .no
    | none => .no
theorem t1 (cf : CallF) (x : PyData) (v : Vr) (m : Mem) : den cf (.lit x) v m = .ok (.d x) m := rfl
theorem t2 (P : Tab) (n : Nat) (f : String) (a : List W) (m : Mem) : callN P (n + 1) f a m = match P.lookup f with
    | some fn => if a.length = fn.ar ∧ fn.ar ≤ fn.nv then finF fn.keep m (denS (callN P n) fn.body (a.map some ++ List.replicate (fn.nv - fn.ar) none) m) else .no
    | none => .no := rfl
end MP
/-! MPB: how the values of MPA lie in the abstract heap; the wishes (tE, tT, tA, tS) that a meaning gives. -/
namespace MP
open PySem PySem.Spec PyProof.Rows L2
open Classical
abbrev Fg := PySem.W.Frag
/-! ### data in the heap: lists are tracked ones; tuples are known things without a dict -/
def SqX (H : Hp) (a : Addr) (xs : List V) : Prop := ∃ o : Obj, H a = some (.frz o (.tup xs)) ∧ o.dict = none
theorem SqX.sq {K : Fg} {H : Hp} {a : Addr} {xs : List V} : SqX H a xs → SqT K H a xs := fun ⟨o, h, _⟩ => .inl (.inr ⟨o, h⟩)
theorem SqX.mono {H H' : Hp} (s : Same H H') {a : Addr} {xs : List V} : SqX H a xs → SqX H' a xs := fun ⟨o, h, d⟩ => ⟨o, s _ _ h, d⟩
mutual
inductive Dp (K : Fg) (H : Hp) : V → PyData → Prop
  | non : Dp K H .non .none
  | bl (b : Bool) : Dp K H (.bl b) (.bool b)
  | int (i : Int) : Dp K H (.int i) (.int i)
  | str (x : Str) : Dp K H (.str x) (.str x)
  | lst {a : Addr} {vs : List V} {l : List PyData} : H a = some (.lst vs) → DpAll K H vs l → Dp K H (.ref a) (.list l)
  | tup {a : Addr} {vs : List V} {l : List PyData} : SqX H a vs → DpAll K H vs l → Dp K H (.ref a) (.tuple l)
inductive DpAll (K : Fg) (H : Hp) : List V → List PyData → Prop
  | nil : DpAll K H [] []
  | cons {v : V} {vs : List V} {d : PyData} {l : List PyData} : Dp K H v d → DpAll K H vs l → DpAll K H (v :: vs) (d :: l)
end
/-! ### data stays data -/
mutual
theorem dpMono {K : Fg} {H H' : Hp} (s : Same H H') : ∀ (d : PyData) (v : V), Dp K H v d → Dp K H' v d
  | .none, _, h => by cases h; exact .non
  | .bool b, _, h => by cases h; exact .bl b
  | .int i, _, h => by cases h; exact .int i
  | .str x, _, h => by cases h; exact .str x
  | .list ds, _, h => by
    cases h with
    | lst hs ha => exact .lst (s _ _ hs) (dpMonoL s ds _ ha)
  | .tuple ds, _, h => by
    cases h with
    | tup hs ha => exact .tup (hs.mono s) (dpMonoL s ds _ ha)
  | .dict _, _, h => by cases h
theorem dpMonoL {K : Fg} {H H' : Hp} (s : Same H H') : ∀ (ds : List PyData) (vs : List V), DpAll K H vs ds → DpAll K H' vs ds
  | [], _, h => by cases h; exact .nil
  | d :: ds, _, h => by
    cases h with
    | cons h1 h2 => exact .cons (dpMono s d _ h1) (dpMonoL s ds _ h2)
end
theorem DpAll.len {K : Fg} {H : Hp} : ∀ {vs : List V} {ds : List PyData}, DpAll K H vs ds → vs.length = ds.length
  | _, _, .nil => rfl
  | _, _, .cons _ t => by rw [List.length_cons, List.length_cons, DpAll.len t]
theorem DpAll.at {K : Fg} {H : Hp} : ∀ {vs : List V} {ds : List PyData} {i : Nat} {v : V}, DpAll K H vs ds → vs[i]? = some v → ∃ d, ds[i]? = some d ∧ Dp K H v d
  | _, _, _, _, .nil, e => by simp at e
  | _, _, 0, _, .cons h _, e => by simp at e; subst e; exact ⟨_, rfl, h⟩
  | _, _, i + 1, v, .cons _ t, e => by
    obtain ⟨d, h1, h2⟩ := DpAll.at (i := i) (v := v) t (by simpa using e)
    exact ⟨d, by simpa using h1, h2⟩
theorem DpAll.at2 {K : Fg} {H : Hp} : ∀ {vs : List V} {ds : List PyData} {i : Nat} {d : PyData}, DpAll K H vs ds → ds[i]? = some d → ∃ v, vs[i]? = some v ∧ Dp K H v d
  | _, _, _, _, .nil, e => by simp at e
  | _, _, 0, _, .cons h _, e => by simp at e; subst e; exact ⟨_, rfl, h⟩
  | _, _, i + 1, d, .cons _ t, e => by
    obtain ⟨v, h1, h2⟩ := DpAll.at2 (i := i) (d := d) t (by simpa using e)
    exact ⟨v, by simpa using h1, h2⟩
theorem DpAll.app {K : Fg} {H : Hp} : ∀ {vs ws : List V} {ds es : List PyData}, DpAll K H vs ds → DpAll K H ws es → DpAll K H (vs ++ ws) (ds ++ es)
  | _, _, _, _, .nil, h => h
  | _, _, _, _, .cons h t, h' => .cons h (DpAll.app t h')
theorem DpAll.rev {K : Fg} {H : Hp} : ∀ {vs : List V} {ds : List PyData}, DpAll K H vs ds → DpAll K H vs.reverse ds.reverse
  | _, _, .nil => .nil
  | _, _, .cons h t => by
    rw [List.reverse_cons, List.reverse_cons]
    exact DpAll.app (DpAll.rev t) (.cons h .nil)
theorem DpAll.tk {K : Fg} {H : Hp} : ∀ {vs : List V} {ds : List PyData} (n : Nat), DpAll K H vs ds → DpAll K H (vs.take n) (ds.take n)
  | _, _, 0, _ => by simp; exact .nil
  | _, _, _ + 1, .nil => by simp; exact .nil
  | _, _, n + 1, .cons h t => by simp; exact .cons h (DpAll.tk n t)
theorem DpAll.dr {K : Fg} {H : Hp} : ∀ {vs : List V} {ds : List PyData} (n : Nat), DpAll K H vs ds → DpAll K H (vs.drop n) (ds.drop n)
  | _, _, 0, h => by simpa using h
  | _, _, _ + 1, .nil => by simp; exact .nil
  | _, _, n + 1, .cons _ t => by simpa using DpAll.dr n t
theorem DpAll.st {K : Fg} {H : Hp} {v : V} {d : PyData} (h0 : Dp K H v d) : ∀ {vs : List V} {ds : List PyData} (n : Nat), DpAll K H vs ds → DpAll K H (vs.set n v) (ds.set n d)
  | _, _, _, .nil => by simp; exact .nil
  | _, _, 0, .cons _ t => by simp; exact .cons h0 t
  | _, _, n + 1, .cons h t => by simp; exact .cons h (DpAll.st h0 n t)
theorem canL_app : ∀ {l k : List PyData}, PyData.canLayAll0 l = true → PyData.canLayAll0 k = true → PyData.canLayAll0 (l ++ k) = true
  | [], _, _, h => h
  | x :: l, k, h, h' => by
    simp only [PyData.canLayAll0, Bool.and_eq_true, List.cons_append] at h ⊢
    exact ⟨h.1, canL_app h.2 h'⟩
theorem canL_rev : ∀ {l : List PyData}, PyData.canLayAll0 l = true → PyData.canLayAll0 l.reverse = true
  | [], h => h
  | x :: l, h => by
    simp only [PyData.canLayAll0, Bool.and_eq_true] at h
    rw [List.reverse_cons]
    exact canL_app (canL_rev h.2) (by simp [PyData.canLayAll0, h.1])
theorem canL_iff : ∀ {l : List PyData}, PyData.canLayAll0 l = true ↔ ∀ x ∈ l, x.canLay0 = true
  | [] => by simp [PyData.canLayAll0]
  | x :: l => by simp [PyData.canLayAll0, canL_iff (l := l)]
mutual
theorem Dp.lib {K : Fg} {H : Hp} : ∀ (d : PyData) (v : V), Dp K H v d → L2.Dp K H v d
  | .none, _, h => by cases h; exact .non
  | .bool b, _, h => by cases h; exact .bl b
  | .int i, _, h => by cases h; exact .int i
  | .str x, _, h => by cases h; exact .str x
  | .list ds, _, h => by
    cases h with
    | lst hs ha => exact .lst (SqL.of hs) (DpAll.lib ds _ ha)
  | .tuple ds, _, h => by
    cases h with
    | tup hs ha => exact .tup hs.sq (DpAll.lib ds _ ha)
  | .dict _, _, h => by cases h
theorem DpAll.lib {K : Fg} {H : Hp} : ∀ (l : List PyData) (vs : List V), DpAll K H vs l → L2.DpAll K H vs l
  | [], _, h => by cases h; exact .nil
  | d :: ds, _, h => by
    cases h with
    | cons h1 h2 => exact .cons (Dp.lib d _ h1) (DpAll.lib ds _ h2)
end
/-! ### the cells in the heap -/
def lv (φ : List Addr) (m : Mem) (a : Addr) : Prop := ∃ (i : Nat) (c : Cell), φ[i]? = some a ∧ m[i]? = some c ∧ c ≠ .dead
/-- the heap without the changing objects -/
noncomputable def hid (φ : List Addr) (m : Mem) (Z : List Addr) (H : Hp) : Hp := fun a => if a ∈ Z ∨ lv φ m a then none else H a
theorem hid_some {φ : List Addr} {m : Mem} {Z : List Addr} {H : Hp} {a : Addr} {o : HO} : hid φ m Z H a = some o ↔ a ∉ Z ∧ ¬ lv φ m a ∧ H a = some o := by
  unfold hid
  by_cases h : a ∈ Z ∨ lv φ m a
  · rw [if_pos h]
    constructor
    · intro q; cases q
    · rintro ⟨h1, h2, _⟩; exact absurd h (by simp [h1, h2])
  · rw [if_neg h]
    simp only [not_or] at h
    simp [h.1, h.2]
/-- addresses by their numbers -/
def adrs (φ : List Addr) : List Nat → Option (List Addr)
  | [] => some []
  | n :: r => match φ[n]? with
    | some a => (adrs φ r).map (a :: ·)
    | none => none
theorem adrs_pre {φ ψ : List Addr} : ∀ {ns : List Nat} {bs : List Addr}, adrs φ ns = some bs → adrs (φ ++ ψ) ns = some bs
  | [], _, h => h
  | n :: r, bs, h => by
    unfold adrs at h ⊢
    cases e : φ[n]? with
    | none => rw [e] at h; cases h
    | some a =>
      rw [e] at h
      rw [List.getElem?_append_left (List.getElem?_eq_some_iff.mp e).1, e]
      obtain ⟨b, hb, rfl⟩ := Option.map_eq_some_iff.mp h
      show (adrs (φ ++ ψ) r).map _ = _
      rw [adrs_pre hb]; rfl
def CellOk (K : Fg) (φ : List Addr) (Hh H : Hp) (a : Addr) : Cell → Prop
  | .dead => True
  | .lst l => ∃ vs, H a = some (.lst vs) ∧ DpAll K Hh vs l ∧ PyData.canLayAll0 l = true
  | .dct _ => False
  | .rfs ns => ∃ bs, H a = some (.lst (bs.map V.ref)) ∧ adrs φ ns = some bs
  | .obj _ _ => False
theorem CellOk.tr {K : Fg} {φ φ' : List Addr} {Hh Hh' H H' : Hp} {a : Addr} {c : Cell} (h : CellOk K φ Hh H a c) (e : ∀ o, H a = some o → H' a = some o) (sm : Same Hh Hh') (pre : ∃ ψ, φ' = φ ++ ψ) : CellOk K φ' Hh' H' a c := by
  cases c with
  | dead => trivial
  | lst l =>
    obtain ⟨vs, e1, e2, e3⟩ := h
    exact ⟨vs, e _ e1, dpMonoL sm _ _ e2, e3⟩
  | dct l => exact h
  | rfs ns =>
    obtain ⟨bs, e1, e2⟩ := h
    obtain ⟨ψ, rfl⟩ := pre
    exact ⟨bs, e _ e1, adrs_pre e2⟩
  | obj c fs => exact h
theorem same_pre {φ : List Addr} : ∃ ψ, φ = φ ++ ψ := ⟨[], by simp⟩
structure SR (K : Fg) (φ : List Addr) (m : Mem) (Z : List Addr) (H : Hp) : Prop where
  len : φ.length = m.length
  nd : φ.Nodup
  sep : ∀ a ∈ φ, a ∉ Z
  zt : ∀ a ∈ Z, H a ≠ none
  ft : ∀ a ∈ φ, H a ≠ none
  cell : ∀ (i : Nat) (a : Addr) (c : Cell), φ[i]? = some a → m[i]? = some c → CellOk K φ (hid φ m Z H) H a c
structure Gr (φ : List Addr) (m : Mem) (H : Hp) (φ' : List Addr) (m' : Mem) (H' : Hp) : Prop where
  pre : ∃ ψ, φ' = φ ++ ψ ∧ ∀ a ∈ ψ, H a = none
  dead : ∀ i : Nat, m[i]? = some .dead → m'[i]? = some .dead
  keep : ∀ a o, H a = some o → ¬ lv φ m a → H' a = some o
  dom : ∀ a, H a ≠ none → H' a ≠ none
/-- an own error that is kept as a value -/
def ExcO (cls : Value) (a : Addr) : HO := .ext fun h => ∃ oe : Obj, h.get? a = some oe ∧ Zc cls none oe ∧ ∃ vs, oe.data = .fields vs
def RW (K : Fg) (φ : List Addr) (Hh : Hp) : W → V → Prop
  | .d x, v => Dp K Hh v x ∧ x.canLay0 = true
  | .ref n, v => ∃ a, v = .ref a ∧ φ[n]? = some a
  | .scr l, v => ∃ a, v = .ref a ∧ SqL K Hh a (l.map V.int)
  | .exn c, v => ∃ a, v = .ref a ∧ Hh a = some (ExcO (.ref (He.ga K (Str.ofString c))) a) ∧ c ∈ xnames ∧ (He.Fa.glo (Str.ofString c)).ok K = true
structure RV (K : Fg) (φ : List Addr) (Hh : Hp) (v : Vr) (σ : L2.St) : Prop where
  len : v.length = σ.length
  at_ : ∀ (i : Nat) (w : W), v[i]? = some (some w) → ∃ x, σ[i]? = some (some x) ∧ RW K φ Hh w x
section
variable {K : Fg} {φ φ' φ2 : List Addr} {m m' m2 : Mem} {Z : List Addr} {H H' H2 : Hp}
theorem Gr.refl : Gr φ m H φ m H := ⟨⟨[], by simp⟩, fun _ h => h, fun _ _ h _ => h, fun _ h => h⟩
theorem Gr.nlv (g : Gr φ m H φ' m' H') (l : φ.length = m.length) {a : Addr} (ha : H a ≠ none) (n : ¬ lv φ m a) : ¬ lv φ' m' a := by
  rintro ⟨i, c, h1, h2, h3⟩
  obtain ⟨ψ, rfl, hn⟩ := g.pre
  by_cases hi : i < φ.length
  · rw [List.getElem?_append_left hi] at h1
    have hm : i < m.length := by omega
    have e : m[i]? = some m[i] := List.getElem?_eq_getElem hm
    by_cases hd : m[i] = .dead
    · rw [hd] at e
      have := g.dead i e
      rw [h2] at this
      exact h3 (Option.some.inj this)
    · exact n ⟨i, _, h1, e, hd⟩
  · rw [List.getElem?_append_right (by omega)] at h1
    exact ha (hn a (List.mem_of_getElem? h1))
theorem Gr.trans (g : Gr φ m H φ' m' H') (g2 : Gr φ' m' H' φ2 m2 H2) (l : φ.length = m.length) : Gr φ m H φ2 m2 H2 := by
  refine ⟨?_, fun i h => g2.dead i (g.dead i h), fun a o h n => ?_, fun a h => g2.dom a (g.dom a h)⟩
  · obtain ⟨ψ, rfl, hn⟩ := g.pre
    obtain ⟨χ, rfl, hn2⟩ := g2.pre
    refine ⟨ψ ++ χ, by rw [List.append_assoc], fun a ha => ?_⟩
    rcases List.mem_append.mp ha with ha | ha
    · exact hn a ha
    · have e := hn2 a ha
      cases q : H a with
      | none => rfl
      | some o => exact absurd e (g.dom a (by rw [q]; simp))
  · exact g2.keep a o (g.keep a o h n) (g.nlv l (by rw [h]; simp) n)
theorem Gr.same (g : Gr φ m H φ' m' H') (l : φ.length = m.length) : Same (hid φ m Z H) (hid φ' m' Z H') := fun a o h => by
  obtain ⟨h1, h2, h3⟩ := hid_some.mp h
  exact hid_some.mpr ⟨h1, g.nlv l (by rw [h3]; simp) h2, g.keep a o h3 h2⟩
theorem Gr.same2 {Z' : List Addr} (g : Gr φ m H φ' m' H') (l : φ.length = m.length) (hz : ∀ z ∈ Z', z ∈ Z ∨ H z = none) : Same (hid φ m Z H) (hid φ' m' Z' H') := fun a o h => by
  obtain ⟨h1, h2, h3⟩ := hid_some.mp h
  refine hid_some.mpr ⟨fun q => ?_, g.nlv l (by rw [h3]; simp) h2, g.keep a o h3 h2⟩
  rcases hz a q with q | q
  · exact h1 q
  · rw [h3] at q; cases q
/-- without what is hidden -/
noncomputable def erZ (Z : List Addr) (H : Hp) : Hp := fun a => if a ∈ Z then none else H a
theorem erZ_in {Z : List Addr} {H : Hp} {a : Addr} (h : a ∉ Z) : erZ Z H a = H a := by unfold erZ; rw [if_neg h]
theorem Gr.er (g : Gr φ m H φ' m' H') : Gr φ m (erZ Z H) φ' m' (erZ Z H') := by
  obtain ⟨ψ, e, hn⟩ := g.pre
  refine ⟨⟨ψ, e, fun a ha => ?_⟩, g.dead, fun a o h n => ?_, fun a h => ?_⟩
  · unfold erZ
    split
    · rfl
    · exact hn a ha
  · unfold erZ at h ⊢
    split at h
    · cases h
    · rename_i q
      rw [if_neg q]
      exact g.keep a o h n
  · unfold erZ at h ⊢
    split at h
    · exact absurd rfl h
    · rename_i q
      rw [if_neg q]
      exact g.dom a h
theorem Gr.same3 {Z' : List Addr} (g : Gr φ m (erZ Z H) φ' m' (erZ Z H')) (l : φ.length = m.length) (hz : ∀ z ∈ Z', z ∈ Z ∨ H z = none) : Same (hid φ m Z H) (hid φ' m' Z' H') := fun a o h => by
  obtain ⟨h1, h2, h3⟩ := hid_some.mp h
  have e : erZ Z H a = some o := by rw [erZ_in h1]; exact h3
  have k := g.keep a o e h2
  rw [erZ_in h1] at k
  refine hid_some.mpr ⟨fun q => ?_, g.nlv l (by rw [e]; simp) h2, k⟩
  rcases hz a q with q | q
  · exact h1 q
  · rw [h3] at q; cases q
theorem Gr.phi (g : Gr φ m H φ' m' H') {n : Nat} {a : Addr} (h : φ[n]? = some a) : φ'[n]? = some a := by
  obtain ⟨ψ, rfl, _⟩ := g.pre
  rw [List.getElem?_append_left (List.getElem?_eq_some_iff.mp h).1]
  exact h
theorem Gr.rw (g : Gr φ m H φ' m' H') (l : φ.length = m.length) {w : W} {x : V} (h : RW K φ (hid φ m Z H) w x) : RW K φ' (hid φ' m' Z H') w x := by
  cases w with
  | d y => exact ⟨dpMono (g.same l) _ _ h.1, h.2⟩
  | ref n =>
    obtain ⟨a, e, h⟩ := h
    exact ⟨a, e, g.phi h⟩
  | scr n =>
    obtain ⟨a, e, h⟩ := h
    exact ⟨a, e, Same.seq (g.same l) h⟩
  | exn n =>
    obtain ⟨a, e, h, k⟩ := h
    exact ⟨a, e, g.same l _ _ h, k⟩
theorem Gr.rv (g : Gr φ m H φ' m' H') (l : φ.length = m.length) {v : Vr} {σ : L2.St} (h : RV K φ (hid φ m Z H) v σ) : RV K φ' (hid φ' m' Z H') v σ :=
  ⟨h.len, fun i w e => let ⟨x, h1, h2⟩ := h.at_ i w e; ⟨x, h1, g.rw l h2⟩⟩
theorem Gr.rw2 {Z' : List Addr} (g : Gr φ m H φ' m' H') (l : φ.length = m.length) (hz : ∀ z ∈ Z', z ∈ Z ∨ H z = none) {w : W} {x : V} (h : RW K φ (hid φ m Z H) w x) : RW K φ' (hid φ' m' Z' H') w x := by
  cases w with
  | d y => exact ⟨dpMono (g.same2 l hz) _ _ h.1, h.2⟩
  | ref n =>
    obtain ⟨a, e, h⟩ := h
    exact ⟨a, e, g.phi h⟩
  | scr n =>
    obtain ⟨a, e, h⟩ := h
    exact ⟨a, e, Same.seq (g.same2 l hz) h⟩
  | exn n =>
    obtain ⟨a, e, h, k⟩ := h
    exact ⟨a, e, g.same2 l hz _ _ h, k⟩
theorem Gr.rv2 {Z' : List Addr} (g : Gr φ m H φ' m' H') (l : φ.length = m.length) (hz : ∀ z ∈ Z', z ∈ Z ∨ H z = none) {v : Vr} {σ : L2.St} (h : RV K φ (hid φ m Z H) v σ) : RV K φ' (hid φ' m' Z' H') v σ :=
  ⟨h.len, fun i w e => let ⟨x, h1, h2⟩ := h.at_ i w e; ⟨x, h1, g.rw2 l hz h2⟩⟩
/-- a list of values -/
inductive RWs (K : Fg) (φ : List Addr) (Hh : Hp) : List W → List V → Prop where
  | nil : RWs K φ Hh [] []
  | cons {w : W} {x : V} {ws : List W} {xs : List V} : RW K φ Hh w x → RWs K φ Hh ws xs → RWs K φ Hh (w :: ws) (x :: xs)
theorem RWs.len {Hh : Hp} : ∀ {ws : List W} {xs : List V}, RWs K φ Hh ws xs → ws.length = xs.length
  | _, _, .nil => rfl
  | _, _, .cons _ t => by rw [List.length_cons, List.length_cons, RWs.len t]
theorem RWs.at {Hh : Hp} : ∀ {ws : List W} {xs : List V} {i : Nat} {w : W}, RWs K φ Hh ws xs → ws[i]? = some w → ∃ x, xs[i]? = some x ∧ RW K φ Hh w x
  | _, _, _, _, .nil, e => by simp at e
  | _, _, 0, _, .cons h _, e => by simp at e; subst e; exact ⟨_, rfl, h⟩
  | _, _, i + 1, w, .cons _ t, e => by
    obtain ⟨v, h1, h2⟩ := RWs.at (i := i) (w := w) t (by simpa using e)
    exact ⟨v, by simpa using h1, h2⟩
/-- nothing of the cells is changed; the heap has grown -/
theorem SR.grow (s : SR K φ m Z H) (k : Same H H') : SR K φ m Z H' ∧ Gr φ m H φ m H' := by
  have sm : Same (hid φ m Z H) (hid φ m Z H') := fun a o h => by
    obtain ⟨h1, h2, h3⟩ := hid_some.mp h
    exact hid_some.mpr ⟨h1, h2, k a o h3⟩
  have nn : ∀ a, H a ≠ none → H' a ≠ none := fun a h => by
    cases q : H a with
    | none => exact absurd q h
    | some o => rw [k a o q]; simp
  refine ⟨⟨s.len, s.nd, s.sep, fun a h => nn a (s.zt a h), fun a h => nn a (s.ft a h), fun i a c h1 h2 => ?_⟩, ⟨⟨[], by simp⟩, fun _ h => h, fun a o h _ => k a o h, nn⟩⟩
  exact (s.cell i a c h1 h2).tr (fun o => k a o) sm same_pre
/-- a new object -/
theorem SR.new (s : SR K φ m Z H) {p : Addr} (hp : H p = none) (o : HO) : SR K φ m Z (upd H p o) ∧ Gr φ m H φ m (upd H p o) ∧ hid φ m Z (upd H p o) p = some o := by
  have k : Same H (upd H p o) := fun a u h => by rw [upd_ne (ne_of_none h hp)]; exact h
  refine ⟨(s.grow k).1, (s.grow k).2, hid_some.mpr ⟨fun h => s.zt p h hp, ?_, upd_same⟩⟩
  rintro ⟨i, c, h1, _⟩
  exact s.ft p (List.mem_of_getElem? h1) hp
/-- a new changing list -/
theorem SR.cellNew (s : SR K φ m Z H) {p : Addr} (hp : H p = none) {vs : List V} {l : List PyData} (hl : DpAll K (hid φ m Z H) vs l) (hc : PyData.canLayAll0 l = true) :
    SR K (φ ++ [p]) (m ++ [.lst l]) Z (upd H p (.lst vs)) ∧ Gr φ m H (φ ++ [p]) (m ++ [.lst l]) (upd H p (.lst vs)) := by
  have pf : p ∉ φ := fun h => s.ft p h hp
  have k : Same H (upd H p (.lst vs)) := fun a u h => by rw [upd_ne (ne_of_none h hp)]; exact h
  have g : Gr φ m H (φ ++ [p]) (m ++ [.lst l]) (upd H p (.lst vs)) := by
    refine ⟨⟨[p], rfl, fun a h => by simp at h; rw [h]; exact hp⟩, fun i h => ?_, fun a o h _ => k a o h, fun a h => ?_⟩
    · rw [List.getElem?_append_left (List.getElem?_eq_some_iff.mp h).1]; exact h
    · by_cases e : a = p
      · subst e; exact absurd hp h
      · rw [upd_ne e]; exact h
  refine ⟨⟨by simp [s.len], ?_, fun a h => ?_, fun a h => g.dom a (s.zt a h), fun a h => ?_, fun i a c h1 h2 => ?_⟩, g⟩
  · rw [List.nodup_append]
    exact ⟨s.nd, by simp, fun a h b hb => by simp at hb; subst hb; rintro rfl; exact pf h⟩
  · rcases List.mem_append.mp h with h | h
    · exact s.sep a h
    · simp at h; subst h; exact fun q => s.zt a q hp
  · rcases List.mem_append.mp h with h | h
    · exact g.dom a (s.ft a h)
    · simp at h; subst h; rw [upd_same]; simp
  · by_cases hi : i < φ.length
    · rw [List.getElem?_append_left hi] at h1
      rw [List.getElem?_append_left (by rw [← s.len]; exact hi)] at h2
      exact (s.cell i a c h1 h2).tr (fun o => k a o) (g.same s.len) ⟨[p], rfl⟩
    · have e : i = φ.length := by
        have := (List.getElem?_eq_some_iff.mp h1).1
        simp at this; omega
      subst e
      simp at h1
      rw [s.len] at h2
      simp at h2
      subst h1; subst h2
      exact ⟨vs, upd_same, dpMonoL (g.same s.len) _ _ hl, hc⟩
/-- a changing list is changed -/
theorem SR.cellSet (s : SR K φ m Z H) {n : Nat} {p : Addr} (hp : φ[n]? = some p) {l0 : List PyData} (hm : m[n]? = some (.lst l0)) {vs : List V} {l : List PyData} (hl : DpAll K (hid φ m Z H) vs l) (hc : PyData.canLayAll0 l = true) :
    SR K φ (m.set n (.lst l)) Z (upd H p (.lst vs)) ∧ Gr φ m H φ (m.set n (.lst l)) (upd H p (.lst vs)) := by
  have hlt : n < m.length := (List.getElem?_eq_some_iff.mp hm).1
  have lvi : ∀ a, lv φ (m.set n (.lst l)) a ↔ lv φ m a := fun a => by
    constructor
    · rintro ⟨i, c, h1, h2, h3⟩
      by_cases e : i = n
      · subst e; exact ⟨i, _, h1, hm, by simp⟩
      · rw [List.getElem?_set_ne (Ne.symm e)] at h2; exact ⟨i, c, h1, h2, h3⟩
    · rintro ⟨i, c, h1, h2, h3⟩
      by_cases e : i = n
      · subst e; exact ⟨i, .lst l, h1, by rw [List.getElem?_set_self hlt], by simp⟩
      · exact ⟨i, c, h1, by rw [List.getElem?_set_ne (Ne.symm e)]; exact h2, h3⟩
  have lp : lv φ m p := ⟨n, _, hp, hm, by simp⟩
  have he : hid φ (m.set n (.lst l)) Z (upd H p (.lst vs)) = hid φ m Z H := by
    funext a
    unfold hid
    rw [lvi a]
    by_cases h : a ∈ Z ∨ lv φ m a
    · rw [if_pos h, if_pos h]
    · rw [if_neg h, if_neg h, upd_ne]
      rintro rfl; exact h (.inr lp)
  have dm : ∀ a, H a ≠ none → (upd H p (.lst vs)) a ≠ none := fun a h => by
    by_cases e : a = p
    · subst e; rw [upd_same]; simp
    · rw [upd_ne e]; exact h
  have g : Gr φ m H φ (m.set n (.lst l)) (upd H p (.lst vs)) := by
    refine ⟨⟨[], by simp⟩, fun i h => ?_, fun a o h q => ?_, dm⟩
    · by_cases e : i = n
      · subst e; rw [hm] at h; simp at h
      · rw [List.getElem?_set_ne (Ne.symm e)]; exact h
    · rw [upd_ne]; exact h
      rintro rfl; exact q lp
  refine ⟨⟨by simp [s.len], s.nd, s.sep, fun a h => dm a (s.zt a h), fun a h => dm a (s.ft a h), fun i a c h1 h2 => ?_⟩, g⟩
  rw [he]
  by_cases e : i = n
  · subst e
    rw [hp] at h1; cases h1
    rw [List.getElem?_set_self hlt] at h2; cases h2
    exact ⟨vs, upd_same, hl, hc⟩
  · rw [List.getElem?_set_ne (Ne.symm e)] at h2
    have na : a ≠ p := by
      rintro rfl
      obtain ⟨x1, y1⟩ := List.getElem?_eq_some_iff.mp h1
      obtain ⟨x2, y2⟩ := List.getElem?_eq_some_iff.mp hp
      exact e ((List.getElem_inj s.nd).mp (y1.trans y2.symm))
    exact (s.cell i a c h1 h2).tr (fun o h => by rw [upd_ne na]; exact h) (fun _ _ h => h) same_pre
/-- a changing list goes over into data -/
theorem SR.cellDead (s : SR K φ m Z H) {n : Nat} {p : Addr} (hp : φ[n]? = some p) {l : List PyData} (hm : m[n]? = some (.lst l)) :
    SR K φ (m.set n .dead) Z H ∧ Gr φ m H φ (m.set n .dead) H ∧ Dp K (hid φ (m.set n .dead) Z H) (.ref p) (.list l) ∧ PyData.canLayAll0 l = true := by
  have hlt : n < m.length := (List.getElem?_eq_some_iff.mp hm).1
  have np : ¬ lv φ (m.set n .dead) p := by
    rintro ⟨i, c, h1, h2, h3⟩
    obtain ⟨x1, y1⟩ := List.getElem?_eq_some_iff.mp h1
    obtain ⟨x2, y2⟩ := List.getElem?_eq_some_iff.mp hp
    have e : i = n := (List.getElem_inj s.nd).mp (y1.trans y2.symm)
    subst e
    rw [List.getElem?_set_self hlt] at h2; cases h2
    exact h3 rfl
  have g : Gr φ m H φ (m.set n .dead) H := by
    refine ⟨⟨[], by simp⟩, fun i h => ?_, fun a o h q => h, fun a h => h⟩
    by_cases e : i = n
    · subst e; rw [hm] at h; simp at h
    · rw [List.getElem?_set_ne (Ne.symm e)]; exact h
  have q := s.cell n p _ hp hm
  obtain ⟨vs, e1, e2, e3⟩ := q
  refine ⟨⟨by simp [s.len], s.nd, s.sep, s.zt, s.ft, fun i a c h1 h2 => ?_⟩, g, ?_, e3⟩
  · by_cases e : i = n
    · subst e; rw [List.getElem?_set_self hlt] at h2; cases h2; trivial
    · rw [List.getElem?_set_ne (Ne.symm e)] at h2
      exact (s.cell i a c h1 h2).tr (fun _ h => h) (g.same s.len) same_pre
  · refine .lst (hid_some.mpr ⟨s.sep p (List.mem_of_getElem? hp), np, e1⟩) (dpMonoL (g.same s.len) _ _ e2)
theorem adrs_lt {φ : List Addr} : ∀ {ns : List Nat} {bs : List Addr}, adrs φ ns = some bs → ∀ n ∈ ns, n < φ.length
  | [], _, _, n, hn => by cases hn
  | k :: r, bs, h, n, hn => by
    unfold adrs at h
    cases e : φ[k]? with
    | none => rw [e] at h; cases h
    | some a =>
      rw [e] at h
      obtain ⟨b, hb, rfl⟩ := Option.map_eq_some_iff.mp h
      rcases List.mem_cons.mp hn with rfl | hn
      · exact (List.getElem?_eq_some_iff.mp e).1
      · exact adrs_lt hb n hn
theorem adrs_of {φ ψ : List Addr} : ∀ {ns : List Nat} {bs : List Addr}, adrs (φ ++ ψ) ns = some bs → (∀ n ∈ ns, n < φ.length) → adrs φ ns = some bs
  | [], _, h, _ => h
  | n :: r, bs, h, hl => by
    unfold adrs at h ⊢
    rw [List.getElem?_append_left (hl n (by simp))] at h
    cases e : φ[n]? with
    | none => rw [e] at h; cases h
    | some a =>
      rw [e] at h
      obtain ⟨b, hb, rfl⟩ := Option.map_eq_some_iff.mp h
      show (adrs φ r).map _ = _
      rw [adrs_of hb fun k hk => hl k (List.mem_cons_of_mem _ hk)]; rfl
/-- cells of a def's own are forgotten -/
theorem SR.cut {ψ : List Addr} (s0 : SR K φ m Z H) (kp : keepsR m m') (s : SR K (φ ++ ψ) m' Z H') : SR K φ (m'.take φ.length) Z H' ∧ Same (hid (φ ++ ψ) m' Z H') (hid φ (m'.take φ.length) Z H') := by
  have hl : φ.length ≤ m'.length := by have := s.len; simp at this; omega
  have lvi : ∀ a, lv φ (m'.take φ.length) a → lv (φ ++ ψ) m' a := fun a => by
    rintro ⟨i, c, h1, h2, h3⟩
    have hi := (List.getElem?_eq_some_iff.mp h1).1
    rw [List.getElem?_take_of_lt hi] at h2
    exact ⟨i, c, by rw [List.getElem?_append_left hi]; exact h1, h2, h3⟩
  have sm : Same (hid (φ ++ ψ) m' Z H') (hid φ (m'.take φ.length) Z H') := fun a o h => by
    obtain ⟨h1, h2, h3⟩ := hid_some.mp h
    exact hid_some.mpr ⟨h1, fun q => h2 (lvi a q), h3⟩
  refine ⟨⟨by rw [List.length_take]; omega, (List.nodup_append.mp s.nd).1, fun a h => s.sep a (List.mem_append_left _ h), s.zt, fun a h => s.ft a (List.mem_append_left _ h), fun i a c h1 h2 => ?_⟩, sm⟩
  have hi := (List.getElem?_eq_some_iff.mp h1).1
  rw [List.getElem?_take_of_lt hi] at h2
  have q := s.cell i a c (by rw [List.getElem?_append_left hi]; exact h1) h2
  cases c with
  | dead => trivial
  | lst l' =>
    obtain ⟨ws, e1, e2, e3⟩ := q
    exact ⟨ws, e1, dpMonoL sm _ _ e2, e3⟩
  | dct l' => exact q
  | rfs ns =>
    obtain ⟨bs, e1, e2⟩ := q
    refine ⟨bs, e1, adrs_of e2 ?_⟩
    rcases kp i (by rw [← s0.len]; exact hi) with q | ⟨c, q, hc⟩
    · rw [h2] at q
      obtain ⟨bs0, _, k2⟩ := s0.cell i a _ h1 q.symm
      exact adrs_lt k2
    · rw [h2] at q
      cases q
      cases hc
  | obj c fs => exact q
/-- another thing is hidden besides -/
theorem SR.hide (s : SR K φ m Z H) {p : Addr} (hp : H p = none) (o : HO) : SR K φ m (p :: Z) (upd H p o) ∧ hid φ m (p :: Z) (upd H p o) = hid φ m Z H := by
  have e : hid φ m (p :: Z) (upd H p o) = hid φ m Z H := by
    funext a
    unfold hid
    by_cases ha : a = p
    · subst ha
      rw [if_pos (.inl (by simp))]
      split <;> simp [hp]
    · simp only [List.mem_cons, ha, false_or]
      rw [upd_ne ha]
  refine ⟨⟨s.len, s.nd, fun a h q => ?_, fun a h => ?_, fun a h => ?_, fun i a c h1 h2 => ?_⟩, e⟩
  · rcases List.mem_cons.mp q with q | q
    · subst q; exact s.ft a h hp
    · exact s.sep a h q
  · by_cases ha : a = p
    · subst ha; rw [upd_same]; simp
    · rw [upd_ne ha]
      rcases List.mem_cons.mp h with h | h
      · exact absurd h ha
      · exact s.zt a h
  · by_cases ha : a = p
    · subst ha; rw [upd_same]; simp
    · rw [upd_ne ha]; exact s.ft a h
  · rw [e]
    exact (s.cell i a c h1 h2).tr (fun o h => by rw [upd_ne (ne_of_none h hp)]; exact h) (fun _ _ h => h) same_pre
/-- what is hidden is changed -/
theorem SR.hset {p : Addr} (s : SR K φ m (p :: Z) H) (o : HO) : SR K φ m (p :: Z) (upd H p o) ∧ hid φ m (p :: Z) (upd H p o) = hid φ m (p :: Z) H := by
  have e : hid φ m (p :: Z) (upd H p o) = hid φ m (p :: Z) H := by
    funext a
    unfold hid
    by_cases ha : a = p
    · subst ha
      rw [if_pos (.inl (by simp)), if_pos (.inl (by simp))]
    · rw [upd_ne ha]
  have pf : p ∉ φ := fun h => s.sep p h (by simp)
  refine ⟨⟨s.len, s.nd, s.sep, fun a h => ?_, fun a h => ?_, fun i a c h1 h2 => ?_⟩, e⟩
  · by_cases ha : a = p
    · subst ha; rw [upd_same]; simp
    · rw [upd_ne ha]; exact s.zt a h
  · rw [upd_ne (by rintro rfl; exact pf h)]; exact s.ft a h
  · rw [e]
    exact (s.cell i a c h1 h2).tr (fun o h => by rw [upd_ne (by rintro rfl; exact pf (List.mem_of_getElem? h1))]; exact h) (fun _ _ h => h) same_pre
/-- it is taken away -/
theorem SR.drop {p : Addr} (s : SR K φ m (p :: Z) H) (hz : p ∉ Z) : SR K φ m Z (fun a => if a = p then none else H a) ∧ hid φ m Z (fun a => if a = p then none else H a) = hid φ m (p :: Z) H := by
  have e : hid φ m Z (fun a => if a = p then none else H a) = hid φ m (p :: Z) H := by
    funext a
    unfold hid
    by_cases ha : a = p
    · subst ha
      rw [if_pos (c := a ∈ a :: Z ∨ _) (.inl (by simp))]
      split <;> simp
    · simp only [List.mem_cons, ha, false_or, if_false]
  have pf : p ∉ φ := fun h => s.sep p h (by simp)
  refine ⟨⟨s.len, s.nd, fun a h q => s.sep a h (List.mem_cons_of_mem _ q), fun a h => ?_, fun a h => ?_, fun i a c h1 h2 => ?_⟩, e⟩
  · have : a ≠ p := by rintro rfl; exact hz h
    simp only [this, if_false]
    exact s.zt a (List.mem_cons_of_mem _ h)
  · have : a ≠ p := by rintro rfl; exact pf h
    simp only [this, if_false]
    exact s.ft a h
  · rw [e]
    have na : a ≠ p := by rintro rfl; exact pf (List.mem_of_getElem? h1)
    exact (s.cell i a c h1 h2).tr (fun o h => by simp only [na, if_false]; exact h) (fun _ _ h => h) same_pre
end
end MP
/-! MPBT: new tuples whose object is known: it has no dict of its own. -/
namespace MP
open PySem PySem.Spec PyProof.Rows L2
/-- the object of a new tuple -/
def tupO (its : List Value) : Obj := { cls := .type "tuple", data := .seq its.toArray }
section
variable {X : Cx} {pins : List (Addr × Obj)} {σ : L2.St} {H : Hp} {s : Shared}
theorem inv_tup (I : Inv X pins σ H s) {xs : List V} {its : List Value} (r : Vals xs its) (hz : xs.length ≤ sizeLine) {tk : Nat} :
    Inv X pins σ (upd H s.heap.objs.size (.frz (tupO its) (.tup xs))) { s with heap := s.heap.push (tupO its), toks := tk } :=
  I.laid (t' := tk) (fun b u e => Heap.get?_push_of_some _ e) (Nat.le_refl _) ⟨Heap.get?_push_size _ rfl, hz, its, r, IsTup.new _ _⟩
theorem inv_free (I : Inv X pins σ H s) : H s.heap.objs.size = none := I.hok.fresh (Nat.le_refl _)
end
section
variable {X : Cx} {t : TA} {es : List Expr} {pos : Pos} {kk : Nat}
def tTupX (t : TA) : TE := fun σ H Q => t σ H fun xs H1 => xs.length ≤ sizeLine ∧ ∀ p o, H1 p = none → o.dict = none → Q (.ref p) (upd H1 p (.frz o (.tup xs)))
theorem pe_tupX (h : PA X es t) : PE X (.Tuple es kk pos) (tTupX t) := by
  refine ⟨fun pins s σ H Q I hq => wpAny_Tuple_spliced (thn (h.run pos pins s σ H _ I hq) fun us s1 w => ?_)⟩
  obtain ⟨xs, H1, I1, r, z, q⟩ := w
  have hl := r.length
  exact ⟨by omega, .ref s1.heap.objs.size, _, inv_tup I1 r z (tk := s1.toks), rfl, q _ (tupO us) (inv_free I1) rfl⟩
/-- t + u -/
def rCatX (K : PySem.W.Frag) : R2 := fun x y H Q => ∃ a b xs ys, x = .ref a ∧ y = .ref b ∧ SqT K H a xs ∧ SqT K H b ys ∧ xs.length + ys.length ≤ sizeLine ∧
  (xs = [] → Q (.ref b) H) ∧ (xs ≠ [] → ys = [] → Q (.ref a) H) ∧ (xs ≠ [] → ys ≠ [] → ∀ p o, H p = none → o.dict = none → Q (.ref p) (upd H p (.frz o (.tup (xs ++ ys)))))
theorem op_catX : OpR X (binaryOp .Add) (rCatX X.K) := by
  intro pins s σ H x y v u Q I rx ry h
  obtain ⟨a, b, xs, ys, rfl, rfl, ha, hb, hz, q0, q1, q2⟩ := h
  obtain ⟨its, r1, p1, _⟩ := I.tuple ha
  obtain ⟨its2, r2, p2, _⟩ := I.tuple hb
  cases rx
  cases ry
  have l1 := r1.length
  have l2 := r2.length
  cases xs with
  | nil =>
    cases r1
    exact cat_tup0 p1 p2 ⟨.ref b, H, I, rfl, q0 rfl⟩
  | cons x0 xs =>
    have hne : its ≠ [] := fun e => by rw [e] at l1; simp at l1
    refine HT.cat_tup p1 p2 hne (fun e => ?_) (fun e => ?_) (by omega)
    · subst e
      cases r2
      exact ⟨.ref a, H, I, rfl, q1 (by simp) rfl⟩
    · have hy : ys ≠ [] := fun w => by subst w; cases r2; exact e rfl
      exact ⟨.ref s.heap.objs.size, _, inv_tup I (r1.append r2) (by rw [List.length_append]; exact hz) (tk := s.toks), rfl, q2 (by simp) hy _ (tupO (its ++ its2)) (inv_free I) rfl⟩
/-- tuple(y) -/
def rTupX (K : PySem.W.Frag) : List V → Hp → VK → Prop := fun xs H Q => ∃ p ys, xs = [.ref p] ∧ ((SqL K H p ys ∧ ∀ l o, H l = none → o.dict = none → Q (.ref l) (upd H l (.frz o (.tup ys)))) ∨ (SqT K H p ys ∧ Q (.ref p) H))
theorem call_tupX : CallR X (.type "tuple") (rTupX X.K) := by
  intro pins s σ H xs us Q I r h
  obtain ⟨p, ys, rfl, h⟩ := h
  obtain ⟨u, rfl, rx⟩ := vals1 r
  cases rx
  rcases h with ⟨hq, q⟩ | ⟨hq, q⟩
  · obtain ⟨its, rv, pl, hz⟩ := I.list hq
    have hl := rv.length
    refine call_tuple_list pl.isList (fun h1 kp => ?_) (by simp only [List.size_toArray] <;> omega)
    have I1 : Inv X pins σ H { s with heap := h1 } := I.kept (t' := s.toks) kp
    exact ⟨.ref h1.objs.size, _, inv_tup I1 rv hz (tk := s.toks), rfl, q _ (tupO its) (inv_free I1) rfl⟩
  · obtain ⟨its, _, pl, _⟩ := I.tuple hq
    exact call_tuple_same pl ⟨.ref p, H, I, rfl, q⟩
/-- t[lo:hi] -/
def rSlX (K : PySem.W.Frag) : V → Option Int → Option Int → Hp → VK → Prop := fun x lo hi H Q => ∃ a xs, x = .ref a ∧ SqT K H a xs ∧
  (HT.sIx xs.length 0 lo = 0 ∧ HT.sIx xs.length xs.length hi = xs.length → Q (.ref a) H) ∧ (∀ p o, H p = none → o.dict = none → Q (.ref p) (upd H p (.frz o (.tup (cutV xs lo hi)))))
theorem sl_tupX : SlR X (rSlX X.K) := by
  intro pins s σ H x v vl vu lo hi sl Q I rx hs pl pu h
  obtain ⟨a, xs, rfl, hx, q1, q2⟩ := h
  cases rx
  obtain ⟨its, r, ht, hz⟩ := I.tuple hx
  have hl : its.toArray.size = xs.length := by rw [List.size_toArray]; exact r.length.symm
  refine ⟨"tuple", _, PyProof.Rows.slot_tuple_getitem.lookup, ht.typeIs, ?_⟩
  by_cases hw : HT.sIx xs.length 0 lo = 0 ∧ HT.sIx xs.length xs.length hi = xs.length
  · exact getItem_tuple_whole ht hs pl pu (by rw [hl]; exact hw) ⟨.ref a, H, I, rfl, q1 hw⟩
  · refine HT.getItem_tuple_cut ht hs pl pu (by rw [hl]; exact hw) ?_ (by rw [hl]; exact hz)
    rw [hl]
    have rc : Vals (cutV xs lo hi) (((its.drop (HT.sIx xs.length 0 lo)).take (HT.sIx xs.length xs.length hi - HT.sIx xs.length 0 lo))) := (r.drop _).take _
    exact ⟨.ref s.heap.objs.size, _, inv_tup I rc (Nat.le_trans (cutV_length xs lo hi) hz) (tk := s.toks), rfl, q2 _ (tupO _) (inv_free I) rfl⟩
end
/-! ### tuple * n -/
theorem tuple_mul1 (l : Addr) (items : Array Value) (n : Nat) (dd : Option Addr) (sl : Array (Option Value)) (x : Int) (u : Tok) (c0 : (decide (x < -(2 ^ 63)) || decide (x ≥ 2 ^ 63)) = false) (c1 : (items.isEmpty || x == 1) = true) :
    Meets (Builtin.«tuple.__mul__» ⟨[.ref l, .int x u], []⟩) (fun _ R s => s.heap.get? l = some { cls := .type "tuple", dict := dd, data := .seq items n, slots := sl } ∧
      R (.ok (.ret (Value.ref l))) s) :=
  .of_wp fun prog w A R s h => by
    obtain ⟨hp, g, d, tk, os⟩ := s
    obtain ⟨hl, h⟩ := h
    have f1 := AutoSeq1.idx_int
    wp_walk using wpAny_loadPart' hl
    repeat (first
      | (refine wpAny_ite_false (decide_eq_false (by rw [c0]; exact Bool.false_ne_true)) ?_; wp_walk using wpAny_loadPart' hl)
      | (refine wpAny_ite_true (decide_eq_true (by rw [c1])) ?_; wp_walk using wpAny_loadPart' hl))
    exact ⟨_, rfl, h⟩
theorem tuple_mul0 (l : Addr) (items : Array Value) (n : Nat) (dd : Option Addr) (sl : Array (Option Value)) (x : Int) (u : Tok) (c0 : (decide (x < -(2 ^ 63)) || decide (x ≥ 2 ^ 63)) = false) (c1 : (items.isEmpty || x == 1) = false) (c2 : (decide (x ≤ 0) || items.isEmpty) = true) :
    Meets (Builtin.«tuple.__mul__» ⟨[.ref l, .int x u], []⟩) (fun _ R s => s.heap.get? l = some { cls := .type "tuple", dict := dd, data := .seq items n, slots := sl } ∧
      R (.ok (.ret (Value.ref s.heap.objs.size))) { s with heap := s.heap.push { cls := Value.type "tuple", data := Data.seq #[] }, toks := s.toks }) :=
  .of_wp fun prog w A R s h => by
    obtain ⟨hp, g, d, tk, os⟩ := s
    obtain ⟨hl, h⟩ := h
    have f1 := AutoSeq1.idx_int
    wp_walk using wpAny_loadPart' hl
    repeat (first
      | (refine wpAny_ite_false (decide_eq_false (by rw [c0]; exact Bool.false_ne_true)) ?_; wp_walk using wpAny_loadPart' hl)
      | (refine wpAny_ite_false (decide_eq_false (by rw [c1]; exact Bool.false_ne_true)) ?_; wp_walk using wpAny_loadPart' hl)
      | (refine wpAny_ite_true (decide_eq_true (by rw [c2])) ?_; wp_walk using wpAny_loadPart' hl))
    exact ⟨_, rfl, h⟩
def rRepX (K : PySem.W.Frag) : R2 := fun x y H Q => ∃ l k xs, x = .ref l ∧ y = .int k ∧ SqT K H l xs ∧ 0 ≤ k ∧ k ≤ 1000 ∧ xs.length ≤ 1000 ∧ (k = 1 ∨ xs = [] → Q (.ref l) H) ∧ ∀ p o, H p = none → o.dict = none → Q (.ref p) (upd H p (.frz o (.tup (List.replicate k.toNat xs).flatten)))
section
variable {X : Cx}
theorem op_repX : OpR X (binaryOp .Mult) (rRepX X.K) := by
  intro pins s σ H x y v u Q I rx ry h
  obtain ⟨l, k, xs, rfl, rfl, hT, k0, k1, hx, q1, q⟩ := h
  cases rx
  obtain ⟨t, rfl⟩ := ry
  obtain ⟨its, r, ⟨⟨cls, dd, data, sl⟩, ho, hc, n, hd⟩, hs⟩ := I.tuple hT
  simp only at hc hd
  subst hc hd
  have hl := r.length
  have hsz : its.toArray.size = xs.length := by rw [List.size_toArray, hl]
  have c0 : (decide (k < -(2 ^ 63)) || decide (k ≥ 2 ^ 63)) = false := by
    rw [decide_eq_false (by omega), decide_eq_false (by omega)] <;> rfl
  by_cases e2 : k = 1 ∨ xs = []
  · have c1 : (its.toArray.isEmpty || k == 1) = true := by
      rcases e2 with e | e
      · rw [e]; simp
      · subst e
        cases r
        rfl
    exact wpAny_binaryOp_repeat_ref (T := "tuple") (U := "int") (by decide) ⟨_, ho, rfl⟩ (fun s' => typeIs_int s' k t) noFill_tuple_mul F.fills_int_mul F.slot_int_rmul repeat_tuple F.slot_int_index.lookup
      (call_meets F.slot_int_rmul (typeIs_int s k t) F.entry_int_rmul (F.args_int_rmul_2 _ _) (int_rmul_tuple k t l its.toArray n dd sl)
        ⟨ho, rfl, ⟨_, ho, rfl⟩, call_meets F.slot_tuple_mul ⟨_, ho, rfl⟩ F.entry_tuple_mul (F.args_tuple_mul_2 _ _) (tuple_mul1 l its.toArray n dd sl k t c0 c1) ⟨ho, ⟨.ref l, H, I, rfl, q1 e2⟩⟩⟩)
  have hne : xs ≠ [] := fun e => e2 (.inr e)
  have e1 : ¬ k = 1 := fun e => e2 (.inl e)
  have hi : its.toArray.isEmpty = false := by
    cases its with
    | nil => cases r; exact absurd rfl hne
    | cons a b => rfl
  by_cases e0 : k = 0
  · subst e0
    refine wpAny_binaryOp_repeat_ref (T := "tuple") (U := "int") (by decide) ⟨_, ho, rfl⟩ (fun s' => typeIs_int s' 0 t) noFill_tuple_mul F.fills_int_mul F.slot_int_rmul repeat_tuple F.slot_int_index.lookup
      (call_meets F.slot_int_rmul (typeIs_int s 0 t) F.entry_int_rmul (F.args_int_rmul_2 _ _) (int_rmul_tuple 0 t l its.toArray n dd sl)
        ⟨ho, rfl, ⟨_, ho, rfl⟩, call_meets F.slot_tuple_mul ⟨_, ho, rfl⟩ F.entry_tuple_mul (F.args_tuple_mul_2 _ _) (tuple_mul0 l its.toArray n dd sl 0 t (by decide) (by rw [hi]; rfl) (by rw [hi]; rfl)) ⟨ho, ?_⟩⟩)
    exact ⟨.ref s.heap.objs.size, _, inv_tup I (.nil : Vals [] []) (by decide) (tk := s.toks), rfl, q _ (tupO []) (inv_free I) rfl⟩
  have hm : ((its.toArray.size : Nat) : Int) * k ≤ 1000000 := by
    rw [hsz]
    have a1 : ((xs.length : Nat) : Int) * k ≤ 1000 * k := Int.mul_le_mul_of_nonneg_right (by omega) (by omega)
    omega
  have rl : (List.replicate k.toNat xs).flatten.length ≤ sizeLine := by
    rw [PyProof.Rows.lm_len_rep_flat, sizeLine_eq]
    have a1 : k.toNat * xs.length ≤ 1000 * 1000 := Nat.mul_le_mul (by omega) hx
    omega
  have rr := r.rep k.toNat
  have flen : (List.replicate k.toNat its).flatten.length ≤ sizeLine := by rw [← rr.length]; exact rl
  have c1 : (its.toArray.isEmpty || k == 1) = false := by
    rw [hi, Bool.false_or]
    exact beq_eq_false_iff_ne.mpr e1
  have c2 : (decide (k ≤ 0) || its.toArray.isEmpty) = false := by
    rw [hi, Bool.or_false]
    exact decide_eq_false (by omega)
  have c4 : Builtin.Tuple.tupleTooMany (((its.toArray.size : Nat) : Int) * k) = false := by
    unfold Builtin.Tuple.tupleTooMany
    rw [sizeLine_eq]
    exact decide_eq_false (by omega)
  refine wpAny_binaryOp_repeat_ref (T := "tuple") (U := "int") (by decide) ⟨_, ho, rfl⟩ (fun s' => typeIs_int s' k t) noFill_tuple_mul F.fills_int_mul F.slot_int_rmul repeat_tuple F.slot_int_index.lookup
    (call_meets F.slot_int_rmul (typeIs_int s k t) F.entry_int_rmul (F.args_int_rmul_2 _ _) (int_rmul_tuple k t l its.toArray n dd sl)
      ⟨ho, rfl, ⟨_, ho, rfl⟩, call_meets F.slot_tuple_mul ⟨_, ho, rfl⟩ F.entry_tuple_mul (F.args_tuple_mul_2 _ _) (tuple_mulW l its.toArray n dd sl k t c0 c1 c2 (by omega) c4 (by rw [size_rep, List.size_toArray]; exact flen)) ⟨ho, ?_⟩⟩)
  rw [size_rep]
  exact ⟨.ref s.heap.objs.size, _, inv_tup I rr rl (tk := s.toks), rfl, q _ (tupO _) (inv_free I) rfl⟩
end
end MP
/-! MPC: wishes that a meaning gives; names, constants, displays, operators, tests. -/
namespace MP
open PySem PySem.Spec PyProof.Rows L2
open Classical
/-- an own error as it lies: its class, its dict -/
def XR (K : Fg) (x : Xn) (cls : Value) (d : Option Addr) (H : Hp) : Prop := x.a = none ∧ x.c ∈ xnames ∧ (He.Fa.glo (Str.ofString x.c)).ok K = true ∧ cls = .ref (He.ga K (Str.ofString x.c)) ∧ d = none
/-- what is wished behind a run from φ, m, H -/
def Pst {α : Type} (K : Fg) (Wx : WX) (σ : L2.St) (Z : List Addr) (φ : List Addr) (m : Mem) (H : Hp) (G : α → List Addr → Mem → Hp → Prop) : Res α → Prop
  | .ok a m' => ∀ φ' H', SR K φ' m' Z H' → Gr φ m H φ' m' H' → G a φ' m' H'
  | .exc e m' => ∀ φ' H' cls d, SR K φ' m' Z H' → Gr φ m H φ' m' H' → XR K e cls d H' → Wx cls d σ H'
  | .no => False
section
variable {α β : Type} {K : Fg} {Wx : WX} {σ : L2.St} {Z φ φ1 : List Addr} {m m1 : Mem} {H H1 : Hp} {G : α → List Addr → Mem → Hp → Prop} {G' : β → List Addr → Mem → Hp → Prop}
theorem Pst.shift {r : Res α} (h : Pst K Wx σ Z φ m H G r) (g : Gr φ m H φ1 m1 H1) (l : φ.length = m.length) : Pst K Wx σ Z φ1 m1 H1 G r := by
  cases r with
  | no => exact h
  | ok a m' => exact fun φ' H' s' g' => h φ' H' s' (g.trans g' l)
  | exc e m' => exact fun φ' H' cls d s' g' => h φ' H' cls d s' (g.trans g' l)
theorem Pst.imp {G2 : α → List Addr → Mem → Hp → Prop} {r : Res α} (h : Pst K Wx σ Z φ m H G r) (i : ∀ a φ' m' H', r = .ok a m' → SR K φ' m' Z H' → Gr φ m H φ' m' H' → G a φ' m' H' → G2 a φ' m' H') : Pst K Wx σ Z φ m H G2 r := by
  cases r with
  | no => exact h
  | ok a m' => exact fun φ' H' s' g' => i a φ' m' H' rfl s' g' (h φ' H' s' g')
  | exc e m' => exact h
theorem Pst.seq {r : Res α} {g : α → Mem → Res β} (l : φ.length = m.length) (h : Pst K Wx σ Z φ m H G' (r.bind g)) : Pst K Wx σ Z φ m H (fun a φ1 m1 H1 => Pst K Wx σ Z φ1 m1 H1 G' (g a m1)) r := by
  cases r with
  | no => exact h
  | ok a m' => exact fun φ' H' s' g' => Pst.shift h g' l
  | exc e m' => exact h
/-- there is a value -/
theorem Pst.opt {o : Option α} (h : Pst K Wx σ Z φ m H G (optR o m)) : ∃ a, o = some a ∧ Pst K Wx σ Z φ m H G (.ok a m) := by
  cases o with
  | none => exact h.elim
  | some a => exact ⟨a, rfl, h⟩
theorem Pst.here {a : α} (s : SR K φ m Z H) (h : Pst K Wx σ Z φ m H G (.ok a m)) : G a φ m H := h φ H s Gr.refl
end
abbrev GV (K : Fg) (Z : List Addr) (Q : VK) : W → List Addr → Mem → Hp → Prop := fun w φ m H => ∀ x, RW K φ (hid φ m Z H) w x → Q x H
def tE (K : Fg) (Wx : WX) (f : Vr → Mem → Res W) : TE := fun σ H Q => ∃ φ Z v m, SR K φ m Z H ∧ RV K φ (hid φ m Z H) v σ ∧ Pst K Wx σ Z φ m H (GV K Z Q) (f v m)
def tT (K : Fg) (Wx : WX) (f : Vr → Mem → Res Bool) : TT := fun σ H Q => ∃ φ Z v m, SR K φ m Z H ∧ RV K φ (hid φ m Z H) v σ ∧ Pst K Wx σ Z φ m H (fun b _ _ H' => Q b H') (f v m)
def tAr (K : Fg) (Wx : WX) (f : Vr → Mem → Res (List W)) : TA := fun σ H Q => ∃ φ Z v m, SR K φ m Z H ∧ RV K φ (hid φ m Z H) v σ ∧ Pst K Wx σ Z φ m H (fun ws φ' m' H' => ∀ xs, RWs K φ' (hid φ' m' Z H') ws xs → Q xs H') (f v m)
/-- a new list that nobody else knows -/
def tFr (K : Fg) (Wx : WX) (f : Vr → Mem → Res W) : TE := fun σ H Q => ∃ φ Z v m, SR K φ m Z H ∧ RV K φ (hid φ m Z H) v σ ∧
  Pst K Wx σ Z φ m H (fun w φ' m' H' => (∃ l, w = .d (.list l)) ∧ ∀ p vs l, w = .d (.list l) → H' p = none → DpAll K (hid φ' m' Z H') vs l → PyData.canLayAll0 l = true → Q (.ref p) (upd H' p (.lst vs))) (f v m)
section
variable {X : Cx} {e a b c : Expr} {K : Fg} {Wx : WX}
theorem peImp {t t' : TE} (h : PE X e t) (i : ∀ σ H Q, t' σ H Q → t σ H Q) : PE X e t' := ⟨fun pins s σ H Q I q => h.run pins s σ H Q I (i σ H Q q)⟩
theorem ptImp {t t' : TT} (h : PT X e t) (i : ∀ σ H Q, t' σ H Q → t σ H Q) : PT X e t' := ⟨fun pins s σ H Q I q => h.run pins s σ H Q I (i σ H Q q)⟩
theorem pwImp {t t' : TT} (h : PW X e t) (i : ∀ σ H Q, t' σ H Q → t σ H Q) : PW X e t' := ⟨fun wh pins s σ H Q I q => h.run wh pins s σ H Q I (i σ H Q q)⟩
theorem paImp {es : List Expr} {t t' : TA} (h : PA X es t) (i : ∀ σ H Q, t' σ H Q → t σ H Q) : PA X es t' := ⟨fun pos pins s σ H Q I q => h.run pos pins s σ H Q I (i σ H Q q)⟩
theorem vw_rd {φ Z : List Addr} {m : Mem} {H : Hp} {w : W} {x : V} {p : PyData} (s : SR K φ m Z H) (r : RW K φ (hid φ m Z H) w x) (h : vw m w = some p) :
    (Dp K (hid φ m Z H) x p ∨ ∃ a vs l, x = .ref a ∧ p = .list l ∧ H a = some (.lst vs) ∧ DpAll K (hid φ m Z H) vs l) ∧ p.canLay0 = true := by
  cases w with
  | d y =>
    have e : y = p := Option.some.inj h
    subst e
    exact ⟨.inl r.1, r.2⟩
  | ref n =>
    obtain ⟨a, rfl, hp⟩ := r
    have h' : (match m[n]? with | some (.lst l) => some (PyData.list l) | _ => none) = some p := h
    cases q : m[n]? with
    | none => rw [q] at h'; cases h'
    | some c =>
      rw [q] at h'
      have k := s.cell n a c hp q
      cases c with
      | dead => cases h'
      | lst l =>
        obtain ⟨vs, e1, e2, e3⟩ := k
        cases h'
        exact ⟨.inr ⟨a, vs, l, rfl, rfl, e1, e2⟩, by simpa [PyData.canLay0] using e3⟩
      | dct l => exact k.elim
      | rfs l => cases h'
      | obj c l => exact k.elim
  | scr l => cases h
  | exn l => cases h
theorem hid_le {φ Z : List Addr} {m : Mem} {H : Hp} : Same (hid φ m Z H) H := fun a o h => (hid_some.mp h).2.2
/-- what a value is, by the whole heap -/
theorem vw_dp {φ Z : List Addr} {m : Mem} {H : Hp} {w : W} {x : V} {p : PyData} (s : SR K φ m Z H) (r : RW K φ (hid φ m Z H) w x) (h : vw m w = some p) : Dp K H x p ∧ p.canLay0 = true := by
  refine ⟨?_, (vw_rd s r h).2⟩
  rcases (vw_rd s r h).1 with q | ⟨a, vs, l, rfl, rfl, e1, e2⟩
  · exact dpMono hid_le _ _ q
  · exact .lst e1 (dpMonoL hid_le _ _ e2)
/-- a list that is read: its items are data of the shown heap -/
theorem vw_list {φ Z : List Addr} {m : Mem} {H : Hp} {w : W} {x : V} {l : List PyData} (s : SR K φ m Z H) (r : RW K φ (hid φ m Z H) w x) (h : vw m w = some (.list l)) :
    ∃ a vs, x = .ref a ∧ H a = some (.lst vs) ∧ DpAll K (hid φ m Z H) vs l ∧ PyData.canLayAll0 l = true := by
  obtain ⟨q, hc⟩ := vw_rd s r h
  have hc' : PyData.canLayAll0 l = true := by simpa [PyData.canLay0] using hc
  rcases q with q | ⟨a, vs, l', rfl, e, e1, e2⟩
  · cases q with
    | lst h1 h2 => exact ⟨_, _, rfl, hid_le _ _ h1, h2, hc'⟩
  · cases e
    exact ⟨a, vs, rfl, e1, e2, hc'⟩
theorem sqtMono {H H' : Hp} (s : Same H H') {a : Addr} {xs : List V} (h : SqT K H a xs) : SqT K H' a xs := by
  rcases h with h | h
  · rcases h with h1 | ⟨o, h1⟩
    · exact .inl (.inl (s _ _ h1))
    · exact .inl (.inr ⟨o, s _ _ h1⟩)
  · exact .inr h
theorem vw_tup {φ Z : List Addr} {m : Mem} {H : Hp} {w : W} {x : V} {l : List PyData} (s : SR K φ m Z H) (r : RW K φ (hid φ m Z H) w x) (h : vw m w = some (.tuple l)) :
    ∃ a vs, x = .ref a ∧ SqT K H a vs ∧ SqX (hid φ m Z H) a vs ∧ DpAll K (hid φ m Z H) vs l ∧ PyData.canLayAll0 l = true := by
  obtain ⟨q, hc⟩ := vw_rd s r h
  have hc' : PyData.canLayAll0 l = true := by simpa [PyData.canLay0] using hc
  rcases q with q | ⟨a, vs, l', rfl, e, e1, e2⟩
  · cases q with
    | tup h1 h2 => exact ⟨_, _, rfl, sqtMono hid_le h1.sq, h1, h2, hc'⟩
  · cases e
theorem vw_flat {φ Z : List Addr} {m : Mem} {H : Hp} {w : W} {x : V} {p : PyData} (s : SR K φ m Z H) (r : RW K φ (hid φ m Z H) w x) (h : vw m w = some p) :
    (∀ i, p = .int i → x = .int i) ∧ (∀ i, p = .bool i → x = .bl i) ∧ (∀ i, p = .str i → x = .str i) ∧ (p = .none → x = .non) := by
  obtain ⟨q, _⟩ := vw_rd s r h
  rcases q with q | ⟨a, vs, l', rfl, e, e1, e2⟩
  · refine ⟨fun i e => ?_, fun i e => ?_, fun i e => ?_, fun e => ?_⟩ <;> (subst e; cases q; rfl)
  · subst e
    exact ⟨fun i e => (by cases e), fun i e => (by cases e), fun i e => (by cases e), fun e => (by cases e)⟩
/-! ### names, constants -/
theorem l_var {i : Nat} {x : Str} {pos : Pos} {cf : CallF} (hN : X.N[i]? = some x) (hv : Vis X.env.scope x) (h1 : (x == ("__debug__" : Str)) = false) (h2 : (x == ("__classdict__" : Str)) = false) :
    PE X (.Name x pos) (tE K Wx (den cf (.var i))) := by
  refine peImp (pe_var hN hv h1 h2) fun σ H Q h => ?_
  obtain ⟨φ, Z, v, m, s, r, h⟩ := h
  have e : den cf (.var i) v m = (match v[i]? with | some (some w) => .ok w m | _ => .no) := rfl
  rw [e] at h
  cases q : v[i]? with
  | none => rw [q] at h; exact h.elim
  | some o =>
    rw [q] at h
    cases o with
    | none => exact h.elim
    | some w =>
      obtain ⟨y, h3, h4⟩ := r.at_ i w q
      exact ⟨y, h3, h.here s y h4⟩
theorem l_lit {x : PyData} {v0 : V} {cf : CallF} (h : PE X e (tC v0)) (hx : ∀ Hh, Dp K Hh v0 x) (hc : x.canLay0 = true) : PE X e (tE K Wx (den cf (.lit x))) := by
  refine peImp h fun σ H Q h => ?_
  obtain ⟨φ, Z, v, m, s, r, h⟩ := h
  exact h φ H s Gr.refl v0 ⟨hx _, hc⟩
/-! ### argument lists -/
theorem l_nil {cf : CallF} : PA X [] (tAr K Wx (denA cf .nil)) := by
  refine paImp pa_nil fun σ H Q h => ?_
  obtain ⟨φ, Z, v, m, s, r, h⟩ := h
  exact h φ H s Gr.refl [] .nil
def noStar : Expr → Bool
  | .Starred _ _ => false
  | _ => true
theorem starEach_ne {e : Expr} (h : noStar e = true) (es : List Expr) (env : PySem.Env) : starEach (e :: es) env = (false, eval e env) :: starEach es env := by
  cases e <;> first | rfl | cases h
theorem l_cons {cf : CallF} {t ts : E} {es : List Expr} (h1 : PE X e (tE K Wx (den cf t))) (h2 : PA X es (tAr K Wx (denA cf ts))) (hs : noStar e = true) :
    PA X (e :: es) (tAr K Wx (denA cf (.cons t ts))) := by
  refine paImp (pa_cons h1 h2 (starEach_ne hs _ _)) fun σ H Q h => ?_
  obtain ⟨φ, Z, v, m, s, r, h⟩ := h
  refine ⟨φ, Z, v, m, s, r, (h.seq s.len).imp fun w φ1 m1 H1 _ s1 g1 h x r1 => ⟨φ1, Z, v, m1, s1, g1.rv s.len r, (h.seq s1.len).imp fun l φ2 m2 H2 _ s2 g2 h xs r2 => ?_⟩⟩
  exact h φ2 H2 s2 Gr.refl (x :: xs) (.cons (g2.rw s1.len r1) r2)
/-! ### displays -/
theorem asD_all {φ : List Addr} {Hh : Hp} : ∀ {ws : List W} {xs : List V} {l : List PyData}, RWs K φ Hh ws xs → ws.mapM asD = some l → DpAll K Hh xs l ∧ PyData.canLayAll0 l = true
  | _, _, l, .nil, h => by
    have e : l = [] := by simpa using h.symm
    subst e
    exact ⟨.nil, rfl⟩
  | w :: ws, x :: xs, l, .cons r t, h => by
    simp only [List.mapM_cons, Option.bind_eq_bind, Option.bind_eq_some_iff] at h
    obtain ⟨y, h1, k, h2, h3⟩ := h
    cases w with
    | ref n => cases h1
    | scr n => cases h1
    | exn n => cases h1
    | d z =>
      have e : z = y := Option.some.inj h1
      subst e
      have e : z :: k = l := Option.some.inj h3
      subst e
      obtain ⟨q1, q2⟩ := asD_all t h2
      exact ⟨.cons r.1 q1, by simp [PyData.canLayAll0, r.2, q2]⟩
theorem l_tup {cf : CallF} {ts : E} {es : List Expr} {k : Nat} {pos : Pos} (h1 : PA X es (tAr K Wx (denA cf ts))) : PE X (.Tuple es k pos) (tE K Wx (den cf (.tup ts))) := by
  refine peImp (pe_tupX h1) fun σ H Q h => ?_
  obtain ⟨φ, Z, v, m, s, r, h⟩ := h
  refine ⟨φ, Z, v, m, s, r, (h.seq s.len).imp fun ws φ1 m1 H1 _ s1 g1 h xs r1 => ?_⟩
  obtain ⟨w, ew, h⟩ := h.opt
  obtain ⟨l, e2, e3⟩ := Option.bind_eq_some_iff.mp ew
  obtain ⟨k1, k2⟩ := asD_all r1 e2
  by_cases hl : l.length ≤ sizeLine
  · rw [if_pos hl] at e3
    cases e3
    refine ⟨by rw [DpAll.len k1]; exact hl, fun p o hp ho => ?_⟩
    obtain ⟨s2, g2, v2⟩ := s1.new hp (.frz o (.tup xs))
    exact h φ1 _ s2 g2 (.ref p) ⟨.tup ⟨o, v2, ho⟩ (dpMonoL (g2.same s1.len) _ _ k1), by simpa [PyData.canLay0] using k2⟩
  · rw [if_neg hl] at e3; cases e3
theorem l_lstF {cf : CallF} {ts : E} {es : List Expr} {pos : Pos} (h1 : PA X es (tAr K Wx (denA cf ts))) : PE X (.List es pos) (tFr K Wx (den cf (.lst ts))) := by
  refine peImp (pe_lst h1) fun σ H Q h => ?_
  obtain ⟨φ, Z, v, m, s, r, h⟩ := h
  refine ⟨φ, Z, v, m, s, r, (h.seq s.len).imp fun ws φ1 m1 H1 _ s1 g1 h xs r1 => ?_⟩
  obtain ⟨w, ew, h⟩ := h.opt
  obtain ⟨l, e2, e3⟩ := Option.bind_eq_some_iff.mp ew
  obtain ⟨k1, k2⟩ := asD_all r1 e2
  by_cases hl : l.length ≤ sizeLine
  · rw [if_pos hl] at e3
    cases e3
    exact ⟨by rw [DpAll.len k1]; exact hl, fun p hp => (h.here s1).2 p xs l rfl hp k1 k2⟩
  · rw [if_neg hl] at e3; cases e3
/-- a new list as data -/
theorem i_ofFr {f : Vr → Mem → Res W} (hf : ∀ v m w m', f v m = .ok w m' → ∃ l, w = .d (.list l)) (σ : L2.St) (H : Hp) (Q : VK) (h : tE K Wx f σ H Q) : tFr K Wx f σ H Q := by
  obtain ⟨φ, Z, v, m, s, r, h⟩ := h
  refine ⟨φ, Z, v, m, s, r, ?_⟩
  cases q : f v m with
  | no => rw [q] at h; exact h
  | exc x m1 => rw [q] at h; exact h
  | ok w m1 =>
    rw [q] at h
    refine fun φ1 H1 s1 g1 => ⟨hf _ _ _ _ q, fun p vs l ew hp k1 k2 => ?_⟩
    subst ew
    obtain ⟨s2, g2, v2⟩ := s1.new hp (.lst vs)
    exact h φ1 _ s2 (g1.trans g2 s.len) (.ref p) ⟨.lst v2 (dpMonoL (g2.same s1.len) _ _ k1), by simpa [PyData.canLay0] using k2⟩
theorem ofFr {f : Vr → Mem → Res W} (hf : ∀ v m w m', f v m = .ok w m' → ∃ l, w = .d (.list l)) (h : PE X e (tFr K Wx f)) : PE X e (tE K Wx f) := peImp h (i_ofFr hf)
/-- .. as a changing one -/
theorem newC_list {σ : L2.St} {Z φ : List Addr} {m : Mem} {H : Hp} {G : W → List Addr → Mem → Hp → Prop} {w : W} (h : Pst K Wx σ Z φ m H G (newC true w m)) : ∃ l, w = .d (.list l) := by
  unfold newC at h
  rw [if_pos rfl] at h
  split at h
  · exact ⟨_, rfl⟩
  · exact h.elim
theorem i_ofFrNew {f : Vr → Mem → Res W} (σ : L2.St) (H : Hp) (Q : VK) (h : tE K Wx (fun v m => (f v m).bind fun w m1 => newC true w m1) σ H Q) : tFr K Wx f σ H Q := by
  obtain ⟨φ, Z, v, m, s, r, h⟩ := h
  refine ⟨φ, Z, v, m, s, r, (h.seq s.len).imp fun w φ1 m1 H1 _ s1 g1 h => ⟨newC_list h, fun p vs l ew hp k1 k2 => ?_⟩⟩
  subst ew
  obtain ⟨s2, g2⟩ := s1.cellNew hp k1 k2
  refine h _ _ s2 g2 (.ref p) ⟨p, rfl, ?_⟩
  rw [← s1.len]
  simp
theorem ofFrNew {f : Vr → Mem → Res W} (h : PE X e (tFr K Wx f)) : PE X e (tE K Wx fun v m => (f v m).bind fun w m1 => newC true w m1) := peImp h i_ofFrNew
/-! ### two parts, then an operator by values -/
/-- what an operator's rule asks, from the values' data -/
def Op2 (K : Fg) (k : W → W → Mem → Option W) (R : R2) : Prop :=
  ∀ φ Z m H w1 w2 w x y Q, SR K φ m Z H → RW K φ (hid φ m Z H) w1 x → RW K φ (hid φ m Z H) w2 y → k w1 w2 m = some w →
    (∀ H' z, SR K φ m Z H' → Gr φ m H φ m H' → RW K φ (hid φ m Z H') w z → Q z H') → R x y H Q
theorem l_two {f g : Vr → Mem → Res W} {k : W → W → Mem → Option W} {R : R2} {ee : Expr} (rule : PE X ee (tOp R (tE K Wx f) (tE K Wx g))) (hk : Op2 K k R) :
    PE X ee (tE K Wx fun v m => (f v m).bind fun x m1 => (g v m1).bind fun y m2 => optR (k x y m2) m2) := by
  refine peImp rule fun σ H Q h => ?_
  obtain ⟨φ, Z, v, m, s, r, h⟩ := h
  refine ⟨φ, Z, v, m, s, r, (h.seq s.len).imp fun w1 φ1 m1 H1 _ s1 g1 h x r1 => ⟨φ1, Z, v, m1, s1, g1.rv s.len r, (h.seq s1.len).imp fun w2 φ2 m2 H2 _ s2 g2 h y r2 => ?_⟩⟩
  obtain ⟨w, ew, h⟩ := h.opt
  exact hk φ2 Z m2 H2 w1 w2 w x y Q s2 (g2.rw s1.len r1) r2 ew fun H' z s' g' r' => h φ2 H' s' g' z r'
theorem l_twoT {f g : Vr → Mem → Res W} {k : W → W → Mem → Option Bool} {R : R2} {ee : Expr} (rule : PT X ee (tTest (tOp R (tE K Wx f) (tE K Wx g)))) (hk : Op2 K (fun x y m => (k x y m).map fun t => .d (.bool t)) R) :
    PT X ee (tT K Wx fun v m => (f v m).bind fun x m1 => (g v m1).bind fun y m2 => optR (k x y m2) m2) := by
  refine ptImp rule fun σ H Q h => ?_
  obtain ⟨φ, Z, v, m, s, r, h⟩ := h
  refine ⟨φ, Z, v, m, s, r, (h.seq s.len).imp fun w1 φ1 m1 H1 _ s1 g1 h x r1 => ⟨φ1, Z, v, m1, s1, g1.rv s.len r, (h.seq s1.len).imp fun w2 φ2 m2 H2 _ s2 g2 h y r2 => ?_⟩⟩
  obtain ⟨t, ew, h⟩ := h.opt
  refine hk φ2 Z m2 H2 w1 w2 (.d (.bool t)) x y _ s2 (g2.rw s1.len r1) r2 (by dsimp only; rw [ew]; rfl) fun H' z s' g' r' => ?_
  obtain ⟨r1, _⟩ := r'
  cases r1
  exact ⟨t, rfl, h φ2 H' s' g'⟩
end
end MP
/-! MPCS: a star in a display. -/
namespace MP
open PySem PySem.Spec PyProof.Rows L2
section
variable {X : Cx} {K : Fg} {Wx : WX} {φ : List Addr} {Hh : Hp}
theorem rws_d : ∀ {k : List PyData} {vs : List V}, DpAll K Hh vs k → PyData.canLayAll0 k = true → RWs K φ Hh (k.map W.d) vs
  | [], _, h, _ => by cases h; exact .nil
  | d :: k, _, h, hc => by
    have hc' : d.canLay0 = true ∧ PyData.canLayAll0 k = true := by simpa [PyData.canLayAll0] using hc
    cases h with
    | cons h1 h2 => exact .cons ⟨h1, hc'.1⟩ (rws_d h2 hc'.2)
theorem rws_app : ∀ {l k : List W} {xs ys : List V}, RWs K φ Hh l xs → RWs K φ Hh k ys → RWs K φ Hh (l ++ k) (xs ++ ys)
  | [], _, _, _, h, h' => by cases h; exact h'
  | w :: l, _, _, _, h, h' => by
    cases h with
    | cons h1 h2 => exact .cons h1 (rws_app h2 h')
theorem l_star {cf : CallF} {t ts : E} {e : Expr} {p : Pos} {es : List Expr} (h1 : PE X e (tE X.K Wx (den cf t))) (h2 : PA X es (tAr X.K Wx (denA cf ts))) :
    PA X (.Starred e p :: es) (tAr X.K Wx (denA cf (.star t ts))) := by
  refine paImp (StX.pa_star h1 h2) fun σ H Q h => ?_
  obtain ⟨φ, Z, v, m, s, r, h⟩ := h
  refine ⟨φ, Z, v, m, s, r, (h.seq s.len).imp fun w φ1 m1 H1 _ s1 g1 h x r1 => ?_⟩
  obtain ⟨k, ek, h⟩ := (h.seq s1.len).opt
  have h := h.here s1
  obtain ⟨q, e1, e2⟩ := Option.bind_eq_some_iff.mp ek
  have fin : ∀ {a : Addr} {vs : List V}, DpAll X.K (hid φ1 m1 Z H1) vs k → PyData.canLayAll0 k = true → tAr X.K Wx (denA cf ts) σ H1 fun ys H2 => Q (vs ++ ys) H2 := fun {a vs} hd hc => by
    refine ⟨φ1, Z, v, m1, s1, g1.rv s.len r, (h.seq s1.len).imp fun l φ2 m2 H2 _ s2 g2 h xs r2 => ?_⟩
    exact h φ2 H2 s2 Gr.refl (vs ++ xs) (rws_app (rws_d (dpMonoL (g2.same s1.len) _ _ hd) hc) r2)
  cases q with
  | list l =>
    have e : l = k := Option.some.inj e2
    subst e
    obtain ⟨a, vs, rfl, h3, h4, hc⟩ := vw_list s1 r1 e1
    exact ⟨a, vs, rfl, .inr (SqL.of h3), fin (a := a) h4 hc⟩
  | tuple l =>
    have e : l = k := Option.some.inj e2
    subst e
    obtain ⟨a, vs, rfl, h3, _, h4, hc⟩ := vw_tup s1 r1 e1
    exact ⟨a, vs, rfl, .inl h3, fin (a := a) h4 hc⟩
  | _ => cases e2
end
end MP
/-! MPBR: changing lists of changing lists in the heap. -/
namespace MP
open PySem PySem.Spec PyProof.Rows L2
open Classical
section
variable {K : Fg} {φ φ' φ2 : List Addr} {m m' m2 : Mem} {Z : List Addr} {H H' H2 : Hp}
/-- a cell falls away -/
theorem SR.kill (s : SR K φ m Z H) {n : Nat} (hn : n < m.length) : SR K φ (m.set n .dead) Z H ∧ Gr φ m H φ (m.set n .dead) H := by
  have g : Gr φ m H φ (m.set n .dead) H := by
    refine ⟨⟨[], by simp⟩, fun i h => ?_, fun a o h q => h, fun a h => h⟩
    by_cases e : i = n
    · subst e; rw [List.getElem?_set_self hn]
    · rw [List.getElem?_set_ne (Ne.symm e)]; exact h
  refine ⟨⟨by simp [s.len], s.nd, s.sep, s.zt, s.ft, fun i a c h1 h2 => ?_⟩, g⟩
  by_cases e : i = n
  · subst e; rw [List.getElem?_set_self hn] at h2; cases h2; trivial
  · rw [List.getElem?_set_ne (Ne.symm e)] at h2
    exact (s.cell i a c h1 h2).tr (fun _ h => h) (g.same s.len) same_pre
theorem rowsAt_set {m : Mem} {n : Nat} {c : Cell} : ∀ {ns : List Nat}, n ∉ ns → rowsAt (m.set n c) ns = rowsAt m ns
  | [], _ => rfl
  | k :: r, h => by
    unfold rowsAt
    rw [List.getElem?_set_ne (fun e => h (by simp [e])), rowsAt_set fun q => h (List.mem_cons_of_mem _ q)]
theorem SR.killAll : ∀ {ns : List Nat} {bs : List Addr} {ls : List PyData} {m : Mem}, SR K φ m Z H → adrs φ ns = some bs → rowsAt m ns = some ls → ns.Nodup →
    SR K φ (deadAll m ns) Z H ∧ Gr φ m H φ (deadAll m ns) H ∧ DpAll K (hid φ (deadAll m ns) Z H) (bs.map V.ref) ls ∧ PyData.canLayAll0 ls = true
  | [], bs, ls, m, s, ha, hr, _ => by
    cases ha; cases hr
    exact ⟨s, Gr.refl, .nil, rfl⟩
  | n :: r, bs, ls, m, s, ha, hr, nd => by
    unfold adrs at ha
    cases ea : φ[n]? with
    | none => rw [ea] at ha; cases ha
    | some p =>
      rw [ea] at ha
      obtain ⟨b, hb, rfl⟩ := Option.map_eq_some_iff.mp ha
      unfold rowsAt at hr
      split at hr
      · rename_i l hm
        obtain ⟨ls', hl, rfl⟩ := Option.map_eq_some_iff.mp hr
        obtain ⟨s1, g1, d1, c1⟩ := s.cellDead ea hm
        obtain ⟨nn, nd⟩ := List.nodup_cons.mp nd
        obtain ⟨s2, g2, d2, c2⟩ := SR.killAll s1 hb (by rw [rowsAt_set nn]; exact hl) nd
        refine ⟨s2, g1.trans g2 s.len, .cons (dpMono (g2.same s1.len) _ _ d1) d2, ?_⟩
        simp only [PyData.canLayAll0, Bool.and_eq_true]
        exact ⟨by simpa [PyData.canLay0] using c1, c2⟩
      · cases hr
theorem rowsAt_lst {m : Mem} : ∀ {ns : List Nat} {ls : List PyData}, rowsAt m ns = some ls → ∀ n ∈ ns, ∃ l, m[n]? = some (.lst l)
  | [], _, _, n, hn => by cases hn
  | k :: r, ls, h, n, hn => by
    unfold rowsAt at h
    split at h
    · rename_i l hm
      obtain ⟨ls', hl, rfl⟩ := Option.map_eq_some_iff.mp h
      rcases List.mem_cons.mp hn with rfl | hn
      · exact ⟨l, hm⟩
      · exact rowsAt_lst hl n hn
    · cases h
theorem live_kill {n : Nat} {ns : List Nat} : ∀ {m : Mem} {i : Nat}, (deadAll m ns)[i]? = some .dead ∨ (deadAll m ns)[i]? = m[i]? := by
  induction ns with
  | nil => intro m i; exact .inr rfl
  | cons k r ih =>
    intro m i
    rcases ih (m := m.set k .dead) (i := i) with h | h
    · exact .inl h
    · by_cases e : i = k
      · subst e
        by_cases hl : i < m.length
        · exact .inl (by show (deadAll (m.set i .dead) r)[i]? = _; rw [h, List.getElem?_set_self hl])
        · exact .inr (by show (deadAll (m.set i .dead) r)[i]? = _; rw [h, List.getElem?_eq_none (by rw [List.length_set]; omega), List.getElem?_eq_none (by omega)])
      · exact .inr (by show (deadAll (m.set k .dead) r)[i]? = _; rw [h, List.getElem?_set_ne (Ne.symm e)])
/-- a changing list of changing lists goes over into data -/
theorem SR.rowsDead (s : SR K φ m Z H) {n : Nat} {p : Addr} (hp : φ[n]? = some p) {ns : List Nat} {ls : List PyData} (hm : m[n]? = some (.rfs ns)) (nd : ns.Nodup) (hr : rowsAt m ns = some ls) :
    SR K φ (deadAll (m.set n .dead) ns) Z H ∧ Gr φ m H φ (deadAll (m.set n .dead) ns) H ∧ Dp K (hid φ (deadAll (m.set n .dead) ns) Z H) (.ref p) (.list ls) ∧ PyData.canLayAll0 ls = true := by
  have hlt : n < m.length := (List.getElem?_eq_some_iff.mp hm).1
  have hn : n ∉ ns := fun h => by
    obtain ⟨l, q⟩ := rowsAt_lst hr n h
    rw [hm] at q; cases q
  obtain ⟨bs, e1, e2⟩ := s.cell n p _ hp hm
  obtain ⟨s1, g1⟩ := s.kill hlt
  obtain ⟨s2, g2, d2, c2⟩ := SR.killAll s1 e2 (by rw [rowsAt_set hn]; exact hr) nd
  refine ⟨s2, g1.trans g2 s.len, .lst (hid_some.mpr ⟨s.sep p (List.mem_of_getElem? hp), ?_, e1⟩) d2, c2⟩
  rintro ⟨i, c, h1, h2, h3⟩
  obtain ⟨x1, y1⟩ := List.getElem?_eq_some_iff.mp h1
  obtain ⟨x2, y2⟩ := List.getElem?_eq_some_iff.mp hp
  have e : i = n := (List.getElem_inj s.nd).mp (y1.trans y2.symm)
  subst e
  rcases live_kill (n := 0) (ns := ns) (m := m.set i .dead) (i := i) with q | q
  · rw [q] at h2; cases h2; exact h3 rfl
  · rw [List.getElem?_set_self hlt] at q; rw [q] at h2; cases h2; exact h3 rfl
/-- a new changing list of changing lists -/
theorem SR.rfsNew (s : SR K φ m Z H) {p : Addr} (hp : H p = none) {ns : List Nat} {bs : List Addr} (ha : adrs φ ns = some bs) :
    SR K (φ ++ [p]) (m ++ [.rfs ns]) Z (upd H p (.lst (bs.map V.ref))) ∧ Gr φ m H (φ ++ [p]) (m ++ [.rfs ns]) (upd H p (.lst (bs.map V.ref))) := by
  have pf : p ∉ φ := fun h => s.ft p h hp
  have k : Same H (upd H p (.lst (bs.map V.ref))) := fun a u h => by rw [upd_ne (ne_of_none h hp)]; exact h
  have g : Gr φ m H (φ ++ [p]) (m ++ [.rfs ns]) (upd H p (.lst (bs.map V.ref))) := by
    refine ⟨⟨[p], rfl, fun a h => by simp at h; rw [h]; exact hp⟩, fun i h => ?_, fun a o h _ => k a o h, fun a h => ?_⟩
    · rw [List.getElem?_append_left (List.getElem?_eq_some_iff.mp h).1]; exact h
    · by_cases e : a = p
      · subst e; exact absurd hp h
      · rw [upd_ne e]; exact h
  refine ⟨⟨by simp [s.len], ?_, fun a h => ?_, fun a h => g.dom a (s.zt a h), fun a h => ?_, fun i a c h1 h2 => ?_⟩, g⟩
  · rw [List.nodup_append]
    exact ⟨s.nd, by simp, fun a h b hb => by simp at hb; subst hb; rintro rfl; exact pf h⟩
  · rcases List.mem_append.mp h with h | h
    · exact s.sep a h
    · simp at h; subst h; exact fun q => s.zt a q hp
  · rcases List.mem_append.mp h with h | h
    · exact g.dom a (s.ft a h)
    · simp at h; subst h; rw [upd_same]; simp
  · by_cases hi : i < φ.length
    · rw [List.getElem?_append_left hi] at h1
      rw [List.getElem?_append_left (by rw [← s.len]; exact hi)] at h2
      exact (s.cell i a c h1 h2).tr (fun o => k a o) (g.same s.len) ⟨[p], rfl⟩
    · have e : i = φ.length := by
        have := (List.getElem?_eq_some_iff.mp h1).1
        simp at this; omega
      subst e
      simp at h1
      rw [s.len] at h2
      simp at h2
      subst h1; subst h2
      exact ⟨bs, upd_same, adrs_pre ha⟩
/-- .. is changed -/
theorem SR.rfsSet (s : SR K φ m Z H) {n : Nat} {p : Addr} (hp : φ[n]? = some p) {n0 : List Nat} (hm : m[n]? = some (.rfs n0)) {ns : List Nat} {bs : List Addr} (ha : adrs φ ns = some bs) :
    SR K φ (m.set n (.rfs ns)) Z (upd H p (.lst (bs.map V.ref))) ∧ Gr φ m H φ (m.set n (.rfs ns)) (upd H p (.lst (bs.map V.ref))) := by
  have hlt : n < m.length := (List.getElem?_eq_some_iff.mp hm).1
  have lvi : ∀ a, lv φ (m.set n (.rfs ns)) a ↔ lv φ m a := fun a => by
    constructor
    · rintro ⟨i, c, h1, h2, h3⟩
      by_cases e : i = n
      · subst e; exact ⟨i, _, h1, hm, by simp⟩
      · rw [List.getElem?_set_ne (Ne.symm e)] at h2; exact ⟨i, c, h1, h2, h3⟩
    · rintro ⟨i, c, h1, h2, h3⟩
      by_cases e : i = n
      · subst e; exact ⟨i, .rfs ns, h1, by rw [List.getElem?_set_self hlt], by simp⟩
      · exact ⟨i, c, h1, by rw [List.getElem?_set_ne (Ne.symm e)]; exact h2, h3⟩
  have lp : lv φ m p := ⟨n, _, hp, hm, by simp⟩
  have he : hid φ (m.set n (.rfs ns)) Z (upd H p (.lst (bs.map V.ref))) = hid φ m Z H := by
    funext a
    unfold hid
    rw [lvi a]
    by_cases h : a ∈ Z ∨ lv φ m a
    · rw [if_pos h, if_pos h]
    · rw [if_neg h, if_neg h, upd_ne]
      rintro rfl; exact h (.inr lp)
  have dm : ∀ a, H a ≠ none → (upd H p (.lst (bs.map V.ref))) a ≠ none := fun a h => by
    by_cases e : a = p
    · subst e; rw [upd_same]; simp
    · rw [upd_ne e]; exact h
  have g : Gr φ m H φ (m.set n (.rfs ns)) (upd H p (.lst (bs.map V.ref))) := by
    refine ⟨⟨[], by simp⟩, fun i h => ?_, fun a o h q => ?_, dm⟩
    · by_cases e : i = n
      · subst e; rw [hm] at h; simp at h
      · rw [List.getElem?_set_ne (Ne.symm e)]; exact h
    · rw [upd_ne]; exact h
      rintro rfl; exact q lp
  refine ⟨⟨by simp [s.len], s.nd, s.sep, fun a h => dm a (s.zt a h), fun a h => dm a (s.ft a h), fun i a c h1 h2 => ?_⟩, g⟩
  rw [he]
  by_cases e : i = n
  · subst e
    rw [hp] at h1; cases h1
    rw [List.getElem?_set_self hlt] at h2; cases h2
    exact ⟨bs, upd_same, ha⟩
  · rw [List.getElem?_set_ne (Ne.symm e)] at h2
    have na : a ≠ p := by
      rintro rfl
      obtain ⟨x1, y1⟩ := List.getElem?_eq_some_iff.mp h1
      obtain ⟨x2, y2⟩ := List.getElem?_eq_some_iff.mp hp
      exact e ((List.getElem_inj s.nd).mp (y1.trans y2.symm))
    exact (s.cell i a c h1 h2).tr (fun o h => by rw [upd_ne na]; exact h) (fun _ _ h => h) same_pre
end
end MP
/-! MPD: the operators. -/
namespace MP
open PySem PySem.Spec PyProof.Rows L2
open Classical
section
variable {X : Cx} {K : Fg}
abbrev kBin (o : Op) : W → W → Mem → Option W := fun x y m => (vw m x).bind fun p => (vw m y).bind fun q => (binF o p q).map .d
theorem kBin_some {o : Op} {x y : W} {m : Mem} {w : W} (h : kBin o x y m = some w) : ∃ p q z, vw m x = some p ∧ vw m y = some q ∧ binF o p q = some z ∧ w = .d z := by
  obtain ⟨p, h1, h⟩ := Option.bind_eq_some_iff.mp h
  obtain ⟨q, h2, h⟩ := Option.bind_eq_some_iff.mp h
  obtain ⟨z, h3, h⟩ := Option.map_eq_some_iff.mp h
  exact ⟨p, q, z, h1, h2, h3, h.symm⟩
theorem rw_flat {φ : List Addr} {Hh : Hp} : (∀ i, RW K φ Hh (.d (.int i)) (.int i)) ∧ (∀ b, RW K φ Hh (.d (.bool b)) (.bl b)) ∧ RW K φ Hh (.d .none) .non :=
  ⟨fun i => ⟨.int i, rfl⟩, fun b => ⟨.bl b, rfl⟩, ⟨.non, rfl⟩⟩
def rAddAll (K : Fg) : R2 := fun x y H Q => rI0 (fun i j => .int (i + j)) x y H Q ∨ rCatX K x y H Q ∨ rCat x y H Q ∨ (∃ i j, x = .str i ∧ y = .str j ∧ i.length + j.length ≤ sizeLine ∧ Q (.str (i ++ j)) H)
theorem op_addAll : OpR X (binaryOp .Add) (rAddAll X.K) := op_add.or (op_catX.or (op_cat.or op_add_str))
theorem strOk_app {a b : Str} (h1 : PyData.strOk a = true) (h2 : PyData.strOk b = true) : PyData.strOk (a ++ b) = true := by
  unfold PyData.strOk at *
  have e : (a ++ b).cps = a.cps ++ b.cps := rfl
  rw [e, Array.all_append, h1, h2]
  rfl
theorem o_add : Op2 K (kBin .add) (rAddAll K) := by
  intro φ Z m H w1 w2 w x y Q s r1 r2 hk hq
  obtain ⟨p, q, z, h1, h2, h3, rfl⟩ := kBin_some hk
  have f1 := vw_flat s r1 h1
  have f2 := vw_flat s r2 h2
  cases p with
  | int a =>
    cases q with
    | int b =>
      cases h3
      exact .inl ⟨a, b, f1.1 a rfl, f2.1 b rfl, hq H _ s Gr.refl (rw_flat.1 _)⟩
    | _ => cases h3
  | str a =>
    cases q with
    | str b =>
      have e1 := f1.2.2.1 a rfl
      have e2 := f2.2.2.1 b rfl
      simp only [binF] at h3
      split at h3
      · cases h3
        refine .inr (.inr (.inr ⟨a, b, e1, e2, by assumption, hq H _ s Gr.refl ⟨.str _, ?_⟩⟩))
        have c1 := (vw_rd s r1 h1).2
        have c2 := (vw_rd s r2 h2).2
        exact strOk_app (by simpa [PyData.canLay0] using c1) (by simpa [PyData.canLay0] using c2)
      · cases h3
    | _ => cases h3
  | list a =>
    cases q with
    | list b =>
      obtain ⟨a1, vs1, rfl, g1, k1, c1⟩ := vw_list s r1 h1
      obtain ⟨a2, vs2, rfl, g2, k2, c2⟩ := vw_list s r2 h2
      simp only [binF] at h3
      split at h3
      · cases h3
        refine .inr (.inr (.inl ⟨a1, a2, vs1, vs2, rfl, rfl, g1, g2, by rw [DpAll.len k1, DpAll.len k2]; assumption, fun p hp => ?_⟩))
        obtain ⟨s2, g2, v2⟩ := s.new hp (.lst (vs1 ++ vs2))
        exact hq _ _ s2 g2 ⟨.lst v2 (dpMonoL (g2.same s.len) _ _ (DpAll.app k1 k2)), by simpa [PyData.canLay0] using canL_app c1 c2⟩
      · cases h3
    | _ => cases h3
  | tuple a =>
    cases q with
    | tuple b =>
      obtain ⟨a1, vs1, rfl, g1, g1', k1, c1⟩ := vw_tup s r1 h1
      obtain ⟨a2, vs2, rfl, g2, g2', k2, c2⟩ := vw_tup s r2 h2
      simp only [binF] at h3
      split at h3
      · cases h3
        refine .inr (.inl ⟨a1, a2, vs1, vs2, rfl, rfl, g1, g2, by rw [DpAll.len k1, DpAll.len k2]; assumption, fun e => ?_, fun _ e => ?_, fun _ _ p o hp ho => ?_⟩)
        · subst e
          have : a = [] := by cases k1; rfl
          subst this
          exact hq H _ s Gr.refl ⟨.tup g2' k2, by simpa [PyData.canLay0] using c2⟩
        · subst e
          have : b = [] := by cases k2; rfl
          subst this
          rw [List.append_nil] at hq
          exact hq H _ s Gr.refl ⟨.tup g1' k1, by simpa [PyData.canLay0] using c1⟩
        · obtain ⟨s2, g2, v2⟩ := s.new hp (.frz o (.tup (vs1 ++ vs2)))
          exact hq _ _ s2 g2 ⟨.tup ⟨o, v2, ho⟩ (dpMonoL (g2.same s.len) _ _ (DpAll.app k1 k2)), by simpa [PyData.canLay0] using canL_app c1 c2⟩
      · cases h3
    | _ => cases h3
  | _ => cases q <;> cases h3
theorem o_sub : Op2 K (kBin .sub) (rI0 fun i j => .int (i - j)) := by
  intro φ Z m H w1 w2 w x y Q s r1 r2 hk hq
  obtain ⟨p, q, z, h1, h2, h3, rfl⟩ := kBin_some hk
  have f1 := vw_flat s r1 h1
  have f2 := vw_flat s r2 h2
  cases p with
  | int a =>
    cases q with
    | int b =>
      cases h3
      exact ⟨a, b, f1.1 a rfl, f2.1 b rfl, hq H _ s Gr.refl (rw_flat.1 _)⟩
    | _ => cases h3
  | _ => cases q <;> cases h3
theorem o_mod : Op2 K (kBin .mod) (rI (fun _ j => 0 < j) fun i j => .int (i % j)) := by
  intro φ Z m H w1 w2 w x y Q s r1 r2 hk hq
  obtain ⟨p, q, z, h1, h2, h3, rfl⟩ := kBin_some hk
  have f1 := vw_flat s r1 h1
  have f2 := vw_flat s r2 h2
  cases p with
  | int a =>
    cases q with
    | int b =>
      simp only [binF] at h3
      split at h3
      · cases h3
        exact ⟨a, b, f1.1 a rfl, f2.1 b rfl, by assumption, hq H _ s Gr.refl (rw_flat.1 _)⟩
      · cases h3
    | _ => cases h3
  | _ => cases q <;> cases h3
theorem o_fdiv : Op2 K (kBin .fdiv) (rI CDiv fun i j => .int (i / j)) := by
  intro φ Z m H w1 w2 w x y Q s r1 r2 hk hq
  obtain ⟨p, q, z, h1, h2, h3, rfl⟩ := kBin_some hk
  have f1 := vw_flat s r1 h1
  have f2 := vw_flat s r2 h2
  cases p with
  | int a =>
    cases q with
    | int b =>
      simp only [binF] at h3
      split at h3
      · cases h3
        exact ⟨a, b, f1.1 a rfl, f2.1 b rfl, by assumption, hq H _ s Gr.refl (rw_flat.1 _)⟩
      · cases h3
    | _ => cases h3
  | _ => cases q <;> cases h3
theorem small_iff {i : Int} : small i = true ↔ -(2 ^ 64) < i ∧ i < 2 ^ 64 := by unfold small; simp
theorem o_pow : Op2 K (kBin .pow) (rI CPow fun i j => .int (i ^ j.toNat)) := by
  intro φ Z m H w1 w2 w x y Q s r1 r2 hk hq
  obtain ⟨p, q, z, h1, h2, h3, rfl⟩ := kBin_some hk
  have f1 := vw_flat s r1 h1
  have f2 := vw_flat s r2 h2
  cases p with
  | int a =>
    cases q with
    | int b =>
      simp only [binF] at h3
      split at h3
      · rename_i hc
        cases h3
        have hs := small_iff.mp hc.2.2
        exact ⟨a, b, f1.1 a rfl, f2.1 b rfl, ⟨hc.1, hc.2.1, by omega⟩, hq H _ s Gr.refl (rw_flat.1 _)⟩
      · cases h3
    | _ => cases h3
  | _ => cases q <;> cases h3
theorem DpAll.rep {H : Hp} {vs : List V} {l : List PyData} (h : DpAll K H vs l) : ∀ n : Nat, DpAll K H (List.replicate n vs).flatten (List.replicate n l).flatten
  | 0 => by simp; exact .nil
  | n + 1 => by
    rw [List.replicate_succ, List.replicate_succ, List.flatten_cons, List.flatten_cons]
    exact DpAll.app h (DpAll.rep h n)
theorem canL_rep {l : List PyData} (h : PyData.canLayAll0 l = true) : ∀ n : Nat, PyData.canLayAll0 (List.replicate n l).flatten = true
  | 0 => by simp [PyData.canLayAll0]
  | n + 1 => by
    rw [List.replicate_succ, List.flatten_cons]
    exact canL_app h (canL_rep h n)
def rMulAll (K : Fg) : R2 := fun x y H Q => rI CMul (fun i j => .int (i * j)) x y H Q ∨ rRep x y H Q ∨ rRepX K x y H Q
theorem op_mulAll : OpR X (binaryOp .Mult) (rMulAll X.K) := op_mul.or (op_rep.or op_repX)
theorem o_mul : Op2 K (kBin .mul) (rMulAll K) := by
  intro φ Z m H w1 w2 w x y Q s r1 r2 hk hq
  obtain ⟨p, q, z, h1, h2, h3, rfl⟩ := kBin_some hk
  have f1 := vw_flat s r1 h1
  have f2 := vw_flat s r2 h2
  cases p with
  | int a =>
    cases q with
    | int b =>
      simp only [binF] at h3
      split at h3
      · rename_i hc
        cases h3
        refine .inl ⟨a, b, f1.1 a rfl, f2.1 b rfl, ?_, hq H _ s Gr.refl (rw_flat.1 _)⟩
        rcases Bool.or_eq_true_iff.mp hc with hc | hc
        · exact .inl (small_iff.mp hc)
        · exact .inr (small_iff.mp hc)
      · cases h3
    | _ => cases h3
  | list a =>
    cases q with
    | int b =>
      obtain ⟨a1, vs1, rfl, g1, k1, c1⟩ := vw_list s r1 h1
      simp only [binF] at h3
      split at h3
      · rename_i hc
        cases h3
        have hl := DpAll.len k1
        refine .inr (.inl ⟨a1, b, vs1, rfl, f2.1 b rfl, g1, by omega, by omega, ?_, fun p hp => ?_⟩)
        · have hb : b.toNat ≤ 1000 := by omega
          have : vs1.length * b.toNat ≤ 1000 * 1000 := Nat.mul_le_mul (by omega) hb
          rw [sizeLine_eq]; omega
        · obtain ⟨s2, g2, v2⟩ := s.new hp (.lst (List.replicate b.toNat vs1).flatten)
          exact hq _ _ s2 g2 ⟨.lst v2 (dpMonoL (g2.same s.len) _ _ (DpAll.rep k1 _)), by simpa [PyData.canLay0] using canL_rep c1 _⟩
      · cases h3
    | _ => cases h3
  | tuple a =>
    cases q with
    | int b =>
      obtain ⟨a1, vs1, rfl, g1, g1', k1, c1⟩ := vw_tup s r1 h1
      simp only [binF] at h3
      split at h3
      · rename_i hc
        cases h3
        have hl := DpAll.len k1
        refine .inr (.inr ⟨a1, b, vs1, rfl, f2.1 b rfl, g1, by omega, by omega, by omega, fun e => ?_, fun p o hp ho => ?_⟩)
        · have e : (List.replicate b.toNat a).flatten = a := by
            rcases e with e | e
            · rw [e]; simp
            · subst e
              have : a = [] := List.eq_nil_of_length_eq_zero (by simpa using hl.symm)
              rw [this]; simp
          rw [e] at hq
          exact hq _ _ s Gr.refl ⟨.tup g1' k1, by simpa [PyData.canLay0] using c1⟩
        · obtain ⟨s2, g2, v2⟩ := s.new hp (.frz o (.tup (List.replicate b.toNat vs1).flatten))
          exact hq _ _ s2 g2 ⟨.tup ⟨o, v2, ho⟩ (dpMonoL (g2.same s.len) _ _ (DpAll.rep k1 _)), by simpa [PyData.canLay0] using canL_rep c1 _⟩
      · cases h3
    | _ => cases h3
  | _ => cases q <;> cases h3
/-! ### comparisons -/
abbrev kCmp (o : Cm) : W → W → Mem → Option W := fun x y m => (vw m x).bind fun p => (vw m y).bind fun q => (cmpF o p q).map fun t => .d (.bool t)
theorem kCmp_some {o : Cm} {x y : W} {m : Mem} {w : W} (h : kCmp o x y m = some w) : ∃ p q t, vw m x = some p ∧ vw m y = some q ∧ cmpF o p q = some t ∧ w = .d (.bool t) := by
  obtain ⟨p, h1, h⟩ := Option.bind_eq_some_iff.mp h
  obtain ⟨q, h2, h⟩ := Option.bind_eq_some_iff.mp h
  obtain ⟨z, h3, h⟩ := Option.map_eq_some_iff.mp h
  exact ⟨p, q, z, h1, h2, h3, h.symm⟩
theorem shaped_of {p : PyData} (h : p.canLay0 = true) (d : p.depth ≤ 64) : SeqAt.shaped p = true := by
  unfold SeqAt.shaped
  rw [h]
  simpa using d
theorem o_eq : Op2 K (kCmp .eq) (rEqD K) := by
  intro φ Z m H w1 w2 w x y Q s r1 r2 hk hq
  obtain ⟨p, q, t, h1, h2, h3, rfl⟩ := kCmp_some hk
  obtain ⟨d1, c1⟩ := vw_dp s r1 h1
  obtain ⟨d2, c2⟩ := vw_dp s r2 h2
  have h3' : (if deepOk p q then some (PyData.eqv p q) else none) = some t := by cases p <;> cases q <;> exact h3
  split at h3'
  · rename_i hd
    cases h3'
    exact ⟨p, q, Dp.lib _ _ d1, Dp.lib _ _ d2, shaped_of c1 hd.1, shaped_of c2 hd.2, hq H _ s Gr.refl (rw_flat.2.1 _)⟩
  · cases h3'
theorem o_ne : Op2 K (kCmp .ne) (rNeD K) := by
  intro φ Z m H w1 w2 w x y Q s r1 r2 hk hq
  obtain ⟨p, q, t, h1, h2, h3, rfl⟩ := kCmp_some hk
  obtain ⟨d1, c1⟩ := vw_dp s r1 h1
  obtain ⟨d2, c2⟩ := vw_dp s r2 h2
  have h3' : (if deepOk p q then some (!PyData.eqv p q) else none) = some t := by cases p <;> cases q <;> exact h3
  split at h3'
  · rename_i hd
    cases h3'
    exact ⟨p, q, Dp.lib _ _ d1, Dp.lib _ _ d2, shaped_of c1 hd.1, shaped_of c2 hd.2, hq H _ s Gr.refl (rw_flat.2.1 _)⟩
  · cases h3'
theorem o_ord {o : Cm} {g : Int → Int → Bool} (hg : ∀ p q t, cmpF o p q = some t → ∃ i j, p = .int i ∧ q = .int j ∧ t = g i j) : Op2 K (kCmp o) (rI0 fun i j => .bl (g i j)) := by
  intro φ Z m H w1 w2 w x y Q s r1 r2 hk hq
  obtain ⟨p, q, t, h1, h2, h3, rfl⟩ := kCmp_some hk
  have f1 := vw_flat s r1 h1
  have f2 := vw_flat s r2 h2
  obtain ⟨i, j, rfl, rfl, rfl⟩ := hg p q t h3
  exact ⟨i, j, f1.1 i rfl, f2.1 j rfl, hq H _ s Gr.refl (rw_flat.2.1 _)⟩
theorem o_lt : Op2 K (kCmp .lt) (rI0 fun i j => .bl (decide (i < j))) := o_ord fun p q t h => by cases p <;> cases q <;> first | (cases h; exact ⟨_, _, rfl, rfl, rfl⟩) | cases h
theorem ints_eq : ∀ {l : List PyData} {b : List Int}, intsOf l = some b → l = intD b
  | [], b, h => by cases h; rfl
  | x :: r, b, h => by
    cases x with
    | int i =>
      obtain ⟨c, h1, rfl⟩ := Option.map_eq_some_iff.mp (show (intsOf r).map (i :: ·) = some b from h)
      rw [ints_eq h1]; rfl
    | _ => cases h
theorem dp_ints0 {Hh : Hp} : ∀ {ns : List Int} {vs : List V}, DpAll K Hh vs (intD ns) → vs = ns.map V.int
  | [], _, h => by cases h; rfl
  | n :: ns, _, h => by
    cases h with
    | cons h1 h2 =>
      cases h1
      rw [dp_ints0 h2]; rfl
theorem o_le : Op2 K (kCmp .le) (fun x y H Q => rI0 (fun i j => .bl (decide (i ≤ j))) x y H Q ∨ rLeT K x y H Q) := by
  intro φ Z m H w1 w2 w x y Q s r1 r2 hk hq
  obtain ⟨p, q, t, h1, h2, h3, rfl⟩ := kCmp_some hk
  have f1 := vw_flat s r1 h1
  have f2 := vw_flat s r2 h2
  have sm : Same (hid φ m Z H) H := fun a u h => by
    unfold hid at h
    split at h
    · cases h
    · exact h
  cases p with
  | int i =>
    cases q with
    | int j =>
      cases h3
      exact .inl ⟨i, j, f1.1 i rfl, f2.1 j rfl, hq H _ s Gr.refl (rw_flat.2.1 _)⟩
    | _ => cases h3
  | tuple l =>
    cases q with
    | tuple k =>
      obtain ⟨a, e1, h3⟩ := Option.bind_eq_some_iff.mp (show ((intsOf l).bind fun x => (intsOf k).map fun y => leT x y) = some t from h3)
      obtain ⟨b, e2, rfl⟩ := Option.map_eq_some_iff.mp h3
      obtain ⟨d1, c1⟩ := vw_dp s r1 h1
      obtain ⟨d2, c2⟩ := vw_dp s r2 h2
      rw [ints_eq e1] at d1
      rw [ints_eq e2] at d2
      cases d1 with
      | tup s1 a1 =>
        cases d2 with
        | tup s2 a2 =>
          rw [dp_ints0 a1] at s1
          rw [dp_ints0 a2] at s2
          exact .inr ⟨_, _, a, b, rfl, rfl, s1.sq, s2.sq, hq H _ s Gr.refl (rw_flat.2.1 _)⟩
    | _ => cases h3
  | _ => cases q <;> cases h3
theorem o_gt : Op2 K (kCmp .gt) (rI0 fun i j => .bl (decide (j < i))) := o_ord fun p q t h => by cases p <;> cases q <;> first | (cases h; exact ⟨_, _, rfl, rfl, rfl⟩) | cases h
theorem o_ge : Op2 K (kCmp .ge) (rI0 fun i j => .bl (decide (j ≤ i))) := o_ord fun p q t h => by cases p <;> cases q <;> first | (cases h; exact ⟨_, _, rfl, rfl, rfl⟩) | cases h
/-- x in a list, a tuple -/
def rInA (K : Fg) (n : Bool) : R2 := fun x y H Q => ∃ d l, L2.Dp K H x d ∧ (L2.Dp K H y (.list l) ∨ L2.Dp K H y (.tuple l)) ∧ d.canLay0 = true ∧ PyData.canLayAll0 l = true ∧ d.depth ≤ 64 ∧ Q (.bl (if n then !memD d l else memD d l)) H
theorem op_inA (hu : X.A.units + 65 < cLine) : OpR X (compareOp .In) (rInA X.K false) := by
  intro pins s σ H x y v u Q I rx ry h
  obtain ⟨d, l, hd, he, cd, cl, dd, q⟩ := h
  obtain ⟨as, r1⟩ := L2.Dp.reads I d x v hd rx
  have room : X.A.units + 1 + min (PyData.depthAll l) d.depth < cLine := by
    have := Nat.min_le_right (PyData.depthAll l) d.depth
    omega
  rcases he with he | he
  · obtain ⟨bs, r2⟩ := L2.Dp.reads I (.list l) y u he ry
    exact SeqAt.in_list_reads r2 r1 cl cd room ⟨.bl _, H, I, rfl, q⟩
  · obtain ⟨bs, r2⟩ := L2.Dp.reads I (.tuple l) y u he ry
    exact SeqAt.in_tuple_reads r2 r1 cl cd room ⟨.bl _, H, I, rfl, q⟩
theorem op_ninA (hu : X.A.units + 65 < cLine) : OpR X (compareOp .NotIn) (rInA X.K true) := by
  intro pins s σ H x y v u Q I rx ry h
  obtain ⟨d, l, hd, he, cd, cl, dd, q⟩ := h
  obtain ⟨as, r1⟩ := L2.Dp.reads I d x v hd rx
  have room : X.A.units + 1 + min (PyData.depthAll l) d.depth < cLine := by
    have := Nat.min_le_right (PyData.depthAll l) d.depth
    omega
  rcases he with he | he
  · obtain ⟨bs, r2⟩ := L2.Dp.reads I (.list l) y u he ry
    exact SeqAt.notIn_list_reads r2 r1 cl cd room ⟨.bl _, H, I, rfl, q⟩
  · obtain ⟨bs, r2⟩ := L2.Dp.reads I (.tuple l) y u he ry
    exact SeqAt.notIn_tuple_reads r2 r1 cl cd room ⟨.bl _, H, I, rfl, q⟩
theorem o_inA {o : Cm} {n : Bool} (ho : ∀ p q t, cmpF o p q = some t → ∃ l, (q = .list l ∨ q = .tuple l) ∧ p.depth ≤ 64 ∧ t = if n then !memD p l else memD p l) : Op2 K (kCmp o) (rInA K n) := by
  intro φ Z m H w1 w2 w x y Q s r1 r2 hk hq
  obtain ⟨p, q, t, h1, h2, h3, rfl⟩ := kCmp_some hk
  obtain ⟨d1, c1⟩ := vw_dp s r1 h1
  obtain ⟨d2, c2⟩ := vw_dp s r2 h2
  obtain ⟨l, hl, hd, rfl⟩ := ho p q t h3
  refine ⟨p, l, Dp.lib _ _ d1, ?_, c1, ?_, hd, hq H _ s Gr.refl (rw_flat.2.1 _)⟩
  · rcases hl with rfl | rfl
    · exact .inl (Dp.lib _ _ d2)
    · exact .inr (Dp.lib _ _ d2)
  · rcases hl with rfl | rfl <;> simpa [PyData.canLay0] using c2
theorem o_in : Op2 K (kCmp .isin) (rInA K false) := o_inA fun p q t h => by
  cases q with
  | list l =>
    have h' : (if deepOk p (.list l) then some (memD p l) else none) = some t := by cases p <;> exact h
    split at h'
    · rename_i hd; cases h'; exact ⟨l, by simp, hd.1, rfl⟩
    · cases h'
  | tuple l =>
    have h' : (if deepOk p (.tuple l) then some (memD p l) else none) = some t := by cases p <;> exact h
    split at h'
    · rename_i hd; cases h'; exact ⟨l, by simp, hd.1, rfl⟩
    · cases h'
  | _ => cases p <;> cases h
theorem o_nin : Op2 K (kCmp .nin) (rInA K true) := o_inA fun p q t h => by
  cases q with
  | list l =>
    have h' : (if deepOk p (.list l) then some (!memD p l) else none) = some t := by cases p <;> exact h
    split at h'
    · rename_i hd; cases h'; exact ⟨l, by simp, hd.1, rfl⟩
    · cases h'
  | tuple l =>
    have h' : (if deepOk p (.tuple l) then some (!memD p l) else none) = some t := by cases p <;> exact h
    split at h'
    · rename_i hd; cases h'; exact ⟨l, by simp, hd.1, rfl⟩
    · cases h'
  | _ => cases p <;> cases h
end
end MP
/-! MPE: operators as expressions, tests, and, or, not, if. -/
namespace MP
open PySem PySem.Spec PyProof.Rows L2
open Classical
section
variable {X : Cx} {e a b c : Expr} {Wx : WX} {cf : CallF} {t t1 t2 t3 : E} {pos : Pos}
noncomputable def denB (cf : CallF) (t : E) : Vr → Mem → Res Bool := fun v m => (den cf t v m).bind fun x m1 => optR ((vw m1 x).bind truF) m1
/-! ### binary operators -/
def opPy : Op → Operator
  | .add => .Add | .sub => .Sub | .mul => .Mult | .mod => .Mod | .fdiv => .FloorDiv | .pow => .Pow
theorem l_bin (o : Op) (h1 : PE X a (tE X.K Wx (den cf t1))) (h2 : PE X b (tE X.K Wx (den cf t2))) : PE X (.BinOp a (opPy o) b pos) (tE X.K Wx (den cf (.bin o t1 t2))) := by
  cases o with
  | add => exact l_two (pe_op op_addAll h1 h2) o_add
  | sub => exact l_two (pe_op op_sub h1 h2) o_sub
  | mul => exact l_two (pe_op op_mulAll h1 h2) o_mul
  | mod => exact l_two (pe_op op_mod h1 h2) o_mod
  | fdiv => exact l_two (pe_op op_fdiv h1 h2) o_fdiv
  | pow => exact l_two (pe_op op_pow h1 h2) o_pow
theorem l_neg (h1 : PE X a (tE X.K Wx (den cf t1))) : PE X (.UnaryOp .USub a pos) (tE X.K Wx (den cf (.neg t1))) := by
  refine peImp (pe_un un_neg h1) fun σ H Q h => ?_
  obtain ⟨φ, Z, v, m, s, r, h⟩ := h
  refine ⟨φ, Z, v, m, s, r, (h.seq s.len).imp fun w φ1 m1 H1 _ s1 g1 h x r1 => ?_⟩
  cases w with
  | ref n => exact h.elim
  | scr n => exact h.elim
  | exn n => exact h.elim
  | d p =>
    cases p with
    | int i =>
      obtain ⟨r1, _⟩ := r1
      cases r1
      exact ⟨i, rfl, h.here s1 _ (rw_flat.1 _)⟩
    | _ => exact h.elim
def cmPy : Cm → CmpOp
  | .eq => .Eq | .ne => .NotEq | .lt => .Lt | .le => .LtE | .gt => .Gt | .ge => .GtE | .isin => .In | .nin => .NotIn
/-- each comparison's rule -/
theorem cmRule (hu : X.A.units + 65 < cLine) (o : Cm) : ∃ R, OpR X (compareOp (cmPy o)) R ∧ Op2 X.K (kCmp o) R := by
  cases o with
  | eq => exact ⟨_, op_eqD (by omega), o_eq⟩
  | ne => exact ⟨_, op_neD (by omega), o_ne⟩
  | lt => exact ⟨_, op_lt, o_lt⟩
  | le => exact ⟨_, op_le.or (op_leT (by omega)), o_le⟩
  | gt => exact ⟨_, op_gt, o_gt⟩
  | ge => exact ⟨_, op_ge, o_ge⟩
  | isin => exact ⟨_, op_inA hu, o_in⟩
  | nin => exact ⟨_, op_ninA hu, o_nin⟩
def noSet : Expr → Bool
  | .Set _ _ _ => false
  | _ => true
theorem behind_ne {o : CmpOp} {b : Expr} (h : noSet b = true) : behindInMarks o b = false := by
  cases b <;> first | rfl | cases h
theorem l_cmp (hu : X.A.units + 65 < cLine) (o : Cm) (hb : noSet b = true) (h1 : PE X a (tE X.K Wx (den cf t1))) (h2 : PE X b (tE X.K Wx (den cf t2))) : PE X (.Compare a [cmPy o] [b] pos) (tE X.K Wx (den cf (.cmp o t1 t2))) := by
  obtain ⟨R, ho, hk⟩ := cmRule hu o
  exact l_two (pe_cmpR ho h1 h2 (behind_ne hb)) hk
theorem denB_cmp (o : Cm) : denB cf (.cmp o t1 t2) = fun v m => (den cf t1 v m).bind fun x m1 => (den cf t2 v m1).bind fun y m2 => optR ((vw m2 x).bind fun p => (vw m2 y).bind fun q => cmpF o p q) m2 := by
  funext v m
  have e : den cf (.cmp o t1 t2) v m = (den cf t1 v m).bind fun x m1 => (den cf t2 v m1).bind fun y m2 => optR ((vw m2 x).bind fun p => (vw m2 y).bind fun q => (cmpF o p q).map fun t => .d (.bool t)) m2 := rfl
  unfold denB
  rw [e]
  cases den cf t1 v m with
  | no => rfl
  | exc x m1 => rfl
  | ok x m1 =>
    simp only [Res.bind]
    cases den cf t2 v m1 with
    | no => rfl
    | exc y m2 => rfl
    | ok y m2 =>
      simp only
      cases vw m2 x with
      | none => rfl
      | some p =>
        cases vw m2 y with
        | none => rfl
        | some q =>
          simp only [Option.bind_some]
          cases cmpF o p q with
          | none => rfl
          | some t => rfl
theorem l_cmpT (hu : X.A.units + 65 < cLine) (o : Cm) (hb : noSet b = true) (h1 : PE X a (tE X.K Wx (den cf t1))) (h2 : PE X b (tE X.K Wx (den cf t2))) : PT X (.Compare a [cmPy o] [b] pos) (tT X.K Wx (denB cf (.cmp o t1 t2))) := by
  obtain ⟨R, ho, hk⟩ := cmRule hu o
  rw [denB_cmp]
  refine l_twoT (pt_cmpR ho h1 h2 (behind_ne hb)) (k := fun x y m => (vw m x).bind fun p => (vw m y).bind fun q => cmpF o p q) ?_
  have e : (fun x y m => ((vw m x).bind fun p => (vw m y).bind fun q => cmpF o p q).map fun t => W.d (.bool t)) = kCmp o := by
    funext x y m
    unfold kCmp
    cases vw m x with
    | none => rfl
    | some p => cases vw m y <;> rfl
  rw [e]
  exact hk
/-- a op b op c -/
theorem i_chain {R R2' : R2} {o o2 : Cm} (hk : Op2 X.K (kCmp o) R) (hk2 : Op2 X.K (kCmp o2) R2') (σ : L2.St) (H : Hp) (Q : VK) (h : tE X.K Wx (den cf (.chain o o2 t1 t2 t3)) σ H Q) :
    tChain R R2' (tE X.K Wx (den cf t1)) (tE X.K Wx (den cf t2)) (tE X.K Wx (den cf t3)) σ H Q := by
  obtain ⟨φ, Z, v, m, s, r, h⟩ := h
  refine ⟨φ, Z, v, m, s, r, (h.seq s.len).imp fun w1 φ1 m1 H1 _ s1 g1 h x r1 => ⟨φ1, Z, v, m1, s1, g1.rv s.len r, (h.seq s1.len).imp fun w2 φ2 m2 H2 _ s2 g2 h y r2 => ?_⟩⟩
  have h' := h.seq s2.len
  obtain ⟨t, ew, _⟩ := h'.opt
  rw [ew] at h
  have hx : kCmp o w1 w2 m2 = some (.d (.bool t)) := by
    obtain ⟨p, e1, e⟩ := Option.bind_eq_some_iff.mp ew
    obtain ⟨q, e2, e⟩ := Option.bind_eq_some_iff.mp e
    unfold kCmp
    rw [e1, e2]
    simp [e]
  refine hk φ2 Z m2 H2 w1 w2 _ x y _ s2 (g2.rw s1.len r1) r2 hx fun H' z s' g' r' => ?_
  obtain ⟨r', _⟩ := r'
  cases r'
  refine ⟨t, rfl, ?_⟩
  simp only [optR, Res.bind] at h
  cases t with
  | false => exact h φ2 H' s' g' _ (rw_flat.2.1 _)
  | true =>
    have h2 := h.shift g' s2.len
    refine ⟨φ2, Z, v, m2, s', (g1.trans (g2.trans g' s1.len) s.len).rv s.len r, (Pst.seq s'.len h2).imp fun w3 φ3 m3 H3 _ s3 g3 h3 z r3 => ?_⟩
    obtain ⟨w, ew3, h3⟩ := h3.opt
    exact hk2 φ3 Z m3 H3 w2 w3 _ y z _ s3 (g3.rw s'.len (g'.rw s2.len r2)) r3 ew3 fun H' u s4 g4 r4 => h3 φ3 H' s4 g4 u r4
theorem l_chain (hu : X.A.units + 65 < cLine) (o o2 : Cm) (hc : noSet c = true) (h1 : PE X a (tE X.K Wx (den cf t1))) (h2 : PE X b (tE X.K Wx (den cf t2))) (h3 : PE X c (tE X.K Wx (den cf t3))) :
    PE X (.Compare a [cmPy o, cmPy o2] [b, c] pos) (tE X.K Wx (den cf (.chain o o2 t1 t2 t3))) := by
  obtain ⟨R, ho, hk⟩ := cmRule hu o
  obtain ⟨R2', ho2, hk2⟩ := cmRule hu o2
  exact peImp (pe_chain ho ho2 h1 h2 h3 (by show behindInMarks _ c = false; exact behind_ne hc)) (i_chain hk hk2)
theorem bindOk {α β : Type} {r : Res α} {g : α → Mem → Res β} {b : β} {m' : Mem} (h : r.bind g = .ok b m') : ∃ a m1, r = .ok a m1 ∧ g a m1 = .ok b m' := by
  cases r with
  | no => cases h
  | exc x m => cases h
  | ok a m1 => exact ⟨a, m1, rfl, h⟩
theorem optOk {α : Type} {o : Option α} {m m' : Mem} {a : α} (h : optR o m = .ok a m') : o = some a ∧ m' = m := by
  cases o with
  | none => cases h
  | some x => cases h; exact ⟨rfl, rfl⟩
theorem chain_bool {o o2 : Cm} {v : Vr} {m m' : Mem} {w : W} (h : den cf (.chain o o2 t1 t2 t3) v m = .ok w m') : ∃ t, w = .d (.bool t) := by
  obtain ⟨x, m1, _, h⟩ := bindOk h
  obtain ⟨y, m2, _, h⟩ := bindOk h
  obtain ⟨t, m3, _, h⟩ := bindOk h
  cases t with
  | false => cases h; exact ⟨_, rfl⟩
  | true =>
    obtain ⟨z, m4, _, h⟩ := bindOk h
    obtain ⟨h, _⟩ := optOk h
    obtain ⟨p, _, h⟩ := Option.bind_eq_some_iff.mp h
    obtain ⟨q, _, h⟩ := Option.bind_eq_some_iff.mp h
    obtain ⟨t, _, h⟩ := Option.map_eq_some_iff.mp h
    exact ⟨t, h.symm⟩
/-- a test, where the value is a bool -/
theorem ofBool (hb : ∀ v m w m', den cf t v m = .ok w m' → ∃ k, w = .d (.bool k)) (σ : L2.St) (H : Hp) (Q : Bool → Hp → Prop) (h : tT X.K Wx (denB cf t) σ H Q) :
    tE X.K Wx (den cf t) σ H (fun x H' => ∃ k, x = .bl k ∧ Q k H') := by
  obtain ⟨φ, Z, v, m, s, r, h⟩ := h
  refine ⟨φ, Z, v, m, s, r, (Pst.seq s.len h).imp fun w φ1 m1 H1 q s1 g1 h x r1 => ?_⟩
  obtain ⟨k, rfl⟩ := hb _ _ _ _ q
  obtain ⟨r1, _⟩ := r1
  cases r1
  exact ⟨k, rfl, h φ1 H1 s1 Gr.refl⟩
theorem l_chainT (hu : X.A.units + 65 < cLine) (o o2 : Cm) (hc : noSet c = true) (h1 : PE X a (tE X.K Wx (den cf t1))) (h2 : PE X b (tE X.K Wx (den cf t2))) (h3 : PE X c (tE X.K Wx (den cf t3))) :
    PT X (.Compare a [cmPy o, cmPy o2] [b, c] pos) (tT X.K Wx (denB cf (.chain o o2 t1 t2 t3))) := by
  obtain ⟨R, ho, hk⟩ := cmRule hu o
  obtain ⟨R2', ho2, hk2⟩ := cmRule hu o2
  exact ptImp (pt_chain ho ho2 h1 h2 h3 (by show behindInMarks _ c = false; exact behind_ne hc)) fun σ H Q h => i_chain hk hk2 σ H _ (ofBool (fun _ _ _ _ q => chain_bool q) σ H Q h)
/-! ### is -/
def sgV : Sg → V
  | .none => .non | .tt => .bl true | .ff => .bl false
def sgC : Sg → Const
  | .none => .none | .tt => .bool true | .ff => .bool false
theorem is_val {x : V} {v : Value} (rx : RelV x v) (s : Sg) : ∃ u, RelV (sgV s) u ∧ plainIs v u = true ∧ (v == u) = decide (x = sgV s) := by
  cases s <;> cases x <;> first
    | (cases rx; refine ⟨_, rfl, rfl, ?_⟩; simp [sgV]; done)
    | (rename_i b; cases rx; cases b <;> (refine ⟨_, rfl, rfl, ?_⟩; first | (simp [sgV]; done) | decide))
    | (obtain ⟨t, rfl⟩ := rx; refine ⟨_, rfl, rfl, ?_⟩; simp [sgV]; done)
def rIsS (n : Bool) (s : Sg) : R2 := fun x y H Q => y = sgV s ∧ Q (.bl (if n then !decide (x = sgV s) else decide (x = sgV s))) H
theorem op_isS (s : Sg) : OpR X (compareOp .Is) (rIsS false s) := by
  intro pins st σ H x y v u Q I rx ry h
  obtain ⟨rfl, q⟩ := h
  obtain ⟨u', ru, hp, he⟩ := is_val rx s
  have e : u = u' := by cases s <;> (cases ru; cases ry; rfl)
  subst e
  exact wpAny_is_plain hp ⟨.bl _, H, I, rfl, by rw [he]; exact q⟩
theorem op_notS (s : Sg) : OpR X (compareOp .IsNot) (rIsS true s) := by
  intro pins st σ H x y v u Q I rx ry h
  obtain ⟨rfl, q⟩ := h
  obtain ⟨u', ru, hp, he⟩ := is_val rx s
  have e : u = u' := by cases s <;> (cases ru; cases ry; rfl)
  subst e
  exact wpAny_isNot_plain hp ⟨.bl _, H, I, rfl, by rw [he]; exact q⟩
theorem isF_dp {K : Fg} {Hh : Hp} {x : V} {p : PyData} (h : Dp K Hh x p) (s : Sg) : decide (x = sgV s) = isF s p := by
  cases h <;> cases s <;> simp [sgV, isF]
theorem pe_sg (s : Sg) {k : Nat} : PE X (.Constant (sgC s) k pos) (tC (sgV s)) := by
  cases s
  · exact pe_non
  · exact pe_bl
  · exact pe_bl
theorem i_isc {s : Sg} {n : Bool} (σ : L2.St) (H : Hp) (Q : VK) (h : tE X.K Wx (den cf (.isc s n t1)) σ H Q) : tOp (rIsS n s) (tE X.K Wx (den cf t1)) (tC (sgV s)) σ H Q := by
  obtain ⟨φ, Z, v, m, sr, r, h⟩ := h
  refine ⟨φ, Z, v, m, sr, r, (h.seq sr.len).imp fun w φ1 m1 H1 _ s1 g1 h x r1 => ⟨rfl, ?_⟩⟩
  obtain ⟨y, ew, h⟩ := h.opt
  have far : ∀ a, x = .ref a → isW s w = some false → rIsS n s x (sgV s) H1 Q := fun a ex q => by
    rw [q] at ew
    cases ew
    have e : decide (x = sgV s) = false := by rw [ex]; cases s <;> rfl
    refine ⟨rfl, ?_⟩
    rw [e]
    exact h φ1 H1 s1 Gr.refl _ (rw_flat.2.1 _)
  cases w with
  | ref k => exact (far _ r1.choose_spec.1 rfl).2
  | scr k => exact (far _ r1.choose_spec.1 rfl).2
  | exn k => exact (far _ r1.choose_spec.1 rfl).2
  | d p =>
    cases ew
    rw [isF_dp r1.1 s]
    exact h φ1 H1 s1 Gr.refl _ (rw_flat.2.1 _)
theorem l_isc (s : Sg) {k : Nat} {p2 : Pos} (h1 : PE X a (tE X.K Wx (den cf t1))) : PE X (.Compare a [.Is] [.Constant (sgC s) k p2] pos) (tE X.K Wx (den cf (.isc s false t1))) :=
  peImp (pe_cmpR (op_isS s) h1 (pe_sg s) (behind_ne rfl)) i_isc
theorem l_iscN (s : Sg) {k : Nat} {p2 : Pos} (h1 : PE X a (tE X.K Wx (den cf t1))) : PE X (.Compare a [.IsNot] [.Constant (sgC s) k p2] pos) (tE X.K Wx (den cf (.isc s true t1))) :=
  peImp (pe_cmpR (op_notS s) h1 (pe_sg s) (behind_ne rfl)) i_isc
theorem isc_bool {s : Sg} {n : Bool} {v : Vr} {m m' : Mem} {w : W} (h : den cf (.isc s n t1) v m = .ok w m') : ∃ t, w = .d (.bool t) := by
  obtain ⟨x, m1, _, h⟩ := bindOk h
  obtain ⟨h, _⟩ := optOk h
  obtain ⟨p, _, h⟩ := Option.map_eq_some_iff.mp h
  exact ⟨_, h.symm⟩
theorem l_iscT (s : Sg) {k : Nat} {p2 : Pos} (h1 : PE X a (tE X.K Wx (den cf t1))) : PT X (.Compare a [.Is] [.Constant (sgC s) k p2] pos) (tT X.K Wx (denB cf (.isc s false t1))) :=
  ptImp (pt_cmpR (op_isS s) h1 (pe_sg s) (behind_ne rfl)) fun σ H Q h => i_isc σ H _ (ofBool (fun _ _ _ _ q => isc_bool q) σ H Q h)
theorem l_iscNT (s : Sg) {k : Nat} {p2 : Pos} (h1 : PE X a (tE X.K Wx (den cf t1))) : PT X (.Compare a [.IsNot] [.Constant (sgC s) k p2] pos) (tT X.K Wx (denB cf (.isc s true t1))) :=
  ptImp (pt_cmpR (op_notS s) h1 (pe_sg s) (behind_ne rfl)) fun σ H Q h => i_isc σ H _ (ofBool (fun _ _ _ _ q => isc_bool q) σ H Q h)
/-! ### truth -/
theorem tru_of {φ Z : List Addr} {m : Mem} {H : Hp} {w : W} {x : V} {p : PyData} {k : Bool} (s : SR X.K φ m Z H) (r : RW X.K φ (hid φ m Z H) w x) (h : vw m w = some p) (ht : truF p = some k) : TruV X.K x H k := by
  have f := vw_flat s r h
  cases p with
  | none => rw [f.2.2.2 rfl]; cases ht; rfl
  | bool b => rw [f.2.1 b rfl]; cases ht; rfl
  | int i => rw [f.1 i rfl]; cases ht; rfl
  | str y =>
    rw [f.2.2.1 y rfl]
    simp only [truF] at ht
    split at ht
    · cases ht; exact ⟨by assumption, rfl⟩
    · cases ht
  | list l =>
    obtain ⟨a, vs, rfl, h1, h2, _⟩ := vw_list s r h
    cases ht
    refine .inl ⟨vs, SqL.of h1, ?_⟩
    have := DpAll.len h2
    cases vs <;> cases l <;> simp at this ⊢
  | tuple l =>
    obtain ⟨a, vs, rfl, h1, _, h2, _⟩ := vw_tup s r h
    cases ht
    refine .inr (.inl ⟨vs, h1, ?_⟩)
    have := DpAll.len h2
    cases vs <;> cases l <;> simp at this ⊢
  | dict l =>
    have := (vw_rd s r h).2
    simp [PyData.canLay0] at this
def plainTest : Expr → Bool
  | .UnaryOp _ _ _ => false
  | .BoolOp _ _ _ => false
  | .IfExp _ _ _ _ => false
  | .Compare _ _ _ _ => false
  | _ => true
theorem isTrue_of {e : Expr} (h : plainTest e = true) (env : PySem.Env) (whole : Sem Value) : isTrue e env whole = (do let v ← whole; standAt e.pos; holding [v] (truthy v)) := by
  cases e <;> first | rfl | cases h
theorem l_test (hp : plainTest e = true) (h1 : PE X e (tE X.K Wx (den cf t))) : PT X e (tT X.K Wx (denB cf t)) := by
  refine ptImp (pt_truth h1 (isTrue_of hp _)) fun σ H Q h => ?_
  obtain ⟨φ, Z, v, m, s, r, h⟩ := h
  refine ⟨φ, Z, v, m, s, r, (Pst.seq s.len h).imp fun w φ1 m1 H1 _ s1 g1 h x r1 => ?_⟩
  obtain ⟨k, ek, h⟩ := h.opt
  obtain ⟨p, e1, e2⟩ := Option.bind_eq_some_iff.mp ek
  exact ⟨k, tru_of s1 r1 e1 e2, h φ1 H1 s1 Gr.refl⟩
/-! ### not, and, or -/
theorem l_not (h1 : PE X a (tE X.K Wx (den cf t1))) : PE X (.UnaryOp .Not a pos) (tE X.K Wx (den cf (.not t1))) := by
  refine peImp (pe_notT h1) fun σ H Q h => ?_
  obtain ⟨φ, Z, v, m, s, r, h⟩ := h
  refine ⟨φ, Z, v, m, s, r, (h.seq s.len).imp fun w φ1 m1 H1 _ s1 g1 h x r1 => ?_⟩
  obtain ⟨y, ek, h⟩ := h.opt
  obtain ⟨p, e1, e2⟩ := Option.bind_eq_some_iff.mp ek
  obtain ⟨k, e3, rfl⟩ := Option.map_eq_some_iff.mp e2
  exact ⟨k, tru_of s1 r1 e1 e3, h φ1 H1 s1 Gr.refl _ (rw_flat.2.1 _)⟩
theorem denB_not : denB cf (.not t1) = fun v m => (denB cf t1 v m).bind fun k m1 => .ok (!k) m1 := by
  funext v m
  have e : den cf (.not t1) v m = (den cf t1 v m).bind fun x m1 => optR ((vw m1 x).bind fun p => (truF p).map fun t => .d (.bool (!t))) m1 := rfl
  unfold denB
  rw [e]
  cases den cf t1 v m with
  | no => rfl
  | exc x m1 => rfl
  | ok x m1 =>
    simp only [Res.bind]
    cases vw m1 x with
    | none => rfl
    | some p =>
      simp only [Option.bind_some]
      cases truF p <;> rfl
theorem l_notT (h1 : PT X a (tT X.K Wx (denB cf t1))) : PT X (.UnaryOp .Not a pos) (tT X.K Wx (denB cf (.not t1))) := by
  refine ptImp (pt_not h1) fun σ H Q h => ?_
  rw [denB_not] at h
  obtain ⟨φ, Z, v, m, s, r, h⟩ := h
  exact ⟨φ, Z, v, m, s, r, (Pst.seq s.len h).imp fun k φ1 m1 H1 _ s1 g1 h => h φ1 H1 s1 Gr.refl⟩
theorem l_and {rest : List Expr} (h1 : PE X a (tE X.K Wx (den cf t1))) (h2 : PE X (.BoolOp .And (b :: rest) pos) (tE X.K Wx (den cf t2))) : PE X (.BoolOp .And (a :: b :: rest) pos) (tE X.K Wx (den cf (.and t1 t2))) := by
  refine peImp (pe_andT h1 h2) fun σ H Q h => ?_
  obtain ⟨φ, Z, v, m, s, r, h⟩ := h
  refine ⟨φ, Z, v, m, s, r, (h.seq s.len).imp fun w φ1 m1 H1 _ s1 g1 h x r1 => ?_⟩
  obtain ⟨k, ek, _⟩ := (h.seq s1.len).opt
  rw [ek] at h
  obtain ⟨p, e1, e2⟩ := Option.bind_eq_some_iff.mp ek
  refine ⟨k, tru_of s1 r1 e1 e2, ?_⟩
  cases k with
  | true => exact ⟨φ1, Z, v, m1, s1, g1.rv s.len r, h⟩
  | false => exact h φ1 H1 s1 Gr.refl x r1
theorem l_or {rest : List Expr} (h1 : PE X a (tE X.K Wx (den cf t1))) (h2 : PE X (.BoolOp .Or (b :: rest) pos) (tE X.K Wx (den cf t2))) : PE X (.BoolOp .Or (a :: b :: rest) pos) (tE X.K Wx (den cf (.or t1 t2))) := by
  refine peImp (pe_orT h1 h2) fun σ H Q h => ?_
  obtain ⟨φ, Z, v, m, s, r, h⟩ := h
  refine ⟨φ, Z, v, m, s, r, (h.seq s.len).imp fun w φ1 m1 H1 _ s1 g1 h x r1 => ?_⟩
  obtain ⟨k, ek, _⟩ := (h.seq s1.len).opt
  rw [ek] at h
  obtain ⟨p, e1, e2⟩ := Option.bind_eq_some_iff.mp ek
  refine ⟨k, tru_of s1 r1 e1 e2, ?_⟩
  cases k with
  | false => exact ⟨φ1, Z, v, m1, s1, g1.rv s.len r, h⟩
  | true => exact h φ1 H1 s1 Gr.refl x r1
theorem denB_and : denB cf (.and t1 t2) = fun v m => (denB cf t1 v m).bind fun k m1 => if k = true then denB cf t2 v m1 else .ok false m1 := by
  funext v m
  have e : den cf (.and t1 t2) v m = (den cf t1 v m).bind fun x m1 => (optR ((vw m1 x).bind truF) m1).bind fun t m2 => if t then den cf t2 v m2 else .ok x m2 := rfl
  unfold denB
  rw [e]
  cases den cf t1 v m with
  | no => rfl
  | exc x m1 => rfl
  | ok x m1 =>
    simp only [Res.bind]
    cases q : (vw m1 x).bind truF with
    | none => rfl
    | some k =>
      cases k with
      | true => rfl
      | false => simp only [optR]; simp [q, optR]
theorem denB_or : denB cf (.or t1 t2) = fun v m => (denB cf t1 v m).bind fun k m1 => if k = true then .ok true m1 else denB cf t2 v m1 := by
  funext v m
  have e : den cf (.or t1 t2) v m = (den cf t1 v m).bind fun x m1 => (optR ((vw m1 x).bind truF) m1).bind fun t m2 => if t then .ok x m2 else den cf t2 v m2 := rfl
  unfold denB
  rw [e]
  cases den cf t1 v m with
  | no => rfl
  | exc x m1 => rfl
  | ok x m1 =>
    simp only [Res.bind]
    cases q : (vw m1 x).bind truF with
    | none => rfl
    | some k =>
      cases k with
      | false => rfl
      | true => simp only [optR]; simp [q, optR]
theorem l_andW {rest : List Expr} (h1 : PT X a (tT X.K Wx (denB cf t1))) (h2 : PW X (.BoolOp .And (b :: rest) pos) (tT X.K Wx (denB cf t2))) : PW X (.BoolOp .And (a :: b :: rest) pos) (tT X.K Wx (denB cf (.and t1 t2))) := by
  refine pwImp (pw_and h1 h2) fun σ H Q h => ?_
  rw [denB_and] at h
  obtain ⟨φ, Z, v, m, s, r, h⟩ := h
  refine ⟨φ, Z, v, m, s, r, (Pst.seq s.len h).imp fun k φ1 m1 H1 _ s1 g1 h => ?_⟩
  cases k with
  | true => exact ⟨φ1, Z, v, m1, s1, g1.rv s.len r, h⟩
  | false => exact h φ1 H1 s1 Gr.refl
theorem l_orW {rest : List Expr} (h1 : PT X a (tT X.K Wx (denB cf t1))) (h2 : PW X (.BoolOp .Or (b :: rest) pos) (tT X.K Wx (denB cf t2))) : PW X (.BoolOp .Or (a :: b :: rest) pos) (tT X.K Wx (denB cf (.or t1 t2))) := by
  refine pwImp (pw_or h1 h2) fun σ H Q h => ?_
  rw [denB_or] at h
  obtain ⟨φ, Z, v, m, s, r, h⟩ := h
  refine ⟨φ, Z, v, m, s, r, (Pst.seq s.len h).imp fun k φ1 m1 H1 _ s1 g1 h => ?_⟩
  cases k with
  | false => exact ⟨φ1, Z, v, m1, s1, g1.rv s.len r, h⟩
  | true => exact h φ1 H1 s1 Gr.refl
theorem l_ite (hc : PT X c (tT X.K Wx (denB cf t1))) (h1 : PE X a (tE X.K Wx (den cf t2))) (h2 : PE X b (tE X.K Wx (den cf t3))) : PE X (.IfExp c a b pos) (tE X.K Wx (den cf (.ite t1 t2 t3))) := by
  refine peImp (pe_ifExp hc h1 h2) fun σ H Q h => ?_
  obtain ⟨φ, Z, v, m, s, r, h⟩ := h
  have e : den cf (.ite t1 t2 t3) v m = (denB cf t1 v m).bind fun k m1 => if k = true then den cf t2 v m1 else den cf t3 v m1 := by
    have e : den cf (.ite t1 t2 t3) v m = (den cf t1 v m).bind fun x m1 => (optR ((vw m1 x).bind truF) m1).bind fun t m2 => if t then den cf t2 v m2 else den cf t3 v m2 := rfl
    rw [e]
    unfold denB
    cases den cf t1 v m <;> rfl
  rw [e] at h
  refine ⟨φ, Z, v, m, s, r, (Pst.seq s.len h).imp fun k φ1 m1 H1 _ s1 g1 h => ?_⟩
  cases k with
  | true => exact ⟨φ1, Z, v, m1, s1, g1.rv s.len r, h⟩
  | false => exact ⟨φ1, Z, v, m1, s1, g1.rv s.len r, h⟩
end
end MP
/-! MPF: calls of own defs, of built-ins. -/
namespace MP
open PySem PySem.Spec PyProof.Rows L2
open Classical
/-! ### a def's promise, where no guard stands -/
structure FnG (pr : Program) (w : World) (K : Fg) (mg : Str → Option Value) (base : Heap) (k : Nat) (f : Addr) (fd : FuncData) (ps : List Str) (sp : Sp) : Prop where
  len : ∀ vs H Q E, sp vs H Q E → vs.length = ps.length
  run : ∀ (A : Around) (outer : List PySem.Env) (s : Shared) (H : Hp) (args : Args) (us : List Value) (vs : List V) (Q : VK) (E : XK), A.guards = some [] → Room k A → Env0 pr w K mg base A outer s H → BindsTo s fd args (ps.zip us) →
    Vals vs us → sp vs H Q E → codeAny (model pr w) A (.call (.ref f) args) (CR (L2.CX pr w) outer pr w H s Q E) s
def spN (K : Fg) (P : Tab) (n : Nat) (f : String) : Sp := fun vs H Q E => ∃ φ Z args m, SR K φ m Z H ∧ RWs K φ (hid φ m Z H) args vs ∧ Pst K (fun cls d _ H' => E cls d H') [] Z φ m H (GV K Z Q) (callN P n f args m)
theorem Pst.wish {α : Type} {K : Fg} {W1 W2 : WX} {σ1 σ2 : L2.St} {Z φ : List Addr} {m : Mem} {H : Hp} {G : α → List Addr → Mem → Hp → Prop} {r : Res α} (h : Pst K W1 σ1 Z φ m H G r) (i : ∀ cls d H', W1 cls d σ1 H' → W2 cls d σ2 H') : Pst K W2 σ2 Z φ m H G r := by
  cases r with
  | no => exact h
  | ok a m' => exact h
  | exc e m' => exact fun φ' H' cls d s g x => i _ _ _ (h φ' H' cls d s g x)
section
variable {X : Cx} {Wx : WX} {k : Nat} {f : Addr} {fd : FuncData} {ps : List Str} {sp : Sp} {x : Str} {p pos : Pos} {e : Expr} {es : List Expr} {t : TA}
theorem runG {pins : List (Addr × Obj)} {σ : L2.St} {H : Hp} {s : Shared} {Q : VK} {us : List Value} {vs : List V} (F : FnG X.prog X.w X.K X.mg X.base k f fd ps sp) (hg : X.A.guards = some []) (hr : Room k X.A) (hb : Binds X.K fd ps []) (tk : Takes X Wx)
    (I : Inv X pins σ H s) (r : Vals vs us) (h : sp vs H Q (WE Wx σ)) : wpAny (model X.prog X.w) X.A (call (.ref f) us) (EP X pins σ Q) X.xe s := by
  have hl : (us ++ ([] : List Value)).length = ps.length := by rw [List.append_nil, ← r.length]; exact F.len _ _ _ _ h
  have b := hb s us I.kIn hl
  rw [List.append_nil] at b
  refine wpAny_call (codeAny_mono (F.run X.A X.stack s H ⟨us, []⟩ us vs Q (WE Wx σ) hg hr I.env0 b r h) fun res s' hq => ?_)
  cases res with
  | error err => exact passAt tk σ pins H s err s' I hq
  | ok fl => cases fl <;> first | exact I.after hq | exact False.elim hq
theorem noStarAll {es : List Expr} (h : es.all noStar = true) (env : PySem.Env) (pos : Pos) : (backTo pos (starEach es env)).any (·.1) = false := by
  induction es with
  | nil => rfl
  | cons e r ih =>
    simp only [List.all_cons, Bool.and_eq_true] at h
    rw [starEach_ne h.1]
    show (false || (backTo pos (starEach r env)).any (·.1)) = false
    rw [ih h.2]
    rfl
theorem pe_callG (F : FnG X.prog X.w X.K X.mg X.base k f fd ps sp) (hgd : X.A.guards = some []) (hr : Room k X.A) (hg : Gl X x) (hm : X.mg x = some (.ref f)) (hk : PySem.W.keepIn X.K (.ref f) = true) (hb : Binds X.K fd ps []) (tk : Takes X Wx)
    (hdb : (x == ("__debug__" : Str)) = false) (hs : (e :: es).all noStar = true) (ha : PA X (e :: es) t) : PE X (.Call (.Name x p) (e :: es) [] pos) (tCallS sp (WE Wx) t) := by
  simp only [List.all_cons, Bool.and_eq_true] at hs
  refine ⟨fun pins s σ H Q I h => ?_⟩
  refine wpAny_Call_Name_kw (ld_glob I hg hm ?_ hdb)
  refine PySem.W.callWith_K (h₀ := X.base) I.ok.mod.kin hk (thn (ha.run pos pins s σ H _ I h) fun us s1 ⟨vs, H1, I1, r, q⟩ => ⟨I1.kIn, ?_⟩) (starEach_ne hs.1 _ _) (noStarAll hs.2 _ _)
  exact runG F hgd hr hb tk I1 r q
theorem l_call {P : Tab} {n : Nat} {g : String} {ts : E} (F : FnG X.prog X.w X.K X.mg X.base k f fd ps (spN X.K P n g)) (hgd : X.A.guards = some []) (hr : Room k X.A) (hg : Gl X x) (hm : X.mg x = some (.ref f)) (hk : PySem.W.keepIn X.K (.ref f) = true) (hb : Binds X.K fd ps [])
    (tk : Takes X Wx) (hdb : (x == ("__debug__" : Str)) = false) (hs : (e :: es).all noStar = true) (ha : PA X (e :: es) (tAr X.K Wx (denA (callN P n) ts))) :
    PE X (.Call (.Name x p) (e :: es) [] pos) (tE X.K Wx (den (callN P n) (.call g ts))) := by
  refine peImp (pe_callG F hgd hr hg hm hk hb tk hdb hs ha) fun σ H Q h => ?_
  obtain ⟨φ, Z, v, m, s, r, h⟩ := h
  exact ⟨φ, Z, v, m, s, r, (h.seq s.len).imp fun ws φ1 m1 H1 _ s1 g1 h xs r1 => ⟨φ1, Z, ws, m1, s1, r1, h.wish fun cls d H' q => q⟩⟩
/-! ### built-ins, by values -/
noncomputable abbrev kBi (b : Bi) : List W → Mem → Option W := fun l m => (l.mapM (vw m)).bind fun xs => (biF b xs).map .d
/-- what a built-in's rule asks, from the values' data -/
def OpN (K : Fg) (kk : List W → Mem → Option W) (R : List V → Hp → VK → Prop) : Prop :=
  ∀ φ Z m H ws w xs Q, SR K φ m Z H → RWs K φ (hid φ m Z H) ws xs → kk ws m = some w → (∀ H' z, SR K φ m Z H' → Gr φ m H φ m H' → RW K φ (hid φ m Z H') w z → Q z H') → R xs H Q
theorem l_biC {R : List V → Hp → VK → Prop} {b : Bi} {cf : CallF} {ts : E} {ee : Expr} (rule : PE X ee (tCB R (tAr X.K Wx (denA cf ts)))) (hk : OpN X.K (kBi b) R) : PE X ee (tE X.K Wx (den cf (.bi b ts))) := by
  refine peImp rule fun σ H Q h => ?_
  obtain ⟨φ, Z, v, m, s, r, h⟩ := h
  refine ⟨φ, Z, v, m, s, r, (h.seq s.len).imp fun ws φ1 m1 H1 _ s1 g1 h xs r1 => ?_⟩
  obtain ⟨w, ew, h⟩ := h.opt
  exact hk φ1 Z m1 H1 ws w xs Q s1 r1 ew fun H' z s' g' r' => h φ1 H' s' g' z r'
theorem l_biB {R : List V → Hp → VK → Prop} {b : Bi} {cf : CallF} {ts : E} {id : String} (hc : CallR X (.builtin id) R) (hk : OpN X.K (kBi b) R) (hg : Gl X x) (hm : X.mg x = none) (hv : bootBuiltins x = some (.builtin id)) (hn : x ≠ "__name__") (hdb : (x == ("__debug__" : Str)) = false)
    (hs : (e :: es).all noStar = true) (ha : PA X (e :: es) (tAr X.K Wx (denA cf ts))) : PE X (.Call (.Name x p) (e :: es) [] pos) (tE X.K Wx (den cf (.bi b ts))) := by
  simp only [List.all_cons, Bool.and_eq_true] at hs
  exact l_biC (pe_callB hc hg hm hv ha hn hdb (starEach_ne hs.1 _ _) (noStarAll hs.2 _ _)) hk
theorem l_biT {R : List V → Hp → VK → Prop} {b : Bi} {cf : CallF} {ts : E} {id : String} (hc : CallR X (.type id) R) (hk : OpN X.K (kBi b) R) (hg : Gl X x) (hm : X.mg x = none) (hv : bootBuiltins x = some (.type id)) (hn : x ≠ "__name__") (hdb : (x == ("__debug__" : Str)) = false)
    (hs : (e :: es).all noStar = true) (ha : PA X (e :: es) (tAr X.K Wx (denA cf ts))) : PE X (.Call (.Name x p) (e :: es) [] pos) (tE X.K Wx (den cf (.bi b ts))) := by
  simp only [List.all_cons, Bool.and_eq_true] at hs
  exact l_biC (pe_callTy hc hg hm hv ha hn hdb (starEach_ne hs.1 _ _) (noStarAll hs.2 _ _)) hk
end
section
variable {K : Fg}
/-- one argument -/
theorem op1 {b : Bi} {R : List V → Hp → VK → Prop} (h : ∀ φ Z m H w p z x Q, SR K φ m Z H → RW K φ (hid φ m Z H) w x → vw m w = some p → biF b [p] = some z →
    (∀ H' u, SR K φ m Z H' → Gr φ m H φ m H' → RW K φ (hid φ m Z H') (.d z) u → Q u H') → R [x] H Q) (h1 : ∀ ps z, biF b ps = some z → ∃ p, ps = [p]) : OpN K (kBi b) R := by
  intro φ Z m H ws w xs Q s r hk hq
  obtain ⟨ps, e1, e2⟩ := Option.bind_eq_some_iff.mp hk
  obtain ⟨z, e3, rfl⟩ := Option.map_eq_some_iff.mp e2
  obtain ⟨p, rfl⟩ := h1 _ _ e3
  cases r with
  | nil => simp at e1
  | @cons w1 x1 ws1 xs1 r1 rt =>
    simp only [List.mapM_cons, Option.bind_eq_bind, Option.bind_eq_some_iff] at e1
    obtain ⟨y, h3, k, h4, h5⟩ := e1
    have h5' : y :: k = [p] := Option.some.inj h5
    simp only [List.cons.injEq] at h5'
    obtain ⟨rfl, rfl⟩ := h5'
    cases rt with
    | nil => exact h φ Z m H w1 y z x1 Q s r1 h3 e3 hq
    | @cons w2 x2 ws2 xs2 r2 rt2 =>
      simp only [List.mapM_cons, Option.bind_eq_bind, Option.bind_eq_some_iff] at h4
      obtain ⟨y2, _, k2, _, h6⟩ := h4
      cases (show some (y2 :: k2) = some [] from h6)
theorem un_b {b : Bi} (h2 : ∀ p q r, biF b (p :: q :: r) = none) (h0 : biF b [] = none) (ps : List PyData) (z : PyData) (h : biF b ps = some z) : ∃ p, ps = [p] := by
  rcases ps with _ | ⟨p, _ | ⟨q, r⟩⟩
  · rw [h0] at h; cases h
  · exact ⟨p, rfl⟩
  · rw [h2] at h; cases h
theorem intsOf_eq : ∀ {l : List PyData} {ns : List Int}, intsOf l = some ns → l = intD ns
  | [], ns, h => by cases h; rfl
  | .int b :: r, ns, h => by
    obtain ⟨k, h1, rfl⟩ := Option.map_eq_some_iff.mp h
    rw [intsOf_eq h1]
    rfl
  | .none :: _, _, h => by cases h
  | .bool _ :: _, _, h => by cases h
  | .str _ :: _, _, h => by cases h
  | .list _ :: _, _, h => by cases h
  | .tuple _ :: _, _, h => by cases h
  | .dict _ :: _, _, h => by cases h
theorem boolsOf_eq : ∀ {l : List PyData} {ns : List Bool}, boolsOf l = some ns → l = ns.map PyData.bool
  | [], ns, h => by cases h; rfl
  | .bool b :: r, ns, h => by
    obtain ⟨k, h1, rfl⟩ := Option.map_eq_some_iff.mp h
    rw [boolsOf_eq h1]
    rfl
  | .none :: _, _, h => by cases h
  | .int _ :: _, _, h => by cases h
  | .str _ :: _, _, h => by cases h
  | .list _ :: _, _, h => by cases h
  | .tuple _ :: _, _, h => by cases h
  | .dict _ :: _, _, h => by cases h
theorem dp_ints {Hh : Hp} : ∀ {ns : List Int} {vs : List V}, DpAll K Hh vs (intD ns) → vs = ns.map V.int
  | [], _, h => by cases h; rfl
  | n :: r, _, h => by
    cases h with
    | cons h1 h2 =>
      cases h1
      rw [dp_ints h2]
      rfl
theorem dp_bools {Hh : Hp} : ∀ {ns : List Bool} {vs : List V}, DpAll K Hh vs (ns.map PyData.bool) → vs = ns.map V.bl
  | [], _, h => by cases h; rfl
  | n :: r, _, h => by
    cases h with
    | cons h1 h2 =>
      cases h1
      rw [dp_bools h2]
      rfl
theorem ints_dp {Hh : Hp} : ∀ (ns : List Int), DpAll K Hh (ns.map V.int) (intD ns)
  | [] => .nil
  | n :: r => .cons (.int n) (ints_dp r)
theorem canL_ints (ns : List Int) : PyData.canLayAll0 (intD ns) = true := by
  rw [canL_iff]
  intro x hx
  obtain ⟨n, _, rfl⟩ := List.mem_map.mp hx
  rfl
def rLenAll (K : Fg) : List V → Hp → VK → Prop := fun xs H Q => (∃ p ys, xs = [.ref p] ∧ (SqL K H p ys ∨ SqT K H p ys) ∧ Q (.int ys.length) H) ∨ (∃ z, xs = [.str z] ∧ z.length ≤ sizeLine ∧ Q (.int z.length) H)
theorem b_len : OpN K (kBi .len) (rLenAll K) := op1 (fun φ Z m H w p z x Q s r e1 e2 hq => by
  have f := vw_flat s r e1
  cases p with
  | list l =>
    obtain ⟨a, vs, rfl, h1, h2, _⟩ := vw_list s r e1
    cases e2
    exact .inl ⟨a, vs, rfl, .inl (SqL.of h1), by rw [DpAll.len h2]; exact hq H _ s Gr.refl (rw_flat.1 _)⟩
  | tuple l =>
    obtain ⟨a, vs, rfl, h1, _, h2, _⟩ := vw_tup s r e1
    cases e2
    exact .inl ⟨a, vs, rfl, .inr h1, by rw [DpAll.len h2]; exact hq H _ s Gr.refl (rw_flat.1 _)⟩
  | str y =>
    simp only [biF] at e2
    split at e2
    · cases e2
      exact .inr ⟨y, by rw [f.2.2.1 y rfl], by assumption, hq H _ s Gr.refl (rw_flat.1 _)⟩
    · cases e2
  | dict l =>
    have := (vw_rd s r e1).2
    simp [PyData.canLay0] at this
  | _ => cases e2) (un_b (fun p q r => by cases p <;> rfl) rfl)
theorem b_all : OpN K (kBi .all) (rAll K) := op1 (fun φ Z m H w p z x Q s r e1 e2 hq => by
  cases p with
  | list l =>
    obtain ⟨a, vs, rfl, h1, h2, _⟩ := vw_list s r e1
    obtain ⟨b, h3, rfl⟩ := Option.map_eq_some_iff.mp e2
    rw [boolsOf_eq h3] at h2
    have e := dp_bools h2
    subst e
    exact ⟨a, b, rfl, SqL.of h1, hq H _ s Gr.refl (rw_flat.2.1 _)⟩
  | _ => cases e2) (un_b (fun p q r => by cases p <;> rfl) rfl)
theorem b_any : OpN K (kBi .any) (rAny K) := op1 (fun φ Z m H w p z x Q s r e1 e2 hq => by
  cases p with
  | list l =>
    obtain ⟨a, vs, rfl, h1, h2, _⟩ := vw_list s r e1
    obtain ⟨b, h3, rfl⟩ := Option.map_eq_some_iff.mp e2
    rw [boolsOf_eq h3] at h2
    have e := dp_bools h2
    subst e
    exact ⟨a, b, rfl, SqL.of h1, hq H _ s Gr.refl (rw_flat.2.1 _)⟩
  | _ => cases e2) (un_b (fun p q r => by cases p <;> rfl) rfl)
theorem b_sum : OpN K (kBi .sum) (rSum K) := op1 (fun φ Z m H w p z x Q s r e1 e2 hq => by
  cases p with
  | list l =>
    obtain ⟨a, vs, rfl, h1, h2, _⟩ := vw_list s r e1
    obtain ⟨b, h3, rfl⟩ := Option.map_eq_some_iff.mp e2
    rw [intsOf_eq h3] at h2
    have e := dp_ints h2
    subst e
    exact ⟨a, b, rfl, SqL.of h1, hq H _ s Gr.refl (rw_flat.1 _)⟩
  | _ => cases e2) (un_b (fun p q r => by cases p <;> rfl) rfl)
theorem foldMax_ge : ∀ (l : List Int) (x : Int), x ≤ l.foldl max x ∧ (∀ y ∈ l, y ≤ l.foldl max x) ∧ (l.foldl max x = x ∨ l.foldl max x ∈ l)
  | [], x => by simp
  | a :: r, x => by
    obtain ⟨h1, h2, h3⟩ := foldMax_ge r (max x a)
    simp only [List.foldl_cons]
    refine ⟨by omega, fun y hy => ?_, ?_⟩
    · rcases List.mem_cons.mp hy with rfl | hy
      · omega
      · exact h2 y hy
    · rcases h3 with h3 | h3
      · by_cases q : a ≤ x
        · left; rw [h3]; omega
        · right; rw [h3]; simp; left; omega
      · right; exact List.mem_cons_of_mem _ h3
theorem foldMin_le : ∀ (l : List Int) (x : Int), l.foldl min x ≤ x ∧ (∀ y ∈ l, l.foldl min x ≤ y) ∧ (l.foldl min x = x ∨ l.foldl min x ∈ l)
  | [], x => by simp
  | a :: r, x => by
    obtain ⟨h1, h2, h3⟩ := foldMin_le r (min x a)
    simp only [List.foldl_cons]
    refine ⟨by omega, fun y hy => ?_, ?_⟩
    · rcases List.mem_cons.mp hy with rfl | hy
      · omega
      · exact h2 y hy
    · rcases h3 with h3 | h3
      · by_cases q : x ≤ a
        · left; rw [h3]; omega
        · right; rw [h3]; simp; left; omega
      · right; exact List.mem_cons_of_mem _ h3
theorem maxL_is {l : List Int} {z : Int} (h : maxL l = some z) : z ∈ l ∧ ∀ y ∈ l, y ≤ z := by
  cases l with
  | nil => cases h
  | cons a r =>
    cases h
    obtain ⟨h1, h2, h3⟩ := foldMax_ge r a
    refine ⟨?_, fun y hy => ?_⟩
    · rcases h3 with h3 | h3
      · rw [h3]; simp
      · exact List.mem_cons_of_mem _ h3
    · rcases List.mem_cons.mp hy with rfl | hy
      · exact h1
      · exact h2 y hy
theorem minL_is {l : List Int} {z : Int} (h : minL l = some z) : z ∈ l ∧ ∀ y ∈ l, z ≤ y := by
  cases l with
  | nil => cases h
  | cons a r =>
    cases h
    obtain ⟨h1, h2, h3⟩ := foldMin_le r a
    refine ⟨?_, fun y hy => ?_⟩
    · rcases h3 with h3 | h3
      · rw [h3]; simp
      · exact List.mem_cons_of_mem _ h3
    · rcases List.mem_cons.mp hy with rfl | hy
      · exact h1
      · exact h2 y hy
theorem b_max1 : OpN K (kBi .max1) (rMax K) := op1 (fun φ Z m H w p z x Q s r e1 e2 hq => by
  cases p with
  | list l =>
    obtain ⟨a, vs, rfl, h1, h2, _⟩ := vw_list s r e1
    obtain ⟨k, h3, rfl⟩ := Option.map_eq_some_iff.mp e2
    obtain ⟨b, h3, h4⟩ := Option.bind_eq_some_iff.mp h3
    rw [intsOf_eq h3] at h2
    have e := dp_ints h2
    subst e
    obtain ⟨k1, k2⟩ := maxL_is h4
    refine ⟨a, b, rfl, SqL.of h1, List.length_pos_of_mem k1, fun m' hm hle => ?_⟩
    have : m' = k := by have := k2 m' hm; have := hle k k1; omega
    subst this
    exact hq H _ s Gr.refl (rw_flat.1 _)
  | _ => cases e2) (un_b (fun p q r => by cases p <;> rfl) rfl)
theorem b_min1 : OpN K (kBi .min1) (rMin K) := op1 (fun φ Z m H w p z x Q s r e1 e2 hq => by
  cases p with
  | list l =>
    obtain ⟨a, vs, rfl, h1, h2, _⟩ := vw_list s r e1
    obtain ⟨k, h3, rfl⟩ := Option.map_eq_some_iff.mp e2
    obtain ⟨b, h3, h4⟩ := Option.bind_eq_some_iff.mp h3
    rw [intsOf_eq h3] at h2
    have e := dp_ints h2
    subst e
    obtain ⟨k1, k2⟩ := minL_is h4
    refine ⟨a, b, rfl, SqL.of h1, List.length_pos_of_mem k1, fun m' hm hle => ?_⟩
    have : m' = k := by have := k2 m' hm; have := hle k k1; omega
    subst this
    exact hq H _ s Gr.refl (rw_flat.1 _)
  | _ => cases e2) (un_b (fun p q r => by cases p <;> rfl) rfl)
theorem b_abs : OpN K (kBi .abs) (fun xs H Q => ∃ i, xs = [V.int i] ∧ Q (.int (if i < 0 then -i else i)) H) := op1 (fun φ Z m H w p z x Q s r e1 e2 hq => by
  have f := vw_flat s r e1
  cases p with
  | int i => cases e2; exact ⟨i, by rw [f.1 i rfl], hq H _ s Gr.refl (rw_flat.1 _)⟩
  | _ => cases e2) (un_b (fun p q r => by cases p <;> rfl) rfl)
theorem b_int : OpN K (kBi .int) (fun xs H Q => (∃ i, xs = [V.int i] ∧ Q (.int i) H) ∨ ∃ k, xs = [V.bl k] ∧ Q (.int (if k then 1 else 0)) H) := op1 (fun φ Z m H w p z x Q s r e1 e2 hq => by
  have f := vw_flat s r e1
  cases p with
  | int i => cases e2; exact .inl ⟨i, by rw [f.1 i rfl], hq H _ s Gr.refl (rw_flat.1 _)⟩
  | bool i => cases e2; exact .inr ⟨i, by rw [f.2.1 i rfl], hq H _ s Gr.refl (rw_flat.1 _)⟩
  | _ => cases e2) (un_b (fun p q r => by cases p <;> rfl) rfl)
theorem b_bool : OpN K (kBi .bool) (fun xs H Q => (∃ i, xs = [V.int i] ∧ Q (.bl (i != 0)) H) ∨ ∃ k, xs = [V.bl k] ∧ Q (.bl k) H) := op1 (fun φ Z m H w p z x Q s r e1 e2 hq => by
  have f := vw_flat s r e1
  cases p with
  | int i => cases e2; exact .inl ⟨i, by rw [f.1 i rfl], hq H _ s Gr.refl (rw_flat.2.1 _)⟩
  | bool i => cases e2; exact .inr ⟨i, by rw [f.2.1 i rfl], hq H _ s Gr.refl (rw_flat.2.1 _)⟩
  | _ => cases e2) (un_b (fun p q r => by cases p <;> rfl) rfl)
theorem b_tuple : OpN K (kBi .tuple) (fun xs H Q => ∃ p ys, xs = [V.ref p] ∧ ((SqL K H p ys ∧ ∀ l o, H l = none → o.dict = none → Q (.ref l) (upd H l (.frz o (.tup ys)))) ∨ (SqT K H p ys ∧ Q (.ref p) H))) := op1 (fun φ Z m H w p z x Q s r e1 e2 hq => by
  cases p with
  | list l =>
    obtain ⟨a, vs, rfl, h1, h2, hc⟩ := vw_list s r e1
    cases e2
    refine ⟨a, vs, rfl, .inl ⟨SqL.of h1, fun q o hp ho => ?_⟩⟩
    obtain ⟨s2, g2, v2⟩ := s.new hp (.frz o (.tup vs))
    exact hq _ _ s2 g2 ⟨.tup ⟨o, v2, ho⟩ (dpMonoL (g2.same s.len) _ _ h2), by simpa [PyData.canLay0] using hc⟩
  | tuple l =>
    obtain ⟨a, vs, rfl, h1, h1', h2, hc⟩ := vw_tup s r e1
    cases e2
    exact ⟨a, vs, rfl, .inr ⟨h1, hq H _ s Gr.refl ⟨.tup h1' h2, by simpa [PyData.canLay0] using hc⟩⟩⟩
  | _ => cases e2) (un_b (fun p q r => by cases p <;> rfl) rfl)
end
end MP
/-! MPFS: a call of a def with a lone starred argument. -/
namespace MP
open PySem PySem.Spec PyProof.Rows L2
section
variable {X : Cx} {Wx : WX} {k : Nat} {f : Addr} {fd : FuncData} {ps : List Str} {sp : Sp} {x : Str} {e : Expr} {p sp_ pos : Pos} {te : TE}
/-! ### a test that is a choice -/
theorem pt_ifExp {a b c : Expr} {tA ta tb : TT} (hc : PT X c tA) (ha : PT X a ta) (hb : PT X b tb) : PT X (.IfExp c a b pos) (fun σ H Q => tA σ H fun d H1 => if d = true then ta σ H1 Q else tb σ H1 Q) := by
  refine ⟨fun pins s σ H Q I h => ?_⟩
  show wpAny _ _ (isTrue c X.env (eval c X.env) >>= fun d => if d = true then isTrue a X.env (eval a X.env) else isTrue b X.env (eval b X.env)) _ _ _
  refine wpAny_bind (thn (hc.run pins s σ H _ I h) fun d s1 ⟨H1, I1, q1⟩ => ?_)
  cases d with
  | true => exact ha.run pins s1 σ H1 Q I1 q1
  | false => exact hb.run pins s1 σ H1 Q I1 q1
theorem l_iteT {cf : CallF} {a b c : Expr} {t1 t2 t3 : E} (hc : PT X c (tT X.K Wx (denB cf t1))) (h1 : PT X a (tT X.K Wx (denB cf t2))) (h2 : PT X b (tT X.K Wx (denB cf t3))) : PT X (.IfExp c a b pos) (tT X.K Wx (denB cf (.ite t1 t2 t3))) := by
  refine ptImp (pt_ifExp hc h1 h2) fun σ H Q h => ?_
  obtain ⟨φ, Z, v, m, s, r, h⟩ := h
  have e : denB cf (.ite t1 t2 t3) v m = (denB cf t1 v m).bind fun k m1 => if k = true then denB cf t2 v m1 else denB cf t3 v m1 := by
    have e : den cf (.ite t1 t2 t3) v m = (den cf t1 v m).bind fun x m1 => (optR ((vw m1 x).bind truF) m1).bind fun t m2 => if t then den cf t2 v m2 else den cf t3 v m2 := rfl
    unfold denB
    rw [e]
    cases den cf t1 v m with
    | no => rfl
    | exc x m1 => rfl
    | ok x m1 =>
      simp only [Res.bind]
      cases (vw m1 x).bind truF with
      | none => rfl
      | some k => cases k <;> rfl
  rw [e] at h
  refine ⟨φ, Z, v, m, s, r, (Pst.seq s.len h).imp fun k φ1 m1 H1 _ s1 g1 h => ?_⟩
  cases k with
  | true => exact ⟨φ1, Z, v, m1, s1, g1.rv s.len r, h⟩
  | false => exact ⟨φ1, Z, v, m1, s1, g1.rv s.len r, h⟩
theorem pe_callGS (F : FnG X.prog X.w X.K X.mg X.base k f fd ps sp) (hgd : X.A.guards = some []) (hr : Room k X.A) (hg : Gl X x) (hm : X.mg x = some (.ref f)) (hk : PySem.W.keepIn X.K (.ref f) = true) (hb : Binds X.K fd ps []) (tk : Takes X Wx)
    (hdb : (x == ("__debug__" : Str)) = false) (ha : PE X e te) : PE X (.Call (.Name x p) [.Starred e sp_] [] pos) (tCallS sp (WE Wx) (StX.tStar X.K te tNil)) := by
  refine ⟨fun pins s σ H Q I h => ?_⟩
  refine wpAny_Call_Name_kw (ld_glob I hg hm ?_ hdb)
  refine PySem.W.callWith_S (h₀ := X.base) I.ok.mod.kin hk (thn (ha.run pins s σ H _ I h) fun v s1 ⟨y, H1, I1, r, a, xs, ey, hx, q⟩ => ?_)
  subst ey
  obtain rfl : v = Value.ref a := r
  refine StX.star_any I1 hx fun us s2 I2 rv => ⟨I2.kIn, ?_⟩
  have q2 : sp (xs ++ []) H1 Q (WE Wx σ) := q
  rw [List.append_nil] at q2
  exact runG F hgd hr hb tk I2 rv q2
theorem star_imp0 {cf : CallF} {t : E} {σ : L2.St} {H : Hp} {Q : List V → Hp → Prop} (h : tAr X.K Wx (denA cf (.star t .nil)) σ H Q) : StX.tStar X.K (tE X.K Wx (den cf t)) tNil σ H Q := by
  obtain ⟨φ, Z, v, m, s, r, h⟩ := h
  refine ⟨φ, Z, v, m, s, r, (h.seq s.len).imp fun w φ1 m1 H1 _ s1 g1 h x r1 => ?_⟩
  obtain ⟨k, ek, h⟩ := (h.seq s1.len).opt
  have h := h.here s1
  obtain ⟨q, e1, e2⟩ := Option.bind_eq_some_iff.mp ek
  have fin : ∀ {a : Addr} {vs : List V}, DpAll X.K (hid φ1 m1 Z H1) vs k → PyData.canLayAll0 k = true → tNil σ H1 fun ys H2 => Q (vs ++ ys) H2 := fun {a vs} hd hc => by
    exact h φ1 H1 s1 Gr.refl (vs ++ []) (rws_app (rws_d hd hc) .nil)
  cases q with
  | list l =>
    have e : l = k := Option.some.inj e2
    subst e
    obtain ⟨a, vs, rfl, h3, h4, hc⟩ := vw_list s1 r1 e1
    exact ⟨a, vs, rfl, .inr (SqL.of h3), fin (a := a) h4 hc⟩
  | tuple l =>
    have e : l = k := Option.some.inj e2
    subst e
    obtain ⟨a, vs, rfl, h3, _, h4, hc⟩ := vw_tup s1 r1 e1
    exact ⟨a, vs, rfl, .inl h3, fin (a := a) h4 hc⟩
  | _ => cases e2
theorem l_callS {P : Tab} {n : Nat} {g : String} {t : E} (F : FnG X.prog X.w X.K X.mg X.base k f fd ps (spN X.K P n g)) (hgd : X.A.guards = some []) (hr : Room k X.A) (hg : Gl X x) (hm : X.mg x = some (.ref f)) (hk : PySem.W.keepIn X.K (.ref f) = true) (hb : Binds X.K fd ps [])
    (tk : Takes X Wx) (hdb : (x == ("__debug__" : Str)) = false) (ha : PE X e (tE X.K Wx (den (callN P n) t))) :
    PE X (.Call (.Name x p) [.Starred e sp_] [] pos) (tE X.K Wx (den (callN P n) (.call g (.star t .nil)))) := by
  refine peImp (pe_callGS F hgd hr hg hm hk hb tk hdb ha) fun σ H Q h => star_imp0 ?_
  obtain ⟨φ, Z, v, m, s, r, h⟩ := h
  exact ⟨φ, Z, v, m, s, r, (h.seq s.len).imp fun ws φ1 m1 H1 _ s1 g1 h xs r1 => ⟨φ1, Z, ws, m1, s1, r1, h.wish fun cls d H' q => q⟩⟩
end
end MP
/-! MPG: more built-ins: list, sorted, isinstance, repr, max, min; items, slices, frz. -/
namespace MP
open PySem PySem.Spec PyProof.Rows L2
open Classical
section
variable {X : Cx} {Wx : WX} {x : Str} {p pos : Pos} {e a b : Expr} {es : List Expr} {cf : CallF} {t ts t1 t2 : E}
/-! ### new lists -/
def OpF (K : Fg) (bb : Bi) (R : List V → Hp → VK → Prop) : Prop :=
  ∀ φ Z m H ws w xs Q, SR K φ m Z H → RWs K φ (hid φ m Z H) ws xs → kBi bb ws m = some w →
    (∀ H' p vs l, w = .d (.list l) → SR K φ m Z H' → Gr φ m H φ m H' → H' p = none → DpAll K (hid φ m Z H') vs l → PyData.canLayAll0 l = true → Q (.ref p) (upd H' p (.lst vs))) → R xs H Q
theorem l_biF {R : List V → Hp → VK → Prop} {bb : Bi} {ee : Expr} (rule : PE X ee (tCB R (tAr X.K Wx (denA cf ts)))) (hk : OpF X.K bb R) : PE X ee (tFr X.K Wx (den cf (.bi bb ts))) := by
  refine peImp rule fun σ H Q h => ?_
  obtain ⟨φ, Z, v, m, s, r, h⟩ := h
  refine ⟨φ, Z, v, m, s, r, (h.seq s.len).imp fun ws φ1 m1 H1 _ s1 g1 h xs r1 => ?_⟩
  obtain ⟨w, ew, h⟩ := h.opt
  exact hk φ1 Z m1 H1 ws w xs Q s1 r1 ew fun H' p vs l ew' s' g' hp k1 k2 => (h φ1 H' s' g').2 p vs l ew' hp k1 k2
theorem opF1 {K : Fg} {bb : Bi} {R : List V → Hp → VK → Prop} (h : ∀ φ Z m H w p l x Q, SR K φ m Z H → RW K φ (hid φ m Z H) w x → vw m w = some p → biF bb [p] = some (.list l) →
    (∀ H' p vs, SR K φ m Z H' → Gr φ m H φ m H' → H' p = none → DpAll K (hid φ m Z H') vs l → PyData.canLayAll0 l = true → Q (.ref p) (upd H' p (.lst vs))) → R [x] H Q)
    (hl : ∀ ps z, biF bb ps = some z → ∃ l, z = .list l) (h1 : ∀ ps z, biF bb ps = some z → ∃ p, ps = [p]) : OpF K bb R := by
  intro φ Z m H ws w xs Q s r hk hq
  obtain ⟨ps, e1, e2⟩ := Option.bind_eq_some_iff.mp hk
  obtain ⟨z, e3, rfl⟩ := Option.map_eq_some_iff.mp e2
  obtain ⟨p, rfl⟩ := h1 _ _ e3
  obtain ⟨l, rfl⟩ := hl _ _ e3
  cases r with
  | nil => simp at e1
  | @cons w1 x1 ws1 xs1 r1 rt =>
    simp only [List.mapM_cons, Option.bind_eq_bind, Option.bind_eq_some_iff] at e1
    obtain ⟨y, h3, k, h4, h5⟩ := e1
    have h5' : y :: k = [p] := Option.some.inj h5
    simp only [List.cons.injEq] at h5'
    obtain ⟨rfl, rfl⟩ := h5'
    cases rt with
    | nil => exact h φ Z m H w1 y l x1 Q s r1 h3 e3 fun H' p vs s' g' hp k1 k2 => hq H' p vs l rfl s' g' hp k1 k2
    | @cons w2 x2 ws2 xs2 r2 rt2 =>
      simp only [List.mapM_cons, Option.bind_eq_bind, Option.bind_eq_some_iff] at h4
      obtain ⟨y2, _, k2, _, h6⟩ := h4
      cases (show some (y2 :: k2) = some [] from h6)
end
section
variable {K : Fg}
theorem b_list : OpF K .list (fun xs H Q => ∃ p ys, xs = [V.ref p] ∧ (SqL K H p ys ∨ SqT K H p ys) ∧ ∀ l, H l = none → Q (.ref l) (upd H l (.lst ys))) := opF1 (fun φ Z m H w p l x Q s r e1 e2 hq => by
  cases p with
  | list k =>
    obtain ⟨a, vs, rfl, h1, h2, hc⟩ := vw_list s r e1
    cases e2
    exact ⟨a, vs, rfl, .inl (SqL.of h1), fun q hp => hq H q vs s Gr.refl hp h2 hc⟩
  | tuple k =>
    obtain ⟨a, vs, rfl, h1, h1', h2, hc⟩ := vw_tup s r e1
    cases e2
    exact ⟨a, vs, rfl, .inr h1, fun q hp => hq H q vs s Gr.refl hp h2 hc⟩
  | _ => cases e2) (fun ps z h => by
    rcases ps with _ | ⟨p, _ | ⟨q, r⟩⟩
    · cases h
    · cases p <;> first | (cases h; exact ⟨_, rfl⟩) | cases h
    · cases p <;> cases h) (un_b (fun p q r => by cases p <;> rfl) rfl)
theorem ins2_perm (x : Int) : ∀ l : List Int, (ins2 x l).Perm (x :: l)
  | [] => List.Perm.refl _
  | y :: r => by
    unfold ins2
    split
    · exact List.Perm.refl _
    · exact ((ins2_perm x r).cons y).trans (List.Perm.swap x y r)
theorem ins2_mem {x y : Int} {l : List Int} : y ∈ ins2 x l ↔ y = x ∨ y ∈ l := by
  rw [(ins2_perm x l).mem_iff, List.mem_cons]
theorem ins2_srt (x : Int) : ∀ l : List Int, l.Pairwise (· ≤ ·) → (ins2 x l).Pairwise (· ≤ ·)
  | [], _ => by simp [ins2]
  | y :: r, h => by
    unfold ins2
    have h' := List.pairwise_cons.mp h
    split
    · refine List.pairwise_cons.mpr ⟨fun z hz => ?_, h⟩
      rcases List.mem_cons.mp hz with rfl | hz
      · assumption
      · have := h'.1 z hz; omega
    · refine List.pairwise_cons.mpr ⟨fun z hz => ?_, ins2_srt x r h'.2⟩
      rcases ins2_mem.mp hz with rfl | hz
      · omega
      · exact h'.1 z hz
theorem srt2_perm : ∀ l : List Int, (srt2 l).Perm l
  | [] => List.Perm.refl _
  | x :: r => (ins2_perm x (srt2 r)).trans ((srt2_perm r).cons x)
theorem srt2_srt : ∀ l : List Int, (srt2 l).Pairwise (· ≤ ·)
  | [] => List.Pairwise.nil
  | x :: r => ins2_srt x _ (srt2_srt r)
theorem srt_uniq : ∀ {l k : List Int}, l.Perm k → l.Pairwise (· ≤ ·) → k.Pairwise (· ≤ ·) → l = k := fun {l k} hp h1 h2 =>
  hp.eq_of_pairwise (fun a b _ _ h3 h4 => by omega) h1 h2
/-! ### sorted(set(t)) of ints -/
theorem ins1_mem {x y : Int} : ∀ {l : List Int}, y ∈ ins1 x l ↔ y = x ∨ y ∈ l
  | [] => by simp [ins1]
  | z :: r => by
    unfold ins1
    split
    · simp
    · split
      · subst x; simp
      · simp only [List.mem_cons, ins1_mem (l := r)]
        constructor
        · rintro (h | h | h)
          · exact .inr (.inl h)
          · exact .inl h
          · exact .inr (.inr h)
        · rintro (h | h | h)
          · exact .inr (.inl h)
          · exact .inl h
          · exact .inr (.inr h)
theorem ins1_srt (x : Int) : ∀ l : List Int, l.Pairwise (· < ·) → (ins1 x l).Pairwise (· < ·)
  | [], _ => by simp [ins1]
  | y :: r, h => by
    unfold ins1
    have h' := List.pairwise_cons.mp h
    split
    · refine List.pairwise_cons.mpr ⟨fun z hz => ?_, h⟩
      rcases List.mem_cons.mp hz with rfl | hz
      · assumption
      · have := h'.1 z hz; omega
    · split
      · exact h
      · refine List.pairwise_cons.mpr ⟨fun z hz => ?_, ins1_srt x r h'.2⟩
        rcases ins1_mem.mp hz with rfl | hz
        · omega
        · exact h'.1 z hz
theorem srt1_mem {y : Int} : ∀ {l : List Int}, y ∈ srt1 l ↔ y ∈ l
  | [] => by simp [srt1]
  | x :: r => by unfold srt1; rw [ins1_mem, srt1_mem, List.mem_cons]
theorem srt1_srt : ∀ l : List Int, (srt1 l).Pairwise (· < ·)
  | [] => List.Pairwise.nil
  | x :: r => ins1_srt x _ (srt1_srt r)
theorem asc_uniq : ∀ {l k : List Int}, l.Pairwise (· < ·) → k.Pairwise (· < ·) → (∀ y, y ∈ l ↔ y ∈ k) → l = k
  | [], [], _, _, _ => rfl
  | [], b :: k, _, _, h => absurd ((h b).mpr (by simp)) (by simp)
  | a :: l, [], _, _, h => absurd ((h a).mp (by simp)) (by simp)
  | a :: l, b :: k, h1, h2, h => by
    have h1' := List.pairwise_cons.mp h1
    have h2' := List.pairwise_cons.mp h2
    have e : a = b := by
      have ha := (h a).mp (by simp)
      have hb := (h b).mpr (by simp)
      rcases List.mem_cons.mp ha with q | q
      · exact q
      · rcases List.mem_cons.mp hb with q' | q'
        · exact q'.symm
        · have := h2'.1 a q; have := h1'.1 b q'; omega
    subst e
    rw [asc_uniq h1'.2 h2'.2 fun y => ?_]
    constructor
    · intro hy
      have := (h y).mp (List.mem_cons_of_mem _ hy)
      rcases List.mem_cons.mp this with q | q
      · subst q; have := h1'.1 y hy; omega
      · exact q
    · intro hy
      have := (h y).mpr (List.mem_cons_of_mem _ hy)
      rcases List.mem_cons.mp this with q | q
      · subst q; have := h2'.1 y hy; omega
      · exact q
end
section
variable {X : Cx} {Wx : WX} {x : Str} {p pos : Pos} {e a b : Expr} {es : List Expr} {cf : CallF} {t ts t1 t2 : E}
/-- set(t), a tuple of ints -/
def rSetI (K : Fg) (w : World) : List V → Hp → VK → Prop := fun xs H Q => ∃ (a : Addr) (ns : List Int), xs = [V.ref a] ∧ (SqT K H a (ns.map V.int) ∨ H a = some (.lst (ns.map V.int))) ∧ ns.length < 63 ∧ ∀ q n, H q = none → n ≤ ns.length → Q (.ref q) (upd H q (SetO w q (fun j => decide (j ∈ ns)) n))
theorem intsAre_of {ns : List Int} {its : List Value} (r : Vals (ns.map V.int) its) : IntsAre its ns := by
  induction ns generalizing its with
  | nil => cases r; exact .nil
  | cons n k ih =>
    cases r with
    | cons r1 r2 =>
      obtain ⟨tk, rfl⟩ := r1
      exact .cons n tk (ih r2)
/-- the set that is being made -/
abbrev nS (w : World) : Obj := { cls := .type "set", dict := none, data := .set #[] 0 (.fresh 0 0 (!w.params.followText "set-order")) }
section
variable {P : Program} {w : World} {A : Around} {E : Value → Shared → Prop} {s : Shared}
/-- set(l), a list of ints: the set's table is right (own rule: the library has it for tuples) -/
theorem set_of_list {l : Addr} {its : Array Value} (ns : List Int) {Q : Value → Shared → Prop} (hh : A.handled = none) (hl : s.heap.IsList l its) (hi : IntsAre its.toList ns) (hb : ns.length + 1 < scanBound)
    (h : ∀ (h' : Heap) (tk c : Nat), SetR w h' s.heap.objs.size (fun j => decide (j ∈ ns)) c → c ≤ ns.length → (∀ b o, s.heap.get? b = some o → h'.get? b = some o) → Q (.ref s.heap.objs.size) { s with heap := h', toks := tk }) :
    wpAny (model P w) A (call (.type "set") [.ref l]) Q E s := by
  have hn : its.size = ns.length := by
    have := IntsAre.length hi
    rwa [Array.length_toList] at this
  have c := PySem.F.called_set
  obtain ⟨_, _, hmro⟩ := c.mro
  have hmade := c.made
  have hsub := c.sub
  have h1 := c.notType
  have h2 := c.canCreate
  have hct := PySem.F.typeCall_set_1 (.ref l)
  refine wpAny_call (codeAny_of_tree ?_)
  show wpAny _ _ (callAny (.type "set") _) _ _ _
  refine wpAny_pure ⟨Code.quiet_builtin _ (by decide +kernel), codeAny_builtin PySem.F.entry_type_call ?_⟩
  rw [Around.under_plain (weight_type_call_type "set" [.ref l] []) rfl]
  repeat (any_goals (first | assumption | wp_step))
  refine codeAny_mono (code_set_led1 (.ref l) (E := E) (Q₁ := fun o s1 => o = .ref s.heap.objs.size ∧ s1 = { s with heap := s.heap.push (nS w) }) ⟨rfl, rfl⟩) fun r s1 hr => ?_
  rcases r with e | fl
  · exact hr
  cases fl with
  | ret o =>
    obtain ⟨rfl, rfl⟩ := hr
    have hS : (s.heap.push (nS w)).get? s.heap.objs.size = some (nS w) := Heap.get?_push_size _ rfl
    have hT : Shared.TypeIs { s with heap := s.heap.push (nS w) } (.ref s.heap.objs.size) "set" := ⟨_, hS, rfl⟩
    have hli := c.init.lookup
    have hbi := c.init.bind (.ref s.heap.objs.size)
    repeat (any_goals (first | assumption | wp_step))
    refine codeAny_mono (codeAny_call_builtin (R := wants (fun r s2 => r = .none ∧ ∃ h' tk k, s2 = { s with heap := h', toks := tk } ∧ SetR w h' s.heap.objs.size (fun j => decide (j ∈ ns)) k ∧ k ≤ ns.length ∧
      (∀ b o, s.heap.get? b = some o → h'.get? b = some o)) E) c.init.plain PySem.F.entry_set_init (check_set_init_1 hT ?_)) fun r2 s2 hr2 => ?_
    · have hl1 : (s.heap.push (nS w)).IsList l its := hl.push _
      obtain ⟨⟨cls, dd, dt, sl⟩, ho, hc, nl, hd⟩ := id hl1
      simp only at hc hd
      subst hc hd
      have f1 := PySem.F.sub_list_set
      have f2 := PySem.F.sub_list_frozenset
      have f3 : (Value.type "list" == Value.type "dict") = false := by decide
      have hls : l < s.heap.objs.size := by
        obtain ⟨o, e, _⟩ := hl
        exact Heap.lt_size e
      have hsz : (s.heap.push (nS w)).objs.size = s.heap.objs.size + 1 := Heap.size_push ..
      have n1 : ∀ b : Addr, b < s.heap.objs.size → b ≠ (s.heap.push (nS w)).objs.size := fun b q => by
        rw [hsz]; exact Nat.ne_of_lt (Nat.lt_succ_of_lt q)
      have n2 : s.heap.objs.size ∉ [(s.heap.push (nS w)).objs.size, l] := by
        rw [hsz]
        simp only [List.mem_cons, List.not_mem_nil, or_false, not_or]
        exact ⟨Nat.ne_of_lt (Nat.lt_succ_self _), Nat.ne_of_gt hls⟩
      unfold Builtin.«set.__init__» noKeywords Builtin.Frozenset.updateFrom
      generalize hPI : pyIter = PI
      wp_walk
      subst hPI
      refine wpAny_pyIter_list hl1 (wpAny_bind (wpAny_runValue ?_))
      have h3 : A.in1.in1.in1.handled = none := by simp [hh]
      refine set_update_ints ((Walks.list h3 _ l (n1 l hls) its).toS) s.heap.objs.size n2 ns hn hb
        (fun i v hv => ?_) (its.size - 0) 0 _ (by omega) (Nat.zero_le _) ⟨⟨_, Heap.get?_push_size _ rfl, rfl, rfl⟩, hl1.push _⟩ ⟨0, Nat.le_refl 0, setR_new_at (Heap.get?_push_of_some _ hS)⟩ fun s' k hm hk hS' => ?_
      · have hi' : i < ns.length := by rw [← hn]; exact (Array.getElem?_eq_some_iff.mp hv).1
        obtain ⟨t, e⟩ := PyProof.Rows.IntsAre.int_at hi i v (by rw [Array.getElem?_toList]; exact hv)
        exact ⟨ns[i], t, List.getElem?_eq_getElem hi', by rw [e, List.getD_eq_getElem?_getD, List.getElem?_eq_getElem hi'] <;> rfl⟩
      · obtain ⟨h', g, d, tk, os⟩ := s'
        obtain rfl : g = s.gens := hm.gens
        obtain rfl : d = s.drawn := hm.drawn
        obtain rfl : os = s.os := hm.os
        rw [hn] at hk
        show wpAny _ _ _ _ _ _
        refine wpAny_pure ?_
        show wpAny _ _ (ret Value.none) _ _ _
        refine wpAny_pure ⟨rfl, h', tk, k, rfl, hS', hk, fun b o e => hm.heap b o ?_ (Heap.get?_push_of_some _ (Heap.get?_push_of_some _ e))⟩
        have q := Heap.lt_size e
        simp only [List.mem_cons, List.not_mem_nil, or_false, not_or]
        exact ⟨Nat.ne_of_lt q, n1 b q⟩
    · rcases r2 with e | fl2
      · exact hr2
      cases fl2 with
      | ret r =>
        obtain ⟨rfl, h', tk, k, rfl, hS', hk, hold⟩ := hr2
        repeat (any_goals (first | assumption | wp_step))
        exact h _ _ _ hS' hk hold
      | _ => exact hr2.elim
  | _ => exact hr.elim
end
theorem cr_setI (hc : X.calm = true) : CallR X (.type "set") (rSetI X.K X.w) := by
  intro pins s σ H xs us Q I r h
  obtain ⟨a, ns, rfl, ha, hl, q⟩ := h
  rw [Vals.ref1 r]
  rcases ha with ha | ha
  · obtain ⟨its, rv, ht, _⟩ := I.tuple ha
    refine call_set_tupI ns (I.ok.hd hc) (show s.heap.IsTuple a its.toArray from ht) (by simpa using intsAre_of rv) (by unfold scanBound; omega) fun h' tk c R hle k => ?_
    exact ⟨.ref _, _, I.laid (a := s.heap.objs.size) (h' := h') (t' := tk) k (Nat.le_refl _) (setO_new R), rfl, q _ c (I.hok.fresh (Nat.le_refl _)) hle⟩
  · obtain ⟨its, rv, ht, _⟩ := I.list (.inl (.inl ha))
    refine set_of_list ns (I.ok.hd hc) ht.isList (by simpa using intsAre_of rv) (by unfold scanBound; omega) fun h' tk c R hle k => ?_
    exact ⟨.ref _, _, I.laid (a := s.heap.objs.size) (h' := h') (t' := tk) k (Nat.le_refl _) (setO_new R), rfl, q _ c (I.hok.fresh (Nat.le_refl _)) hle⟩
theorem l_srtset {p2 pos2 : Pos} (hc : X.calm = true) (hg : Gl X "sorted") (hm : X.mg "sorted" = none) (hg2 : Gl X "set") (hm2 : X.mg "set" = none) (hs : noStar a = true)
    (h1 : PE X a (tE X.K Wx (den cf t))) : PE X (.Call (.Name "sorted" p) [.Call (.Name "set" p2) [a] [] pos2] [] pos) (tFr X.K Wx (den cf (.bi .srtset (.cons t .nil)))) := by
  have inner := pe_callTy (p := p2) (pos := pos2) (cr_setI hc) hg2 hm2 (by decide +kernel) (pa_cons h1 pa_nil (starEach_ne hs _ _)) (by decide) (by decide) (starEach_ne hs _ _) (by rfl)
  have outer := pe_callB (p := p) (pos := pos) (cr_sortedSet hc) hg hm (by decide +kernel) (pa_cons inner pa_nil (by rfl)) (by decide) (by decide) (by rfl) (by rfl)
  refine peImp outer fun σ H Q h => ?_
  obtain ⟨φ, Z, v, m, s, r, h⟩ := h
  have e1 : den cf (.bi .srtset (.cons t .nil)) v m = (den cf t v m).bind fun w m1 => optR (kBi .srtset [w] m1) m1 := by
    have e : den cf (.bi .srtset (.cons t .nil)) v m = ((den cf t v m).bind fun w m1 => (Res.ok [] m1).bind fun l m2 => .ok (w :: l) m2).bind fun l m1 => optR (kBi .srtset l m1) m1 := rfl
    rw [e]
    cases den cf t v m <;> rfl
  rw [e1] at h
  refine ⟨φ, Z, v, m, s, r, (h.seq s.len).imp fun w φ1 m1 H1 _ s1 g1 h y r1 => ?_⟩
  obtain ⟨w', ew, h⟩ := h.opt
  obtain ⟨ps, e1, e2⟩ := Option.bind_eq_some_iff.mp ew
  obtain ⟨z, e3, rfl⟩ := Option.map_eq_some_iff.mp e2
  simp only [List.mapM_cons, Option.bind_eq_bind, Option.bind_eq_some_iff] at e1
  obtain ⟨pp, h3, k, h4, h5⟩ := e1
  have h4' : k = [] := by simpa using h4.symm
  subst h4'
  have h5' : [pp] = ps := Option.some.inj h5
  subst h5'
  cases pp with
  | tuple l =>
    simp only [biF] at e3
    split at e3
    · rename_i hl
      obtain ⟨ns, h8, rfl⟩ := Option.map_eq_some_iff.mp e3
      have el := intsOf_eq h8
      subst el
      have hln : ns.length ≤ 60 := by simpa [intD] using hl
      obtain ⟨a1, vs, rfl, g1, _, g2, _⟩ := vw_tup s1 r1 h3
      have ev := dp_ints g2
      subst ev
      refine ⟨a1, ns, rfl, .inl g1, by omega, fun q n hq hn => ?_⟩
      refine ⟨q, _, n, rfl, upd_same, by omega, fun ns' q2 hs' hmem hlen hq2 => ?_⟩
      have e : ns' = srt1 ns := asc_uniq hs' (srt1_srt ns) fun y => by rw [hmem, srt1_mem]; simp
      subst e
      obtain ⟨s2, g2', _⟩ := s1.new hq (SetO X.w q (fun j => decide (j ∈ ns)) n)
      exact (h φ1 _ s2 g2').2 q2 _ _ rfl hq2 (ints_dp _) (canL_ints _)
    · cases e3
  | list l =>
    simp only [biF] at e3
    split at e3
    · rename_i hl
      obtain ⟨ns, h8, rfl⟩ := Option.map_eq_some_iff.mp e3
      have el := intsOf_eq h8
      subst el
      have hln : ns.length ≤ 60 := by simpa [intD] using hl
      obtain ⟨a1, vs, rfl, g1, g2, _⟩ := vw_list s1 r1 h3
      have ev := dp_ints g2
      subst ev
      refine ⟨a1, ns, rfl, .inr g1, by omega, fun q n hq hn => ?_⟩
      refine ⟨q, _, n, rfl, upd_same, by omega, fun ns' q2 hs' hmem hlen hq2 => ?_⟩
      have e : ns' = srt1 ns := asc_uniq hs' (srt1_srt ns) fun y => by rw [hmem, srt1_mem]; simp
      subst e
      obtain ⟨s2, g2', _⟩ := s1.new hq (SetO X.w q (fun j => decide (j ∈ ns)) n)
      exact (h φ1 _ s2 g2').2 q2 _ _ rfl hq2 (ints_dp _) (canL_ints _)
    · cases e3
  | _ => cases e3
/-! ### isinstance -/
def biTy : Bi → String
  | .isInt => "int" | .isBool => "bool" | .isTup => "tuple" | .isStr => "str" | _ => "list"
def isBi : Bi → Bool
  | .isInt => true | .isBool => true | .isTup => true | .isStr => true | .isLst => true | _ => false
def tyNm : PyData → String
  | .none => "NoneType" | .bool _ => "bool" | .int _ => "int" | .str _ => "str" | .list _ => "list" | .tuple _ => "tuple" | .dict _ => "dict"
theorem kits : ∀ a ∈ ["NoneType", "bool", "int", "str", "list", "tuple"], ∀ c ∈ ["int", "bool", "tuple", "str", "list"], kitB a c = some (a == c || (a == "bool" && c == "int")) := by decide +kernel
theorem is_kit {bb : Bi} (hb : isBi bb = true) (pp : PyData) (hd : pp.canLay0 = true) : ∃ k, biF bb [pp] = some (.bool k) ∧ kitB (tyNm pp) (biTy bb) = some k := by
  cases pp with
  | dict l => simp [PyData.canLay0] at hd
  | _ => cases bb <;> first | (exact absurd hb (by decide)) | exact ⟨_, rfl, (kits _ (by simp [tyNm]) _ (by simp [biTy])).trans (by simp [tyNm, biTy])⟩
theorem tyX_of {φ Z : List Addr} {m : Mem} {H : Hp} {w : W} {y : V} {pp : PyData} (s : SR X.K φ m Z H) (r : RW X.K φ (hid φ m Z H) w y) (h : vw m w = some pp) : TyX X.K H y (.type (tyNm pp)) := by
  have f := vw_flat s r h
  cases pp with
  | none => rw [f.2.2.2 rfl]; exact .base .non
  | bool i => rw [f.2.1 i rfl]; exact .base (.bl i)
  | int i => rw [f.1 i rfl]; exact .base (.int i)
  | str i => rw [f.2.2.1 i rfl]; exact .base (.str i)
  | list l =>
    obtain ⟨a1, vs, rfl, g1, _⟩ := vw_list s r h
    exact .base (.lst g1)
  | tuple l =>
    obtain ⟨a1, vs, rfl, g1, _⟩ := vw_tup s r h
    rcases g1 with g1 | ⟨o, its, n, g1, g2, _⟩
    · rcases g1 with g1 | ⟨o, g1⟩
      · exact .base (.tup g1)
      · exact .fTuple g1
    · exact .kTuple g1 g2
  | dict l =>
    have := (vw_rd s r h).2
    simp [PyData.canLay0] at this
theorem den_bi1 {bb : Bi} {v : Vr} {m : Mem} : den cf (.bi bb (.cons t .nil)) v m = (den cf t v m).bind fun w m1 => optR ((vw m1 w).bind fun pp => (biF bb [pp]).map .d) m1 := by
  have e : den cf (.bi bb (.cons t .nil)) v m = ((den cf t v m).bind fun w m1 => (Res.ok [] m1).bind fun l m2 => .ok (w :: l) m2).bind fun l m1 => optR (kBi bb l m1) m1 := rfl
  rw [e]
  cases den cf t v m with
  | no => rfl
  | exc y m1 => rfl
  | ok w m1 =>
    simp only [Res.bind, kBi, List.mapM_cons, List.mapM_nil]
    cases vw m1 w <;> rfl
theorem l_isi {bb : Bi} (hb : isBi bb = true) {p2 : Pos} (hg : Gl X "isinstance") (hm : X.mg "isinstance" = none) (hg2 : Gl X (Str.ofString (biTy bb))) (hm2 : X.mg (Str.ofString (biTy bb)) = none) (hs : noStar a = true)
    (h1 : PE X a (tE X.K Wx (den cf t))) : PE X (.Call (.Name "isinstance" p) [a, .Name (Str.ofString (biTy bb)) p2] [] pos) (tE X.K Wx (den cf (.bi bb (.cons t .nil)))) := by
  have hty : PE X (.Name (Str.ofString (biTy bb)) p2) (tC (.ty (biTy bb))) := by
    refine pe_bltn hg2 hm2 (u := .type (biTy bb)) ?_ rfl ?_ ?_
    · cases bb <;> first | (exact absurd hb (by decide)) | decide +kernel
    · cases bb <;> first | (exact absurd hb (by decide)) | decide
    · cases bb <;> first | (exact absurd hb (by decide)) | decide
  refine peImp (pe_callB call_isi hg hm (by decide +kernel) (pa_cons h1 (pa_cons hty pa_nil (by rfl)) (starEach_ne hs _ _)) (by decide) (by decide) (starEach_ne hs _ _) (by rfl)) fun σ H Q h => ?_
  obtain ⟨φ, Z, v, m, s, r, h⟩ := h
  rw [den_bi1] at h
  refine ⟨φ, Z, v, m, s, r, (h.seq s.len).imp fun w φ1 m1 H1 _ s1 g1 h y r1 => ?_⟩
  obtain ⟨w', ew, h⟩ := h.opt
  obtain ⟨pp, e1, e2⟩ := Option.bind_eq_some_iff.mp ew
  obtain ⟨k, e3, e4⟩ := is_kit hb pp (vw_rd s1 r1 e1).2
  rw [e3] at e2
  cases e2
  exact ⟨y, .ty (biTy bb), .type (tyNm pp), .type (biTy bb), k, rfl, .ty _, tyX_of s1 r1 e1, kit_ty e4, h φ1 H1 s1 Gr.refl _ (rw_flat.2.1 _)⟩
/-! ### repr -/
def rRepr (K : Fg) : List V → Hp → VK → Prop := fun xs H Q => ∃ y d, xs = [y] ∧ L2.Dp K H y d ∧ d.canLay0 = true ∧ reprOk d ∧ Q (.str d.shown) H
theorem cr_repr (hgd : X.A.guards = some []) (hu : X.A.units + 66 < cLine) : CallR X (.builtin "repr") (rRepr X.K) := by
  intro pins s σ H xs us Q I r h
  obtain ⟨y, d, rfl, hd, hc, ⟨k1, k2, k3, k4, k5⟩, q⟩ := h
  obtain ⟨u, rfl, ru⟩ := vals1 r
  obtain ⟨as, rd⟩ := L2.Dp.reads I d y u hd ru
  have fin : ∀ (tk : Nat) (t : Tok), EP X pins σ Q (.str d.shown t) { s with toks := tk } := fun tk t => ⟨.str d.shown, H, I.tok tk, ⟨_, rfl⟩, q⟩
  have ofRef : ∀ a, u = .ref a → wpAny (model X.prog X.w) X.A (call (.builtin "repr") [u]) (EP X pins σ Q) X.xe s := fun a ea => by
    subst ea
    exact repr_of_reads' rd k1 (fun z => by rw [k4] at z; cases z) hgd (by omega) (fun b o e => e) (fun h' u tk k => ⟨.str d.shown, H, I.kept (t' := tk) k, ⟨_, rfl⟩, q⟩) k3
  cases hd with
  | non =>
    cases ru
    exact PySem.P.repr_of_none (by have := fin (s.toks + 1) s.toks; simpa only [PyData.shown_none] using this)
  | bl b =>
    cases ru
    exact PySem.P.repr_of_bool (by have := fin (s.toks + 1) s.toks; simpa only [PyData.shown_bool] using this)
  | int i =>
    obtain ⟨t, rfl⟩ := ru
    exact PySem.P.repr_of_int (by simpa [PyData.showable] using k1) (by have := fin (s.toks + 1) s.toks; simpa only [PyData.shown_int] using this)
  | str i =>
    obtain ⟨t, rfl⟩ := ru
    exact PySem.P.repr_of_str (by have := fin (s.toks + 1) s.toks; simpa only [PyData.shown_str] using this) (by rw [PyData.shown_str] at k3; exact k3)
  | lst hs ha => exact ofRef _ (by cases ru; rfl)
  | tup hs ha => exact ofRef _ (by cases ru; rfl)
theorem b_repr {K : Fg} : OpN K (kBi .repr) (rRepr K) := op1 (fun φ Z m H w p z x Q s r e1 e2 hq => by
  obtain ⟨d1, c1⟩ := vw_dp s r e1
  have e2' : (if reprOk p then some (PyData.str p.shown) else none) = some z := by cases p <;> exact e2
  split at e2'
  · rename_i hk
    cases e2'
    exact ⟨x, p, rfl, Dp.lib _ _ d1, c1, hk, hq H _ s Gr.refl ⟨.str _, by simpa [PyData.canLay0] using hk.2.2.2.2⟩⟩
  · cases e2') (un_b (fun p q r => by cases p <;> rfl) rfl)
end
end MP
/-! MPGS: sorted of a list of tuples of ints, of any lengths. -/
namespace MP
open PySem PySem.Spec PyProof.Rows L2
/-! ### the order by numbers -/
def pc (B : Int) : Nat → List Int → Int
  | 0, _ => 0
  | _ + 1, [] => 0
  | d + 1, x :: r => (x + 1) * (B + 1) ^ d + pc B d r
theorem pc_nil {B : Int} : ∀ d, pc B d [] = 0
  | 0 => rfl
  | _ + 1 => rfl
theorem pc_bd {B : Int} (hB : 0 ≤ B) : ∀ (d : Nat) (ns : List Int), TS.Bd B ns → 0 ≤ pc B d ns ∧ pc B d ns < (B + 1) ^ d
  | 0, ns, _ => ⟨Int.le_refl _, by show (0 : Int) < (B + 1) ^ 0; rw [Int.pow_zero]; decide⟩
  | d + 1, [], _ => ⟨Int.le_refl _, Int.pow_pos (by omega)⟩
  | d + 1, x :: r, h => by
    obtain ⟨c0, c1⟩ := pc_bd hB d r h.tail
    obtain ⟨d0, d1⟩ := h.head
    show 0 ≤ (x + 1) * (B + 1) ^ d + pc B d r ∧ (x + 1) * (B + 1) ^ d + pc B d r < (B + 1) ^ (d + 1)
    rw [Int.pow_succ]
    exact TS.num1 c0 c1 (by omega) (by omega)
theorem pc_pos {B : Int} (hB : 0 ≤ B) {d : Nat} {x : Int} {r : List Int} (h : TS.Bd B (x :: r)) : 0 < pc B (d + 1) (x :: r) := by
  obtain ⟨c0, _⟩ := pc_bd hB d r h.tail
  obtain ⟨d0, _⟩ := h.head
  show 0 < (x + 1) * (B + 1) ^ d + pc B d r
  have p : 0 < (B + 1) ^ d := Int.pow_pos (by omega)
  have := Int.mul_pos (show 0 < x + 1 by omega) p
  omega
theorem pc_lt {B : Int} (hB : 0 ≤ B) : ∀ (d : Nat) (a b : List Int), TS.Bd B a → TS.Bd B b → a.length ≤ d → b.length ≤ d → decide (pc B d a < pc B d b) = ltL a b
  | d, [], [], _, _, _, _ => by rw [pc_nil]; rfl
  | 0, x :: a, _, _, _, h, _ => by simp at h
  | 0, [], y :: b, _, _, _, h => by simp at h
  | d + 1, [], y :: b, _, hb, _, _ => by
    rw [pc_nil, decide_eq_true (pc_pos hB hb)]; rfl
  | d + 1, x :: a, [], ha, _, _, _ => by
    have := pc_pos hB (d := d) ha
    rw [pc_nil, decide_eq_false (by omega)]; rfl
  | d + 1, x :: a, y :: b, ha, hb, la, lb => by
    have ih := pc_lt hB d a b ha.tail hb.tail (by simpa using la) (by simpa using lb)
    obtain ⟨a0, a1⟩ := pc_bd hB d a ha.tail
    obtain ⟨b0, b1⟩ := pc_bd hB d b hb.tail
    show decide ((x + 1) * (B + 1) ^ d + pc B d a < (y + 1) * (B + 1) ^ d + pc B d b) = if x = y then ltL a b else decide (x < y)
    by_cases e : x = y
    · rw [if_pos e, ← ih, e]
      generalize (y + 1) * (B + 1) ^ d = Z
      exact decide_eq_decide.mpr ⟨fun h => by omega, fun h => by omega⟩
    · rw [if_neg e]
      refine decide_eq_decide.mpr ⟨fun h => ?_, fun h => TS.num2 a0 a1 b0 (by omega)⟩
      rcases Int.lt_trichotomy x y with z | z | z
      · exact z
      · exact absurd z e
      · have := TS.num2 (e := x + 1) (g := pc B d a) b0 b1 a0 (show y + 1 < x + 1 by omega)
        omega
theorem pc_inj {B : Int} (hB : 0 ≤ B) : ∀ (d : Nat) (a b : List Int), TS.Bd B a → TS.Bd B b → a.length ≤ d → b.length ≤ d → pc B d a = pc B d b → a = b
  | d, [], [], _, _, _, _, _ => rfl
  | 0, x :: a, _, _, _, h, _, _ => by simp at h
  | 0, [], y :: b, _, _, _, h, _ => by simp at h
  | d + 1, [], y :: b, _, hb, _, _, h => by
    have := pc_pos hB (d := d) hb
    rw [pc_nil] at h; omega
  | d + 1, x :: a, [], ha, _, _, _, h => by
    have := pc_pos hB (d := d) ha
    rw [pc_nil] at h; omega
  | d + 1, x :: a, y :: b, ha, hb, la, lb, h => by
    obtain ⟨a0, a1⟩ := pc_bd hB d a ha.tail
    obtain ⟨b0, b1⟩ := pc_bd hB d b hb.tail
    have h : (x + 1) * (B + 1) ^ d + pc B d a = (y + 1) * (B + 1) ^ d + pc B d b := h
    have e : x = y := by
      rcases Int.lt_trichotomy x y with z | z | z
      · have := TS.num2 (e := y + 1) (g := pc B d b) a0 a1 b0 (show x + 1 < y + 1 by omega)
        omega
      · exact z
      · have := TS.num2 (e := x + 1) (g := pc B d a) b0 b1 a0 (show y + 1 < x + 1 by omega)
        omega
    subst e
    rw [pc_inj hB d a b ha.tail hb.tail (by simpa using la) (by simpa using lb) (by omega)]
theorem insL_perm (x : List Int) : ∀ l, (insL x l).Perm (x :: l)
  | [] => List.Perm.refl _
  | y :: r => by
    unfold insL
    split
    · exact ((insL_perm x r).cons y).trans (List.Perm.swap x y r)
    · exact List.Perm.refl _
theorem srtL_perm : ∀ l, (srtL l).Perm l
  | [] => List.Perm.refl _
  | x :: r => (insL_perm x (srtL r)).trans ((srtL_perm r).cons x)
theorem insL_srt {f : List Int → Int} {G : List Int → Prop} (hf : ∀ a b, G a → G b → decide (f a < f b) = ltL a b) {x : List Int} (hx : G x) : ∀ l, (∀ y ∈ l, G y) → l.Pairwise (fun a b => f a ≤ f b) → (insL x l).Pairwise (fun a b => f a ≤ f b)
  | [], _, _ => by simp [insL]
  | y :: r, hg, h => by
    unfold insL
    have h' := List.pairwise_cons.mp h
    have e := hf y x (hg y (by simp)) hx
    split
    · rename_i q
      rw [q] at e
      have e := of_decide_eq_true e
      refine List.pairwise_cons.mpr ⟨fun z hz => ?_, insL_srt hf hx r (fun z hz => hg z (List.mem_cons_of_mem _ hz)) h'.2⟩
      rcases List.mem_cons.mp ((insL_perm x r).mem_iff.mp hz) with rfl | hz
      · omega
      · exact h'.1 z hz
    · rename_i q
      have q : ltL y x = false := by simpa using q
      rw [q] at e
      have e := of_decide_eq_false e
      refine List.pairwise_cons.mpr ⟨fun z hz => ?_, h⟩
      rcases List.mem_cons.mp hz with rfl | hz
      · omega
      · have := h'.1 z hz; omega
theorem srtL_srt {f : List Int → Int} {G : List Int → Prop} (hf : ∀ a b, G a → G b → decide (f a < f b) = ltL a b) : ∀ l, (∀ y ∈ l, G y) → (srtL l).Pairwise (fun a b => f a ≤ f b)
  | [], _ => List.Pairwise.nil
  | x :: r, hg => insL_srt hf (hg x (by simp)) _ (fun z hz => hg z (List.mem_cons_of_mem _ ((srtL_perm r).mem_iff.mp hz))) (srtL_srt hf r fun z hz => hg z (List.mem_cons_of_mem _ hz))
/-! ### the sort's own run -/
theorem firsts2 {h : Heap} : ∀ vs : List Value, (∀ v, v ∈ vs → ∃ ns, TS.TupInts h v ns ∧ 1 ≤ ns.length) → ∃ fs, PySem.W.KatTups h vs fs ∧ fs.length = vs.length ∧ ∀ f, f ∈ fs → ∃ n t, f = Value.int n t
  | [], _ => ⟨[], PySem.W.KatTups.nil, rfl, fun f hf => by simp at hf⟩
  | v :: vs, x => by
    obtain ⟨fs, k, hl, hi⟩ := firsts2 vs fun u hu => x u (List.mem_cons_of_mem _ hu)
    obtain ⟨ns, ⟨a, xs, rfl, ⟨o, ho, hc, n, hdt⟩, i⟩, hn⟩ := x v (List.mem_cons_self ..)
    obtain ⟨y, ys, e⟩ : ∃ y ys, xs.toList = y :: ys := by
      cases q : xs.toList with
      | nil =>
        rw [q] at i
        have l := i.length
        rw [List.length_nil] at l
        omega
      | cons y ys => exact ⟨y, ys, rfl⟩
    obtain ⟨m, t, hy⟩ := i.all y (by rw [e]; exact List.mem_cons_self ..)
    refine ⟨y :: fs, PySem.W.KatTups.cons ho hc hdt ?_ k, by simp [hl], ?_⟩
    · have z := congrArg (fun l : List Value => l[0]?) e
      simpa using z
    · intro f hf
      rcases List.mem_cons.mp hf with rfl | hf
      · exact ⟨m, t, hy⟩
      · exact hi f hf
section
variable {prog : Program} {w : World} {A : Around} {E : Value → Shared → Prop} {s : Shared} {Q : Bool → Shared → Prop}
theorem lex2 {B : Int} (hB : 0 ≤ B) {b : Bool} {xs ys : List Value} {ns ms : List Int} (d i : Nat) (hx : IntsAre xs ns) (hy : IntsAre ys ms) (l1 : ns.length ≤ d) (l2 : ms.length ≤ d) (h1 : TS.Bd B ns) (h2 : TS.Bd B ms)
    (fin : Bool) (hfin : fin = decide (ns.length < ms.length)) (h : Q (decide (pc B d ns < pc B d ms)) s) : PySem.W.KatLex prog w A b fin Q (xs.zip ys) i s := by
  induction hx generalizing ys ms i d with
  | nil =>
    cases hy with
    | nil =>
      have e : decide (pc B d [] < pc B d []) = false := decide_eq_false (Int.lt_irrefl _)
      rw [e] at h
      have hf : fin = false := by rw [hfin]; rfl
      rw [← hf] at h
      exact PySem.W.kat_nil h
    | @cons q u ys ms hy =>
      rw [pc_lt hB d _ _ h1 h2 l1 l2] at h
      have hf : fin = true := by rw [hfin]; simp
      rw [show ltL [] (q :: ms) = true from rfl, ← hf] at h
      exact PySem.W.kat_nil h
  | @cons p t xs ns hx ih =>
    cases hy with
    | nil =>
      rw [pc_lt hB d _ _ h1 h2 l1 l2] at h
      have hf : fin = false := by rw [hfin]; simp
      rw [show ltL (p :: ns) [] = false from rfl, ← hf] at h
      exact PySem.W.kat_nil h
    | @cons q u ys ms hy =>
      have hfin' : fin = decide (ns.length < ms.length) := by rw [hfin]; simp
      cases d with
      | zero => simp at l1
      | succ d =>
      rw [pc_lt hB (d + 1) _ _ h1 h2 l1 l2] at h
      have h : Q (if p = q then ltL ns ms else decide (p < q)) s := h
      show PySem.W.KatLex prog w A b fin Q ((Value.int p t, Value.int q u) :: xs.zip ys) i s
      refine PySem.W.kat_cons (wpAny_eqBool_int ?_)
      by_cases e : p = q
      · subst e
        rw [if_pos rfl] at h
        rw [beq_self_eq_true]
        refine PySem.W.kat_yes ?_
        rw [← pc_lt hB d _ _ h1.tail h2.tail (by simpa using l1) (by simpa using l2)] at h
        exact ih d (i + 1) hy (by simpa using l1) (by simpa using l2) h1.tail h2.tail hfin' h
      · rw [if_neg e] at h
        rw [show (p == q) = false from beq_eq_false_iff_ne.mpr e]
        exact PySem.W.kat_no (TS.oneLt_ints _ h)
end
/-- what is sorted -/
def TupsOk2 (h : Heap) (d : Nat) (B : Int) (vs : List Value) : Prop := ∀ v, v ∈ vs → ∃ ns, TS.TupInts h v ns ∧ (2 ≤ vs.length → 1 ≤ ns.length) ∧ ns.length ≤ d ∧ TS.Bd B ns
theorem TupsOk2.keeps {h h' : Heap} {d : Nat} {B : Int} {vs : List Value} (x : TupsOk2 h d B vs) (k : ∀ b o, h.get? b = some o → o.cls = .type "tuple" → h'.get? b = some o) : TupsOk2 h' d B vs := fun v hv =>
  let ⟨ns, t, r⟩ := x v hv; ⟨ns, t.keeps k, r⟩
section
variable {prog : Program} {w : World} {A : Around} {E : Value → Shared → Prop} {s : Shared}
theorem kind2 {d : Nat} {B : Int} {vs : List Value} (hB : 0 ≤ B) (h2 : 2 ≤ vs.length) (x : TupsOk2 s.heap d B vs) (r : Value → Int) (hr : ∀ v, v ∈ vs → ∀ ns, TS.TupInts s.heap v ns → r v = pc B d ns) (Q : SortKind → Shared → Prop)
    (h : ∀ κ, TS.Cmp prog w A s κ (pairsOf vs) r → Q κ s) : wpAny (model prog w) A (keyKind' vs.toArray) Q E s := by
  obtain ⟨fs, k, hl, hi⟩ := firsts2 vs fun v hv => let ⟨ns, t, q, _⟩ := x v hv; ⟨ns, t, q h2⟩
  refine PySem.W.kat_kind (T := Value.type "int") k (by omega) (fun f hf => ?_) rfl (h _ ?_)
  · obtain ⟨n, t, rfl⟩ := hi f hf
    exact PySem.W.Looks.of_pure rfl
  · intro p q hp hq Q' E' hQ
    rw [pairsOf_toList] at hp hq
    obtain ⟨ns, tp, _, lp, bp⟩ := x _ (mem_zip_self hp).2
    obtain ⟨ms, tq, _, lq, bq⟩ := x _ (mem_zip_self hq).2
    have ep := hr _ (mem_zip_self hp).2 _ tp
    have eq2 := hr _ (mem_zip_self hq).2 _ tq
    have hQ' : Q' (decide (pc B d ns < pc B d ms)) s := by
      have z : decide (r p.1 < r q.1) = decide (pc B d ns < pc B d ms) := by rw [ep, eq2]
      rw [← z]; exact hQ
    obtain ⟨a, xs, e1, ⟨o, ho, hc, n, hdt⟩, i⟩ := tp
    obtain ⟨a', ys, e2, ⟨o', ho', hc', n', hdt'⟩, i'⟩ := tq
    rw [e1, e2]
    refine PySem.W.kat_lt ho hdt ho' hdt' ?_
    refine lex2 hB d 0 i i' lp lq bp bq _ ?_ hQ'
    have l1 := i.length
    have l2 := i'.length
    rw [Array.length_toList] at l1 l2
    rw [l1, l2]
theorem sort2 {a : Addr} {vs : List Value} {n d : Nat} {B : Int} (hB : 0 ≤ B) {P : PySem.Fin → Shared → Prop} (ho : s.heap.get? a = some (seqObj "list" vs.toArray n)) (h64 : vs.length < 64) (x : TupsOk2 s.heap d B vs)
    (r : Value → Int) (hr : ∀ v, v ∈ vs → ∀ ns, TS.TupInts s.heap v ns → r v = pc B d ns)
    (h : ∀ out : Array Value, out.toList.Perm vs → out.toList.Pairwise (fun u v => r u ≤ r v) → P (.done (.ret .none)) { s with heap := sortedHeap s.heap a vs out }) :
    wpAny (model prog w) A (Builtin.«list.sort» ⟨[.ref a], []⟩) P E s := by
  have keep : ∀ b o, s.heap.get? b = some o → o.cls = .type "tuple" → (TS.midHeap s.heap a vs).get? b = some o := fun b o e hc => by
    refine TS.midHeap_old ?_ e
    rintro rfl
    rw [ho] at e
    have e' : seqObj "list" vs.toArray n = o := Option.some.inj e
    rw [← e'] at hc
    have c' : Value.type "list" = Value.type "tuple" := hc
    injection c' with c''
    exact absurd c'' (by decide)
  refine SK.plain_sort (r := r) ho h64 (fun h2 Q hQ => ?_) fun ps out h1 h2 h3 => ?_
  · refine kind2 (s := { s with heap := TS.midHeap s.heap a vs }) hB h2 (x.keeps keep) r (fun v hv ns t => ?_) Q hQ
    obtain ⟨ns0, t0, _⟩ := x v hv
    have e : ns = ns0 := t.ints.symm.trans (t0.keeps keep).ints
    rw [e]
    exact hr v hv ns0 t0
  · obtain ⟨p, o⟩ := TS.out_rank h1 h2 h3
    exact h out p o
theorem sorted2 {l : Addr} {vs : List Value} {d : Nat} {B : Int} (hB : 0 ≤ B) {Q : Value → Shared → Prop} (hl : s.heap.IsList l vs.toArray) (h64 : vs.length < 64) (x : TupsOk2 s.heap d B vs)
    (h : ∀ out : Array Value, out.toList.Perm vs → out.toList.Pairwise (fun u v => pc B d (TS.intsOf s.heap u) ≤ pc B d (TS.intsOf s.heap v)) → Q (.ref (s.heap.objs.size + 1)) { s with heap := sortedAll s.heap vs out }) :
    wpAny (model prog w) A (call (.builtin "sorted") [.ref l]) Q E s := by
  refine Calls.call_function_entry kind_sorted plain_sorted entry_sorted (args_sorted1 _) ?_
  unfold Builtin.«sorted»
  refine wpAny_bind (m := checkCount "sorted" 1 1 _) (wpAny_pure ?_)
  refine wpAny_bind (collect_list hl ?_ (by rw [sizeLine_eq]; omega))
  refine wpAny_bind (wpAny_newList ?_ (by rw [sizeLine_eq]; omega))
  have hsz : ((s.heap.push (seqObj "list" #[] 0)).update s.heap.objs.size (Obj.mapSeq (· ++ vs.toArray))).objs.size = s.heap.objs.size + 1 := by
    rw [Heap.size_update, size_push']
  have hoL : (((s.heap.push (seqObj "list" #[] 0)).update s.heap.objs.size (Obj.mapSeq (· ++ vs.toArray))).push (seqObj "list" vs.toArray 0)).get? (s.heap.objs.size + 1) = some (seqObj "list" vs.toArray 0) := by
    rw [← hsz]; exact Heap.get?_push_size _ rfl
  have keep : ∀ b o, s.heap.get? b = some o → o.cls = .type "tuple" → (((s.heap.push (seqObj "list" #[] 0)).update s.heap.objs.size (Obj.mapSeq (· ++ vs.toArray))).push (seqObj "list" vs.toArray 0)).get? b = some o := fun b o q _ => by
    have hlt : b < s.heap.objs.size := Heap.lt_size q
    rw [Heap.get?_push_ne _ _ _ (by rw [hsz]; exact Nat.ne_of_lt (Nat.lt_succ_of_lt hlt)), Heap.get?_update_ne _ _ _ _ (Nat.ne_of_lt hlt), Heap.get?_push_ne _ _ _ (Nat.ne_of_lt hlt)]
    exact q
  show wpAny _ _ _ _ _ { s with heap := ((s.heap.push (seqObj "list" #[] 0)).update s.heap.objs.size (Obj.mapSeq (· ++ vs.toArray))).push (seqObj "list" vs.toArray 0) }
  rw [hsz]
  refine wpAny_bind (wpAny_holding (wpAny_call_entry slot_list_sort ⟨_, hoL, rfl⟩ entry_list_sort (sort2 hB hoL h64 (x.keeps keep) (fun v => pc B d (TS.intsOf s.heap v)) (fun v hv ns t => ?_) fun out a1 a2 => ⟨_, rfl, ?_⟩) (args_list_sort _)))
  · obtain ⟨ns0, t0, _⟩ := x v hv
    have e : ns = ns0 := t.ints.symm.trans (t0.keeps keep).ints
    rw [e]
    show pc B d (TS.intsOf s.heap v) = pc B d ns0
    rw [t0.ints]
  · exact wpAny_pure ⟨_, rfl, h out a1 a2⟩
end
def rSort2 (K : PySem.W.Frag) : List V → Hp → VK → Prop := fun vs H Q => ∃ (a : Addr) (xs : List V) (d : Nat) (B : Int), vs = [V.ref a] ∧ SqL K H a xs ∧ xs.length < 64 ∧ 0 ≤ B ∧ (∀ x ∈ xs, ∃ ns, TupI K H x ns ∧ (2 ≤ xs.length → 1 ≤ ns.length) ∧ ns.length ≤ d ∧ TS.Bd B ns) ∧
  ∀ (ys : List V) (p : Addr), ys.Perm xs → ys.Pairwise (fun x y => ∀ n m, TupI K H x n → TupI K H y m → pc B d n ≤ pc B d m) → H p = none → Q (.ref p) (upd H p (.lst ys))
section
variable {X : Cx} {pins : List (Addr × Obj)} {σ : L2.St} {H : Hp} {s : Shared}
theorem cr_sort2 : CallR X (.builtin "sorted") (rSort2 X.K) := by
  intro pins s σ H vs us Q I r h
  obtain ⟨a, xs, d, B, rfl, hs, h64, hB, hx, q⟩ := h
  obtain ⟨its, rv, hl, hz⟩ := I.list hs
  rw [Vals.ref1 r]
  obtain ⟨e1, e2⟩ := bkV_refs rv fun x m => by
    obtain ⟨ns, ⟨t, e, _⟩, _⟩ := hx x m
    exact ⟨t, e⟩
  have hlen0 : its.length = xs.length := by rw [← rv.length]
  refine sorted2 (d := d) hB hl.isList (by rw [← rv.length]; exact h64) (fun v hv => ?_) fun out h1 h2 => ?_
  · obtain ⟨t, rfl⟩ := e2 v hv
    have hm : V.ref t ∈ xs := by
      rw [e1]
      exact List.mem_map.mpr ⟨_, hv, rfl⟩
    obtain ⟨ns, ⟨t', e, ht⟩, hn, hn2, hb⟩ := hx _ hm
    cases e
    exact ⟨ns, tupI_raw I ht, fun z => hn (by omega), hn2, hb⟩
  · obtain ⟨ep, he'⟩ := PyProof.Rows.sortedAll_at s.heap its out
    have h3 : ∀ u ∈ out.toList, ∃ a, u = Value.ref a := fun u hu => e2 u (h1.mem_iff.mp hu)
    have hp : (out.toList.map bkV).Perm xs := by
      rw [e1]
      exact h1.map bkV
    have hlen : (out.toList.map bkV).length ≤ sizeLine := by
      rw [hp.length_eq]
      exact hz
    refine ⟨.ref _, upd H (s.heap.objs.size + 1) (.lst (out.toList.map bkV)), I.laid (t' := s.toks) (fun _ _ => PyProof.Rows.sortedAll_old) (Nat.le_succ _) ⟨hlen, out.toList, ep, bkV_vals h3, he'⟩, rfl, q _ _ hp ?_ (I.hok.fresh (Nat.le_succ _))⟩
    rw [List.pairwise_map]
    refine List.Pairwise.imp (fun {u v} huv n m hn hm => ?_) h2
    obtain ⟨t, et, ht⟩ := hn
    obtain ⟨t', et', ht'⟩ := hm
    have eu := bkV_ref et
    have ev := bkV_ref et'
    have i1 : TS.intsOf s.heap u = n := by
      rw [eu]; exact (tupI_raw I ht).ints
    have i2 : TS.intsOf s.heap v = m := by
      rw [ev]; exact (tupI_raw I ht').ints
    rw [i1, i2] at huv
    exact huv
end
section
open Classical
variable {K : Fg}
theorem dp_perm {Hh : Hp} {g : List Int → PyData} : ∀ {ys xs : List V}, ys.Perm xs → ∀ T : List (List Int), DpAll K Hh xs (T.map g) → ∃ T' : List (List Int), T'.Perm T ∧ DpAll K Hh ys (T'.map g) := by
  intro ys xs h
  induction h with
  | nil => exact fun T h => ⟨T, List.Perm.refl _, h⟩
  | cons x _ ih =>
    intro T h
    cases T with
    | nil => cases h
    | cons t T =>
      cases h with
      | cons h1 h2 =>
        obtain ⟨T', p, q⟩ := ih T h2
        exact ⟨t :: T', p.cons t, .cons h1 q⟩
  | swap x y l =>
    intro T h
    rcases T with _ | ⟨t, _ | ⟨u, T⟩⟩
    · cases h
    · cases h with
      | cons h1 h2 => cases h2
    · cases h with
      | cons h1 h2 =>
        cases h2 with
        | cons h3 h4 => exact ⟨u :: t :: T, List.Perm.swap t u T, .cons h3 (.cons h1 h4)⟩
  | trans _ _ ih1 ih2 =>
    intro T h
    obtain ⟨T1, p1, q1⟩ := ih2 T h
    obtain ⟨T2, p2, q2⟩ := ih1 T1 q1
    exact ⟨T2, p2.trans p1, q2⟩
theorem dp_tupI {Hh H : Hp} (sm : Same Hh H) {x : V} {t : List Int} (h : Dp K Hh x (.tuple (intD t))) : TupI K H x t := by
  have h := dpMono sm _ _ h
  cases h with
  | tup hs ha => exact ⟨_, rfl, by rw [← dp_ints ha]; exact hs.sq⟩
theorem dp_pair {Hh H : Hp} (sm : Same Hh H) {B : Int} {d : Nat} : ∀ {ys : List V} {T : List (List Int)}, DpAll K Hh ys (T.map fun t => .tuple (intD t)) → ys.Pairwise (fun x y => ∀ n m, TupI K H x n → TupI K H y m → pc B d n ≤ pc B d m) → T.Pairwise fun a b => pc B d a ≤ pc B d b
  | [], [], _, _ => .nil
  | [], t :: T, h, _ => by cases h
  | y :: ys, [], h, _ => by cases h
  | y :: ys, t :: T, h, hp => by
    cases h with
    | cons h1 h2 =>
      obtain ⟨p1, p2⟩ := List.pairwise_cons.mp hp
      refine List.pairwise_cons.mpr ⟨fun u hu => ?_, dp_pair sm h2 p2⟩
      obtain ⟨i, hi⟩ := List.getElem?_of_mem hu
      obtain ⟨v, hv, hd⟩ := DpAll.at2 (i := i) (d := .tuple (intD u)) h2 (by rw [List.getElem?_map, hi]; rfl)
      exact p1 v (List.mem_of_getElem? hv) _ _ (dp_tupI sm h1) (dp_tupI sm hd)
theorem tups_of : ∀ {l : List PyData} {T : List (List Int)}, tupsOf l = some T → l = T.map fun t => .tuple (intD t)
  | [], T, h => by cases h; rfl
  | x :: r, T, h => by
    cases x with
    | tuple t =>
      obtain ⟨a, h1, h2⟩ := Option.bind_eq_some_iff.mp (show (intsOf t).bind (fun a => (tupsOf r).map (a :: ·)) = some T from h)
      obtain ⟨T', h3, rfl⟩ := Option.map_eq_some_iff.mp h2
      rw [List.map_cons, ← tups_of h3, intsOf_eq h1]
    | _ => cases h
def bnd : List Int → Int
  | [] => 0
  | x :: r => x.toNat + 1 + bnd r
theorem bnd_pos : ∀ l, 0 ≤ bnd l
  | [] => Int.le_refl _
  | x :: r => by have := bnd_pos r; simp only [bnd]; omega
theorem bnd_lt : ∀ {l : List Int} {x : Int}, x ∈ l → x < bnd l
  | y :: r, x, h => by
    have := bnd_pos r
    simp only [bnd]
    rcases List.mem_cons.mp h with rfl | h
    · omega
    · have := bnd_lt h; omega
theorem len_flat : ∀ {T : List (List Int)} {t : List Int}, t ∈ T → t.length ≤ T.flatten.length
  | u :: T, t, h => by
    rw [List.flatten_cons, List.length_append]
    rcases List.mem_cons.mp h with rfl | h
    · omega
    · have := len_flat h; omega
end
end MP
/-! MPGP: sorted of a list of pairs of tuples of ints; <= of tuples of ints. -/
namespace MP
open PySem PySem.Spec PyProof.Rows L2
def pc2 (B : Int) (d : Nat) (p : Pr) : Int := pc B d p.1 * (B + 1) ^ d + pc B d p.2
structure PBd (B : Int) (d : Nat) (p : Pr) : Prop where
  b1 : TS.Bd B p.1
  b2 : TS.Bd B p.2
  l1 : p.1.length ≤ d
  l2 : p.2.length ≤ d
theorem pc2_lt {B : Int} (hB : 0 ≤ B) {d : Nat} {p q : Pr} (hp : PBd B d p) (hq : PBd B d q) : decide (pc2 B d p < pc2 B d q) = ltP p q := by
  obtain ⟨a0, a1⟩ := pc_bd hB d p.1 hp.b1
  obtain ⟨b0, b1⟩ := pc_bd hB d p.2 hp.b2
  obtain ⟨c0, c1⟩ := pc_bd hB d q.1 hq.b1
  obtain ⟨e0, e1⟩ := pc_bd hB d q.2 hq.b2
  have i1 := pc_lt hB d p.1 q.1 hp.b1 hq.b1 hp.l1 hq.l1
  have i2 := pc_lt hB d p.2 q.2 hp.b2 hq.b2 hp.l2 hq.l2
  have ij := pc_inj hB d p.1 q.1 hp.b1 hq.b1 hp.l1 hq.l1
  unfold pc2 ltP
  by_cases e : p.1 = q.1
  · rw [if_pos e, ← i2, e]
    exact decide_eq_decide.mpr ⟨fun h => by omega, fun h => by omega⟩
  · rw [if_neg e, ← i1]
    generalize pc B d p.1 = a at *
    generalize pc B d q.1 = c at *
    generalize pc B d p.2 = b at *
    generalize pc B d q.2 = f at *
    refine decide_eq_decide.mpr ⟨fun h => ?_, fun h => TS.num2 b0 b1 e0 h⟩
    rcases Int.lt_trichotomy a c with z | z | z
    · exact z
    · exact absurd (ij z) e
    · have := TS.num2 e0 e1 b0 z
      omega
theorem pc2_inj {B : Int} (hB : 0 ≤ B) {d : Nat} {p q : Pr} (hp : PBd B d p) (hq : PBd B d q) (h : pc2 B d p = pc2 B d q) : p = q := by
  obtain ⟨a0, a1⟩ := pc_bd hB d p.1 hp.b1
  obtain ⟨b0, b1⟩ := pc_bd hB d p.2 hp.b2
  obtain ⟨c0, c1⟩ := pc_bd hB d q.1 hq.b1
  obtain ⟨e0, e1⟩ := pc_bd hB d q.2 hq.b2
  have ij := pc_inj hB d p.1 q.1 hp.b1 hq.b1 hp.l1 hq.l1
  have ij2 := pc_inj hB d p.2 q.2 hp.b2 hq.b2 hp.l2 hq.l2
  unfold pc2 at h
  have e : p.1 = q.1 := by
    refine ij ?_
    rcases Int.lt_trichotomy (pc B d p.1) (pc B d q.1) with z | z | z
    · have := TS.num2 (g := pc B d q.2) b0 b1 e0 z
      omega
    · exact z
    · have := TS.num2 (g := pc B d p.2) e0 e1 b0 z
      omega
  rw [e] at h
  have e2 : p.2 = q.2 := ij2 (by omega)
  exact Prod.ext e e2
theorem insG_perm {α : Type} {lt : α → α → Bool} (x : α) : ∀ l, (insG lt x l).Perm (x :: l)
  | [] => List.Perm.refl _
  | y :: r => by
    unfold insG
    split
    · exact ((insG_perm x r).cons y).trans (List.Perm.swap x y r)
    · exact List.Perm.refl _
theorem srtG_perm {α : Type} {lt : α → α → Bool} : ∀ l, (srtG lt l).Perm l
  | [] => List.Perm.refl _
  | x :: r => (insG_perm x (srtG lt r)).trans ((srtG_perm r).cons x)
theorem insG_srt {α : Type} {lt : α → α → Bool} {f : α → Int} {G : α → Prop} (hf : ∀ a b, G a → G b → decide (f a < f b) = lt a b) {x : α} (hx : G x) : ∀ l, (∀ y ∈ l, G y) → l.Pairwise (fun a b => f a ≤ f b) → (insG lt x l).Pairwise (fun a b => f a ≤ f b)
  | [], _, _ => by simp [insG]
  | y :: r, hg, h => by
    unfold insG
    have h' := List.pairwise_cons.mp h
    have e := hf y x (hg y (by simp)) hx
    split
    · rename_i q
      rw [q] at e
      have e := of_decide_eq_true e
      refine List.pairwise_cons.mpr ⟨fun z hz => ?_, insG_srt hf hx r (fun z hz => hg z (List.mem_cons_of_mem _ hz)) h'.2⟩
      rcases List.mem_cons.mp ((insG_perm x r).mem_iff.mp hz) with rfl | hz
      · omega
      · exact h'.1 z hz
    · rename_i q
      have q : lt y x = false := by simpa using q
      rw [q] at e
      have e := of_decide_eq_false e
      refine List.pairwise_cons.mpr ⟨fun z hz => ?_, h⟩
      rcases List.mem_cons.mp hz with rfl | hz
      · omega
      · have := h'.1 z hz; omega
theorem srtG_srt {α : Type} {lt : α → α → Bool} {f : α → Int} {G : α → Prop} (hf : ∀ a b, G a → G b → decide (f a < f b) = lt a b) : ∀ l, (∀ y ∈ l, G y) → (srtG lt l).Pairwise (fun a b => f a ≤ f b)
  | [], _ => List.Pairwise.nil
  | x :: r, hg => insG_srt hf (hg x (by simp)) _ (fun z hz => hg z (List.mem_cons_of_mem _ ((srtG_perm r).mem_iff.mp hz))) (srtG_srt hf r fun z hz => hg z (List.mem_cons_of_mem _ hz))
/-! ### the sort's own run -/
def PrInts (h : Heap) (v : Value) (p : Pr) : Prop := ∃ a u u', v = .ref a ∧ IsTup h a #[u, u'] ∧ TS.TupInts h u p.1 ∧ TS.TupInts h u' p.2
theorem PrInts.keeps {h h' : Heap} {v : Value} {p : Pr} (x : PrInts h v p) (k : ∀ b o, h.get? b = some o → o.cls = .type "tuple" → h'.get? b = some o) : PrInts h' v p := by
  obtain ⟨a, u, u', e, ⟨o, ho, hc, hd⟩, i, j⟩ := x
  exact ⟨a, u, u', e, ⟨o, k _ _ ho hc, hc, hd⟩, i.keeps k, j.keeps k⟩
def prI (h : Heap) (v : Value) : Pr := match v with
  | .ref a => match h.get? a with
    | some o => match o.data with
      | .seq xs _ => (TS.intsOf h (xs.getD 0 .none), TS.intsOf h (xs.getD 1 .none))
      | _ => ([], [])
    | none => ([], [])
  | _ => ([], [])
theorem PrInts.pr {h : Heap} {v : Value} {p : Pr} (x : PrInts h v p) : prI h v = p := by
  obtain ⟨a, u, u', rfl, ⟨o, ho, hc, n, hd⟩, i, j⟩ := x
  unfold prI
  simp only [ho, hd]
  show (TS.intsOf h u, TS.intsOf h u') = p
  rw [i.ints, j.ints]
theorem firstsP {h : Heap} : ∀ vs : List Value, (∀ v, v ∈ vs → ∃ p, PrInts h v p) → ∃ fs, PySem.W.KatTups h vs fs ∧ fs.length = vs.length ∧ ∀ f, f ∈ fs → ∃ ns, TS.TupInts h f ns
  | [], _ => ⟨[], PySem.W.KatTups.nil, rfl, fun f hf => by simp at hf⟩
  | v :: vs, x => by
    obtain ⟨fs, k, hl, hi⟩ := firstsP vs fun u hu => x u (List.mem_cons_of_mem _ hu)
    obtain ⟨p, a, u, u', rfl, ⟨o, ho, hc, n, hdt⟩, i, j⟩ := x v (List.mem_cons_self ..)
    refine ⟨u :: fs, PySem.W.KatTups.cons ho hc hdt rfl k, by simp [hl], ?_⟩
    intro f hf
    rcases List.mem_cons.mp hf with rfl | hf
    · exact ⟨_, i⟩
    · exact hi f hf
section
variable {prog : Program} {w : World} {A : Around} {E : Value → Shared → Prop} {s : Shared} {Q : Bool → Shared → Prop}
theorem items_at {xs : Array Value} {ns : List Int} (i : IntsAre xs.toList ns) : xs.size = ns.length ∧ ∀ j (h1 : j < xs.size), ∃ t, xs[j] = .int (ns.getD j 0) t := by
  have e1 : xs.size = ns.length := by rw [← Array.length_toList]; exact i.length
  exact ⟨e1, fun j h1 => PyProof.Rows.IntsAre.int_at i j xs[j] (by simp [h1])⟩
theorem eqs_all {ns ms : List Int} : ((List.range (min ns.length ms.length)).all (fun j => decide (ns.getD j 0 = ms.getD j 0)) && ns.length == ms.length) = decide (ns = ms) := by
  rw [Bool.eq_iff_iff, Bool.and_eq_true, List.all_eq_true, beq_iff_eq, decide_eq_true_eq]
  constructor
  · rintro ⟨h1, h2⟩
    refine List.ext_getElem h2 fun j a b => ?_
    have := h1 j (List.mem_range.mpr (by omega))
    rw [decide_eq_true_eq] at this
    simpa [List.getD, List.getElem?_eq_getElem a, List.getElem?_eq_getElem b] using this
  · rintro rfl
    exact ⟨fun j _ => by simp, rfl⟩
theorem eq_at {x y : Value} {ns ms : List Int} (hu : A.units < cLine) (hx : TS.TupInts s.heap x ns) (hy : TS.TupInts s.heap y ms) : SeqAt.EqAt A s x y (decide (ns = ms)) := by
  obtain ⟨a, xs, rfl, t1, i1⟩ := hx
  obtain ⟨b, ys, rfl, t2, i2⟩ := hy
  by_cases e : a = b
  · subst e
    have : ns = ms := by
      have e1 := (show TS.TupInts s.heap (.ref a) ns from ⟨a, xs, rfl, t1, i1⟩).ints
      have e2 := (show TS.TupInts s.heap (.ref a) ms from ⟨a, ys, rfl, t2, i2⟩).ints
      rw [← e1, ← e2]
    rw [decide_eq_true this]
    exact SeqAt.EqAt.same _
  · obtain ⟨z1, at1⟩ := items_at i1
    obtain ⟨z2, at2⟩ := items_at i2
    refine SeqAt.EqAt.of_refs e ?_
    have R := SeqAt.RcAt.tuples (A := A) (s := s) (e := fun j => decide (ns.getD j 0 = ms.getD j 0)) t1 t2 hu (fun j h1 h2 => by
      obtain ⟨t, et⟩ := at1 j h1
      obtain ⟨t', et'⟩ := at2 j h2
      rw [et, et']
      have z : (ns.getD j 0 == ms.getD j 0) = decide (ns.getD j 0 = ms.getD j 0) := by
        by_cases q : ns.getD j 0 = ms.getD j 0
        · rw [decide_eq_true q]; exact beq_iff_eq.mpr q
        · rw [decide_eq_false q]; exact beq_eq_false_iff_ne.mpr q
      rw [← z]
      exact SeqAt.EqAt.int_int _ _ _ _)
    rw [z1, z2, eqs_all] at R
    exact R
theorem lex_lt : ∀ (k i : Nat) (ns ms : List Int), ns.length = i + (ns.length - i) → k = min ns.length ms.length - i → i ≤ min ns.length ms.length → (∀ j, j < i → ns.getD j 0 = ms.getD j 0) →
    Ob.lexAt (fun j => decide (ns.getD j 0 = ms.getD j 0)) (fun j => decide (ns.getD j 0 < ms.getD j 0)) (decide (ns.length < ms.length)) i k = ltL (ns.drop i) (ms.drop i)
  | 0, i, ns, ms, _, hk, hi, _ => by
    show decide (ns.length < ms.length) = _
    rcases Nat.lt_or_ge i ns.length with h | h
    · have : ms.length ≤ i := by omega
      rw [List.drop_eq_nil_of_le this]
      have e : ns.drop i = ns[i] :: ns.drop (i + 1) := List.drop_eq_getElem_cons h
      rw [e, decide_eq_false (by omega)]
      rfl
    · rw [List.drop_eq_nil_of_le h]
      rcases Nat.lt_or_ge i ms.length with g | g
      · have e : ms.drop i = ms[i] :: ms.drop (i + 1) := List.drop_eq_getElem_cons g
        rw [e, decide_eq_true (by omega)]
        rfl
      · rw [List.drop_eq_nil_of_le g, decide_eq_false (by omega)]
        rfl
  | k + 1, i, ns, ms, hn, hk, hi, hb => by
    have h1 : i < ns.length := by omega
    have h2 : i < ms.length := by omega
    have e1 : ns.drop i = ns[i] :: ns.drop (i + 1) := List.drop_eq_getElem_cons h1
    have e2 : ms.drop i = ms[i] :: ms.drop (i + 1) := List.drop_eq_getElem_cons h2
    have g1 : ns.getD i 0 = ns[i] := by simp [List.getD, List.getElem?_eq_getElem h1]
    have g2 : ms.getD i 0 = ms[i] := by simp [List.getD, List.getElem?_eq_getElem h2]
    rw [Ob.lexAt_succ, e1, e2, g1, g2]
    by_cases q : ns[i] = ms[i]
    · rw [if_pos (by simpa using q)]
      rw [lex_lt k (i + 1) ns ms (by omega) (by omega) (by omega) (fun j hj => by
        rcases Nat.lt_succ_iff_lt_or_eq.mp hj with hj | rfl
        · exact hb j hj
        · rw [g1, g2, q])]
      show _ = if ns[i] = ms[i] then ltL (ns.drop (i + 1)) (ms.drop (i + 1)) else _
      rw [if_pos q]
    · rw [if_neg (by simpa using q)]
      show _ = if ns[i] = ms[i] then ltL (ns.drop (i + 1)) (ms.drop (i + 1)) else decide (ns[i] < ms[i])
      rw [if_neg q]
theorem lt_at {x y : Value} {ns ms : List Int} (hu : A.units < cLine) (hx : TS.TupInts s.heap x ns) (hy : TS.TupInts s.heap y ms) : Ob.RcOp .Lt A s x y (ltL ns ms) := by
  obtain ⟨a, xs, rfl, t1, i1⟩ := hx
  obtain ⟨b, ys, rfl, t2, i2⟩ := hy
  obtain ⟨z1, at1⟩ := items_at i1
  obtain ⟨z2, at2⟩ := items_at i2
  have R := Ob.RcOp.tuples_lt (A := A) (s := s) (e := fun j => decide (ns.getD j 0 = ms.getD j 0)) (r := fun j => decide (ns.getD j 0 < ms.getD j 0)) t1 t2 hu (fun j h1 h2 => by
    obtain ⟨t, et⟩ := at1 j h1
    obtain ⟨t', et'⟩ := at2 j h2
    rw [et, et']
    have z : (ns.getD j 0 == ms.getD j 0) = decide (ns.getD j 0 = ms.getD j 0) := by
      by_cases q : ns.getD j 0 = ms.getD j 0
      · rw [decide_eq_true q]; exact beq_iff_eq.mpr q
      · rw [decide_eq_false q]; exact beq_eq_false_iff_ne.mpr q
    rw [← z]
    exact SeqAt.EqAt.int_int _ _ _ _) (fun j h1 h2 _ => by
    obtain ⟨t, et⟩ := at1 j h1
    obtain ⟨t', et'⟩ := at2 j h2
    rw [et, et']
    exact Ob.RcOp.lt_int _ _ _ _)
  rw [z1, z2, lex_lt (min ns.length ms.length) 0 ns ms (by omega) (by omega) (by omega) (fun j hj => by omega)] at R
  exact R
theorem lexP {p q : Pr} {u u' v v' : Value} (hu : A.units < cLine) (h1 : TS.TupInts s.heap u p.1) (h2 : TS.TupInts s.heap u' p.2) (h3 : TS.TupInts s.heap v q.1) (h4 : TS.TupInts s.heap v' q.2) (h : Q (ltP p q) s) : PySem.W.KatLex prog w A false false Q [(u, v), (u', v')] 0 s := by
  unfold ltP at h
  refine PySem.W.kat_cons (eq_at hu h1 h3 prog w _ _ ?_)
  by_cases e : p.1 = q.1
  · rw [if_pos e] at h
    rw [decide_eq_true e]
    refine PySem.W.kat_yes (PySem.W.kat_cons (eq_at hu h2 h4 prog w _ _ ?_))
    by_cases e2 : p.2 = q.2
    · rw [decide_eq_true e2]
      refine PySem.W.kat_yes (PySem.W.kat_nil ?_)
      have : ltL p.2 q.2 = false := by
        rw [e2]
        have : ∀ l : List Int, ltL l l = false := fun l => by
          induction l with
          | nil => rfl
          | cons a l ih =>
            show (if a = a then ltL l l else _) = false
            rw [if_pos rfl]; exact ih
        exact this _
      rw [this] at h
      exact h
    · rw [decide_eq_false e2]
      exact PySem.W.kat_no (PySem.W.kat_one _ _ (lt_at hu h2 h4 prog w _ _ h))
  · rw [if_neg e] at h
    rw [decide_eq_false e]
    exact PySem.W.kat_no (PySem.W.kat_one _ _ (lt_at hu h1 h3 prog w _ _ h))
end
/-- what is sorted -/
def PrsOk (h : Heap) (d : Nat) (B : Int) (vs : List Value) : Prop := ∀ v, v ∈ vs → ∃ p, PrInts h v p ∧ PBd B d p
theorem PrsOk.keeps {h h' : Heap} {d : Nat} {B : Int} {vs : List Value} (x : PrsOk h d B vs) (k : ∀ b o, h.get? b = some o → o.cls = .type "tuple" → h'.get? b = some o) : PrsOk h' d B vs := fun v hv =>
  let ⟨ns, t, r⟩ := x v hv; ⟨ns, t.keeps k, r⟩
section
variable {prog : Program} {w : World} {A : Around} {E : Value → Shared → Prop} {s : Shared}
theorem kindP {d : Nat} {B : Int} {vs : List Value} (hu : A.units < cLine) (hB : 0 ≤ B) (h2 : 2 ≤ vs.length) (x : PrsOk s.heap d B vs) (r : Value → Int) (hr : ∀ v, v ∈ vs → ∀ p, PrInts s.heap v p → r v = pc2 B d p) (Q : SortKind → Shared → Prop)
    (h : ∀ κ, TS.Cmp prog w A s κ (pairsOf vs) r → Q κ s) : wpAny (model prog w) A (keyKind' vs.toArray) Q E s := by
  obtain ⟨fs, k, hl, hi⟩ := firstsP vs fun v hv => let ⟨p, t, q⟩ := x v hv; ⟨p, t⟩
  refine PySem.W.kat_kind (T := Value.type "tuple") k (by omega) (fun f hf => ?_) rfl (h _ ?_)
  · obtain ⟨ns, a, xs, rfl, ⟨o, ho, hc, n, hd⟩, i⟩ := hi f hf
    exact fun A Q E s k q => wpAny_typeOf_ref (k _ _ ho) (by rw [hc]; exact q)
  · intro p q hp hq Q' E' hQ
    rw [pairsOf_toList] at hp hq
    obtain ⟨ns, tp, bp⟩ := x _ (mem_zip_self hp).2
    obtain ⟨ms, tq, bq⟩ := x _ (mem_zip_self hq).2
    have ep := hr _ (mem_zip_self hp).2 _ tp
    have eq2 := hr _ (mem_zip_self hq).2 _ tq
    have hQ' : Q' (ltP ns ms) s := by
      have z : decide (r p.1 < r q.1) = ltP ns ms := by rw [ep, eq2, pc2_lt hB bp bq]
      rw [← z]; exact hQ
    obtain ⟨a, u, u', e1, ⟨o, ho, hc, n, hdt⟩, i1, i2⟩ := tp
    obtain ⟨a', v, v', e2, ⟨o', ho', hc', n', hdt'⟩, j1, j2⟩ := tq
    rw [e1, e2]
    exact PySem.W.kat_lt ho hdt ho' hdt' (lexP hu i1 i2 j1 j2 hQ')
theorem sortP {a : Addr} {vs : List Value} {n d : Nat} {B : Int} (hu : A.units < cLine) (hB : 0 ≤ B) {P : PySem.Fin → Shared → Prop} (ho : s.heap.get? a = some (seqObj "list" vs.toArray n)) (h64 : vs.length < 64) (x : PrsOk s.heap d B vs)
    (r : Value → Int) (hr : ∀ v, v ∈ vs → ∀ p, PrInts s.heap v p → r v = pc2 B d p)
    (h : ∀ out : Array Value, out.toList.Perm vs → out.toList.Pairwise (fun u v => r u ≤ r v) → P (.done (.ret .none)) { s with heap := sortedHeap s.heap a vs out }) :
    wpAny (model prog w) A (Builtin.«list.sort» ⟨[.ref a], []⟩) P E s := by
  have keep : ∀ b o, s.heap.get? b = some o → o.cls = .type "tuple" → (TS.midHeap s.heap a vs).get? b = some o := fun b o e hc => by
    refine TS.midHeap_old ?_ e
    rintro rfl
    rw [ho] at e
    have e' : seqObj "list" vs.toArray n = o := Option.some.inj e
    rw [← e'] at hc
    have c' : Value.type "list" = Value.type "tuple" := hc
    injection c' with c''
    exact absurd c'' (by decide)
  refine SK.plain_sort (r := r) ho h64 (fun h2 Q hQ => ?_) fun ps out h1 h2 h3 => ?_
  · refine kindP (s := { s with heap := TS.midHeap s.heap a vs }) hu hB h2 (x.keeps keep) r (fun v hv p t => ?_) Q hQ
    obtain ⟨p0, t0, _⟩ := x v hv
    have e : p = p0 := t.pr.symm.trans (t0.keeps keep).pr
    rw [e]
    exact hr v hv p0 t0
  · obtain ⟨p, o⟩ := TS.out_rank h1 h2 h3
    exact h out p o
theorem sortedP {l : Addr} {vs : List Value} {d : Nat} {B : Int} (hu : A.units + 4 < cLine) (hB : 0 ≤ B) {Q : Value → Shared → Prop} (hl : s.heap.IsList l vs.toArray) (h64 : vs.length < 64) (x : PrsOk s.heap d B vs)
    (h : ∀ out : Array Value, out.toList.Perm vs → out.toList.Pairwise (fun u v => pc2 B d (prI s.heap u) ≤ pc2 B d (prI s.heap v)) → Q (.ref (s.heap.objs.size + 1)) { s with heap := sortedAll s.heap vs out }) :
    wpAny (model prog w) A (call (.builtin "sorted") [.ref l]) Q E s := by
  refine Calls.call_function_entry kind_sorted plain_sorted entry_sorted (args_sorted1 _) ?_
  unfold Builtin.«sorted»
  refine wpAny_bind (m := checkCount "sorted" 1 1 _) (wpAny_pure ?_)
  refine wpAny_bind (collect_list hl ?_ (by rw [sizeLine_eq]; omega))
  refine wpAny_bind (wpAny_newList ?_ (by rw [sizeLine_eq]; omega))
  have hsz : ((s.heap.push (seqObj "list" #[] 0)).update s.heap.objs.size (Obj.mapSeq (· ++ vs.toArray))).objs.size = s.heap.objs.size + 1 := by
    rw [Heap.size_update, size_push']
  have hoL : (((s.heap.push (seqObj "list" #[] 0)).update s.heap.objs.size (Obj.mapSeq (· ++ vs.toArray))).push (seqObj "list" vs.toArray 0)).get? (s.heap.objs.size + 1) = some (seqObj "list" vs.toArray 0) := by
    rw [← hsz]; exact Heap.get?_push_size _ rfl
  have keep : ∀ b o, s.heap.get? b = some o → o.cls = .type "tuple" → (((s.heap.push (seqObj "list" #[] 0)).update s.heap.objs.size (Obj.mapSeq (· ++ vs.toArray))).push (seqObj "list" vs.toArray 0)).get? b = some o := fun b o q _ => by
    have hlt : b < s.heap.objs.size := Heap.lt_size q
    rw [Heap.get?_push_ne _ _ _ (by rw [hsz]; exact Nat.ne_of_lt (Nat.lt_succ_of_lt hlt)), Heap.get?_update_ne _ _ _ _ (Nat.ne_of_lt hlt), Heap.get?_push_ne _ _ _ (Nat.ne_of_lt hlt)]
    exact q
  show wpAny _ _ _ _ _ { s with heap := ((s.heap.push (seqObj "list" #[] 0)).update s.heap.objs.size (Obj.mapSeq (· ++ vs.toArray))).push (seqObj "list" vs.toArray 0) }
  rw [hsz]
  refine wpAny_bind (wpAny_holding (wpAny_call_entry slot_list_sort ⟨_, hoL, rfl⟩ entry_list_sort (sortP ?_ hB hoL h64 (x.keeps keep) (fun v => pc2 B d (prI s.heap v)) (fun v hv p t => ?_) fun out a1 a2 => ⟨_, rfl, ?_⟩) (args_list_sort _)))
  · show A.units + 1 + 1 < cLine
    omega
  · obtain ⟨p0, t0, _⟩ := x v hv
    have e : p = p0 := t.pr.symm.trans (t0.keeps keep).pr
    rw [e]
    show pc2 B d (prI s.heap v) = pc2 B d p0
    rw [t0.pr]
  · exact wpAny_pure ⟨_, rfl, h out a1 a2⟩
end
/-! ### in the abstract heap -/
def PrI (K : PySem.W.Frag) (H : Hp) (x : V) (p : Pr) : Prop := ∃ t u v, x = .ref t ∧ SqT K H t [u, v] ∧ TupI K H u p.1 ∧ TupI K H v p.2
def rSortP (K : PySem.W.Frag) : List V → Hp → VK → Prop := fun vs H Q => ∃ (a : Addr) (xs : List V) (d : Nat) (B : Int), vs = [V.ref a] ∧ SqL K H a xs ∧ xs.length < 64 ∧ 0 ≤ B ∧ (∀ x ∈ xs, ∃ p, PrI K H x p ∧ PBd B d p) ∧
  ∀ (ys : List V) (p : Addr), ys.Perm xs → ys.Pairwise (fun x y => ∀ n m, PrI K H x n → PrI K H y m → pc2 B d n ≤ pc2 B d m) → H p = none → Q (.ref p) (upd H p (.lst ys))
section
variable {X : Cx} {pins : List (Addr × Obj)} {σ : L2.St} {H : Hp} {s : Shared}
theorem prI_raw (I : Inv X pins σ H s) {t : Addr} {p : Pr} (h : PrI X.K H (.ref t) p) : PrInts s.heap (.ref t) p := by
  obtain ⟨t', u, v, e, ht, ⟨a, rfl, h1⟩, ⟨b, rfl, h2⟩⟩ := h
  cases e
  obtain ⟨its, rv, hT, _⟩ := I.tuple ht
  cases rv with
  | cons r1 rv =>
    cases rv with
    | cons r2 rv =>
      cases rv
      cases r1
      cases r2
      exact ⟨t, _, _, rfl, hT, tupI_raw I h1, tupI_raw I h2⟩
theorem cr_sortP (hu : X.A.units + 66 < cLine) : CallR X (.builtin "sorted") (rSortP X.K) := by
  intro pins s σ H vs us Q I r h
  obtain ⟨a, xs, d, B, rfl, hs, h64, hB, hx, q⟩ := h
  obtain ⟨its, rv, hl, hz⟩ := I.list hs
  rw [Vals.ref1 r]
  obtain ⟨e1, e2⟩ := bkV_refs rv fun x m => by
    obtain ⟨p, ⟨t, u, v, e, _⟩, _⟩ := hx x m
    exact ⟨t, e⟩
  have hlen0 : its.length = xs.length := by rw [← rv.length]
  refine sortedP (d := d) (by omega) hB hl.isList (by rw [← rv.length]; exact h64) (fun v hv => ?_) fun out h1 h2 => ?_
  · obtain ⟨t, rfl⟩ := e2 v hv
    have hm : V.ref t ∈ xs := by
      rw [e1]
      exact List.mem_map.mpr ⟨_, hv, rfl⟩
    obtain ⟨p, hp, hb⟩ := hx _ hm
    exact ⟨p, prI_raw I hp, hb⟩
  · obtain ⟨ep, he'⟩ := PyProof.Rows.sortedAll_at s.heap its out
    have h3 : ∀ u ∈ out.toList, ∃ a, u = Value.ref a := fun u hu => e2 u (h1.mem_iff.mp hu)
    have hp : (out.toList.map bkV).Perm xs := by
      rw [e1]
      exact h1.map bkV
    have hlen : (out.toList.map bkV).length ≤ sizeLine := by
      rw [hp.length_eq]
      exact hz
    refine ⟨.ref _, upd H (s.heap.objs.size + 1) (.lst (out.toList.map bkV)), I.laid (t' := s.toks) (fun _ _ => PyProof.Rows.sortedAll_old) (Nat.le_succ _) ⟨hlen, out.toList, ep, bkV_vals h3, he'⟩, rfl, q _ _ hp ?_ (I.hok.fresh (Nat.le_succ _))⟩
    rw [List.pairwise_map]
    refine List.Pairwise.imp (fun {u v} huv n m hn hm => ?_) h2
    obtain ⟨t, u1, v1, et, ht⟩ := id hn
    obtain ⟨t', u2, v2, et', ht'⟩ := id hm
    have eu := bkV_ref et
    have ev := bkV_ref et'
    have i1 : prI s.heap u = n := by
      rw [eu]; exact (prI_raw I (by rw [← et]; exact hn)).pr
    have i2 : prI s.heap v = m := by
      rw [ev]; exact (prI_raw I (by rw [← et']; exact hm)).pr
    rw [i1, i2] at huv
    exact huv
end
section
open Classical
variable {K : Fg}
theorem dp_permG {α : Type} {Hh : Hp} {g : α → PyData} : ∀ {ys xs : List V}, ys.Perm xs → ∀ T : List α, DpAll K Hh xs (T.map g) → ∃ T' : List α, T'.Perm T ∧ DpAll K Hh ys (T'.map g) := by
  intro ys xs h
  induction h with
  | nil => exact fun T h => ⟨T, List.Perm.refl _, h⟩
  | cons x _ ih =>
    intro T h
    cases T with
    | nil => cases h
    | cons t T =>
      cases h with
      | cons h1 h2 =>
        obtain ⟨T', p, q⟩ := ih T h2
        exact ⟨t :: T', p.cons t, .cons h1 q⟩
  | swap x y l =>
    intro T h
    rcases T with _ | ⟨t, _ | ⟨u, T⟩⟩
    · cases h
    · cases h with
      | cons h1 h2 => cases h2
    · cases h with
      | cons h1 h2 =>
        cases h2 with
        | cons h3 h4 => exact ⟨u :: t :: T, List.Perm.swap t u T, .cons h3 (.cons h1 h4)⟩
  | trans _ _ ih1 ih2 =>
    intro T h
    obtain ⟨T1, p1, q1⟩ := ih2 T h
    obtain ⟨T2, p2, q2⟩ := ih1 T1 q1
    exact ⟨T2, p2.trans p1, q2⟩
theorem dp_prI {Hh H : Hp} (sm : Same Hh H) {x : V} {p : Pr} (h : Dp K Hh x (prD p)) : PrI K H x p := by
  unfold prD at h
  cases h with
  | tup hs ha =>
    cases ha with
    | cons a1 ha =>
      cases ha with
      | cons a2 ha =>
        cases ha
        exact ⟨_, _, _, rfl, (hs.mono sm).sq, dp_tupI sm a1, dp_tupI sm a2⟩
theorem dp_pairP {Hh H : Hp} (sm : Same Hh H) {B : Int} {d : Nat} : ∀ {ys : List V} {T : List Pr}, DpAll K Hh ys (T.map prD) → ys.Pairwise (fun x y => ∀ n m, PrI K H x n → PrI K H y m → pc2 B d n ≤ pc2 B d m) → T.Pairwise fun a b => pc2 B d a ≤ pc2 B d b
  | [], [], _, _ => .nil
  | [], t :: T, h, _ => by cases h
  | y :: ys, [], h, _ => by cases h
  | y :: ys, t :: T, h, hp => by
    cases h with
    | cons h1 h2 =>
      obtain ⟨p1, p2⟩ := List.pairwise_cons.mp hp
      refine List.pairwise_cons.mpr ⟨fun u hu => ?_, dp_pairP sm h2 p2⟩
      obtain ⟨i, hi⟩ := List.getElem?_of_mem hu
      obtain ⟨v, hv, hd⟩ := DpAll.at2 (i := i) (d := prD u) h2 (by rw [List.getElem?_map, hi]; rfl)
      exact p1 v (List.mem_of_getElem? hv) _ _ (dp_prI sm h1) (dp_prI sm hd)
theorem prs_of : ∀ {l : List PyData} {T : List Pr}, prsOf l = some T → l = T.map prD
  | [], T, h => by cases h; rfl
  | x :: r, T, h => by
    unfold prsOf at h
    split at h
    · rename_i e; cases e
    · rename_i e
      obtain ⟨a, h1, h⟩ := Option.bind_eq_some_iff.mp h
      obtain ⟨b, h2, h⟩ := Option.bind_eq_some_iff.mp h
      obtain ⟨T', h3, rfl⟩ := Option.map_eq_some_iff.mp h
      injection e with e1 e2
      subst e1 e2
      rw [List.map_cons, ← prs_of h3, intsOf_eq h1, intsOf_eq h2]
      rfl
    · cases h
def cols (T : List Pr) : List Int := (T.map fun p => p.1 ++ p.2).flatten
theorem b_sorted3 : OpF K .sorted (fun vs H Q => (rSortedI K vs H Q ∨ rSort2 K vs H Q) ∨ rSortP K vs H Q) := opF1 (fun φ Z m H w p l x Q s r e1 e2 hq => by
  cases p with
  | list k =>
    obtain ⟨a, vs, rfl, h1, h2, hc⟩ := vw_list s r e1
    obtain ⟨l', h5, h6⟩ := Option.map_eq_some_iff.mp (show (srtF k).map PyData.list = some (.list l) from e2)
    cases h6
    unfold srtF at h5
    cases hk : intsOf k with
    | some ns =>
      rw [hk] at h5
      cases h5
      rw [intsOf_eq hk] at h2
      have ev := dp_ints h2
      subst ev
      refine .inl (.inl ⟨a, ns, rfl, SqL.of h1, fun ns' q hp hs hn => ?_⟩)
      have e : ns' = srt2 ns := srt_uniq (hp.trans (srt2_perm ns).symm) hs (srt2_srt ns)
      subst e
      exact hq H q _ s Gr.refl hn (ints_dp _) (canL_ints _)
    | none =>
      rw [hk] at h5
      dsimp only at h5
      cases hT : tupsOf k with
      | some T =>
        rw [hT] at h5
        dsimp only at h5
        split at h5
        · rename_i ok
          cases h5
          simp only [srtOk, Bool.and_eq_true, Bool.or_eq_true, decide_eq_true_eq, List.all_eq_true] at ok
          obtain ⟨⟨o1, o2⟩, o3⟩ := ok
          have ek := tups_of hT
          subst ek
          have sm : Same (hid φ m Z H) H := fun a u h => by
            unfold hid at h
            split at h
            · cases h
            · exact h
          have hB := bnd_pos T.flatten
          have bd : ∀ t ∈ T, TS.Bd (bnd T.flatten) t := fun t ht i hi => ⟨o3 t ht i hi, bnd_lt (List.mem_flatten.mpr ⟨t, ht, hi⟩)⟩
          have ln : ∀ t ∈ T, t.length ≤ T.flatten.length := fun t ht => len_flat ht
          have lvs : vs.length = T.length := by rw [DpAll.len h2, List.length_map]
          refine .inl (.inr ⟨a, vs, T.flatten.length, bnd T.flatten, rfl, SqL.of h1, by omega, hB, fun x hx => ?_, fun ys p hp hs hn => ?_⟩)
          · obtain ⟨i, hi⟩ := List.getElem?_of_mem hx
            obtain ⟨d, hd, hdp⟩ := DpAll.at h2 hi
            rw [List.getElem?_map] at hd
            obtain ⟨t, ht, rfl⟩ := Option.map_eq_some_iff.mp hd
            have htm := List.mem_of_getElem? ht
            refine ⟨t, dp_tupI sm hdp, fun h2' => ?_, ln t htm, bd t htm⟩
            rcases o2 with o2 | o2
            · omega
            · have := o2 t htm
              cases t with
              | nil => cases this
              | cons y t => simp
          · obtain ⟨T', hp', hd'⟩ := dp_perm hp T h2
            have hs' := dp_pair sm hd' hs
            have e : T' = srtL T := by
              have hs2 := srtL_srt (f := pc (bnd T.flatten) T.flatten.length) (G := fun t => t ∈ T) (fun a b ha hb => pc_lt hB _ a b (bd a ha) (bd b hb) (ln a ha) (ln b hb)) T fun y hy => hy
              refine (hp'.trans (srtL_perm T).symm).eq_of_pairwise (fun a b ha hb h3 h4 => ?_) hs' hs2
              have ha := hp'.mem_iff.mp ha
              have hb := (srtL_perm T).mem_iff.mp hb
              exact pc_inj hB _ a b (bd a ha) (bd b hb) (ln a ha) (ln b hb) (Int.le_antisymm h3 h4)
            subst e
            refine hq H p _ s Gr.refl hn hd' (canL_iff.mpr fun x hx => ?_)
            obtain ⟨t, _, rfl⟩ := List.mem_map.mp hx
            simpa [PyData.canLay0] using canL_ints t
        · cases h5
      | none =>
        rw [hT] at h5
        dsimp only at h5
        obtain ⟨T, hP, h5⟩ := Option.bind_eq_some_iff.mp h5
        split at h5
        · rename_i ok
          cases h5
          simp only [prsOk, Bool.and_eq_true, decide_eq_true_eq, List.all_eq_true] at ok
          obtain ⟨o1, o3⟩ := ok
          have ek := prs_of hP
          subst ek
          have sm : Same (hid φ m Z H) H := fun a u h => by
            unfold hid at h
            split at h
            · cases h
            · exact h
          have hB := bnd_pos (cols T)
          have mc : ∀ t ∈ T, ∀ i, i ∈ t.1 ∨ i ∈ t.2 → i ∈ cols T := fun t ht i hi => List.mem_flatten.mpr ⟨_, List.mem_map.mpr ⟨t, ht, rfl⟩, List.mem_append.mpr hi⟩
          have lc : ∀ t ∈ T, t.1.length + t.2.length ≤ (cols T).length := fun t ht => by
            have := len_flat (T := T.map fun p => p.1 ++ p.2) (t := t.1 ++ t.2) (List.mem_map.mpr ⟨t, ht, rfl⟩)
            rw [List.length_append] at this
            exact this
          have bd : ∀ t ∈ T, PBd (bnd (cols T)) (cols T).length t := fun t ht => ⟨fun i hi => ⟨(o3 t ht).1 i hi, bnd_lt (mc t ht i (.inl hi))⟩, fun i hi => ⟨(o3 t ht).2 i hi, bnd_lt (mc t ht i (.inr hi))⟩, by have := lc t ht; omega, by have := lc t ht; omega⟩
          have lvs : vs.length = T.length := by rw [DpAll.len h2, List.length_map]
          refine .inr ⟨a, vs, (cols T).length, bnd (cols T), rfl, SqL.of h1, by omega, hB, fun x hx => ?_, fun ys p hp hs hn => ?_⟩
          · obtain ⟨i, hi⟩ := List.getElem?_of_mem hx
            obtain ⟨d, hd, hdp⟩ := DpAll.at h2 hi
            rw [List.getElem?_map] at hd
            obtain ⟨t, ht, rfl⟩ := Option.map_eq_some_iff.mp hd
            exact ⟨t, dp_prI sm hdp, bd t (List.mem_of_getElem? ht)⟩
          · obtain ⟨T', hp', hd'⟩ := dp_permG hp T h2
            have hs' := dp_pairP sm hd' hs
            have e : T' = srtG ltP T := by
              have hs2 := srtG_srt (f := pc2 (bnd (cols T)) (cols T).length) (G := fun t => t ∈ T) (fun a b ha hb => pc2_lt hB (bd a ha) (bd b hb)) T fun y hy => hy
              refine (hp'.trans (srtG_perm T).symm).eq_of_pairwise (fun a b ha hb h3 h4 => ?_) hs' hs2
              have ha := hp'.mem_iff.mp ha
              have hb := (srtG_perm T).mem_iff.mp hb
              exact pc2_inj hB (bd a ha) (bd b hb) (Int.le_antisymm h3 h4)
            subst e
            refine hq H p _ s Gr.refl hn hd' (canL_iff.mpr fun x hx => ?_)
            obtain ⟨t, _, rfl⟩ := List.mem_map.mp hx
            simp [prD, PyData.canLay0, PyData.canLayAll0, canL_ints]
        · cases h5
  | _ => cases e2) (fun ps z h => by
    rcases ps with _ | ⟨p, _ | ⟨q, r⟩⟩
    · cases h
    · cases p with
      | list k =>
        obtain ⟨ns, h5, h6⟩ := Option.map_eq_some_iff.mp (show (srtF k).map PyData.list = some z from h)
        exact ⟨_, h6.symm⟩
      | _ => cases h
    · cases p <;> cases h) (un_b (fun p q r => by cases p <;> rfl) rfl)
end
end MP
/-! MPH: items, slices, frz; what loops go over. -/
namespace MP
open PySem PySem.Spec PyProof.Rows L2
open Classical
section
variable {X : Cx} {Wx : WX} {x : Str} {p pos : Pos} {e a b : Expr} {es : List Expr} {cf : CallF} {t ts t1 t2 : E}
def noSlice : Expr → Bool
  | .Slice _ _ _ _ => false
  | _ => true
theorem plainIx_of {b : Expr} (h : noSlice b = true) : PlainIx b := fun o i => by
  cases b <;> first | rfl | cases h
theorem ixF_at {K : Fg} {Hh : Hp} {vs : List V} {l : List PyData} {i : Int} {d : PyData} (h : DpAll K Hh vs l) (e : ixF l i = some d) : ∃ y, atI vs i = some y ∧ Dp K Hh y d := by
  have hl := DpAll.len h
  unfold ixF at e
  unfold atI ixN
  by_cases h0 : 0 ≤ i
  · rw [if_pos h0] at e
    have hi := (List.getElem?_eq_some_iff.mp e).1
    rw [if_pos h0, if_pos (by omega)]
    exact DpAll.at2 h e
  · rw [if_neg h0] at e
    rw [if_neg h0]
    split at e
    · rename_i h1
      rw [if_pos (by omega)]
      rw [← hl] at e
      exact DpAll.at2 h e
    · cases e
theorem ixF_can {l : List PyData} {i : Int} {d : PyData} (h : PyData.canLayAll0 l = true) (e : ixF l i = some d) : d.canLay0 = true := by
  have hm : d ∈ l := by
    unfold ixF at e
    split at e
    · exact List.mem_of_getElem? e
    · split at e
      · exact List.mem_of_getElem? e
      · cases e
  exact canL_iff.mp h d hm
theorem o_sub2 {K : Fg} : Op2 K (fun x y m => (vw m x).bind fun p => (vw m y).bind fun q => (subF p q).map .d) (rIx K) := by
  intro φ Z m H w1 w2 w x y Q s r1 r2 hk hq
  obtain ⟨p, h1, hk⟩ := Option.bind_eq_some_iff.mp hk
  obtain ⟨q, h2, hk⟩ := Option.bind_eq_some_iff.mp hk
  obtain ⟨z, h3, rfl⟩ := Option.map_eq_some_iff.mp hk
  have f2 := vw_flat s r2 h2
  cases p with
  | list l =>
    cases q with
    | int i =>
      obtain ⟨a1, vs, rfl, g1, k1, c1⟩ := vw_list s r1 h1
      obtain ⟨y', e1, e2⟩ := ixF_at k1 h3
      exact .inl ⟨a1, vs, i, y', rfl, f2.1 i rfl, SqL.of g1, e1, hq H _ s Gr.refl ⟨e2, ixF_can c1 h3⟩⟩
    | _ => cases h3
  | tuple l =>
    cases q with
    | int i =>
      obtain ⟨a1, vs, rfl, g1, _, k1, c1⟩ := vw_tup s r1 h1
      obtain ⟨y', e1, e2⟩ := ixF_at k1 h3
      exact .inr (.inl ⟨a1, vs, i, y', rfl, f2.1 i rfl, g1, e1, hq H _ s Gr.refl ⟨e2, ixF_can c1 h3⟩⟩)
    | _ => cases h3
  | _ => cases q <;> cases h3
theorem l_sub (hb : noSlice b = true) (h1 : PE X a (tE X.K Wx (den cf t1))) (h2 : PE X b (tE X.K Wx (den cf t2))) : PE X (.Subscript a b pos) (tE X.K Wx (den cf (.sub t1 t2))) :=
  l_two (pe_ix ix_seq h1 h2 (plainIx_of hb)) o_sub2
/-! ### slices -/
def tPo (K : Fg) (Wx : WX) (f : Vr → Mem → Res (Option Int)) : TO := fun σ H Q => ∃ φ Z v m, SR K φ m Z H ∧ RV K φ (hid φ m Z H) v σ ∧ Pst K Wx σ Z φ m H (fun i φ' m' H' => Q i H') (f v m)
noncomputable def denP (cf : CallF) (t : E) : Vr → Mem → Res (Option Int) := fun v m => (denA cf t v m).bind fun l m2 => optR (partF l.head?) m2
def Part (X : Cx) (Wx : WX) (cf : CallF) (o : Option Expr) (t : E) : Prop := PO X o (tPo X.K Wx (denP cf t))
theorem part_no : Part X Wx cf none .nil := by
  have h0 : PO X none tNoPart := po_none
  refine ⟨fun pins s σ H Q I h => h0.run pins s σ H Q I ?_⟩
  obtain ⟨φ, Z, v, m, sr, r, h⟩ := h
  exact h φ H sr Gr.refl
theorem part_of (h1 : PE X a (tE X.K Wx (den cf t))) : Part X Wx cf (some a) (.cons t .nil) := by
  have h0 := po_some h1
  refine ⟨fun pins s σ H Q I h => h0.run pins s σ H Q I ?_⟩
  obtain ⟨φ, Z, v, m, sr, r, h⟩ := h
  have e1 : denP cf (.cons t .nil) v m = (den cf t v m).bind fun w m1 => optR (partF (some w)) m1 := by
    have e : denP cf (.cons t .nil) v m = ((den cf t v m).bind fun w m1 => (Res.ok [] m1).bind fun l m2 => .ok (w :: l) m2).bind fun l m2 => optR (partF l.head?) m2 := rfl
    rw [e]
    cases den cf t v m <;> rfl
  rw [e1] at h
  refine ⟨φ, Z, v, m, sr, r, (h.seq sr.len).imp fun w φ1 m1 H1 _ s1 g1 h y r1 => ?_⟩
  obtain ⟨i, ei, h⟩ := h.opt
  cases w with
  | ref k => cases ei
  | scr k => cases ei
  | exn k => cases ei
  | d z =>
    cases z with
    | int k =>
      cases ei
      obtain ⟨r1, _⟩ := r1
      cases r1
      exact ⟨k, rfl, h φ1 H1 s1 Gr.refl⟩
    | _ => cases ei
theorem cut_dp {K : Fg} {Hh : Hp} {vs : List V} {l : List PyData} {lo hi : Option Int} (h : DpAll K Hh vs l) : DpAll K Hh (cutV vs lo hi) (cutF l lo hi) := by
  unfold cutV cutF
  rw [DpAll.len h]
  exact DpAll.tk _ (DpAll.dr _ h)
theorem cut_can {l : List PyData} {lo hi : Option Int} (h : PyData.canLayAll0 l = true) : PyData.canLayAll0 (cutF l lo hi) = true := by
  rw [canL_iff] at h ⊢
  intro x hx
  exact h x (List.mem_of_mem_drop (List.mem_of_mem_take hx))
def rSlAll (K : Fg) : V → Option Int → Option Int → Hp → VK → Prop := fun x lo hi H Q => rSlL K x lo hi H Q ∨ rSlX K x lo hi H Q
theorem l_slc {lo hi : Option Expr} {p2 : Pos} (h1 : PE X a (tE X.K Wx (den cf t))) (hl : Part X Wx cf lo t1) (hh : Part X Wx cf hi t2) : PE X (.Subscript a (.Slice lo hi none p2) pos) (tE X.K Wx (den cf (.slc t t1 t2))) := by
  have hr : SlR X (rSlAll X.K) := sl_list.or sl_tupX
  refine peImp (pe_slice hr h1 hl hh) fun σ H Q h => ?_
  obtain ⟨φ, Z, v, m, s, r, h⟩ := h
  refine ⟨φ, Z, v, m, s, r, (h.seq s.len).imp fun w φ1 m1 H1 _ s1 g1 h y r1 => ⟨φ1, Z, v, m1, s1, g1.rv s.len r, (Pst.seq (r := denP cf t1 v m1) s1.len h).imp fun i φ2 m2 H2 _ s2 g2 h =>
    ⟨φ2, Z, v, m2, s2, (g1.trans g2 s.len).rv s.len r, (Pst.seq (r := denP cf t2 v m2) s2.len h).imp fun j φ3 m3 H3 _ s3 g3 h => ?_⟩⟩⟩
  obtain ⟨w', ew, h⟩ := h.opt
  obtain ⟨pp, e1, e2⟩ := Option.bind_eq_some_iff.mp ew
  obtain ⟨z, e3, rfl⟩ := Option.map_eq_some_iff.mp e2
  have r3 := g3.rw s2.len (g2.rw s1.len r1)
  -- a list
  have lst : ∀ a1 vs l, y = .ref a1 → SqL X.K H3 a1 vs → DpAll X.K (hid φ3 m3 Z H3) vs l → PyData.canLayAll0 l = true → pp = .list l → rSlAll X.K y i j H3 Q := fun a1 vs l ey g1 k1 c1 ep => by
    subst ep
    cases e3
    refine .inl ⟨a1, vs, ey, g1, fun q hq => ?_⟩
    obtain ⟨s4, g4, v4⟩ := s3.new hq (.lst (cutV vs i j))
    exact h φ3 _ s4 g4 _ ⟨.lst v4 (dpMonoL (g4.same s3.len) _ _ (cut_dp k1)), by simpa [PyData.canLay0] using cut_can c1⟩
  cases w with
  | exn ns => cases e1
  | scr ns =>
    cases e1
    obtain ⟨a1, rfl, g1⟩ := r3
    exact lst a1 _ _ rfl (Same.seq hid_le g1) (ints_dp ns) (canL_ints ns) rfl
  | ref k =>
    have e1' : vw m3 (.ref k) = some pp := e1
    cases pp with
    | list l =>
      obtain ⟨a1, vs, ey, g1, k1, c1⟩ := vw_list s3 r3 e1'
      exact lst a1 vs l ey (SqL.of g1) k1 c1 rfl
    | tuple l => obtain ⟨_, ⟨_, h5⟩⟩ := r3; simp only [vw] at e1'; split at e1' <;> first | cases e1' | skip
    | _ => cases e3
  | d q =>
    have e1' : vw m3 (.d q) = some pp := e1
    cases pp with
    | list l =>
      obtain ⟨a1, vs, ey, g1, k1, c1⟩ := vw_list s3 r3 e1'
      exact lst a1 vs l ey (SqL.of g1) k1 c1 rfl
    | tuple l =>
      obtain ⟨a1, vs, rfl, g1, g1', k1, c1⟩ := vw_tup s3 r3 e1'
      cases e3
      refine .inr ⟨a1, vs, rfl, g1, fun hw => ?_, fun q o hq ho => ?_⟩
      · have e : cutF l i j = l := by
          unfold cutF
          rw [← DpAll.len k1, hw.1, hw.2]
          simp [DpAll.len k1]
        rw [e] at h
        exact h φ3 H3 s3 Gr.refl _ ⟨.tup g1' k1, by simpa [PyData.canLay0] using c1⟩
      · obtain ⟨s4, g4, v4⟩ := s3.new hq (.frz o (.tup (cutV vs i j)))
        exact h φ3 _ s4 g4 _ ⟨.tup ⟨o, v4, ho⟩ (dpMonoL (g4.same s3.len) _ _ (cut_dp k1)), by simpa [PyData.canLay0] using cut_can c1⟩
    | _ => cases e3
/-! ### frz -/
theorem l_frz (h1 : PE X a (tE X.K Wx (den cf t))) : PE X a (tE X.K Wx (den cf (.frz t))) := by
  refine peImp h1 fun σ H Q h => ?_
  obtain ⟨φ, Z, v, m, s, r, h⟩ := h
  refine ⟨φ, Z, v, m, s, r, (h.seq s.len).imp fun w φ1 m1 H1 _ s1 g1 h y r1 => ?_⟩
  cases w with
  | d q => exact h φ1 H1 s1 Gr.refl y r1
  | scr q => exact h φ1 H1 s1 Gr.refl y r1
  | exn q => exact h φ1 H1 s1 Gr.refl y r1
  | ref n =>
    simp only [frzF] at h
    obtain ⟨a1, rfl, hp⟩ := r1
    cases q : m1[n]? with
    | none => rw [q] at h; exact h φ1 H1 s1 Gr.refl _ ⟨a1, rfl, hp⟩
    | some c =>
      rw [q] at h
      cases c with
      | dead => exact h φ1 H1 s1 Gr.refl _ ⟨a1, rfl, hp⟩
      | dct l => exact h φ1 H1 s1 Gr.refl _ ⟨a1, rfl, hp⟩
      | obj c l => exact h.elim
      | rfs ns =>
        have h : Pst X.K Wx σ Z φ1 m1 H1 (GV X.K Z Q) (if ns.Nodup then (match rowsAt m1 ns with
          | some ls => .ok (.d (.list ls)) (deadAll (m1.set n .dead) ns)
          | none => .no) else .no) := h
        by_cases nd : ns.Nodup
        · rw [if_pos nd] at h
          cases e : rowsAt m1 ns with
          | none => rw [e] at h; exact h.elim
          | some ls =>
            rw [e] at h
            obtain ⟨s2, g2, d2, c2⟩ := s1.rowsDead hp q nd e
            exact h φ1 H1 s2 g2 _ ⟨d2, by simpa [PyData.canLay0] using c2⟩
        · rw [if_neg nd] at h; exact h.elim
      | lst l =>
        obtain ⟨s2, g2, d2, c2⟩ := s1.cellDead hp q
        exact h φ1 H1 s2 g2 _ ⟨d2, by simpa [PyData.canLay0] using c2⟩
end
end MP
/-! MPHC: .count(x), tuple(range(..)). -/
namespace MP
open PySem PySem.Spec PyProof.Rows L2
open Classical
/-- t.count(x), l.count(x) -/
def rCount (K : Fg) (tp : Bool) : V → List V → Hp → VK → Prop := fun x xs H Q => ∃ (y : V) (d : PyData) (ds : List PyData), xs = [y] ∧ L2.Dp K H x (if tp then .tuple ds else .list ds) ∧ L2.Dp K H y d ∧ d.canLay0 = true ∧ PyData.canLayAll0 ds = true ∧ d.depth ≤ 64 ∧ Q (.int (countD d ds : Nat)) H
section
variable {X : Cx}
theorem countAt {h : Heap} {d : PyData} {ds : List PyData} {its : List Value} {as : List Addr} (hc : PyData.canLayAll0 ds = true) (r : ReadsAll h its ds as) : its.countP (fun u => PyData.eqv (SeqAt.readOf h u) d) = countD d ds := by
  unfold countD
  rw [← SeqAt.readsAll_map ds its as hc r, List.countP_map]
  rfl
theorem mt_countT (hu : X.A.units + 65 < cLine) : MtR X "tuple.count" (rCount X.K true) := by
  intro pins s σ H x xs v us Q I rx rxs h
  obtain ⟨y, d, ds, rfl, hl, hy, cd, cl, dd, q⟩ := h
  obtain ⟨uy, rfl, ry⟩ := rxs.one
  obtain ⟨bs, r1⟩ := L2.Dp.reads I d y uy hy ry
  have room : X.A.units + 1 + min (PyData.depthAll ds) d.depth < cLine := by
    have := Nat.min_le_right (PyData.depthAll ds) d.depth
    omega
  have hl' : L2.Dp X.K H x (.tuple ds) := hl
  cases hl' with
  | tup hs ha =>
    cases rx
    obtain ⟨its, rv, ⟨⟨cls, dc, data, sls⟩, ho, hc, n, hdt⟩, hlen⟩ := I.tuple hs
    simp only at hc hdt
    subst hc hdt
    obtain ⟨as, h4⟩ := L2.Dp.readsAll I ds _ its ha rv
    refine call_meets PySem.F.slot_tuple_count ⟨_, ho, rfl⟩ PySem.F.entry_tuple_count (PySem.F.args_tuple_count_2 _ _) (SeqAt.tuple_countAt _ its.toArray n dc sls uy (fun u => PyData.eqv (SeqAt.readOf s.heap u) d))
      ⟨ho, SeqAt.items_eqAt (vs := its.toArray) (show ReadsAll s.heap its.toArray.toList ds as from h4) r1 cl cd room, ?_⟩
    have e : (its.toArray.toList.countP fun u => PyData.eqv (SeqAt.readOf s.heap u) d) = countD d ds := countAt cl h4
    rw [e]
    exact ⟨.int (countD d ds : Nat), H, I.tok _, ⟨_, rfl⟩, q⟩
theorem mt_countL (hu : X.A.units + 65 < cLine) : MtR X "list.count" (rCount X.K false) := by
  intro pins s σ H x xs v us Q I rx rxs h
  obtain ⟨y, d, ds, rfl, hl, hy, cd, cl, dd, q⟩ := h
  obtain ⟨uy, rfl, ry⟩ := rxs.one
  obtain ⟨bs, r1⟩ := L2.Dp.reads I d y uy hy ry
  have room : X.A.units + 1 + min (PyData.depthAll ds) d.depth < cLine := by
    have := Nat.min_le_right (PyData.depthAll ds) d.depth
    omega
  have hl' : L2.Dp X.K H x (.list ds) := hl
  cases hl' with
  | lst hs ha =>
    cases rx
    obtain ⟨its, rv, ⟨⟨cls, dc, data, sls⟩, n, ho, hc, hdn, hdt⟩, hlen⟩ := I.list hs
    simp only at hc hdt
    subst hc hdt
    obtain ⟨as, h4⟩ := L2.Dp.readsAll I ds _ its ha rv
    refine call_meets PySem.F.slot_list_count ⟨_, ho, rfl⟩ PySem.F.entry_list_count (PySem.F.args_list_count_2 _ _) (SeqAt.list_countAt _ its.toArray n dc sls uy (fun u => PyData.eqv (SeqAt.readOf s.heap u) d))
      ⟨ho, SeqAt.items_eqAt (vs := its.toArray) (show ReadsAll s.heap its.toArray.toList ds as from h4) r1 cl cd room, ?_⟩
    have e : (its.toArray.toList.countP fun u => PyData.eqv (SeqAt.readOf s.heap u) d) = countD d ds := countAt cl h4
    rw [e]
    exact ⟨.int (countD d ds : Nat), H, I.tok _, ⟨_, rfl⟩, q⟩
/-- what stands ahead of a dot is not super() -/
def noSup : Expr → Bool
  | .Call _ _ _ _ => false
  | _ => true
theorem attr_base {o : Expr} (h : noSup o = true) (nm : Str) (env : PySem.Env) (w : Sem Value) : attributeBase o nm env w = w := by
  cases o <;> first | rfl | cases h
variable {Wx : WX} {o e : Expr} {ap cp : Pos} {cf : CallF} {t u : E}
def tCount (K : Fg) (to : TE) (ta : TA) : TE := fun σ H Q => to σ H fun x H1 => ∃ a, x = .ref a ∧ (((∃ xs, SqX H1 a xs) ∧ ta σ H1 fun ys H2 => rCount K true x ys H2 Q) ∨ ((∃ xs, SqL K H1 a xs) ∧ ta σ H1 fun ys H2 => rCount K false x ys H2 Q))
theorem pe_count {to : TE} {ta : TA} (hu : X.A.units + 65 < cLine) (hb : noSup o = true) (he : noStar e = true) (hl : (ap.endLine == cp.line) = true) (ho : PE X o to) (ha : PA X [e] ta) : PE X (.Call (.Attribute o "count" ap) [e] [] cp) (tCount X.K to ta) := by
  have hs : starEach [e] X.env = (false, eval e X.env) :: starEach [] X.env := starEach_ne he _ _
  refine ⟨fun pins s σ H Q I h => ?_⟩
  refine wpAny_Call_method_late (attr_base hb _ _ _) (by rw [hs]; rfl) hl rfl (thn (ho.run pins s σ H _ I h) fun v s1 ⟨x, H1, I1, r1, a, ex, q1⟩ => ?_)
  subst ex
  cases r1
  have run : ∀ {tb : Bool} {id : String}, MtR X id (rCount X.K tb) → (ta σ H1 fun ys H2 => rCount X.K tb (.ref a) ys H2 Q) → wpAny (model X.prog X.w) X.A (callWith cp (.builtin id) [Value.ref a] (backTo cp (starEach [e] X.env)) []) (EP X pins σ Q) X.xe s1 := fun {tb id} hm q => by
    have hA := ha.run cp pins s1 σ H1 _ I1 q
    rw [hs] at hA ⊢
    refine Calls.callWith_builtin (by rfl) (Calls.evalArgs_plain ?_)
    exact thn hA fun us s2 ⟨vs, H2, I2, r2, q2⟩ => hm pins s2 σ H2 (.ref a) vs (.ref a) us Q I2 rfl r2 q2
  rcases q1 with ⟨⟨xs, o1, h1, h2⟩, q⟩ | ⟨⟨xs, hx⟩, q⟩
  · have k : s1.heap.get? a = some o1 := (I1.hok a _ h1).1
    obtain ⟨its, _, tp, _⟩ := I1.tuple (SqX.sq (K := X.K) ⟨o1, h1, h2⟩)
    have tp : s1.heap.IsTuple a its.toArray := tp
    exact ⟨"tuple", "tuple.count", PySem.F.plainAttrs_tuple, PySem.F.slot_tuple_count, PySem.F.type_tuple_count, tp.typeIs, fun b eb => by cases eb; exact ⟨o1, k, h2⟩, run (mt_countT hu) q⟩
  · obtain ⟨its, _, pl, _⟩ := I1.list hx
    refine ⟨"list", "list.count", PySem.F.plainAttrs_list, PySem.F.slot_list_count, PySem.F.type_list_count, pl.isList.typeIs, fun b eb => ?_, run (mt_countL hu) q⟩
    cases eb
    obtain ⟨o, n, e, c, hd, _⟩ := pl
    exact ⟨o, e, hd⟩
theorem l_count (hu : X.A.units + 65 < cLine) (hb : noSup o = true) (he : noStar e = true) (hl : (ap.endLine == cp.line) = true) (h1 : PE X o (tE X.K Wx (den cf t))) (h2 : PE X e (tE X.K Wx (den cf u))) :
    PE X (.Call (.Attribute o "count" ap) [e] [] cp) (tE X.K Wx (den cf (.me .count t (.cons u .nil)))) := by
  refine peImp (pe_count hu hb he hl h1 (l_cons h2 l_nil he)) fun σ H Q h => ?_
  obtain ⟨φ, Z, v, m, s, r, h⟩ := h
  refine ⟨φ, Z, v, m, s, r, (h.seq s.len).imp fun w φ1 m1 H1 _ s1 g1 h x r1 => ?_⟩
  obtain ⟨p, ep, hp0⟩ := (h.seq s1.len).opt
  have hq := hp0.here s1
  clear h hp0
  obtain ⟨p0, e1, e2⟩ := Option.bind_eq_some_iff.mp ep
  cases w with
  | ref n => cases e1
  | scr n => cases e1
  | exn n => cases e1
  | d z =>
    obtain rfl := Option.some.inj e1
    have fin : ∀ (tb : Bool) (ds : List PyData), z = (if tb then .tuple ds else .list ds) → p = z → ∀ a, x = .ref a → tAr X.K Wx (denA cf (.cons u .nil)) σ H1 fun ys H2 => rCount X.K tb x ys H2 Q := fun tb ds ez hp a ea => by
      refine ⟨φ1, Z, v, m1, s1, g1.rv s.len r, (hq.seq s1.len).imp fun ws φ2 m2 H2 _ s2 g2 h xs r2 => ?_⟩
      obtain ⟨w', ew, h⟩ := h.opt
      obtain ⟨qs, e3, e4⟩ := Option.bind_eq_some_iff.mp ew
      obtain ⟨c, e5, rfl⟩ := Option.map_eq_some_iff.mp e4
      have rz := g2.rw s1.len r1
      have hz : L2.Dp X.K H2 x z := Dp.lib _ _ (dpMono hid_le _ _ rz.1)
      have hc : PyData.canLayAll0 ds = true := by
        have := rz.2
        rw [ez] at this
        cases tb <;> simpa [PyData.canLay0] using this
      obtain ⟨d, rfl, e6, e7⟩ : ∃ d, qs = [d] ∧ d.depth ≤ 64 ∧ c = .int (countD d ds : Nat) := by
        rw [hp, ez] at e5
        rcases qs with _ | ⟨d, _ | ⟨d2, k⟩⟩
        · cases tb <;> cases e5
        · refine ⟨d, rfl, ?_⟩
          cases tb <;> simp only [meF, if_true, Bool.false_eq_true, if_false] at e5 <;> split at e5 <;> first | (rename_i hd; cases e5; exact ⟨hd.1, rfl⟩) | cases e5
        · cases tb <;> cases e5
      subst e7
      obtain ⟨y, wy, rfl, ry, ey⟩ : ∃ y wy, xs = [y] ∧ RW X.K φ2 (hid φ2 m2 Z H2) wy y ∧ vw m2 wy = some d := by
        cases r2 with
        | nil => simp at e3
        | @cons w1 x1 ws1 xs1 q1 qt =>
          simp only [List.mapM_cons, Option.bind_eq_bind, Option.bind_eq_some_iff] at e3
          obtain ⟨d1, k1, l1, k2, k3⟩ := e3
          have k3 : d1 :: l1 = [d] := Option.some.inj k3
          simp only [List.cons.injEq] at k3
          obtain ⟨rfl, rfl⟩ := k3
          cases qt with
          | nil => exact ⟨x1, w1, rfl, q1, k1⟩
          | @cons w2 x2 ws2 xs2 _ _ =>
            simp only [List.mapM_cons, Option.bind_eq_bind, Option.bind_eq_some_iff] at k2
            obtain ⟨d2, _, l2, _, k4⟩ := k2
            cases (show some (d2 :: l2) = some [] from k4)
      obtain ⟨dy, cy⟩ := vw_dp s2 ry ey
      exact ⟨y, d, ds, rfl, by rw [← ez]; exact hz, Dp.lib _ _ dy, cy, hc, e6, h φ2 H2 s2 Gr.refl _ (rw_flat.1 _)⟩
    obtain ⟨dp, hc⟩ := r1
    cases z with
    | list l =>
      cases dp with
      | lst k1 k2 => exact ⟨_, rfl, .inr ⟨⟨_, SqL.of (hid_le _ _ k1)⟩, fin false l rfl (Option.some.inj e2).symm _ rfl⟩⟩
    | tuple l =>
      cases dp with
      | tup k1 k2 => exact ⟨_, rfl, .inl ⟨⟨_, k1.mono hid_le⟩, fin true l rfl (Option.some.inj e2).symm _ rfl⟩⟩
    | _ => cases e2
/-- tuple(range(..)) -/
def tTupRgX (te : L2.St → Hp → (Int → Int → Hp → Prop) → Prop) : TE := fun σ H Q => te σ H fun a b H1 => RgOk a b ∧ ∀ q o, H1 q = none → o.dict = none → Q (.ref q) (upd H1 q (.frz o (.tup (rgV a b))))
theorem pe_tupRgX {te : L2.St → Hp → (Int → Int → Hp → Prop) → Prop} {p pos : Pos} (hc : X.calm = true) (hg : Gl X "tuple") (hm : X.mg "tuple" = none) (he : PRg X e te) (na : starEach [e] X.env = (false, eval e X.env) :: starEach [] X.env) : PE X (.Call (.Name "tuple" p) [e] [] pos) (tTupRgX te) := by
  refine ⟨fun pins s σ H Q I h => ?_⟩
  refine Call_ (ld_blt I hg hm boot_tuple (PyProof.Rows.callWith_type1 (args_cons (thn (he pins s σ H _ I h) fun x s1 ⟨r, a, b, t, u, v, H1, ex, hr, I1, ok, q⟩ => args_nil ?_) na) na))
  subst ex
  obtain ⟨b1, b2, b3, b4, b5⟩ := ok
  refine call_tuple_range (n := (b - a).toNat) (I1.ok.hd hc) hr (small_one b1 b2 b3 b4) (rangeSize_nat a b) b5 fun h' tk acc hk hi => ?_
  have I2 : Inv X pins σ H1 { s1 with heap := h', toks := tk } := I1.kept hk
  have z : (rgV a b).length ≤ sizeLine := by rw [rgV_length, sizeLine_eq]; omega
  have I3 := inv_tup I2 (vals_rg hi) z (tk := tk)
  have ea : acc.toList.toArray = acc := by simp
  unfold tupO at I3
  rw [ea] at I3
  exact ⟨.ref h'.objs.size, _, I3, rfl, q _ _ (inv_free I2) rfl⟩
theorem rng_dp {Hh : Hp} {K : Fg} : ∀ (n : Nat) (lo : Int) (k : Nat), DpAll K Hh ((List.range' k n).map fun i => V.int (lo + (i : Nat))) (rngD (lo + k) n)
  | 0, _, _ => .nil
  | n + 1, lo, k => by
    rw [List.range'_succ, List.map_cons]
    refine .cons (.int _) ?_
    have e : lo + (k : Int) + 1 = lo + ((k + 1 : Nat) : Int) := by omega
    show DpAll K Hh _ (rngD (lo + k + 1) n)
    rw [e]
    exact rng_dp n lo (k + 1)
theorem rng_can : ∀ (n : Nat) (lo : Int), PyData.canLayAll0 (rngD lo n) = true
  | 0, _ => rfl
  | n + 1, lo => by simp [rngD, PyData.canLayAll0, PyData.canLay0, rng_can n]
theorem rng_len : ∀ (n : Nat) (lo : Int), (rngD lo n).length = n
  | 0, _ => rfl
  | n + 1, lo => by simp [rngD, rng_len n]
theorem fin_tupR {φ Z : List Addr} {m : Mem} {H : Hp} {Q : VK} {a b : Int} {σ : L2.St} (s : SR X.K φ m Z H) (hb : -(2 ^ 62) ≤ a ∧ a < 2 ^ 62 ∧ -(2 ^ 62) ≤ b ∧ b < 2 ^ 62)
    (h : Pst X.K Wx σ Z φ m H (GV X.K Z Q) (optR (if (rngD a (b - a).toNat).length ≤ 10000 then some (W.d (.tuple (rngD a (b - a).toNat))) else none) m)) : RgOk a b ∧ ∀ q o, H q = none → o.dict = none → Q (.ref q) (upd H q (.frz o (.tup (rgV a b)))) := by
  obtain ⟨w, ew, h⟩ := h.opt
  rw [rng_len] at ew
  split at ew
  · rename_i hl
    cases ew
    refine ⟨⟨hb.1, hb.2.1, hb.2.2.1, hb.2.2.2, by omega⟩, fun q o hq ho => ?_⟩
    obtain ⟨s2, g2, v2⟩ := s.new hq (.frz o (.tup (rgV a b)))
    have d0 := rng_dp (K := X.K) (Hh := hid φ m Z (upd H q (.frz o (.tup (rgV a b))))) (b - a).toNat a 0
    have e0 : a + ((0 : Nat) : Int) = a := by omega
    rw [e0] at d0
    refine h φ _ s2 g2 _ ⟨.tup ⟨o, v2, ho⟩ ?_, by simpa [PyData.canLay0] using rng_can _ _⟩
    rw [← List.range_eq_range'] at d0
    exact d0
  · cases ew
theorem l_tupR1 {p p2 pos pos2 : Pos} (hc : X.calm = true) (hg : Gl X "tuple") (hm : X.mg "tuple" = none) (hg2 : Gl X "range") (hm2 : X.mg "range" = none) (hs : noStar e = true) (h1 : PE X e (tE X.K Wx (den cf t))) :
    PE X (.Call (.Name "tuple" p) [.Call (.Name "range" p2) [e] [] pos2] [] pos) (tE X.K Wx (den cf (.tupR (.rng1 t)))) := by
  refine peImp (pe_tupRgX hc hg hm (prg_1 hg2 hm2 h1 (starEach_ne hs _ _)) (by rfl)) fun σ H Q h => ?_
  obtain ⟨φ, Z, v, m, s, r, h⟩ := h
  have h : Pst X.K Wx σ Z φ m H (GV X.K Z Q) ((denI cf (.rng1 t) v m).bind fun s m1 => optR (match s with
    | .items l => if l.length ≤ 10000 then some (.d (.tuple l)) else none
    | _ => none) m1) := h
  have e1 : denI cf (.rng1 t) v m = (den cf t v m).bind fun x m1 => match x with
    | .d (.int n) => if n < 2 ^ 62 ∧ -(2 ^ 62) ≤ n then .ok (.items (rngD 0 n.toNat)) m1 else .no
    | _ => .no := rfl
  rw [e1] at h
  refine ⟨φ, Z, v, m, s, r, ((Pst.seq s.len h).seq s.len).imp fun w φ1 m1 H1 _ s1 g1 h y r1 => ?_⟩
  cases w with
  | ref n => exact h.elim
  | scr n => exact h.elim
  | exn n => exact h.elim
  | d z =>
    cases z with
    | int n =>
      obtain ⟨r1, _⟩ := r1
      cases r1
      simp only at h
      split at h
      · rename_i hb
        have h := h.here s1
        have e2 : n.toNat = (n - 0).toNat := by omega
        rw [e2] at h
        exact ⟨n, rfl, fin_tupR s1 ⟨by omega, by omega, hb.2, hb.1⟩ h⟩
      · exact h.elim
    | _ => exact h.elim
theorem l_tupR2 {e2 : Expr} {u2 : E} {p p2 pos pos2 : Pos} (hc : X.calm = true) (hg : Gl X "tuple") (hm : X.mg "tuple" = none) (hg2 : Gl X "range") (hm2 : X.mg "range" = none) (hs : noStar e = true) (hs2 : noStar e2 = true) (h1 : PE X e (tE X.K Wx (den cf t))) (h2 : PE X e2 (tE X.K Wx (den cf u2))) :
    PE X (.Call (.Name "tuple" p) [.Call (.Name "range" p2) [e, e2] [] pos2] [] pos) (tE X.K Wx (den cf (.tupR (.rng2 t u2)))) := by
  refine peImp (pe_tupRgX hc hg hm (prg_2 hg2 hm2 h1 h2 (starEach_ne hs _ _) (starEach_ne hs2 _ _) (by rw [starEach_ne hs2]; rfl)) (by rfl)) fun σ H Q h => ?_
  obtain ⟨φ, Z, v, m, s, r, h⟩ := h
  have h : Pst X.K Wx σ Z φ m H (GV X.K Z Q) ((denI cf (.rng2 t u2) v m).bind fun s m1 => optR (match s with
    | .items l => if l.length ≤ 10000 then some (.d (.tuple l)) else none
    | _ => none) m1) := h
  have e1 : denI cf (.rng2 t u2) v m = (den cf t v m).bind fun x m1 => (den cf u2 v m1).bind fun y m2 => match x, y with
    | .d (.int i), .d (.int n) => if n < 2 ^ 62 ∧ -(2 ^ 62) ≤ n ∧ i < 2 ^ 62 ∧ -(2 ^ 62) ≤ i then .ok (.items (rngD i (n - i).toNat)) m2 else .no
    | _, _ => .no := rfl
  rw [e1] at h
  refine ⟨φ, Z, v, m, s, r, ((Pst.seq s.len h).seq s.len).imp fun w φ1 m1 H1 _ s1 g1 h y r1 => ⟨φ1, Z, v, m1, s1, g1.rv s.len r, (h.seq s1.len).imp fun w2 φ2 m2 H2 _ s2 g2 h y2 r2 => ?_⟩⟩
  have r1' := g2.rw s1.len r1
  cases w with
  | ref n => exact h.elim
  | scr n => exact h.elim
  | exn n => exact h.elim
  | d z =>
    cases z with
    | int i =>
      cases w2 with
      | ref n => exact h.elim
      | scr n => exact h.elim
      | exn n => exact h.elim
      | d z2 =>
        cases z2 with
        | int n =>
          obtain ⟨r1', _⟩ := r1'
          cases r1'
          obtain ⟨r2, _⟩ := r2
          cases r2
          simp only at h
          split at h
          · rename_i hb
            have h := h.here s2
            exact ⟨i, n, rfl, rfl, fin_tupR s2 ⟨hb.2.2.2, hb.2.2.1, hb.2.1, hb.1⟩ h⟩
          · exact h.elim
        | _ => exact h.elim
    | _ => exact h.elim
end
end MP
/-! MPHR: t[::-1], a tuple -/
namespace MP
open PySem PySem.Spec PyProof.Rows L2 HT
section
variable {prog : Program} {w : World} {A : Around} {E : Value → Shared → Prop} {s : Shared}
theorem sliceApplied_rev {sl : Addr} {vl vu vs : Value} {n : Nat} {Q : Int × Int × Nat → Shared → Prop} (hs : s.heap.IsSliceOf sl vl vu vs) (pl : IsPart vl none) (pu : IsPart vu none) (ps : IsPart vs (some (-1)))
    (h : Q ((n : Int) - 1, -1, n) s) : wpAny (model prog w) A (Builtin.Slice.sliceApplied (.ref sl) (pure (n : Int))) Q E s := by
  obtain ⟨os, hos, _, hds⟩ := id hs
  unfold Builtin.Slice.sliceApplied Builtin.Slice.sliceFields
  refine wpAny_bind (wpAny_bind (wpAny_field hos hds (x := vl) rfl (wpAny_bind (wpAny_field hos hds (x := vu) rfl (wpAny_bind (wpAny_field hos hds (x := vs) rfl (wpAny_pure ?_)))))))
  refine wpAny_bind (slicePart_ ps ?_)
  show wpAny _ _ (if ((-1 : Int) == 0) = true then _ else _) _ _ s
  rw [if_neg (by decide)]
  refine wpAny_bind (slicePart_ pl (wpAny_bind (slicePart_ pu (wpAny_bind (wpAny_pure ?_)))))
  have e1 : Builtin.Slice.sliceAdjust none none (-1) (n : Int) = ((n : Int) - 1, -1) := rfl
  have e2 : Builtin.Slice.slicePlaces ((n : Int) - 1) (-1) (-1) = n := by
    unfold Builtin.Slice.slicePlaces
    have h1 : ¬ ((-1 : Int) > 0) := by omega
    have h2 : (- -1 : Int) = 1 := by decide
    simp only [h1, if_false, h2, Int.ediv_one]
    split <;> omega
  show wpAny _ _ (match Builtin.Slice.sliceAdjust none none (-1) (n : Int) with | (lo, hi) => pure (lo, (-1 : Int), Builtin.Slice.slicePlaces lo hi (-1))) _ _ s
  rw [e1]
  show wpAny _ _ (pure ((n : Int) - 1, (-1 : Int), Builtin.Slice.slicePlaces ((n : Int) - 1) (-1) (-1))) _ _ s
  rw [e2]
  exact wpAny_pure h
theorem fm_congr {α β : Type} {f g : α → Option β} : ∀ {L : List α}, (∀ k ∈ L, f k = g k) → L.filterMap f = L.filterMap g
  | [], _ => rfl
  | x :: L, h => by
    rw [List.filterMap_cons, List.filterMap_cons, h x (by simp), fm_congr fun k hk => h k (List.mem_cons_of_mem _ hk)]
theorem pick_rev (xs : Array Value) : ((List.range xs.size).filterMap fun (k : Nat) => xs[(((xs.size : Nat) : Int) - 1 + (k : Int) * (-1)).toNat]?).toArray = xs.toList.reverse.toArray := by
  have e : ∀ k ∈ List.range xs.size, xs[(((xs.size : Nat) : Int) - 1 + (k : Int) * (-1)).toNat]? = xs[xs.size - 1 - k]? := fun k hk => by
    have := List.mem_range.mp hk
    have : (((xs.size : Nat) : Int) - 1 + (k : Int) * (-1)).toNat = xs.size - 1 - k := by omega
    rw [this]
  rw [fm_congr e]
  have e2 : (List.range xs.size).filterMap (fun k => xs[xs.size - 1 - k]?) = ((List.range xs.size).map fun k => xs.size - 1 - k).filterMap (xs[·]?) := by
    rw [List.filterMap_map]; rfl
  rw [e2, PySem.W.krv_range, List.filterMap_reverse, PySem.W.krv_all]
theorem getItem_tuple_rev {t sl : Addr} {items : Array Value} {vl vu vs : Value} {Q : Value → Shared → Prop} (ht : IsTup s.heap t items) (hs : s.heap.IsSliceOf sl vl vu vs) (pl : IsPart vl none) (pu : IsPart vu none) (ps : IsPart vs (some (-1)))
    (h : Q (.ref s.heap.objs.size) { s with heap := s.heap.push { cls := .type "tuple", data := .seq items.toList.reverse.toArray } })
    (hsz : items.size ≤ sizeLine) : wpAny (model prog w) A (getItem (.ref t) (.ref sl)) Q E s := by
  have hfit : sizeOk (.seq items.toList.reverse.toArray) := by
    show items.toList.reverse.toArray.size ≤ sizeLine
    rw [List.size_toArray, List.length_reverse, Array.length_toList]
    exact hsz
  obtain ⟨os, hos, hcs, _⟩ := id hs
  have hTs : s.TypeIs (.ref sl) "slice" := ⟨os, hos, hcs⟩
  unfold getItem
  try with_reducible refine wpAny_holding ?_
  first | refine wpAny_bind (wpAny_pure ?_) | skip
  refine wpAny_bind (wpAny_sequenceKey ht.typeIs (by decide) ?_)
  refine wpAny_bind (wpAny_callSpecial?_slot (name := Str.ofString "__getitem__") ht.typeIs PyProof.Rows.slot_tuple_getitem
    (wpAny_call_entry PyProof.Rows.slot_tuple_getitem ht.typeIs entry_tuple_getitem ?_ (args_tuple_getitem _ _)))
  show wpAny _ _ (Builtin.Tuple.tupleItemsOf (.ref t) >>= _) _ _ s
  refine wpAny_bind (tupleItemsOf_ ht (wpAny_bind (wpAny_typeOf hTs ?_)))
  rw [if_pos (by decide)]
  refine wpAny_bind (sliceApplied_rev hs pl pu ps ?_)
  show wpAny _ _ (if ((((items.size : Nat) : Int) - 1 == 0 && (-1 : Int) == 1 && items.size == items.size)) = true then _ else _) _ _ s
  rw [if_neg (by rw [show ((-1 : Int) == 1) = false from rfl, Bool.and_false, Bool.false_and]; exact Bool.false_ne_true), pick_rev]
  first
    | exact wpAny_bind (m := Builtin.Tuple.tupleExact _) (wpAny_newObj_type (wpAny_pure ⟨_, rfl, wpAny_pure h⟩) hfit)
    | exact wpAny_bind (m := Builtin.Tuple.tupleExact _) (wpAny_newObj_type (wpAny_bind (wpAny_pure (wpAny_pure ⟨_, rfl, wpAny_pure h⟩))) hfit)
    | exact wpAny_bind (wpAny_bind (m := Builtin.Tuple.tupleExact _) (wpAny_newObj_type (wpAny_pure (wpAny_pure ⟨_, rfl, wpAny_pure h⟩)) hfit))
    | exact wpAny_bind (wpAny_bind (m := Builtin.Tuple.tupleExact _) (wpAny_newObj_type (wpAny_pure ⟨_, rfl, wpAny_pure h⟩) hfit))
end
section
variable {X : Cx} {Wx : WX} {cf : CallF} {t : E} {te : TE}
def tRevT (K : PySem.W.Frag) (te : TE) : TE := fun σ H Q => te σ H fun x H1 => ∃ a xs, x = .ref a ∧ SqT K H1 a xs ∧ xs.length ≤ 10000 ∧ ∀ p o, H1 p = none → o.dict = none → Q (.ref p) (upd H1 p (.frz o (.tup xs.reverse)))
theorem pe_revT {e : Expr} {k : Nat} {p1 p2 p3 pos : Pos} (he : PE X e te) : PE X (.Subscript e (.Slice none none (some (.UnaryOp .USub (.Constant (.int 1) k p1) p2)) p3) pos) (tRevT X.K te) := by
  refine ⟨fun pins s σ H Q I h => ?_⟩
  refine Subscript_ (thn (he.run pins s σ H _ I h) fun v s1 ⟨x, H1, I1, r1, q1⟩ => ?_)
  obtain ⟨a, xs, ex, hx, hl, q⟩ := q1
  subst ex
  cases r1
  have hst : PO X (some (.UnaryOp .USub (.Constant (.int 1) k p1) p2)) (tPart (tUn (rU fun i => .int (-i)) (tC (.int 1)))) := po_some (pe_un un_neg pe_int)
  refine wpAny_Slice (thn (po_none.run pins s1 σ H1 (fun o H2 => o = none ∧ H2 = H1) I1 ⟨rfl, rfl⟩) fun vl s2 ⟨l, H2, I2, pl, el, e2⟩ => ?_)
  subst el e2
  refine thn (po_none.run pins s2 σ H2 (fun o H3 => o = none ∧ H3 = H2) I2 ⟨rfl, rfl⟩) fun vu s3 ⟨u, H3, I3, pu, eu, e3⟩ => ?_
  subst eu e3
  refine thn (hst.run pins s3 σ H3 (fun o H4 => o = some (-1) ∧ H4 = H3) I3 ⟨1, rfl, -1, rfl, rfl, rfl⟩) fun vs s4 ⟨o, H4, I4, ps, eo, e4⟩ => ?_
  subst eo e4
  have I5 : Inv X pins σ H4 { s4 with heap := s4.heap.push { cls := .type "slice", data := .fields #[vl, vu, vs] } } := I4.kept (t' := s4.toks) fun b ob q => Heap.get?_push_of_some _ q
  obtain ⟨its, r, ht, hz⟩ := I5.tuple hx
  show wpAny (model X.prog X.w) X.A (subscriptTail e (.Slice none none (some (.UnaryOp .USub (.Constant (.int 1) k p1) p2)) p3) (.ref a) (.ref s4.heap.objs.size)) (EP X pins σ Q) X.xe { s4 with heap := s4.heap.push { cls := .type "slice", data := .fields #[vl, vu, vs] } }
  refine tail_any (ops := [.ref a, .ref s4.heap.objs.size]) ht.typeIs (PyProof.Rows.slot_tuple_getitem.lookup) ?_ (by with_unfolding_all rfl)
  refine getItem_tuple_rev ht (Heap.IsSliceOf.new _ vl vu vs) pl pu ps ?_ (by rw [List.size_toArray, ← r.length, sizeLine_eq]; omega)
  exact ⟨.ref _, _, inv_tup I5 r.reverse (by rw [List.length_reverse, sizeLine_eq]; omega) (tk := s4.toks), rfl, q _ (tupO _) (inv_free I5) rfl⟩
theorem l_rvt {e : Expr} {k : Nat} {p1 p2 p3 pos : Pos} (h1 : PE X e (tE X.K Wx (den cf t))) : PE X (.Subscript e (.Slice none none (some (.UnaryOp .USub (.Constant (.int 1) k p1) p2)) p3) pos) (tE X.K Wx (den cf (.rvt t))) := by
  refine peImp (pe_revT h1) fun σ H Q h => ?_
  obtain ⟨φ, Z, v, m, s, r, h⟩ := h
  refine ⟨φ, Z, v, m, s, r, (h.seq s.len).imp fun w φ1 m1 H1 _ s1 g1 h y r1 => ?_⟩
  obtain ⟨w', ew, h⟩ := h.opt
  obtain ⟨pp, e1, e2⟩ := Option.bind_eq_some_iff.mp ew
  obtain ⟨z, e3, rfl⟩ := Option.map_eq_some_iff.mp e2
  cases w with
  | d q =>
    cases e1
    cases pp with
    | tuple l =>
      simp only [rvF] at e3
      split at e3
      · rename_i hl
        cases e3
        obtain ⟨a1, vs, rfl, g1', _, k1, c1⟩ := vw_tup s1 r1 (rfl : vw m1 (.d (.tuple l)) = some (.tuple l))
        refine ⟨a1, vs, rfl, g1', by rw [DpAll.len k1]; exact hl, fun p o hp ho => ?_⟩
        obtain ⟨s2, g2, v2⟩ := s1.new hp (.frz o (.tup vs.reverse))
        exact h φ1 _ s2 g2 _ ⟨.tup ⟨o, v2, ho⟩ (dpMonoL (g2.same s1.len) _ _ (DpAll.rev k1)), by simpa [PyData.canLay0] using canL_rev c1⟩
      · cases e3
    | _ => cases e3
  | scr ns => cases e1
  | ref k => cases e1
  | exn k => cases e1
end
end MP
/-! MPHT: d.get(x, i), d a dict of the module with text keys and numbers. -/
namespace MP
open PySem PySem.Spec PyProof.Rows L2
/-- at a: a dict of the module; l: its keys and numbers -/
structure TabK (K : Fg) (w : World) (a : Addr) (l : List (String × Int)) : Prop where
  at_ : ∃ es n, KDict K w a es n
  get : ∀ s : Str, (∃ p ∈ l, Str.ofString p.1 = s ∧ l.find? (fun p => decide (Str.ofString p.1 = s)) = some p ∧ ∃ t, PySem.W.nsIn K a s = some (some (.int p.2 t))) ∨ (l.find? (fun p => decide (Str.ofString p.1 = s)) = none ∧ PySem.W.nsIn K a s = some none)
def vB (K : Fg) (a : Addr) (l : List (String × Int)) : Bool := l.all fun p => match PySem.W.nsIn K a (Str.ofString p.1) with
  | some (some (.int i _)) => decide (i = p.2)
  | _ => false
theorem keys_none {P : Params} {s : Str} : ∀ {es : List DictEntry} {ks : List Str}, es.map He.keyOf = He.keysIn P ks → s ∉ ks → es.find? (·.key.isStr s) = none ∧ es.any (·.refKey) = false
  | [], _, _, _ => ⟨rfl, rfl⟩
  | e :: r, [], h, _ => by cases h
  | e :: r, k :: ks, h, hs => by
    have h1 : He.keyOf e :: r.map He.keyOf = some (k, PyData.keyHash P k) :: He.keysIn P ks := h
    injection h1 with h2 h3
    obtain ⟨i1, i2⟩ := keys_none h3 fun q => hs (List.mem_cons_of_mem _ q)
    unfold He.keyOf at h2
    split at h2
    · rename_i x t q
      obtain ⟨h5, h6⟩ := Prod.mk.inj (Option.some.inj h2)
      have hx : x ≠ s := fun e => hs (by rw [← e, h5]; exact List.mem_cons_self ..)
      refine ⟨?_, ?_⟩
      · rw [List.find?_cons]
        have : e.key.isStr s = false := by
          rw [q]
          show (x == s) = false
          exact beq_eq_false_iff_ne.mpr hx
        rw [this]
        exact i1
      · rw [List.any_cons, i2]
        have : e.refKey = false := by
          unfold DictEntry.refKey
          rw [q]
        rw [this]; rfl
    · cases h2
theorem dic_keys {K : Fg} {a : Addr} {ks : List (Option (Str × Int))} (h : He.dicW K a = some ks) : ∃ es n, K.lookup a = some ⟨.type "dict", none, .dict es n, #[]⟩ ∧ es.toList.map He.keyOf = ks := by
  unfold He.dicW at h
  cases q : K.lookup a with
  | none =>
    rw [q] at h
    cases h
  | some o =>
    obtain ⟨oc, od, dt, osl⟩ := o
    rw [q] at h
    cases oc with
    | type c =>
      cases od with
      | none =>
        cases dt with
        | dict es n =>
          have h1 : (match decide (c = "dict") && (osl.isEmpty && !(a == sysModules)) with
            | true => some (es.toList.map He.keyOf)
            | false => none) = some ks := h
          cases z : decide (c = "dict") && (osl.isEmpty && !(a == sysModules)) with
          | false =>
            rw [z] at h1
            cases h1
          | true =>
            rw [z] at h1
            obtain ⟨z1, z2⟩ := He.ba z
            obtain ⟨z3, z4⟩ := He.ba z2
            have e1 : c = "dict" := of_decide_eq_true z1
            have e2 : osl = #[] := Array.isEmpty_iff.mp z3
            subst e1 e2
            exact ⟨es, n, rfl, Option.some.inj h1⟩
        | _ => cases h
      | some b => cases dt <;> cases h
    | _ => cases od <;> cases dt <;> cases h
theorem tabK_ok {K : Fg} {w : World} {a : Addr} {l : List (String × Int)} (h : He.dicW K a = some (He.keysIn w.params (l.map fun p => Str.ofString p.1))) (hv : vB K a l = true) : TabK K w a l := by
  refine ⟨He.dicW_ok h, fun s => ?_⟩
  cases e : l.find? (fun p => decide (Str.ofString p.1 = s)) with
  | some p =>
    have hp := List.mem_of_find?_eq_some e
    have hs : Str.ofString p.1 = s := by simpa using List.find?_some e
    refine .inl ⟨p, hp, hs, rfl, ?_⟩
    have q := List.all_eq_true.mp hv p hp
    rw [hs] at q
    split at q
    · rename_i i t q2
      rw [q2, of_decide_eq_true q]
      exact ⟨t, rfl⟩
    · cases q
  | none =>
    refine .inr ⟨rfl, ?_⟩
    obtain ⟨es, n, k1, k2⟩ := dic_keys h
    have hs : s ∉ l.map fun p => Str.ofString p.1 := fun hm => by
      obtain ⟨p, hp, rfl⟩ := List.mem_map.mp hm
      have := List.find?_eq_none.mp e p hp
      simp at this
    obtain ⟨i1, i2⟩ := keys_none k2 hs
    unfold PySem.W.nsIn
    rw [k1]
    dsimp only
    rw [i1]
    dsimp only
    rw [i2]
    rfl
section
variable {X : Cx} {Wx : WX} {e : Expr} {cf : CallF} {t : E}
def tKG (l : List (String × Int)) (ta : TA) : TE := fun σ H Q => ta σ H fun ys H1 => ∃ s i, ys = [.str s, .int i] ∧ Q (.int (tgI l i s)) H1
theorem pe_kdget {nm : String} {l : List (String × Int)} {a : Addr} {e f : Expr} {p ap cp : Pos} {ta : TA} (D : TabK X.K X.w a l) (hg : Gl X (Str.ofString nm)) (hm : X.mg (Str.ofString nm) = some (.ref a)) (hdb : (Str.ofString nm == ("__debug__" : Str)) = false)
    (h1 : noStar e = true) (h2 : noStar f = true) (hl : (ap.endLine == cp.line) = true) (ha : PA X [e, f] ta) : PE X (.Call (.Attribute (.Name (Str.ofString nm) p) "get" ap) [e, f] [] cp) (tKG l ta) := by
  have hs : starEach [e, f] X.env = (false, eval e X.env) :: (false, eval f X.env) :: starEach [] X.env := by rw [starEach_ne h1, starEach_ne h2]
  obtain ⟨es, n, KD⟩ := D.at_
  refine ⟨fun pins s σ H Q I h => ?_⟩
  refine wpAny_Call_method_late (attr_base rfl _ _ _) (by rw [hs]; rfl) hl rfl (ld_glob I hg hm ?_ hdb)
  have M := PySem.W.mapOf_K (prog := X.prog) (w := X.w) I.kIn KD.at_ KD.lit
  refine ⟨"dict", "dict.get", PySem.F.plainAttrs_dict, PySem.F.slot_dict_get, PySem.F.type_dict_get, M.typeIs, fun b eb => by cases eb; exact ⟨_, I.kIn _ _ KD.at_, rfl⟩, ?_⟩
  have hA := ha.run cp pins s σ H _ I h
  rw [hs] at hA ⊢
  refine Calls.callWith_builtin (by rfl) (Calls.evalArgs_plain ?_)
  refine thn hA fun us s2 ⟨vs, H2, I2, r2, z, i, ev, q2⟩ => ?_
  subst ev
  cases r2 with
  | cons ra r2 =>
    cases r2 with
    | cons rb r2 =>
      cases r2
      obtain ⟨t1, rfl⟩ := ra
      obtain ⟨t2, rfl⟩ := rb
      have M2 := PySem.W.mapOf_K (prog := X.prog) (w := X.w) I2.kIn KD.at_ KD.lit
      refine call_meetsIn PySem.F.slot_dict_get M2.typeIs PySem.F.entry_dict_get (PySem.F.args_dict_get_3 _ _ _) (meets_dict_get_default (strKind X.prog X.w) a (strKind_is X.prog X.w z t1) KD.low (.int i t2)) ⟨_, M2, ?_⟩
      rcases D.get z with ⟨p, _, _, e2, t, e3⟩ | ⟨e2, e3⟩
      · rw [PySem.W.find_K KD.at_ e3]
        have e4 : tgI l i z = p.2 := by unfold tgI; rw [e2]
        exact ⟨.int (tgI l i z), H2, I2.tok _, ⟨t, by rw [e4]; rfl⟩, q2⟩
      · rw [PySem.W.find_K KD.at_ e3]
        have e4 : tgI l i z = i := by unfold tgI; rw [e2]
        exact ⟨.int (tgI l i z), H2, I2.tok _, ⟨t2, by rw [e4]; rfl⟩, q2⟩
theorem l_tget {nm : String} {l : List (String × Int)} {a : Addr} {e : Expr} {i : Int} {k : Nat} {p p2 ap cp : Pos} (D : TabK X.K X.w a l) (hg : Gl X (Str.ofString nm)) (hm : X.mg (Str.ofString nm) = some (.ref a)) (hdb : (Str.ofString nm == ("__debug__" : Str)) = false)
    (h1 : noStar e = true) (hl : (ap.endLine == cp.line) = true) (he : PE X e (tE X.K Wx (den cf t))) : PE X (.Call (.Attribute (.Name (Str.ofString nm) p) "get" ap) [e, .Constant (.int i) k p2] [] cp) (tE X.K Wx (den cf (.tget nm l i t))) := by
  refine peImp (pe_kdget D hg hm hdb h1 rfl hl (pa_cons he (pa_cons pe_int pa_nil (by rfl)) (starEach_ne h1 _ _))) fun σ H Q h => ?_
  obtain ⟨φ, Z, v, m, s, r, h⟩ := h
  refine ⟨φ, Z, v, m, s, r, (h.seq s.len).imp fun w φ1 m1 H1 _ s1 g1 h y r1 => ?_⟩
  obtain ⟨w', ew, h⟩ := h.opt
  obtain ⟨pp, e1, e2⟩ := Option.bind_eq_some_iff.mp ew
  obtain ⟨z, e3, rfl⟩ := Option.map_eq_some_iff.mp e2
  cases w with
  | d q =>
    cases e1
    cases pp with
    | str s0 =>
      cases e3
      obtain ⟨dp, _⟩ := r1
      cases dp
      exact ⟨s0, i, rfl, h φ1 H1 s1 Gr.refl _ (rw_flat.1 _)⟩
    | _ => cases e3
  | scr ns => cases e1
  | ref k => cases e1
  | exn k => cases e1
end
end MP
/-! MPIA: enumerate, zip: the pairs' objects are known. -/
namespace MP
open PySem PySem.Spec PyProof.Rows L2
/-- a new pair -/
def PairAt (H : Hp) (v : V) (H' : Hp) (x y : V) : Prop := ∃ t o, v = .ref t ∧ H t = none ∧ o.dict = none ∧ H' = upd H t (.frz o (.tup [x, y]))
theorem pair_ok {P : Program} {w : World} {H : Hp} {h2 : Heap} {p : Addr} {x y : V} {a b : Value} (ra : RelV x a) (rb : RelV y b) (e : h2.get? p = some { cls := .type "tuple", data := .seq #[a, b] }) :
    ObjOk P w (upd H p (.frz (tupO [a, b]) (.tup [x, y]))) h2 p (.frz (tupO [a, b]) (.tup [x, y])) := ⟨e, by show 2 ≤ sizeLine; decide, [a, b], .cons ra (.cons rb .nil), ⟨_, e, rfl, _, rfl⟩⟩
/-- the tuple at a as it stands at each turn, each item in a new pair -/
def ItE (K : Fg) (a : Addr) : It :=
  ⟨fun i H => ∃ (zs : List V) (z : V), SqT K H a zs ∧ zs[i]? = some z, fun i H v H' => ∃ z, PairAt H v H' (.int (i : Nat)) z ∧ ∀ zs, SqT K H a zs → zs[i]? = some z, fun i H => ∃ zs : List V, SqT K H a zs ∧ zs.length ≤ i⟩
/-- .. the list at a -/
def ItL (K : Fg) (a : Addr) : It :=
  ⟨fun i H => ∃ (zs : List V) (z : V), SqL K H a zs ∧ zs[i]? = some z, fun i H v H' => ∃ z, PairAt H v H' (.int (i : Nat)) z ∧ ∀ zs, SqL K H a zs → zs[i]? = some z, fun i H => ∃ zs : List V, SqL K H a zs ∧ zs.length ≤ i⟩
/-- two lists side by side -/
def ItZ (K : Fg) (a b : Addr) : It :=
  ⟨fun i H => ∃ (xs ys : List V) (x y : V), SqL K H a xs ∧ SqL K H b ys ∧ xs[i]? = some x ∧ ys[i]? = some y, fun i H v H' => ∃ x y, PairAt H v H' x y ∧ (∀ xs, SqL K H a xs → xs[i]? = some x) ∧ ∀ ys, SqL K H b ys → ys[i]? = some y,
    fun i H => ∃ xs ys : List V, SqL K H a xs ∧ SqL K H b ys ∧ (xs.length ≤ i ∨ ys.length ≤ i)⟩
/-- two tuples side by side -/
def ItZT (K : Fg) (a b : Addr) : It :=
  ⟨fun i H => ∃ (xs ys : List V) (x y : V), SqT K H a xs ∧ SqT K H b ys ∧ xs[i]? = some x ∧ ys[i]? = some y, fun i H v H' => ∃ x y, PairAt H v H' x y ∧ (∀ xs, SqT K H a xs → xs[i]? = some x) ∧ ∀ ys, SqT K H b ys → ys[i]? = some y,
    fun i H => ∃ xs ys : List V, SqT K H a xs ∧ SqT K H b ys ∧ (xs.length ≤ i ∨ ys.length ≤ i)⟩
theorem apart_of {h : Heap} {a e it l : Addr} {i : Nat} {c : Int} {old : Value} {items : Array Value} (ht : h.IsTuple a items) (he : IsEnum h e it c old) (hi : h.IsTupleIter it l i) : a ≠ it ∧ a ≠ e := by
  obtain ⟨o, h1, h2, _⟩ := ht
  refine ⟨fun q => ?_, fun q => ?_⟩
  · subst q
    obtain ⟨o', h3, h4, _⟩ := hi
    rw [h1] at h3; cases h3
    have q := h2.symm.trans h4
    simp at q
  · subst q
    have h3 : h.get? a = some _ := he
    rw [h1] at h3; cases h3
    have q : Value.type "enumerate" = Value.type "tuple" := h2
    simp at q
theorem turn_enT {P : Program} {w : World} {K : Fg} {es : List Expr} {kk : Nat} {tp : Pos} (a e it : Addr) :
    Turn P w K (.Tuple es kk tp) (ItE K a) [e, it] e (fun i h => (∃ old, IsEnum h e it ((i : Nat) : Int) old) ∧ h.IsTupleIter it a i ∧ e ≠ it) where
  mem := by simp
  obj := fun i h ⟨⟨old, he⟩, ⟨o, ho, hc, hd⟩, _⟩ b hb => by
    simp only [List.mem_cons, List.not_mem_nil, or_false] at hb
    rcases hb with rfl | rfl
    · exact ⟨_, he, fun v q => nomatch q⟩
    · exact ⟨o, ho, fun v q => by rw [hd] at q; cases q⟩
  keep := fun i h h' ⟨⟨old, he⟩, hi, n1⟩ k => ⟨⟨old, k e (by simp) _ he⟩, hi.at fun o q => k it (by simp) o q, n1⟩
  item := fun X e1 e2 e3 hc i pins s σ H E I hf ⟨⟨old, he⟩, hit, hne⟩ ⟨zs, z, hq, hx⟩ => by
    subst e1 e2 e3
    obtain ⟨its, rv, p, hz⟩ := I.tuple hq
    obtain ⟨u, hu, ru⟩ := rv.get hx
    have ht : s.heap.IsTuple a its.toArray := p
    obtain ⟨n1, n2⟩ := apart_of ht he hit
    have lte : e < s.heap.objs.size := Heap.lt_size he
    have lti : it < s.heap.objs.size := by obtain ⟨_, q, _⟩ := hit; exact Heap.lt_size q
    have hi : i < its.toArray.size := by
      have := (List.getElem?_eq_some_iff.mp hu).1
      simpa using this
    refine wpAny_pyNext_enum_itemD (Draws.tuple (show X.A.in1.handled = none from I.ok.hd hc) it a n1 its.toArray) he ⟨hit, ht⟩ hi hne (by simp [hne, Ne.symm n2]) fun x h1 tk hP ho hst hT hsz hk => ?_
    have hxu : x = u := by
      have e4 : its.toArray[i]? = some u := by simpa using hu
      rw [e4] at hP
      exact (Option.some.inj hP).symm
    subst hxu
    refine ⟨_, rfl, wpAny_letOwnedTupleGo_enum (s := { s with heap := h1, toks := tk + 1 }) ho fun h2 he2 sb => ?_⟩
    have hT2 : h2.get? s.heap.objs.size = some { cls := .type "tuple", data := .seq #[.int i tk, x] } := (sb.2 _ (Nat.ne_of_gt lte)).trans hT
    have new := pair_ok (P := X.prog) (w := X.w) (H := H) (x := V.int (i : Nat)) (a := Value.int (i : Nat) tk) ⟨_, rfl⟩ ru hT2
    have old2 : ∀ b, b ∈ [e, it] → b < s.heap.objs.size := fun b hb => by
      simp only [List.mem_cons, List.not_mem_nil, or_false] at hb
      rcases hb with rfl | rfl <;> assumption
    have I1 := I.turnedNew (t' := tk + 1) (ch := [e, it]) (fun b ob hb q => (sb.2 b (fun w => hb (by simp [w]))).trans (hk b ob (fun w => hb (by simp [w])) (fun w => hb (by simp [w])) q)) hf (Nat.le_refl _) new
    refine ⟨.ref s.heap.objs.size, _, I1, rfl, ⟨z, ⟨_, _, rfl, I.hok.fresh (Nat.le_refl _), rfl, rfl⟩, fun ys hy => by rw [I.tuple_inj hy hq]; exact hx⟩, ⟨⟨x, ?_⟩, hst.1.at fun o q => (sb.2 it (Ne.symm hne)).trans q, hne⟩, fun b hb => ?_⟩
    · have e4 : ((i + 1 : Nat) : Int) = (i : Int) + 1 := by omega
      rw [e4]; exact he2
    · rw [upd_ne (Nat.ne_of_lt (old2 b hb))]
      exact (hf b hb).1
  done := fun X e1 e2 e3 hc i pins s σ H E I hf ⟨⟨old, he⟩, hit, hne⟩ ⟨zs, hq, hx⟩ => by
    subst e1 e2 e3
    obtain ⟨its, rv, p, hz⟩ := I.tuple hq
    have ht : s.heap.IsTuple a its.toArray := p
    obtain ⟨n1, n2⟩ := apart_of ht he hit
    obtain ⟨f0, f1, f2, f3, f4, f5⟩ := hf it (by simp)
    have hl := rv.length
    have D : Draws X.prog X.w X.A.in1 it [it, a] i (fun j v => its.toArray[j]? = some v) (fun j h => h.IsTupleIter it a j ∧ h.IsTuple a its.toArray ∧ j = i) :=
      { live := fun _ _ st => let ⟨o, ho, _⟩ := st.1; ⟨o, ho⟩
        frame := fun _ _ _ st hk => ⟨st.1.at fun o e => hk it (by simp) o e, st.2.1.at fun o e => hk a (by simp) o e, st.2.2⟩
        item := fun j s Q E hj st _ => absurd st.2.2 (Nat.ne_of_lt hj)
        done := fun s Q E st hE => wpAny_nextOf_tuple_end (show X.A.in1.handled = none from I.ok.hd hc) st.1 st.2.1 (by simp; omega) hE }
    exact wpAny_pyNext_enum_endD D he ⟨hit, ht, rfl⟩ fun h' eb => ⟨rfl, I.turned (t' := s.toks) (fun b o hb q => eb b o hb q) f0 f1 f3 f4 f5⟩
  self := fun A i s Q E ⟨⟨_, he⟩, _⟩ h => wpAny_pyIter_enum he h
open AutoSeq1 (wpAny_loadPart')
theorem meets_enT (l : Addr) (items : Array Value) (n : Nat) (dc : Option Addr) (sl : Array (Option Value)) : Meets (Builtin.«enumerate.__new__» ⟨[.type "enumerate", .ref l], []⟩) (fun _ R s => s.heap.get? l = some { cls := .type "tuple", dict := dc, data := .seq items n, slots := sl } ∧
      R (.ok (.ret (.ref (s.heap.push { cls := .type "tuple_iterator", data := .fields #[.ref l, .int 0 0] }).objs.size)))
        { s with heap := (s.heap.push { cls := .type "tuple_iterator", data := .fields #[.ref l, .int 0 0] }).push { cls := .type "enumerate", data := .fields #[.none, .bool false, .ref s.heap.objs.size, rawInt 0, .none, .none] } }) :=
  .of_wp fun pr wo Ar R s k => by
    obtain ⟨hp, gg, dd, tt, oo⟩ := s
    obtain ⟨hT, k⟩ := k
    have hsub := sub_enumerate
    have hI : Heap.IsTuple hp l items := ⟨_, hT, rfl, n, rfl⟩
    have it : ∀ {A' : Around} {E : Value → Shared → Prop} {Q : Value → Shared → Prop}, Q (.ref hp.objs.size) ⟨hp.push { cls := .type "tuple_iterator", data := .fields #[.ref l, .int 0 0] }, gg, dd, tt, oo⟩ → wpAny (model pr wo) A' (pyIter (.ref l)) Q E ⟨hp, gg, dd, tt, oo⟩ := fun q => wpAny_pyIter_tuple hI q
    wp_walk using wpAny_loadPart' hT
    refine wpAny_stack_any fun st => wpAny_pure ?_
    split
    · rename_i c _ _ _ _ _
      cases (c == Value.type "enumerate") <;> (wp_walk using wpAny_loadPart' hT, it; exact ⟨_, rfl, k⟩)
    · wp_walk using wpAny_loadPart' hT, it
      exact ⟨_, rfl, k⟩
theorem call_enT {pr : Program} {wo : World} {Ar : Around} {E : Value → Shared → Prop} {s : Shared} {l : Addr} {items : Array Value} {Q : Value → Shared → Prop} (hL : s.heap.IsTuple l items)
    (h : ∀ h1, IsEnum h1 (s.heap.objs.size + 1) s.heap.objs.size 0 .none → h1.IsTupleIter s.heap.objs.size l 0 → (∀ b o, s.heap.get? b = some o → h1.get? b = some o) → Q (.ref (s.heap.objs.size + 1)) { s with heap := h1 }) :
    wpAny (model pr wo) Ar (call (.type "enumerate") [.ref l]) Q E s := by
  obtain ⟨⟨c, dc, dt, sl⟩, hl, hc, n, hd⟩ := hL
  have hc : c = .type "tuple" := hc
  have hd : dt = .seq items n := hd
  subst hc hd
  refine callType_new F.called_enumerate (by decide) (F.typeCall_enumerate_1 _) (F.newCall_enumerate_1 _) (fun obj => F.args_object_init_2 obj _) F.entry_enumerate_new (meets_enT l items n dc sl) ⟨hl, ?_⟩
  have z1 : (s.heap.push { cls := .type "tuple_iterator", data := .fields #[.ref l, .int 0 0] }).objs.size = s.heap.objs.size + 1 := Heap.size_push ..
  show _ ∧ _
  rw [z1]
  have he : IsEnum ((s.heap.push { cls := .type "tuple_iterator", data := .fields #[.ref l, .int 0 0] }).push { cls := .type "enumerate", data := .fields #[.none, .bool false, .ref s.heap.objs.size, rawInt 0, .none, .none] }) (s.heap.objs.size + 1) s.heap.objs.size 0 .none := by
    have q := Heap.get?_push_size (s.heap.push { cls := .type "tuple_iterator", data := .fields #[.ref l, .int 0 0] }) (o := { cls := .type "enumerate", data := .fields #[.none, .bool false, .ref s.heap.objs.size, rawInt 0, .none, .none] }) rfl
    rw [z1] at q; exact q
  exact ⟨⟨_, he, rfl⟩, h _ he ⟨_, Heap.get?_push_of_some _ (Heap.get?_push_size _ rfl), rfl, rfl⟩ fun b o x => Heap.get?_push_of_some _ (Heap.get?_push_of_some _ x)⟩
theorem turn_enL {P : Program} {w : World} {K : Fg} {es : List Expr} {kk : Nat} {tp : Pos} (a e it : Addr) :
    Turn P w K (.Tuple es kk tp) (ItL K a) [e, it] e (fun i h => (∃ old, IsEnum h e it ((i : Nat) : Int) old) ∧ h.IsListIter it a i ∧ e ≠ it) where
  mem := by simp
  obj := fun i h ⟨⟨old, he⟩, ⟨o, ho, hc, hd⟩, _⟩ b hb => by
    simp only [List.mem_cons, List.not_mem_nil, or_false] at hb
    rcases hb with rfl | rfl
    · exact ⟨_, he, fun v q => nomatch q⟩
    · exact ⟨o, ho, fun v q => by rw [hd] at q; cases q⟩
  keep := fun i h h' ⟨⟨old, he⟩, hi, n1⟩ k => ⟨⟨old, k e (by simp) _ he⟩, hi.at fun o q => k it (by simp) o q, n1⟩
  item := fun X e1 e2 e3 hc i pins s σ H E I hf ⟨⟨old, he⟩, hit, hne⟩ ⟨zs, z, hq, hx⟩ => by
    subst e1 e2 e3
    obtain ⟨its, rv, p, _⟩ := I.list hq
    obtain ⟨u, hu, ru⟩ := rv.get hx
    have lte : e < s.heap.objs.size := Heap.lt_size he
    have lti : it < s.heap.objs.size := by obtain ⟨_, q, _⟩ := hit; exact Heap.lt_size q
    refine wpAny_pyNext_enum_item he hit p.isList (x := u) (by simpa using hu) hne fun h1 ho hst hT hsz hk => ⟨_, rfl, wpAny_letOwnedTupleGo_enum (s := { s with heap := h1, toks := s.toks + 1 }) ho fun h2 he2 sb => ?_⟩
    have hT2 := (sb.2 _ (Nat.ne_of_gt lte)).trans hT
    have new := pair_ok (P := X.prog) (w := X.w) (H := H) (x := V.int (i : Nat)) ⟨_, rfl⟩ ru hT2
    have old2 : ∀ b, b ∈ [e, it] → b < s.heap.objs.size := fun b hb => by
      simp only [List.mem_cons, List.not_mem_nil, or_false] at hb
      rcases hb with rfl | rfl <;> assumption
    have I1 := I.turnedNew (t' := s.toks + 1) (ch := [e, it]) (fun b ob hb q => (sb.2 b (fun w => hb (by simp [w]))).trans (hk b ob (fun w => hb (by simp [w])) (fun w => hb (by simp [w])) q)) hf (Nat.le_refl _) new
    refine ⟨.ref s.heap.objs.size, _, I1, rfl, ⟨z, ⟨_, _, rfl, I.hok.fresh (Nat.le_refl _), rfl, rfl⟩, fun ys hy => by rw [I.list_inj hy hq]; exact hx⟩, ⟨⟨u, ?_⟩, hst.at fun o q => (sb.2 it (Ne.symm hne)).trans q, hne⟩, fun b hb => ?_⟩
    · have e4 : ((i + 1 : Nat) : Int) = (i : Int) + 1 := by omega
      rw [e4]; exact he2
    · rw [upd_ne (Nat.ne_of_lt (old2 b hb))]
      exact (hf b hb).1
  done := fun X e1 e2 e3 hc i pins s σ H E I hf ⟨⟨old, he⟩, hit, hne⟩ ⟨zs, hq, hx⟩ => by
    subst e1 e2 e3
    obtain ⟨its, rv, p, _⟩ := I.list hq
    have hl := rv.length
    obtain ⟨f0, f1, f2, f3, f4, f5⟩ := hf it (by simp)
    exact wpAny_pyNext_enum_end (I.ok.hd hc) he hit p.isList (by simp; omega) fun h1 eb => ⟨rfl, I.turned (t' := s.toks) (fun b o hb q => eb b o hb q) f0 f1 f3 f4 f5⟩
  self := fun A i s Q E ⟨⟨_, he⟩, _⟩ h => wpAny_pyIter_enum he h
theorem five {c z1 z2 z3 z4 z5 : Addr} (h : c ∈ [z1, z2, z3, z4, z5]) : c = z1 ∨ c = z2 ∨ c = z3 ∨ c = z4 ∨ c = z5 := by simpa using h
theorem turn_zL {P : Program} {w : World} {K : Fg} {es : List Expr} {kk : Nat} {tp : Pos} {a b z TI TO i1 i2 : Addr} (D : ZipApart z TI TO i1 i2 a b) :
    Turn P w K (.Tuple es kk tp) (ItZ K a b) [z, TI, TO, i1, i2] z (fun i h => IsZip h z TI TO .none ∧ IsPair h TI (.ref i1) (.ref i2) ∧ (∃ x y, IsPair h TO x y) ∧ h.IsListIter i1 a i ∧ h.IsListIter i2 b i) where
  mem := by simp
  obj := fun i h ⟨hz, hTI, ⟨x, y, hTO⟩, ⟨o1, e1, _, d1⟩, ⟨o2, e2, _, d2⟩⟩ c hc => by
    rcases five hc with rfl | rfl | rfl | rfl | rfl
    · exact ⟨_, hz, fun v q => nomatch q⟩
    · exact ⟨_, hTI, fun v q => nomatch q⟩
    · exact ⟨_, hTO, fun v q => nomatch q⟩
    · exact ⟨o1, e1, fun v q => by rw [d1] at q; cases q⟩
    · exact ⟨o2, e2, fun v q => by rw [d2] at q; cases q⟩
  keep := fun i h h' ⟨hz, hTI, ⟨x, y, hTO⟩, h1, h2⟩ k =>
    ⟨k z (by simp) _ hz, k TI (by simp) _ hTI, ⟨x, y, k TO (by simp) _ hTO⟩, h1.at fun o q => k i1 (by simp) o q, h2.at fun o q => k i2 (by simp) o q⟩
  item := fun X e1 e2 e3 hc i pins s σ H E I hf ⟨hz, hTI, ⟨x0, y0, hTO⟩, h1, h2⟩ ⟨xs, ys, x, y, hqx, hqy, hx, hy⟩ => by
    subst e1 e2 e3
    obtain ⟨its, rv, p, _⟩ := I.list hqx
    obtain ⟨its2, rv2, p2, _⟩ := I.list hqy
    obtain ⟨u, hu, ru⟩ := rv.get hx
    obtain ⟨u2, hu2, ru2⟩ := rv2.get hy
    refine wpAny_pyNext_zip_item D hz hTI hTO h1 h2 p.isList p2.isList (x := u) (y := u2) (by simpa using hu) (by simpa using hu2) fun g1 z1 TO1 j1 j2 hT hsz hk => ⟨_, rfl, wpAny_letOwnedTupleGo_zip (s := { s with heap := g1 }) z1 fun g2 z2 sb => ?_⟩
    have hT2 := (sb.2 _ (Nat.ne_of_gt (Heap.lt_size hz))).trans hT
    have new := pair_ok (P := X.prog) (w := X.w) (H := H) ru ru2 hT2
    have I1 := I.turnedNew (t' := s.toks) (ch := [z, TI, TO, i1, i2]) (fun c o hb q => (sb.2 c fun e => hb (by simp [e])).trans (hk c o (fun e => hb (by simp [e])) (fun e => hb (by simp [e])) (fun e => hb (by simp [e])) (fun e => hb (by simp [e])) q)) hf (Nat.le_refl _) new
    refine ⟨.ref s.heap.objs.size, _, I1, rfl, ⟨x, y, ⟨_, _, rfl, I.hok.fresh (Nat.le_refl _), rfl, rfl⟩, fun l hl => by rw [I.list_inj hl hqx]; exact hx, fun l hl => by rw [I.list_inj hl hqy]; exact hy⟩, ⟨z2, (sb.2 _ D.TIz).trans (hk _ _ D.TIz D.TITO D.TIi1 D.TIi2 hTI), ⟨u, u2, (sb.2 _ D.TOz).trans TO1⟩, j1.at fun o q => (sb.2 _ D.i1z).trans q, j2.at fun o q => (sb.2 _ D.i2z).trans q⟩, fun c hcm => ?_⟩
    have lt : c < s.heap.objs.size := by
      rcases five hcm with rfl | rfl | rfl | rfl | rfl
      · exact Heap.lt_size hz
      · exact Heap.lt_size hTI
      · exact Heap.lt_size hTO
      · obtain ⟨_, q, _⟩ := h1; exact Heap.lt_size q
      · obtain ⟨_, q, _⟩ := h2; exact Heap.lt_size q
    rw [upd_ne (Nat.ne_of_lt lt)]
    exact (hf c hcm).1
  done := fun X e1 e2 e3 hc i pins s σ H E I hf ⟨hz, hTI, ⟨x0, y0, hTO⟩, h1, h2⟩ ⟨xs, ys, hqx, hqy, hend⟩ => by
    subst e1 e2 e3
    obtain ⟨its, rv, p, _⟩ := I.list hqx
    obtain ⟨its2, rv2, p2, _⟩ := I.list hqy
    have l1 := rv.length
    have l2 := rv2.length
    have he : its.toArray[i]? = none ∨ its2.toArray[i]? = none := hend.imp (fun q => by simp; omega) fun q => by simp; omega
    exact wpAny_pyNext_zip_end (I.ok.hd hc) D hz hTI hTO h1 h2 p.isList p2.isList he fun g hk => ⟨rfl, I.turnedL (t' := s.toks) (ch := [z, TI, TO, i1, i2]) (fun c o hb q =>
      hk c o (fun e => hb (by simp [e])) (fun e => hb (by simp [e])) (fun e => hb (by simp [e])) (fun e => hb (by simp [e])) q) hf⟩
  self := fun A i s Q E st h => wpAny_pyIter_zip st.1 h
theorem turn_zT {P : Program} {w : World} {K : Fg} {es : List Expr} {kk : Nat} {tp : Pos} {a b z TI TO i1 i2 : Addr} (D : ZipApart z TI TO i1 i2 a b) :
    Turn P w K (.Tuple es kk tp) (ItZT K a b) [z, TI, TO, i1, i2] z (fun i h => IsZip h z TI TO .none ∧ IsPair h TI (.ref i1) (.ref i2) ∧ (∃ x y, IsPair h TO x y) ∧ h.IsTupleIter i1 a i ∧ h.IsTupleIter i2 b i) where
  mem := by simp
  obj := fun i h ⟨hz, hTI, ⟨x, y, hTO⟩, ⟨o1, e1, _, d1⟩, ⟨o2, e2, _, d2⟩⟩ c hc => by
    rcases five hc with rfl | rfl | rfl | rfl | rfl
    · exact ⟨_, hz, fun v q => nomatch q⟩
    · exact ⟨_, hTI, fun v q => nomatch q⟩
    · exact ⟨_, hTO, fun v q => nomatch q⟩
    · exact ⟨o1, e1, fun v q => by rw [d1] at q; cases q⟩
    · exact ⟨o2, e2, fun v q => by rw [d2] at q; cases q⟩
  keep := fun i h h' ⟨hz, hTI, ⟨x, y, hTO⟩, h1, h2⟩ k =>
    ⟨k z (by simp) _ hz, k TI (by simp) _ hTI, ⟨x, y, k TO (by simp) _ hTO⟩, h1.at fun o q => k i1 (by simp) o q, h2.at fun o q => k i2 (by simp) o q⟩
  item := fun X e1 e2 e3 hc i pins s σ H E I hf ⟨hz, hTI, ⟨x0, y0, hTO⟩, h1, h2⟩ ⟨xs, ys, x, y, hqx, hqy, hx, hy⟩ => by
    subst e1 e2 e3
    obtain ⟨its, rv, p, _⟩ := I.tuple hqx
    obtain ⟨its2, rv2, p2, _⟩ := I.tuple hqy
    obtain ⟨u, hu, ru⟩ := rv.get hx
    obtain ⟨u2, hu2, ru2⟩ := rv2.get hy
    refine RZ.pyNext_zipT_item D hz hTI hTO h1 h2 p p2 (x := u) (y := u2) (by simpa using hu) (by simpa using hu2) fun g1 z1 TO1 j1 j2 hT hsz hk => ⟨_, rfl, wpAny_letOwnedTupleGo_zip (s := { s with heap := g1 }) z1 fun g2 z2 sb => ?_⟩
    have hT2 := (sb.2 _ (Nat.ne_of_gt (Heap.lt_size hz))).trans hT
    have new := pair_ok (P := X.prog) (w := X.w) (H := H) ru ru2 hT2
    have I1 := I.turnedNew (t' := s.toks) (ch := [z, TI, TO, i1, i2]) (fun c o hb q => (sb.2 c fun e => hb (by simp [e])).trans (hk c o (fun e => hb (by simp [e])) (fun e => hb (by simp [e])) (fun e => hb (by simp [e])) (fun e => hb (by simp [e])) q)) hf (Nat.le_refl _) new
    refine ⟨.ref s.heap.objs.size, _, I1, rfl, ⟨x, y, ⟨_, _, rfl, I.hok.fresh (Nat.le_refl _), rfl, rfl⟩, fun l hl => by rw [I.tuple_inj hl hqx]; exact hx, fun l hl => by rw [I.tuple_inj hl hqy]; exact hy⟩, ⟨z2, (sb.2 _ D.TIz).trans (hk _ _ D.TIz D.TITO D.TIi1 D.TIi2 hTI), ⟨u, u2, (sb.2 _ D.TOz).trans TO1⟩, j1.at fun o q => (sb.2 _ D.i1z).trans q, j2.at fun o q => (sb.2 _ D.i2z).trans q⟩, fun c hcm => ?_⟩
    have lt : c < s.heap.objs.size := by
      rcases five hcm with rfl | rfl | rfl | rfl | rfl
      · exact Heap.lt_size hz
      · exact Heap.lt_size hTI
      · exact Heap.lt_size hTO
      · obtain ⟨_, q, _⟩ := h1; exact Heap.lt_size q
      · obtain ⟨_, q, _⟩ := h2; exact Heap.lt_size q
    rw [upd_ne (Nat.ne_of_lt lt)]
    exact (hf c hcm).1
  done := fun X e1 e2 e3 hc i pins s σ H E I hf ⟨hz, hTI, ⟨x0, y0, hTO⟩, h1, h2⟩ ⟨xs, ys, hqx, hqy, hend⟩ => by
    subst e1 e2 e3
    obtain ⟨its, rv, p, _⟩ := I.tuple hqx
    obtain ⟨its2, rv2, p2, _⟩ := I.tuple hqy
    have l1 := rv.length
    have l2 := rv2.length
    have he : its.toArray[i]? = none ∨ its2.toArray[i]? = none := hend.imp (fun q => by simp; omega) fun q => by simp; omega
    exact RZ.pyNext_zipT_end (I.ok.hd hc) D hz hTI hTO h1 h2 p p2 he fun g hk => ⟨rfl, I.turnedL (t' := s.toks) (ch := [z, TI, TO, i1, i2]) (fun c o hb q =>
      hk c o (fun e => hb (by simp [e])) (fun e => hb (by simp [e])) (fun e => hb (by simp [e])) (fun e => hb (by simp [e])) q) hf⟩
  self := fun A i s Q E st h => wpAny_pyIter_zip st.1 h
/-- a list beside a tuple -/
def ItZM (K : Fg) (a b : Addr) : It :=
  ⟨fun i H => ∃ (xs ys : List V) (x y : V), SqL K H a xs ∧ SqT K H b ys ∧ xs[i]? = some x ∧ ys[i]? = some y, fun i H v H' => ∃ x y, PairAt H v H' x y ∧ (∀ xs, SqL K H a xs → xs[i]? = some x) ∧ ∀ ys, SqT K H b ys → ys[i]? = some y,
    fun i H => ∃ xs ys : List V, SqL K H a xs ∧ SqT K H b ys ∧ (xs.length ≤ i ∨ ys.length ≤ i)⟩
/-- the cells of such a zip lie apart -/
structure ApM (z TI TO i1 i2 a b : Addr) : Prop where
  d : ZipApart z TI TO i1 i2 a b
theorem ApM.sep {z TI TO i1 i2 a b : Addr} (D : ZipApart z TI TO i1 i2 a b) : ZipSep2 z TI TO i1 i2 [i1, a] [i2, b] where
  TIz := D.TIz
  TOz := D.TOz
  TITO := D.TITO
  TIi1 := D.TIi1
  mem1 := by simp
  zf1 := by simp [D.i1z.symm, D.l1z.symm]
  Tf1 := by simp [D.TOi1, D.l1TO.symm]
  TIi2 := D.TIi2
  mem2 := by simp
  zf2 := by simp [D.i2z.symm, D.l2z.symm]
  Tf2 := by simp [D.TOi2, D.l2TO.symm]
  sep1_2 := by simp [D.i12, D.l2i1.symm]
  sep2_1 := by simp [D.i12.symm, D.l1i2.symm]
theorem drawL {P : Program} {w : World} {A : Around} (hh : A.handled = none) (it l : Addr) (hne : l ≠ it) (items : Array Value) (i : Nat) :
    ∃ (n : Nat) (Pr : Nat → Value → Prop) (St : Nat → Heap → Prop), Draws P w A it [it, l] n Pr St ∧ i ≤ n ∧ (items.size ≤ i → i = n) ∧ ∀ h : Heap, h.IsListIter it l i → h.IsList l items → St i h := by
  by_cases hi : items.size ≤ i
  · exact ⟨i, fun _ _ => True, fun j h => h.IsListIter it l i ∧ h.IsList l items ∧ j = i,
      { live := fun _ _ st => let ⟨o, ho, _⟩ := st.1; ⟨o, ho⟩
        frame := fun _ _ _ st hk => ⟨st.1.at fun o e => hk it (by simp) o e, st.2.1.at fun o e => hk l (by simp) o e, st.2.2⟩
        item := fun j s Q E hj st _ => absurd st.2.2 (Nat.ne_of_lt hj)
        done := fun s Q E st hE => wpAny_nextOf_list_end hh st.1 st.2.1 (by simp; omega) hE }, Nat.le_refl _, fun _ => rfl, fun h h1 h2 => ⟨h1, h2, rfl⟩⟩
  · exact ⟨_, _, _, Draws.list hh it l hne items, by omega, fun q => absurd q hi, fun h h1 h2 => ⟨h1, h2⟩⟩
theorem drawT {P : Program} {w : World} {A : Around} (hh : A.handled = none) (it l : Addr) (hne : l ≠ it) (items : Array Value) (i : Nat) :
    ∃ (n : Nat) (Pr : Nat → Value → Prop) (St : Nat → Heap → Prop), Draws P w A it [it, l] n Pr St ∧ i ≤ n ∧ (items.size ≤ i → i = n) ∧ ∀ h : Heap, h.IsTupleIter it l i → h.IsTuple l items → St i h := by
  by_cases hi : items.size ≤ i
  · exact ⟨i, fun _ _ => True, fun j h => h.IsTupleIter it l i ∧ h.IsTuple l items ∧ j = i,
      { live := fun _ _ st => let ⟨o, ho, _⟩ := st.1; ⟨o, ho⟩
        frame := fun _ _ _ st hk => ⟨st.1.at fun o e => hk it (by simp) o e, st.2.1.at fun o e => hk l (by simp) o e, st.2.2⟩
        item := fun j s Q E hj st _ => absurd st.2.2 (Nat.ne_of_lt hj)
        done := fun s Q E st hE => wpAny_nextOf_tuple_end hh st.1 st.2.1 (by simp; omega) hE }, Nat.le_refl _, fun _ => rfl, fun h h1 h2 => ⟨h1, h2, rfl⟩⟩
  · exact ⟨_, _, _, Draws.tuple hh it l hne items, by omega, fun q => absurd q hi, fun h h1 h2 => ⟨h1, h2⟩⟩
theorem turn_zM {P : Program} {w : World} {K : Fg} {es : List Expr} {kk : Nat} {tp : Pos} {a b z TI TO i1 i2 : Addr} (D : ZipApart z TI TO i1 i2 a b) :
    Turn P w K (.Tuple es kk tp) (ItZM K a b) [z, TI, TO, i1, i2] z (fun i h => IsZip h z TI TO .none ∧ IsPair h TI (.ref i1) (.ref i2) ∧ (∃ x y, IsPair h TO x y) ∧ h.IsListIter i1 a i ∧ h.IsTupleIter i2 b i) where
  mem := by simp
  obj := fun i h ⟨hz, hTI, ⟨x, y, hTO⟩, ⟨o1, e1, _, d1⟩, ⟨o2, e2, _, d2⟩⟩ c hc => by
    rcases five hc with rfl | rfl | rfl | rfl | rfl
    · exact ⟨_, hz, fun v q => nomatch q⟩
    · exact ⟨_, hTI, fun v q => nomatch q⟩
    · exact ⟨_, hTO, fun v q => nomatch q⟩
    · exact ⟨o1, e1, fun v q => by rw [d1] at q; cases q⟩
    · exact ⟨o2, e2, fun v q => by rw [d2] at q; cases q⟩
  keep := fun i h h' ⟨hz, hTI, ⟨x, y, hTO⟩, h1, h2⟩ k =>
    ⟨k z (by simp) _ hz, k TI (by simp) _ hTI, ⟨x, y, k TO (by simp) _ hTO⟩, h1.at fun o q => k i1 (by simp) o q, h2.at fun o q => k i2 (by simp) o q⟩
  item := fun X e1 e2 e3 hc i pins s σ H E I hf ⟨hz, hTI, ⟨x0, y0, hTO⟩, h1, h2⟩ ⟨xs, ys, x, y, hqx, hqy, hx, hy⟩ => by
    subst e1 e2 e3
    obtain ⟨its, rv, p, _⟩ := I.list hqx
    obtain ⟨its2, rv2, p2, _⟩ := I.tuple hqy
    obtain ⟨u, hu, ru⟩ := rv.get hx
    obtain ⟨u2, hu2, ru2⟩ := rv2.get hy
    have hu' : its.toArray[i]? = some u := by simpa using hu
    have hu2' : its2.toArray[i]? = some u2 := by simpa using hu2
    have n1 : i < its.toArray.size := (Array.getElem?_eq_some_iff.mp hu').1
    have n2 : i < its2.toArray.size := (Array.getElem?_eq_some_iff.mp hu2').1
    refine wpAny_pyNext_zipD2_item (ApM.sep D) (Draws.list (show X.A.in1.handled = none from I.ok.hd hc) i1 a D.l1i1 its.toArray) (Draws.tuple (show X.A.in1.handled = none from I.ok.hd hc) i2 b D.l2i2 its2.toArray) hz hTI hTO ⟨h1, p.isList⟩ ⟨h2, p2⟩ n1 n2
      fun v1 v2 g1 tk y1 y2 z1 TO1 j1 j2 hT hsz hk => ?_
    rw [hu'] at y1
    rw [hu2'] at y2
    obtain rfl := Option.some.inj y1
    obtain rfl := Option.some.inj y2
    refine ⟨_, rfl, wpAny_letOwnedTupleGo_zip (s := { s with heap := g1, toks := tk }) z1 fun g2 z2 sb => ?_⟩
    have hT2 := (sb.2 _ (Nat.ne_of_gt (Heap.lt_size hz))).trans hT
    have new := pair_ok (P := X.prog) (w := X.w) (H := H) ru ru2 hT2
    have I1 := I.turnedNew (t' := tk) (ch := [z, TI, TO, i1, i2]) (fun c o hb q => (sb.2 c fun e => hb (by simp [e])).trans (hk c o (fun e => hb (by simp [e])) (fun e => hb (by simp [e])) (fun e => hb (by simp [e])) (fun e => hb (by simp [e])) q)) hf (Nat.le_refl _) new
    refine ⟨.ref s.heap.objs.size, _, I1, rfl, ⟨x, y, ⟨_, _, rfl, I.hok.fresh (Nat.le_refl _), rfl, rfl⟩, fun l hl => by rw [I.list_inj hl hqx]; exact hx, fun l hl => by rw [I.tuple_inj hl hqy]; exact hy⟩, ⟨z2, (sb.2 _ D.TIz).trans (hk _ _ D.TIz D.TITO D.TIi1 D.TIi2 hTI), ⟨_, _, (sb.2 _ D.TOz).trans TO1⟩, j1.1.at fun o q => (sb.2 _ D.i1z).trans q, j2.1.at fun o q => (sb.2 _ D.i2z).trans q⟩, fun c hcm => ?_⟩
    have lt : c < s.heap.objs.size := by
      rcases five hcm with rfl | rfl | rfl | rfl | rfl
      · exact Heap.lt_size hz
      · exact Heap.lt_size hTI
      · exact Heap.lt_size hTO
      · obtain ⟨_, q, _⟩ := h1; exact Heap.lt_size q
      · obtain ⟨_, q, _⟩ := h2; exact Heap.lt_size q
    rw [upd_ne (Nat.ne_of_lt lt)]
    exact (hf c hcm).1
  done := fun X e1 e2 e3 hc i pins s σ H E I hf ⟨hz, hTI, ⟨x0, y0, hTO⟩, h1, h2⟩ ⟨xs, ys, hqx, hqy, hend⟩ => by
    subst e1 e2 e3
    obtain ⟨its, rv, p, _⟩ := I.list hqx
    obtain ⟨its2, rv2, p2, _⟩ := I.tuple hqy
    have l1 := rv.length
    have l2 := rv2.length
    obtain ⟨n1, P1, S1, D1, q1, r1, t1⟩ := drawL (P := X.prog) (w := X.w) (A := X.A.in1) (show X.A.in1.handled = none from I.ok.hd hc) i1 a D.l1i1 its.toArray i
    obtain ⟨n2, P2, S2, D2, q2, r2, t2⟩ := drawT (P := X.prog) (w := X.w) (A := X.A.in1) (show X.A.in1.handled = none from I.ok.hd hc) i2 b D.l2i2 its2.toArray i
    have he : i = n1 ∨ i = n2 := hend.imp (fun q => r1 (by simp; omega)) fun q => r2 (by simp; omega)
    exact wpAny_pyNext_zipD2_end (ApM.sep D) D1 D2 hz hTI hTO (t1 _ h1 p.isList) (t2 _ h2 p2) q1 q2 he fun g tk hk => ⟨rfl, I.turnedL (t' := tk) (ch := [z, TI, TO, i1, i2]) (fun c o hb q =>
      hk c o (fun e => hb (by simp [e])) (fun e => hb (by simp [e])) (fun e => hb (by simp [e])) (fun e => hb (by simp [e])) q) hf⟩
  self := fun A i s Q E st h => wpAny_pyIter_zip st.1 h
abbrev zm1 (h : Heap) (l1 : Addr) : Heap := h.push { cls := .type "list_iterator", data := .fields #[.ref l1, .int 0 0] }
abbrev zm2 (h : Heap) (l1 l2 : Addr) : Heap := (zm1 h l1).push { cls := .type "tuple_iterator", data := .fields #[.ref l2, .int 0 0] }
abbrev zm3 (h : Heap) (l1 l2 : Addr) : Heap := (zm2 h l1 l2).push { cls := .type "tuple", data := .seq #[.ref h.objs.size, .ref (zm1 h l1).objs.size] }
abbrev zm4 (h : Heap) (l1 l2 : Addr) : Heap := (zm3 h l1 l2).push { cls := .type "tuple", data := .seq #[.none, .none] }
abbrev zm5 (h : Heap) (l1 l2 : Addr) : Heap := (zm4 h l1 l2).push { cls := .type "zip", data := .fields #[.none, .bool false, .bool false, .ref (zm2 h l1 l2).objs.size, .ref (zm3 h l1 l2).objs.size] }
theorem meets_zM (a b : Addr) (xs ys : Array Value) : Meets (Builtin.«zip.__new__» ⟨[.type "zip", .ref a, .ref b], []⟩) (fun _ R s => s.heap.IsList a xs ∧ s.heap.IsTuple b ys ∧ R (.ok (.ret (.ref (zm4 s.heap a b).objs.size))) { s with heap := zm5 s.heap a b }) :=
  .of_wp fun pr wo Ar R s k => by
    obtain ⟨hp, gg, dd, tt, oo⟩ := s
    obtain ⟨ka, kb, k⟩ := k
    have hsub := sub_zip
    have La : Heap.IsList (Shared.heap ⟨hp, gg, dd, tt, oo⟩) a xs := ka
    have Lb : Heap.IsTuple (Shared.heap ⟨hp.push { cls := .type "list_iterator", data := .fields #[.ref a, .int 0 0] }, gg, dd, tt, oo⟩) b ys := Heap.IsTuple.push kb _
    wp_walk using wpAny_pyIter_list La, wpAny_pyIter_tuple Lb
    exact ⟨_, rfl, k⟩
theorem call_zM {pr : Program} {wo : World} {Ar : Around} {E : Value → Shared → Prop} {s : Shared} {a b : Addr} {xs ys : Array Value} {Q : Value → Shared → Prop} (ka : s.heap.IsList a xs) (kb : s.heap.IsTuple b ys)
    (h : ∀ g, IsZip g (s.heap.objs.size + 4) (s.heap.objs.size + 2) (s.heap.objs.size + 3) .none → IsPair g (s.heap.objs.size + 2) (.ref s.heap.objs.size) (.ref (s.heap.objs.size + 1)) → IsPair g (s.heap.objs.size + 3) .none .none →
      g.IsListIter s.heap.objs.size a 0 → g.IsTupleIter (s.heap.objs.size + 1) b 0 → (∀ c o, s.heap.get? c = some o → g.get? c = some o) → Q (.ref (s.heap.objs.size + 4)) { s with heap := g }) :
    wpAny (model pr wo) Ar (call (.type "zip") [.ref a, .ref b]) Q E s := by
  refine callType_new F.called_zip (by decide) (F.typeCall_zip_2 _ _) (F.newCall_zip_2 _ _) (fun obj => F.args_object_init_3 obj _ _) F.entry_zip_new (meets_zM a b xs ys) ⟨ka, kb, ?_⟩
  have s1 : (zm1 s.heap a).objs.size = s.heap.objs.size + 1 := Heap.size_push ..
  have s2 : (zm2 s.heap a b).objs.size = s.heap.objs.size + 2 := by rw [Heap.size_push, s1]
  have s3 : (zm3 s.heap a b).objs.size = s.heap.objs.size + 3 := by rw [Heap.size_push, s2]
  have s4 : (zm4 s.heap a b).objs.size = s.heap.objs.size + 4 := by rw [Heap.size_push, s3]
  have k5 : (zm5 s.heap a b).get? (zm4 s.heap a b).objs.size = some _ := Heap.get?_push_size _ rfl
  have k4 : (zm5 s.heap a b).get? (zm3 s.heap a b).objs.size = some _ := Heap.get?_push_of_some _ (Heap.get?_push_size _ rfl)
  have k3 : (zm5 s.heap a b).get? (zm2 s.heap a b).objs.size = some _ := Heap.get?_push_of_some _ (Heap.get?_push_of_some _ (Heap.get?_push_size _ rfl))
  have k2 : (zm5 s.heap a b).get? (zm1 s.heap a).objs.size = some _ := Heap.get?_push_of_some _ (Heap.get?_push_of_some _ (Heap.get?_push_of_some _ (Heap.get?_push_size _ rfl)))
  have k1 : (zm5 s.heap a b).get? s.heap.objs.size = some _ := Heap.get?_push_of_some _ (Heap.get?_push_of_some _ (Heap.get?_push_of_some _ (Heap.get?_push_of_some _ (Heap.get?_push_size _ rfl))))
  show _ ∧ _
  rw [s2, s3, s4] at k5
  rw [s1, s2] at k3
  rw [s3] at k4
  rw [s1] at k2
  rw [s4]
  exact ⟨⟨_, k5, rfl⟩, h _ k5 k3 k4 ⟨_, k1, rfl, rfl⟩ ⟨_, k2, rfl, rfl⟩ fun c o q => Heap.get?_push_of_some _ (Heap.get?_push_of_some _ (Heap.get?_push_of_some _ (Heap.get?_push_of_some _ (Heap.get?_push_of_some _ q))))⟩
/-- zip of two lists or of two tuples, by their values -/
def iZipX (K : Fg) (ta : TA) : TI := fun σ H R => ta σ H fun vs H1 => ∃ a b xs ys, vs = [.ref a, .ref b] ∧ ((SqL K H1 a xs ∧ SqL K H1 b ys ∧ R (ItZ K a b) H1) ∨ (SqT K H1 a xs ∧ SqT K H1 b ys ∧ R (ItZT K a b) H1) ∨ (SqL K H1 a xs ∧ SqT K H1 b ys ∧ R (ItZM K a b) H1))
theorem pi_zipX {X : Cx} {e e2 : Expr} {ta : TA} {p pos tpos : Pos} {elts : List Expr} {kk : Nat} (hg : Gl X "zip") (hm : X.mg "zip" = none) (ha : PA X [e, e2] ta)
    (hs : starEach [e, e2] X.env = (false, eval e X.env) :: starEach [e2] X.env) (hpl : (backTo pos (starEach [e2] X.env)).any (·.1) = false) : PI X (.Tuple elts kk tpos) (.Call (.Name "zip" p) [e, e2] [] pos) (iZipX X.K ta) := by
  refine ⟨fun pins s σ H R I h => ?_⟩
  refine Call_ (ld_blt I hg hm PyProof.Rows.boot_zip (PyProof.Rows.callWith_type1 (thn (ha.run pos pins s σ H _ I h) fun us t ⟨vs, H1, I1, rl, q⟩ => ?_) hs hpl))
  obtain ⟨a, b, xs, ys, rfl, q⟩ := q
  cases rl with
  | cons r rr =>
    cases rr with
    | cons r' rr =>
      cases rr
      cases r
      cases r'
      have low : ∀ c, c ∈ [t.heap.objs.size + 4, t.heap.objs.size + 2, t.heap.objs.size + 3, t.heap.objs.size, t.heap.objs.size + 1] → FpOk X pins H1 c := fun c hc => by
        have hle : t.heap.objs.size ≤ c := by
          rcases five hc with rfl | rfl | rfl | rfl | rfl <;> omega
        exact I1.fpOk hle (I1.hok.fresh hle)
      rcases q with ⟨hqx, hqy, q⟩ | ⟨hqx, hqy, q⟩ | ⟨hqx, hqy, q⟩
      · obtain ⟨its, _, p1, _⟩ := I1.list hqx
        obtain ⟨its2, _, p2, _⟩ := I1.list hqy
        exact call_zip_2 p1.isList p2.isList fun g hz hTI hTO h1 h2 hsz hk => wpAny_pyIter_zip hz
          ⟨_, _, _, _, H1, rfl, I1.kept (t' := t.toks) hk, turn_zL (PySem.W.ktu_apart t.heap.objs.size a b p1.lt p2.lt), ⟨hz, hTI, ⟨_, _, hTO⟩, h1, h2⟩, low, q⟩
      · obtain ⟨its, _, p1, _⟩ := I1.tuple hqx
        obtain ⟨its2, _, p2, _⟩ := I1.tuple hqy
        obtain ⟨o1, ho1, _⟩ := id p1
        obtain ⟨o2, ho2, _⟩ := id p2
        exact RZ.call_zipT (show t.heap.IsTuple a its.toArray from p1) (show t.heap.IsTuple b its2.toArray from p2) fun g hz hTI hTO h1 h2 hsz hk => wpAny_pyIter_zip hz
          ⟨_, _, _, _, H1, rfl, I1.kept (t' := t.toks) hk, turn_zT (PySem.W.ktu_apart t.heap.objs.size a b (Heap.lt_size ho1) (Heap.lt_size ho2)), ⟨hz, hTI, ⟨_, _, hTO⟩, h1, h2⟩, low, q⟩
      · obtain ⟨its, _, p1, _⟩ := I1.list hqx
        obtain ⟨its2, _, p2, _⟩ := I1.tuple hqy
        obtain ⟨o2, ho2, _⟩ := id p2
        exact call_zM p1.isList (show t.heap.IsTuple b its2.toArray from p2) fun g hz hTI hTO h1 h2 hk => wpAny_pyIter_zip hz
          ⟨_, _, _, _, H1, rfl, I1.kept (t' := t.toks) hk, turn_zM (PySem.W.ktu_apart t.heap.objs.size a b p1.lt (Heap.lt_size ho2)), ⟨hz, hTI, ⟨_, _, hTO⟩, h1, h2⟩, low, q⟩
/-- enumerate of a list or of a tuple, by its value -/
def iEnumA (K : Fg) (ta : TA) : TI := fun σ H R => ta σ H fun vs H1 => ∃ a zs, vs = [.ref a] ∧ ((SqL K H1 a zs ∧ R (ItL K a) H1) ∨ (SqT K H1 a zs ∧ R (ItE K a) H1))
theorem pi_enumA {X : Cx} {e : Expr} {ta : TA} {p pos tpos : Pos} {elts : List Expr} {kk : Nat} (hg : Gl X "enumerate") (hm : X.mg "enumerate" = none) (ha : PA X [e] ta) (hs : starEach [e] X.env = [(false, eval e X.env)]) : PI X (.Tuple elts kk tpos) (.Call (.Name "enumerate" p) [e] [] pos) (iEnumA X.K ta) := by
  refine ⟨fun pins s σ H R I h => ?_⟩
  refine Call_ (ld_blt I hg hm boot_enumerate (PyProof.Rows.callWith_type1 (thn (ha.run pos pins s σ H _ I h) fun us t ⟨vs, H1, I1, rl, q⟩ => ?_) hs rfl))
  obtain ⟨a, zs, rfl, q⟩ := q
  cases rl with
  | cons r0 rr =>
    cases rr
    cases r0
    have low : ∀ b ∈ [t.heap.objs.size + 1, t.heap.objs.size], FpOk X pins H1 b := fun b hb => by
      have hle : t.heap.objs.size ≤ b := by
        simp only [List.mem_cons, List.not_mem_nil, or_false] at hb
        omega
      exact I1.fpOk hle (I1.hok.fresh hle)
    rcases q with ⟨hq, q⟩ | ⟨hq, q⟩
    · obtain ⟨its, rv, p', hz⟩ := I1.list hq
      exact call_enumerate_list p'.isList fun h1 he hit _ hk => wpAny_pyIter_enum he ⟨_, _, _, _, H1, rfl, I1.kept (t' := t.toks) hk, turn_enL a _ _, ⟨⟨.none, he⟩, hit, Nat.succ_ne_self _⟩, low, q⟩
    · obtain ⟨its, rv, p', hz⟩ := I1.tuple hq
      exact call_enT (show t.heap.IsTuple a its.toArray from p') fun h1 he hit hk => wpAny_pyIter_enum he ⟨_, _, _, _, H1, rfl, I1.kept (t' := t.toks) hk, turn_enT a _ _, ⟨⟨.none, he⟩, hit, Nat.succ_ne_self _⟩, low, q⟩
end MP
/-! MPI: what loops go over. -/
namespace MP
open PySem PySem.Spec PyProof.Rows L2 RZ RT
open Classical
/-- the iterator yields the items of s, while the cells stand so -/
def ItOk (K : Fg) (φ0 : List Addr) (m0 : Mem) (Z : List Addr) (H0 : Hp) (J : It) (s : Src) : Prop :=
  ∀ Z' φ m H, (∀ z ∈ Z', z ∈ Z ∨ H0 z = none) → SR K φ m Z' H → Gr φ0 m0 (erZ Z H0) φ m (erZ Z H) → s.stands m →
    (∀ i d, s.list[i]? = some d → J.go i H ∧ ∀ x H', J.yld i H x H' → SR K φ m Z' H' ∧ Gr φ m H φ m H' ∧ Dp K (hid φ m Z' H') x d ∧ d.canLay0 = true) ∧ ∀ i, s.list.length ≤ i → J.stop i H
def tI (K : Fg) (Wx : WX) (f : Vr → Mem → Res Src) : TI := fun σ H R => ∃ φ Z v m, SR K φ m Z H ∧ RV K φ (hid φ m Z H) v σ ∧
  Pst K Wx σ Z φ m H (fun s φ' m' H' => s.stands m' → ∀ J, ItOk K φ' m' Z H' J s → R J H') (f v m)
section
variable {X : Cx} {Wx : WX} {x : Str} {p pos : Pos} {e a b tg : Expr} {es : List Expr} {cf : CallF} {t ts t1 t2 : E}
theorem piImp {w w' : TI} (h : PI X tg e w) (i : ∀ σ H R, w' σ H R → w σ H R) : PI X tg e w' := ⟨fun pins s σ H R I q => h.run pins s σ H R I (i σ H R q)⟩
/-- a list or a tuple, by its value -/
def iSeqA (K : Fg) (te : TE) : TI := fun σ H R => te σ H fun y H1 => ∃ a, y = .ref a ∧ (((∃ vs, SqL K H1 a vs) ∧ R (Itl K a) H1) ∨ ((∃ vs, SqT K H1 a vs) ∧ R (Itt K a) H1))
theorem pi_seqA {te : TE} (h1 : PE X e te) : PI X tg e (iSeqA X.K te) := by
  refine ⟨fun pins st σ H R I h => ?_⟩
  refine thn (h1.run pins st σ H _ I h) fun u s1 hu => ?_
  obtain ⟨y, H1, I1, ry, a, rfl, q⟩ := hu
  cases ry
  have nw : ∀ c ∈ [s1.heap.objs.size], FpOk X pins H1 c := fun c hc => by
    rw [List.mem_singleton] at hc
    subst hc
    exact I1.fpOk (Nat.le_refl _) (I1.hok.fresh (Nat.le_refl _))
  have kp := fun (ob : Obj) => I1.kept (h' := s1.heap.push ob) (t' := s1.toks) fun c o ho => Heap.get?_push_of_some _ ho
  rcases q with ⟨⟨vs, hv⟩, q⟩ | ⟨⟨vs, hv⟩, q⟩
  · obtain ⟨its, _, pl, _⟩ := I1.list hv
    refine wpAny_pyIter_list pl.isList ?_
    exact ⟨_, _, _, _, H1, rfl, kp _, turn_list a _, ⟨_, Heap.get?_push_size _ rfl, rfl, rfl⟩, nw, q⟩
  · obtain ⟨its, _, tp, _⟩ := I1.tuple hv
    refine wpAny_pyIter_tuple (show s1.heap.IsTuple a its.toArray from tp) ?_
    exact ⟨_, _, _, _, H1, rfl, kp _, turn_tuple a _, ⟨_, Heap.get?_push_size _ rfl, rfl, rfl⟩, nw, q⟩
end
section
variable {K : Fg} {φ0 φ : List Addr} {m0 m : Mem} {Z : List Addr} {H0 H : Hp}
theorem itl_ok {a : Addr} {vs : List V} {l : List PyData} (s0 : SR K φ0 m0 Z H0) (hv : hid φ0 m0 Z H0 a = some (.lst vs)) (hd : DpAll K (hid φ0 m0 Z H0) vs l) (hc : PyData.canLayAll0 l = true) : ItOk K φ0 m0 Z H0 (Itl K a) (.items l) := by
  intro Z' φ m H hz s g _
  have sm := Gr.same3 g s0.len hz
  have hv' := sm _ _ hv
  have hd' := dpMonoL sm _ _ hd
  have h3 : H a = some (.lst vs) := hid_le _ _ hv'
  refine ⟨fun i d hi => ?_, fun i hi => ⟨vs, SqL.of h3, by rw [DpAll.len hd']; exact hi⟩⟩
  obtain ⟨y, h1, h2⟩ := DpAll.at2 hd' hi
  refine ⟨⟨vs, y, SqL.of h3, h1⟩, fun x H' hy => ?_⟩
  obtain ⟨rfl, hy⟩ := hy
  have e := hy vs (SqL.of h3)
  rw [h1] at e
  cases e
  exact ⟨s, Gr.refl, h2, canL_iff.mp hc d (List.mem_of_getElem? hi)⟩
theorem itl_live {a : Addr} {n : Nat} {l : List PyData} (hp : φ0[n]? = some a) : ItOk K φ0 m0 Z H0 (Itl K a) (.live n l) := by
  intro Z' φ m H hz s g st
  have hp' := g.phi hp
  obtain ⟨vs, h3, hd', hc⟩ := s.cell n a _ hp' st
  refine ⟨fun i d hi => ?_, fun i hi => ⟨vs, SqL.of h3, by rw [DpAll.len hd']; exact hi⟩⟩
  obtain ⟨y, h1, h2⟩ := DpAll.at2 hd' hi
  refine ⟨⟨vs, y, SqL.of h3, h1⟩, fun x H' hy => ?_⟩
  obtain ⟨rfl, hy⟩ := hy
  have e := hy vs (SqL.of h3)
  rw [h1] at e
  cases e
  exact ⟨s, Gr.refl, h2, canL_iff.mp hc d (List.mem_of_getElem? hi)⟩
theorem itt_ok {a : Addr} {vs : List V} {l : List PyData} (s0 : SR K φ0 m0 Z H0) (hv : SqT K (hid φ0 m0 Z H0) a vs) (hd : DpAll K (hid φ0 m0 Z H0) vs l) (hc : PyData.canLayAll0 l = true) : ItOk K φ0 m0 Z H0 (Itt K a) (.items l) := by
  intro Z' φ m H hz s g _
  have sm := Gr.same3 g s0.len hz
  have hd' := dpMonoL sm _ _ hd
  have h3 : SqT K H a vs := sqtMono hid_le (sqtMono sm hv)
  refine ⟨fun i d hi => ?_, fun i hi => ⟨vs, h3, by rw [DpAll.len hd']; exact hi⟩⟩
  obtain ⟨y, h1, h2⟩ := DpAll.at2 hd' hi
  refine ⟨⟨vs, y, h3, h1⟩, fun x H' hy => ?_⟩
  obtain ⟨rfl, hy⟩ := hy
  have e := hy vs h3
  rw [h1] at e
  cases e
  exact ⟨s, Gr.refl, h2, canL_iff.mp hc d (List.mem_of_getElem? hi)⟩
theorem rngD_len : ∀ (n : Nat) (lo : Int), (rngD lo n).length = n
  | 0, _ => rfl
  | n + 1, lo => by simp [rngD, rngD_len n]
theorem rngD_at : ∀ (n : Nat) (lo : Int) (i : Nat) (d : PyData), (rngD lo n)[i]? = some d → d = .int (lo + i) ∧ i < n
  | 0, _, i, d, h => by simp [rngD] at h
  | n + 1, lo, 0, d, h => by simp [rngD] at h; exact ⟨by rw [← h]; simp, by omega⟩
  | n + 1, lo, i + 1, d, h => by
    obtain ⟨h1, h2⟩ := rngD_at n (lo + 1) i d (by simpa [rngD] using h)
    exact ⟨by rw [h1]; congr 1; omega, by omega⟩
theorem itr_ok (lo : Int) (n : Nat) : ItOk K φ0 m0 Z H0 (Itr lo n) (.items (rngD lo n)) := by
  intro Z' φ m H hz s g _
  refine ⟨fun i d hi => ?_, fun i hi => ?_⟩
  · obtain ⟨rfl, h⟩ := rngD_at n lo i d hi
    refine ⟨h, fun x H' hy => ?_⟩
    obtain ⟨rfl, rfl⟩ := hy
    exact ⟨s, Gr.refl, .int _, rfl⟩
  · have hi' : (rngD lo n).length ≤ i := hi
    rw [rngD_len] at hi'
    exact hi'
theorem enumD_at : ∀ (l : List PyData) (k i : Nat) (d : PyData), (enumD k l)[i]? = some d → ∃ y, l[i]? = some y ∧ d = .tuple [.int ((k + i : Nat) : Int), y]
  | [], _, i, d, h => by simp [enumD] at h
  | x :: r, k, 0, d, h => by simp [enumD] at h; exact ⟨x, rfl, by rw [← h]; simp⟩
  | x :: r, k, i + 1, d, h => by
    obtain ⟨y, h1, h2⟩ := enumD_at r (k + 1) i d (by simpa [enumD] using h)
    exact ⟨y, by simpa using h1, by rw [h2]; congr 4; omega⟩
theorem enumD_len : ∀ (l : List PyData) (k : Nat), (enumD k l).length = l.length
  | [], _ => rfl
  | x :: r, k => by simp [enumD, enumD_len r]
theorem pair_new {y1 y2 : V} {d1 d2 : PyData} {T : Addr} {o : Obj} (ho : o.dict = none) (s : SR K φ m Z H) (hT : H T = none) (h1 : Dp K (hid φ m Z H) y1 d1) (h2 : Dp K (hid φ m Z H) y2 d2) (c1 : d1.canLay0 = true) (c2 : d2.canLay0 = true) :
    SR K φ m Z (upd H T (.frz o (.tup [y1, y2]))) ∧ Gr φ m H φ m (upd H T (.frz o (.tup [y1, y2]))) ∧ Dp K (hid φ m Z (upd H T (.frz o (.tup [y1, y2])))) (.ref T) (.tuple [d1, d2]) ∧ (PyData.tuple [d1, d2]).canLay0 = true := by
  obtain ⟨s2, g2, v2⟩ := s.new hT (.frz o (.tup [y1, y2]))
  have sm := Gr.same (Z := Z) g2 s.len
  exact ⟨s2, g2, .tup ⟨o, v2, ho⟩ (.cons (dpMono sm _ _ h1) (.cons (dpMono sm _ _ h2) .nil)), by simp [PyData.canLay0, PyData.canLayAll0, c1, c2]⟩
theorem ite_ok {a : Addr} {vs : List V} {l : List PyData} (s0 : SR K φ0 m0 Z H0) (hv : hid φ0 m0 Z H0 a = some (.lst vs)) (hd : DpAll K (hid φ0 m0 Z H0) vs l) (hc : PyData.canLayAll0 l = true) : ItOk K φ0 m0 Z H0 (ItL K a) (.items (enumD 0 l)) := by
  intro Z' φ m H hz s g _
  have sm := Gr.same3 g s0.len hz
  have hv' := sm _ _ hv
  have hd' := dpMonoL sm _ _ hd
  have h3 : H a = some (.lst vs) := hid_le _ _ hv'
  refine ⟨fun i d hi => ?_, fun i hi => ?_⟩
  · obtain ⟨z, hz, rfl⟩ := enumD_at l 0 i d hi
    obtain ⟨y, h1, h2⟩ := DpAll.at2 hd' hz
    refine ⟨⟨vs, y, SqL.of h3, h1⟩, fun x H' hy => ?_⟩
    obtain ⟨y', ⟨T, o, rfl, hT, ho, rfl⟩, hy⟩ := hy
    have e := hy vs (SqL.of h3)
    rw [h1] at e
    cases e
    have q := pair_new (d1 := .int ((0 + i : Nat) : Int)) (y1 := .int ((i : Nat) : Int)) ho s hT (by rw [Nat.zero_add]; exact .int _) h2 rfl (canL_iff.mp hc z (List.mem_of_getElem? hz))
    exact q
  · have hi' : (enumD 0 l).length ≤ i := hi
    rw [enumD_len] at hi'
    exact ⟨vs, SqL.of h3, by rw [DpAll.len hd']; exact hi'⟩
theorem itE_ok {a : Addr} {vs : List V} {l : List PyData} (s0 : SR K φ0 m0 Z H0) (hv : SqT K (hid φ0 m0 Z H0) a vs) (hd : DpAll K (hid φ0 m0 Z H0) vs l) (hc : PyData.canLayAll0 l = true) : ItOk K φ0 m0 Z H0 (ItE K a) (.items (enumD 0 l)) := by
  intro Z' φ m H hz s g _
  have sm := Gr.same3 g s0.len hz
  have hd' := dpMonoL sm _ _ hd
  have h3 : SqT K H a vs := sqtMono hid_le (sqtMono sm hv)
  refine ⟨fun i d hi => ?_, fun i hi => ?_⟩
  · obtain ⟨z, hz, rfl⟩ := enumD_at l 0 i d hi
    obtain ⟨y, h1, h2⟩ := DpAll.at2 hd' hz
    refine ⟨⟨vs, y, h3, h1⟩, fun x H' hy => ?_⟩
    obtain ⟨y', ⟨T, o, rfl, hT, ho, rfl⟩, hy⟩ := hy
    have e := hy vs h3
    rw [h1] at e
    cases e
    have q := pair_new (d1 := .int ((0 + i : Nat) : Int)) (y1 := .int ((i : Nat) : Int)) ho s hT (by rw [Nat.zero_add]; exact .int _) h2 rfl (canL_iff.mp hc z (List.mem_of_getElem? hz))
    exact q
  · have hi' : (enumD 0 l).length ≤ i := hi
    rw [enumD_len] at hi'
    exact ⟨vs, h3, by rw [DpAll.len hd']; exact hi'⟩
theorem zipD_at : ∀ (l k : List PyData) (i : Nat) (d : PyData), (zipD l k)[i]? = some d → ∃ y z, l[i]? = some y ∧ k[i]? = some z ∧ d = .tuple [y, z]
  | [], _, i, d, h => by simp [zipD] at h
  | _ :: _, [], i, d, h => by simp [zipD] at h
  | x :: r, y :: t, 0, d, h => by simp [zipD] at h; exact ⟨x, y, rfl, rfl, h.symm⟩
  | x :: r, y :: t, i + 1, d, h => by
    obtain ⟨a, b, h1, h2, h3⟩ := zipD_at r t i d (by simpa [zipD] using h)
    exact ⟨a, b, by simpa using h1, by simpa using h2, h3⟩
theorem zipD_len : ∀ (l k : List PyData), (zipD l k).length = min l.length k.length
  | [], _ => by simp [zipD]
  | _ :: _, [] => by simp [zipD]
  | x :: r, y :: t => by simp [zipD, zipD_len r t]
theorem itz_ok {a b : Addr} {vs ws : List V} {l k : List PyData} (s0 : SR K φ0 m0 Z H0) (hv : hid φ0 m0 Z H0 a = some (.lst vs)) (hd : DpAll K (hid φ0 m0 Z H0) vs l) (hc : PyData.canLayAll0 l = true)
    (hw : hid φ0 m0 Z H0 b = some (.lst ws)) (he : DpAll K (hid φ0 m0 Z H0) ws k) (hk : PyData.canLayAll0 k = true) : ItOk K φ0 m0 Z H0 (ItZ K a b) (.items (zipD l k)) := by
  intro Z' φ m H hz s g _
  have sm := Gr.same3 g s0.len hz
  have hd' := dpMonoL sm _ _ hd
  have he' := dpMonoL sm _ _ he
  have h3 : H a = some (.lst vs) := hid_le _ _ (sm _ _ hv)
  have h4 : H b = some (.lst ws) := hid_le _ _ (sm _ _ hw)
  refine ⟨fun i d hi => ?_, fun i hi => ?_⟩
  · obtain ⟨z1, z2, hz1, hz2, rfl⟩ := zipD_at l k i d hi
    obtain ⟨y1, h1, h2⟩ := DpAll.at2 hd' hz1
    obtain ⟨y2, h5, h6⟩ := DpAll.at2 he' hz2
    refine ⟨⟨vs, ws, y1, y2, SqL.of h3, SqL.of h4, h1, h5⟩, fun x H' hy => ?_⟩
    obtain ⟨x1, x2, ⟨T, o, rfl, hT, ho, rfl⟩, hy1, hy2⟩ := hy
    have e := hy1 vs (SqL.of h3)
    rw [h1] at e
    cases e
    have e := hy2 ws (SqL.of h4)
    rw [h5] at e
    cases e
    exact pair_new ho s hT h2 h6 (canL_iff.mp hc z1 (List.mem_of_getElem? hz1)) (canL_iff.mp hk z2 (List.mem_of_getElem? hz2))
  · have hi' : (zipD l k).length ≤ i := hi
    rw [zipD_len] at hi'
    have l1 := DpAll.len hd'
    have l2 := DpAll.len he'
    exact ⟨vs, ws, SqL.of h3, SqL.of h4, by omega⟩
theorem itzT_ok {a b : Addr} {vs ws : List V} {l k : List PyData} (s0 : SR K φ0 m0 Z H0) (hv : SqT K (hid φ0 m0 Z H0) a vs) (hd : DpAll K (hid φ0 m0 Z H0) vs l) (hc : PyData.canLayAll0 l = true)
    (hw : SqT K (hid φ0 m0 Z H0) b ws) (he : DpAll K (hid φ0 m0 Z H0) ws k) (hk : PyData.canLayAll0 k = true) : ItOk K φ0 m0 Z H0 (ItZT K a b) (.items (zipD l k)) := by
  intro Z' φ m H hz s g _
  have sm := Gr.same3 g s0.len hz
  have hd' := dpMonoL sm _ _ hd
  have he' := dpMonoL sm _ _ he
  have h3 : SqT K H a vs := sqtMono hid_le (sqtMono sm hv)
  have h4 : SqT K H b ws := sqtMono hid_le (sqtMono sm hw)
  refine ⟨fun i d hi => ?_, fun i hi => ?_⟩
  · obtain ⟨z1, z2, hz1, hz2, rfl⟩ := zipD_at l k i d hi
    obtain ⟨y1, h1, h2⟩ := DpAll.at2 hd' hz1
    obtain ⟨y2, h5, h6⟩ := DpAll.at2 he' hz2
    refine ⟨⟨vs, ws, y1, y2, h3, h4, h1, h5⟩, fun x H' hy => ?_⟩
    obtain ⟨x1, x2, ⟨T, o, rfl, hT, ho, rfl⟩, hy1, hy2⟩ := hy
    have e := hy1 vs h3
    rw [h1] at e
    cases e
    have e := hy2 ws h4
    rw [h5] at e
    cases e
    exact pair_new ho s hT h2 h6 (canL_iff.mp hc z1 (List.mem_of_getElem? hz1)) (canL_iff.mp hk z2 (List.mem_of_getElem? hz2))
  · have hi' : (zipD l k).length ≤ i := hi
    rw [zipD_len] at hi'
    have l1 := DpAll.len hd'
    have l2 := DpAll.len he'
    exact ⟨vs, ws, h3, h4, by omega⟩
theorem itzM_ok {a b : Addr} {vs ws : List V} {l k : List PyData} (s0 : SR K φ0 m0 Z H0) (hv : hid φ0 m0 Z H0 a = some (.lst vs)) (hd : DpAll K (hid φ0 m0 Z H0) vs l) (hc : PyData.canLayAll0 l = true)
    (hw : SqT K (hid φ0 m0 Z H0) b ws) (he : DpAll K (hid φ0 m0 Z H0) ws k) (hk : PyData.canLayAll0 k = true) : ItOk K φ0 m0 Z H0 (ItZM K a b) (.items (zipD l k)) := by
  intro Z' φ m H hz s g _
  have sm := Gr.same3 g s0.len hz
  have hd' := dpMonoL sm _ _ hd
  have he' := dpMonoL sm _ _ he
  have h3 : H a = some (.lst vs) := hid_le _ _ (sm _ _ hv)
  have h4 : SqT K H b ws := sqtMono hid_le (sqtMono sm hw)
  refine ⟨fun i d hi => ?_, fun i hi => ?_⟩
  · obtain ⟨z1, z2, hz1, hz2, rfl⟩ := zipD_at l k i d hi
    obtain ⟨y1, h1, h2⟩ := DpAll.at2 hd' hz1
    obtain ⟨y2, h5, h6⟩ := DpAll.at2 he' hz2
    refine ⟨⟨vs, ws, y1, y2, SqL.of h3, h4, h1, h5⟩, fun x H' hy => ?_⟩
    obtain ⟨x1, x2, ⟨T, o, rfl, hT, ho, rfl⟩, hy1, hy2⟩ := hy
    have e := hy1 vs (SqL.of h3)
    rw [h1] at e
    cases e
    have e := hy2 ws h4
    rw [h5] at e
    cases e
    exact pair_new ho s hT h2 h6 (canL_iff.mp hc z1 (List.mem_of_getElem? hz1)) (canL_iff.mp hk z2 (List.mem_of_getElem? hz2))
  · have hi' : (zipD l k).length ≤ i := hi
    rw [zipD_len] at hi'
    have l1 := DpAll.len hd'
    have l2 := DpAll.len he'
    exact ⟨vs, ws, SqL.of h3, h4, by omega⟩
theorem rev_at {l : List PyData} {i : Nat} {d : PyData} (h : l.reverse[i]? = some d) : i < l.length ∧ l[l.length - 1 - i]? = some d := by
  have hi := (List.getElem?_eq_some_iff.mp h).1
  rw [List.length_reverse] at hi
  rw [List.getElem?_reverse hi] at h
  exact ⟨hi, h⟩
theorem itv_ok {a : Addr} {vs : List V} {l : List PyData} (s0 : SR K φ0 m0 Z H0) (hv : hid φ0 m0 Z H0 a = some (.lst vs)) (hd : DpAll K (hid φ0 m0 Z H0) vs l) (hc : PyData.canLayAll0 l = true) : ItOk K φ0 m0 Z H0 (Itv K a vs.length) (.items l.reverse) := by
  intro Z' φ m H hz s g _
  have sm := Gr.same3 g s0.len hz
  have hd' := dpMonoL sm _ _ hd
  have h3 : H a = some (.lst vs) := hid_le _ _ (sm _ _ hv)
  have hl := DpAll.len hd'
  refine ⟨fun i d hi => ?_, fun i hi => ?_⟩
  · obtain ⟨k1, k2⟩ := rev_at hi
    rw [← hl] at k2
    obtain ⟨y, h1, h2⟩ := DpAll.at2 hd' k2
    refine ⟨⟨by omega, vs, y, SqL.of h3, h1⟩, fun x H' hy => ?_⟩
    obtain ⟨rfl, hy⟩ := hy
    have e := hy vs (SqL.of h3)
    rw [h1] at e
    cases e
    exact ⟨s, Gr.refl, h2, canL_iff.mp hc d (List.mem_of_getElem? k2)⟩
  · have hi' : l.reverse.length ≤ i := hi
    rw [List.length_reverse] at hi'
    show vs.length ≤ i
    omega
theorem itvT_ok {a : Addr} {vs : List V} {l : List PyData} (s0 : SR K φ0 m0 Z H0) (hv : SqT K (hid φ0 m0 Z H0) a vs) (hd : DpAll K (hid φ0 m0 Z H0) vs l) (hc : PyData.canLayAll0 l = true) : ItOk K φ0 m0 Z H0 (ItvT K a vs.length) (.items l.reverse) := by
  intro Z' φ m H hz s g _
  have sm := Gr.same3 g s0.len hz
  have hd' := dpMonoL sm _ _ hd
  have h3 : SqT K H a vs := sqtMono hid_le (sqtMono sm hv)
  have hl := DpAll.len hd'
  refine ⟨fun i d hi => ?_, fun i hi => ?_⟩
  · obtain ⟨k1, k2⟩ := rev_at hi
    rw [← hl] at k2
    obtain ⟨y, h1, h2⟩ := DpAll.at2 hd' k2
    refine ⟨⟨by omega, vs, y, h3, h1⟩, fun x H' hy => ?_⟩
    obtain ⟨rfl, hy⟩ := hy
    have e := hy vs h3
    rw [h1] at e
    cases e
    exact ⟨s, Gr.refl, h2, canL_iff.mp hc d (List.mem_of_getElem? k2)⟩
  · have hi' : l.reverse.length ≤ i := hi
    rw [List.length_reverse] at hi'
    show vs.length ≤ i
    omega
end
section
variable {X : Cx} {Wx : WX} {x : Str} {p pos tpos : Pos} {e a b tg : Expr} {es elts : List Expr} {kk : Nat} {cf : CallF} {t ts t1 t2 : E}
theorem i_itv (h1 : PE X a (tE X.K Wx (den cf t))) : PI X tg a (tI X.K Wx (denI cf (.itv t))) := by
  refine piImp (pi_seqA h1) fun σ H R h => ?_
  obtain ⟨φ, Z, v, m, s, r, h⟩ := h
  refine ⟨φ, Z, v, m, s, r, (h.seq s.len).imp fun w φ1 m1 H1 _ s1 g1 h y r1 => ?_⟩
  obtain ⟨src, es, h⟩ := h.opt
  cases w with
  | scr n => cases es
  | exn n => cases es
  | ref n =>
    obtain ⟨a1, rfl, hp⟩ := r1
    simp only [srcOf] at es
    cases q : m1[n]? with
    | none => rw [q] at es; cases es
    | some c =>
      rw [q] at es
      cases c with
      | lst l =>
        cases es
        obtain ⟨vs, k1, k2, k3⟩ := s1.cell n a1 _ hp q
        exact ⟨a1, rfl, .inl ⟨⟨vs, SqL.of k1⟩, h φ1 H1 s1 Gr.refl q _ (itl_live hp)⟩⟩
      | _ => cases es
  | d z =>
    cases z with
    | list l =>
      cases es
      obtain ⟨dp, hc⟩ := r1
      cases dp with
      | lst k1 k2 => exact ⟨_, rfl, .inl ⟨⟨_, SqL.of (hid_le _ _ k1)⟩, h φ1 H1 s1 Gr.refl trivial _ (itl_ok s1 k1 k2 (by simpa [PyData.canLay0] using hc))⟩⟩
    | tuple l =>
      cases es
      obtain ⟨dp, hc⟩ := r1
      cases dp with
      | tup k1 k2 => exact ⟨_, rfl, .inr ⟨⟨_, sqtMono hid_le k1.sq⟩, h φ1 H1 s1 Gr.refl trivial _ (itt_ok s1 k1.sq k2 (by simpa [PyData.canLay0] using hc))⟩⟩
    | _ => cases es
theorem i_rng1 (hg : Gl X "range") (hm : X.mg "range" = none) (hs : noStar a = true) (h1 : PE X a (tE X.K Wx (den cf t))) : PI X tg (.Call (.Name "range" p) [a] [] pos) (tI X.K Wx (denI cf (.rng1 t))) := by
  refine piImp (pi_range1 hg hm (pa_cons h1 pa_nil (starEach_ne hs _ _)) (starEach_ne hs _ _)) fun σ H R h => ?_
  obtain ⟨φ, Z, v, m, s, r, h⟩ := h
  refine ⟨φ, Z, v, m, s, r, (h.seq s.len).imp fun w φ1 m1 H1 _ s1 g1 h y r1 => ?_⟩
  cases w with
  | ref n => exact h.elim
  | scr n => exact h.elim
  | exn n => exact h.elim
  | d z =>
    cases z with
    | int n =>
      obtain ⟨r1, _⟩ := r1
      cases r1
      simp only at h
      split at h
      · rename_i hb
        exact ⟨n, rfl, hb.2, hb.1, h φ1 H1 s1 Gr.refl trivial _ (itr_ok 0 n.toNat)⟩
      · exact h.elim
    | _ => exact h.elim
theorem i_rng2 (hg : Gl X "range") (hm : X.mg "range" = none) (hs : noStar a = true) (hs2 : noStar b = true) (h1 : PE X a (tE X.K Wx (den cf t1))) (h2 : PE X b (tE X.K Wx (den cf t2))) : PI X tg (.Call (.Name "range" p) [a, b] [] pos) (tI X.K Wx (denI cf (.rng2 t1 t2))) := by
  refine piImp (pi_range2 hg hm (pa_cons h1 (pa_cons h2 pa_nil (starEach_ne hs2 _ _)) (starEach_ne hs _ _)) (by rw [starEach_ne hs, starEach_ne hs2]; rfl) (starEach_ne hs2 _ _)) fun σ H R h => ?_
  obtain ⟨φ, Z, v, m, s, r, h⟩ := h
  refine ⟨φ, Z, v, m, s, r, (h.seq s.len).imp fun w φ1 m1 H1 _ s1 g1 h y r1 => ⟨φ1, Z, v, m1, s1, g1.rv s.len r, (h.seq s1.len).imp fun w2 φ2 m2 H2 _ s2 g2 h y2 r2 => ?_⟩⟩
  have r1' := g2.rw s1.len r1
  cases w with
  | ref n => exact h.elim
  | scr n => exact h.elim
  | exn n => exact h.elim
  | d z =>
    cases z with
    | int i =>
      cases w2 with
      | ref n => exact h.elim
      | scr n => exact h.elim
      | exn n => exact h.elim
      | d z2 =>
        cases z2 with
        | int n =>
          obtain ⟨r1', _⟩ := r1'
          cases r1'
          obtain ⟨r2, _⟩ := r2
          cases r2
          simp only at h
          split at h
          · rename_i hb
            exact ⟨i, n, rfl, ⟨hb.2.2.2, hb.2.2.1, hb.2.1, hb.1⟩, h φ2 H2 s2 Gr.refl trivial _ (itr_ok i (n - i).toNat)⟩
          · exact h.elim
        | _ => exact h.elim
    | _ => exact h.elim
theorem i_enum (hg : Gl X "enumerate") (hm : X.mg "enumerate" = none) (hs : noStar a = true) (h1 : PE X a (tE X.K Wx (den cf t))) : PI X (.Tuple elts kk tpos) (.Call (.Name "enumerate" p) [a] [] pos) (tI X.K Wx (denI cf (.enum t))) := by
  refine piImp (pi_enumA hg hm (pa_cons h1 pa_nil (starEach_ne hs _ _)) (starEach_ne hs _ _)) fun σ H R h => ?_
  obtain ⟨φ, Z, v, m, s, r, h⟩ := h
  refine ⟨φ, Z, v, m, s, r, (h.seq s.len).imp fun w φ1 m1 H1 _ s1 g1 h y r1 => ?_⟩
  obtain ⟨l, el, _⟩ := (h.seq s1.len).opt
  rw [el] at h
  cases w with
  | ref n => cases el
  | scr n => cases el
  | exn n => cases el
  | d z =>
    cases z with
    | list k =>
      cases el
      obtain ⟨dp, hc⟩ := r1
      cases dp with
      | lst k1 k2 => exact ⟨_, _, rfl, .inl ⟨SqL.of (hid_le _ _ k1), h φ1 H1 s1 Gr.refl trivial _ (ite_ok s1 k1 k2 (by simpa [PyData.canLay0] using hc))⟩⟩
    | tuple k =>
      cases el
      obtain ⟨dp, hc⟩ := r1
      cases dp with
      | tup k1 k2 => exact ⟨_, _, rfl, .inr ⟨sqtMono hid_le k1.sq, h φ1 H1 s1 Gr.refl trivial _ (itE_ok s1 k1.sq k2 (by simpa [PyData.canLay0] using hc))⟩⟩
    | _ => cases el
theorem i_zip (hg : Gl X "zip") (hm : X.mg "zip" = none) (hs : noStar a = true) (hs2 : noStar b = true) (h1 : PE X a (tE X.K Wx (den cf t1))) (h2 : PE X b (tE X.K Wx (den cf t2))) : PI X (.Tuple elts kk tpos) (.Call (.Name "zip" p) [a, b] [] pos) (tI X.K Wx (denI cf (.zip t1 t2))) := by
  refine piImp (pi_zipX hg hm (pa_cons h1 (pa_cons h2 pa_nil (starEach_ne hs2 _ _)) (starEach_ne hs _ _)) (starEach_ne hs _ _) (by rw [starEach_ne hs2]; rfl)) fun σ H R h => ?_
  obtain ⟨φ, Z, v, m, s, r, h⟩ := h
  refine ⟨φ, Z, v, m, s, r, (h.seq s.len).imp fun w φ1 m1 H1 _ s1 g1 h y r1 => ⟨φ1, Z, v, m1, s1, g1.rv s.len r, (h.seq s1.len).imp fun w2 φ2 m2 H2 _ s2 g2 h y2 r2 => ?_⟩⟩
  have r1' := g2.rw s1.len r1
  obtain ⟨l, el, _⟩ := (h.seq s2.len).opt
  rw [el] at h
  cases w with
  | ref n => cases el
  | scr n => cases el
  | exn n => cases el
  | d z =>
    cases w2 with
    | ref n => cases z <;> cases el
    | scr n => cases z <;> cases el
    | exn n => cases z <;> cases el
    | d z2 =>
      cases z with
      | list k =>
        cases z2 with
        | list k' =>
          cases el
          obtain ⟨dp, hc⟩ := r1'
          obtain ⟨dp2, hc2⟩ := r2
          cases dp with
          | lst k1 k2 =>
            cases dp2 with
            | lst k3 k4 => exact ⟨_, _, _, _, rfl, .inl ⟨SqL.of (hid_le _ _ k1), SqL.of (hid_le _ _ k3), h φ2 H2 s2 Gr.refl trivial _ (itz_ok s2 k1 k2 (by simpa [PyData.canLay0] using hc) k3 k4 (by simpa [PyData.canLay0] using hc2))⟩⟩
        | tuple k' =>
          cases el
          obtain ⟨dp, hc⟩ := r1'
          obtain ⟨dp2, hc2⟩ := r2
          cases dp with
          | lst k1 k2 =>
            cases dp2 with
            | tup k3 k4 => exact ⟨_, _, _, _, rfl, .inr (.inr ⟨SqL.of (hid_le _ _ k1), sqtMono hid_le k3.sq, h φ2 H2 s2 Gr.refl trivial _ (itzM_ok s2 k1 k2 (by simpa [PyData.canLay0] using hc) k3.sq k4 (by simpa [PyData.canLay0] using hc2))⟩)⟩
        | _ => cases el
      | tuple k =>
        cases z2 with
        | tuple k' =>
          cases el
          obtain ⟨dp, hc⟩ := r1'
          obtain ⟨dp2, hc2⟩ := r2
          cases dp with
          | tup k1 k2 =>
            cases dp2 with
            | tup k3 k4 => exact ⟨_, _, _, _, rfl, .inr (.inl ⟨sqtMono hid_le k1.sq, sqtMono hid_le k3.sq, h φ2 H2 s2 Gr.refl trivial _ (itzT_ok s2 k1.sq k2 (by simpa [PyData.canLay0] using hc) k3.sq k4 (by simpa [PyData.canLay0] using hc2))⟩)⟩
        | _ => cases el
      | _ => cases z2 <;> cases el
theorem i_rev (hg : Gl X "reversed") (hm : X.mg "reversed" = none) (hs : noStar a = true) (h1 : PE X a (tE X.K Wx (den cf t))) : PI X tg (.Call (.Name "reversed" p) [a] [] pos) (tI X.K Wx (denI cf (.rev t))) := by
  refine piImp (pi_revA hg hm h1 (starEach_ne hs _ _)) fun σ H R h => ?_
  obtain ⟨φ, Z, v, m, s, r, h⟩ := h
  refine ⟨φ, Z, v, m, s, r, (h.seq s.len).imp fun w φ1 m1 H1 _ s1 g1 h y r1 => ?_⟩
  obtain ⟨l, el, _⟩ := (h.seq s1.len).opt
  rw [el] at h
  cases w with
  | ref n => cases el
  | scr n => cases el
  | exn n => cases el
  | d z =>
    cases z with
    | list k =>
      cases el
      obtain ⟨dp, hc⟩ := r1
      cases dp with
      | lst k1 k2 => exact ⟨_, _, rfl, .inl ⟨SqL.of (hid_le _ _ k1), h φ1 H1 s1 Gr.refl trivial _ (itv_ok s1 k1 k2 (by simpa [PyData.canLay0] using hc))⟩⟩
    | tuple k =>
      cases el
      obtain ⟨dp, hc⟩ := r1
      cases dp with
      | tup k1 k2 => exact ⟨_, _, rfl, .inr ⟨sqtMono hid_le k1.sq, h φ1 H1 s1 Gr.refl trivial _ (itvT_ok s1 k1.sq k2 (by simpa [PyData.canLay0] using hc))⟩⟩
    | _ => cases el
end
end MP
/-! MPJ: targets; comprehensions. -/
namespace MP
open PySem PySem.Spec PyProof.Rows L2
open Classical
/-! ### targets -/
def Tg.sl : Tg → List Nat
  | .nm i => [i]
  | .tup t => t.sl
  | .nil => []
  | .cons t u => t.sl ++ u.sl
/-- a value goes into names -/
def tgt (K : Fg) (g : Tg) : TG := fun y σ H Q => ∃ φ Z v m d v', SR K φ m Z H ∧ RV K φ (hid φ m Z H) v σ ∧ Dp K (hid φ m Z H) y d ∧ d.canLay0 = true ∧ setV g d v = some v' ∧
  ∀ σ', RV K φ (hid φ m Z H) v' σ' → σ'.length = σ.length → (∀ i, i ∉ g.sl → σ'[i]? = σ[i]?) → Q σ' H
def tgtL (K : Fg) (g : Tg) : TGs := fun ys σ H Q => ∃ φ Z v m l v', SR K φ m Z H ∧ RV K φ (hid φ m Z H) v σ ∧ DpAll K (hid φ m Z H) ys l ∧ PyData.canLayAll0 l = true ∧ setV.setAll g l v = some v' ∧
  ∀ σ', RV K φ (hid φ m Z H) v' σ' → σ'.length = σ.length → (∀ i, i ∉ g.sl → σ'[i]? = σ[i]?) → Q σ' H
section
variable {K : Fg} {φ : List Addr} {Hh : Hp} {v : Vr} {σ : L2.St}
theorem RV.put (r : RV K φ Hh v σ) {i : Nat} {w : W} {x : V} (h : RW K φ Hh w x) : RV K φ Hh (v.set i (some w)) (σ.set i (some x)) := by
  refine ⟨by simp [r.len], fun j w' e => ?_⟩
  by_cases hij : i = j
  · subst hij
    have hi : i < v.length := by
      have := (List.getElem?_eq_some_iff.mp e).1
      simpa using this
    rw [List.getElem?_set_self hi] at e
    cases e
    exact ⟨x, by rw [List.getElem?_set_self (by rw [← r.len]; exact hi)], h⟩
  · rw [List.getElem?_set_ne hij] at e ⊢
    exact r.at_ j w' e
theorem RV.wipe (r : RV K φ Hh v σ) : ∀ vs : List Nat, RV K φ Hh (wipeV v vs) (wipe σ vs)
  | [] => r
  | i :: vs => by
    have q := RV.wipe r vs
    refine ⟨by show ((wipeV v vs).set i none).length = ((L2.wipe σ vs).set i none).length; simp [q.len], fun j w e => ?_⟩
    have e : ((wipeV v vs).set i none)[j]? = some (some w) := e
    show ∃ x, ((L2.wipe σ vs).set i none)[j]? = some (some x) ∧ _
    by_cases hij : i = j
    · subst hij
      rw [List.getElem?_set] at e
      split at e
      · split at e <;> cases e
      · exact absurd rfl ‹_›
    · rw [List.getElem?_set_ne hij] at e ⊢
      exact q.at_ j w e
end
theorem wipe_at (σ : L2.St) : ∀ (vs : List Nat) (i : Nat), (wipe σ vs)[i]? = if i ∈ vs ∧ i < σ.length then some none else σ[i]?
  | [], i => by simp [wipe]
  | j :: vs, i => by
    show ((wipe σ vs).set j none)[i]? = _
    rw [List.getElem?_set, wipe_at σ vs i, wipe_length]
    by_cases hij : j = i
    · subst hij
      by_cases hl : j < σ.length
      · simp [hl]
      · simp [hl]
    · have : ¬ i = j := fun e => hij e.symm
      simp [hij, this]
theorem wipe_same {σ σ2 : L2.St} {vs : List Nat} (hl : σ2.length = σ.length) (h : ∀ i, i ∉ vs → σ2[i]? = (wipe σ vs)[i]?) : wipe σ2 vs = wipe σ vs := by
  apply List.ext_getElem?
  intro i
  by_cases hi : i ∈ vs
  · rw [wipe_at, wipe_at, hl]
    by_cases hs : i < σ.length
    · simp [hi, hs]
    · rw [if_neg (by simp [hs]), if_neg (by simp [hs]), List.getElem?_eq_none (by omega), List.getElem?_eq_none (by omega)]
  · rw [wipe_at, if_neg (by simp [hi])]
    exact h i hi
section
variable {X : Cx} {pos : Pos}
theorem pgImp {t : Expr} {w w' : TG} (h : PG X t w) (i : ∀ v σ H Q, w' v σ H Q → w v σ H Q) : PG X t w' := ⟨fun pins s σ H v u Q I r q => h.run pins s σ H v u Q I r (i v σ H Q q)⟩
theorem pgsImp {ts : List Expr} {w w' : TGs} (h : PGs X ts w) (i : ∀ v σ H Q, w' v σ H Q → w v σ H Q) : PGs X ts w' := ⟨fun pins s σ H v u Q I r q => h.run pins s σ H v u Q I r (i v σ H Q q)⟩
theorem g_nm {i : Nat} {x : Str} (hN : X.N.Nodup) (hi : X.N[i]? = some x) (hx : Loc X.env.scope x) (hf : X.fn x = true ∨ X.env.scope.names.lookup x = some .local) : PG X (.Name x pos) (tgt X.K (.nm i)) := by
  refine pgImp (pg_name hN hi hx hf) fun y σ H Q h => ?_
  obtain ⟨φ, Z, v, m, d, v', s, r, hd, hc, e, h⟩ := h
  have e : (if i < v.length then some (v.set i (some (.d d))) else none) = some v' := e
  split at e
  · cases e
    exact h _ (r.put ⟨hd, hc⟩) (by simp) fun j hj => by
      have : i ≠ j := fun q => hj (by simp [Tg.sl, q])
      rw [List.getElem?_set_ne this]
  · cases e
theorem g_nil : PGs X [] (tgtL X.K .nil) := by
  refine pgsImp pgs_nil fun ys σ H Q h => ?_
  obtain ⟨φ, Z, v, m, l, v', s, r, hd, hc, e, h⟩ := h
  have e : setV.setAll .nil l v = some v' := e
  cases l with
  | cons x l => cases e
  | nil =>
    cases e
    cases hd
    exact ⟨rfl, h σ r rfl fun _ _ => rfl⟩
theorem g_cons {t u : Tg} {e : Expr} {es : List Expr} (h1 : PG X e (tgt X.K t)) (h2 : PGs X es (tgtL X.K u)) (hs : (assignEach (e :: es) X.env).map (·.2) = assign e X.env :: (assignEach es X.env).map (·.2)) : PGs X (e :: es) (tgtL X.K (.cons t u)) := by
  refine pgsImp (pgs_cons h1 h2 hs) fun ys σ H Q h => ?_
  obtain ⟨φ, Z, v, m, l, v', s, r, hd, hc, e, h⟩ := h
  cases l with
  | nil => cases e
  | cons d l =>
    cases hd with
    | cons hd hdl =>
      have e : ((setV t d v).bind fun v' => setV.setAll u l v') = some v' := e
      obtain ⟨v1, e1, e2⟩ := Option.bind_eq_some_iff.mp e
      simp only [PyData.canLayAll0, Bool.and_eq_true] at hc
      refine ⟨_, _, rfl, φ, Z, v, m, d, v1, s, r, hd, hc.1, e1, fun σ1 r1 l1 a1 => ?_⟩
      refine ⟨φ, Z, v1, m, l, v', s, r1, hdl, hc.2, e2, fun σ2 r2 l2 a2 => ?_⟩
      refine h σ2 r2 (l2.trans l1) fun i hi => ?_
      simp only [Tg.sl, List.mem_append, not_or] at hi
      rw [a2 i hi.2, a1 i hi.1]
/-- how many targets -/
def Tg.ln : Tg → Nat
  | .cons _ u => u.ln + 1
  | _ => 0
theorem setAll_ln : ∀ (t : Tg) (l : List PyData) (v v' : Vr), setV.setAll t l v = some v' → l.length = t.ln
  | .nil, [], _, _, _ => rfl
  | .cons t u, x :: r, v, v', e => by
    have e : ((setV t x v).bind fun v' => setV.setAll u r v') = some v' := e
    obtain ⟨v1, e1, e2⟩ := Option.bind_eq_some_iff.mp e
    rw [List.length_cons, setAll_ln u r v1 v' e2, Tg.ln]
  | .nil, _ :: _, _, _, e => by cases e
  | .cons _ _, [], _, _, e => by cases e
  | .nm _, l, _, _, e => by cases l <;> cases e
  | .tup _, l, _, _, e => by cases l <;> cases e
theorem g_tup {t : Tg} {es : List Expr} {k : Nat} (hc : X.calm = true) (h : PGs X es (tgtL X.K t)) (hn : (assignEach es X.env).length = t.ln) (hst : (assignEach es X.env).findIdx? (·.1) = none) : PG X (.Tuple es k pos) (tgt X.K (.tup t)) := by
  refine pgImp (pg_tup hc h hn hst) fun y σ H Q h => ?_
  obtain ⟨φ, Z, v, m, d, v', s, r, hd, hcl, e, h⟩ := h
  cases d with
  | tuple l =>
    have e : setV.setAll t l v = some v' := e
    cases hd with
    | tup h1 h2 => exact ⟨_, _, rfl, sqtMono hid_le h1.sq, (DpAll.len h2).trans (setAll_ln _ _ _ _ e), φ, Z, v, m, l, v', s, r, h2, by simpa [PyData.canLay0] using hcl, e, h⟩
  | _ => cases e
end
/-- a target without stars, of names and tuples -/
theorem asgEach_ne {e : Expr} (h : noStar e = true) (es : List Expr) (env : PySem.Env) : assignEach (e :: es) env = (false, assign e env) :: assignEach es env := by
  cases e <;> first | rfl | cases h
/-! ### comprehensions -/
abbrev noD (H : Hp) (D : Addr) : Hp := fun a => if a = D then none else H a
section
variable {K : Fg} {φ φ' : List Addr} {m m' : Mem} {H H' : Hp} {Z : List Addr}
theorem Gr.drop {D : Addr} (g : Gr φ m H φ' m' H') : Gr φ m (noD H D) φ' m' (noD H' D) := by
  obtain ⟨ψ, e, hn⟩ := g.pre
  refine ⟨⟨ψ, e, fun a ha => ?_⟩, g.dead, fun a o h n => ?_, fun a h => ?_⟩
  · show (if a = D then none else H a) = none
    split
    · rfl
    · exact hn a ha
  · have h : (if a = D then none else H a) = some o := h
    show (if a = D then none else H' a) = some o
    by_cases e : a = D
    · rw [if_pos e] at h; cases h
    · rw [if_neg e] at h ⊢
      exact g.keep a o h n
  · have h : (if a = D then none else H a) ≠ none := h
    show (if a = D then none else H' a) ≠ none
    by_cases e : a = D
    · rw [if_pos e] at h; exact absurd rfl h
    · rw [if_neg e] at h ⊢
      exact g.dom a h
theorem Gr.undrop {D : Addr} (g : Gr φ m H φ' m' (noD H' D)) : Gr φ m H φ' m' H' := by
  refine ⟨g.pre, g.dead, fun a o h n => ?_, fun a h => ?_⟩
  · have q := g.keep a o h n
    have q : (if a = D then none else H' a) = some o := q
    by_cases e : a = D
    · rw [if_pos e] at q; cases q
    · rw [if_neg e] at q; exact q
  · have q := g.dom a h
    have q : (if a = D then none else H' a) ≠ none := q
    by_cases e : a = D
    · rw [if_pos e] at q; exact absurd rfl q
    · rw [if_neg e] at q; exact q
theorem noD_upd {D : Addr} {o : HO} : noD (upd H D o) D = noD H D := by
  funext a
  show (if a = D then none else upd H D o a) = if a = D then none else H a
  by_cases e : a = D
  · rw [if_pos e, if_pos e]
  · rw [if_neg e, if_neg e, upd_ne e]
theorem noD_none {D : Addr} (h : H D = none) : noD H D = H := by
  funext a
  show (if a = D then none else H a) = H a
  by_cases e : a = D
  · rw [if_pos e, e, h]
  · rw [if_neg e]
theorem noD_back {D : Addr} {o : HO} (h : H D = some o) : upd (noD H D) D o = H := by
  funext a
  by_cases e : a = D
  · subst e; rw [upd_same, h]
  · rw [upd_ne e]
    show (if a = D then none else H a) = H a
    rw [if_neg e]
/-- with the new list out of sight -/
theorem Pst.hideD {α : Type} {Wx : WX} {σ σ2 : L2.St} {D : Addr} {G : α → List Addr → Mem → Hp → Prop} {r : Res α} (hz : D ∉ Z) (h : Pst K Wx σ Z φ m (noD H D) G (noX r)) :
    Pst K (fun _ _ _ _ => False) σ2 (D :: Z) φ m H (fun a φ' m' H' => G a φ' m' (noD H' D)) r := by
  cases r with
  | no => exact h
  | exc e m' => exact h.elim
  | ok a m' => exact fun φ' H' s' g' => h φ' _ (s'.drop hz).1 g'.drop
end
section
variable {X : Cx} {Wx : WX} {cf : CallF}
abbrev WF : WX := fun _ _ _ _ => False
theorem i_comp {K : Fg} {g : Tg} {it ti te : E} {vs : List Nat} (hsl : ∀ i ∈ g.sl, i ∈ vs) (σ : L2.St) (H : Hp) (Q : VK) (h : tFr K Wx (den cf (.comp g it ti te vs)) σ H Q) :
    tLc (tI K Wx (denI cf it)) (tgt K g) (tT K WF (denT cf ti)) (tE K WF (den cf te)) vs σ H Q := by
  obtain ⟨φ, Z, v, m, s, r, h⟩ := h
  refine ⟨φ, Z, v, m, s, r, (h.seq s.len).imp fun src φ1 m1 H1 _ s1 g1 h st J hJ D hD => ?_⟩
  by_cases hbig : sizeLine < src.list.length
  · rw [if_pos hbig] at h; exact h.elim
  rw [if_neg hbig] at h
  have hz : D ∉ Z := fun q => s1.zt D q hD
  have hHD : H D = none := by
    cases q : H D with
    | none => rfl
    | some o => exact absurd hD (g1.dom D (by rw [q]; simp))
  generalize hF : (fun (x : PyData) (m2 : Mem) => noX (match setV g x (wipeV v vs) with
      | some v1 => (denT cf ti v1 m2).bind fun t m3 => if t = true then (den cf te v1 m3).bind fun y m4 => optR ((asD y).map some) m4 else .ok none m3
      | none => .no)) = F at h
  generalize hl : src.list = l at h hbig
  -- what is wished at the end
  have h := h.seq s1.len
  let GG : List PyData → List Addr → Mem → Hp → Prop := fun zs φ' m' H' => ∀ p ws, H' p = none → DpAll K (hid φ' m' Z H') ws zs → PyData.canLayAll0 zs = true → Q (.ref p) (upd H' p (.lst ws))
  have h : Pst K Wx σ Z φ1 m1 H1 GG (compL src.stands F l m1) := h.imp fun zs φ' m' H' _ s' g' h p ws hp hd hcl => (h.here s').2 p ws zs rfl hp hd hcl
  refine ⟨fun i k Hh => k = l.length - i ∧ i ≤ l.length ∧ ∃ φi mi acc ds, SR K φi mi (D :: Z) Hh ∧ Gr φ1 m1 H1 φi mi Hh ∧ Hh D = some (.lst acc) ∧ DpAll K (hid φi mi (D :: Z) Hh) acc ds ∧ PyData.canLayAll0 ds = true ∧ ds.length ≤ i ∧
    Pst K Wx σ Z φi mi (noD Hh D) (fun ys φ' m' H' => GG (ds ++ ys) φ' m' H') (compL src.stands F (l.drop i) mi), ?_, ?_⟩
  · refine ⟨l.length, by simp, Nat.zero_le _, φ1, m1, [], [], (s1.hide hD _).1, ?_, upd_same, .nil, rfl, Nat.le_refl _, ?_⟩
    · exact Gr.undrop (D := D) (by rw [noD_upd, noD_none hD]; exact Gr.refl)
    · rw [noD_upd, noD_none hD]
      exact h
  rintro i k Hh ⟨rfl, hil, φi, mi, acc, ds, si, gi, hDi, hacc, hcds, hdl, hrest⟩
  have stnd : src.stands mi := by
    have q : Pst K Wx σ Z φi mi (noD Hh D) (fun ys φ' m' H' => GG (ds ++ ys) φ' m' H') (compL src.stands F (l.drop i) mi) := hrest
    by_cases ss : src.stands mi
    · exact ss
    · cases e : l.drop i with
      | nil => rw [e] at q; unfold compL at q; rw [if_neg ss] at q; exact q.elim
      | cons x rr => rw [e] at q; unfold compL at q; rw [if_neg ss] at q; exact q.elim
  have hzz : ∀ z ∈ D :: Z, z ∈ Z ∨ H1 z = none := fun z hzm => by
    rcases List.mem_cons.mp hzm with e | e
    · subst e; exact .inr hD
    · exact .inl e
  have hitem := hJ (D :: Z) φi mi Hh hzz si gi.er stnd
  by_cases hlt : i < l.length
  · have hx : l[i]? = some l[i] := by simp [hlt]
    obtain ⟨hgo, hy⟩ := hitem.1 i l[i] (by rw [hl]; exact hx)
    refine .inr ⟨hgo, fun H' => (i + 1 ≤ l.length ∧ ∃ φi mi acc ds, SR K φi mi (D :: Z) H' ∧ Gr φ1 m1 H1 φi mi H' ∧ H' D = some (.lst acc) ∧ DpAll K (hid φi mi (D :: Z) H') acc ds ∧ PyData.canLayAll0 ds = true ∧ ds.length ≤ i + 1 ∧
      Pst K Wx σ Z φi mi (noD H' D) (fun ys φ' m' H' => GG (ds ++ ys) φ' m' H') (compL src.stands F (l.drop (i + 1)) mi)), fun H' q => ⟨l.length - (i + 1), by omega, rfl, q⟩, fun x H' hyl => ?_⟩
    obtain ⟨s2, g2, hxd, hxc⟩ := hy x H' hyl
    have ed : l.drop i = l[i] :: l.drop (i + 1) := List.drop_eq_getElem_cons hlt
    rw [ed] at hrest
    unfold compL at hrest
    rw [if_pos stnd] at hrest
    have hrest := (hrest.shift (g2.drop (D := D)) si.len)
    have hstep := hrest.seq s2.len
    have hFx : F l[i] mi = noX (match setV g l[i] (wipeV v vs) with
      | some v1 => (denT cf ti v1 mi).bind fun t m3 => if t = true then (den cf te v1 m3).bind fun y m4 => optR ((asD y).map some) m4 else .ok none m3
      | none => .no) := by rw [← hF]
    rw [hFx] at hstep
    have hstep := hstep.hideD (σ2 := wipe σ vs) hz
    -- the target
    cases hsv : setV g l[i] (wipeV v vs) with
    | none => simp only [hsv] at hstep; exact hstep.elim
    | some v1 =>
      simp only [hsv] at hstep
      have gall : Gr φ m H φi mi H' := (g1.trans (gi.trans g2 s1.len) s.len)
      have rw1 : RV K φi (hid φi mi (D :: Z) H') (wipeV v vs) (wipe σ vs) := (gall.rv2 s.len (fun z hzm => by
        rcases List.mem_cons.mp hzm with e | e
        · subst e; exact .inr hHD
        · exact .inl e) r).wipe vs
      refine ⟨φi, D :: Z, wipeV v vs, mi, l[i], v1, s2, rw1, hxd, hxc, hsv, fun σ2 r2 l2 a2 => ⟨wipe_same (by rw [l2, wipe_length]) fun j hj => a2 j fun q => hj (hsl j q), ?_⟩⟩
      have hstep : Pst K (fun _ _ _ _ => False) σ2 (D :: Z) φi mi H' _ _ := hstep.wish fun _ _ _ f => f
      refine ⟨φi, D :: Z, v1, mi, s2, r2, (hstep.seq s2.len).imp fun b φ3 m3 H3 _ s3 g3 h3 => ?_⟩
      have gn : Gr φ1 m1 H1 φ3 m3 H3 := gi.trans (g2.trans g3 si.len) s1.len
      have hD3 : H3 D = some (.lst acc) := by
        have nl : ∀ {φ0 : List Addr} {m0 : Mem} {H0 : Hp}, SR K φ0 m0 (D :: Z) H0 → ¬ lv φ0 m0 D := fun s0 ⟨j, c, q1, _⟩ => s0.sep D (List.mem_of_getElem? q1) (by simp)
        exact g3.keep D _ (g2.keep D _ hDi (nl si)) (nl s2)
      have hacc3 : DpAll K (hid φ3 m3 (D :: Z) H3) acc ds := dpMonoL ((g2.trans g3 si.len).same si.len) _ _ hacc
      cases b with
      | false =>
        simp only [Bool.false_eq_true, if_false] at h3 ⊢
        have h3 := h3.here s3
        refine ⟨hlt, φ3, m3, acc, ds, s3, gn, hD3, hacc3, hcds, Nat.le_succ_of_le hdl, ?_⟩
        refine (h3.seq (s3.drop hz).1.len).imp (G2 := fun ys φ' m' H' => GG (ds ++ ys) φ' m' H') fun ys φ' m' H' _ s' g' q => ?_
        exact Pst.here (Wx := Wx) (σ := σ) s' q
      | true =>
        simp only [if_true] at h3 ⊢
        refine ⟨φ3, D :: Z, v1, m3, s3, g3.rv s2.len r2, (h3.seq s3.len).imp fun y φ4 m4 H4 _ s4 g4 h4 x4 rx4 => ?_⟩
        obtain ⟨o, eo, h4⟩ := h4.opt
        cases y with
        | ref n => cases eo
        | scr n => cases eo
        | exn n => cases eo
        | d z =>
          cases eo
          have h4 := h4.here s4
          have hD4 : H4 D = some (.lst acc) := g4.keep D _ hD3 fun ⟨j, c, q1, _⟩ => s3.sep D (List.mem_of_getElem? q1) (by simp)
          have hacc4 : DpAll K (hid φ4 m4 (D :: Z) H4) acc ds := dpMonoL (g4.same s3.len) _ _ hacc3
          refine ⟨acc, hD4, by rw [DpAll.len hacc]; omega, hlt, φ4, m4, acc ++ [x4], ds ++ [z], (s4.hset _).1, ?_, upd_same, ?_, canL_app hcds (by simp [PyData.canLayAll0, rx4.2]), by simp; exact hdl, ?_⟩
          · refine Gr.undrop (D := D) ?_
            rw [noD_upd]
            have q := (gn.trans g4 s1.len).drop (D := D)
            rw [noD_none hD] at q
            exact q
          · rw [(s4.hset _).2]
            exact hacc4.app (.cons rx4.1 .nil)
          · rw [noD_upd]
            refine (h4.seq (s4.drop hz).1.len).imp (G2 := fun ys φ' m' H' => GG (ds ++ [z] ++ ys) φ' m' H') fun ys φ' m' H' _ s' g' q => ?_
            have q := q.here s'
            rw [List.append_assoc]
            exact q
  · have e : i = l.length := by omega
    subst e
    refine .inl ⟨hitem.2 l.length (by rw [hl]; exact Nat.le_refl _), ?_⟩
    rw [List.drop_length] at hrest
    unfold compL at hrest
    rw [if_pos stnd] at hrest
    have q := hrest.here (si.drop hz).1 D acc (by show (if D = D then none else Hh D) = none; rw [if_pos rfl]) (by rw [(si.drop hz).2, List.append_nil]; exact hacc) (by rw [List.append_nil]; exact hcds)
    rw [noD_back hDi] at q
    exact q
theorem l_comp {elt tg iter : Expr} {ifs : List Expr} {scope : Scope} {own : List (Str × Nat)} {pos : Pos} {g : Tg} {it ti te : E} (hc : X.calm = true) (hN : X.N.Nodup) (hi : PI X tg iter (tI X.K Wx (denI cf it))) (ok : BlkOk X.N X.env.scope scope own)
    (hsl : ∀ i ∈ g.sl, i ∈ own.map (·.2))
    (hg : ∀ (s : Shared) (H : Hp) (C : Addr) (cl : List (Str × Addr)) (fp : List Addr), PG (X.blk s H scope (compEnvC scope cl C X.env) fp) tg (tgt X.K g))
    (ht : ∀ (s : Shared) (H : Hp) (C : Addr) (cl : List (Str × Addr)) (fp : List Addr), PTs (X.blk s H scope (compEnvC scope cl C X.env) fp) ifs (tT X.K WF (denT cf ti)))
    (he : ∀ (s : Shared) (H : Hp) (C : Addr) (cl : List (Str × Addr)) (fp : List Addr), PE (X.blk s H scope (compEnvC scope cl C X.env) fp) elt (tE X.K WF (den cf te))) (hs : ∀ x, foldedSetIterable iter X.env x = pure x) :
    PE X (.ListComp elt [⟨tg, iter, ifs, 0⟩] scope pos) (tFr X.K Wx (den cf (.comp g it ti te (own.map (·.2))))) :=
  peImp (pe_lc hc hN hi ok hg ht he hs) (i_comp hsl)
end
end MP
/-! MPJB: comprehensions with two clauses. -/
namespace MP
open PySem PySem.Spec PyProof.Rows L2
open Classical
section
variable {α : Type} {K : Fg} {Wx : WX} {σ σ2 : L2.St} {φ : List Addr} {m : Mem} {H : Hp} {Z : List Addr} {D : Addr} {G : α → List Addr → Mem → Hp → Prop} {r : Res α}
theorem Pst.unX (h : Pst K Wx σ Z φ m H G (noX r)) : Pst K WF σ2 Z φ m H G r := by
  cases r with
  | no => exact h
  | exc e m' => exact h.elim
  | ok a m' => exact h
theorem Pst.hideF (hz : D ∉ Z) (h : Pst K WF σ Z φ m (noD H D) G r) : Pst K WF σ2 (D :: Z) φ m H (fun a φ' m' H' => G a φ' m' (noD H' D)) r := by
  cases r with
  | no => exact h
  | exc e m' => exact fun φ' H' cls d s' g' x => h φ' _ cls d (s'.drop hz).1 g'.drop ⟨x.1, x.2.1, x.2.2.1, x.2.2.2.1, x.2.2.2.2⟩
  | ok a m' => exact fun φ' H' s' g' => h φ' _ (s'.drop hz).1 g'.drop
end
section
variable {K : Fg} {Wx : WX} {σ : L2.St} {Z φ1 : List Addr} {m1 : Mem} {H1 : Hp} {D : Addr}
theorem Gr.rv3 {φ φ' : List Addr} {m m' : Mem} {H H' : Hp} {v : Vr} (g : Gr φ m (erZ Z H) φ' m' (erZ Z H')) (l : φ.length = m.length) (h : RV K φ (hid φ m Z H) v σ) : RV K φ' (hid φ' m' Z H') v σ := by
  have sm := g.same3 (Z' := Z) l fun z hz => .inl hz
  refine ⟨h.len, fun i w e => ?_⟩
  obtain ⟨x, h1, h2⟩ := h.at_ i w e
  refine ⟨x, h1, ?_⟩
  cases w with
  | d y => exact ⟨dpMono sm _ _ h2.1, h2.2⟩
  | ref n =>
    obtain ⟨a, e, h⟩ := h2
    exact ⟨a, e, g.phi h⟩
  | scr n =>
    obtain ⟨a, e, h⟩ := h2
    exact ⟨a, e, Same.seq sm h⟩
  | exn n =>
    obtain ⟨a, e, h, k⟩ := h2
    exact ⟨a, e, sm _ _ h, k⟩
theorem erZ_upd {H : Hp} {o : HO} : erZ (D :: Z) (upd H D o) = erZ (D :: Z) H := by
  funext a
  unfold erZ
  by_cases e : a = D
  · subst e; rw [if_pos (by simp), if_pos (by simp)]
  · rw [upd_ne e]
/-- the new list at D, so far -/
structure So (K : Fg) (Z : List Addr) (D : Addr) (φ1 : List Addr) (m1 : Mem) (H1 : Hp) (φ : List Addr) (m : Mem) (H : Hp) (acc : List V) (ds : List PyData) : Prop where
  s : SR K φ m (D :: Z) H
  g : Gr φ1 m1 H1 φ m H
  d : H D = some (.lst acc)
  a : DpAll K (hid φ m (D :: Z) H) acc ds
  c : PyData.canLayAll0 ds = true
theorem So.go {φ φ' : List Addr} {m m' : Mem} {H H' : Hp} {acc : List V} {ds : List PyData} (o : So K Z D φ1 m1 H1 φ m H acc ds) (l : φ1.length = m1.length) (s' : SR K φ' m' (D :: Z) H') (g' : Gr φ m H φ' m' H') : So K Z D φ1 m1 H1 φ' m' H' acc ds :=
  ⟨s', o.g.trans g' l, g'.keep D _ o.d fun ⟨j, c, q, _⟩ => o.s.sep D (List.mem_of_getElem? q) (by simp), dpMonoL (g'.same o.s.len) _ _ o.a, o.c⟩
theorem So.app {φ : List Addr} {m : Mem} {H : Hp} {acc : List V} {ds : List PyData} {x : V} {z : PyData} (o : So K Z D φ1 m1 H1 φ m H acc ds) (hD : H1 D = none) (rx : RW K φ (hid φ m (D :: Z) H) (.d z) x) : So K Z D φ1 m1 H1 φ m (upd H D (.lst (acc ++ [x]))) (acc ++ [x]) (ds ++ [z]) := by
  refine ⟨(o.s.hset _).1, Gr.undrop (D := D) ?_, upd_same, ?_, canL_app o.c (by simp [PyData.canLayAll0, rx.2])⟩
  · rw [noD_upd]
    have q := o.g.drop (D := D)
    rw [noD_none hD] at q
    exact q
  · rw [(o.s.hset _).2]
    exact o.a.app (.cons rx.1 .nil)
end
section
variable {X : Cx} {Wx : WX} {cf : CallF}
theorem i_comp2 {K : Fg} {g g1 : Tg} {it ti it1 ti1 te : E} {vs vs1 : List Nat} (hsl : ∀ i ∈ g.sl, i ∈ vs) (hsl1 : ∀ i ∈ g1.sl, i ∈ vs1) (σ : L2.St) (H : Hp) (Q : VK) (h : tFr K Wx (den cf (.comp2 g it ti g1 it1 ti1 te vs vs1)) σ H Q) :
    tLc2 (tI K Wx (denI cf it)) (tgt K g) (tT K WF (denT cf ti)) (tI K WF (denI cf it1)) (tgt K g1) (tT K WF (denT cf ti1)) (tE K WF (den cf te)) vs vs1 σ H Q := by
  obtain ⟨φ, Z, v, m, s, r, h⟩ := h
  refine ⟨φ, Z, v, m, s, r, (h.seq s.len).imp fun src φ1 m1 H1 _ s1 gg1 h st J hJ D hD => ?_⟩
  by_cases hbig : 10000 < src.list.length
  · rw [if_pos hbig] at h; exact h.elim
  rw [if_neg hbig] at h
  have hz : D ∉ Z := fun q => s1.zt D q hD
  have hHD : H D = none := by
    cases q : H D with
    | none => rfl
    | some o => exact absurd hD (gg1.dom D (by rw [q]; simp))
  have hzz : ∀ {A : Hp}, A D = none → ∀ z ∈ D :: Z, z ∈ Z ∨ A z = none := fun hA z hzm => by
    rcases List.mem_cons.mp hzm with e | e
    · subst e; exact .inr hA
    · exact .inl e
  generalize hF : (fun (x : PyData) (m2 : Mem) => noX (match setV g x (wipeV v vs) with
      | some v1 => (denT cf ti v1 m2).bind fun t m3 => if t = true then (denI cf it1 v1 m3).bind fun s1 m4 => if 1000 < s1.list.length then .no else compL s1.stands (fun x m5 => noX (match setV g1 x (wipeV v1 vs1) with
        | some v2 => (denT cf ti1 v2 m5).bind fun t m6 => if t = true then (den cf te v2 m6).bind fun y m7 => optR ((asD y).map some) m7 else .ok none m6
        | none => .no)) s1.list m4 else .ok [] m3
      | none => .no)) = F at h
  generalize hl : src.list = l at h hbig
  have h := h.seq s1.len
  let GG : List PyData → List Addr → Mem → Hp → Prop := fun zs φ' m' H' => ∀ p ws, H' p = none → DpAll K (hid φ' m' Z H') ws zs → PyData.canLayAll0 zs = true → Q (.ref p) (upd H' p (.lst ws))
  have h : Pst K Wx σ Z φ1 m1 H1 GG (compLL src.stands F l m1) := h.imp fun zs φ' m' H' _ s' g' h p ws hp hd hcl => (h.here s').2 p ws zs rfl hp hd hcl
  have Hd : noD H1 D = H1 := noD_none hD
  refine ⟨fun i k Hh => k = l.length - i ∧ i ≤ l.length ∧ ∃ φi mi acc ds, So K Z D φ1 m1 H1 φi mi Hh acc ds ∧ ds.length ≤ 1000 * i ∧ Pst K Wx σ Z φi mi (noD Hh D) (fun ys φ' m' H' => GG (ds ++ ys) φ' m' H') (compLL src.stands F (l.drop i) mi), ?_, ?_⟩
  · refine ⟨l.length, by simp, Nat.zero_le _, φ1, m1, [], [], ⟨(s1.hide hD _).1, ?_, upd_same, .nil, rfl⟩, Nat.le_refl _, ?_⟩
    · exact Gr.undrop (D := D) (by rw [noD_upd, Hd]; exact Gr.refl)
    · rw [noD_upd, Hd]
      exact h
  rintro i k Hh ⟨rfl, hil, φi, mi, acc, ds, so, hdl, hrest⟩
  have stnd : src.stands mi := by
    by_cases ss : src.stands mi
    · exact ss
    · cases e : l.drop i with
      | nil => rw [e] at hrest; unfold compLL at hrest; rw [if_neg ss] at hrest; exact hrest.elim
      | cons x rr => rw [e] at hrest; unfold compLL at hrest; rw [if_neg ss] at hrest; exact hrest.elim
  have hitem := hJ (D :: Z) φi mi Hh (hzz hD) so.s so.g.er stnd
  by_cases hlt : i < l.length
  · have hx : l[i]? = some l[i] := by simp [hlt]
    obtain ⟨hgo, hy⟩ := hitem.1 i l[i] (by rw [hl]; exact hx)
    refine .inr ⟨hgo, fun H' => (i + 1 ≤ l.length ∧ ∃ φi mi acc ds, So K Z D φ1 m1 H1 φi mi H' acc ds ∧ ds.length ≤ 1000 * (i + 1) ∧ Pst K Wx σ Z φi mi (noD H' D) (fun ys φ' m' H' => GG (ds ++ ys) φ' m' H') (compLL src.stands F (l.drop (i + 1)) mi)), fun H' q => ⟨l.length - (i + 1), by omega, rfl, q⟩, fun x H' hyl => ?_⟩
    obtain ⟨s2, g2, hxd, hxc⟩ := hy x H' hyl
    have ed : l.drop i = l[i] :: l.drop (i + 1) := List.drop_eq_getElem_cons hlt
    rw [ed] at hrest
    unfold compLL at hrest
    rw [if_pos stnd] at hrest
    have so2 := so.go s1.len s2 g2
    have hstep := (hrest.shift (g2.drop (D := D)) so.s.len).seq s2.len
    have hFx : F l[i] mi = noX (match setV g l[i] (wipeV v vs) with
      | some v1 => (denT cf ti v1 mi).bind fun t m3 => if t = true then (denI cf it1 v1 m3).bind fun s1 m4 => if 1000 < s1.list.length then .no else compL s1.stands (fun x m5 => noX (match setV g1 x (wipeV v1 vs1) with
        | some v2 => (denT cf ti1 v2 m5).bind fun t m6 => if t = true then (den cf te v2 m6).bind fun y m7 => optR ((asD y).map some) m7 else .ok none m6
        | none => .no)) s1.list m4 else .ok [] m3
      | none => .no) := by rw [← hF]
    rw [hFx] at hstep
    have hstep := hstep.unX (σ2 := σ)
    cases hsv : setV g l[i] (wipeV v vs) with
    | none => simp only [hsv] at hstep; exact hstep.elim
    | some v1 =>
      simp only [hsv] at hstep
      have gall : Gr φ m H φi mi H' := gg1.trans (so2.g) s.len
      have rw1 : RV K φi (hid φi mi (D :: Z) H') (wipeV v vs) (wipe σ vs) := (gall.rv2 s.len (hzz hHD) r).wipe vs
      refine ⟨φi, D :: Z, wipeV v vs, mi, l[i], v1, s2, rw1, hxd, hxc, hsv, fun σ2 r2 l2 a2 => ⟨wipe_same (by rw [l2, wipe_length]) fun j hj => a2 j fun q => hj (hsl j q), ?_⟩⟩
      refine ⟨φi, D :: Z, v1, mi, s2, r2, ((hstep.seq s2.len).hideF (σ2 := σ2) hz).imp fun b φ3 m3 H3 _ s3 g3 h3 => ?_⟩
      have so3 := so2.go s1.len s3 g3
      have r3 := g3.rv s2.len r2
      cases b with
      | false =>
        simp only [Bool.false_eq_true, if_false] at h3 ⊢
        have h3 := h3.here (s3.drop hz).1
        refine ⟨hlt, φ3, m3, acc, ds, so3, by omega, ?_⟩
        refine (h3.seq (s3.drop hz).1.len).imp (G2 := fun ys φ' m' H' => GG (ds ++ ys) φ' m' H') fun ys φ' m' H' _ s' g' q => ?_
        exact Pst.here (Wx := Wx) (σ := σ) s' q
      | true =>
        simp only [if_true] at h3 ⊢
        refine ⟨φ3, D :: Z, v1, m3, s3, r3, ((h3.seq (s3.drop hz).1.len).hideF (σ2 := σ2) hz).imp fun src1 φ4 m4 H4 _ s4 g4 h4 st1 J1 hJ1 => ?_⟩
        by_cases hb1 : 1000 < src1.list.length
        · rw [if_pos hb1] at h4; exact h4.elim
        rw [if_neg hb1] at h4
        have so4 := so3.go s1.len s4 g4
        have r4 := g4.rv s3.len r3
        generalize hF1 : (fun (x : PyData) (m5 : Mem) => noX (match setV g1 x (wipeV v1 vs1) with
          | some v2 => (denT cf ti1 v2 m5).bind fun t m6 => if t = true then (den cf te v2 m6).bind fun y m7 => optR ((asD y).map some) m7 else .ok none m6
          | none => .no)) = F1 at h4
        generalize hl1 : src1.list = l1 at h4 hb1
        generalize hGx : (fun (a : List PyData) (φ' : List Addr) (m' : Mem) (H' : Hp) => Pst K Wx σ Z φ' m' H' (fun ys φ' m' H' => GG (ds ++ ys) φ' m' H') ((compLL src.stands F (l.drop (i + 1)) m').bind fun zs m2 => Res.ok (a ++ zs) m2)) = Gx at h4
        refine ⟨fun j k Hh => k = l1.length - j ∧ j ≤ l1.length ∧ ∃ φj mj acc es, So K Z D φ1 m1 H1 φj mj Hh acc (ds ++ es) ∧ es.length ≤ j ∧ Gr φ4 m4 (erZ (D :: Z) H4) φj mj (erZ (D :: Z) Hh) ∧ Pst K WF σ Z φj mj (noD Hh D) (fun ys φ' m' H' => Gx (es ++ ys) φ' m' H') (compL src1.stands F1 (l1.drop j) mj), ?_, ?_⟩
        · exact ⟨l1.length, by simp, Nat.zero_le _, φ4, m4, acc, [], by rw [List.append_nil]; exact so4, Nat.le_refl _, Gr.refl, h4⟩
        rintro j k Hj ⟨rfl, hjl, φj, mj, accj, es, soj, hel, ger, hrj⟩
        have st2 : src1.stands mj := by
          by_cases ss : src1.stands mj
          · exact ss
          · cases e : l1.drop j with
            | nil => rw [e] at hrj; unfold compL at hrj; rw [if_neg ss] at hrj; exact hrj.elim
            | cons x rr => rw [e] at hrj; unfold compL at hrj; rw [if_neg ss] at hrj; exact hrj.elim
        have hit1 := hJ1 (D :: Z) φj mj Hj (fun z hz => .inl hz) soj.s ger st2
        by_cases hjt : j < l1.length
        · have hx1 : l1[j]? = some l1[j] := by simp [hjt]
          obtain ⟨hgo1, hy1⟩ := hit1.1 j l1[j] (by rw [hl1]; exact hx1)
          refine .inr ⟨hgo1, fun H' => (j + 1 ≤ l1.length ∧ ∃ φj mj acc es, So K Z D φ1 m1 H1 φj mj H' acc (ds ++ es) ∧ es.length ≤ j + 1 ∧ Gr φ4 m4 (erZ (D :: Z) H4) φj mj (erZ (D :: Z) H') ∧ Pst K WF σ Z φj mj (noD H' D) (fun ys φ' m' H' => Gx (es ++ ys) φ' m' H') (compL src1.stands F1 (l1.drop (j + 1)) mj)), fun H' q => ⟨l1.length - (j + 1), by omega, rfl, q⟩, fun x1 H5 hyl1 => ?_⟩
          obtain ⟨s5, g5, hxd1, hxc1⟩ := hy1 x1 H5 hyl1
          have ed1 : l1.drop j = l1[j] :: l1.drop (j + 1) := List.drop_eq_getElem_cons hjt
          rw [ed1] at hrj
          unfold compL at hrj
          rw [if_pos st2] at hrj
          have so5 := soj.go s1.len s5 g5
          have ge5 := ger.trans g5.er s4.len
          have hs1 := (hrj.shift (g5.drop (D := D)) soj.s.len).seq s5.len
          have hF1x : F1 l1[j] mj = noX (match setV g1 l1[j] (wipeV v1 vs1) with
            | some v2 => (denT cf ti1 v2 mj).bind fun t m6 => if t = true then (den cf te v2 m6).bind fun y m7 => optR ((asD y).map some) m7 else .ok none m6
            | none => .no) := by rw [← hF1]
          rw [hF1x] at hs1
          have hs1 := hs1.unX (σ2 := σ)
          cases hsv1 : setV g1 l1[j] (wipeV v1 vs1) with
          | none => simp only [hsv1] at hs1; exact hs1.elim
          | some v2 =>
            simp only [hsv1] at hs1
            have rw5 : RV K φj (hid φj mj (D :: Z) H5) (wipeV v1 vs1) (wipe σ2 vs1) := (Gr.rv3 ge5 s4.len r4).wipe vs1
            refine ⟨φj, D :: Z, wipeV v1 vs1, mj, l1[j], v2, s5, rw5, hxd1, hxc1, hsv1, fun σ3 r5 l5 a5 => ⟨wipe_same (by rw [l5, wipe_length]) fun q hq => a5 q fun w => hq (hsl1 q w), ?_⟩⟩
            refine ⟨φj, D :: Z, v2, mj, s5, r5, ((hs1.seq s5.len).hideF (σ2 := σ3) hz).imp fun b φ6 m6 H6 _ s6 g6 h6 => ?_⟩
            have so6 := so5.go s1.len s6 g6
            have ge6 := ge5.trans g6.er s4.len
            cases b with
            | false =>
              simp only [Bool.false_eq_true, if_false] at h6 ⊢
              have h6 := h6.here (s6.drop hz).1
              refine ⟨hjt, φ6, m6, accj, es, so6, by omega, ge6, ?_⟩
              refine (h6.seq (s6.drop hz).1.len).imp (G2 := fun ys φ' m' H' => Gx (es ++ ys) φ' m' H') fun ys φ' m' H' _ s' g' q => ?_
              exact Pst.here (Wx := WF) (σ := σ) s' q
            | true =>
              simp only [if_true] at h6 ⊢
              refine ⟨φ6, D :: Z, v2, m6, s6, g6.rv s5.len r5, ((h6.seq (s6.drop hz).1.len).hideF (σ2 := σ3) hz).imp fun y φ7 m7 H7 _ s7 g7 h7 x7 rx7 => ?_⟩
              obtain ⟨o, eo, h7⟩ := h7.opt
              cases y with
              | ref n => cases eo
              | scr n => cases eo
              | exn n => cases eo
              | d z =>
                cases eo
                have so7 := so6.go s1.len s7 g7
                have ge7 := ge6.trans g7.er s4.len
                have h7 := h7.here (s7.drop hz).1
                have hlen := DpAll.len so7.a
                have so8 := so7.app hD rx7
                refine ⟨accj, so7.d, by rw [hlen, List.length_append, sizeLine_eq]; omega, hjt, φ7, m7, accj ++ [x7], es ++ [z], by rw [← List.append_assoc]; exact so8, by simp; exact hel, by rw [erZ_upd]; exact ge7, ?_⟩
                rw [noD_upd]
                refine (h7.seq (s7.drop hz).1.len).imp (G2 := fun ys φ' m' H' => Gx (es ++ [z] ++ ys) φ' m' H') fun ys φ' m' H' _ s' g' q => ?_
                have q := Pst.here (Wx := WF) (σ := σ) s' q
                rw [List.append_assoc]
                exact q
        · have e : j = l1.length := by omega
          subst e
          refine .inl ⟨hit1.2 l1.length (by rw [hl1]; exact Nat.le_refl _), ?_⟩
          rw [List.drop_length] at hrj
          unfold compL at hrj
          rw [if_pos st2] at hrj
          have q := hrj.here (soj.s.drop hz).1
          rw [← hGx, List.append_nil] at q
          refine ⟨hlt, φj, mj, accj, ds ++ es, soj, by rw [List.length_append]; omega, ?_⟩
          refine (Pst.seq (soj.s.drop hz).1.len q).imp (G2 := fun ys φ' m' H' => GG (ds ++ es ++ ys) φ' m' H') fun ys φ' m' H' _ s' g' q => ?_
          have q := Pst.here (Wx := Wx) (σ := σ) s' q
          rw [List.append_assoc]
          exact q
  · have e : i = l.length := by omega
    subst e
    refine .inl ⟨hitem.2 l.length (by rw [hl]; exact Nat.le_refl _), ?_⟩
    rw [List.drop_length] at hrest
    unfold compLL at hrest
    rw [if_pos stnd] at hrest
    have q := hrest.here (so.s.drop hz).1 D acc (by show (if D = D then none else Hh D) = none; rw [if_pos rfl]) (by rw [(so.s.drop hz).2, List.append_nil]; exact so.a) (by rw [List.append_nil]; exact so.c)
    rw [noD_back so.d] at q
    exact q
theorem l_comp2 {elt tg iter tg1 iter1 : Expr} {ifs ifs1 : List Expr} {scope : Scope} {own : List (Str × Nat)} {vs1 : List Nat} {pos : Pos} {g g1 : Tg} {it ti it1 ti1 te : E} (hc : X.calm = true) (hN : X.N.Nodup) (hi : PI X tg iter (tI X.K Wx (denI cf it))) (ok : BlkOk X.N X.env.scope scope own) (hv : ∀ i ∈ vs1, i ∈ own.map (·.2))
    (hsl : ∀ i ∈ g.sl, i ∈ own.map (·.2)) (hsl1 : ∀ i ∈ g1.sl, i ∈ vs1)
    (hg : ∀ (s : Shared) (H : Hp) (C : Addr) (cl : List (Str × Addr)) (fp : List Addr), PG (X.blk s H scope (compEnvC scope cl C X.env) fp) tg (tgt X.K g))
    (ht : ∀ (s : Shared) (H : Hp) (C : Addr) (cl : List (Str × Addr)) (fp : List Addr), PTs (X.blk s H scope (compEnvC scope cl C X.env) fp) ifs (tT X.K WF (denT cf ti)))
    (hi1 : ∀ (s : Shared) (H : Hp) (C : Addr) (cl : List (Str × Addr)) (fp : List Addr), PI (X.blk s H scope (compEnvC scope cl C X.env) fp) tg1 iter1 (tI X.K WF (denI cf it1)))
    (hg1 : ∀ (s : Shared) (H : Hp) (C : Addr) (cl : List (Str × Addr)) (fp : List Addr), PG (X.blk s H scope (compEnvC scope cl C X.env) fp) tg1 (tgt X.K g1))
    (ht1 : ∀ (s : Shared) (H : Hp) (C : Addr) (cl : List (Str × Addr)) (fp : List Addr), PTs (X.blk s H scope (compEnvC scope cl C X.env) fp) ifs1 (tT X.K WF (denT cf ti1)))
    (he : ∀ (s : Shared) (H : Hp) (C : Addr) (cl : List (Str × Addr)) (fp : List Addr), PE (X.blk s H scope (compEnvC scope cl C X.env) fp) elt (tE X.K WF (den cf te))) (hs : ∀ x, foldedSetIterable iter X.env x = pure x) (hs1 : ∀ env x, foldedSetIterable iter1 env x = pure x) :
    PE X (.ListComp elt [⟨tg, iter, ifs, 0⟩, ⟨tg1, iter1, ifs1, 0⟩] scope pos) (tFr X.K Wx (den cf (.comp2 g it ti g1 it1 ti1 te (own.map (·.2)) vs1))) :=
  peImp (pe_lc2 hc hN hi ok hv hg ht hi1 hg1 ht1 he hs hs1) (i_comp2 hsl hsl1)
end
end MP
/-! MPK: statements. -/
namespace MP
open PySem PySem.Spec PyProof.Rows L2
open Classical
/-- what is wished behind a statement -/
def PstS (K : Fg) (Wx : WX) (Z : List Addr) (φ : List Addr) (m : Mem) (H : Hp) (D : Ends) : RS → Prop
  | .nx v' m' => ∀ φ' H' σ', SR K φ' m' Z H' → Gr φ m H φ' m' H' → RV K φ' (hid φ' m' Z H') v' σ' → D.nx σ' H'
  | .rt w m' => ∀ φ' H' x, SR K φ' m' Z H' → Gr φ m H φ' m' H' → RW K φ' (hid φ' m' Z H') w x → D.rt x H'
  | .bk v' m' => ∀ φ' H' σ', SR K φ' m' Z H' → Gr φ m H φ' m' H' → RV K φ' (hid φ' m' Z H') v' σ' → D.bk σ' H'
  | .ct v' m' => ∀ φ' H' σ', SR K φ' m' Z H' → Gr φ m H φ' m' H' → RV K φ' (hid φ' m' Z H') v' σ' → D.ct σ' H'
  | .exc e v' m' => ∀ φ' H' σ' cls d, SR K φ' m' Z H' → Gr φ m H φ' m' H' → RV K φ' (hid φ' m' Z H') v' σ' → XR K e cls d H' → Wx cls d σ' H'
  | .no => False
def tS (K : Fg) (Wx : WX) (f : Vr → Mem → RS) : TS := fun D σ H => ∃ φ Z v m, SR K φ m Z H ∧ RV K φ (hid φ m Z H) v σ ∧ PstS K Wx Z φ m H D (f v m)
section
variable {α : Type} {K : Fg} {Wx : WX} {σ : L2.St} {Z φ φ1 : List Addr} {m m1 : Mem} {H H1 : Hp} {D : Ends} {v : Vr}
theorem PstS.shift {r : RS} (h : PstS K Wx Z φ m H D r) (g : Gr φ m H φ1 m1 H1) (l : φ.length = m.length) : PstS K Wx Z φ1 m1 H1 D r := by
  cases r with
  | no => exact h
  | nx v' m' => exact fun φ' H' σ' s' g' => h φ' H' σ' s' (g.trans g' l)
  | bk v' m' => exact fun φ' H' σ' s' g' => h φ' H' σ' s' (g.trans g' l)
  | ct v' m' => exact fun φ' H' σ' s' g' => h φ' H' σ' s' (g.trans g' l)
  | rt w m' => exact fun φ' H' x s' g' => h φ' H' x s' (g.trans g' l)
  | exc e v' m' => exact fun φ' H' σ' cls d s' g' => h φ' H' σ' cls d s' (g.trans g' l)
theorem PstS.toS {r : Res α} {f : α → Mem → RS} (l : φ.length = m.length) (rv : RV K φ (hid φ m Z H) v σ) (h : PstS K Wx Z φ m H D (r.toS v f)) : Pst K Wx σ Z φ m H (fun a φ1 m1 H1 => PstS K Wx Z φ1 m1 H1 D (f a m1)) r := by
  cases r with
  | no => exact h
  | ok a m' => exact fun φ' H' s' g' => PstS.shift h g' l
  | exc e m' => exact fun φ' H' cls d s' g' x => h φ' H' σ cls d s' g' (g'.rv l rv) x
theorem PstS.org {o : Option RS} (h : PstS K Wx Z φ m H D (orNo o)) : ∃ a, o = some a ∧ PstS K Wx Z φ m H D a := by
  cases o with
  | none => exact h.elim
  | some a => exact ⟨a, rfl, h⟩
theorem PstS.here {v' : Vr} (s : SR K φ m Z H) (r : RV K φ (hid φ m Z H) v' σ) (h : PstS K Wx Z φ m H D (.nx v' m)) : D.nx σ H := h φ H σ s Gr.refl r
end
section
variable {X : Cx} {Wx : WX} {cf : CallF} {pos : Pos} {e a b c tg it : Expr} {st : Stmt} {rest : List Stmt} {s t : S} {E1 E2 E3 : E}
theorem psImp {t t' : TS} (h : PS X st t) (i : ∀ D σ H, t' D σ H → t D σ H) : PS X st t' := ⟨fun pins s σ H D I q => h.run pins s σ H D I (i D σ H q)⟩
theorem pssImp {t t' : TS} (h : PSs X rest t) (i : ∀ D σ H, t' D σ H → t D σ H) : PSs X rest t' := ⟨fun pins s σ H D I q => h.run pins s σ H D I (i D σ H q)⟩
theorem i_next (D : Ends) (σ : L2.St) (H : Hp) (h : tS X.K Wx (denS cf .skip) D σ H) : tNext D σ H := by
  obtain ⟨φ, Z, v, m, s, r, h⟩ := h
  exact h.here s r
theorem p_nil : PSs X [] (tS X.K Wx (denS cf .skip)) := pssImp pss_nil i_next
theorem p_pass : PS X (.Pass pos) (tS X.K Wx (denS cf .skip)) := psImp ps_pass i_next
theorem p_doc {x : Str} {j : Nat} {p2 : Pos} : PS X (.Expr (.Constant (.str x) j pos) p2) (tS X.K Wx (denS cf .skip)) := psImp ps_doc i_next
theorem denS_seq : denS cf (.seq s t) = fun v m => match denS cf s v m with
    | .nx v1 m1 => denS cf t v1 m1
    | o => o := by funext v m; rfl
theorem p_seq (h1 : PS X st (tS X.K Wx (denS cf s))) (h2 : PSs X rest (tS X.K Wx (denS cf t))) : PSs X (st :: rest) (tS X.K Wx (denS cf (.seq s t))) := by
  refine pssImp (pss_cons h1 h2) fun D σ H h => ?_
  obtain ⟨φ, Z, v, m, s0, r, h⟩ := h
  refine ⟨φ, Z, v, m, s0, r, ?_⟩
  rw [denS_seq] at h
  cases q : denS cf s v m with
  | no => simp only [q] at h; exact h
  | nx v1 m1 =>
    simp only [q] at h
    exact fun φ' H' σ' s' g' r' => ⟨φ', Z, v1, m1, s', r', h.shift g' s0.len⟩
  | bk v1 m1 => simp only [q] at h; exact h
  | ct v1 m1 => simp only [q] at h; exact h
  | rt w m1 => simp only [q] at h; exact h
  | exc x v1 m1 => simp only [q] at h; exact h
theorem p_brk : PS X (.Break pos) (tS X.K Wx (denS cf .brk)) := psImp ps_break fun D σ H h => by
  obtain ⟨φ, Z, v, m, s, r, h⟩ := h
  exact h φ H σ s Gr.refl r
theorem p_cnt : PS X (.Continue pos) (tS X.K Wx (denS cf .cnt)) := psImp ps_continue fun D σ H h => by
  obtain ⟨φ, Z, v, m, s, r, h⟩ := h
  exact h φ H σ s Gr.refl r
theorem p_ex (he : PE X e (tE X.K Wx (den cf E1))) (hs : swapsWith e none pos.line X.env = pure false) : PS X (.Expr e pos) (tS X.K Wx (denS cf (.ex E1))) := psImp (ps_expr he hs) fun D σ H h => by
  obtain ⟨φ, Z, v, m, s, r, h⟩ := h
  exact ⟨φ, Z, v, m, s, r, (PstS.toS s.len r h).imp fun w φ1 m1 H1 _ s1 g1 h x rx => h.here s1 (g1.rv s.len r)⟩
theorem p_ret (he : PE X e (tE X.K Wx (den cf E1))) : PS X (.Return (some e) pos) (tS X.K Wx (denS cf (.ret E1))) := psImp (ps_ret he) fun D σ H h => by
  obtain ⟨φ, Z, v, m, s, r, h⟩ := h
  exact ⟨φ, Z, v, m, s, r, (PstS.toS s.len r h).imp fun w φ1 m1 H1 _ s1 g1 h x rx => h φ1 H1 x s1 Gr.refl rx⟩
theorem p_retN : PS X (.Return none pos) (tS X.K Wx (denS cf (.ret (.lit .none)))) := psImp ps_retN fun D σ H h => by
  obtain ⟨φ, Z, v, m, s, r, h⟩ := h
  exact h φ H .non s Gr.refl ⟨.non, rfl⟩
theorem p_if {p q : List Stmt} (hc : PT X c (tT X.K Wx (denB cf E1))) (ha : PSs X p (tS X.K Wx (denS cf s))) (hb : PSs X q (tS X.K Wx (denS cf t))) : PS X (.If c p q pos) (tS X.K Wx (denS cf (.ite E1 s t))) := psImp (ps_if hc ha hb) fun D σ H h => by
  obtain ⟨φ, Z, v, m, s0, r, h⟩ := h
  refine ⟨φ, Z, v, m, s0, r, ?_⟩
  have h : PstS X.K Wx Z φ m H D ((den cf E1 v m).toS v fun x m1 => orNo ((vw m1 x).bind fun p => (truF p).map fun b => if b then denS cf s v m1 else denS cf t v m1)) := h
  show Pst _ _ _ _ _ _ _ _ ((den cf E1 v m).bind fun x m1 => optR ((vw m1 x).bind truF) m1)
  cases qd : den cf E1 v m with
  | no => rw [qd] at h; exact h
  | exc x m1 => rw [qd] at h; exact PstS.toS (r := (.exc x m1 : Res W)) (f := fun _ _ => .no) s0.len r h
  | ok w m1 =>
    rw [qd] at h
    have h : PstS X.K Wx Z φ m H D (orNo ((vw m1 w).bind fun p => (truF p).map fun b => if b then denS cf s v m1 else denS cf t v m1)) := h
    obtain ⟨o, eo, h⟩ := h.org
    obtain ⟨p, e1, e2⟩ := Option.bind_eq_some_iff.mp eo
    obtain ⟨k, e3, e4⟩ := Option.map_eq_some_iff.mp e2
    have e5 : optR ((vw m1 w).bind truF) m1 = .ok k m1 := by rw [e1]; show optR (truF p) m1 = _; rw [e3]; rfl
    show Pst _ _ _ _ _ _ _ _ (optR ((vw m1 w).bind truF) m1)
    rw [e5]
    intro φ1 H1 s1 g1
    subst e4
    have h := h.shift g1 s0.len
    cases k with
    | true => exact ⟨φ1, Z, v, m1, s1, g1.rv s0.len r, h⟩
    | false => exact ⟨φ1, Z, v, m1, s1, g1.rv s0.len r, h⟩
theorem i_set {i : Nat} {D : Ends} {σ : L2.St} {H : Hp} (h : tS X.K Wx (denS cf (.set i E1)) D σ H) : tE X.K Wx (den cf E1) σ H (fun x H1 => D.nx (σ.set i (some x)) H1) := by
  obtain ⟨φ, Z, v, m, s0, r, h⟩ := h
  refine ⟨φ, Z, v, m, s0, r, (PstS.toS s0.len r h).imp fun w φ1 m1 H1 _ s1 g1 h x rx => ?_⟩
  have h : PstS X.K Wx Z φ1 m1 H1 D (if i < v.length then .nx (v.set i (some w)) m1 else .no) := h
  split at h
  · exact h.here s1 ((g1.rv s0.len r).put rx)
  · exact h.elim
theorem i_new {i : Nat} {D : Ends} {σ : L2.St} {H : Hp} (h : tS X.K Wx (denS cf (.new i E1)) D σ H) : tE X.K Wx (fun v m => (den cf E1 v m).bind fun w m1 => newC true w m1) σ H (fun x H1 => D.nx (σ.set i (some x)) H1) := by
  obtain ⟨φ, Z, v, m, s0, r, h⟩ := h
  have e : denS cf (.new i E1) v m = (((den cf E1 v m).bind fun w m1 => newC true w m1).toS v fun w2 m2 => putV i w2 v m2) := by
    show ((den cf E1 v m).toS v fun w m1 => (newC true w m1).toS v fun w2 m2 => putV i w2 v m2) = _
    cases den cf E1 v m <;> rfl
  rw [e] at h
  refine ⟨φ, Z, v, m, s0, r, (PstS.toS s0.len r h).imp fun w φ1 m1 H1 _ s1 g1 h x rx => ?_⟩
  have h : PstS X.K Wx Z φ1 m1 H1 D (if i < v.length then .nx (v.set i (some w)) m1 else .no) := h
  split at h
  · exact h.here s1 ((g1.rv s0.len r).put rx)
  · exact h.elim
theorem p_set {i : Nat} {x : Str} {p2 : Pos} (hN : X.N.Nodup) (hi : X.N[i]? = some x) (hx : Loc X.env.scope x) (hf : X.fn x = true ∨ X.env.scope.names.lookup x = some .local) (he : PE X e (tE X.K Wx (den cf E1))) (hs : swapsWith e (some (.Name x p2)) pos.line X.env = pure false) :
    PS X (.Assign [.Name x p2] e pos) (tS X.K Wx (denS cf (.set i E1))) := psImp (ps_set hN hi hx he hs hf) fun D σ H h => i_set h
theorem p_new {i : Nat} {x : Str} {p2 : Pos} (hN : X.N.Nodup) (hi : X.N[i]? = some x) (hx : Loc X.env.scope x) (hf : X.fn x = true ∨ X.env.scope.names.lookup x = some .local) (he : PE X e (tFr X.K Wx (den cf E1))) (hs : swapsWith e (some (.Name x p2)) pos.line X.env = pure false) :
    PS X (.Assign [.Name x p2] e pos) (tS X.K Wx (denS cf (.new i E1))) := psImp (ps_set hN hi hx he hs hf) fun D σ H h => i_ofFrNew _ _ _ (i_new h)
theorem comp_list {g : Tg} {it ti te : E} {vs : List Nat} {v : Vr} {m m' : Mem} {w : W} (h : den cf (.comp g it ti te vs) v m = .ok w m') : ∃ l, w = .d (.list l) := by
  obtain ⟨s, m1, h1, h2⟩ := bindOk h
  split at h2
  · cases h2
  · obtain ⟨ys, m5, h3, h4⟩ := bindOk h2
    cases h4
    exact ⟨ys, rfl⟩
/-- name = [..] on one line -/
theorem p_setLc {i : Nat} {y : Str} {py : Pos} {elt tg iter : Expr} {ifs : List Expr} {scope : Scope} {own : List (Str × Nat)} {cpos spos : Pos} {g : Tg} {it ti te : E} (nw : Bool) (hc : X.calm = true) (hN : X.N.Nodup) (hy : X.N[i]? = some y) (hyl : X.env.scope.names.lookup y = some .local)
    (hsw : swapsWith (.ListComp elt [⟨tg, iter, ifs, 0⟩] scope cpos) (some (.Name y py)) spos.line X.env = pure true) (hi : PI X tg iter (tI X.K Wx (denI cf it))) (ok : BlkOk X.N X.env.scope scope own) (hsl : ∀ i ∈ g.sl, i ∈ own.map (·.2))
    (hg : ∀ (s : Shared) (H : Hp) (C : Addr) (cl : List (Str × Addr)) (fp : List Addr), PG (X.blk s H scope (compEnvC scope cl C X.env) fp) tg (tgt X.K g))
    (ht : ∀ (s : Shared) (H : Hp) (C : Addr) (cl : List (Str × Addr)) (fp : List Addr), PTs (X.blk s H scope (compEnvC scope cl C X.env) fp) ifs (tT X.K WF (denT cf ti)))
    (he : ∀ (s : Shared) (H : Hp) (C : Addr) (cl : List (Str × Addr)) (fp : List Addr), PE (X.blk s H scope (compEnvC scope cl C X.env) fp) elt (tE X.K WF (den cf te))) (hs : ∀ x, foldedSetIterable iter X.env x = pure x) :
    PS X (.Assign [.Name y py] (.ListComp elt [⟨tg, iter, ifs, 0⟩] scope cpos) spos) (tS X.K Wx (denS cf (if nw then .new i (.comp g it ti te (own.map (·.2))) else .set i (.comp g it ti te (own.map (·.2)))))) :=
  psImp (ps_setLc hc hN hy hyl hsw hi ok hg ht he hs) fun D σ H h => by
    refine i_comp hsl σ H _ ?_
    cases nw with
    | true => exact i_ofFrNew _ _ _ (i_new h)
    | false => exact i_ofFr (fun v m w m' => comp_list) _ _ _ (i_set h)
theorem comp2_list {g g1 : Tg} {it ti it1 ti1 te : E} {vs vs1 : List Nat} {v : Vr} {m m' : Mem} {w : W} (h : den cf (.comp2 g it ti g1 it1 ti1 te vs vs1) v m = .ok w m') : ∃ l, w = .d (.list l) := by
  obtain ⟨s, m1, h1, h2⟩ := bindOk h
  split at h2
  · cases h2
  · obtain ⟨ys, m5, h3, h4⟩ := bindOk h2
    cases h4
    exact ⟨ys, rfl⟩
theorem p_setLc2 {i : Nat} {y : Str} {py : Pos} {elt tg iter tg1 iter1 : Expr} {ifs ifs1 : List Expr} {scope : Scope} {own : List (Str × Nat)} {vs1 : List Nat} {cpos spos : Pos} {g g1 : Tg} {it ti it1 ti1 te : E} (nw : Bool) (hc : X.calm = true) (hN : X.N.Nodup) (hy : X.N[i]? = some y) (hyl : X.env.scope.names.lookup y = some .local)
    (hsw : swapsWith (.ListComp elt [⟨tg, iter, ifs, 0⟩, ⟨tg1, iter1, ifs1, 0⟩] scope cpos) (some (.Name y py)) spos.line X.env = pure true) (hi : PI X tg iter (tI X.K Wx (denI cf it))) (ok : BlkOk X.N X.env.scope scope own) (hv : ∀ i ∈ vs1, i ∈ own.map (·.2)) (hsl : ∀ i ∈ g.sl, i ∈ own.map (·.2)) (hsl1 : ∀ i ∈ g1.sl, i ∈ vs1)
    (hg : ∀ (s : Shared) (H : Hp) (C : Addr) (cl : List (Str × Addr)) (fp : List Addr), PG (X.blk s H scope (compEnvC scope cl C X.env) fp) tg (tgt X.K g))
    (ht : ∀ (s : Shared) (H : Hp) (C : Addr) (cl : List (Str × Addr)) (fp : List Addr), PTs (X.blk s H scope (compEnvC scope cl C X.env) fp) ifs (tT X.K WF (denT cf ti)))
    (hi1 : ∀ (s : Shared) (H : Hp) (C : Addr) (cl : List (Str × Addr)) (fp : List Addr), PI (X.blk s H scope (compEnvC scope cl C X.env) fp) tg1 iter1 (tI X.K WF (denI cf it1)))
    (hg1 : ∀ (s : Shared) (H : Hp) (C : Addr) (cl : List (Str × Addr)) (fp : List Addr), PG (X.blk s H scope (compEnvC scope cl C X.env) fp) tg1 (tgt X.K g1))
    (ht1 : ∀ (s : Shared) (H : Hp) (C : Addr) (cl : List (Str × Addr)) (fp : List Addr), PTs (X.blk s H scope (compEnvC scope cl C X.env) fp) ifs1 (tT X.K WF (denT cf ti1)))
    (he : ∀ (s : Shared) (H : Hp) (C : Addr) (cl : List (Str × Addr)) (fp : List Addr), PE (X.blk s H scope (compEnvC scope cl C X.env) fp) elt (tE X.K WF (den cf te))) (hs : ∀ x, foldedSetIterable iter X.env x = pure x) (hs1 : ∀ env x, foldedSetIterable iter1 env x = pure x) :
    PS X (.Assign [.Name y py] (.ListComp elt [⟨tg, iter, ifs, 0⟩, ⟨tg1, iter1, ifs1, 0⟩] scope cpos) spos) (tS X.K Wx (denS cf (if nw then .new i (.comp2 g it ti g1 it1 ti1 te (own.map (·.2)) vs1) else .set i (.comp2 g it ti g1 it1 ti1 te (own.map (·.2)) vs1)))) :=
  psImp (ps_setLc2 hc hN hy hyl hsw hi ok hv hg ht hi1 hg1 ht1 he hs hs1) fun D σ H h => by
    refine i_comp2 hsl hsl1 σ H _ ?_
    cases nw with
    | true => exact i_ofFrNew _ _ _ (i_new h)
    | false => exact i_ofFr (fun v m w m' => comp2_list) _ _ _ (i_set h)
/-! ### a target of several names -/
theorem p_tgt {g : Tg} (he : PE X e (tE X.K Wx (den cf E1))) (hg : PG X tg (tgt X.K g)) (hs : swapsWithSole [tg] e pos.line X.env = pure false) (hw : swappedStores [tg] e X.env = pure none)
    (h1 : (assignEach [tg] X.env).map (·.2) = [assign tg X.env]) : PS X (.Assign [tg] e pos) (tS X.K Wx (denS cf (.tgt g E1))) := psImp (ps_asg he hg hs hw h1) fun D σ H h => by
  obtain ⟨φ, Z, v, m, s0, r, h⟩ := h
  refine ⟨φ, Z, v, m, s0, r, (PstS.toS s0.len r h).imp fun w φ1 m1 H1 _ s1 g1 h x rx => ?_⟩
  obtain ⟨o, eo, hh⟩ := h.org
  obtain ⟨d, e1, e2⟩ := Option.bind_eq_some_iff.mp eo
  obtain ⟨v', e3, e4⟩ := Option.map_eq_some_iff.mp e2
  rw [← e4] at hh
  cases w with
  | ref n => cases e1
  | scr l => cases e1
  | exn l => cases e1
  | d y =>
    have e1 : y = d := Option.some.inj e1
    subst e1
    exact ⟨φ1, Z, v, m1, y, v', s1, g1.rv s0.len r, rx.1, rx.2, e3, fun σ' r' l' a' => hh.here s1 r'⟩
/-- a value that may be new -/
noncomputable def denN (cf : CallF) (p : Bool) (t : E) : Vr → Mem → Res W := fun v m => (den cf t v m).bind fun w m1 => newC p w m1
theorem n_yes (h : PE X e (tFr X.K Wx (den cf E1))) : PE X e (tE X.K Wx (denN cf true E1)) := ofFrNew h
theorem n_no (h : PE X e (tE X.K Wx (den cf E1))) : PE X e (tE X.K Wx (denN cf false E1)) := by
  have e : denN cf false E1 = den cf E1 := by
    funext v m
    show ((den cf E1 v m).bind fun w m1 => Res.ok w m1) = _
    cases den cf E1 v m <;> rfl
  rw [e]; exact h
theorem toS_bind {α β : Type} {r : Res α} {f : α → Mem → Res β} {v : Vr} {k : β → Mem → RS} : (r.toS v fun a m => (f a m).toS v k) = (r.bind f).toS v k := by cases r <;> rfl
theorem p_par {i j : Nat} {p q : Bool} {x y : Str} {px py pt : Pos} {kt k2 pt2} (hc : X.calm = true) (hN : X.N.Nodup) (hi : X.N[i]? = some x) (hj : X.N[j]? = some y) (hij : i ≠ j)
    (hx : X.env.scope.names.lookup x = some .local) (hy : X.env.scope.names.lookup y = some .local) (n1 : noStar a = true) (n2 : noStar b = true) (h1 : PE X a (tE X.K Wx (denN cf p E1))) (h2 : PE X b (tE X.K Wx (denN cf q E2)))
    (hw : swappedStores [.Tuple [.Name x px, .Name y py] kt pt] (.Tuple [a, b] k2 pt2) X.env = pure (some [x, y])) :
    PS X (.Assign [.Tuple [.Name x px, .Name y py] kt pt] (.Tuple [a, b] k2 pt2) pos) (tS X.K Wx (denS cf (.par i j p q E1 E2))) :=
  psImp (ps_par hc hN hi hj hij hx hy (pa_cons h1 (pa_cons h2 pa_nil (starEach_ne n2 _ _)) (starEach_ne n1 _ _)) hw rfl) fun D σ H h => by
    obtain ⟨φ, Z, v, m, s0, r, h⟩ := h
    have h : PstS X.K Wx Z φ m H D ((den cf E1 v m).toS v fun x m1 => (newC p x m1).toS v fun x2 m2 => (den cf E2 v m2).toS v fun y m3 => (newC q y m3).toS v fun y2 m4 =>
      if i ≠ j ∧ i < v.length ∧ j < v.length then .nx ((v.set i (some x2)).set j (some y2)) m4 else .no) := h
    rw [toS_bind] at h
    refine ⟨φ, Z, v, m, s0, r, (PstS.toS s0.len r h).imp fun w φ1 m1 H1 _ s1 g1 h x1 r1 => ?_⟩
    rw [toS_bind] at h
    have rv1 := g1.rv s0.len r
    refine ⟨φ1, Z, v, m1, s1, rv1, (PstS.toS s1.len rv1 h).imp fun w2 φ2 m2 H2 _ s2 g2 h x2 r2 => ?_⟩
    split at h
    · exact ⟨x1, x2, rfl, h.here s2 (((g2.rv s1.len rv1).put (g2.rw s1.len r1)).put r2)⟩
    · exact h.elim
theorem p_par3 {i j k : Nat} {p q o : Bool} {x y z : Str} {px py pz pt : Pos} {kt k2 pt2} (hc : X.calm = true) (hN : X.N.Nodup) (hi : X.N[i]? = some x) (hj : X.N[j]? = some y) (hk : X.N[k]? = some z) (hij : i ≠ j) (hik : i ≠ k) (hjk : j ≠ k)
    (hx : X.env.scope.names.lookup x = some .local) (hy : X.env.scope.names.lookup y = some .local) (hz : X.env.scope.names.lookup z = some .local) (n1 : noStar a = true) (n2 : noStar b = true) (n3 : noStar c = true)
    (h1 : PE X a (tE X.K Wx (denN cf p E1))) (h2 : PE X b (tE X.K Wx (denN cf q E2))) (h3 : PE X c (tE X.K Wx (denN cf o E3)))
    (hw : swappedStores [.Tuple [.Name x px, .Name y py, .Name z pz] kt pt] (.Tuple [a, b, c] k2 pt2) X.env = pure (some [x, y, z])) :
    PS X (.Assign [.Tuple [.Name x px, .Name y py, .Name z pz] kt pt] (.Tuple [a, b, c] k2 pt2) pos) (tS X.K Wx (denS cf (.par3 i j k p q o E1 E2 E3))) :=
  psImp (ps_par3 hc hN hi hj hk hij hik hjk hx hy hz (pa_cons h1 (pa_cons h2 (pa_cons h3 pa_nil (starEach_ne n3 _ _)) (starEach_ne n2 _ _)) (starEach_ne n1 _ _)) hw rfl) fun D σ H h => by
    obtain ⟨φ, Z, v, m, s0, r, h⟩ := h
    have h : PstS X.K Wx Z φ m H D ((den cf E1 v m).toS v fun x m1 => (newC p x m1).toS v fun x2 m2 => (den cf E2 v m2).toS v fun y m3 => (newC q y m3).toS v fun y2 m4 => (den cf E3 v m4).toS v fun z m5 => (newC o z m5).toS v fun z2 m6 =>
      if i ≠ j ∧ i ≠ k ∧ j ≠ k ∧ i < v.length ∧ j < v.length ∧ k < v.length then .nx (((v.set i (some x2)).set j (some y2)).set k (some z2)) m6 else .no) := h
    rw [toS_bind] at h
    refine ⟨φ, Z, v, m, s0, r, (PstS.toS s0.len r h).imp fun w φ1 m1 H1 _ s1 g1 h x1 r1 => ?_⟩
    rw [toS_bind] at h
    have rv1 := g1.rv s0.len r
    refine ⟨φ1, Z, v, m1, s1, rv1, (PstS.toS s1.len rv1 h).imp fun w2 φ2 m2 H2 _ s2 g2 h x2 r2 => ?_⟩
    rw [toS_bind] at h
    have rv2 := g2.rv s1.len rv1
    refine ⟨φ2, Z, v, m2, s2, rv2, (PstS.toS s2.len rv2 h).imp fun w3 φ3 m3 H3 _ s3 g3 h x3 r3 => ?_⟩
    split at h
    · exact ⟨x1, x2, x3, rfl, h.here s3 ((((g3.rv s2.len rv2).put (g3.rw s2.len (g2.rw s1.len r1))).put (g3.rw s2.len r2)).put r3)⟩
    · exact h.elim
end
end MP
/-! MPL: loops, list statements, errors. -/
namespace MP
open PySem PySem.Spec PyProof.Rows L2
open Classical
section
variable {X : Cx} {Wx : WX} {cf : CallF} {pos : Pos} {e a b c tg it : Expr} {st : Stmt} {rest body : List Stmt} {s t : S} {E1 E2 E3 EI : E}
/-! ### for -/
theorem p_for {g : Tg} (hp : PassesOwn (model X.prog X.w) X.A X.env X.xe) (hc : X.calm = true) (hi : PI X tg it (tI X.K Wx (denI cf EI))) (hg : PG X tg (tgt X.K g)) (hb : PSs X body (tS X.K Wx (denS cf s)))
    (hs : ∀ x, foldedSetIterable it X.env x = pure x) : PS X (.For tg it body [] pos) (tS X.K Wx (denS cf (.for_ g EI s))) := psImp (ps_for hp hc hi hg hb hs) fun D σ H h => by
  obtain ⟨φ, Z, v, m, s0, r, h⟩ := h
  refine ⟨φ, Z, v, m, s0, r, (PstS.toS s0.len r h).imp fun src φ1 m1 H1 _ s1 g1 h st J hJ => ?_⟩
  have rv1 := g1.rv s0.len r
  generalize hF : (fun (x : PyData) (v1 : Vr) (m2 : Mem) => orNo ((setV g x v1).map fun v2 => denS cf s v2 m2)) = F at h
  generalize hl : src.list = l at h
  refine ⟨fun i k σ' Hh => k = l.length - i ∧ i ≤ l.length ∧ ∃ φi mi vi, SR X.K φi mi Z Hh ∧ Gr φ1 m1 H1 φi mi Hh ∧ RV X.K φi (hid φi mi Z Hh) vi σ' ∧ PstS X.K Wx Z φi mi Hh D (forL src.stands F (l.drop i) vi mi), ⟨l.length, by simp, Nat.zero_le _, φ1, m1, v, s1, Gr.refl, rv1, h⟩, ?_⟩
  rintro i k σ' Hh ⟨rfl, hil, φi, mi, vi, si, gi, ri, hr⟩
  have stnd : src.stands mi := by
    by_cases ss : src.stands mi
    · exact ss
    · cases e : l.drop i with
      | nil => rw [e] at hr; unfold forL at hr; rw [if_neg ss] at hr; exact hr.elim
      | cons x rr => rw [e] at hr; unfold forL at hr; rw [if_neg ss] at hr; exact hr.elim
  have hitem := hJ Z φi mi Hh (fun z hz => .inl hz) si gi.er stnd
  by_cases hlt : i < l.length
  · have hx : l[i]? = some l[i] := by simp [hlt]
    obtain ⟨hgo, hy⟩ := hitem.1 i l[i] (by rw [hl]; exact hx)
    have ed : l.drop i = l[i] :: l.drop (i + 1) := List.drop_eq_getElem_cons hlt
    rw [ed] at hr
    unfold forL at hr
    rw [if_pos stnd] at hr
    refine .inr ⟨hgo, fun σ' H' => i + 1 ≤ l.length ∧ ∃ φi mi vi, SR X.K φi mi Z H' ∧ Gr φ1 m1 H1 φi mi H' ∧ RV X.K φi (hid φi mi Z H') vi σ' ∧ PstS X.K Wx Z φi mi H' D (forL src.stands F (l.drop (i + 1)) vi mi), fun σ' H' q => ⟨l.length - (i + 1), by omega, rfl, q⟩, fun x H' hyl => ?_⟩
    obtain ⟨s2, g2, hxd, hxc⟩ := hy x H' hyl
    have hr := hr.shift g2 si.len
    have r2 := g2.rv si.len ri
    have gn : Gr φ1 m1 H1 φi mi H' := gi.trans g2 s1.len
    have hFx : F l[i] vi mi = orNo ((setV g l[i] vi).map fun v2 => denS cf s v2 mi) := by rw [← hF]
    rw [hFx] at hr
    cases hsv : setV g l[i] vi with
    | none => rw [hsv] at hr; exact hr.elim
    | some v1 =>
      rw [hsv] at hr
      have hr : PstS X.K Wx Z φi mi H' D (match denS cf s v1 mi with
        | .nx v1 m1 => forL src.stands F (l.drop (i + 1)) v1 m1
        | .ct v1 m1 => forL src.stands F (l.drop (i + 1)) v1 m1
        | .bk v1 m1 => .nx v1 m1
        | o => o) := hr
      refine ⟨φi, Z, vi, mi, l[i], v1, s2, r2, hxd, hxc, hsv, fun σ2 r3 l2 a2 => ⟨φi, Z, v1, mi, s2, r3, ?_⟩⟩
      cases qd : denS cf s v1 mi with
      | no => rw [qd] at hr; exact hr
      | nx v2 m2 =>
        rw [qd] at hr
        exact fun φ3 H3 σ3 s3 g3 r4 => ⟨hlt, φ3, m2, v2, s3, gn.trans g3 s1.len, r4, PstS.shift hr g3 s2.len⟩
      | ct v2 m2 =>
        rw [qd] at hr
        exact fun φ3 H3 σ3 s3 g3 r4 => ⟨hlt, φ3, m2, v2, s3, gn.trans g3 s1.len, r4, PstS.shift hr g3 s2.len⟩
      | bk v2 m2 => rw [qd] at hr; exact hr
      | rt w m2 => rw [qd] at hr; exact hr
      | exc x v2 m2 => rw [qd] at hr; exact hr
  · have e : i = l.length := by omega
    subst e
    refine .inl ⟨hitem.2 l.length (by rw [hl]; exact Nat.le_refl _), ?_⟩
    rw [List.drop_length] at hr
    unfold forL at hr
    rw [if_pos stnd] at hr
    exact hr.here si ri
/-! ### xs.append(e), xs[k] = e -/
theorem atV_some {v : Vr} {i n : Nat} (h : atV v i = some n) : v[i]? = some (some (.ref n)) := by
  unfold atV at h
  split at h
  · cases h; assumption
  · cases h
theorem lstAt_some {m : Mem} {n : Nat} {l : List PyData} (h : lstAt m n = some l) : m[n]? = some (.lst l) := by
  unfold lstAt at h
  split at h
  · cases h; assumption
  · cases h
theorem p_app {i : Nat} {x : Str} {p2 apos cpos : Pos} (hN : X.N[i]? = some x) (hv : Vis X.env.scope x) (h1 : (x == ("__debug__" : Str)) = false) (h2 : (x == ("__classdict__" : Str)) = false) (he : PE X e (tE X.K Wx (den cf E1))) (hs : noStar e = true) (hl : (apos.endLine == cpos.line) = true) :
    PS X (.Expr (.Call (.Attribute (.Name x p2) "append" apos) [e] [] cpos) pos) (tS X.K Wx (denS cf (.app i E1))) := by
  have hse : starEach [e] X.env = [(false, eval e X.env)] := starEach_ne hs _ _
  refine psImp (ps_expr (pe_bm PySem.F.plainAttrs_list PySem.F.slot_list_append PySem.F.type_list_append mt_append (l_var (K := X.K) (Wx := Wx) (cf := cf) hN hv h1 h2) (pa_cons he pa_nil hse) rfl (by rw [hse]; rfl) hl hse rfl) rfl) fun D σ H h => ?_
  obtain ⟨φ, Z, v, m, s0, r, h⟩ := h
  obtain ⟨o, eo, h⟩ := PstS.org h
  obtain ⟨n, e1, e2⟩ := Option.bind_eq_some_iff.mp eo
  obtain ⟨l0, e3, e4⟩ := Option.map_eq_some_iff.mp e2
  rw [← e4] at h
  have hvi := atV_some e1
  have hmn := lstAt_some e3
  have ed : den cf (.var i) v m = .ok (.ref n) m := by
    show (match v[i]? with | some (some w) => Res.ok w m | _ => .no) = _
    rw [hvi]
  refine ⟨φ, Z, v, m, s0, r, ?_⟩
  rw [ed]
  rintro φ1 H1 s1 g1 y ⟨p, rfl, hp⟩
  obtain ⟨vs0, q1, q2, q3⟩ := s1.cell n p _ hp hmn
  have rv1 := g1.rv s0.len r
  refine ⟨.inl ⟨rfl, _, SqL.of q1⟩, φ1, Z, v, m, s1, rv1, (PstS.toS s1.len rv1 (h.shift g1 s0.len)).imp fun w φ2 m2 H2 _ s2 g2 h y ry => ?_⟩
  obtain ⟨o2, eo, hh⟩ := h.org
  obtain ⟨d, k1, k2⟩ := Option.bind_eq_some_iff.mp eo
  obtain ⟨l, k3, k4⟩ := Option.bind_eq_some_iff.mp k2
  split at k4
  · rename_i hlen
    have hp2 : φ2[n]? = some p := g2.phi hp
    have hm2 := lstAt_some k3
    obtain ⟨vs, q4, q5, q6⟩ := s2.cell n p _ hp2 hm2
    have k4 := Option.some.inj k4
    rw [← k4] at hh
    have rv2 := g2.rv s1.len rv1
    cases w with
    | ref n => cases k1
    | scr l => cases k1
    | exn l => cases k1
    | d z =>
      have k1 : z = d := Option.some.inj k1
      subst k1
      obtain ⟨s3, g3⟩ := s2.cellSet hp2 hm2 (q5.app (.cons ry.1 .nil)) (canL_app q6 (by simp [PyData.canLayAll0, ry.2]))
      exact ⟨p, vs, y, rfl, rfl, q4, by rw [DpAll.len q5]; exact hlen, hh _ _ _ s3 g3 (g3.rv s2.len rv2)⟩
  · cases k4
theorem p_ext {i : Nat} {x : Str} {p2 apos cpos : Pos} (hN : X.N[i]? = some x) (hv : Vis X.env.scope x) (h1 : (x == ("__debug__" : Str)) = false) (h2 : (x == ("__classdict__" : Str)) = false) (he : PE X e (tE X.K Wx (den cf E1))) (hs : noStar e = true) (hl : (apos.endLine == cpos.line) = true) :
    PS X (.Expr (.Call (.Attribute (.Name x p2) "extend" apos) [e] [] cpos) pos) (tS X.K Wx (denS cf (.ext i E1))) := by
  have hse : starEach [e] X.env = [(false, eval e X.env)] := starEach_ne hs _ _
  refine psImp (ps_expr (pe_bm PySem.F.plainAttrs_list PySem.F.slot_list_extend PySem.F.type_list_extend mt_extend (l_var (K := X.K) (Wx := Wx) (cf := cf) hN hv h1 h2) (pa_cons he pa_nil hse) rfl (by rw [hse]; rfl) hl hse rfl) rfl) fun D σ H h => ?_
  obtain ⟨φ, Z, v, m, s0, r, h⟩ := h
  obtain ⟨o, eo, h⟩ := PstS.org h
  obtain ⟨n, e1, e2⟩ := Option.bind_eq_some_iff.mp eo
  obtain ⟨l0, e3, e4⟩ := Option.map_eq_some_iff.mp e2
  rw [← e4] at h
  have hvi := atV_some e1
  have hmn := lstAt_some e3
  have ed : den cf (.var i) v m = .ok (.ref n) m := by
    show (match v[i]? with | some (some w) => Res.ok w m | _ => .no) = _
    rw [hvi]
  refine ⟨φ, Z, v, m, s0, r, ?_⟩
  rw [ed]
  rintro φ1 H1 s1 g1 y ⟨p, rfl, hp⟩
  obtain ⟨vs0, q1, q2, q3⟩ := s1.cell n p _ hp hmn
  have rv1 := g1.rv s0.len r
  refine ⟨.inl ⟨rfl, _, SqL.of q1⟩, φ1, Z, v, m, s1, rv1, (PstS.toS s1.len rv1 (h.shift g1 s0.len)).imp fun w φ2 m2 H2 _ s2 g2 h y ry => ?_⟩
  obtain ⟨o2, eo, hh⟩ := h.org
  obtain ⟨d, k1, k2⟩ := Option.bind_eq_some_iff.mp eo
  obtain ⟨l, k3, k4⟩ := Option.bind_eq_some_iff.mp k2
  obtain ⟨d0, k5, k6⟩ := Option.bind_eq_some_iff.mp k1
  split at k4
  · rename_i hlen
    have hp2 : φ2[n]? = some p := g2.phi hp
    have hm2 := lstAt_some k3
    obtain ⟨vs, q4, q5, q6⟩ := s2.cell n p _ hp2 hm2
    have k4 := Option.some.inj k4
    rw [← k4] at hh
    have rv2 := g2.rv s1.len rv1
    cases w with
    | ref n => cases k5
    | scr l => cases k5
    | exn l => cases k5
    | d z =>
      have k5 : z = d0 := Option.some.inj k5
      subst k5
      cases z with
      | list k =>
        cases k6
        obtain ⟨dp, dc⟩ := ry
        cases dp with
        | lst g1' g2' =>
          obtain ⟨s3, g3⟩ := s2.cellSet hp2 hm2 (q5.app g2') (canL_app q6 (by simpa [PyData.canLay0] using dc))
          exact ⟨p, _, vs, _, rfl, rfl, q4, hid_le _ _ g1', by rw [DpAll.len q5, DpAll.len g2']; exact hlen, hh _ _ _ s3 g3 (g3.rv s2.len rv2)⟩
      | _ => cases k6
  · cases k4
theorem mt_reverse : MtM X "list.reverse" (fun x vs H Q => ∃ (l : Addr) (xs : List V), x = .ref l ∧ vs = [] ∧ H l = some (.lst xs) ∧ xs.length ≤ sizeLine ∧ Q .non (upd H l (.lst xs.reverse))) := by
  intro pins s σ H x vs v us Q I rx rv h
  obtain ⟨l, xs, rfl, rfl, hH, hz, q⟩ := h
  cases rx
  obtain rfl := rv.zero
  obtain ⟨z, its, n, r, hl, e⟩ := I.lstM hH
  have hrl := r.length
  refine call_meets F.slot_list_reverse ⟨_, e, rfl⟩ F.entry_list_reverse (F.args_list_reverse_1 _) (AutoSeq1.list_reverse_list_0 l its.toArray n (by rw [List.size_toArray]; omega)) ⟨e, ?_⟩
  exact ⟨.non, _, I.lset (its' := its.reverse) hH e (by simp) r.reverse (by rw [List.length_reverse]; exact hz), rfl, q⟩
theorem p_rvs {i : Nat} {x : Str} {p2 apos cpos : Pos} (hN : X.N[i]? = some x) (hv : Vis X.env.scope x) (h1 : (x == ("__debug__" : Str)) = false) (h2 : (x == ("__classdict__" : Str)) = false) (hl : (apos.endLine == cpos.line) = true) :
    PS X (.Expr (.Call (.Attribute (.Name x p2) "reverse" apos) [] [] cpos) pos) (tS X.K Wx (denS cf (.rvs i))) := by
  refine psImp (ps_expr (pe_bm0 PySem.F.plainAttrs_list PySem.F.slot_list_reverse PySem.F.type_list_reverse mt_reverse (l_var (K := X.K) (Wx := Wx) (cf := cf) hN hv h1 h2) rfl hl) rfl) fun D σ H h => ?_
  obtain ⟨φ, Z, v, m, s0, r, h⟩ := h
  obtain ⟨o, eo, h⟩ := PstS.org h
  obtain ⟨n, e1, e2⟩ := Option.bind_eq_some_iff.mp eo
  obtain ⟨l, e3, e4⟩ := Option.bind_eq_some_iff.mp e2
  split at e4
  · rename_i hlen
    rw [← Option.some.inj e4] at h
    have hvi := atV_some e1
    have hmn := lstAt_some e3
    have ed : den cf (.var i) v m = .ok (.ref n) m := by
      show (match v[i]? with | some (some w) => Res.ok w m | _ => .no) = _
      rw [hvi]
    refine ⟨φ, Z, v, m, s0, r, ?_⟩
    rw [ed]
    rintro φ1 H1 s1 g1 y ⟨p, rfl, hp⟩
    obtain ⟨vs, q1, q2, q3⟩ := s1.cell n p _ hp hmn
    have rv1 := g1.rv s0.len r
    refine ⟨.inl ⟨rfl, _, SqL.of q1⟩, p, vs, rfl, rfl, q1, by rw [DpAll.len q2]; exact hlen, ?_⟩
    obtain ⟨s3, g3⟩ := s1.cellSet hp hmn q2.rev (canL_rev q3)
    exact (h.shift g1 s0.len) _ _ _ s3 g3 (g3.rv s1.len rv1)
  · cases e4
theorem p_six {i : Nat} {x : Str} {p2 tpos : Pos} {k : Expr} (hN : X.N[i]? = some x) (hv : Vis X.env.scope x) (h1 : (x == ("__debug__" : Str)) = false) (h2 : (x == ("__classdict__" : Str)) = false) (he : PE X e (tE X.K Wx (den cf E1))) (hk : PE X k (tE X.K Wx (den cf E2)))
    (ha : ∀ v, assign (.Subscript (.Name x p2) k tpos) X.env v = (do
      let ov ← holding [v] (eval (.Name x p2) X.env)
      let iv ← holding [v, ov] (eval k X.env)
      standAt tpos
      holding [v, ov, iv] (setItem ov iv v)
      release [v, ov, iv] [])) (hs : swapsWith e (some (.Subscript (.Name x p2) k tpos)) pos.line X.env = pure false) :
    PS X (.Assign [.Subscript (.Name x p2) k tpos] e pos) (tS X.K Wx (denS cf (.six i E2 E1))) := by
  refine psImp (ps_asg he (pg_sub (l_var (K := X.K) (Wx := Wx) (cf := cf) hN hv h1 h2) hk set_list ha) hs rfl rfl) fun D σ H h => ?_
  obtain ⟨φ, Z, v, m, s0, r, h⟩ := h
  refine ⟨φ, Z, v, m, s0, r, (PstS.toS s0.len r h).imp fun w φ1 m1 H1 _ s1 g1 h y ry => ?_⟩
  have rv1 := g1.rv s0.len r
  obtain ⟨o, eo, hh⟩ := h.org
  obtain ⟨n, e1, e2⟩ := Option.map_eq_some_iff.mp eo
  rw [← e2] at hh
  have hvi := atV_some e1
  have ed : den cf (.var i) v m1 = .ok (.ref n) m1 := by
    show (match v[i]? with | some (some w) => Res.ok w m1 | _ => .no) = _
    rw [hvi]
  refine ⟨φ1, Z, v, m1, s1, rv1, ?_⟩
  rw [ed]
  rintro φ2 H2 s2 g2 ov ⟨p, rfl, hp⟩
  have rv2 := g2.rv s1.len rv1
  refine ⟨φ2, Z, v, m1, s2, rv2, (PstS.toS s2.len rv2 (hh.shift g2 s1.len)).imp fun z φ3 m3 H3 _ s3 g3 h iv ri => ?_⟩
  have rv3 := g3.rv s2.len rv2
  have ry3 := g3.rw s2.len (g2.rw s1.len ry)
  obtain ⟨o2, eo2, hh⟩ := h.org
  obtain ⟨d, k1, k2⟩ := Option.bind_eq_some_iff.mp eo2
  obtain ⟨l, k3, k4⟩ := Option.bind_eq_some_iff.mp k2
  have hm3 := lstAt_some k3
  have hp3 : φ3[n]? = some p := g3.phi hp
  obtain ⟨vs, q4, q5, q6⟩ := s3.cell n p _ hp3 hm3
  split at k4
  · rename_i j _
    obtain ⟨q, k5, k6⟩ := Option.map_eq_some_iff.mp k4
    rw [← k6] at hh
    have hiv : iv = .int j := by
      have := ri.1
      cases this
      rfl
    cases w with
    | ref n => cases k1
    | scr l => cases k1
    | exn l => cases k1
    | d y0 =>
      have k1 : y0 = d := Option.some.inj k1
      subst k1
      have hcs : PyData.canLayAll0 (l.set q y0) = true := canL_iff.mpr fun x hx => by
        rcases List.mem_or_eq_of_mem_set hx with hx | hx
        · exact canL_iff.mp q6 x hx
        · rw [hx]; exact ry3.2
      obtain ⟨s4, g4⟩ := s3.cellSet hp3 hm3 (DpAll.st ry3.1 q q5) hcs
      exact ⟨p, vs, j, q, rfl, hiv, q4, by rw [DpAll.len q5]; exact k5, hh _ _ _ s4 g4 (g4.rv s3.len rv3)⟩
  · cases k4
/-! ### errors -/
/-- what is known of an own error's class -/
structure XK0 (X : Cx) (c : String) : Prop where
  nm : c ∈ xnames
  gl : (He.Fa.glo (Str.ofString c)).ok X.K = true
  mg : X.mg (Str.ofString c) = some (.ref (He.ga X.K (Str.ofString c)))
  ex : (He.Fa.exc (Str.ofString c)).ok X.K = true
theorem p_raise {c : String} {m : Str} {j : Nat} {p p2 pos2 : Pos} (hc : X.calm = true) (tk : Takes X Wx) (x : XK0 X c) (hg : Gl X (Str.ofString c)) (hdb : (Str.ofString c == ("__debug__" : Str)) = false) :
    PS X (.Raise (some (.Call (.Name (Str.ofString c) p) [.Constant (.str m) j p2] [] pos2)) none pos) (tS X.K Wx (denS cf (.raise c))) := by
  obtain ⟨x1, x2, x3, x4⟩ := He.exc_ok x.ex
  refine psImp (ps_raise hc tk (pmk_own PySem.F.excBase_ValueError x1 x.mg x2 (raises_own x3 x4) hg hdb)) fun D σ H h => ?_
  obtain ⟨φ, Z, v, m, s0, r, h⟩ := h
  exact h φ H σ _ none s0 Gr.refl r ⟨rfl, x.nm, x.gl, rfl, rfl⟩
/-- the except clauses, one after another -/
inductive HkOk (K : Fg) (cf : CallF) : S → List (Value × (Addr → Value → Option Addr → TS)) → Prop
  | nil : HkOk K cf .skip []
  | cons {c : String} {h r : S} {l : List (Value × (Addr → Value → Option Addr → TS))} (hx : ∀ y ∈ xnames, (He.Fa.glo (Str.ofString y)).ok K = true → PySem.W.exmOne K (.ref (He.ga K (Str.ofString y))) (.ref (He.ga K (Str.ofString c))) = some (y == c || c == "KeyRuleError")) (t : HkOk K cf r l) :
      HkOk K cf (.hnd c h r) ((.ref (He.ga K (Str.ofString c)), fun _ _ _ => tS K WF (denS cf h)) :: l)
theorem many_of {K : Fg} {D : Ends} {x : Xn} {Z : List Addr} {φ' : List Addr} {m' : Mem} {H' : Hp} {σ' : L2.St} {v1 : Vr} {cls : Value} {d : Option Addr} (s' : SR K φ' m' Z H') (r' : RV K φ' (hid φ' m' Z H') v1 σ') (hx : XR K x cls d H') :
    ∀ {hs : S} {l : List (Value × (Addr → Value → Option Addr → TS))}, HkOk K cf hs l → PstS K Wx Z φ' m' H' D (denH cf hs x v1 m') → wMany K Wx D l cls d σ' H'
  | _, _, .nil, h => h φ' H' σ' cls d s' Gr.refl r' hx
  | _, _, .cons (c := c) (h := hd) (r := r) hk t, h => by
    obtain ⟨x1, x2, x3, x4, x5⟩ := id hx
    have h : PstS K Wx Z φ' m' H' D (if takesX c x then noXS (denS cf hd v1 m') else denH cf r x v1 m') := h
    refine ⟨takesX c x, by rw [x4]; exact hk x.c x2 x3, fun hb a _ => ?_, fun hb => ?_⟩
    · rw [if_pos hb] at h
      refine ⟨φ', Z, v1, m', s', r', ?_⟩
      cases q : denS cf hd v1 m' with
      | no => rw [q] at h; exact h
      | nx v2 m2 => rw [q] at h; exact h
      | bk v2 m2 => rw [q] at h; exact h
      | ct v2 m2 => rw [q] at h; exact h
      | rt w m2 => rw [q] at h; exact h
      | exc e v2 m2 => rw [q] at h; exact h.elim
    · rw [hb, if_neg (by decide)] at h
      exact many_of s' r' hx t h
theorem p_try {h₀ : ExceptHandler} {hds : List ExceptHandler} {l : List (Value × (Addr → Value → Option Addr → TS))} (hs : X.stack = X.env :: X.outer) (hf : X.env.frame = some X.env.locals) (tk : Takes X Wx)
    (hb : ∀ (W : WX) (pn : List (Addr × Obj)) (xe : Value → Shared → Prop), Takes (X.tr pn xe) W → PassesOwn (model X.prog X.w) X.A X.env xe → PSs (X.tr pn xe) body (tS X.K W (denS cf s)))
    (hh : HdsOk X (h₀ :: hds) l) (ho : HkOk X.K cf t l) : PS X (.Try body (h₀ :: hds) [] [] pos) (tS X.K Wx (denS cf (.tryx s t))) :=
  psImp (ps_try_many (tb := fun W => tS X.K W (denS cf s)) hs hf tk hb hh) fun D σ H h => by
    obtain ⟨φ, Z, v, m, s0, r, h⟩ := h
    refine ⟨φ, Z, v, m, s0, r, ?_⟩
    have h : PstS X.K Wx Z φ m H D (match denS cf s v m with
      | .exc x v1 m1 => denH cf t x v1 m1
      | o => o) := h
    cases q : denS cf s v m with
    | no => rw [q] at h; exact h
    | nx v2 m2 => rw [q] at h; exact h
    | bk v2 m2 => rw [q] at h; exact h
    | ct v2 m2 => rw [q] at h; exact h
    | rt w m2 => rw [q] at h; exact h
    | exc e v2 m2 =>
      rw [q] at h
      exact fun φ' H' σ' cls d s' g' r' hx => many_of s' r' hx ho (PstS.shift h g' s0.len)
end
end MP
/-! MPKR: changing lists of changing lists: items, stores, the making. -/
namespace MP
open PySem PySem.Spec PyProof.Rows L2
open Classical
theorem adrs_len {φ : List Addr} : ∀ {ns : List Nat} {bs : List Addr}, adrs φ ns = some bs → bs.length = ns.length
  | [], _, h => by cases h; rfl
  | n :: r, bs, h => by
    unfold adrs at h
    cases e : φ[n]? with
    | none => rw [e] at h; cases h
    | some a =>
      rw [e] at h
      obtain ⟨b, hb, rfl⟩ := Option.map_eq_some_iff.mp h
      rw [List.length_cons, List.length_cons, adrs_len hb]
theorem adrs_at {φ : List Addr} : ∀ {ns : List Nat} {bs : List Addr} {i k : Nat}, adrs φ ns = some bs → ns[i]? = some k → ∃ b, bs[i]? = some b ∧ φ[k]? = some b
  | [], _, _, _, _, e => by simp at e
  | n :: r, bs, i, k, h, e => by
    unfold adrs at h
    cases q : φ[n]? with
    | none => rw [q] at h; cases h
    | some a =>
      rw [q] at h
      obtain ⟨b, hb, rfl⟩ := Option.map_eq_some_iff.mp h
      cases i with
      | zero => simp at e; subst e; exact ⟨a, rfl, q⟩
      | succ i =>
        obtain ⟨c, h1, h2⟩ := adrs_at (i := i) hb (by simpa using e)
        exact ⟨c, by simpa using h1, h2⟩
theorem adrs_snoc {φ : List Addr} : ∀ {ns : List Nat} {bs : List Addr} {k : Nat} {b : Addr}, adrs φ ns = some bs → φ[k]? = some b → adrs φ (ns ++ [k]) = some (bs ++ [b])
  | [], bs, k, b, h, e => by
    cases h
    show (match φ[k]? with | some a => (adrs φ []).map (a :: ·) | none => none) = _
    rw [e]; rfl
  | n :: r, bs, k, b, h, e => by
    unfold adrs at h
    cases q : φ[n]? with
    | none => rw [q] at h; cases h
    | some a =>
      rw [q] at h
      obtain ⟨c, hb, rfl⟩ := Option.map_eq_some_iff.mp h
      show (match φ[n]? with | some a => (adrs φ (r ++ [k])).map (a :: ·) | none => none) = _
      rw [q, adrs_snoc hb e]; rfl
theorem adrs_set {φ : List Addr} : ∀ {ns : List Nat} {bs : List Addr} {i k : Nat} {b : Addr}, adrs φ ns = some bs → φ[k]? = some b → adrs φ (ns.set i k) = some (bs.set i b)
  | [], bs, i, k, b, h, e => by cases h; rfl
  | n :: r, bs, i, k, b, h, e => by
    unfold adrs at h
    cases q : φ[n]? with
    | none => rw [q] at h; cases h
    | some a =>
      rw [q] at h
      obtain ⟨c, hb, rfl⟩ := Option.map_eq_some_iff.mp h
      cases i with
      | zero =>
        show (match φ[k]? with | some a => (adrs φ r).map (a :: ·) | none => none) = _
        rw [e, hb]; rfl
      | succ i =>
        show (match φ[n]? with | some a => (adrs φ (r.set i k)).map (a :: ·) | none => none) = _
        rw [q, adrs_set hb e]; rfl
theorem adrs_ix {φ : List Addr} {ns : List Nat} {bs : List Addr} {j : Int} {k : Nat} (h : adrs φ ns = some bs) (e : ixF ns j = some k) : ∃ b, atI (bs.map V.ref) j = some (.ref b) ∧ φ[k]? = some b := by
  have hl := adrs_len h
  unfold ixF at e
  unfold atI ixN
  by_cases h0 : 0 ≤ j
  · rw [if_pos h0] at e
    have hi := (List.getElem?_eq_some_iff.mp e).1
    obtain ⟨b, h1, h2⟩ := adrs_at h e
    rw [if_pos h0, if_pos (by rw [List.length_map]; omega)]
    refine ⟨b, ?_, h2⟩
    show (bs.map V.ref)[j.toNat]? = _
    rw [List.getElem?_map, h1]; rfl
  · rw [if_neg h0] at e
    rw [if_neg h0]
    split at e
    · rename_i q
      obtain ⟨b, h1, h2⟩ := adrs_at h e
      rw [if_pos (by rw [List.length_map]; omega)]
      refine ⟨b, ?_, h2⟩
      show (bs.map V.ref)[(j + ((bs.map V.ref).length : Nat)).toNat]? = _
      rw [List.length_map, hl, List.getElem?_map, h1]; rfl
    · cases e
theorem rfsAt_some {m : Mem} {n : Nat} {ns : List Nat} (h : rfsAt m n = some ns) : m[n]? = some (.rfs ns) := by
  unfold rfsAt at h
  split at h
  · rename_i l e; cases h; exact e
  · cases h
theorem refOf_some {w : W} {n : Nat} (h : refOf w = some n) : w = .ref n := by
  cases w with
  | ref k => cases h; rfl
  | _ => cases h
theorem intOf_some {w : W} {j : Int} (h : intOf w = some j) : w = .d (.int j) := by
  cases w with
  | d x => cases x <;> first | (cases h; rfl) | cases h
  | _ => cases h
theorem o_subr {K : Fg} : Op2 K (fun x y m => (refOf x).bind fun n => (rfsAt m n).bind fun ns => (intOf y).bind fun j => (ixF ns j).map .ref) (rIx K) := by
  intro φ Z m H w1 w2 w x y Q s r1 r2 hk hq
  obtain ⟨n, h1, hk⟩ := Option.bind_eq_some_iff.mp hk
  obtain ⟨ns, h2, hk⟩ := Option.bind_eq_some_iff.mp hk
  obtain ⟨j, h3, hk⟩ := Option.bind_eq_some_iff.mp hk
  obtain ⟨k, h4, rfl⟩ := Option.map_eq_some_iff.mp hk
  have e1 := refOf_some h1
  have e2 := intOf_some h3
  subst e1; subst e2
  obtain ⟨a, rfl, hp⟩ := r1
  obtain ⟨bs, q1, q2⟩ := s.cell n a _ hp (rfsAt_some h2)
  obtain ⟨b, k1, k2⟩ := adrs_ix q2 h4
  have ey : y = .int j := by have := r2.1; cases this; rfl
  exact .inl ⟨a, bs.map V.ref, j, .ref b, rfl, ey, SqL.of q1, k1, hq H _ s Gr.refl ⟨b, rfl, k2⟩⟩
section
variable {X : Cx} {Wx : WX} {cf : CallF} {pos : Pos} {e a b c tg it : Expr} {E0 E1 E2 E3 : E}
theorem l_subr (hb : noSlice b = true) (h1 : PE X a (tE X.K Wx (den cf E1))) (h2 : PE X b (tE X.K Wx (den cf E2))) : PE X (.Subscript a b pos) (tE X.K Wx (den cf (.subr E1 E2))) :=
  l_two (pe_ix ix_seq h1 h2 (plainIx_of hb)) o_subr
theorem p_st2 {tpos : Pos} {k : Expr} (h0 : PE X a (tE X.K Wx (den cf E0))) (he : PE X e (tE X.K Wx (den cf E1))) (hk : PE X k (tE X.K Wx (den cf E2)))
    (ha : ∀ v, assign (.Subscript a k tpos) X.env v = (do
      let ov ← holding [v] (eval a X.env)
      let iv ← holding [v, ov] (eval k X.env)
      standAt tpos
      holding [v, ov, iv] (setItem ov iv v)
      release [v, ov, iv] [])) (hs : swapsWith e (some (.Subscript a k tpos)) pos.line X.env = pure false) :
    PS X (.Assign [.Subscript a k tpos] e pos) (tS X.K Wx (denS cf (.st2 E0 E2 E1))) := by
  refine psImp (ps_asg he (pg_sub h0 hk set_list ha) hs rfl rfl) fun D σ H h => ?_
  obtain ⟨φ, Z, v, m, s0, r, h⟩ := h
  refine ⟨φ, Z, v, m, s0, r, (PstS.toS s0.len r h).imp fun w φ1 m1 H1 _ s1 g1 h y ry => ?_⟩
  have rv1 := g1.rv s0.len r
  refine ⟨φ1, Z, v, m1, s1, rv1, (PstS.toS s1.len rv1 h).imp fun x φ2 m2 H2 _ s2 g2 h ov ro => ?_⟩
  have rv2 := g2.rv s1.len rv1
  refine ⟨φ2, Z, v, m2, s2, rv2, (PstS.toS s2.len rv2 h).imp fun z φ3 m3 H3 _ s3 g3 h iv ri => ?_⟩
  have rv3 := g3.rv s2.len rv2
  have ry3 := g3.rw s2.len (g2.rw s1.len ry)
  have ro3 := g3.rw s2.len ro
  obtain ⟨o2, eo2, hh⟩ := h.org
  obtain ⟨d, k1, k2⟩ := Option.bind_eq_some_iff.mp eo2
  obtain ⟨n, k3, k4⟩ := Option.bind_eq_some_iff.mp k2
  obtain ⟨l, k5, k6⟩ := Option.bind_eq_some_iff.mp k4
  obtain ⟨j, k7, k8⟩ := Option.bind_eq_some_iff.mp k6
  obtain ⟨q, k9, k10⟩ := Option.map_eq_some_iff.mp k8
  have ex := refOf_some k3
  have ez := intOf_some k7
  subst ex; subst ez
  have hm3 := lstAt_some k5
  obtain ⟨p, rfl, hp3⟩ := ro3
  obtain ⟨vs, q4, q5, q6⟩ := s3.cell n p _ hp3 hm3
  rw [← k10] at hh
  have hiv : iv = .int j := by have := ri.1; cases this; rfl
  cases w with
  | ref n => cases k1
  | scr l => cases k1
  | exn l => cases k1
  | d y0 =>
    have k1 : y0 = d := Option.some.inj k1
    subst k1
    have hcs : PyData.canLayAll0 (l.set q y0) = true := canL_iff.mpr fun x hx => by
      rcases List.mem_or_eq_of_mem_set hx with hx | hx
      · exact canL_iff.mp q6 x hx
      · rw [hx]; exact ry3.2
    obtain ⟨s4, g4⟩ := s3.cellSet hp3 hm3 (DpAll.st ry3.1 q q5) hcs
    exact ⟨p, vs, j, q, rfl, hiv, q4, by rw [DpAll.len q5]; exact k9, hh _ _ _ s4 g4 (g4.rv s3.len rv3)⟩
theorem p_stl {tpos : Pos} {k : Expr} (h0 : PE X a (tE X.K Wx (den cf E0))) (he : PE X e (tFr X.K Wx (den cf E1))) (hk : PE X k (tE X.K Wx (den cf E2)))
    (ha : ∀ v, assign (.Subscript a k tpos) X.env v = (do
      let ov ← holding [v] (eval a X.env)
      let iv ← holding [v, ov] (eval k X.env)
      standAt tpos
      holding [v, ov, iv] (setItem ov iv v)
      release [v, ov, iv] [])) (hs : swapsWith e (some (.Subscript a k tpos)) pos.line X.env = pure false) :
    PS X (.Assign [.Subscript a k tpos] e pos) (tS X.K Wx (denS cf (.stl E0 E2 E1))) := by
  refine psImp (ps_asg (n_yes he) (pg_sub h0 hk set_list ha) hs rfl rfl) fun D σ H h => ?_
  obtain ⟨φ, Z, v, m, s0, r, h⟩ := h
  have h : PstS X.K Wx Z φ m H D ((den cf E1 v m).toS v fun w0 m0 => (newC true w0 m0).toS v fun w m1 => (den cf E0 v m1).toS v fun x m2 => (den cf E2 v m2).toS v fun z m3 => orNo ((refOf w).bind fun r => (refOf x).bind fun n => (rfsAt m3 n).bind fun l => (intOf z).bind fun j => (placeIx l.length j).map fun q => .nx v (m3.set n (.rfs (l.set q r))))) := h
  rw [toS_bind] at h
  refine ⟨φ, Z, v, m, s0, r, (PstS.toS s0.len r h).imp fun w φ1 m1 H1 _ s1 g1 h y ry => ?_⟩
  have rv1 := g1.rv s0.len r
  refine ⟨φ1, Z, v, m1, s1, rv1, (PstS.toS s1.len rv1 h).imp fun x φ2 m2 H2 _ s2 g2 h ov ro => ?_⟩
  have rv2 := g2.rv s1.len rv1
  refine ⟨φ2, Z, v, m2, s2, rv2, (PstS.toS s2.len rv2 h).imp fun z φ3 m3 H3 _ s3 g3 h iv ri => ?_⟩
  have rv3 := g3.rv s2.len rv2
  have ry3 := g3.rw s2.len (g2.rw s1.len ry)
  have ro3 := g3.rw s2.len ro
  obtain ⟨o2, eo2, hh⟩ := h.org
  obtain ⟨d, k1, k2⟩ := Option.bind_eq_some_iff.mp eo2
  obtain ⟨n, k3, k4⟩ := Option.bind_eq_some_iff.mp k2
  obtain ⟨l, k5, k6⟩ := Option.bind_eq_some_iff.mp k4
  obtain ⟨j, k7, k8⟩ := Option.bind_eq_some_iff.mp k6
  obtain ⟨q, k9, k10⟩ := Option.map_eq_some_iff.mp k8
  have ew := refOf_some k1
  have ex := refOf_some k3
  have ez := intOf_some k7
  subst ew; subst ex; subst ez
  have hm3 := rfsAt_some k5
  obtain ⟨p, rfl, hp3⟩ := ro3
  obtain ⟨b, rfl, hb3⟩ := ry3
  obtain ⟨bs, q4, q5⟩ := s3.cell n p _ hp3 hm3
  rw [← k10] at hh
  have hiv : iv = .int j := by have := ri.1; cases this; rfl
  obtain ⟨s4, g4⟩ := s3.rfsSet hp3 hm3 (adrs_set (i := q) q5 hb3)
  refine ⟨p, bs.map V.ref, j, q, rfl, hiv, q4, by rw [List.length_map, adrs_len q5]; exact k9, ?_⟩
  have es : (bs.map V.ref).set q (.ref b) = (bs.set q b).map V.ref := by rw [List.map_set]
  rw [es]
  exact hh _ _ _ s4 g4 (g4.rv s3.len rv3)
end
end MP
/-! MPKN: a comprehension whose items are new changing lists. -/
namespace MP
open PySem PySem.Spec PyProof.Rows L2
open Classical
section
variable {X : Cx} {Wx : WX} {cf : CallF}
theorem i_nrw {K : Fg} {g : Tg} {it ti te : E} {vs : List Nat} {i0 : Nat} (hsl : ∀ i ∈ g.sl, i ∈ vs) (D0 : Ends) (σ : L2.St) (H : Hp) (h : tS K Wx (denS cf (.nrw i0 g it ti te vs)) D0 σ H) :
    tLc (tI K Wx (denI cf it)) (tgt K g) (tT K WF (denT cf ti)) (tE K WF (denN cf true te)) vs σ H (fun x H1 => D0.nx (σ.set i0 (some x)) H1) := by
  obtain ⟨φ, Z, v, m, s, r, h⟩ := h
  have h : PstS K Wx Z φ m H D0 ((denI cf it v m).toS v fun s m1 => if sizeLine < s.list.length then .no else (compR s.stands (fun x m2 => noX (match setV g x (wipeV v vs) with
      | some v1 => (denT cf ti v1 m2).bind fun t m3 => if t = true then (den cf te v1 m3).bind fun y m4 => (newC true y m4).bind fun z m5 => optR ((refOf z).map some) m5 else .ok none m3
      | none => .no)) s.list m1).toS v fun ns m6 => putV i0 (.ref m6.length) v (m6 ++ [.rfs ns])) := h
  have h := PstS.toS s.len r h
  refine ⟨φ, Z, v, m, s, r, h.imp fun src φ1 m1 H1 _ s1 g1 h st J hJ D hD => ?_⟩
  have rv1 := g1.rv s.len r
  by_cases hbig : sizeLine < src.list.length
  · rw [if_pos hbig] at h; exact h.elim
  rw [if_neg hbig] at h
  have hz : D ∉ Z := fun q => s1.zt D q hD
  have hHD : H D = none := by
    cases q : H D with
    | none => rfl
    | some o => exact absurd hD (g1.dom D (by rw [q]; simp))
  generalize hF : (fun (x : PyData) (m2 : Mem) => noX (match setV g x (wipeV v vs) with
      | some v1 => (denT cf ti v1 m2).bind fun t m3 => if t = true then (den cf te v1 m3).bind fun y m4 => (newC true y m4).bind fun z m5 => optR ((refOf z).map some) m5 else .ok none m3
      | none => .no)) = F at h
  generalize hl : src.list = l at h hbig
  -- what is wished at the end
  have h := PstS.toS s1.len rv1 h
  let GG : List Nat → List Addr → Mem → Hp → Prop := fun ns φ' m' H' => ∀ p bs, H' p = none → adrs φ' ns = some bs → D0.nx (σ.set i0 (some (.ref p))) (upd H' p (.lst (bs.map V.ref)))
  have h : Pst K Wx σ Z φ1 m1 H1 GG (compR src.stands F l m1) := h.imp fun ns φ' m' H' _ s' g' h p bs hp hbs => by
    obtain ⟨s5, g5⟩ := s'.rfsNew hp hbs
    have h : PstS K Wx Z φ' m' H' D0 (if i0 < v.length then .nx (v.set i0 (some (.ref m'.length))) (m' ++ [.rfs ns]) else .no) := h
    split at h
    · refine h _ _ _ s5 g5 ((g5.rv s'.len (g'.rv s1.len rv1)).put ⟨p, rfl, ?_⟩)
      rw [List.getElem?_append_right (by rw [s'.len]; exact Nat.le_refl _), s'.len]
      simp
    · exact h.elim
  refine ⟨fun i k Hh => k = l.length - i ∧ i ≤ l.length ∧ ∃ φi mi bs ns, SR K φi mi (D :: Z) Hh ∧ Gr φ1 m1 H1 φi mi Hh ∧ Hh D = some (.lst (bs.map V.ref)) ∧ adrs φi ns = some bs ∧ ns.length ≤ i ∧
    Pst K Wx σ Z φi mi (noD Hh D) (fun ys φ' m' H' => GG (ns ++ ys) φ' m' H') (compR src.stands F (l.drop i) mi), ?_, ?_⟩
  · refine ⟨l.length, by simp, Nat.zero_le _, φ1, m1, [], [], (s1.hide hD _).1, ?_, upd_same, rfl, Nat.le_refl _, ?_⟩
    · exact Gr.undrop (D := D) (by rw [noD_upd, noD_none hD]; exact Gr.refl)
    · rw [noD_upd, noD_none hD]
      exact h
  rintro i k Hh ⟨rfl, hil, φi, mi, bs, ns, si, gi, hDi, hacc, hdl, hrest⟩
  have stnd : src.stands mi := by
    have q : Pst K Wx σ Z φi mi (noD Hh D) (fun ys φ' m' H' => GG (ns ++ ys) φ' m' H') (compR src.stands F (l.drop i) mi) := hrest
    by_cases ss : src.stands mi
    · exact ss
    · cases e : l.drop i with
      | nil => rw [e] at q; unfold compR at q; rw [if_neg ss] at q; exact q.elim
      | cons x rr => rw [e] at q; unfold compR at q; rw [if_neg ss] at q; exact q.elim
  have hzz : ∀ z ∈ D :: Z, z ∈ Z ∨ H1 z = none := fun z hzm => by
    rcases List.mem_cons.mp hzm with e | e
    · subst e; exact .inr hD
    · exact .inl e
  have hitem := hJ (D :: Z) φi mi Hh hzz si gi.er stnd
  by_cases hlt : i < l.length
  · have hx : l[i]? = some l[i] := by simp [hlt]
    obtain ⟨hgo, hy⟩ := hitem.1 i l[i] (by rw [hl]; exact hx)
    refine .inr ⟨hgo, fun H' => (i + 1 ≤ l.length ∧ ∃ φi mi bs ns, SR K φi mi (D :: Z) H' ∧ Gr φ1 m1 H1 φi mi H' ∧ H' D = some (.lst (bs.map V.ref)) ∧ adrs φi ns = some bs ∧ ns.length ≤ i + 1 ∧
      Pst K Wx σ Z φi mi (noD H' D) (fun ys φ' m' H' => GG (ns ++ ys) φ' m' H') (compR src.stands F (l.drop (i + 1)) mi)), fun H' q => ⟨l.length - (i + 1), by omega, rfl, q⟩, fun x H' hyl => ?_⟩
    obtain ⟨s2, g2, hxd, hxc⟩ := hy x H' hyl
    have ed : l.drop i = l[i] :: l.drop (i + 1) := List.drop_eq_getElem_cons hlt
    rw [ed] at hrest
    unfold compR at hrest
    rw [if_pos stnd] at hrest
    have hrest := (hrest.shift (g2.drop (D := D)) si.len)
    have hstep := hrest.seq s2.len
    have hFx : F l[i] mi = noX (match setV g l[i] (wipeV v vs) with
      | some v1 => (denT cf ti v1 mi).bind fun t m3 => if t = true then (den cf te v1 m3).bind fun y m4 => (newC true y m4).bind fun z m5 => optR ((refOf z).map some) m5 else .ok none m3
      | none => .no) := by rw [← hF]
    rw [hFx] at hstep
    have hstep := hstep.hideD (σ2 := wipe σ vs) hz
    -- the target
    cases hsv : setV g l[i] (wipeV v vs) with
    | none => simp only [hsv] at hstep; exact hstep.elim
    | some v1 =>
      simp only [hsv] at hstep
      have gall : Gr φ m H φi mi H' := (g1.trans (gi.trans g2 s1.len) s.len)
      have rw1 : RV K φi (hid φi mi (D :: Z) H') (wipeV v vs) (wipe σ vs) := (gall.rv2 s.len (fun z hzm => by
        rcases List.mem_cons.mp hzm with e | e
        · subst e; exact .inr hHD
        · exact .inl e) r).wipe vs
      refine ⟨φi, D :: Z, wipeV v vs, mi, l[i], v1, s2, rw1, hxd, hxc, hsv, fun σ2 r2 l2 a2 => ⟨wipe_same (by rw [l2, wipe_length]) fun j hj => a2 j fun q => hj (hsl j q), ?_⟩⟩
      have hstep : Pst K (fun _ _ _ _ => False) σ2 (D :: Z) φi mi H' _ _ := hstep.wish fun _ _ _ f => f
      refine ⟨φi, D :: Z, v1, mi, s2, r2, (hstep.seq s2.len).imp fun b φ3 m3 H3 _ s3 g3 h3 => ?_⟩
      have gn : Gr φ1 m1 H1 φ3 m3 H3 := gi.trans (g2.trans g3 si.len) s1.len
      have hD3 : H3 D = some (.lst (bs.map V.ref)) := by
        have nl : ∀ {φ0 : List Addr} {m0 : Mem} {H0 : Hp}, SR K φ0 m0 (D :: Z) H0 → ¬ lv φ0 m0 D := fun s0 ⟨j, c, q1, _⟩ => s0.sep D (List.mem_of_getElem? q1) (by simp)
        exact g3.keep D _ (g2.keep D _ hDi (nl si)) (nl s2)
      have hacc3 : adrs φ3 ns = some bs := by
        obtain ⟨ψ, e, _⟩ := (g2.trans g3 si.len).pre
        rw [e]; exact adrs_pre hacc
      cases b with
      | false =>
        simp only [Bool.false_eq_true, if_false] at h3 ⊢
        have h3 := h3.here s3
        refine ⟨hlt, φ3, m3, bs, ns, s3, gn, hD3, hacc3, Nat.le_succ_of_le hdl, ?_⟩
        refine (h3.seq (s3.drop hz).1.len).imp (G2 := fun ys φ' m' H' => GG (ns ++ ys) φ' m' H') fun ys φ' m' H' _ s' g' q => ?_
        exact Pst.here (Wx := Wx) (σ := σ) s' q
      | true =>
        simp only [if_true] at h3 ⊢
        have eb : ((den cf te v1 m3).bind fun y m4 => (newC true y m4).bind fun z m5 => optR ((refOf z).map some) m5) = (denN cf true te v1 m3).bind fun z m5 => optR ((refOf z).map some) m5 := by
          show _ = ((den cf te v1 m3).bind fun w m1 => newC true w m1).bind fun z m5 => optR ((refOf z).map some) m5
          cases den cf te v1 m3 <;> rfl
        rw [eb] at h3
        refine ⟨φ3, D :: Z, v1, m3, s3, g3.rv s2.len r2, (h3.seq s3.len).imp fun y φ4 m4 H4 _ s4 g4 h4 x4 rx4 => ?_⟩
        obtain ⟨o, eo, h4⟩ := h4.opt
        obtain ⟨n4, en, rfl⟩ := Option.map_eq_some_iff.mp eo
        have ey := refOf_some en
        subst ey
        obtain ⟨b4, rfl, hb4⟩ := rx4
        have h4 := h4.here s4
        have hD4 : H4 D = some (.lst (bs.map V.ref)) := g4.keep D _ hD3 fun ⟨j, c, q1, _⟩ => s3.sep D (List.mem_of_getElem? q1) (by simp)
        have hacc4 : adrs φ4 ns = some bs := by
          obtain ⟨ψ, e, _⟩ := g4.pre
          rw [e]; exact adrs_pre hacc3
        refine ⟨bs.map V.ref, hD4, by rw [List.length_map, adrs_len hacc]; omega, hlt, φ4, m4, bs ++ [b4], ns ++ [n4], (s4.hset _).1, ?_, ?_, adrs_snoc hacc4 hb4, by simp; exact hdl, ?_⟩
        · refine Gr.undrop (D := D) ?_
          rw [noD_upd]
          have q := (gn.trans g4 s1.len).drop (D := D)
          rw [noD_none hD] at q
          exact q
        · rw [upd_same, List.map_append]; rfl
        · rw [noD_upd]
          refine (h4.seq (s4.drop hz).1.len).imp (G2 := fun ys φ' m' H' => GG (ns ++ [n4] ++ ys) φ' m' H') fun ys φ' m' H' _ s' g' q => ?_
          have q := q.here s'
          rw [List.append_assoc]
          exact q
  · have e : i = l.length := by omega
    subst e
    refine .inl ⟨hitem.2 l.length (by rw [hl]; exact Nat.le_refl _), ?_⟩
    rw [List.drop_length] at hrest
    unfold compR at hrest
    rw [if_pos stnd] at hrest
    have q := hrest.here (si.drop hz).1 D bs (by show (if D = D then none else Hh D) = none; rw [if_pos rfl]) (by rw [List.append_nil]; exact hacc)
    rw [noD_back hDi] at q
    exact q
theorem p_nrw {i : Nat} {y : Str} {py : Pos} {elt tg iter : Expr} {ifs : List Expr} {scope : Scope} {own : List (Str × Nat)} {cpos spos : Pos} {g : Tg} {it ti te : E} (hc : X.calm = true) (hN : X.N.Nodup) (hy : X.N[i]? = some y) (hyl : X.env.scope.names.lookup y = some .local)
    (hsw : swapsWith (.ListComp elt [⟨tg, iter, ifs, 0⟩] scope cpos) (some (.Name y py)) spos.line X.env = pure true) (hi : PI X tg iter (tI X.K Wx (denI cf it))) (ok : BlkOk X.N X.env.scope scope own) (hsl : ∀ i ∈ g.sl, i ∈ own.map (·.2))
    (hg : ∀ (s : Shared) (H : Hp) (C : Addr) (cl : List (Str × Addr)) (fp : List Addr), PG (X.blk s H scope (compEnvC scope cl C X.env) fp) tg (tgt X.K g))
    (ht : ∀ (s : Shared) (H : Hp) (C : Addr) (cl : List (Str × Addr)) (fp : List Addr), PTs (X.blk s H scope (compEnvC scope cl C X.env) fp) ifs (tT X.K WF (denT cf ti)))
    (he : ∀ (s : Shared) (H : Hp) (C : Addr) (cl : List (Str × Addr)) (fp : List Addr), PE (X.blk s H scope (compEnvC scope cl C X.env) fp) elt (tFr X.K WF (den cf te))) (hs : ∀ x, foldedSetIterable iter X.env x = pure x) :
    PS X (.Assign [.Name y py] (.ListComp elt [⟨tg, iter, ifs, 0⟩] scope cpos) spos) (tS X.K Wx (denS cf (.nrw i g it ti te (own.map (·.2))))) :=
  psImp (ps_setLc hc hN hy hyl hsw hi ok hg ht (fun s H C cl fp => n_yes (he s H C cl fp)) hs) fun D σ H h => i_nrw hsl D σ H h
end
end MP
/-! MPM: a def by its body, where no guard stands; the law's own call. -/
namespace MP
open PySem PySem.Spec PyProof.Rows L2
open Classical
/-- the context of a def's body -/
abbrev cxG (P : Program) (w : World) (K : Fg) (mg : Str → Option Value) (B : Heap) (N : List Str) (q : Str) (sc : Scope) (f : Addr) (cd : Value) (A : Around) (os : List PySem.Env) (t : Shared) (H : Hp) (E : XK) : Cx := cxOf (L2.CX P w) P w K mg B N q sc f cd A os t H E
theorem fnG_of {P : Program} {w : World} {K : Fg} {mg : Str → Option Value} {B : Heap} {n : Nat} {f : Addr} {fd : FuncData} {x q : Str} {pa : Arguments} {b : List Stmt} {sc : Scope} {N ps : List Str} {sp : Sp} (F : FunD K x q pa b sc [] [] f fd) (S : FnScope N ps sc)
    (hl : ∀ vs H Q E, sp vs H Q E → vs.length = ps.length)
    (hb : ∀ (cd : Value) (A : Around) (os : List PySem.Env) (t : Shared) (H : Hp) (vs : List V) (Q : VK) (E : XK), A.guards = some [] → Room n (A.deeper (envOfC q sc t.heap.objs.size f cd)) → sp vs H Q E →
      PSs (cxG P w K mg B N q sc f cd A os t H E) b (fun D σ H' => σ = L2.start N vs ∧ H' = H ∧ D = { nx := fun _ H1 => Q .non H1, rt := Q })) : FnG P w K mg B (n + 1) f fd ps sp := by
  obtain ⟨oc, od, dV, kV, doc, pm, an, cd, ct, osl, rfl, lk, hcd, _, _⟩ := F.ex
  refine ⟨hl, fun A os t H args us vs Q E hgd room e0 bind rel h => ?_⟩
  have inK : K.In t.heap := e0.mod.kin.keeps fun a o e => (e0.bs a o e).1
  have noL : t.heap.NoLimit := e0.mod.nolimit.keeps fun a o e => (e0.bs a o e).1
  have kinds : ∀ z ∈ ps.zip us, sc.names.lookup z.1 = some .local ∨ (sc.names.lookup z.1 = some .cell ∧ ((cellsFrom (t.heap.objs.size + 1) sc.names []).lookup z.1).isSome = true) := by
    rintro ⟨p, u⟩ hz
    exact (S.par p (List.of_mem_zip hz).1).imp id fun c => ⟨c, PySem.W.cellsFrom_some _ _ _ (.inl c)⟩
  refine codeAny_call_function room.depth (inK _ _ lk) rfl S.co S.gen rfl (PySem.W.codeRec_of inK hcd) (bind _ _ _ _ ?_)
  refine wpAny_newFunctionEnv_cells S.kind kinds fun env eenv t1 xin => ?_
  subst eenv
  refine ⟨noL.keeps xin.toInCall.keep, codeAny_func ?_⟩
  have I0 := inv_start (CX := L2.CX P w) (P := P) (w := w) (E := E) S room.hd e0 (hl _ _ _ _ h) rel xin
  refine wpAny_mono ((hb cd A os t H vs Q E hgd (room.deeper _) h).run [] t1 (L2.start N vs) H { nx := fun _ H1 => Q .non H1, rt := Q } I0 ⟨rfl, rfl, rfl⟩) (fun fl t2 h2 => ?_) fun _ _ h2 => h2
  match fl, h2 with
  | .ret u, ⟨v, _, H2, J, rv, z⟩ => exact ⟨v, H2, J.os, J.bare, J.base, J.hok, rv, z⟩
  | .next, ⟨_, H2, J, z⟩ => exact ⟨V.non, H2, J.os, J.bare, J.base, J.hok, rfl, z⟩
  | .brk, ⟨_, _, _, z⟩ => exact z.elim
  | .cont, ⟨_, _, _, z⟩ => exact z.elim
/-- what the def itself has made falls away -/
theorem Gr.cut {φ ψ : List Addr} {m m' : Mem} {H H' : Hp} (g : Gr φ m H (φ ++ ψ) m' H') (l : φ.length = m.length) : Gr φ m H φ (m'.take φ.length) H' := by
  refine ⟨⟨[], by simp⟩, fun i h => ?_, g.keep, g.dom⟩
  have hi : i < φ.length := by rw [l]; exact (List.getElem?_eq_some_iff.mp h).1
  rw [List.getElem?_take_of_lt hi]
  exact g.dead i h
theorem fin_of {K : Fg} {E : XK} {σ : L2.St} {Z φ : List Addr} {m : Mem} {H : Hp} {Q : VK} {kp : Bool} {res : RS} (s0 : SR K φ m Z H) (h : Pst K (fun cls d _ H' => E cls d H') σ Z φ m H (GV K Z Q) (finF kp m res)) :
    PstS K (fun cls d _ H' => E cls d H') Z φ m H { nx := fun _ H1 => Q .non H1, rt := Q } res := by
  have l := s0.len
  have cut : ∀ {φ' : List Addr} {m' : Mem} {H' : Hp}, keepsR m m' → SR K φ' m' Z H' → Gr φ m H φ' m' H' → SR K φ (m'.take m.length) Z H' ∧ Gr φ m H φ (m'.take m.length) H' ∧ Same (hid φ' m' Z H') (hid φ (m'.take m.length) Z H') := fun {φ' m' H'} kp s g => by
    obtain ⟨ψ, rfl, _⟩ := g.pre
    rw [← l]
    exact ⟨(s0.cut kp s).1, g.cut l, (s0.cut kp s).2⟩
  cases res with
  | no => exact h
  | bk v' m' => exact h.elim
  | ct v' m' => exact h.elim
  | exc e v' m' =>
    intro φ' H' σ' cls d s g r x
    have h : Pst K (fun cls d _ H' => E cls d H') σ Z φ m H (GV K Z Q) (if keepsR m m' then .exc e (m'.take m.length) else .no) := h
    by_cases kr : keepsR m m'
    · rw [if_pos kr] at h
      obtain ⟨s2, g2, sm⟩ := cut kr s g
      exact h φ H' cls d s2 g2 x
    · rw [if_neg kr] at h; exact h.elim
  | nx v' m' =>
    intro φ' H' σ' s g r
    cases kp with
    | true => exact h φ' H' s g .non ⟨.non, rfl⟩
    | false =>
      have h : Pst K (fun cls d _ H' => E cls d H') σ Z φ m H (GV K Z Q) (if keepsR m m' then .ok (.d .none) (m'.take m.length) else .no) := h
      by_cases kr : keepsR m m'
      · rw [if_pos kr] at h
        obtain ⟨s2, g2, sm⟩ := cut kr s g
        exact h φ H' s2 g2 .non ⟨.non, rfl⟩
      · rw [if_neg kr] at h; exact h.elim
  | rt w m' =>
    intro φ' H' x s g r
    cases kp with
    | true => exact h φ' H' s g x r
    | false =>
      simp only [finF, Bool.false_eq_true, if_false] at h
      by_cases kr : keepsR m m'
      · rw [if_pos kr] at h
        obtain ⟨s2, g2, sm⟩ := cut kr s g
        cases w with
        | d y => exact h φ H' s2 g2 x ⟨dpMono sm _ _ r.1, r.2⟩
        | scr y => exact h.elim
        | exn y => exact h.elim
        | ref k =>
          obtain ⟨a, rfl, hk⟩ := r
          obtain ⟨ψ, rfl, hn⟩ := g.pre
          have h : Pst K (fun cls d _ H' => E cls d H') σ Z φ m H (GV K Z Q) (if k < m.length then .ok (.ref k) (m'.take m.length) else match m'[k]? with
            | some (.lst l) => .ok (.d (.list l)) (m'.take m.length)
            | _ => .no) := h
          by_cases hlt : k < m.length
          · rw [if_pos hlt] at h
            exact h φ H' s2 g2 (.ref a) ⟨a, rfl, by rw [List.getElem?_append_left (by omega)] at hk; exact hk⟩
          · rw [if_neg hlt] at h
            cases e : m'[k]? with
            | none => rw [e] at h; exact h.elim
            | some c =>
              rw [e] at h
              cases c with
              | dead => exact h.elim
              | dct y => exact h.elim
              | rfs y => exact h.elim
              | obj c y => exact h.elim
              | lst y =>
                obtain ⟨vs, q1, q2, q3⟩ := s.cell k a _ hk e
                have hm : a ∈ ψ := by
                  rw [List.getElem?_append_right (by omega)] at hk
                  exact List.mem_of_getElem? hk
                have nd := (List.nodup_append.mp s.nd).2.2
                refine h φ H' s2 g2 (.ref a) ⟨.lst (vs := vs) (hid_some.mpr ⟨s.sep a (List.mem_of_getElem? hk), ?_, q1⟩) (dpMonoL sm _ _ q2), by simpa [PyData.canLay0] using q3⟩
                rintro ⟨j, c, k1, _⟩
                exact nd a (List.mem_of_getElem? k1) a hm rfl
      · rw [if_neg kr] at h; exact h.elim
/-- a def of the table keeps its promise -/
theorem fnG_tab {P : Program} {w : World} {K : Fg} {mg : Str → Option Value} {B : Heap} {n : Nat} {f : Addr} {fd : FuncData} {x q : Str} {pa : Arguments} {b : List Stmt} {sc : Scope} {N ps : List Str} {T : Tab} {g : String} {d : Fn} (F : FunD K x q pa b sc [] [] f fd) (S : FnScope N ps sc)
    (hT : T.lookup g = some d) (h1 : d.ar = ps.length) (h2 : d.nv = N.length)
    (hb : ∀ (cd : Value) (A : Around) (os : List PySem.Env) (t : Shared) (H : Hp) (E : XK), A.guards = some [] → Room n (A.deeper (envOfC q sc t.heap.objs.size f cd)) →
      PSs (cxG P w K mg B N q sc f cd A os t H E) b (tS K (fun cls d _ H' => E cls d H') (denS (callN T n) d.body))) : FnG P w K mg B (n + 1) f fd ps (spN K T (n + 1) g) := by
  have ec : ∀ args m, callN T (n + 1) g args m = if args.length = d.ar ∧ d.ar ≤ d.nv then finF d.keep m (denS (callN T n) d.body (args.map some ++ List.replicate (d.nv - d.ar) none) m) else .no := fun args m => by
    rw [t2, hT]
  refine fnG_of F S (fun vs H Q E h => ?_) (fun cd A os t H vs Q E hgd room h => ?_)
  · obtain ⟨φ, Z, args, m, s, r, h⟩ := h
    rw [ec] at h
    split at h
    · rename_i c; rw [← r.len, c.1, h1]
    · exact h.elim
  · refine pssImp (hb cd A os t H E hgd room) ?_
    rintro D σ H' ⟨rfl, rfl, rfl⟩
    obtain ⟨φ, Z, args, m, s, r, h⟩ := h
    rw [ec] at h
    split at h
    · rename_i c
      have lv : vs.length = d.ar := by rw [← r.len, c.1]
      have rv0 : RV K φ (hid φ m Z H') (args.map some ++ List.replicate (d.nv - d.ar) none) (L2.start N vs) := by
        refine ⟨by unfold L2.start; simp [r.len, lv, h2], fun i w e => ?_⟩
        unfold L2.start
        by_cases hi : i < args.length
        · rw [List.getElem?_append_left (by simpa using hi), List.getElem?_map] at e
          have hi' : i < vs.length := by rw [← r.len]; exact hi
          rw [List.getElem?_append_left (by simpa using hi'), List.getElem?_map]
          cases q : args[i]? with
          | none => rw [q] at e; cases e
          | some w' =>
            rw [q] at e
            have e : w' = w := Option.some.inj (Option.some.inj e)
            subst e
            obtain ⟨y, k1, k2⟩ := r.at q
            exact ⟨y, by rw [k1]; rfl, k2⟩
        · rw [List.getElem?_append_right (by simpa using hi), List.getElem?_replicate] at e
          split at e <;> cases e
      refine ⟨φ, Z, _, m, s, rv0, ?_⟩
      exact fin_of s h
    · exact h.elim
/-! ### the law's own call -/
/-- the script as it may lie: known to the object, or the module's own -/
noncomputable def scrH (K : Fg) (a : Addr) (o : Obj) (xs : List V) : Hp := fun z => if z = a ∧ K.lookup a = none then some (.frz o (.lst xs)) else none
theorem scrH_at {K : Fg} {a z : Addr} {o : Obj} {xs : List V} {u : HO} (h : scrH K a o xs z = some u) : z = a ∧ K.lookup a = none ∧ u = .frz o (.lst xs) := by
  unfold scrH at h
  split at h
  · rename_i c; cases h; exact ⟨c.1, c.2, rfl⟩
  · cases h
theorem lawG {P : Program} {w : World} {K : Fg} {mg mb : Str → Option Value} {n : Nat} {f a : Addr} {fd : FuncData} {x : Str} {sp : Sp} {t : Shared} {us : List Value} {ns : List Int} (KX : K.In t.heap) (hN : t.heap.Ns mainGlobals mg) (hB : t.heap.Ns builtinsNs mb)
    (hbb : ∀ y : Str, y ≠ "__name__" → mb y = bootBuiltins y) (hL : t.heap.NoLimit) (hG : t.gens = #[]) (hA : t.heap.get? a = some { cls := .type "list", data := .seq us.toArray }) (hI : IntsAre us ns) (hZ : ns.length ≤ sizeLine) (hR : Room n callerA)
    (F : ∀ B : Heap, K.In B → B.Ns mainGlobals mg → FnG P w K mg B n f fd [x] sp) (hbind : ∀ (s : Shared) (u : Value), BindsTo s fd ⟨[u], []⟩ [(x, u)])
    (hsp : ∀ H : Hp, SqL K H a (ns.map V.int) → sp [.ref a] H (fun v _ => v = .bl true) fun _ _ _ => False) :
    codeAny (model P w) callerA (.call (.ref f) ⟨[.ref a], []⟩) (fun r s' => r = .ok (.ret (.bool true)) ∧ OldK t.heap s'.heap ∧ s'.os = t.os ∧ AllBare s'.gens) t := by
  have vi := vals_ints hI
  let o0 : Obj := { cls := .type "list", data := .seq us.toArray }
  generalize hH : scrH K a o0 (ns.map V.int) = H
  have at_ : ∀ {z : Addr} {u : HO}, H z = some u → z = a ∧ K.lookup a = none ∧ u = .frz o0 (.lst (ns.map V.int)) := fun {z u} e => scrH_at (by rw [hH]; exact e)
  -- the script by H
  have hS : SqL K H a (ns.map V.int) := by
    cases hk : K.lookup a with
    | none => exact .inl (.inr ⟨o0, by rw [← hH]; unfold scrH; rw [if_pos ⟨rfl, hk⟩]⟩)
    | some o =>
      have e := KX a o hk
      rw [hA] at e
      cases e
      exact .inr ⟨_, us.toArray, _, hk, rfl, rfl, rfl, by rw [List.size_toArray, hI.length]; exact hZ, by simpa using vi⟩
  have hOk : HOk P w H t.heap := fun z u e => by
    obtain ⟨rfl, _, rfl⟩ := at_ e
    exact ⟨hA, by rw [List.length_map]; exact hZ, us, _, vi, hA⟩
  -- the rest of the heap, without it
  have base_at : ∀ {z : Addr} {o : Obj}, t.heap.get? z = some o → (∀ es ep, o.data = .dict es ep → (hidT t.heap H).get? z = some o) := fun {z o} e es ep d => hidT_get e (by
    cases q : H z with
    | none => rfl
    | some u =>
      obtain ⟨rfl, _, _⟩ := at_ q
      rw [hA] at e
      cases e
      cases d)
  have nsB : ∀ {z : Addr} {m : Str → Option Value}, t.heap.Ns z m → (hidT t.heap H).Ns z m := fun {z m} ⟨o, es, ep, e, d, r⟩ => ⟨o, es, ep, base_at e es ep d, d, r⟩
  have KB : K.In (hidT t.heap H) := fun z o e => hidT_get (KX z o e) (by
    cases q : H z with
    | none => rfl
    | some u =>
      obtain ⟨rfl, k, _⟩ := at_ q
      rw [k] at e
      cases e)
  obtain ⟨mc, l1, l2⟩ := hL
  have en : Env0 P w K mg (hidT t.heap H) callerA [] t H :=
    ⟨rfl, ⟨KB, nsB hN, ⟨mb, nsB hB, hbb⟩, ⟨mc, nsB l1, l2⟩⟩, fun _ _ e => of_hidT e, Nat.le_of_eq (hidT_size _ _), trivial, fun z hz => absurd hz (List.not_mem_nil (a := z)), hOk, .of_eq hG⟩
  refine codeAny_mono ((F _ KB (nsB hN)).run callerA [] t H ⟨[.ref a], []⟩ [.ref a] [.ref a] _ _ rfl hR en (hbind t (.ref a)) (.cons rfl .nil) (hsp H hS)) fun r s' h => ?_
  match r, h with
  | .error e, h =>
    obtain ⟨_, _, _, _, _, _, _, _, _, _, _, _, z⟩ := h
    exact z.elim
  | .ok .next, h => exact h.elim
  | .ok .brk, h => exact h.elim
  | .ok .cont, h => exact h.elim
  | .ok (.ret u), ⟨v, H2, os, bare, un, ok2, rl, q⟩ =>
    have q : v = .bl true := q
    subst q
    cases (show u = Value.bool true from rl)
    refine ⟨rfl, OldK.of_keep fun z o e => ?_, os, bare⟩
    cases q : H z with
    | none => exact un.keep z o e q (List.not_mem_nil (a := z)) (by simp)
    | some u =>
      obtain ⟨rfl, _, rfl⟩ := at_ q
      obtain ⟨e1, _⟩ := hOk z _ q
      obtain ⟨e2, _⟩ := ok2 z _ (un.frzs z _ _ q)
      rw [e] at e1
      cases e1
      exact e2
theorem walkG {l : PySem.W.OpenLaw} {n k : Nat} {q : Program} {loose : List Str} {XP : (Str → Option Value) → Heap → Prop} {YP : World → Heap → Prop} {d : DefRec} {x : Str} (hn : l.most = some n) (hn2 : n ≤ sizeLine) (hdf : d.params.defaults = []) (hr : Room k callerA)
    (F : ∀ (w : World) (mg : Str → Option Value) (f : Addr) (h : Heap), YP w h → h.Ns mainGlobals mg → mg d.name = some (.ref f) →
      ∃ (K : Fg) (fd : FuncData) (sp : Sp), K.In h ∧ (∀ (s : Shared) (u : Value), BindsTo s fd ⟨[u], []⟩ [(x, u)]) ∧
        (∀ (H : Hp) (a : Addr) (ns : List Int), ns.length ≤ n → SqL K H a (ns.map V.int) → sp [.ref a] H (fun v _ => v = .bl true) fun _ _ _ => False) ∧
        ∀ B : Heap, K.In B → B.Ns mainGlobals mg → FnG l.prog w K mg B k f fd [x] sp) :
    PySem.W.WalkO q loose XP YP l.row.toRowW d [] (fun f vs => PySem.call f vs) := by
  refine Att.attach_call hn hdf fun w _ t mg mb f o pm cd doc a us ns G Y ho hd hcd hmg hobj hints hlen hg => ?_
  obtain ⟨K, fd, sp, KX, hb, hsp, hF⟩ := F w mg f _ Y G.T.g hmg
  exact lawG KX G.T.g G.T.b G.T.builtins G.T.nolimit hg hobj hints (Nat.le_trans hlen hn2) hr hF hb fun H hS => hsp H a ns hlen hS
end MP
/-! MPLX: try: .. except X as e: caught = e; the error is a value from then on; isinstance of it; what the language does not say. -/
namespace MP
open PySem PySem.Spec PyProof.Rows L2
section
variable {X : Cx} {pins : List (Addr × Obj)} {σ : L2.St} {H : Hp} {s : Shared}
/-- an object that no one tracked is tracked from now on: the error, as it stands -/
theorem keepX {a : Addr} {oe : Obj} {cls : Value} (I : Inv X pins σ H s) (e : s.heap.get? a = some oe) (hz : Zc cls none oe) (hd : ∃ vs, oe.data = .fields vs) (na : H a = none)
    (n0 : X.s_0.heap.get? a = none) (nl : a ≠ X.env.locals) (np : ∀ p ∈ X.pn ++ pins, p.1 ≠ a) : Inv X pins σ (upd H a (ExcO cls a)) s := by
  have far : ∀ {b : Addr} {u : HO}, H b = some u → upd H a (ExcO cls a) b = some u := fun {b u} q => (upd_ne (ne_of_none q na)).trans q
  have un : Un X.fs X.ex X.H_0 (upd H a (ExcO cls a)) X.s_0.heap s.heap :=
    { keep := I.base.keep, slot := I.base.slot, there := I.base.there
      free := fun b o q n hx => (upd_ne (fun z => by subst z; rw [n0] at q; cases q)).trans (I.base.free b o q n hx)
      tups := fun b xs q => far (I.base.tups b xs q)
      frzs := fun b o u q => far (I.base.frzs b o u q)
      tbls := fun b ps q => let ⟨m, k⟩ := I.base.tbls b ps q; ⟨m, far k⟩ }
  have okE : ObjOk X.prog X.w (upd H a (ExcO cls a)) s.heap a (ExcO cls a) := ⟨⟨oe, e, hz, hd⟩, ⟨oe, e⟩, fun h1 h2 ⟨o, k1, k2⟩ k => ⟨o, k o k1, k2⟩⟩
  have nc : ∀ x c, X.env.cells.lookup x = some c → c ≠ a := fun x c q z => by
    subst z
    obtain ⟨v, o, k1, k2⟩ := I.cell x c q
    obtain ⟨vs, k3⟩ := hd
    rw [e] at k1
    cases k1
    rw [k3] at k2
    cases k2
  exact ⟨I.ok, I.os, I.bare, un, I.loc, I.cell, (upd_ne (Ne.symm nl)).trans I.free, fun x c q => (upd_ne (nc x c q)).trans (I.freeC x c q),
    fun p hp => let ⟨k1, k2, k3⟩ := I.pin p hp; ⟨k1, (upd_ne (np p hp)).trans k2, k3⟩, I.hok.laidN (fun _ _ q => q) na okE, I.len⟩
end
/-- what the clause wishes: the error goes to slot j, slot i is empty again -/
def wKeep (K : Fg) (c : Value) (i j : Nat) (Wout : WX) (D : Ends) : WX := fun cls d σ H =>
  ∃ b, PySem.W.exmOne K cls c = some b ∧ (b = true → d = none ∧ ∀ a, H a = none → D.nx (((σ.set i (some (.ref a))).set j (some (.ref a))).set i none) (upd H a (ExcO cls a))) ∧ (b = false → Wout cls d σ H)
section
variable {X : Cx} {x n y : Str} {c : Value} {i j : Nat} {body : List Stmt} {np pos hpos ypos npos apos : Pos} {tb : WX → TS} {Wout : WX}
theorem ps_try_keep (hst : X.stack = X.env :: X.outer) (hfm : X.env.frame = some X.env.locals) (hex : X.ex = []) (nd : X.N.Nodup) (hi : X.N[i]? = some n) (hj : X.N[j]? = some y) (hli : X.env.kindOf n = some .local) (hlj : X.env.kindOf y = some .local) (hij : i ≠ j) (hdb : (n == ("__debug__" : Str)) = false) (hcd : (n == ("__classdict__" : Str)) = false)
    (hc : Names X x c) (tk : Takes X Wout)
    (hb : ∀ (W : WX) (pn : List (Addr × Obj)) (xe : Value → Shared → Prop), Takes (X.tr pn xe) W → PassesOwn (model X.prog X.w) X.A X.env xe → PSs (X.tr pn xe) body (tb W)) :
    PS X (.Try body [.ExceptHandler (some (.Name x np)) (some n) [.Assign [.Name y ypos] (.Name n npos) apos] hpos] [] [] pos) (fun D σ H => tb (wKeep X.K c i j Wout D) D σ H) := by
  constructor
  intro pins s σ H D I want
  have ok := I.ok
  have fr : X.A.frames = some (X.env :: X.outer) := ok.frames.trans (congrArg some hst)
  -- behind the body, as it is
  have thru : ∀ f s1, SP (X.tr (X.pn ++ pins) (fun e s₁ => wpAny (model X.prog X.w) X.A (noteFrame e X.env) (fun _ s₂ => wpAny (model X.prog X.w) X.A (setFlight e none) (fun _ s₃ =>
      wpAny (model X.prog X.w) X.A (handleBy e X.env [.ExceptHandler (some (.Name x np)) (some n) [.Assign [.Name y ypos] (.Name n npos) apos] hpos]) (SP X pins D) X.xe s₃) X.xe s₂) X.xe s₁)) [] D f s1 → SP X pins D f s1 := by
    intro f s1 q
    cases f with
    | ret u => exact let ⟨v, σ', H', J, r, k⟩ := q; ⟨v, σ', H', J.ofTry ok, r, k⟩
    | next => exact let ⟨σ', H', J, k⟩ := q; ⟨σ', H', J.ofTry ok, k⟩
    | brk => exact let ⟨σ', H', J, k⟩ := q; ⟨σ', H', J.ofTry ok, k⟩
    | cont => exact let ⟨σ', H', J, k⟩ := q; ⟨σ', H', J.ofTry ok, k⟩
  refine wpAny_Try_except (wpAny_mono ((hb (wKeep X.K c i j Wout D) (X.pn ++ pins) _ (fun u s' xx => ?_) PassesOwn.looking).run [] s σ H D (I.toTry _) want) (fun f s1 q => ?_) fun e s1 he => he)
  · -- an error of the body
    obtain ⟨a, G, sA, pins1, σ1, H1, cls, d, rfl, J0, inG, up, sky, na, eos, gens, b, hb1, yes, no⟩ := xx
    have J := J0.ofTry ok
    rw [hst] at sky
    show wpAny (model X.prog X.w) X.A (noteFrame (.ref a) X.env) _ _ _
    refine Sky.land Zc.steady fr hfm sky fun hL fl upL => ?_
    have JL : Inv X pins σ1 H1 { s' with heap := hL } := J.landed inG fl.1 (up.trans upL) eos gens
    have gN : G.get? a = none := fl.2.1
    obtain ⟨o1, v1, g1, z1, d1⟩ := fl.there
    have nfr : a ∉ frs (X.env :: X.outer) := fun hm => by
      obtain ⟨_, o', k1, k2⟩ := fl.2.2.1.mem hm
      rw [g1] at k1
      cases k1
      exact k2 _ d1
    have nl : a ≠ X.env.locals := fun z => nfr (List.mem_filterMap.mpr ⟨X.env, List.mem_cons_self, by rw [hfm, z]⟩)
    have nfs : a ∉ X.fs := fun hm => let ⟨e, k1, k2⟩ := List.mem_filterMap.mp hm; nfr (List.mem_filterMap.mpr ⟨e, List.mem_cons_of_mem _ k1, k2⟩)
    -- what stood when the def began is another one
    have old : ∀ b o, sA.heap.get? b = some o → b ∉ frs X.stack → b ≠ a := fun b o k1 k2 z => by
      have k := inG b o k1 k2
      rw [z, gN] at k
      cases k
    have n0 : X.s_0.heap.get? a = none := by
      cases q : X.s_0.heap.get? a with
      | none => rfl
      | some o =>
        obtain ⟨o', k⟩ := J.base.there a o q (by rw [hex]; exact List.not_mem_nil)
        exact absurd rfl (old a o' k (by rw [hst]; exact nfr))
    have npins : ∀ p ∈ X.pn ++ pins, p.1 ≠ a := fun p hp => by
      obtain ⟨k1, k2, k3, k4, k5⟩ := J.pin p hp
      refine old p.1 p.2 k1 fun hm => ?_
      rw [hst] at hm
      obtain ⟨e, he, ee⟩ := List.mem_filterMap.mp hm
      rcases List.mem_cons.mp he with rfl | he
      · rw [hfm] at ee
        exact k3 (Option.some.inj ee).symm
      · exact k4 (List.mem_filterMap.mpr ⟨e, he, ee⟩)
    have SL := JL.suite g1 d1 na nl nfs
    refine wpAny_handleBy_cons (codeAny_handlers_test ?_) (fun q => by cases q)
    have lookT : PySem.W.Looks (model X.prog X.w) hL (typeOf (.ref a)) cls := fun A Q E s k q => wpAny_typeOf_ref (k _ _ g1) (by rw [z1.1]; exact q)
    have test : ∀ {Q : Value → Shared → Prop} {E : Value → Shared → Prop}, Q c { s' with heap := hL } → wpAny (model X.prog X.w) (X.A.mark (some (.ref a))) (eval (.Name x np) X.env) Q E { s' with heap := hL } := fun {Q E} q => by
      rcases hc with ⟨k1, k2, k3 | ⟨k3, k4, k5⟩⟩
      · exact ld_glob (X := X.suite a ((a, o1) :: (X.pn ++ pins))) SL k1 k3 q k2
      · exact ld_blt (X := X.suite a ((a, o1) :: (X.pn ++ pins))) SL k1 k3 k4 q k5 k2
    refine test ((PySem.W.exm_one (M := model X.prog X.w) JL.kIn lookT hb1).here ?_)
    cases b with
    | false =>
      show wpAny _ X.A (handleBy (.ref a) X.env []) _ _ _
      obtain ⟨_, _, _, o2, v2, T, _, _, g2, _, d2, e2, _⟩ := id fl
      refine wpAny_handleBy_nil ?_
      unfold PySem.passOn
      refine wpAny_bind (wpAny_field g2 d2 e2 ?_)
      rw [if_neg (by simp)]
      have out : wpAny (model X.prog X.w) X.A (setFlight (.ref a) X.env.frame) (fun _ s4 => wpAny (model X.prog X.w) X.A (throw (.ref a) : Sem Flow) (SP X pins D) X.xe s4) X.xe { s' with heap := hL } := by
        rw [hfm]
        refine HandSPX.setFlight_upZ fl fun h4 held up4 => wpAny_throw (tk _ _ ⟨a, G, sA, pins, σ1, H1, cls, d, rfl, J, inG, (up.trans upL).trans up4, .inr (.inr ?_), na, eos, gens, no rfl⟩)
        rw [hst]
        exact held
      first
        | exact wpAny_bind out
        | exact wpAny_bind (wpAny_pure (wpAny_bind out))
    | true =>
      obtain ⟨rfl, fin⟩ := yes rfl
      refine codeAny_handlers_suite_as (HandSPX.lands_againZ fl fun hM flM upM => ?_)
      have JM : Inv X pins σ1 H1 { s' with heap := hM } := J.landed inG flM.1 ((up.trans upL).trans upM) eos gens
      obtain ⟨o3, v3, g3, z3, d3⟩ := flM.there
      refine store_ok (X := X.suite a ((a, o3) :: (X.pn ++ pins))) (v := .ref a) (JM.suite g3 d3 na nl nfs) nd hi (.inl hli) rfl (fun s5 S5 => ?_) (.inr hli)
      have asg : PSs (X.suite a ((a, o3) :: (X.pn ++ pins))) [.Assign [.Name y ypos] (.Name n npos) apos] (tAsg (tVar i) (gName j)) :=
        pss_one (ps_set (X := X.suite a ((a, o3) :: (X.pn ++ pins))) nd hj (.inl hlj) (pe_var (X := X.suite a ((a, o3) :: (X.pn ++ pins))) hi (.inl hli) hdb hcd) rfl (.inr hlj))
      have hlen : i < σ1.length := by
        have k := (List.getElem?_eq_some_iff.mp hi).1
        rw [JM.len]; exact k
      refine wpAny_mono (asg.run [] s5 _ H1 { nx := fun σ' H' => σ' = (σ1.set i (some (.ref a))).set j (some (.ref a)) ∧ H' = H1, rt := fun _ _ => False, bk := fun _ _ => False, ct := fun _ _ => False } S5 ⟨.ref a, by rw [List.getElem?_set_self hlen], rfl, rfl⟩) (fun f s6 q => ?_) (fun _ _ z => z.elim)
      cases f with
      | next =>
        obtain ⟨σ6, H6, S6, rfl, rfl⟩ := q
        obtain ⟨g6, _⟩ := S6.pin (a, o3) (List.mem_append.mpr (.inl List.mem_cons_self))
        have K6 : Inv X pins ((σ1.set i (some (.ref a))).set j (some (.ref a))) (upd H6 a (ExcO cls a)) s6 := keepX (S6.unsuite ok) g6 z3 ⟨_, d3⟩ na n0 nl npins
        exact gone_ok K6 nd hi hli fun s7 K7 => ⟨_, _, K7, fin a na⟩
      | ret u => exact let ⟨_, _, _, _, _, z⟩ := q; z.elim
      | brk => exact let ⟨_, _, _, z⟩ := q; z.elim
      | cont => exact let ⟨_, _, _, z⟩ := q; z.elim
  · have q2 := thru f s1 q
    cases f with
    | next => exact wpAny_execs_nil q2
    | ret u => exact q2
    | brk => exact q2
    | cont => exact q2
end
/-! ### the clause in the language -/
section
variable {X : Cx} {Wx : WX} {cf : CallF}
theorem p_tryas {x n y : Str} {c : String} {i j : Nat} {body : List Stmt} {np pos hpos ypos npos apos : Pos} {t : S} (hx : x = Str.ofString c) (hc1 : c = "KeyRuleError") (hst : X.stack = X.env :: X.outer) (hfm : X.env.frame = some X.env.locals) (hex : X.ex = []) (nd : X.N.Nodup) (hi : X.N[i]? = some n) (hj : X.N[j]? = some y)
    (hli : X.env.scope.names.lookup n = some .local) (hlj : X.env.scope.names.lookup y = some .local) (hij : i ≠ j) (hdb : (n == ("__debug__" : Str)) = false) (hcd : (n == ("__classdict__" : Str)) = false) (hc : Names X x (.ref (He.ga X.K (Str.ofString c))))
    (hm : ∀ y ∈ xnames, (He.Fa.glo (Str.ofString y)).ok X.K = true → PySem.W.exmOne X.K (.ref (He.ga X.K (Str.ofString y))) (.ref (He.ga X.K (Str.ofString c))) = some (y == c || c == "KeyRuleError")) (tk : Takes X Wx)
    (hb : ∀ (W : WX) (pn : List (Addr × Obj)) (xe : Value → Shared → Prop), Takes (X.tr pn xe) W → PassesOwn (model X.prog X.w) X.A X.env xe → PSs (X.tr pn xe) body (tS X.K W (denS cf t))) :
    PS X (.Try body [.ExceptHandler (some (.Name x np)) (some n) [.Assign [.Name y ypos] (.Name n npos) apos] hpos] [] [] pos) (tS X.K Wx (denS cf (.tryas t i j))) :=
  psImp (ps_try_keep (i := i) (j := j) (tb := fun W => tS X.K W (denS cf t)) hst hfm hex nd hi hj hli hlj hij hdb hcd hc tk hb) fun D σ H h => by
    obtain ⟨φ, Z, v, m, s0, r, h⟩ := h
    refine ⟨φ, Z, v, m, s0, r, ?_⟩
    have h : PstS X.K Wx Z φ m H D (match denS cf t v m with
      | .exc x v1 m1 => if i ≠ j ∧ i < v1.length ∧ j < v1.length then .nx ((v1.set j (some (.exn x.c))).set i none) m1 else .no
      | o => o) := h
    cases q : denS cf t v m with
    | no => rw [q] at h; exact h
    | nx v2 m2 => rw [q] at h; exact h
    | bk v2 m2 => rw [q] at h; exact h
    | ct v2 m2 => rw [q] at h; exact h
    | rt w m2 => rw [q] at h; exact h
    | exc e v2 m2 =>
      rw [q] at h
      intro φ' H' σ' cls d s' g' r' hxr
      obtain ⟨x1, x2, x3, x4, x5⟩ := id hxr
      have h : PstS X.K Wx Z φ m H D (if i ≠ j ∧ i < v2.length ∧ j < v2.length then .nx ((v2.set j (some (.exn e.c))).set i none) m2 else .no) := h
      have h := PstS.shift h g' s0.len
      by_cases hl : i ≠ j ∧ i < v2.length ∧ j < v2.length
      · rw [if_pos hl] at h
        refine ⟨true, by rw [x4, hm e.c x2 x3, hc1]; simp, fun _ => ⟨x5, fun a na => ?_⟩, fun z => by cases z⟩
        subst x4
        obtain ⟨s2, g2, e2⟩ := s'.new na (ExcO (.ref (He.ga X.K (Str.ofString e.c))) a)
        refine h φ' _ _ s2 g2 ⟨by simp [r'.len], fun k w ek => ?_⟩
        by_cases ki : k = i
        · subst ki
          rw [List.getElem?_set_self (by simpa using hl.2.1)] at ek
          cases ek
        rw [List.getElem?_set_ne (Ne.symm ki)] at ek ⊢
        by_cases kj : k = j
        · subst kj
          rw [List.getElem?_set_self hl.2.2] at ek
          cases ek
          exact ⟨.ref a, by rw [List.getElem?_set_self (by rw [List.length_set, ← r'.len]; exact hl.2.2)], a, rfl, e2, x2, x3⟩
        · rw [List.getElem?_set_ne (Ne.symm kj)] at ek ⊢
          rw [List.getElem?_set_ne (Ne.symm ki)]
          obtain ⟨z, k1, k2⟩ := r'.at_ k w ek
          exact ⟨z, k1, g2.rw s'.len k2⟩
      · rw [if_neg hl] at h
        exact h.elim
/-! ### isinstance of a kept error -/
def rIsK (K : Fg) : List V → Hp → VK → Prop := fun xs H Q => ∃ (a D : Addr) (c : V) (cv : Value) (b : Bool), xs = [.ref a, c] ∧ H a = some (ExcO (.ref D) a) ∧ ExcC K D ∧ (∀ u, RelV c u → u = cv) ∧ PySem.W.kitOne K (.ref D) cv = some b ∧ Q (.bl b) H
theorem call_isK : CallR X (.builtin "isinstance") (rIsK X.K) := by
  intro pins s σ H xs us Q I r h
  obtain ⟨a, D, c, cv, b, rfl, ha, C, hcv, e, q⟩ := h
  obtain ⟨u1, u2, rfl, r1, r2⟩ := vals2 r
  cases r1
  have ec := hcv _ r2
  subst ec
  obtain ⟨⟨⟨oc, od, oda, osl⟩, hg, ⟨h1, h2⟩, vs, h3⟩, _⟩ := I.hok a _ ha
  dsimp only at h1 h2 h3
  subst h1 h2 h3
  have J : PySem.W.InstAt s.heap a ⟨.ref D, none, .fields vs, osl⟩ D none := ⟨hg, rfl, rfl, trivial⟩
  exact PySem.W.kia_one (PySem.W.handS_kitx_exc C.hg C.hk C.hs C.hd C.ha C.hn C.ht C.hm) I.kIn J e (fun z => nomatch z) fun tk => ⟨.bl b, H, I.tok tk, rfl, q⟩
/-- what is known of a class that is asked for -/
structure XI0 (X : Cx) (c : String) : Prop where
  at_ : (c = "ValueError" ∧ X.mg (Str.ofString c) = none) ∨ (c ≠ "ValueError" ∧ X.mg (Str.ofString c) = some (.ref (He.ga X.K (Str.ofString c))))
  is_ : ∀ y ∈ xnames, (He.Fa.glo (Str.ofString y)).ok X.K = true → ExcC X.K (He.ga X.K (Str.ofString y)) ∧ PySem.W.kitOne X.K (.ref (He.ga X.K (Str.ofString y))) (if c = "ValueError" then .type "ValueError" else .ref (He.ga X.K (Str.ofString c))) = some (isxF c y)
theorem l_isx {c : String} {a : Expr} {t : E} {p p2 pos : Pos} (hg : Gl X "isinstance") (hm : X.mg "isinstance" = none) (hg2 : Gl X (Str.ofString c)) (hdb : (Str.ofString c == ("__debug__" : Str)) = false) (x : XI0 X c) (hs : noStar a = true) (h1 : PE X a (tE X.K Wx (den cf t))) :
    PE X (.Call (.Name "isinstance" p) [a, .Name (Str.ofString c) p2] [] pos) (tE X.K Wx (den cf (.isx c t))) := by
  obtain ⟨cv, hc, hcv, hty⟩ : ∃ (cv : V), (∀ u, RelV cv u → u = (if c = "ValueError" then .type "ValueError" else .ref (He.ga X.K (Str.ofString c)))) ∧ True ∧ PE X (.Name (Str.ofString c) p2) (tC cv) := by
    rcases x.at_ with ⟨rfl, k⟩ | ⟨k0, k⟩
    · exact ⟨.ty "ValueError", fun u hu => by rw [if_pos rfl]; exact hu, trivial, pe_bltn hg2 k (u := .type "ValueError") (by decide +kernel) rfl (by decide) hdb⟩
    · exact ⟨.ref (He.ga X.K (Str.ofString c)), fun u hu => by rw [if_neg k0]; exact hu, trivial, pe_glob hg2 k rfl hdb⟩
  refine peImp (pe_callB call_isK hg hm (by decide +kernel) (pa_cons h1 (pa_cons hty pa_nil (by rfl)) (starEach_ne hs _ _)) (by decide) (by decide) (starEach_ne hs _ _) (by rfl)) fun σ H Q h => ?_
  obtain ⟨φ, Z, v, m, s, r, h⟩ := h
  have h : Pst X.K Wx σ Z φ m H (GV X.K Z Q) ((den cf t v m).bind fun x m1 => match x with
    | .exn y => .ok (.d (.bool (isxF c y))) m1
    | _ => .no) := h
  refine ⟨φ, Z, v, m, s, r, (h.seq s.len).imp fun w φ1 m1 H1 _ s1 g1 h y r1 => ?_⟩
  cases w with
  | exn y1 =>
    obtain ⟨a1, rfl, k1, k2, k3⟩ := r1
    obtain ⟨k4, k5⟩ := x.is_ y1 k2 k3
    exact ⟨a1, _, cv, _, _, rfl, hid_le _ _ k1, k4, hc, k5, h φ1 H1 s1 Gr.refl _ (rw_flat.2.1 _)⟩
  | _ => exact h.elim
/-! ### what the language does not say -/
theorem l_none {e : Expr} : PE X e (tE X.K Wx (den cf .nil)) := ⟨fun _ _ _ _ _ _ h => let ⟨_, _, _, _, _, _, h⟩ := h; h.elim⟩
theorem p_bad {st : Stmt} : PS X st (tS X.K Wx (denS cf .bad)) := ⟨fun _ _ _ _ _ _ h => let ⟨_, _, _, _, _, _, h⟩ := h; h.elim⟩
theorem p_bads {sts : List Stmt} : PSs X sts (tS X.K Wx (denS cf .bad)) := ⟨fun _ _ _ _ _ _ h => let ⟨_, _, _, _, _, _, h⟩ := h; h.elim⟩
end
/-! ### l.index(x) -/
section
variable {X : Cx} {Wx : WX} {cf : CallF}
theorem l_index {o e : Expr} {ap cp : Pos} {t u : E} (hu : X.A.units + 65 < cLine) (hb : noSup o = true) (he : noStar e = true) (hl : (ap.endLine == cp.line) = true) (h1 : PE X o (tE X.K Wx (den cf t))) (h2 : PE X e (tE X.K Wx (den cf u))) :
    PE X (.Call (.Attribute o "index" ap) [e] [] cp) (tE X.K Wx (den cf (.me .index t (.cons u .nil)))) := by
  have hs : starEach [e] X.env = (false, eval e X.env) :: starEach [] X.env := starEach_ne he _ _
  refine peImp (pe_bm PySem.F.plainAttrs_list PySem.F.slot_list_index PySem.F.type_list_index (mt_indexD hu) h1 (l_cons h2 l_nil he) (attr_base hb _ _ _) (by rw [hs]; rfl) hl hs rfl) fun σ H Q h => ?_
  obtain ⟨φ, Z, v, m, s, r, h⟩ := h
  refine ⟨φ, Z, v, m, s, r, (h.seq s.len).imp fun w φ1 m1 H1 _ s1 g1 h x r1 => ?_⟩
  obtain ⟨p, ep, hp0⟩ := (h.seq s1.len).opt
  have hq := hp0.here s1
  clear h hp0
  obtain ⟨p0, e1, e2⟩ := Option.bind_eq_some_iff.mp ep
  cases w with
  | ref n => cases e1
  | scr n => cases e1
  | exn n => cases e1
  | d z =>
    obtain rfl := Option.some.inj e1
    obtain ⟨dp, hc⟩ := r1
    cases z with
    | list ds =>
      have ep : p = .list ds := (Option.some.inj e2).symm
      subst ep
      cases dp with
      | @lst a vs _ k1 k2 =>
        refine ⟨.inl ⟨rfl, _, SqL.of (hid_le _ _ k1)⟩, φ1, Z, v, m1, s1, g1.rv s.len r, (hq.seq s1.len).imp fun ws φ2 m2 H2 _ s2 g2 h xs r2 => ?_⟩
        obtain ⟨w', ew, h⟩ := h.opt
        obtain ⟨qs, e3, e4⟩ := Option.bind_eq_some_iff.mp ew
        obtain ⟨c, e5, rfl⟩ := Option.map_eq_some_iff.mp e4
        have rz := g2.rw s1.len (w := .d (.list ds)) (x := .ref a) ⟨.lst k1 k2, hc⟩
        have hz : L2.Dp X.K H2 (.ref a) (.list ds) := Dp.lib _ _ (dpMono hid_le _ _ rz.1)
        obtain ⟨d, rfl, e6, j, e7, rfl⟩ : ∃ d, qs = [d] ∧ deepOk d (.list ds) ∧ ∃ j : Nat, ds.findIdx? (fun z => PyData.eqv z d) = some j ∧ c = .int j := by
          rcases qs with _ | ⟨d, _ | ⟨d2, k⟩⟩
          · cases e5
          · simp only [meF] at e5
            split at e5
            · obtain ⟨j, k3, rfl⟩ := Option.map_eq_some_iff.mp e5
              exact ⟨d, rfl, by assumption, j, k3, rfl⟩
            · cases e5
          · cases e5
        obtain ⟨y, wy, rfl, ry, ey⟩ : ∃ y wy, xs = [y] ∧ RW X.K φ2 (hid φ2 m2 Z H2) wy y ∧ vw m2 wy = some d := by
          cases r2 with
          | nil => simp at e3
          | @cons w1 x1 ws1 xs1 q1 qt =>
            simp only [List.mapM_cons, Option.bind_eq_bind, Option.bind_eq_some_iff] at e3
            obtain ⟨d1, k1, l1, k2, k3⟩ := e3
            have k3 : d1 :: l1 = [d] := Option.some.inj k3
            simp only [List.cons.injEq] at k3
            obtain ⟨rfl, rfl⟩ := k3
            cases qt with
            | nil => exact ⟨x1, w1, rfl, q1, k1⟩
            | @cons w2 x2 ws2 xs2 _ _ =>
              simp only [List.mapM_cons, Option.bind_eq_bind, Option.bind_eq_some_iff] at k2
              obtain ⟨d2, _, l2, _, k4⟩ := k2
              cases (show some (d2 :: l2) = some [] from k4)
        obtain ⟨dy, cy⟩ := vw_dp s2 ry ey
        obtain ⟨hj, k5, k6⟩ := List.findIdx?_eq_some_iff_getElem.mp e7
        have sh : ∀ z : PyData, z.canLay0 = true → z.depth ≤ 64 → SeqAt.shaped z = true := fun z k1 k2 => by
          show (z.canLay0 && decide (z.depth ≤ 64)) = true
          rw [k1, decide_eq_true k2]; rfl
        refine ⟨a, y, d, ds, j, ds[j], rfl, rfl, hz, Dp.lib _ _ dy, sh _ hc e6.2, sh _ cy e6.1, List.getElem?_eq_getElem hj, k5, fun mm z' hm hz' => ?_, h φ2 H2 s2 Gr.refl _ (rw_flat.1 _)⟩
        obtain ⟨h9, rfl⟩ := List.getElem?_eq_some_iff.mp hz'
        have := k6 mm hm
        simpa using this
    | _ => cases e2
end
end MP
/-! MPN: more new lists; tests of a comprehension; small facts for the checker. -/
namespace MP
open PySem PySem.Spec PyProof.Rows L2
open Classical
section
variable {X : Cx} {Wx : WX} {cf : CallF} {pos : Pos} {e a b c tg it : Expr} {E1 E2 E3 EI : E}
theorem p_retn (he : PE X e (tFr X.K Wx (den cf E1))) : PS X (.Return (some e) pos) (tS X.K Wx (denS cf (.retn E1))) := psImp (ps_ret (ofFrNew he)) fun D σ H h => by
  obtain ⟨φ, Z, v, m, s, r, h⟩ := h
  have h : PstS X.K Wx Z φ m H D ((den cf E1 v m).toS v fun w m1 => (newC true w m1).toS v fun w2 m2 => .rt w2 m2) := h
  rw [toS_bind] at h
  exact ⟨φ, Z, v, m, s, r, (PstS.toS s.len r h).imp fun w φ1 m1 H1 _ s1 g1 h x rx => h φ1 H1 x s1 Gr.refl rx⟩
/-- list + list, list * int: a new list -/
theorem l_binF {o : Op} {R : R2} {ee : Expr} (rule : PE X ee (tOp R (tE X.K Wx (den cf E1)) (tE X.K Wx (den cf E2))))
    (hk : ∀ φ Z m H w1 w2 p q l x y Q, SR X.K φ m Z H → RW X.K φ (hid φ m Z H) w1 x → RW X.K φ (hid φ m Z H) w2 y → vw m w1 = some p → vw m w2 = some q → binF o p q = some (.list l) →
      (∀ c vs, H c = none → DpAll X.K (hid φ m Z H) vs l → PyData.canLayAll0 l = true → Q (.ref c) (upd H c (.lst vs))) → R x y H Q) : PE X ee (tFr X.K Wx (den cf (.bin o E1 E2))) := by
  refine peImp rule fun σ H Q h => ?_
  obtain ⟨φ, Z, v, m, s, r, h⟩ := h
  refine ⟨φ, Z, v, m, s, r, (h.seq s.len).imp fun w1 φ1 m1 H1 _ s1 g1 h x r1 => ⟨φ1, Z, v, m1, s1, g1.rv s.len r, (h.seq s1.len).imp fun w2 φ2 m2 H2 _ s2 g2 h y r2 => ?_⟩⟩
  obtain ⟨w, ew, h⟩ := h.opt
  obtain ⟨hl, hq⟩ := h.here s2
  obtain ⟨p, q, z, k1, k2, k3, rfl⟩ := kBin_some ew
  obtain ⟨l, hl⟩ := hl
  cases hl
  exact hk φ2 Z m2 H2 w1 w2 p q l x y Q s2 (g2.rw s1.len r1) r2 k1 k2 k3 fun c vs hc hd hcl => hq c vs l rfl hc hd hcl
theorem l_addF (h1 : PE X a (tE X.K Wx (den cf E1))) (h2 : PE X b (tE X.K Wx (den cf E2))) : PE X (.BinOp a .Add b pos) (tFr X.K Wx (den cf (.bin .add E1 E2))) :=
  l_binF (pe_op op_cat h1 h2) fun φ Z m H w1 w2 p q l x y Q s r1 r2 k1 k2 k3 hq => by
    cases p with
    | list u =>
      cases q with
      | list t =>
        obtain ⟨a1, vs1, rfl, g1, d1, c1⟩ := vw_list s r1 k1
        obtain ⟨a2, vs2, rfl, g2, d2, c2⟩ := vw_list s r2 k2
        simp only [binF] at k3
        split at k3
        · cases k3
          exact ⟨a1, a2, vs1, vs2, rfl, rfl, g1, g2, by rw [DpAll.len d1, DpAll.len d2]; assumption, fun c hc => hq c _ hc (d1.app d2) (canL_app c1 c2)⟩
        · cases k3
      | _ => cases k3
    | tuple u =>
      cases q with
      | tuple t => simp only [binF] at k3; split at k3 <;> cases k3
      | _ => cases k3
    | str u =>
      cases q with
      | str t => simp only [binF] at k3; split at k3 <;> cases k3
      | _ => cases k3
    | _ => cases q <;> cases k3
theorem l_mulF (h1 : PE X a (tE X.K Wx (den cf E1))) (h2 : PE X b (tE X.K Wx (den cf E2))) : PE X (.BinOp a .Mult b pos) (tFr X.K Wx (den cf (.bin .mul E1 E2))) :=
  l_binF (pe_op op_rep h1 h2) fun φ Z m H w1 w2 p q l x y Q s r1 r2 k1 k2 k3 hq => by
    cases p with
    | list u =>
      cases q with
      | int t =>
        obtain ⟨a1, vs1, rfl, g1, d1, c1⟩ := vw_list s r1 k1
        have hy := (vw_flat s r2 k2).1 t rfl
        simp only [binF] at k3
        split at k3
        · rename_i hc
          cases k3
          have hl := DpAll.len d1
          refine ⟨a1, t, vs1, rfl, hy, g1, by omega, by omega, ?_, fun c hc => hq c _ hc (d1.rep _) (canL_rep c1 _)⟩
          have hb : t.toNat ≤ 1000 := by omega
          have : vs1.length * t.toNat ≤ 1000 * 1000 := Nat.mul_le_mul (by omega) hb
          rw [sizeLine_eq]; omega
        · cases k3
      | _ => cases k3
    | tuple u =>
      cases q with
      | int t => simp only [binF] at k3; split at k3 <;> cases k3
      | _ => cases k3
    | int u =>
      cases q with
      | int t => simp only [binF] at k3; split at k3 <;> cases k3
      | _ => cases k3
    | _ => cases q <;> cases k3
/-! ### a clause's tests -/
theorem l_ifs0 : PTs X [] (tT X.K Wx (denT cf .nil)) := ⟨fun pins s σ H Q I h => pts_nil.run pins s σ H Q I (by
  obtain ⟨φ, Z, v, m, s0, r, h⟩ := h
  exact h.here s0)⟩
theorem l_ifs1 (h1 : PT X c (tT X.K Wx (denB cf E1))) : PTs X [c] (tT X.K Wx (denT cf (.cons E1 .nil))) := pts_one (ptImp h1 fun σ H Q h => by
  obtain ⟨φ, Z, v, m, s, r, h⟩ := h
  refine ⟨φ, Z, v, m, s, r, ?_⟩
  have e : denT cf (.cons E1 .nil) v m = denB cf E1 v m := by
    show ((den cf E1 v m).bind fun x m1 => (optR ((vw m1 x).bind truF) m1).bind fun t m2 => if t then Res.ok true m2 else .ok false m2) = (den cf E1 v m).bind fun x m1 => optR ((vw m1 x).bind truF) m1
    cases den cf E1 v m with
    | no => rfl
    | exc x m1 => rfl
    | ok x m1 =>
      show ((optR ((vw m1 x).bind truF) m1).bind fun t m2 => if t then Res.ok true m2 else .ok false m2) = optR ((vw m1 x).bind truF) m1
      cases (vw m1 x).bind truF with
      | none => rfl
      | some t => cases t <;> rfl
  rw [e] at h
  exact h)
/-! ### what a statement's target and value look like -/
def isComp : Expr → Bool
  | .ListComp _ _ _ _ => true
  | .SetComp _ _ _ _ => true
  | .DictComp _ _ _ _ _ => true
  | _ => false
theorem sw_no {e : Expr} (h : isComp e = false) (t : Option Expr) (l : Nat) (env : PySem.Env) : swapsWith e t l env = pure false := by
  cases e <;> first | rfl | cases h
theorem sw_cell {elt : Expr} {gs : List Comprehension} {scope : Scope} {p py : Pos} {y : Str} {l : Nat} {env : PySem.Env} (h : env.scope.names.lookup y = some .cell) : swapsWith (.ListComp elt gs scope p) (some (.Name y py)) l env = pure false := by
  have ky : env.kindOf y = some .cell := h
  unfold swapsWith
  simp only [ky]
  have e : ((some NameKind.cell) == (some NameKind.local)) = false := by decide
  simp [e]
def isTupE : Expr → Bool
  | .Tuple _ _ _ => true
  | _ => false
theorem ss_no {tg e : Expr} (h : isTupE e = false) (env : PySem.Env) : swappedStores [tg] e env = pure none := by
  cases e <;> first | (cases tg <;> rfl) | cases h
def isSt : Expr → Bool
  | .Starred _ _ => true
  | _ => false
theorem isSt_no {e : Expr} (h : noStar e = true) : isSt e = false := by cases e <;> first | rfl | cases h
def nmB (env : PySem.Env) (l : Nat) : Expr → Option Str
  | .Name id p => if env.kindOf id == some .local && p.line == l then some id else none
  | _ => none
def ssB (ts vs : List Expr) (env : PySem.Env) : Sem (Option (List Str)) :=
  if !(ts.length == 2 || ts.length == 3) || vs.length != ts.length || env.blockKind != .function then pure none else
  if vs.any isSt then pure none else
  let names := ts.filterMap (nmB env ((ts.head?.map (·.pos.line)).getD 0))
  if names.length != ts.length || names.eraseDups.length != names.length then pure none else
  if vs.all (foldedForSure 8) then pure none else
  if vs.all (constantsAlone 8) then unsupported "assign.tuple-of-constant-expressions:order-of-the-stores" else
  pure (some names)
theorem ss_eq (ts vs : List Expr) (kt k2 : Nat) (pt pt2 : Pos) (env : PySem.Env) : swappedStores [.Tuple ts kt pt] (.Tuple vs k2 pt2) env = ssB ts vs env := by
  unfold ssB swappedStores
  rfl
theorem ss_two {x y : Str} {px py pt : Pos} {kt k2 : Nat} {pt2 : Pos} {a b : Expr} {env : PySem.Env} (hb : env.blockKind = .function) (hx : env.scope.names.lookup x = some .local) (hy : env.scope.names.lookup y = some .local) (hl : (py.line == px.line) = true) (hxy : x ≠ y)
    (na : noStar a = true) (nb : noStar b = true) (h1 : (foldedForSure 8 a && foldedForSure 8 b) = false) (h2 : (constantsAlone 8 a && constantsAlone 8 b) = false) :
    swappedStores [.Tuple [.Name x px, .Name y py] kt pt] (.Tuple [a, b] k2 pt2) env = pure (some [x, y]) := by
  have kx : env.kindOf x = some .local := hx
  have ky : env.kindOf y = some .local := hy
  have hxy' : (y == x) = false := by simpa using fun e : y = x => hxy e.symm
  have e1 : nmB env px.line (.Name x px) = some x := by simp [nmB, kx]
  have e2 : nmB env px.line (.Name y py) = some y := by simp only [nmB, ky, hl]; rfl
  have e3 : ([.Name x px, .Name y py] : List Expr).filterMap (nmB env px.line) = [x, y] := by rw [List.filterMap_cons_some e1, List.filterMap_cons_some e2]; rfl
  have e4 : [x, y].eraseDups = [x, y] := by simp [List.eraseDups_cons, hxy']
  rw [ss_eq]
  unfold ssB
  have e5 : (((([.Name x px, .Name y py] : List Expr).head?.map (·.pos.line)).getD 0)) = px.line := rfl
  simp only [e5, e3, e4, hb, List.any_cons, List.any_nil, isSt_no na, isSt_no nb, List.all_cons, List.all_nil, Bool.and_true, h1, h2]
  rfl
theorem ss_three {x y z : Str} {px py pz pt : Pos} {kt k2 : Nat} {pt2 : Pos} {a b c : Expr} {env : PySem.Env} (hb : env.blockKind = .function) (hx : env.scope.names.lookup x = some .local) (hy : env.scope.names.lookup y = some .local) (hz : env.scope.names.lookup z = some .local)
    (hl : (py.line == px.line) = true) (hl2 : (pz.line == px.line) = true) (hxy : x ≠ y) (hxz : x ≠ z) (hyz : y ≠ z) (na : noStar a = true) (nb : noStar b = true) (nc : noStar c = true)
    (h1 : (foldedForSure 8 a && (foldedForSure 8 b && foldedForSure 8 c)) = false) (h2 : (constantsAlone 8 a && (constantsAlone 8 b && constantsAlone 8 c)) = false) :
    swappedStores [.Tuple [.Name x px, .Name y py, .Name z pz] kt pt] (.Tuple [a, b, c] k2 pt2) env = pure (some [x, y, z]) := by
  have kx : env.kindOf x = some .local := hx
  have ky : env.kindOf y = some .local := hy
  have kz : env.kindOf z = some .local := hz
  have hxy' : (y == x) = false := by simpa using fun e : y = x => hxy e.symm
  have hxz' : (z == x) = false := by simpa using fun e : z = x => hxz e.symm
  have hyz' : (z == y) = false := by simpa using fun e : z = y => hyz e.symm
  have e1 : nmB env px.line (.Name x px) = some x := by simp [nmB, kx]
  have e2 : nmB env px.line (.Name y py) = some y := by simp only [nmB, ky, hl]; rfl
  have e2' : nmB env px.line (.Name z pz) = some z := by simp only [nmB, kz, hl2]; rfl
  have e3 : ([.Name x px, .Name y py, .Name z pz] : List Expr).filterMap (nmB env px.line) = [x, y, z] := by rw [List.filterMap_cons_some e1, List.filterMap_cons_some e2, List.filterMap_cons_some e2']; rfl
  have e4 : [x, y, z].eraseDups = [x, y, z] := by simp [List.eraseDups_cons, hxy', hxz', hyz']
  rw [ss_eq]
  unfold ssB
  have e5 : (((([.Name x px, .Name y py, .Name z pz] : List Expr).head?.map (·.pos.line)).getD 0)) = px.line := rfl
  simp only [e5, e3, e4, hb, List.any_cons, List.any_nil, isSt_no na, isSt_no nb, isSt_no nc, List.all_cons, List.all_nil, Bool.and_true, h1, h2]
  rfl
/-- two targets that are not swapped: some name is no plain local, or all is constant -/
theorem ss_none {ts vs : List Expr} {kt k2 : Nat} {pt pt2 : Pos} {env : PySem.Env} (h : (ts.filterMap (nmB env ((ts.head?.map (·.pos.line)).getD 0))).length ≠ ts.length ∨ vs.all (foldedForSure 8) = true) : swappedStores [.Tuple ts kt pt] (.Tuple vs k2 pt2) env = pure none := by
  rw [ss_eq]
  unfold ssB
  split
  · rfl
  · split
    · rfl
    · rcases h with h | h
      · rw [if_pos]
        simp [h]
      · simp only [h]
        split <;> rfl
end
end MP
/-! MPO: the checker: does a text of the program say what E, S say? -/
namespace MP
open PySem PySem.Spec PyProof.Rows L2
/-- what the checker knows of the place it stands at -/
structure Ck where
  N : List Str
  sc : Scope
  fsc : Option Scope
  calm : Bool
  top : Bool
  fns : List (String × Nat)
  nums : List (String × Int)
  free : List String
  excs : List String
  trys : List String
  isx : List String
  tabs : List (String × List (String × Int))
structure Good (C : Ck) (P : Tab) (n : Nat) (X : Cx) (Wx : WX) : Prop where
  N : X.N = C.N
  sc : X.env.scope = C.sc
  fn : ∀ x, (match C.fsc with | none => true | some sc => sc.names.lookup x == some NameKind.cell) = true → X.fn x = true
  nd : X.N.Nodup
  kd : X.env.scope.kind = .function
  calm : C.calm = true → X.calm = true
  gd : X.A.guards = some []
  room : C.calm = true → Room n X.A
  un : X.A.units + 66 < cLine
  fns : ∀ p ∈ C.fns, ∃ a fd ps, ps.length = p.2 ∧ FnG X.prog X.w X.K X.mg X.base n a fd ps (spN X.K P n p.1) ∧ X.mg (Str.ofString p.1) = some (.ref a) ∧ PySem.W.keepIn X.K (.ref a) = true ∧ Binds X.K fd ps []
  nums : ∀ p ∈ C.nums, ∃ t, X.mg (Str.ofString p.1) = some (.int p.2 t)
  free : ∀ x ∈ C.free, X.mg (Str.ofString x) = none
  excs : ∀ c ∈ C.excs, XK0 X c
  trys : ∀ c ∈ C.trys, (∃ a, X.mg (Str.ofString c) = some (.ref a) ∧ a = He.ga X.K (Str.ofString c)) ∧ ∀ y ∈ xnames, (He.Fa.glo (Str.ofString y)).ok X.K = true → PySem.W.exmOne X.K (.ref (He.ga X.K (Str.ofString y))) (.ref (He.ga X.K (Str.ofString c))) = some (y == c || c == "KeyRuleError")
  isx : ∀ c ∈ C.isx, XI0 X c
  tabs : ∀ p ∈ C.tabs, ∃ a, X.mg (Str.ofString p.1) = some (.ref a) ∧ TabK X.K X.w a p.2
  tk : Takes X Wx
  own : PassesOwn (model X.prog X.w) X.A X.env X.xe
  top : C.top = true → X.stack = X.env :: X.outer ∧ X.env.frame = some X.env.locals ∧ X.ex = []
namespace Ck
def vis (C : Ck) (x : Str) : Bool := match C.sc.names.lookup x with
  | some .local => true
  | some .cell => true
  | some .free => true
  | _ => false
def glb (C : Ck) (x : Str) : Bool := C.sc.names.lookup x == some .globalImplicit
def loc (C : Ck) (x : Str) : Bool := match C.sc.names.lookup x with
  | some .local => true
  | some .cell => (match C.fsc with | none => true | some sc => sc.names.lookup x == some NameKind.cell)
  | _ => false
def var (C : Ck) (i : Nat) (x : Str) : Bool := decide (C.N[i]? = some x) && C.vis x && !(x == ("__debug__" : Str)) && !(x == ("__classdict__" : Str))
/-- a built-in's name, free in the module -/
def blt (C : Ck) (x : Str) (s : String) : Bool := decide (x = Str.ofString s) && C.free.contains s && C.glb x
def set (C : Ck) (i : Nat) (x : Str) : Bool := decide (C.N[i]? = some x) && C.loc x
end Ck
section
variable {C : Ck} {P : Tab} {n : Nat} {X : Cx} {Wx : WX}
theorem Good.gl (g : Good C P n X Wx) {x : Str} (h : C.glb x = true) : Gl X x := by
  have e : C.sc.names.lookup x = some .globalImplicit := by simpa [Ck.glb] using h
  show X.env.scope.names.lookup x = _
  rw [g.sc, e]
theorem Good.var (g : Good C P n X Wx) {i : Nat} {x : Str} {p : Pos} {cf : CallF} (h : C.var i x = true) : PE X (.Name x p) (tE X.K Wx (den cf (.var i))) := by
  simp only [Ck.var, Bool.and_eq_true, decide_eq_true_eq, Bool.not_eq_true'] at h
  obtain ⟨⟨⟨h1, h2⟩, h3⟩, h4⟩ := h
  refine l_var (by rw [g.N]; exact h1) ?_ h3 h4
  unfold Ck.vis at h2
  unfold Vis
  rw [g.sc]
  split at h2
  · exact .inl (by assumption)
  · exact .inr (.inl (by assumption))
  · exact .inr (.inr (by assumption))
  · cases h2
theorem Good.visX (g : Good C P n X Wx) {i : Nat} {x : Str} (h : C.var i x = true) : X.N[i]? = some x ∧ Vis X.env.scope x ∧ (x == ("__debug__" : Str)) = false ∧ (x == ("__classdict__" : Str)) = false := by
  simp only [Ck.var, Bool.and_eq_true, decide_eq_true_eq, Bool.not_eq_true'] at h
  obtain ⟨⟨⟨h1, h2⟩, h3⟩, h4⟩ := h
  refine ⟨by rw [g.N]; exact h1, ?_, h3, h4⟩
  unfold Ck.vis at h2
  unfold Vis
  rw [g.sc]
  split at h2
  · exact .inl (by assumption)
  · exact .inr (.inl (by assumption))
  · exact .inr (.inr (by assumption))
  · cases h2
theorem Good.set (g : Good C P n X Wx) {i : Nat} {x : Str} (h : C.set i x = true) : X.N[i]? = some x ∧ Loc X.env.scope x ∧ (X.fn x = true ∨ X.env.scope.names.lookup x = some .local) := by
  simp only [Ck.set, Bool.and_eq_true, decide_eq_true_eq] at h
  obtain ⟨h1, h2⟩ := h
  refine ⟨by rw [g.N]; exact h1, ?_⟩
  unfold Ck.loc at h2
  unfold L2.Loc
  rw [g.sc]
  split at h2
  · exact ⟨.inl (by assumption), .inr (by assumption)⟩
  · exact ⟨.inr (by assumption), .inl (g.fn x h2)⟩
  · cases h2
theorem Good.blt (g : Good C P n X Wx) {x : Str} {s : String} (h : C.blt x s = true) : x = Str.ofString s ∧ Gl X (Str.ofString s) ∧ X.mg (Str.ofString s) = none := by
  simp only [Ck.blt, Bool.and_eq_true, decide_eq_true_eq, List.contains_iff_mem] at h
  obtain ⟨⟨h1, h2⟩, h3⟩ := h
  subst h1
  exact ⟨rfl, g.gl h3, g.free s h2⟩
end
/-! ### built-ins with one argument -/
def biNm : Bi → String
  | .len => "len" | .all => "all" | .any => "any" | .sum => "sum" | .max1 => "max" | .min1 => "min" | .abs => "abs" | .int => "int" | .bool => "bool" | .tuple => "tuple" | .list => "list" | .repr => "repr" | .sorted => "sorted" | _ => ""
def biD : Bi → Bool
  | .len => true | .all => true | .any => true | .sum => true | .max1 => true | .min1 => true | .abs => true | .int => true | .bool => true | .tuple => true | .repr => true | _ => false
section
variable {X : Cx} {Wx : WX} {cf : CallF} {p pos : Pos} {a : Expr} {t : E}
theorem l_bi1 {bb : Bi} (hb : biD bb = true) (hc : X.calm = true) (hgd : X.A.guards = some []) (hu : X.A.units + 66 < cLine) (hg : Gl X (Str.ofString (biNm bb))) (hm : X.mg (Str.ofString (biNm bb)) = none) (hs : noStar a = true) (h1 : PE X a (tE X.K Wx (den cf t))) :
    PE X (.Call (.Name (Str.ofString (biNm bb)) p) [a] [] pos) (tE X.K Wx (den cf (.bi bb (.cons t .nil)))) := by
  have ha : PA X [a] (tAr X.K Wx (denA cf (.cons t .nil))) := l_cons h1 l_nil hs
  have hs' : [a].all noStar = true := by simp [hs]
  cases bb with
  | len => exact l_biB (call_len_seq.or call_len_str) b_len hg hm (by decide +kernel) (by decide +kernel) (by decide +kernel) hs' ha
  | all => exact l_biB (cr_all hc) b_all hg hm (by decide +kernel) (by decide +kernel) (by decide +kernel) hs' ha
  | any => exact l_biB (cr_any hc) b_any hg hm (by decide +kernel) (by decide +kernel) (by decide +kernel) hs' ha
  | sum => exact l_biB (cr_sum hc) b_sum hg hm (by decide +kernel) (by decide +kernel) (by decide +kernel) hs' ha
  | max1 => exact l_biB (cr_max hc) b_max1 hg hm (by decide +kernel) (by decide +kernel) (by decide +kernel) hs' ha
  | min1 => exact l_biB (cr_min hc) b_min1 hg hm (by decide +kernel) (by decide +kernel) (by decide +kernel) hs' ha
  | abs => exact l_biB call_abs b_abs hg hm (by decide +kernel) (by decide +kernel) (by decide +kernel) hs' ha
  | repr => exact l_biB (cr_repr hgd hu) b_repr hg hm (by decide +kernel) (by decide +kernel) (by decide +kernel) hs' ha
  | int => exact l_biT call_int1 b_int hg hm (by decide +kernel) (by decide +kernel) (by decide +kernel) hs' ha
  | bool => exact l_biT call_bool1 b_bool hg hm (by decide +kernel) (by decide +kernel) (by decide +kernel) hs' ha
  | tuple => exact l_biT call_tupX b_tuple hg hm (by decide +kernel) (by decide +kernel) (by decide +kernel) hs' ha
  | _ => cases hb
theorem l_listF (hg : Gl X "list") (hm : X.mg "list" = none) (hs : noStar a = true) (h1 : PE X a (tE X.K Wx (den cf t))) : PE X (.Call (.Name "list" p) [a] [] pos) (tFr X.K Wx (den cf (.bi .list (.cons t .nil)))) :=
  l_biF (pe_callTy call_list_of hg hm (by decide +kernel) (l_cons h1 l_nil hs) (by decide) (by decide) (starEach_ne hs _ _) (by rfl)) b_list
theorem l_sortedF (hu : X.A.units + 66 < cLine) (hg : Gl X "sorted") (hm : X.mg "sorted" = none) (hs : noStar a = true) (h1 : PE X a (tE X.K Wx (den cf t))) : PE X (.Call (.Name "sorted" p) [a] [] pos) (tFr X.K Wx (den cf (.bi .sorted (.cons t .nil)))) :=
  l_biF (pe_callB ((cr_sortedI.or cr_sort2).or (cr_sortP hu)) hg hm (by decide +kernel) (l_cons h1 l_nil hs) (by decide) (by decide) (starEach_ne hs _ _) (by rfl)) b_sorted3
end
end MP
/-! MPP: the checker's steps for expressions, and that they are right. -/
namespace MP
open PySem PySem.Spec PyProof.Rows L2
/-- a question: does this text say that? -/
inductive Qy where
  | qe (e : Expr) (t : E)
  | qf (e : Expr) (t : E)
  | qt (e : Expr) (t : E)
  | qw (e : Expr) (t : E)
  | qa (es : List Expr) (t : E)
  | qi (tg e : Expr) (t : E)
  | qg (tg : Expr) (g : Tg)
  | qgs (tgs : List Expr) (g : Tg)
  | qp (o : Option Expr) (t : E)
  | qc (cs : List Expr) (t : E)
  | qs (st : Stmt) (s : S)
  | qss (sts : List Stmt) (s : S)
  | qh (hs : List ExceptHandler) (s : S)
def Mean (P : Tab) (n : Nat) (X : Cx) (Wx : WX) : Qy → Prop
  | .qe e t => PE X e (tE X.K Wx (den (callN P n) t))
  | .qf e t => PE X e (tFr X.K Wx (den (callN P n) t))
  | .qt e t => PT X e (tT X.K Wx (denB (callN P n) t))
  | .qw e t => PW X e (tT X.K Wx (denB (callN P n) t))
  | .qa es t => PA X es (tAr X.K Wx (denA (callN P n) t))
  | .qi tg e t => PI X tg e (tI X.K Wx (denI (callN P n) t))
  | .qg tg g => PG X tg (tgt X.K g)
  | .qgs tgs g => PGs X tgs (tgtL X.K g)
  | .qp o t => Part X Wx (callN P n) o t
  | .qc cs t => PTs X cs (tT X.K Wx (denT (callN P n) t))
  | .qs st s => PS X st (tS X.K Wx (denS (callN P n) s))
  | .qss sts s => PSs X sts (tS X.K Wx (denS (callN P n) s))
  | .qh hs s => ∃ l, HdsOk X hs l ∧ HkOk X.K (callN P n) s l
/-- a step of the checker is right -/
def Right (P : Tab) (n : Nat) (r : Ck → Qy → Bool) : Prop := ∀ C q, r C q = true → ∀ X Wx, Good C P n X Wx → Mean P n X Wx q
def constOk : Const → PyData → Bool
  | .none, .none => true
  | .bool b, .bool c => b == c
  | .int i, .int j => i == j
  | .str s, .str t => decide (s = t) && PyData.strOk t
  | _, _ => false
def isSetE : Expr → Bool
  | .Set _ _ _ => true
  | _ => false
theorem fold_no {e : Expr} (h : isSetE e = false) (env : PySem.Env) (x : Value) : foldedSetIterable e env x = pure x := by
  cases e <;> first | rfl | cases h
def isFr : E → Bool
  | .lst _ => true
  | .bi .list _ => true
  | .bi .sorted _ => true
  | .bi .srtset _ => true
  | .comp _ _ _ _ _ => true
  | .comp2 _ _ _ _ _ _ _ _ _ => true
  | _ => false
abbrev dbgOk (x : Str) : Bool := !(x == ("__debug__" : Str))
/-- the names of a comprehension's own slots -/
def ownOf (N : List Str) (vs : List Nat) : List (Str × Nat) := vs.map fun i => (N.getD i Str.empty, i)
theorem ownOf_map (N : List Str) (vs : List Nat) : (ownOf N vs).map (·.2) = vs := by
  unfold ownOf
  rw [List.map_map]
  exact List.map_id' vs
def Ck.blk (C : Ck) (scope : Scope) : Ck := { C with sc := relS scope C.sc, fsc := some scope, top := false }
section
variable (r : Ck → Qy → Bool) (C : Ck)
def cE (e : Expr) (t : E) : Bool := match e with
  | .BoolOp _ [x] _ => r C (.qe x t)
  | e => if isFr t then r C (.qf e t) else match t, e with
    | .var i, .Name x _ => C.var i x
    | .lit d, .Constant c _ _ => constOk c d
    | .lit (.int i), .Name x _ => (C.nums.any fun p => decide (x = Str.ofString p.1) && p.2 == i) && C.glb x && dbgOk x
    | .tup es, .Tuple l _ _ => r C (.qa l es)
    | .bin o a b, .BinOp x op y _ => decide (op = opPy o) && r C (.qe x a) && r C (.qe y b)
    | .neg a, .UnaryOp .USub x _ => r C (.qe x a)
    | .cmp o a b, .Compare x [op] [y] _ => decide (op = cmPy o) && noSet y && r C (.qe x a) && r C (.qe y b)
    | .chain o o2 a b c, .Compare x [op, op2] [y, z] _ => decide (op = cmPy o) && decide (op2 = cmPy o2) && noSet z && r C (.qe x a) && r C (.qe y b) && r C (.qe z c)
    | .isc s nn a, .Compare x [op] [.Constant c _ _] _ => decide (op = if nn then .IsNot else .Is) && decide (c = sgC s) && r C (.qe x a)
    | .not a, .UnaryOp .Not x _ => r C (.qe x a)
    | .and a b, .BoolOp .And (x :: y :: l) p => r C (.qe x a) && r C (.qe (.BoolOp .And (y :: l) p) b)
    | .or a b, .BoolOp .Or (x :: y :: l) p => r C (.qe x a) && r C (.qe (.BoolOp .Or (y :: l) p) b)
    | .ite c a b, .IfExp x y z _ => r C (.qt x c) && r C (.qe y a) && r C (.qe z b)
    | .call f (.star a .nil), .Call (.Name x _) [.Starred y _] [] _ => decide (x = Str.ofString f) && C.glb x && dbgOk x && (C.fns.any fun p => p.1 == f) && C.calm && r C (.qe y a)
    | .call f es, .Call (.Name x _) (y :: ys) [] _ => decide (x = Str.ofString f) && C.glb x && dbgOk x && (C.fns.any fun p => p.1 == f && p.2 == (y :: ys).length) && (y :: ys).all noStar && C.calm && r C (.qa (y :: ys) es)
    | .bi b (.cons a .nil), .Call (.Name x _) [y] [] _ => biD b && C.blt x (biNm b) && noStar y && C.calm && r C (.qe y a)
    | .bi b (.cons a .nil), .Call (.Name x _) [y, .Name z _] [] _ => isBi b && C.blt x "isinstance" && C.blt z (biTy b) && noStar y && r C (.qe y a)
    | .slc a lo hi, .Subscript x (.Slice l h none _) _ => r C (.qe x a) && r C (.qp l lo) && r C (.qp h hi)
    | .sub a i, .Subscript x y _ => noSlice y && r C (.qe x a) && r C (.qe y i)
    | .subr a i, .Subscript x y _ => noSlice y && r C (.qe x a) && r C (.qe y i)
    | .rvt a, .Subscript x (.Slice none none (some (.UnaryOp .USub (.Constant (.int 1) _ _) _)) _) _ => r C (.qe x a)
    | .me .count a (.cons b .nil), .Call (.Attribute x nm ap) [y] [] cp => decide (nm = ("count" : Str)) && noSup x && noStar y && (ap.endLine == cp.line) && r C (.qe x a) && r C (.qe y b)
    | .me .index a (.cons b .nil), .Call (.Attribute x nm ap) [y] [] cp => decide (nm = ("index" : Str)) && noSup x && noStar y && (ap.endLine == cp.line) && r C (.qe x a) && r C (.qe y b)
    | .isx c a, .Call (.Name x _) [y, .Name z _] [] _ => C.blt x "isinstance" && decide (z = Str.ofString c) && C.isx.contains c && C.glb z && dbgOk z && noStar y && r C (.qe y a)
    | .tget nm l d a, .Call (.Attribute (.Name x _) m ap) [y, .Constant (.int i) _ _] [] cp => decide (x = Str.ofString nm) && decide (m = ("get" : Str)) && decide (i = d) && C.tabs.contains (nm, l) && C.glb x && dbgOk x && noStar y && (ap.endLine == cp.line) && r C (.qe y a)
    | .nil, _ => true
    | .tupR (.rng1 a), .Call (.Name x _) [.Call (.Name z _) [y] [] _] [] _ => C.blt x "tuple" && C.blt z "range" && noStar y && C.calm && r C (.qe y a)
    | .tupR (.rng2 a b), .Call (.Name x _) [.Call (.Name z _) [y, y2] [] _] [] _ => C.blt x "tuple" && C.blt z "range" && noStar y && noStar y2 && C.calm && r C (.qe y a) && r C (.qe y2 b)
    | .frz a, e => r C (.qe e a)
    | _, _ => false
def cL (el tg iter : Expr) (cs : List Expr) (scope : Scope) (g : Tg) (it ifs elt : E) (vs : List Nat) : Bool :=
  C.calm && blkC C.N C.sc scope (ownOf C.N vs) && (g.sl.all fun i => vs.contains i) && !isSetE iter && r C (.qi tg iter it) && r (C.blk scope) (.qg tg g) && r (C.blk scope) (.qc cs ifs) && r (C.blk scope) (.qe el elt)
def cLR (el tg iter : Expr) (cs : List Expr) (scope : Scope) (g : Tg) (it ifs elt : E) (vs : List Nat) : Bool :=
  C.calm && blkC C.N C.sc scope (ownOf C.N vs) && (g.sl.all fun i => vs.contains i) && !isSetE iter && r C (.qi tg iter it) && r (C.blk scope) (.qg tg g) && r (C.blk scope) (.qc cs ifs) && r (C.blk scope) (.qf el elt)
def cL2 (el tg iter tg1 iter1 : Expr) (cs cs1 : List Expr) (scope : Scope) (g : Tg) (it ifs : E) (g1 : Tg) (it1 ifs1 elt : E) (vs vs1 : List Nat) : Bool :=
  C.calm && blkC C.N C.sc scope (ownOf C.N vs) && (g.sl.all fun i => vs.contains i) && (g1.sl.all fun i => vs1.contains i) && (vs1.all fun i => vs.contains i) && !isSetE iter && !isSetE iter1 && r C (.qi tg iter it) && r (C.blk scope) (.qg tg g) && r (C.blk scope) (.qc cs ifs) && r (C.blk scope) (.qi tg1 iter1 it1) && r (C.blk scope) (.qg tg1 g1) && r (C.blk scope) (.qc cs1 ifs1) && r (C.blk scope) (.qe el elt)
def cF (e : Expr) (t : E) : Bool := match t, e with
  | .lst es, .List l _ => r C (.qa l es)
  | .bi .list (.cons a .nil), .Call (.Name x _) [y] [] _ => C.blt x "list" && noStar y && r C (.qe y a)
  | .bi .sorted (.cons a .nil), .Call (.Name x _) [y] [] _ => C.blt x "sorted" && noStar y && r C (.qe y a)
  | .bi .srtset (.cons a .nil), .Call (.Name x _) [.Call (.Name z _) [y] [] _] [] _ => C.blt x "sorted" && C.blt z "set" && noStar y && C.calm && r C (.qe y a)
  | .bin .add a b, .BinOp x .Add y _ => r C (.qe x a) && r C (.qe y b)
  | .bin .mul a b, .BinOp x .Mult y _ => r C (.qe x a) && r C (.qe y b)
  | .comp g it ifs elt vs, .ListComp el [⟨tg, iter, cs, 0⟩] scope _ => cL r C el tg iter cs scope g it ifs elt vs
  | .comp2 g it ifs g1 it1 ifs1 elt vs vs1, .ListComp el [⟨tg, iter, cs, 0⟩, ⟨tg1, iter1, cs1, 0⟩] scope _ => cL2 r C el tg iter tg1 iter1 cs cs1 scope g it ifs g1 it1 ifs1 elt vs vs1
  | _, _ => false
def cT (e : Expr) (t : E) : Bool := match t, e with
  | .cmp o a b, .Compare x [op] [y] _ => decide (op = cmPy o) && noSet y && r C (.qe x a) && r C (.qe y b)
  | .chain o o2 a b c, .Compare x [op, op2] [y, z] _ => decide (op = cmPy o) && decide (op2 = cmPy o2) && noSet z && r C (.qe x a) && r C (.qe y b) && r C (.qe z c)
  | .isc s nn a, .Compare x [op] [.Constant c _ _] _ => decide (op = if nn then .IsNot else .Is) && decide (c = sgC s) && r C (.qe x a)
  | .not a, .UnaryOp .Not x _ => r C (.qt x a)
  | .and a b, e => r C (.qw e (.and a b))
  | .or a b, e => r C (.qw e (.or a b))
  | .ite c a b, .IfExp x y z _ => r C (.qt x c) && r C (.qt y a) && r C (.qt z b)
  | t, e => plainTest e && r C (.qe e t)
def cW (e : Expr) (t : E) : Bool := match e with
  | .BoolOp .And [x] _ => r C (.qt x t)
  | .BoolOp .Or [x] _ => r C (.qt x t)
  | .BoolOp .And (x :: y :: l) p => (match t with
    | .and a b => r C (.qt x a) && r C (.qw (.BoolOp .And (y :: l) p) b)
    | _ => false)
  | .BoolOp .Or (x :: y :: l) p => (match t with
    | .or a b => r C (.qt x a) && r C (.qw (.BoolOp .Or (y :: l) p) b)
    | _ => false)
  | _ => false
def cA (es : List Expr) (t : E) : Bool := match es, t with
  | [], .nil => true
  | x :: xs, .cons a b => noStar x && r C (.qe x a) && r C (.qa xs b)
  | .Starred x _ :: xs, .star a b => r C (.qe x a) && r C (.qa xs b)
  | _, _ => false
def cI (tg e : Expr) (t : E) : Bool := match t, e with
  | .itv a, e => r C (.qe e a)
  | .rng1 a, .Call (.Name x _) [y] [] _ => C.blt x "range" && noStar y && r C (.qe y a)
  | .rng2 a b, .Call (.Name x _) [y, z] [] _ => C.blt x "range" && noStar y && noStar z && r C (.qe y a) && r C (.qe z b)
  | .enum a, .Call (.Name x _) [y] [] _ => isTupE tg && C.blt x "enumerate" && noStar y && r C (.qe y a)
  | .zip a b, .Call (.Name x _) [y, z] [] _ => isTupE tg && C.blt x "zip" && noStar y && noStar z && r C (.qe y a) && r C (.qe z b)
  | .rev a, .Call (.Name x _) [y] [] _ => C.blt x "reversed" && noStar y && r C (.qe y a)
  | _, _ => false
def cG (tg : Expr) (g : Tg) : Bool := match tg, g with
  | .Name x _, .nm i => C.set i x
  | .Tuple es _ _, .tup t => C.calm && es.all noStar && (t.ln == es.length) && r C (.qgs es t)
  | _, _ => false
def cGs (tgs : List Expr) (g : Tg) : Bool := match tgs, g with
  | [], .nil => true
  | x :: xs, .cons t u => noStar x && r C (.qg x t) && r C (.qgs xs u)
  | _, _ => false
def cP (o : Option Expr) (t : E) : Bool := match o, t with
  | none, .nil => true
  | some x, .cons a .nil => r C (.qe x a)
  | _, _ => false
def cC (cs : List Expr) (t : E) : Bool := match cs, t with
  | [], .nil => true
  | [x], .cons a .nil => r C (.qt x a)
  | _, _ => false
end
section
variable {r : Ck → Qy → Bool} {C : Ck} {P : Tab} {n : Nat} {X : Cx} {Wx : WX}
theorem Good.blk (g : Good C P n X Wx) (scope : Scope) (hk : scope.kind = .function) (s : Shared) (H : Hp) (A : Addr) (cl : List (Str × Addr)) (fp : List Addr) : Good (C.blk scope) P n (X.blk s H scope (compEnvC scope cl A X.env) fp) WF where
  N := g.N
  sc := by
    show relS scope X.env.scope = relS scope C.sc
    rw [g.sc]
  fn := fun x h => h
  nd := g.nd
  kd := hk
  calm := g.calm
  gd := g.gd
  room := g.room
  un := g.un
  fns := g.fns
  nums := g.nums
  free := g.free
  excs := fun c hc => let k := g.excs c hc; ⟨k.nm, k.gl, k.mg, k.ex⟩
  trys := g.trys
  isx := fun c hc => let k := g.isx c hc; ⟨k.at_, k.is_⟩
  tabs := g.tabs
  tk := takes_none5
  own := PassesOwn.never
  top := fun h => by cases h
theorem sI {tg e : Expr} {t : E} (R : Right P n r) (g : Good C P n X Wx) (h : cI r C tg e t = true) : PI X tg e (tI X.K Wx (denI (callN P n) t)) := by
  unfold cI at h
  split at h
  · exact i_itv (R _ _ h X Wx g)
  · simp only [Bool.and_eq_true] at h
    obtain ⟨⟨h1, h2⟩, h3⟩ := h
    obtain ⟨rfl, k1, k2⟩ := g.blt h1
    exact i_rng1 k1 k2 h2 (R _ _ h3 X Wx g)
  · simp only [Bool.and_eq_true] at h
    obtain ⟨⟨⟨⟨h1, h2⟩, h3⟩, h4⟩, h5⟩ := h
    obtain ⟨rfl, k1, k2⟩ := g.blt h1
    exact i_rng2 k1 k2 h2 h3 (R _ _ h4 X Wx g) (R _ _ h5 X Wx g)
  · simp only [Bool.and_eq_true] at h
    obtain ⟨⟨⟨h0, h1⟩, h2⟩, h3⟩ := h
    obtain ⟨rfl, k1, k2⟩ := g.blt h1
    cases tg with
    | Tuple es k p => exact i_enum k1 k2 h2 (R _ _ h3 X Wx g)
    | _ => cases h0
  · simp only [Bool.and_eq_true] at h
    obtain ⟨⟨⟨⟨⟨h0, h1⟩, h2⟩, h3⟩, h4⟩, h5⟩ := h
    obtain ⟨rfl, k1, k2⟩ := g.blt h1
    cases tg with
    | Tuple es k p => exact i_zip k1 k2 h2 h3 (R _ _ h4 X Wx g) (R _ _ h5 X Wx g)
    | _ => cases h0
  · simp only [Bool.and_eq_true] at h
    obtain ⟨⟨h1, h2⟩, h3⟩ := h
    obtain ⟨rfl, k1, k2⟩ := g.blt h1
    exact i_rev k1 k2 h2 (R _ _ h3 X Wx g)
  · cases h
theorem asg_len : ∀ {es : List Expr} (h : es.all noStar = true) (env : PySem.Env), (assignEach es env).length = es.length ∧ (assignEach es env).findIdx? (·.1) = none
  | [], _, env => ⟨rfl, rfl⟩
  | e :: es, h, env => by
    simp only [List.all_cons, Bool.and_eq_true] at h
    obtain ⟨k1, k2⟩ := asg_len h.2 env
    rw [asgEach_ne h.1]
    refine ⟨by simp [k1], ?_⟩
    rw [List.findIdx?_cons]
    simp [k2]
theorem sG {tg : Expr} {t : Tg} (R : Right P n r) (g : Good C P n X Wx) (h : cG r C tg t = true) : PG X tg (tgt X.K t) := by
  unfold cG at h
  split at h
  · obtain ⟨k1, k2, k3⟩ := g.set h
    exact g_nm g.nd k1 k2 k3
  · simp only [Bool.and_eq_true, beq_iff_eq] at h
    obtain ⟨⟨⟨h1, h2⟩, h3⟩, h4⟩ := h
    obtain ⟨k1, k2⟩ := asg_len h2 X.env
    exact g_tup (g.calm h1) (R _ _ h4 X Wx g) (k1.trans h3.symm) k2
  · cases h
theorem sGs {tg : List Expr} {t : Tg} (R : Right P n r) (g : Good C P n X Wx) (h : cGs r C tg t = true) : PGs X tg (tgtL X.K t) := by
  unfold cGs at h
  split at h
  · exact g_nil
  · simp only [Bool.and_eq_true] at h
    obtain ⟨⟨h1, h2⟩, h3⟩ := h
    exact g_cons (R _ _ h2 X Wx g) (R _ _ h3 X Wx g) (by rw [asgEach_ne h1]; rfl)
  · cases h
theorem sA {es : List Expr} {t : E} (R : Right P n r) (g : Good C P n X Wx) (h : cA r C es t = true) : PA X es (tAr X.K Wx (denA (callN P n) t)) := by
  unfold cA at h
  split at h
  · exact l_nil
  · simp only [Bool.and_eq_true] at h
    obtain ⟨⟨h1, h2⟩, h3⟩ := h
    exact l_cons (R _ _ h2 X Wx g) (R _ _ h3 X Wx g) h1
  · simp only [Bool.and_eq_true] at h
    exact l_star (R _ _ h.1 X Wx g) (R _ _ h.2 X Wx g)
  · cases h
theorem sP {o : Option Expr} {t : E} (R : Right P n r) (g : Good C P n X Wx) (h : cP r C o t = true) : Part X Wx (callN P n) o t := by
  unfold cP at h
  split at h
  · exact part_no
  · exact part_of (R _ _ h X Wx g)
  · cases h
theorem sC {cs : List Expr} {t : E} (R : Right P n r) (g : Good C P n X Wx) (h : cC r C cs t = true) : PTs X cs (tT X.K Wx (denT (callN P n) t)) := by
  unfold cC at h
  split at h
  · exact l_ifs0
  · exact l_ifs1 (R _ _ h X Wx g)
  · cases h
theorem sW {e : Expr} {t : E} (R : Right P n r) (g : Good C P n X Wx) (h : cW r C e t = true) : PW X e (tT X.K Wx (denB (callN P n) t)) := by
  unfold cW at h
  split at h
  · exact pw_and1 (R _ _ h X Wx g)
  · exact pw_or1 (R _ _ h X Wx g)
  · split at h
    · simp only [Bool.and_eq_true] at h
      exact l_andW (R _ _ h.1 X Wx g) (R _ _ h.2 X Wx g)
    · cases h
  · split at h
    · simp only [Bool.and_eq_true] at h
      exact l_orW (R _ _ h.1 X Wx g) (R _ _ h.2 X Wx g)
    · cases h
  · cases h
theorem Good.un65 (g : Good C P n X Wx) : X.A.units + 65 < cLine := by have := g.un; omega
theorem sT {e : Expr} {t : E} (R : Right P n r) (g : Good C P n X Wx) (h : cT r C e t = true) : PT X e (tT X.K Wx (denB (callN P n) t)) := by
  unfold cT at h
  split at h
  · simp only [Bool.and_eq_true, decide_eq_true_eq] at h
    obtain ⟨⟨⟨rfl, h1⟩, h2⟩, h3⟩ := h
    exact l_cmpT g.un65 _ h1 (R _ _ h2 X Wx g) (R _ _ h3 X Wx g)
  · simp only [Bool.and_eq_true, decide_eq_true_eq] at h
    obtain ⟨⟨⟨⟨⟨rfl, rfl⟩, h1⟩, h2⟩, h3⟩, h4⟩ := h
    exact l_chainT g.un65 _ _ h1 (R _ _ h2 X Wx g) (R _ _ h3 X Wx g) (R _ _ h4 X Wx g)
  · rename_i s nn a x op c k p2 pos
    simp only [Bool.and_eq_true, decide_eq_true_eq] at h
    obtain ⟨⟨rfl, rfl⟩, h1⟩ := h
    cases nn with
    | true => exact l_iscNT s (R _ _ h1 X Wx g)
    | false => exact l_iscT s (R _ _ h1 X Wx g)
  · exact l_notT (R _ _ h X Wx g)
  · exact (show PW _ _ _ from R _ _ h X Wx g).pt
  · exact (show PW _ _ _ from R _ _ h X Wx g).pt
  · simp only [Bool.and_eq_true] at h
    exact l_iteT (R _ _ h.1.1 X Wx g) (R _ _ h.1.2 X Wx g) (R _ _ h.2 X Wx g)
  · simp only [Bool.and_eq_true] at h
    exact l_test h.1 (R _ _ h.2 X Wx g)
theorem lc_own {N : List Str} {vs : List Nat} {cf : CallF} {elt tg iter : Expr} {ifs : List Expr} {scope : Scope} {pos : Pos} {g : Tg} {it ti te : E} (hc : X.calm = true) (hN : X.N.Nodup) (hi : PI X tg iter (tI X.K Wx (denI cf it))) (ok : BlkOk X.N X.env.scope scope (ownOf N vs))
    (hsl : ∀ i ∈ g.sl, i ∈ (ownOf N vs).map (·.2))
    (hg : ∀ (s : Shared) (H : Hp) (C : Addr) (cl : List (Str × Addr)) (fp : List Addr), PG (X.blk s H scope (compEnvC scope cl C X.env) fp) tg (tgt X.K g))
    (ht : ∀ (s : Shared) (H : Hp) (C : Addr) (cl : List (Str × Addr)) (fp : List Addr), PTs (X.blk s H scope (compEnvC scope cl C X.env) fp) ifs (tT X.K WF (denT cf ti)))
    (he : ∀ (s : Shared) (H : Hp) (C : Addr) (cl : List (Str × Addr)) (fp : List Addr), PE (X.blk s H scope (compEnvC scope cl C X.env) fp) elt (tE X.K WF (den cf te))) (hs : ∀ x, foldedSetIterable iter X.env x = pure x) :
    PE X (.ListComp elt [⟨tg, iter, ifs, 0⟩] scope pos) (tFr X.K Wx (den cf (.comp g it ti te vs))) := by
  have q := l_comp (Wx := Wx) (cf := cf) (pos := pos) hc hN hi ok hsl hg ht he hs
  rw [ownOf_map] at q
  exact q
theorem sL {el tg iter : Expr} {cs : List Expr} {scope : Scope} {gg : Tg} {it ifs elt : E} {vs : List Nat} (R : Right P n r) (g : Good C P n X Wx) (h : cL r C el tg iter cs scope gg it ifs elt vs = true) :
    X.calm = true ∧ PI X tg iter (tI X.K Wx (denI (callN P n) it)) ∧ BlkOk X.N X.env.scope scope (ownOf C.N vs) ∧ (∀ i ∈ gg.sl, i ∈ (ownOf C.N vs).map (·.2)) ∧
    (∀ (s : Shared) (H : Hp) (A : Addr) (cl : List (Str × Addr)) (fp : List Addr), PG (X.blk s H scope (compEnvC scope cl A X.env) fp) tg (tgt X.K gg)) ∧
    (∀ (s : Shared) (H : Hp) (A : Addr) (cl : List (Str × Addr)) (fp : List Addr), PTs (X.blk s H scope (compEnvC scope cl A X.env) fp) cs (tT X.K WF (denT (callN P n) ifs))) ∧
    (∀ (s : Shared) (H : Hp) (A : Addr) (cl : List (Str × Addr)) (fp : List Addr), PE (X.blk s H scope (compEnvC scope cl A X.env) fp) el (tE X.K WF (den (callN P n) elt))) ∧ ∀ x, foldedSetIterable iter X.env x = pure x := by
  simp only [cL, Bool.and_eq_true, Bool.not_eq_true'] at h
  obtain ⟨⟨⟨⟨⟨⟨⟨h1, h2⟩, h3⟩, h4⟩, h5⟩, h6⟩, h7⟩, h8⟩ := h
  have ok : BlkOk X.N X.env.scope scope (ownOf C.N vs) := by rw [g.N, g.sc]; exact blkOk_by h2
  refine ⟨g.calm h1, R _ _ h5 X Wx g, ok, fun i hi => ?_, fun s H A cl fp => R _ _ h6 _ WF (g.blk scope ok.kind s H A cl fp), fun s H A cl fp => R _ _ h7 _ WF (g.blk scope ok.kind s H A cl fp), fun s H A cl fp => R _ _ h8 _ WF (g.blk scope ok.kind s H A cl fp), fun x => fold_no h4 _ _⟩
  rw [ownOf_map]
  have := List.all_eq_true.mp h3 i hi
  simpa using this
theorem sLR {el tg iter : Expr} {cs : List Expr} {scope : Scope} {gg : Tg} {it ifs elt : E} {vs : List Nat} (R : Right P n r) (g : Good C P n X Wx) (h : cLR r C el tg iter cs scope gg it ifs elt vs = true) :
    X.calm = true ∧ PI X tg iter (tI X.K Wx (denI (callN P n) it)) ∧ BlkOk X.N X.env.scope scope (ownOf C.N vs) ∧ (∀ i ∈ gg.sl, i ∈ (ownOf C.N vs).map (·.2)) ∧
    (∀ (s : Shared) (H : Hp) (A : Addr) (cl : List (Str × Addr)) (fp : List Addr), PG (X.blk s H scope (compEnvC scope cl A X.env) fp) tg (tgt X.K gg)) ∧
    (∀ (s : Shared) (H : Hp) (A : Addr) (cl : List (Str × Addr)) (fp : List Addr), PTs (X.blk s H scope (compEnvC scope cl A X.env) fp) cs (tT X.K WF (denT (callN P n) ifs))) ∧
    (∀ (s : Shared) (H : Hp) (A : Addr) (cl : List (Str × Addr)) (fp : List Addr), PE (X.blk s H scope (compEnvC scope cl A X.env) fp) el (tFr X.K WF (den (callN P n) elt))) ∧ ∀ x, foldedSetIterable iter X.env x = pure x := by
  simp only [cLR, Bool.and_eq_true, Bool.not_eq_true'] at h
  obtain ⟨⟨⟨⟨⟨⟨⟨h1, h2⟩, h3⟩, h4⟩, h5⟩, h6⟩, h7⟩, h8⟩ := h
  have ok : BlkOk X.N X.env.scope scope (ownOf C.N vs) := by rw [g.N, g.sc]; exact blkOk_by h2
  refine ⟨g.calm h1, R _ _ h5 X Wx g, ok, fun i hi => ?_, fun s H A cl fp => R _ _ h6 _ WF (g.blk scope ok.kind s H A cl fp), fun s H A cl fp => R _ _ h7 _ WF (g.blk scope ok.kind s H A cl fp), fun s H A cl fp => R _ _ h8 _ WF (g.blk scope ok.kind s H A cl fp), fun x => fold_no h4 _ _⟩
  rw [ownOf_map]
  have := List.all_eq_true.mp h3 i hi
  simpa using this
/-- what a comprehension's two clauses give -/
structure L2Ok (P : Tab) (n : Nat) (X : Cx) (Wx : WX) (N : List Str) (el tg iter tg1 iter1 : Expr) (cs cs1 : List Expr) (scope : Scope) (gg : Tg) (it ifs : E) (g1 : Tg) (it1 ifs1 elt : E) (vs vs1 : List Nat) : Prop where
  hc : X.calm = true
  hi : PI X tg iter (tI X.K Wx (denI (callN P n) it))
  ok : BlkOk X.N X.env.scope scope (ownOf N vs)
  hv : ∀ i ∈ vs1, i ∈ (ownOf N vs).map (·.2)
  hsl : ∀ i ∈ gg.sl, i ∈ (ownOf N vs).map (·.2)
  hsl1 : ∀ i ∈ g1.sl, i ∈ vs1
  hg : ∀ (s : Shared) (H : Hp) (A : Addr) (cl : List (Str × Addr)) (fp : List Addr), PG (X.blk s H scope (compEnvC scope cl A X.env) fp) tg (tgt X.K gg)
  ht : ∀ (s : Shared) (H : Hp) (A : Addr) (cl : List (Str × Addr)) (fp : List Addr), PTs (X.blk s H scope (compEnvC scope cl A X.env) fp) cs (tT X.K WF (denT (callN P n) ifs))
  hi1 : ∀ (s : Shared) (H : Hp) (A : Addr) (cl : List (Str × Addr)) (fp : List Addr), PI (X.blk s H scope (compEnvC scope cl A X.env) fp) tg1 iter1 (tI X.K WF (denI (callN P n) it1))
  hg1 : ∀ (s : Shared) (H : Hp) (A : Addr) (cl : List (Str × Addr)) (fp : List Addr), PG (X.blk s H scope (compEnvC scope cl A X.env) fp) tg1 (tgt X.K g1)
  ht1 : ∀ (s : Shared) (H : Hp) (A : Addr) (cl : List (Str × Addr)) (fp : List Addr), PTs (X.blk s H scope (compEnvC scope cl A X.env) fp) cs1 (tT X.K WF (denT (callN P n) ifs1))
  he : ∀ (s : Shared) (H : Hp) (A : Addr) (cl : List (Str × Addr)) (fp : List Addr), PE (X.blk s H scope (compEnvC scope cl A X.env) fp) el (tE X.K WF (den (callN P n) elt))
  hs : ∀ x, foldedSetIterable iter X.env x = pure x
  hs1 : ∀ env x, foldedSetIterable iter1 env x = pure x
theorem sL2 {el tg iter tg1 iter1 : Expr} {cs cs1 : List Expr} {scope : Scope} {gg : Tg} {it ifs : E} {g1 : Tg} {it1 ifs1 elt : E} {vs vs1 : List Nat} (R : Right P n r) (g : Good C P n X Wx) (h : cL2 r C el tg iter tg1 iter1 cs cs1 scope gg it ifs g1 it1 ifs1 elt vs vs1 = true) :
    L2Ok P n X Wx C.N el tg iter tg1 iter1 cs cs1 scope gg it ifs g1 it1 ifs1 elt vs vs1 := by
  simp only [cL2, Bool.and_eq_true, Bool.not_eq_true'] at h
  obtain ⟨⟨⟨⟨⟨⟨⟨⟨⟨⟨⟨⟨⟨h1, h2⟩, h3⟩, h3b⟩, h3c⟩, h4⟩, h4b⟩, h5⟩, h6⟩, h7⟩, h8⟩, h9⟩, h10⟩, h11⟩ := h
  have ok : BlkOk X.N X.env.scope scope (ownOf C.N vs) := by rw [g.N, g.sc]; exact blkOk_by h2
  have sub : ∀ {l k : List Nat}, (l.all fun i => k.contains i) = true → ∀ i ∈ l, i ∈ k := fun {l k} h i hi => by simpa using List.all_eq_true.mp h i hi
  have B := fun (s : Shared) (H : Hp) (A : Addr) (cl : List (Str × Addr)) (fp : List Addr) => g.blk scope ok.kind s H A cl fp
  exact { hc := g.calm h1, hi := R _ _ h5 X Wx g, ok := ok, hv := (fun i hi => by rw [ownOf_map]; exact sub h3c i hi), hsl := (fun i hi => by rw [ownOf_map]; exact sub h3 i hi), hsl1 := sub h3b, hg := fun s H A cl fp => R _ _ h6 _ WF (B s H A cl fp), ht := fun s H A cl fp => R _ _ h7 _ WF (B s H A cl fp),
          hi1 := fun s H A cl fp => R _ _ h8 _ WF (B s H A cl fp), hg1 := fun s H A cl fp => R _ _ h9 _ WF (B s H A cl fp), ht1 := fun s H A cl fp => R _ _ h10 _ WF (B s H A cl fp), he := fun s H A cl fp => R _ _ h11 _ WF (B s H A cl fp), hs := fun x => fold_no h4 _ _, hs1 := fun env x => fold_no h4b _ _ }
theorem lc_own2 {pos : Pos} {el tg iter tg1 iter1 : Expr} {cs cs1 : List Expr} {scope : Scope} {gg : Tg} {it ifs : E} {g1 : Tg} {it1 ifs1 elt : E} {vs vs1 : List Nat} {N : List Str} (hN : X.N.Nodup) (h : L2Ok P n X Wx N el tg iter tg1 iter1 cs cs1 scope gg it ifs g1 it1 ifs1 elt vs vs1) :
    PE X (.ListComp el [⟨tg, iter, cs, 0⟩, ⟨tg1, iter1, cs1, 0⟩] scope pos) (tFr X.K Wx (den (callN P n) (.comp2 gg it ifs g1 it1 ifs1 elt vs vs1))) := by
  have q := l_comp2 (Wx := Wx) (cf := callN P n) (pos := pos) h.hc hN h.hi h.ok h.hv h.hsl h.hsl1 h.hg h.ht h.hi1 h.hg1 h.ht1 h.he h.hs h.hs1
  rw [ownOf_map] at q
  exact q
theorem sF {e : Expr} {t : E} (R : Right P n r) (g : Good C P n X Wx) (h : cF r C e t = true) : PE X e (tFr X.K Wx (den (callN P n) t)) := by
  unfold cF at h
  split at h
  · exact l_lstF (R _ _ h X Wx g)
  · simp only [Bool.and_eq_true] at h
    obtain ⟨⟨h1, h2⟩, h3⟩ := h
    obtain ⟨rfl, k1, k2⟩ := g.blt h1
    exact l_listF k1 k2 h2 (R _ _ h3 X Wx g)
  · simp only [Bool.and_eq_true] at h
    obtain ⟨⟨h1, h2⟩, h3⟩ := h
    obtain ⟨rfl, k1, k2⟩ := g.blt h1
    exact l_sortedF g.un k1 k2 h2 (R _ _ h3 X Wx g)
  · simp only [Bool.and_eq_true] at h
    obtain ⟨⟨⟨⟨h1, h2⟩, h3⟩, h4⟩, h5⟩ := h
    obtain ⟨rfl, k1, k2⟩ := g.blt h1
    obtain ⟨rfl, k3, k4⟩ := g.blt h2
    exact l_srtset (g.calm h4) k1 k2 k3 k4 h3 (R _ _ h5 X Wx g)
  · simp only [Bool.and_eq_true] at h
    exact l_addF (R _ _ h.1 X Wx g) (R _ _ h.2 X Wx g)
  · simp only [Bool.and_eq_true] at h
    exact l_mulF (R _ _ h.1 X Wx g) (R _ _ h.2 X Wx g)
  · obtain ⟨h1, h2, h3, h4, h5, h6, h7, h8⟩ := sL R g h
    exact lc_own h1 g.nd h2 h3 h4 h5 h6 h7 h8
  · exact lc_own2 g.nd (sL2 R g h)
  · cases h
end
end MP
/-! MPQ: the checker's step for expressions as values. -/
namespace MP
open PySem PySem.Spec PyProof.Rows L2
theorem bi_list {bb : Bi} (hb : bb = .list ∨ bb = .sorted ∨ bb = .srtset) {ps : List PyData} {z : PyData} (h : biF bb ps = some z) : ∃ l, z = .list l := by
  rcases hb with rfl | rfl | rfl
  · rcases ps with _ | ⟨p, _ | ⟨q, l⟩⟩
    · cases h
    · cases p <;> first | (cases h; exact ⟨_, rfl⟩) | cases h
    · cases p <;> cases h
  · rcases ps with _ | ⟨p, _ | ⟨q, l⟩⟩
    · cases h
    · cases p with
      | list k =>
        obtain ⟨ns, _, rfl⟩ := Option.map_eq_some_iff.mp (show (srtF k).map PyData.list = some z from h)
        exact ⟨_, rfl⟩
      | _ => cases h
    · cases p <;> cases h
  · rcases ps with _ | ⟨p, _ | ⟨q, l⟩⟩
    · cases h
    · cases p with
      | tuple k =>
        simp only [biF] at h
        split at h
        · obtain ⟨ns, _, rfl⟩ := Option.map_eq_some_iff.mp h
          exact ⟨_, rfl⟩
        · cases h
      | list k =>
        simp only [biF] at h
        split at h
        · obtain ⟨ns, _, rfl⟩ := Option.map_eq_some_iff.mp h
          exact ⟨_, rfl⟩
        · cases h
      | _ => cases h
    · cases p <;> cases h
theorem fr_list {cf : CallF} {t : E} (h : isFr t = true) (v : Vr) (m : Mem) (w : W) (m' : Mem) (e : den cf t v m = .ok w m') : ∃ l, w = .d (.list l) := by
  cases t with
  | lst es =>
    obtain ⟨l, m1, _, e2⟩ := bindOk (show (denA cf es v m).bind (fun l m1 => optR ((l.mapM asD).bind fun xs => if xs.length ≤ sizeLine then some (W.d (.list xs)) else none) m1) = .ok w m' from e)
    obtain ⟨e3, _⟩ := optOk e2
    obtain ⟨xs, _, e4⟩ := Option.bind_eq_some_iff.mp e3
    split at e4
    · cases e4; exact ⟨_, rfl⟩
    · cases e4
  | bi bb es =>
    have hb : bb = .list ∨ bb = .sorted ∨ bb = .srtset := by cases bb <;> first | exact .inl rfl | exact .inr (.inl rfl) | exact .inr (.inr rfl) | cases h
    obtain ⟨l, m1, _, e2⟩ := bindOk (show (denA cf es v m).bind (fun l m1 => optR ((l.mapM (vw m1)).bind fun xs => (biF bb xs).map W.d) m1) = .ok w m' from e)
    obtain ⟨e3, _⟩ := optOk e2
    obtain ⟨xs, _, e4⟩ := Option.bind_eq_some_iff.mp e3
    obtain ⟨z, e5, rfl⟩ := Option.map_eq_some_iff.mp e4
    obtain ⟨k, rfl⟩ := bi_list hb e5
    exact ⟨k, rfl⟩
  | comp g it ifs elt vs => exact comp_list e
  | comp2 g it ifs g1 it1 ifs1 elt vs vs1 => exact comp2_list e
  | _ => cases h
section
variable {r : Ck → Qy → Bool} {C : Ck} {P : Tab} {n : Nat} {X : Cx} {Wx : WX}
theorem sLit {c : Const} {d : PyData} {k : Nat} {pos : Pos} {cf : CallF} (h : constOk c d = true) : PE X (.Constant c k pos) (tE X.K Wx (den cf (.lit d))) := by
  cases c <;> cases d <;> first | (cases h; done) | skip
  · exact l_lit pe_non (fun _ => .non) rfl
  · have e := eq_of_beq (show (_ == _) = true from h)
    subst e
    exact l_lit pe_bl (fun _ => .bl _) rfl
  · have e := eq_of_beq (show (_ == _) = true from h)
    subst e
    exact l_lit pe_int (fun _ => .int _) rfl
  · rename_i a b
    obtain ⟨h1, h2⟩ := Bool.and_eq_true_iff.mp (show (decide (a = b) && PyData.strOk b) = true from h)
    have e := of_decide_eq_true h1
    subst e
    exact l_lit pe_str (fun _ => .str _) (by simpa [PyData.canLay0] using h2)
theorem l_isc2 {s : Sg} {nn : Bool} {op : CmpOp} {c : Const} {k : Nat} {a : Expr} {t : E} {p2 pos : Pos} {cf : CallF} (h1 : op = if nn = true then .IsNot else .Is) (h2 : c = sgC s) (h : PE X a (tE X.K Wx (den cf t))) : PE X (.Compare a [op] [.Constant c k p2] pos) (tE X.K Wx (den cf (.isc s nn t))) := by
  subst h1 h2
  cases nn with
  | true => exact l_iscN s h
  | false => exact l_isc s h
theorem sE {e : Expr} {t : E} (R : Right P n r) (g : Good C P n X Wx) (h : cE r C e t = true) : PE X e (tE X.K Wx (den (callN P n) t)) := by
  unfold cE at h
  split at h
  · exact pe_one (R _ _ h X Wx g)
  split at h
  · rename_i hf
    exact ofFr (fr_list hf) (R _ _ h X Wx g)
  split at h
  · exact g.var h
  · exact sLit h
  · simp only [Bool.and_eq_true, List.any_eq_true, decide_eq_true_eq, beq_iff_eq, Bool.not_eq_true'] at h
    obtain ⟨⟨⟨p, hp, rfl, h2⟩, h3⟩, h4⟩ := h
    subst h2
    obtain ⟨t, ht⟩ := g.nums p hp
    exact l_lit (pe_glob (v := .int p.2) (g.gl h3) ht ⟨t, rfl⟩ h4) (fun _ => .int _) rfl
  · exact l_tup (R _ _ h X Wx g)
  · simp only [Bool.and_eq_true, decide_eq_true_eq] at h
    obtain ⟨⟨rfl, h1⟩, h2⟩ := h
    exact l_bin _ (R _ _ h1 X Wx g) (R _ _ h2 X Wx g)
  · exact l_neg (R _ _ h X Wx g)
  · simp only [Bool.and_eq_true, decide_eq_true_eq] at h
    obtain ⟨⟨⟨rfl, h1⟩, h2⟩, h3⟩ := h
    exact l_cmp g.un65 _ h1 (R _ _ h2 X Wx g) (R _ _ h3 X Wx g)
  · simp only [Bool.and_eq_true, decide_eq_true_eq] at h
    obtain ⟨⟨⟨⟨⟨rfl, rfl⟩, h1⟩, h2⟩, h3⟩, h4⟩ := h
    exact l_chain g.un65 _ _ h1 (R _ _ h2 X Wx g) (R _ _ h3 X Wx g) (R _ _ h4 X Wx g)
  · simp only [Bool.and_eq_true, decide_eq_true_eq] at h
    exact l_isc2 h.1.1 h.1.2 (R _ _ h.2 X Wx g)
  · exact l_not (R _ _ h X Wx g)
  · simp only [Bool.and_eq_true] at h
    exact l_and (R _ _ h.1 X Wx g) (R _ _ h.2 X Wx g)
  · simp only [Bool.and_eq_true] at h
    exact l_or (R _ _ h.1 X Wx g) (R _ _ h.2 X Wx g)
  · simp only [Bool.and_eq_true] at h
    exact l_ite (R _ _ h.1.1 X Wx g) (R _ _ h.1.2 X Wx g) (R _ _ h.2 X Wx g)
  · simp only [Bool.and_eq_true, decide_eq_true_eq, List.any_eq_true, beq_iff_eq, Bool.not_eq_true'] at h
    obtain ⟨⟨⟨⟨⟨rfl, h1⟩, h2⟩, p, hp, rfl⟩, h4⟩, h5⟩ := h
    obtain ⟨a, fd, ps, hl, F, hm, hk, hb⟩ := g.fns p hp
    exact l_callS F g.gd (g.room h4) (g.gl h1) hm hk hb g.tk h2 (R _ _ h5 X Wx g)
  · simp only [Bool.and_eq_true, decide_eq_true_eq, List.any_eq_true, beq_iff_eq, Bool.not_eq_true'] at h
    obtain ⟨⟨⟨⟨⟨⟨rfl, h1⟩, h2⟩, p, hp, rfl, h3⟩, h4⟩, h5⟩, h6⟩ := h
    obtain ⟨a, fd, ps, hl, F, hm, hk, hb⟩ := g.fns p hp
    exact l_call F g.gd (g.room h5) (g.gl h1) hm hk hb g.tk h2 h4 (R _ _ h6 X Wx g)
  · simp only [Bool.and_eq_true] at h
    obtain ⟨⟨⟨⟨h1, h2⟩, h3⟩, h4⟩, h5⟩ := h
    obtain ⟨rfl, k1, k2⟩ := g.blt h2
    exact l_bi1 h1 (g.calm h4) g.gd g.un k1 k2 h3 (R _ _ h5 X Wx g)
  · simp only [Bool.and_eq_true] at h
    obtain ⟨⟨⟨⟨h1, h2⟩, h3⟩, h4⟩, h5⟩ := h
    obtain ⟨rfl, k1, k2⟩ := g.blt h2
    obtain ⟨rfl, k3, k4⟩ := g.blt h3
    exact l_isi h1 k1 k2 k3 k4 h4 (R _ _ h5 X Wx g)
  · simp only [Bool.and_eq_true] at h
    exact l_slc (R _ _ h.1.1 X Wx g) (R _ _ h.1.2 X Wx g) (R _ _ h.2 X Wx g)
  · simp only [Bool.and_eq_true] at h
    exact l_sub h.1.1 (R _ _ h.1.2 X Wx g) (R _ _ h.2 X Wx g)
  · simp only [Bool.and_eq_true] at h
    exact l_subr h.1.1 (R _ _ h.1.2 X Wx g) (R _ _ h.2 X Wx g)
  · exact l_rvt (R _ _ h X Wx g)
  · simp only [Bool.and_eq_true, decide_eq_true_eq] at h
    obtain ⟨⟨⟨⟨⟨rfl, h1⟩, h2⟩, h3⟩, h4⟩, h5⟩ := h
    exact l_count g.un65 h1 h2 h3 (R _ _ h4 X Wx g) (R _ _ h5 X Wx g)
  · simp only [Bool.and_eq_true, decide_eq_true_eq] at h
    obtain ⟨⟨⟨⟨⟨rfl, h1⟩, h2⟩, h3⟩, h4⟩, h5⟩ := h
    exact l_index g.un65 h1 h2 h3 (R _ _ h4 X Wx g) (R _ _ h5 X Wx g)
  · simp only [Bool.and_eq_true, decide_eq_true_eq, List.contains_iff_mem, Bool.not_eq_true'] at h
    obtain ⟨⟨⟨⟨⟨⟨h1, rfl⟩, h2⟩, h3⟩, h4⟩, h5⟩, h6⟩ := h
    obtain ⟨rfl, k1, k2⟩ := g.blt h1
    exact l_isx k1 k2 (g.gl h3) h4 (g.isx _ h2) h5 (R _ _ h6 X Wx g)
  · simp only [Bool.and_eq_true, decide_eq_true_eq, List.contains_iff_mem, Bool.not_eq_true'] at h
    obtain ⟨⟨⟨⟨⟨⟨⟨⟨rfl, rfl⟩, rfl⟩, h2⟩, h3⟩, h4⟩, h5⟩, h6⟩, h7⟩ := h
    obtain ⟨a, k1, k2⟩ := g.tabs _ h2
    exact l_tget k2 (g.gl h3) k1 h4 h5 h6 (R _ _ h7 X Wx g)
  · exact l_none
  · simp only [Bool.and_eq_true] at h
    obtain ⟨⟨⟨⟨h1, h2⟩, h3⟩, h4⟩, h5⟩ := h
    obtain ⟨rfl, k1, k2⟩ := g.blt h1
    obtain ⟨rfl, k3, k4⟩ := g.blt h2
    exact l_tupR1 (g.calm h4) k1 k2 k3 k4 h3 (R _ _ h5 X Wx g)
  · simp only [Bool.and_eq_true] at h
    obtain ⟨⟨⟨⟨⟨⟨h1, h2⟩, h3⟩, h3b⟩, h4⟩, h5⟩, h6⟩ := h
    obtain ⟨rfl, k1, k2⟩ := g.blt h1
    obtain ⟨rfl, k3, k4⟩ := g.blt h2
    exact l_tupR2 (g.calm h4) k1 k2 k3 k4 h3 h3b (R _ _ h5 X Wx g) (R _ _ h6 X Wx g)
  · exact l_frz (R _ _ h X Wx g)
  · cases h
end
end MP
/-! MPR: the checker's steps for statements; the checker; that it is right. -/
namespace MP
open PySem PySem.Spec PyProof.Rows L2
/-- a value that may be new -/
def cN (r : Ck → Qy → Bool) (C : Ck) (p : Bool) (e : Expr) (t : E) : Bool := if p then r C (.qf e t) else r C (.qe e t)
def lkB (C : Ck) (x : Str) (k : NameKind) : Bool := C.sc.names.lookup x == some k
/-- may a fresh value of a target list be stored without a swap -/
def cSet (r : Ck → Qy → Bool) (C : Ck) (nw : Bool) (i : Nat) (x : Str) (px : Pos) (e : Expr) (t : E) : Bool :=
  if isComp e then (if lkB C x .cell then C.set i x && cN r C nw e t else match e, t with
    | .ListComp el [⟨tg, iter, cs, 0⟩] scope cp, .comp g it ifs elt vs => lkB C x .local && decide (C.N[i]? = some x) && (px.line == cp.line) && !(scope.names.any fun (n, k) => n == x && (k == .local || k == .cell)) && cL r C el tg iter cs scope g it ifs elt vs
    | .ListComp el [⟨tg, iter, cs, 0⟩, ⟨tg1, iter1, cs1, 0⟩] scope cp, .comp2 g it ifs g1 it1 ifs1 elt vs vs1 => lkB C x .local && decide (C.N[i]? = some x) && (px.line == cp.line) && !(scope.names.any fun (n, k) => n == x && (k == .local || k == .cell)) && cL2 r C el tg iter tg1 iter1 cs cs1 scope g it ifs g1 it1 ifs1 elt vs vs1
    | _, _ => false)
  else C.set i x && cN r C nw e t
def nmC (C : Ck) (l : Nat) : Expr → Option Str
  | .Name id p => if C.sc.names.lookup id == some .local && p.line == l then some id else none
  | _ => none
def tgtOk (C : Ck) (tg e : Expr) : Bool := match tg, e with
  | .Tuple ts _ _, .Tuple vs _ _ => vs.all (foldedForSure 8) || (ts.filterMap (nmC C ((ts.head?.map (·.pos.line)).getD 0))).length != ts.length || !(ts.length == 2 || ts.length == 3)
  | _, e => !isTupE e
section
variable (r : Ck → Qy → Bool) (C : Ck)
def cS (st : Stmt) (s : S) : Bool := match s, st with
  | .skip, .Pass _ => true
  | .skip, .Expr (.Constant (.str _) _ _) _ => true
  | .ex t, .Expr e _ => !isComp e && r C (.qe e t)
  | .set i t, .Assign [.Name x px] e _ => cSet r C false i x px e t
  | .new i t, .Assign [.Name x px] e _ => cSet r C true i x px e t
  | .par i j p q a b, .Assign [.Tuple [.Name x px, .Name y py] _ _] (.Tuple [u, v] _ _) _ => C.calm && decide (C.N[i]? = some x) && decide (C.N[j]? = some y) && decide (i ≠ j) && lkB C x .local && lkB C y .local && (py.line == px.line) && decide (x ≠ y) && noStar u && noStar v &&
      !(foldedForSure 8 u && foldedForSure 8 v) && !(constantsAlone 8 u && constantsAlone 8 v) && cN r C p u a && cN r C q v b
  | .par3 i j k p q o a b c, .Assign [.Tuple [.Name x px, .Name y py, .Name z pz] _ _] (.Tuple [u, v, w] _ _) _ => C.calm && decide (C.N[i]? = some x) && decide (C.N[j]? = some y) && decide (C.N[k]? = some z) && decide (i ≠ j) && decide (i ≠ k) && decide (j ≠ k) && lkB C x .local && lkB C y .local && lkB C z .local &&
      (py.line == px.line) && (pz.line == px.line) && decide (x ≠ y) && decide (x ≠ z) && decide (y ≠ z) && noStar u && noStar v && noStar w &&
      !(foldedForSure 8 u && (foldedForSure 8 v && foldedForSure 8 w)) && !(constantsAlone 8 u && (constantsAlone 8 v && constantsAlone 8 w)) && cN r C p u a && cN r C q v b && cN r C o w c
  | .tgt g t, .Assign [tg] e _ => noStar tg && !isComp e && tgtOk C tg e && r C (.qg tg g) && r C (.qe e t)
  | .ite c a b, .If x p q _ => r C (.qt x c) && r C (.qss p a) && r C (.qss q b)
  | .ret t, .Return (some e) _ => r C (.qe e t)
  | .ret (.lit .none), .Return none _ => true
  | .retn t, .Return (some e) _ => r C (.qf e t)
  | .for_ g it b, .For tg iter body [] _ => C.calm && !isSetE iter && r C (.qi tg iter it) && r C (.qg tg g) && r C (.qss body b)
  | .brk, .Break _ => true
  | .cnt, .Continue _ => true
  | .app i t, .Expr (.Call (.Attribute (.Name x _) nm ap) [e] [] cp) _ => decide (nm = ("append" : Str)) && C.var i x && noStar e && (ap.endLine == cp.line) && r C (.qe e t)
  | .ext i t, .Expr (.Call (.Attribute (.Name x _) nm ap) [e] [] cp) _ => decide (nm = ("extend" : Str)) && C.var i x && noStar e && (ap.endLine == cp.line) && r C (.qe e t)
  | .rvs i, .Expr (.Call (.Attribute (.Name x _) nm ap) [] [] cp) _ => decide (nm = ("reverse" : Str)) && C.var i x && (ap.endLine == cp.line)
  | .six i k t, .Assign [.Subscript (.Name x _) kx _] e _ => C.var i x && noSlice kx && !isComp e && r C (.qe kx k) && r C (.qe e t)
  | .nrw i g it ifs elt vs, .Assign [.Name x px] (.ListComp el [⟨tg, iter, cs, 0⟩] scope cp) _ => lkB C x .local && decide (C.N[i]? = some x) && (px.line == cp.line) && !(scope.names.any fun (n, k) => n == x && (k == .local || k == .cell)) && cLR r C el tg iter cs scope g it ifs elt vs
  | .st2 a k t, .Assign [.Subscript x kx _] e _ => noSlice kx && !isComp e && r C (.qe x a) && r C (.qe kx k) && r C (.qe e t)
  | .stl a k t, .Assign [.Subscript x kx _] e _ => noSlice kx && !isComp e && r C (.qe x a) && r C (.qe kx k) && r C (.qf e t)
  | .raise c, .Raise (some (.Call (.Name x _) [.Constant (.str _) _ _] [] _)) none _ => decide (x = Str.ofString c) && C.excs.contains c && C.glb x && dbgOk x && C.calm
  | .tryx b h, .Try body (h0 :: hds) [] [] _ => C.top && r C (.qss body b) && r C (.qh (h0 :: hds) h)
  | .tryas b i j, .Try body [.ExceptHandler (some (.Name x _)) (some n) [.Assign [.Name y _] (.Name n2 _) _] _] [] [] _ => C.top && decide (x = ("KeyRuleError" : Str)) && decide (n = n2) && C.trys.contains "KeyRuleError" && C.glb x && dbgOk x && decide (C.N[i]? = some n) && decide (C.N[j]? = some y) && lkB C n .local && lkB C y .local && decide (i ≠ j) &&
      dbgOk n && !(n == ("__classdict__" : Str)) && r C (.qss body b)
  | .bad, _ => true
  | _, _ => false
def cSs (sts : List Stmt) (s : S) : Bool := match sts, s with
  | _, .bad => true
  | [], .skip => true
  | st :: rest, .seq a b => r C (.qs st a) && r C (.qss rest b)
  | _, _ => false
def cH (hs : List ExceptHandler) (s : S) : Bool := match hs, s with
  | [], .skip => true
  | .ExceptHandler (some (.Name x _)) none (b0 :: suite) _ :: rest, .hnd c h r' => decide (x = Str.ofString c) && C.trys.contains c && C.glb x && dbgOk x && r { C with calm := false, top := false } (.qss (b0 :: suite) h) && r C (.qh rest r')
  | _, _ => false
end
section
variable {r : Ck → Qy → Bool} {C : Ck} {P : Tab} {n : Nat} {X : Cx} {Wx : WX}
theorem Good.lk (g : Good C P n X Wx) {x : Str} {k : NameKind} (h : lkB C x k = true) : X.env.scope.names.lookup x = some k := by
  rw [g.sc]
  simpa [lkB] using h
theorem Good.bk (g : Good C P n X Wx) : X.env.blockKind = .function := by
  unfold PySem.Env.blockKind
  rw [g.kd]
  rfl
theorem sN {p : Bool} {e : Expr} {t : E} (R : Right P n r) (g : Good C P n X Wx) (h : cN r C p e t = true) : PE X e (tE X.K Wx (denN (callN P n) p t)) := by
  cases p with
  | true => exact n_yes (R _ _ (show r C (.qf e t) = true from h) X Wx g)
  | false => exact n_no (R _ _ (show r C (.qe e t) = true from h) X Wx g)
theorem sSet {nw : Bool} {i : Nat} {x : Str} {px pos : Pos} {e : Expr} {t : E} (R : Right P n r) (g : Good C P n X Wx) (h : cSet r C nw i x px e t = true) :
    PS X (.Assign [.Name x px] e pos) (tS X.K Wx (denS (callN P n) (if nw then .new i t else .set i t))) := by
  have go : C.set i x = true → cN r C nw e t = true → swapsWith e (some (.Name x px)) pos.line X.env = pure false → PS X (.Assign [.Name x px] e pos) (tS X.K Wx (denS (callN P n) (if nw then .new i t else .set i t))) := fun h1 h2 h3 => by
    obtain ⟨k1, k2, k3⟩ := g.set h1
    cases nw with
    | true => exact p_new g.nd k1 k2 k3 (R _ _ (show r C (.qf e t) = true from h2) X Wx g) h3
    | false => exact p_set g.nd k1 k2 k3 (R _ _ (show r C (.qe e t) = true from h2) X Wx g) h3
  unfold cSet at h
  split at h
  · split at h
    · rename_i hc hx
      simp only [Bool.and_eq_true] at h
      have hx' := g.lk hx
      cases e with
      | ListComp el gs sc cp => exact go h.1 h.2 (sw_cell hx')
      | SetComp el gs sc cp =>
        refine go h.1 h.2 ?_
        have ky : X.env.kindOf x = some .cell := hx'
        unfold swapsWith
        simp only [ky]
        have e : ((some NameKind.cell) == (some NameKind.local)) = false := by decide
        simp [e]
      | DictComp el el2 gs sc cp =>
        refine go h.1 h.2 ?_
        have ky : X.env.kindOf x = some .cell := hx'
        unfold swapsWith
        simp only [ky]
        have e : ((some NameKind.cell) == (some NameKind.local)) = false := by decide
        simp [e]
      | _ => cases hc
    · split at h
      · simp only [Bool.and_eq_true, decide_eq_true_eq, Bool.not_eq_true'] at h
        obtain ⟨⟨⟨⟨h1, h2⟩, h3⟩, h4⟩, h5⟩ := h
        obtain ⟨k1, k2, k3, k4, k5, k6, k7, k8⟩ := sL R g h5
        have hx := g.lk h1
        have q := p_setLc (Wx := Wx) (cf := callN P n) (i := i) (py := px) (spos := pos) nw k1 g.nd (by rw [g.N]; exact h2) hx (sw_true g.kd hx h3 h4) k2 k3 k4 k5 k6 k7 k8
        rw [ownOf_map] at q
        exact q
      · simp only [Bool.and_eq_true, decide_eq_true_eq, Bool.not_eq_true'] at h
        obtain ⟨⟨⟨⟨h1, h2⟩, h3⟩, h4⟩, h5⟩ := h
        have k := sL2 R g h5
        have hx := g.lk h1
        have q := p_setLc2 (Wx := Wx) (cf := callN P n) (i := i) (py := px) (spos := pos) nw k.hc g.nd (by rw [g.N]; exact h2) hx (sw_true g.kd hx h3 h4) k.hi k.ok k.hv k.hsl k.hsl1 k.hg k.ht k.hi1 k.hg1 k.ht1 k.he k.hs k.hs1
        rw [ownOf_map] at q
        exact q
      · cases h
  · rename_i hc
    simp only [Bool.and_eq_true] at h
    exact go h.1 h.2 (sw_no (by simpa using hc) _ _ _)
theorem nmC_eq (g : Good C P n X Wx) (l : Nat) : nmB X.env l = nmC C l := by
  funext e
  have h : ∀ x : Str, X.env.kindOf x = C.sc.names.lookup x := fun x => by
    show X.env.scope.names.lookup x = _
    rw [g.sc]
  cases e <;> first | rfl | (unfold nmB nmC; simp only [h])
theorem ss_len {ts vs : List Expr} {env : PySem.Env} (h : (ts.length == 2 || ts.length == 3) = false) : ssB ts vs env = pure none := by
  unfold ssB
  rw [if_pos]
  simp only [h]
  rfl
theorem asg_sub {o k : Expr} {tpos : Pos} (h : noSlice k = true) (env : PySem.Env) (v : Value) : assign (.Subscript o k tpos) env v = (do
      let ov ← holding [v] (eval o env)
      let iv ← holding [v, ov] (eval k env)
      standAt tpos
      holding [v, ov, iv] (setItem ov iv v)
      release [v, ov, iv] []) := by
  cases k <;> first | rfl | cases h
theorem sTgt {tg e : Expr} {g0 : Tg} {t : E} {pos : Pos} (R : Right P n r) (g : Good C P n X Wx) (h : cS r C (.Assign [tg] e pos) (.tgt g0 t) = true) : PS X (.Assign [tg] e pos) (tS X.K Wx (denS (callN P n) (.tgt g0 t))) := by
  have h : (noStar tg && !isComp e && tgtOk C tg e && r C (.qg tg g0) && r C (.qe e t)) = true := h
  simp only [Bool.and_eq_true, Bool.not_eq_true'] at h
  obtain ⟨⟨⟨⟨h1, h2⟩, h3⟩, h4⟩, h5⟩ := h
  refine p_tgt (R _ _ h5 X Wx g) (R _ _ h4 X Wx g) (sw_no h2 _ _ _) ?_ (by rw [asgEach_ne h1]; rfl)
  unfold tgtOk at h3
  split at h3
  · simp only [Bool.or_eq_true, bne_iff_ne, Bool.not_eq_true'] at h3
    rcases h3 with (h3 | h3) | h3
    · exact ss_none (.inr h3)
    · exact ss_none (.inl (by rw [nmC_eq g]; exact h3))
    · rw [ss_eq]
      exact ss_len h3
  · exact ss_no (by simpa using h3) _
theorem sS {st : Stmt} {s : S} (R : Right P n r) (g : Good C P n X Wx) (h : cS r C st s = true) : PS X st (tS X.K Wx (denS (callN P n) s)) := by
  have h0 := h
  unfold cS at h
  split at h
  · exact p_pass
  · exact p_doc
  · simp only [Bool.and_eq_true, Bool.not_eq_true'] at h
    exact p_ex (R _ _ h.2 X Wx g) (sw_no h.1 _ _ _)
  · exact sSet (nw := false) R g h
  · exact sSet (nw := true) R g h
  · simp only [Bool.and_eq_true, decide_eq_true_eq, Bool.not_eq_true'] at h
    obtain ⟨⟨⟨⟨⟨⟨⟨⟨⟨⟨⟨⟨⟨h1, h2⟩, h3⟩, h4⟩, h5⟩, h6⟩, h7⟩, h8⟩, h9⟩, h10⟩, h11⟩, h12⟩, h13⟩, h14⟩ := h
    exact p_par (g.calm h1) g.nd (by rw [g.N]; exact h2) (by rw [g.N]; exact h3) h4 (g.lk h5) (g.lk h6) h9 h10 (sN R g h13) (sN R g h14) (ss_two g.bk (g.lk h5) (g.lk h6) h7 h8 h9 h10 h11 h12)
  · simp only [Bool.and_eq_true, decide_eq_true_eq, Bool.not_eq_true'] at h
    obtain ⟨⟨⟨⟨⟨⟨⟨⟨⟨⟨⟨⟨⟨⟨⟨⟨⟨⟨⟨⟨⟨⟨h1, h2⟩, h3⟩, h4⟩, h5⟩, h6⟩, h7⟩, h8⟩, h9⟩, h10⟩, h11⟩, h12⟩, h13⟩, h14⟩, h15⟩, h16⟩, h17⟩, h18⟩, h19⟩, h20⟩, h21⟩, h22⟩, h23⟩ := h
    exact p_par3 (g.calm h1) g.nd (by rw [g.N]; exact h2) (by rw [g.N]; exact h3) (by rw [g.N]; exact h4) h5 h6 h7 (g.lk h8) (g.lk h9) (g.lk h10) h16 h17 h18 (sN R g h21) (sN R g h22) (sN R g h23) (ss_three g.bk (g.lk h8) (g.lk h9) (g.lk h10) h11 h12 h13 h14 h15 h16 h17 h18 h19 h20)
  · exact sTgt R g h0
  · simp only [Bool.and_eq_true] at h
    exact p_if (R _ _ h.1.1 X Wx g) (R _ _ h.1.2 X Wx g) (R _ _ h.2 X Wx g)
  · exact p_ret (R _ _ h X Wx g)
  · exact p_retN
  · exact p_retn (R _ _ h X Wx g)
  · simp only [Bool.and_eq_true, Bool.not_eq_true'] at h
    obtain ⟨⟨⟨⟨h1, h2⟩, h3⟩, h4⟩, h5⟩ := h
    exact p_for g.own (g.calm h1) (R _ _ h3 X Wx g) (R _ _ h4 X Wx g) (R _ _ h5 X Wx g) (fun x => fold_no h2 _ _)
  · exact p_brk
  · exact p_cnt
  · simp only [Bool.and_eq_true, decide_eq_true_eq] at h
    obtain ⟨⟨⟨⟨rfl, h1⟩, h2⟩, h3⟩, h4⟩ := h
    obtain ⟨k1, k2, k3, k4⟩ := g.visX h1
    exact p_app k1 k2 k3 k4 (R _ _ h4 X Wx g) h2 h3
  · simp only [Bool.and_eq_true, decide_eq_true_eq] at h
    obtain ⟨⟨⟨⟨rfl, h1⟩, h2⟩, h3⟩, h4⟩ := h
    obtain ⟨k1, k2, k3, k4⟩ := g.visX h1
    exact p_ext k1 k2 k3 k4 (R _ _ h4 X Wx g) h2 h3
  · simp only [Bool.and_eq_true, decide_eq_true_eq] at h
    obtain ⟨⟨rfl, h1⟩, h3⟩ := h
    obtain ⟨k1, k2, k3, k4⟩ := g.visX h1
    exact p_rvs k1 k2 k3 k4 h3
  · simp only [Bool.and_eq_true, Bool.not_eq_true'] at h
    obtain ⟨⟨⟨⟨h1, h2⟩, h3⟩, h4⟩, h5⟩ := h
    obtain ⟨k1, k2, k3, k4⟩ := g.visX h1
    exact p_six k1 k2 k3 k4 (R _ _ h5 X Wx g) (R _ _ h4 X Wx g) (fun v => asg_sub h2 _ v) (sw_no h3 _ _ _)
  · rename_i i1 g1 it1 if1 el1 vs1 x1 px1 e1 tg1 iter1 cs1 sc1 cp1 pos1
    simp only [Bool.and_eq_true, decide_eq_true_eq, Bool.not_eq_true'] at h
    obtain ⟨⟨⟨⟨h1, h2⟩, h3⟩, h4⟩, h5⟩ := h
    obtain ⟨k1, k2, k3, k4, k5, k6, k7, k8⟩ := sLR R g h5
    have hx := g.lk h1
    have q := p_nrw (Wx := Wx) (cf := callN P n) (i := i1) (py := px1) (spos := pos1) k1 g.nd (by rw [g.N]; exact h2) hx (sw_true g.kd hx h3 h4) k2 k3 k4 k5 k6 k7 k8
    rw [ownOf_map] at q
    exact q
  · simp only [Bool.and_eq_true, Bool.not_eq_true'] at h
    obtain ⟨⟨⟨⟨h1, h2⟩, h3⟩, h4⟩, h5⟩ := h
    exact p_st2 (R _ _ h3 X Wx g) (R _ _ h5 X Wx g) (R _ _ h4 X Wx g) (fun v => asg_sub h1 _ v) (sw_no h2 _ _ _)
  · simp only [Bool.and_eq_true, Bool.not_eq_true'] at h
    obtain ⟨⟨⟨⟨h1, h2⟩, h3⟩, h4⟩, h5⟩ := h
    exact p_stl (R _ _ h3 X Wx g) (R _ _ h5 X Wx g) (R _ _ h4 X Wx g) (fun v => asg_sub h1 _ v) (sw_no h2 _ _ _)
  · simp only [Bool.and_eq_true, decide_eq_true_eq, List.contains_iff_mem, Bool.not_eq_true'] at h
    obtain ⟨⟨⟨⟨rfl, h1⟩, h2⟩, h3⟩, h4⟩ := h
    exact p_raise (g.calm h4) g.tk (g.excs _ h1) (g.gl h2) h3
  · simp only [Bool.and_eq_true] at h
    obtain ⟨⟨h1, h2⟩, h3⟩ := h
    obtain ⟨k1, k2, _⟩ := g.top h1
    obtain ⟨l, k3, k4⟩ := (show ∃ l, HdsOk X _ l ∧ HkOk X.K (callN P n) _ l from R _ _ h3 X Wx g)
    refine p_try k1 k2 g.tk (fun W pn xe tk own => R _ _ h2 (X.tr pn xe) W ?_) k3 k4
    exact { N := g.N, sc := g.sc, fn := g.fn, nd := g.nd, kd := g.kd, calm := g.calm, gd := g.gd, room := g.room, un := g.un, fns := g.fns, nums := g.nums, free := g.free, excs := fun c hc => let k := g.excs c hc; ⟨k.nm, k.gl, k.mg, k.ex⟩, trys := g.trys, isx := fun c hc => let k := g.isx c hc; ⟨k.at_, k.is_⟩, tabs := g.tabs, tk := tk, own := own, top := g.top }
  · simp only [Bool.and_eq_true, decide_eq_true_eq, List.contains_iff_mem, Bool.not_eq_true'] at h
    obtain ⟨⟨⟨⟨⟨⟨⟨⟨⟨⟨⟨⟨⟨h1, h2⟩, rfl⟩, h3⟩, h4⟩, h5⟩, h6⟩, h7⟩, h8⟩, h9⟩, h10⟩, h11⟩, h12⟩, h13⟩ := h
    obtain ⟨k1, k2, k3⟩ := g.top h1
    obtain ⟨⟨a, k4, rfl⟩, k5⟩ := g.trys _ h3
    subst h2
    refine p_tryas (c := "KeyRuleError") rfl rfl k1 k2 k3 g.nd (by rw [g.N]; exact h6) (by rw [g.N]; exact h7) (g.lk h8) (g.lk h9) h10 h11 h12 ⟨g.gl h4, h5, .inl k4⟩ k5 g.tk (fun W pn xe tk own => R _ _ h13 (X.tr pn xe) W ?_)
    exact { N := g.N, sc := g.sc, fn := g.fn, nd := g.nd, kd := g.kd, calm := g.calm, gd := g.gd, room := g.room, un := g.un, fns := g.fns, nums := g.nums, free := g.free, excs := fun c hc => let k := g.excs c hc; ⟨k.nm, k.gl, k.mg, k.ex⟩, trys := g.trys, isx := fun c hc => let k := g.isx c hc; ⟨k.at_, k.is_⟩, tabs := g.tabs, tk := tk, own := own, top := g.top }
  · exact p_bad
  · cases h
theorem sSs {sts : List Stmt} {s : S} (R : Right P n r) (g : Good C P n X Wx) (h : cSs r C sts s = true) : PSs X sts (tS X.K Wx (denS (callN P n) s)) := by
  unfold cSs at h
  split at h
  · exact p_bads
  · exact p_nil
  · simp only [Bool.and_eq_true] at h
    exact p_seq (R _ _ h.1 X Wx g) (R _ _ h.2 X Wx g)
  · cases h
theorem sH {hs : List ExceptHandler} {s : S} (R : Right P n r) (g : Good C P n X Wx) (h : cH r C hs s = true) : ∃ l, HdsOk X hs l ∧ HkOk X.K (callN P n) s l := by
  unfold cH at h
  split at h
  · exact ⟨[], .nil, .nil⟩
  · simp only [Bool.and_eq_true, decide_eq_true_eq, List.contains_iff_mem, Bool.not_eq_true'] at h
    obtain ⟨⟨⟨⟨⟨rfl, h1⟩, h2⟩, h3⟩, h4⟩, h5⟩ := h
    obtain ⟨l, k1, k2⟩ := (show ∃ l, HdsOk X _ l ∧ HkOk X.K (callN P n) _ l from R _ _ h5 X Wx g)
    obtain ⟨⟨a, k3, rfl⟩, k4⟩ := g.trys _ h1
    refine ⟨_, .cons ⟨g.gl h2, h3, .inl k3⟩ (fun a oe cls d pn _ _ => ?_) k1, .cons k4 k2⟩
    refine R _ _ h4 (X.suite a ((a, oe) :: pn)) WF ?_
    exact { N := g.N, sc := g.sc, fn := g.fn, nd := g.nd, kd := g.kd, calm := (fun z => by cases z), gd := g.gd, room := (fun z => by cases z), un := g.un, fns := g.fns, nums := g.nums, free := g.free, excs := fun c hc => let k := g.excs c hc; ⟨k.nm, k.gl, k.mg, k.ex⟩, trys := g.trys, isx := fun c hc => let k := g.isx c hc; ⟨k.at_, k.is_⟩, tabs := g.tabs, tk := takes_none5, own := PassesOwn.never, top := (fun z => by cases z) }
  · cases h
end
/-- the checker -/
def chk : Nat → Ck → Qy → Bool
  | 0, _, _ => false
  | k + 1, C, q => match q with
    | .qe e t => cE (chk k) C e t
    | .qf e t => cF (chk k) C e t
    | .qt e t => cT (chk k) C e t
    | .qw e t => cW (chk k) C e t
    | .qa es t => cA (chk k) C es t
    | .qi tg e t => cI (chk k) C tg e t
    | .qg tg g => cG (chk k) C tg g
    | .qgs tgs g => cGs (chk k) C tgs g
    | .qp o t => cP (chk k) C o t
    | .qc cs t => cC (chk k) C cs t
    | .qs st s => cS (chk k) C st s
    | .qss sts s => cSs (chk k) C sts s
    | .qh hs s => cH (chk k) C hs s
theorem chk_right (P : Tab) (n : Nat) : ∀ k, Right P n (chk k)
  | 0 => fun C q h => by cases h
  | k + 1 => fun C q h X Wx g => by
    have R := chk_right P n k
    cases q with
    | qe e t => exact sE R g h
    | qf e t => exact sF R g h
    | qt e t => exact sT R g h
    | qw e t => exact sW R g h
    | qa es t => exact sA R g h
    | qi tg e t => exact sI R g h
    | qg tg t => exact sG R g h
    | qgs tg t => exact sGs R g h
    | qp o t => exact sP R g h
    | qc cs t => exact sC R g h
    | qs st s => exact sS R g h
    | qss sts s => exact sSs R g h
    | qh hs s => exact sH R g h
end MP
/-! MPS: a law's defs, its facts; every def keeps its promise at every depth. -/
namespace MP
open PySem PySem.Spec PyProof.Rows L2
structure Df where
  nm : String
  st : Stmt
  ps : List Str
  N : List Str
  f : Fn
def Df.d (e : Df) : He.DefD := ⟨(Str.ofString e.nm, none), Str.ofString e.nm, Str.ofString e.nm, defArgs e.st, defBody e.st, defScope e.st, [], []⟩
structure Lw where
  ds : List Df
  nums : List (String × Int)
  free : List String
  cls : List String
  trys : List String
  isx : List String
  tabs : List (String × List (String × Int)) := []
def Lw.tab (L : Lw) : Tab := L.ds.map fun e => (e.nm, e.f)
def Lw.ck (L : Lw) (e : Df) : Ck where
  N := e.N
  sc := defScope e.st
  fsc := none
  calm := true
  top := true
  fns := L.ds.map fun e => (e.nm, e.ps.length)
  nums := L.nums
  free := L.free
  excs := L.cls
  trys := L.trys
  isx := L.isx
  tabs := L.tabs
/-- the facts that the head is to find -/
def Lw.fa (L : Lw) : List He.Fa :=
  (L.ds.map fun e => He.Fa.glo (Str.ofString e.nm)) ++ ((L.free.map fun x => He.Fa.free (Str.ofString x)) ++ ((L.nums.map fun p => He.Fa.int (Str.ofString p.1) p.2) ++ ((L.cls.map fun c => He.Fa.glo (Str.ofString c)) ++ ((L.cls.map fun c => He.Fa.exc (Str.ofString c)) ++
    (((xnames.filter fun c => !L.cls.contains c).map fun c => He.Fa.free (Str.ofString c)) ++ ((L.trys.map fun c => He.Fa.glo (Str.ofString c)) ++ ((L.trys.flatMap fun y => L.cls.map fun c => He.Fa.exm (Str.ofString c) (Str.ofString y) (c == y || y == "KeyRuleError")) ++ ((L.isx.map fun c => if c = "ValueError" then He.Fa.free (Str.ofString c) else He.Fa.glo (Str.ofString c)) ++ L.tabs.map fun t => He.Fa.glo (Str.ofString t.1)))))))))
/-- what isinstance asks of an own error's class -/
def excB (K : Fg) (D : Addr) : Bool := decide (PySem.W.findIn K (.ref D) "__getattribute__" = some (some (.builtin "BaseException.__getattribute__"))) && (decide (PySem.W.findIn K (.ref D) "__getattr__" = some none) && (decide (PySem.W.subIn K (.ref D) (.type "BaseException") = some true) && (PySem.W.hasDictIn K D &&
  (decide (PySem.W.findIn K (.ref D) "__class__" = some (some (.builtin "object.__class__"))) && (decide (PySem.W.specialIn K (.builtin "object.__class__") "__get__" = some (some (.builtin "getset_descriptor.__get__"))) && (decide (PySem.W.takesIn K (.builtin "object.__class__") = some true) && decide (PySem.W.mroIn K D (.type "object") = some true)))))))
theorem excB_ok {K : Fg} {D : Addr} (h : excB K D = true) : ExcC K D := by
  simp only [excB, Bool.and_eq_true, decide_eq_true_eq] at h
  obtain ⟨h1, h2, h3, h4, h5, h6, h7, h8⟩ := h
  exact ⟨h1, h2, h3, h4, h5, h6, h7, h8⟩
/-- the facts beside -/
def Lw.fx0 (L : Lw) (K : Fg) : Bool := L.isx.isEmpty || L.cls.all fun y => excB K (He.ga K (Str.ofString y)) && L.isx.all fun c => decide (PySem.W.kitOne K (.ref (He.ga K (Str.ofString y))) (if c = "ValueError" then .type "ValueError" else .ref (He.ga K (Str.ofString c))) = some (isxF c y))
def Lw.fx (L : Lw) (K : Fg) : Bool := L.fx0 K && L.tabs.all fun t => vB K (He.ga K (Str.ofString t.1)) t.2
/-- the tables' keys: as they are, as they should be -/
def Lw.ta (L : Lw) (K : Fg) : List (Option (List (Option (Str × Int)))) := L.tabs.map fun t => He.dicW K (He.ga K (Str.ofString t.1))
def Lw.tv (L : Lw) (w : World) : List (Option (List (Option (Str × Int)))) := L.tabs.map fun t => some (He.keysIn w.params (t.2.map fun p => Str.ofString p.1))
theorem map_at2 {α β : Type} {f g : α → β} {l : List α} (h : l.map f = l.map g) {x : α} (hx : x ∈ l) : f x = g x := by
  induction l with
  | nil => cases hx
  | cons y r ih =>
    simp only [List.map_cons, List.cons.injEq] at h
    rcases List.mem_cons.mp hx with rfl | hx
    · exact h.1
    · exact ih h.2 hx
def Lw.fn (L : Lw) : List He.DefD := L.ds.map Df.d
/-- what is looked up about a def's text alone -/
def Df.ok (e : Df) : Bool := (match (defScope e.st).kind with | .function => true | _ => false) && !(defScope e.st).isCoroutine && !(defScope e.st).isGenerator && decide e.N.Nodup && decide (e.N.take e.ps.length = e.ps) &&
  (e.ps.all fun x => match (defScope e.st).names.lookup x with | some .local => true | some .cell => true | _ => false) && ((defScope e.st).names.all fun y => decide (y.2 ≠ .free)) && (e.f.ar == e.ps.length) && (e.f.nv == e.N.length)
def Lw.ok (L : Lw) : Bool := decide ((L.ds.map (·.nm)).Nodup) && (L.cls.all fun c => xnames.contains c)
theorem Df.scope {e : Df} (h : e.ok = true) : FnScope e.N e.ps (defScope e.st) ∧ e.f.ar = e.ps.length ∧ e.f.nv = e.N.length := by
  simp only [Df.ok, Bool.and_eq_true, decide_eq_true_eq, Bool.not_eq_true', List.all_eq_true, beq_iff_eq] at h
  obtain ⟨⟨⟨⟨⟨⟨⟨⟨h1, h2⟩, h3⟩, h4⟩, h5⟩, h6⟩, h7⟩, h8⟩, h9⟩ := h
  refine ⟨⟨?_, h2, h3, h4, h5, fun x hx => ?_, h7⟩, h8, h9⟩
  · split at h1
    · assumption
    · cases h1
  · have q := h6 x hx
    split at q
    · exact .inl (by assumption)
    · exact .inr (by assumption)
    · cases q
/-- how the arguments find their names -/
def Bnd (e : Df) : Prop := ∀ (kV doc pm : Value) (an : Option Addr) (cdv ct : Value) (us : List Value), us.length = e.ps.length →
  bindArgs (PySem.W.fnOf (Str.ofString e.nm) (Str.ofString e.nm) (defArgs e.st) (defBody e.st) (defScope e.st) .none kV doc pm an cdv ct) ⟨us, []⟩ = pure (e.ps.zip us)
structure Lw.Good (L : Lw) : Prop where
  ok : L.ok = true
  each : ∀ e ∈ L.ds, e.ok = true ∧ Bnd e ∧ ∃ k, chk k (L.ck e) (.qss (defBody e.st) e.f.body) = true
theorem lookup_of {ds : List Df} (h : (ds.map (·.nm)).Nodup) {e : Df} (he : e ∈ ds) : (ds.map fun e => (e.nm, e.f)).lookup e.nm = some e.f := by
  induction ds with
  | nil => cases he
  | cons d r ih =>
    simp only [List.map_cons, List.nodup_cons] at h
    rw [List.map_cons, List.lookup_cons]
    rcases List.mem_cons.mp he with rfl | he
    · simp
    · have hne : (e.nm == d.nm) = false := by
        simp only [beq_eq_false_iff_ne, ne_eq]
        rintro q
        exact h.1 (by rw [← q]; exact List.mem_map.mpr ⟨e, he, rfl⟩)
      rw [hne]
      exact ih h.2 he
section
variable {L : Lw} {P : Program} {w : World} {K : Fg} {mg : Str → Option Value} {h : Heap}
theorem says_all {fa : List He.Fa} {fn : List He.DefD} (c : He.SaysD fa fn K) {f : He.Fa} (hf : f ∈ fa) : f.ok K = true := by
  obtain ⟨i, hi⟩ := List.mem_iff_getElem?.mp hf
  exact c.fact i hi
/-- a def of the law, at a depth -/
def Kept (P : Program) (w : World) (K : Fg) (mg : Str → Option Value) (B : Heap) (L : Lw) (n : Nat) (e : Df) : Prop :=
  ∃ a fd, FunD K (Str.ofString e.nm) (Str.ofString e.nm) (defArgs e.st) (defBody e.st) (defScope e.st) [] [] a fd ∧ mg (Str.ofString e.nm) = some (.ref a) ∧ Binds K fd e.ps [] ∧ FnG P w K mg B n a fd e.ps (spN K L.tab n e.nm)
theorem kept (LG : L.Good) (X : K.In h) (G : h.Ns mainGlobals mg) (c : He.SaysD L.fa L.fn K) (cx0 : L.fx K = true) (ct : L.ta K = L.tv w) (B : Heap) : ∀ n, ∀ e ∈ L.ds, Kept P w K mg B L n e := by
  have fOk : ∀ {f : He.Fa}, f ∈ L.fa → f.ok K = true := fun hf => says_all c hf
  have base : ∀ e ∈ L.ds, ∃ a fd, FunD K (Str.ofString e.nm) (Str.ofString e.nm) (defArgs e.st) (defBody e.st) (defScope e.st) [] [] a fd ∧ mg (Str.ofString e.nm) = some (.ref a) ∧ Binds K fd e.ps [] := fun e he => by
    obtain ⟨i, hi⟩ := List.mem_iff_getElem?.mp he
    obtain ⟨fd, F⟩ := c.def_ i (d := e.d) (by show (L.ds.map Df.d)[i]? = _; rw [List.getElem?_map, hi]; rfl)
    refine ⟨_, fd, F, He.glo_ok X G (fOk ?_), FunD.bindsN F (LG.each e he).2.1⟩
    exact List.mem_append_left _ (List.mem_map.mpr ⟨e, he, rfl⟩)
  obtain ⟨cx, cv⟩ := Bool.and_eq_true_iff.mp cx0
  obtain ⟨ok1, ok2⟩ := Bool.and_eq_true_iff.mp LG.ok
  have ok1 := of_decide_eq_true ok1
  have ok2 : ∀ c ∈ L.cls, c ∈ xnames := fun c hc => by simpa using List.all_eq_true.mp ok2 c hc
  have m2 : ∀ x ∈ L.free, He.Fa.free (Str.ofString x) ∈ L.fa := fun x hx => List.mem_append_right _ (List.mem_append_left _ (List.mem_map.mpr ⟨x, hx, rfl⟩))
  have m3 : ∀ p ∈ L.nums, He.Fa.int (Str.ofString p.1) p.2 ∈ L.fa := fun x hx => List.mem_append_right _ (List.mem_append_right _ (List.mem_append_left _ (List.mem_map.mpr ⟨x, hx, rfl⟩)))
  have m4 : ∀ x ∈ L.cls, He.Fa.glo (Str.ofString x) ∈ L.fa := fun x hx => List.mem_append_right _ (List.mem_append_right _ (List.mem_append_right _ (List.mem_append_left _ (List.mem_map.mpr ⟨x, hx, rfl⟩))))
  have m5 : ∀ x ∈ L.cls, He.Fa.exc (Str.ofString x) ∈ L.fa := fun x hx => List.mem_append_right _ (List.mem_append_right _ (List.mem_append_right _ (List.mem_append_right _ (List.mem_append_left _ (List.mem_map.mpr ⟨x, hx, rfl⟩)))))
  have m6 : ∀ x ∈ xnames, x ∉ L.cls → He.Fa.free (Str.ofString x) ∈ L.fa := fun x hx hn => List.mem_append_right _ (List.mem_append_right _ (List.mem_append_right _ (List.mem_append_right _ (List.mem_append_right _ (List.mem_append_left _ (List.mem_map.mpr ⟨x, List.mem_filter.mpr ⟨hx, by simpa using hn⟩, rfl⟩))))))
  have m7 : ∀ x ∈ L.trys, He.Fa.glo (Str.ofString x) ∈ L.fa := fun x hx => List.mem_append_right _ (List.mem_append_right _ (List.mem_append_right _ (List.mem_append_right _ (List.mem_append_right _ (List.mem_append_right _ (List.mem_append_left _ (List.mem_map.mpr ⟨x, hx, rfl⟩)))))))
  have m8 : ∀ y ∈ L.trys, ∀ x ∈ L.cls, He.Fa.exm (Str.ofString x) (Str.ofString y) (x == y || y == "KeyRuleError") ∈ L.fa := fun y hy x hx => List.mem_append_right _ (List.mem_append_right _ (List.mem_append_right _ (List.mem_append_right _ (List.mem_append_right _ (List.mem_append_right _ (List.mem_append_right _ (List.mem_append_left _ (List.mem_flatMap.mpr ⟨y, hy, List.mem_map.mpr ⟨x, hx, rfl⟩⟩))))))))
  have m9 : ∀ c ∈ L.isx, (if c = "ValueError" then He.Fa.free (Str.ofString c) else He.Fa.glo (Str.ofString c)) ∈ L.fa := fun x hx => List.mem_append_right _ (List.mem_append_right _ (List.mem_append_right _ (List.mem_append_right _ (List.mem_append_right _ (List.mem_append_right _ (List.mem_append_right _ (List.mem_append_right _ (List.mem_append_left _ (List.mem_map.mpr ⟨x, hx, rfl⟩)))))))))
  have m10 : ∀ t ∈ L.tabs, He.Fa.glo (Str.ofString t.1) ∈ L.fa := fun x hx => List.mem_append_right _ (List.mem_append_right _ (List.mem_append_right _ (List.mem_append_right _ (List.mem_append_right _ (List.mem_append_right _ (List.mem_append_right _ (List.mem_append_right _ (List.mem_append_right _ (List.mem_map.mpr ⟨x, hx, rfl⟩)))))))))
  intro n
  induction n with
  | zero =>
    intro e he
    obtain ⟨a, fd, F, hm, hb⟩ := base e he
    refine ⟨a, fd, F, hm, hb, ⟨fun vs H Q E z => ?_, fun A os s H args us vs Q E _ _ _ _ _ z => ?_⟩⟩
    · obtain ⟨_, _, _, _, _, _, z⟩ := z
      exact z.elim
    · obtain ⟨_, _, _, _, _, _, z⟩ := z
      exact z.elim
  | succ n ih =>
    intro e he
    obtain ⟨a, fd, F, hm, hb⟩ := base e he
    obtain ⟨e1, e2, k, e3⟩ := LG.each e he
    obtain ⟨s1, s2, s3⟩ := Df.scope e1
    refine ⟨a, fd, F, hm, hb, fnG_tab F s1 (lookup_of ok1 he) s2 s3 fun cd A os t H E hgd room => ?_⟩
    refine chk_right L.tab n k _ _ e3 (cxG P w K mg B e.N (Str.ofString e.nm) (defScope e.st) a cd A os t H E) _ ?_
    refine { N := rfl, sc := rfl, fn := fun _ _ => rfl, nd := s1.nd, kd := s1.kind, calm := fun _ => rfl, gd := hgd, room := fun _ => room, un := ?_, fns := fun p hp => ?_, nums := fun p hp => He.int_ok X G (fOk (m3 p hp)), free := fun x hx => He.free_ok X G (fOk (m2 x hx)), excs := fun c hc => ⟨ok2 c hc, fOk (m4 c hc), He.glo_ok X G (fOk (m4 c hc)), fOk (m5 c hc)⟩, trys := fun y hy => ⟨⟨_, He.glo_ok X G (fOk (m7 y hy)), rfl⟩, fun c hc hg => ?_⟩,
             tabs := fun t ht => ⟨_, He.glo_ok X G (fOk (m10 t ht)), tabK_ok (map_at2 ct ht) (List.all_eq_true.mp cv t ht)⟩,
             isx := fun x hx => ⟨?_, fun c hc hg => ?_⟩, tk := takes_of rfl rfl rfl rfl, own := passes_of rfl, top := fun _ => ⟨rfl, rfl, rfl⟩ }
    · have q := room.un
      have q : (A.deeper (envOfC (Str.ofString e.nm) (defScope e.st) t.heap.objs.size a cd)).units + 16 * n + 200 < cLine := q
      show (A.deeper (envOfC (Str.ofString e.nm) (defScope e.st) t.heap.objs.size a cd)).units + 66 < cLine
      omega
    · obtain ⟨e', he', rfl⟩ := List.mem_map.mp hp
      obtain ⟨a', fd', F', hm', hb', FG⟩ := ih e' he'
      exact ⟨a', fd', e'.ps, rfl, FG, hm', F'.kp, hb'⟩
    · by_cases hcl : c ∈ L.cls
      · exact He.exm_ok (fOk (m8 y hy c hcl))
      · have q1 := He.glo_ok X G hg
        rw [He.free_ok X G (fOk (m6 c hc hcl))] at q1
        cases q1
    · have q := m9 x hx
      by_cases hv : x = "ValueError"
      · rw [if_pos hv] at q
        exact .inl ⟨hv, He.free_ok X G (fOk q)⟩
      · rw [if_neg hv] at q
        exact .inr ⟨hv, He.glo_ok X G (fOk q)⟩
    · have hcl : c ∈ L.cls := by
        refine Classical.byContradiction fun hcl => ?_
        have q1 := He.glo_ok X G hg
        rw [He.free_ok X G (fOk (m6 c hc hcl))] at q1
        cases q1
      unfold Lw.fx0 at cx
      rw [Bool.or_eq_true] at cx
      rcases cx with cx | cx
      · have hx : x ∈ L.isx := hx
        rw [List.isEmpty_iff.mp cx] at hx
        cases hx
      · have q := List.all_eq_true.mp cx c hcl
        rw [Bool.and_eq_true] at q
        exact ⟨excB_ok q.1, of_decide_eq_true (List.all_eq_true.mp q.2 x hx)⟩
end
/-! ### the hook -/
abbrev AlX : Type := (He.AlD × Bool) × List (Option (List (Option (Str × Int))))
def obsX (n : Nat) (L : Lw) (g : Addr → Option Obj) : AlX := ((He.obsDG n L.fa L.fn g, L.fx (He.frG g (He.asD g n))), L.ta (He.frG g (He.asD g n)))
/-- what the end leans on -/
def SaysX (L : Lw) (w : World) (h : Heap) : Prop := ∃ K : Fg, K.In h ∧ He.SaysD L.fa L.fn K ∧ L.fx K = true ∧ L.ta K = L.tv w
def hookX (n : Nat) (L : Lw) : PySem.W.Hook where
  α := AlX
  obs := fun s => obsX n L s.heap.get?
  val := fun w => ((He.valD L.fn, true), L.tv w)
  says := fun w h => SaysX L w h
  of := fun _ _ e => ⟨_, He.frG_in, congrArg (fun z : AlX => z.1.1) e, congrArg (fun z : AlX => z.1.2) e, congrArg (fun z : AlX => z.2) e⟩
  keeps := fun _ _ _ ⟨K, hK, c⟩ k => ⟨K, PySem.W.Frag.In.keeps hK k, c⟩
theorem obsX_eq {n : Nat} {L : Lw} {g : Addr → Option Obj} {s : Shared} (h : ∀ a, g a = s.heap.get? a) : obsX n L g = (hookX n L).obs s := by
  have e : g = s.heap.get? := funext h
  rw [e] <;> rfl
end MP
/-! MPT: a law's end. -/
namespace MP
open PySem PySem.Spec PyProof.Rows L2
section
variable {L : Lw} {P : Program} {w : World} {K : Fg} {mg : Str → Option Value} {h : Heap} {e : Df} {f : Addr} {x : Str}
theorem fd_one {x q : Str} {pa : Arguments} {b : List Stmt} {sc : Scope} {a : Addr} {fd fd' : FuncData} (F : FunD K x q pa b sc [] [] a fd) (F' : FunD K x q pa b sc [] [] a fd') : fd = fd' := by
  obtain ⟨_, _, _, _, _, _, _, _, _, _, _, k1, _⟩ := F.ex
  obtain ⟨_, _, _, _, _, _, _, _, _, _, _, k2, _⟩ := F'.ex
  rw [k1] at k2
  cases k2
  rfl
theorem law_fn (LG : L.Good) (he : e ∈ L.ds) (hx : e.ps = [x]) (X : K.In h) (G : h.Ns mainGlobals mg) (c : He.SaysD L.fa L.fn K) (cx : L.fx K = true) (ct : L.ta K = L.tv w) (hf : mg (Str.ofString e.nm) = some (.ref f)) (n : Nat) :
    ∃ fd : FuncData, (∀ (s : Shared) (v : Value), BindsTo s fd ⟨[v], []⟩ [(x, v)]) ∧ ∀ B : Heap, FnG P w K mg B n f fd [x] (spN K L.tab n e.nm) := by
  obtain ⟨a, fd, F, hm, hb, _⟩ := kept (P := P) (w := w) LG X G c cx ct h n e he
  rw [hf] at hm
  cases hm
  have b := FunD.bindsA F (LG.each e he).2.1
  refine ⟨fd, fun s v => ?_, fun B => ?_⟩
  · have q := b s [v] (by rw [hx]; rfl)
    rw [hx] at q
    exact q
  · obtain ⟨a', fd', F', hm', _, FG⟩ := kept (P := P) (w := w) LG X G c cx ct B n e he
    rw [hf] at hm'
    cases hm'
    rw [fd_one F F', ← hx]
    exact FG
theorem law_sp {T : Tab} {n : Nat} {g : String} {ns : List Int} {m : Mem} {H : Hp} {a : Addr} (hD : callN T n g [.scr ns] [] = .ok (.d (.bool true)) m) (hS : SqL K H a (ns.map V.int)) : spN K T n g [.ref a] H (fun v _ => v = .bl true) fun _ _ _ => False := by
  have eh : hid [] [] [] H = H := by
    funext z
    unfold hid
    rw [if_neg]
    rintro (q | ⟨i, c, q, _⟩)
    · cases q
    · simp at q
  refine ⟨[], [], [.scr ns], [], ⟨rfl, List.nodup_nil, fun a h => by (cases h), fun a h => by (cases h), fun a h => by (cases h), fun i a c h _ => by simp at h⟩, .cons ⟨a, rfl, by rw [eh]; exact hS⟩ .nil, ?_⟩
  rw [hD]
  intro φ' H' _ _ y hy
  have q := hy.1
  cases q
  rfl
/-- the end: what is left for a head's case hc -/
theorem law_end {l : PySem.W.OpenLaw} {n k : Nat} {q : Program} {loose : List Str} {XP : (Str → Option Value) → Heap → Prop} {d : DefRec} (LG : L.Good) (he : e ∈ L.ds) (hx : e.ps = [x]) (hn : l.most = some n) (hn2 : n ≤ sizeLine) (hdf : d.params.defaults = []) (hr : Room k callerA)
    (hd : d.name = Str.ofString e.nm) (hD : ∀ ns : List Int, ns.length ≤ n → ∃ m, callN L.tab k e.nm [.scr ns] [] = .ok (.d (.bool true)) m) :
    PySem.W.WalkO q loose XP (fun w h => SaysX L w h) l.row.toRowW d [] (fun f vs => PySem.call f vs) := by
  refine walkG (k := k) (x := x) hn hn2 hdf hr fun w mg f h Y G hmg => ?_
  obtain ⟨K, KX, c, cx, ct⟩ := Y
  rw [hd] at hmg
  obtain ⟨fd, hb, hF⟩ := law_fn (P := l.prog) (w := w) LG he hx KX G c cx ct hmg k
  exact ⟨K, fd, _, KX, hb, fun H a ns hl hS => let ⟨m, hm⟩ := hD ns hl; law_sp hm hS, fun B _ _ => hF B⟩
end
end MP
namespace K55
open PySem PySem.Spec PyProof.Rows L2 MP
def tp (i : Nat) : Stmt := PySem.Challenge.pw_surekeys_k55_rules_in_tables_of_many_row.main.body.getD i (.Pass ⟨0, 0, 0, 0⟩)
/-- _law_open(script) -/
def f__law_open : Fn := ⟨1, 4, true, (.seq (.new 1 (.bi .list (.cons (.slc (.var 0) .nil (.cons (.lit (.int 12)) .nil)) .nil))) (.seq (.for_ (.tup (.cons (.nm 2) (.cons (.nm 3) .nil))) (.enum (.slc (.var 0) (.cons (.lit (.int 12)) .nil) (.cons (.lit (.int 63)) .nil))) (.seq (.six 1 (.bin .mod (.bi .int (.cons (.var 2) .nil)) (.lit (.int 12))) (.bin .add (.sub (.var 1) (.bin .mod (.bi .int (.cons (.var 2) .nil)) (.lit (.int 12)))) (.var 3))) .skip)) (.seq (.retn (.lst (.cons (.frz (.var 1)) (.cons (.lit (.int 0)) (.cons (.lit (.int 0)) .nil))))) .skip)))⟩
def d__law_open : Df := ⟨"_law_open", tp 31, ["script"], ["script", "cells", "k", "cell"], f__law_open⟩
/-- _law_spread(cell, at) -/
def f__law_spread : Fn := ⟨2, 8, false, (.seq (.ite (.cmp .ge (.var 0) (.bin .pow (.lit (.int 10)) (.lit (.int 18)))) (.seq (.ret (.var 0)) .skip) .skip) (.seq (.set 2 (.lst (.cons (.lit (.int 2147483629)) (.cons (.lit (.int 2147483587)) (.cons (.lit (.int 2147483579)) (.cons (.lit (.int 2147483563)) (.cons (.lit (.int 2147483549)) (.cons (.lit (.int 2147483543)) (.cons (.lit (.int 2147483497)) .nil))))))))) (.seq (.set 2 (.bin .add (.var 2) (.lst (.cons (.lit (.int 2147483489)) (.cons (.lit (.int 2147483477)) (.cons (.lit (.int 2147483423)) (.cons (.lit (.int 2147483399)) (.cons (.lit (.int 2147483353)) (.cons (.lit (.int 2147483323)) .nil))))))))) (.seq (.set 3 (.bin .add (.bin .add (.bin .mul (.bin .mod (.bi .int (.cons (.var 0) .nil)) (.lit (.int 1000000007))) (.bin .add (.bin .mul (.lit (.int 2)) (.var 1)) (.lit (.int 69069)))) (.bin .mul (.var 1) (.lit (.int 40503)))) (.lit (.int 977)))) (.seq (.set 4 (.bin .mod (.bi .int (.cons (.bin .pow (.var 3) (.lit (.int 3))) .nil)) (.sub (.var 2) (.bin .mod (.bi .int (.cons (.var 1) .nil)) (.lit (.int 13)))))) (.seq (.set 5 (.bin .add (.bin .mod (.bi .int (.cons (.var 0) .nil)) (.lit (.int 65537))) (.lit (.int 5)))) (.seq (.set 6 (.bin .mod (.bi .int (.cons (.bin .pow (.bin .add (.bin .mul (.var 4) (.bin .add (.var 1) (.lit (.int 3)))) (.var 5)) (.lit (.int 5))) .nil)) (.sub (.var 2) (.bin .mod (.bi .int (.cons (.bin .add (.var 1) (.lit (.int 5))) .nil)) (.lit (.int 13)))))) (.seq (.set 7 (.bin .mod (.bi .int (.cons (.bin .pow (.bin .add (.bin .add (.var 6) (.bin .mod (.bi .int (.cons (.var 4) .nil)) (.lit (.int 1009)))) (.var 1)) (.lit (.int 3))) .nil)) (.sub (.var 2) (.bin .mod (.bi .int (.cons (.bin .add (.var 1) (.lit (.int 7))) .nil)) (.lit (.int 13)))))) (.seq (.ret (.bin .add (.bin .mul (.bin .add (.bin .mul (.var 4) (.lit (.int 2147483647))) (.var 6)) (.lit (.int 2147483647))) (.var 7))) .skip)))))))))⟩
def d__law_spread : Df := ⟨"_law_spread", tp 30, ["cell", "at"], ["cell", "at", "primes", "mixed", "one", "rest", "two", "three"], f__law_spread⟩
/-- _law_take(pen, many) -/
def f__law_take : Fn := ⟨2, 5, false, (.seq (.ite (.cmp .lt (.sub (.var 0) (.lit (.int 2))) (.var 1)) (.seq (.set 2 (.sub (.var 0) (.lit (.int 1)))) (.seq (.set 3 (.lit (.int 0))) (.seq (.ite (.cmp .lt (.var 2) (.bi .len (.cons (.sub (.var 0) (.lit (.int 0))) .nil))) (.seq (.set 3 (.sub (.sub (.var 0) (.lit (.int 0))) (.var 2))) .skip) (.seq (.ite (.cmp .gt (.bi .len (.cons (.sub (.var 0) (.lit (.int 0))) .nil)) (.lit (.int 0))) (.seq (.set 3 (.bin .mod (.bi .int (.cons (.sub (.sub (.var 0) (.lit (.int 0))) (.bin .mod (.bi .int (.cons (.bin .add (.bin .mul (.var 2) (.lit (.int 5))) (.lit (.int 3))) .nil)) (.bi .len (.cons (.sub (.var 0) (.lit (.int 0))) .nil)))) .nil)) (.bin .add (.bin .pow (.lit (.int 10)) (.lit (.int 17))) (.var 2)))) .skip) .skip) .skip)) (.seq (.six 0 (.lit (.int 1)) (.bin .add (.var 2) (.lit (.int 1)))) (.seq (.six 0 (.lit (.int 2)) (.call "_law_spread" (.cons (.var 3) (.cons (.var 2) .nil)))) .skip))))) .skip) (.seq (.set 4 (.bin .mod (.bi .int (.cons (.sub (.var 0) (.lit (.int 2))) .nil)) (.var 1))) (.seq (.six 0 (.lit (.int 2)) (.bin .fdiv (.sub (.var 0) (.lit (.int 2))) (.var 1))) (.seq (.ret (.var 4)) .skip))))⟩
def d__law_take : Df := ⟨"_law_take", tp 32, ["pen", "many"], ["pen", "many", "at", "cell", "found"], f__law_take⟩
/-- _law_one(pen, some) -/
def f__law_one : Fn := ⟨2, 2, false, (.seq (.ret (.sub (.var 1) (.call "_law_take" (.cons (.var 0) (.cons (.bi .len (.cons (.var 1) .nil)) .nil))))) .skip)⟩
def d__law_one : Df := ⟨"_law_one", tp 34, ["pen", "some"], ["pen", "some"], f__law_one⟩
/-- _law_wide(pen, many) -/
def f__law_wide : Fn := ⟨2, 11, false, (.seq (.set 2 (.call "_law_one" (.cons (.var 0) (.cons (.lst (.cons (.lit (.int 5)) (.cons (.lit (.int 6)) (.cons (.lit (.int 9)) (.cons (.lit (.int 17)) (.cons (.lit (.int 25)) (.cons (.lit (.int 39)) (.cons (.lit (.int 40)) .nil)))))))) .nil)))) (.seq (.set 3 (.call "_law_one" (.cons (.var 0) (.cons (.lst (.cons (.lit (.int 0)) (.cons (.lit (.int 0)) (.cons (.bin .pow (.lit (.int 10)) (.lit (.int 29))) .nil)))) .nil)))) (.seq (.nrw 4 (.nm 8) (.rng1 (.var 2)) .nil (.bin .mul (.lst (.cons (.bin .add (.var 3) (.var 8)) .nil)) (.var 1)) [8]) (.seq (.for_ (.nm 5) (.rng1 (.call "_law_one" (.cons (.var 0) (.cons (.lst (.cons (.lit (.int 0)) (.cons (.lit (.int 1)) (.cons (.lit (.int 1)) (.cons (.lit (.int 2)) (.cons (.lit (.int 3)) .nil)))))) .nil)))) (.seq (.par 6 7 false false (.call "_law_take" (.cons (.var 0) (.cons (.var 2) .nil))) (.call "_law_take" (.cons (.var 0) (.cons (.var 2) .nil)))) (.seq (.par 8 9 false false (.call "_law_take" (.cons (.var 0) (.cons (.var 1) .nil))) (.call "_law_take" (.cons (.var 0) (.cons (.lit (.int 4)) .nil)))) (.seq (.ite (.cmp .eq (.var 9) (.lit (.int 0))) (.seq (.st2 (.subr (.var 4) (.var 6)) (.var 8) (.lit .none)) .skip) (.seq (.ite (.cmp .eq (.var 9) (.lit (.int 1))) (.seq (.stl (.var 4) (.var 6) (.bi .list (.cons (.subr (.var 4) (.var 7)) .nil))) .skip) (.seq (.st2 (.subr (.var 4) (.var 6)) (.var 8) (.sub (.subr (.var 4) (.var 7)) (.var 8))) .skip)) .skip)) .skip)))) (.seq (.ret (.bi .tuple (.cons (.comp (.nm 10) (.itv (.frz (.var 4))) .nil (.bi .tuple (.cons (.var 10) .nil)) [10]) .nil))) .skip)))))⟩
def d__law_wide : Df := ⟨"_law_wide", tp 41, ["pen", "many"], ["pen", "many", "count", "first", "rows", "step", "i", "j", "k", "kind", "row"], f__law_wide⟩
/-- _law_set(pen, many) -/
def f__law_set : Fn := ⟨2, 3, false, (.seq (.ret (.bi .tuple (.cons (.comp (.nm 2) (.rng1 (.var 1)) (.cons (.cmp .eq (.call "_law_take" (.cons (.var 0) (.cons (.lit (.int 2)) .nil))) (.lit (.int 0))) .nil) (.var 2) [2]) .nil))) .skip)⟩
def d__law_set : Df := ⟨"_law_set", tp 35, ["pen", "many"], ["pen", "many", "column"], f__law_set⟩
/-- _law_key_rules(pen, many) -/
def f__law_key_rules : Fn := ⟨2, 9, false, (.seq (.set 2 (.bi .tuple (.cons (.comp (.nm 7) (.rng1 (.call "_law_one" (.cons (.var 0) (.cons (.lst (.cons (.lit (.int 0)) (.cons (.lit (.int 1)) (.cons (.lit (.int 1)) (.cons (.lit (.int 2)) (.cons (.lit (.int 3)) (.cons (.lit (.int 4)) (.cons (.lit (.int 5)) (.cons (.lit (.int 6)) .nil))))))))) .nil)))) .nil (.call "_law_set" (.cons (.var 0) (.cons (.var 1) .nil))) [7]) .nil))) (.seq (.set 3 (.call "_law_one" (.cons (.var 0) (.cons (.lst (.cons (.lit (.int 0)) (.cons (.lit (.int 1)) (.cons (.lit (.int 2)) (.cons (.lit (.int 2)) (.cons (.lit (.int 3)) (.cons (.lit (.int 4)) (.cons (.lit (.int 5)) (.cons (.lit (.int 6)) .nil))))))))) .nil)))) (.seq (.set 4 (.bi .tuple (.cons (.comp (.nm 7) (.rng1 (.var 3)) .nil (.call "_law_set" (.cons (.var 0) (.cons (.var 1) .nil))) [7]) .nil))) (.seq (.set 5 (.call "_law_one" (.cons (.var 0) (.cons (.lst (.cons (.tup .nil) (.cons (.call "_law_set" (.cons (.var 0) (.cons (.var 1) .nil))) (.cons (.call "_law_set" (.cons (.var 0) (.cons (.var 1) .nil))) .nil)))) .nil)))) (.seq (.set 6 (.comp (.nm 8) (.itv (.var 2)) (.cons (.or (.cmp .ne (.var 8) (.tup .nil)) (.cmp .eq (.call "_law_take" (.cons (.var 0) (.cons (.lit (.int 9)) .nil))) (.lit (.int 0)))) .nil) (.var 8) [8])) (.seq (.ret (.tup (.cons (.var 5) (.cons (.bi .tuple (.cons (.var 6) .nil)) (.cons (.var 4) .nil))))) .skip))))))⟩
def d__law_key_rules : Df := ⟨"_law_key_rules", tp 36, ["pen", "many"], ["pen", "many", "sure", "count", "possible", "known", "kept", "k", "some"], f__law_key_rules⟩
/-- _law_anew(pen) -/
def f__law_anew : Fn := ⟨1, 1, false, (.seq (.six 0 (.lit (.int 2)) (.lit (.int 0))) (.seq (.ret (.var 0)) .skip))⟩
def d__law_anew : Df := ⟨"_law_anew", tp 33, ["pen"], ["pen"], f__law_anew⟩
/-- is_integer(value) -/
def f_is_integer : Fn := ⟨1, 1, false, (.seq (.ret (.and (.bi .isInt (.cons (.var 0) .nil)) (.not (.bi .isBool (.cons (.var 0) .nil))))) .skip)⟩
def d_is_integer : Df := ⟨"is_integer", tp 5, ["value"], ["value"], f_is_integer⟩
/-- is_between(value, least, most) -/
def f_is_between : Fn := ⟨3, 3, false, (.seq (.ret (.and (.call "is_integer" (.cons (.var 0) .nil)) (.chain .le .le (.var 1) (.var 0) (.var 2)))) .skip)⟩
def d_is_between : Df := ⟨"is_between", tp 6, ["value", "least", "most"], ["value", "least", "most"], f_is_between⟩
/-- require_many(value) -/
def f_require_many : Fn := ⟨1, 1, false, (.seq (.ite (.not (.call "is_between" (.cons (.var 0) (.cons (.lit (.int 1)) (.cons (.lit (.int 4)) .nil))))) (.seq (.raise "InvalidNumber") .skip) .skip) .skip)⟩
def d_require_many : Df := ⟨"require_many", tp 26, ["value"], ["value"], f_require_many⟩
/-- is_set_for(many, value) -/
def f_is_set_for : Fn := ⟨2, 3, false, (.seq (.ite (.or (.not (.bi .isTup (.cons (.var 1) .nil))) (.not (.bi .all (.cons (.comp (.nm 2) (.itv (.var 1)) .nil (.call "is_between" (.cons (.var 2) (.cons (.lit (.int 0)) (.cons (.bin .sub (.var 0) (.lit (.int 1))) .nil)))) [2]) .nil)))) (.seq (.ret (.lit (.bool false))) .skip) .skip) (.seq (.ret (.cmp .eq (.bi .list (.cons (.var 1) .nil)) (.bi .srtset (.cons (.var 1) .nil)))) .skip))⟩
def d_is_set_for : Df := ⟨"is_set_for", tp 10, ["many", "value"], ["many", "value", "one"], f_is_set_for⟩
/-- are_sets(many, value) -/
def f_are_sets : Fn := ⟨2, 3, false, (.seq (.ite (.or (.not (.bi .isTup (.cons (.var 1) .nil))) (.cmp .gt (.bi .len (.cons (.var 1) .nil)) (.lit (.int 6)))) (.seq (.ret (.lit (.bool false))) .skip) .skip) (.seq (.ret (.bi .all (.cons (.comp (.nm 2) (.itv (.var 1)) .nil (.call "is_set_for" (.cons (.var 0) (.cons (.var 2) .nil))) [2]) .nil))) .skip))⟩
def d_are_sets : Df := ⟨"are_sets", tp 18, ["many", "value"], ["many", "value", "some"], f_are_sets⟩
/-- is_rules_of(many, value) -/
def f_is_rules_of : Fn := ⟨2, 2, false, (.seq (.ite (.or (.not (.bi .isTup (.cons (.var 1) .nil))) (.or (.cmp .ne (.bi .len (.cons (.var 1) .nil)) (.lit (.int 3))) (.not (.call "is_set_for" (.cons (.var 0) (.cons (.sub (.var 1) (.lit (.int 0))) .nil)))))) (.seq (.ret (.lit (.bool false))) .skip) .skip) (.seq (.ret (.and (.call "are_sets" (.cons (.var 0) (.cons (.sub (.var 1) (.lit (.int 1))) .nil))) (.call "are_sets" (.cons (.var 0) (.cons (.sub (.var 1) (.lit (.int 2))) .nil))))) .skip))⟩
def d_is_rules_of : Df := ⟨"is_rules_of", tp 19, ["many", "value"], ["many", "value"], f_is_rules_of⟩
/-- require_rules(many, value) -/
def f_require_rules : Fn := ⟨2, 2, false, (.seq (.ex (.call "require_many" (.cons (.var 0) .nil))) (.seq (.ite (.not (.call "is_rules_of" (.cons (.var 0) (.cons (.var 1) .nil)))) (.seq (.raise "InvalidRules") .skip) .skip) .skip))⟩
def d_require_rules : Df := ⟨"require_rules", tp 27, ["many", "value"], ["many", "value"], f_require_rules⟩
/-- is_value(value) -/
def f_is_value : Fn := ⟨1, 1, false, (.seq (.ret (.and (.call "is_integer" (.cons (.var 0) .nil)) (.cmp .ge (.var 0) (.lit (.int 0))))) .skip)⟩
def d_is_value : Df := ⟨"is_value", tp 9, ["value"], ["value"], f_is_value⟩
/-- is_wide_row(many, value) -/
def f_is_wide_row : Fn := ⟨2, 3, false, (.seq (.ite (.or (.not (.bi .isTup (.cons (.var 1) .nil))) (.cmp .ne (.bi .len (.cons (.var 1) .nil)) (.var 0))) (.seq (.ret (.lit (.bool false))) .skip) .skip) (.seq (.ret (.bi .all (.cons (.comp (.nm 2) (.itv (.var 1)) .nil (.or (.isc .none false (.var 2)) (.call "is_value" (.cons (.var 2) .nil))) [2]) .nil))) .skip))⟩
def d_is_wide_row : Df := ⟨"is_wide_row", tp 20, ["many", "value"], ["many", "value", "one"], f_is_wide_row⟩
/-- is_wide_table(many, value) -/
def f_is_wide_table : Fn := ⟨2, 3, false, (.seq (.ite (.or (.not (.bi .isTup (.cons (.var 1) .nil))) (.cmp .gt (.bi .len (.cons (.var 1) .nil)) (.lit (.int 40)))) (.seq (.ret (.lit (.bool false))) .skip) .skip) (.seq (.ret (.bi .all (.cons (.comp (.nm 2) (.itv (.var 1)) .nil (.call "is_wide_row" (.cons (.var 0) (.cons (.var 2) .nil))) [2]) .nil))) .skip))⟩
def d_is_wide_table : Df := ⟨"is_wide_table", tp 21, ["many", "value"], ["many", "value", "row"], f_is_wide_table⟩
/-- is_known(rules, table) -/
def f_is_known : Fn := ⟨2, 4, false, (.seq (.ret (.not (.bi .any (.cons (.comp2 (.nm 2) (.itv (.var 1)) .nil (.nm 3) (.itv (.sub (.var 0) (.lit (.int 0)))) .nil (.isc .none false (.sub (.var 2) (.var 3))) [2, 3] [3]) .nil)))) .skip)⟩
def d_is_known : Df := ⟨"is_known", tp 24, ["rules", "table"], ["rules", "table", "row", "column"], f_is_known⟩
/-- are_alike(first, second, some) -/
def f_are_alike : Fn := ⟨3, 4, false, (.seq (.ret (.bi .all (.cons (.comp (.nm 3) (.itv (.var 2)) .nil (.and (.isc .none true (.sub (.var 0) (.var 3))) (.cmp .eq (.sub (.var 0) (.var 3)) (.sub (.var 1) (.var 3)))) [3]) .nil))) .skip)⟩
def d_are_alike : Df := ⟨"are_alike", tp 14, ["first", "second", "some"], ["first", "second", "some", "column"], f_are_alike⟩
/-- is_possible_key(table, some) -/
def f_is_possible_key : Fn := ⟨2, 5, false, (.seq (.ret (.not (.bi .any (.cons (.comp2 (.tup (.cons (.nm 2) (.cons (.nm 3) .nil))) (.enum (.var 0)) .nil (.nm 4) (.itv (.slc (.var 0) .nil (.cons (.var 2) .nil))) .nil (.call "are_alike" (.cons (.var 3) (.cons (.var 4) (.cons (.var 1) .nil)))) [2, 3, 4] [4]) .nil)))) .skip)⟩
def d_is_possible_key : Df := ⟨"is_possible_key", tp 23, ["table", "some"], ["table", "some", "k", "one", "other"], f_is_possible_key⟩
/-- do_meet(first, second, some) -/
def f_do_meet : Fn := ⟨3, 4, false, (.seq (.ret (.bi .all (.cons (.comp (.nm 3) (.itv (.var 2)) .nil (.or (.isc .none false (.sub (.var 0) (.var 3))) (.cmp .isin (.sub (.var 1) (.var 3)) (.tup (.cons (.lit .none) (.cons (.sub (.var 0) (.var 3)) .nil))))) [3]) .nil))) .skip)⟩
def d_do_meet : Df := ⟨"do_meet", tp 12, ["first", "second", "some"], ["first", "second", "some", "column"], f_do_meet⟩
/-- is_sure_key(table, some) -/
def f_is_sure_key : Fn := ⟨2, 5, false, (.seq (.ret (.not (.bi .any (.cons (.comp2 (.tup (.cons (.nm 2) (.cons (.nm 3) .nil))) (.enum (.var 0)) .nil (.nm 4) (.itv (.slc (.var 0) .nil (.cons (.var 2) .nil))) .nil (.call "do_meet" (.cons (.var 3) (.cons (.var 4) (.cons (.var 1) .nil)))) [2, 3, 4] [4]) .nil)))) .skip)⟩
def d_is_sure_key : Df := ⟨"is_sure_key", tp 22, ["table", "some"], ["table", "some", "k", "one", "other"], f_is_sure_key⟩
/-- obeys_rules(rules, table) -/
def f_obeys_rules : Fn := ⟨2, 3, false, (.seq (.ite (.or (.not (.call "is_known" (.cons (.var 0) (.cons (.var 1) .nil)))) (.not (.bi .all (.cons (.comp (.nm 2) (.itv (.sub (.var 0) (.lit (.int 1)))) .nil (.call "is_sure_key" (.cons (.var 1) (.cons (.var 2) .nil))) [2]) .nil)))) (.seq (.ret (.lit (.bool false))) .skip) .skip) (.seq (.ret (.bi .all (.cons (.comp (.nm 2) (.itv (.sub (.var 0) (.lit (.int 2)))) .nil (.call "is_possible_key" (.cons (.var 1) (.cons (.var 2) .nil))) [2]) .nil))) .skip))⟩
def d_obeys_rules : Df := ⟨"obeys_rules", tp 25, ["rules", "table"], ["rules", "table", "some"], f_obeys_rules⟩
/-- obeys(many, rules, value) -/
def f_obeys : Fn := ⟨3, 3, false, (.seq (.ex (.call "require_rules" (.cons (.var 0) (.cons (.var 1) .nil)))) (.seq (.ret (.and (.call "is_wide_table" (.cons (.var 0) (.cons (.var 2) .nil))) (.call "obeys_rules" (.cons (.var 1) (.cons (.var 2) .nil))))) .skip))⟩
def d_obeys : Df := ⟨"obeys", tp 28, ["many", "rules", "value"], ["many", "rules", "value"], f_obeys⟩
/-- _law_meet(first, second, some) -/
def f__law_meet : Fn := ⟨3, 6, false, (.seq (.for_ (.nm 3) (.itv (.var 2)) (.seq (.par 4 5 false false (.sub (.var 0) (.var 3)) (.sub (.var 1) (.var 3))) (.seq (.ite (.and (.isc .none true (.var 4)) (.and (.isc .none true (.var 5)) (.cmp .ne (.var 4) (.var 5)))) (.seq (.ret (.lit (.bool false))) .skip) .skip) .skip))) (.seq (.ret (.lit (.bool true))) .skip))⟩
def d__law_meet : Df := ⟨"_law_meet", tp 37, ["first", "second", "some"], ["first", "second", "some", "column", "one", "other"], f__law_meet⟩
/-- _law_is_sure(table, some) -/
def f__law_is_sure : Fn := ⟨2, 4, false, (.seq (.for_ (.nm 2) (.rng1 (.bi .len (.cons (.var 0) .nil))) (.seq (.ite (.cmp .ne (.comp (.nm 3) (.itv (.slc (.var 0) .nil (.cons (.var 2) .nil))) (.cons (.call "_law_meet" (.cons (.var 3) (.cons (.sub (.var 0) (.var 2)) (.cons (.var 1) .nil)))) .nil) (.var 3) [3]) (.lst .nil)) (.seq (.ret (.lit (.bool false))) .skip) .skip) .skip)) (.seq (.ret (.lit (.bool true))) .skip))⟩
def d__law_is_sure : Df := ⟨"_law_is_sure", tp 39, ["table", "some"], ["table", "some", "k", "row"], f__law_is_sure⟩
/-- _law_alike(first, second, some) -/
def f__law_alike : Fn := ⟨3, 4, false, (.seq (.for_ (.nm 3) (.itv (.var 2)) (.seq (.ite (.or (.isc .none false (.sub (.var 0) (.var 3))) (.cmp .ne (.sub (.var 0) (.var 3)) (.sub (.var 1) (.var 3)))) (.seq (.ret (.lit (.bool false))) .skip) .skip) .skip)) (.seq (.ret (.lit (.bool true))) .skip))⟩
def d__law_alike : Df := ⟨"_law_alike", tp 38, ["first", "second", "some"], ["first", "second", "some", "column"], f__law_alike⟩
/-- _law_is_open_key(table, some) -/
def f__law_is_open_key : Fn := ⟨2, 4, false, (.seq (.for_ (.nm 2) (.rng1 (.bi .len (.cons (.var 0) .nil))) (.seq (.ite (.cmp .ne (.comp (.nm 3) (.itv (.slc (.var 0) .nil (.cons (.var 2) .nil))) (.cons (.call "_law_alike" (.cons (.var 3) (.cons (.sub (.var 0) (.var 2)) (.cons (.var 1) .nil)))) .nil) (.var 3) [3]) (.lst .nil)) (.seq (.ret (.lit (.bool false))) .skip) .skip) .skip)) (.seq (.ret (.lit (.bool true))) .skip))⟩
def d__law_is_open_key : Df := ⟨"_law_is_open_key", tp 40, ["table", "some"], ["table", "some", "k", "row"], f__law_is_open_key⟩
/-- _law_obeys(rules, table) -/
def f__law_obeys : Fn := ⟨2, 5, false, (.seq (.for_ (.nm 2) (.itv (.var 1)) (.seq (.ite (.cmp .isin (.lit .none) (.comp (.nm 4) (.itv (.sub (.var 0) (.lit (.int 0)))) .nil (.sub (.var 2) (.var 4)) [4])) (.seq (.ret (.lit (.bool false))) .skip) .skip) .skip)) (.seq (.for_ (.nm 3) (.itv (.sub (.var 0) (.lit (.int 1)))) (.seq (.ite (.not (.call "_law_is_sure" (.cons (.var 1) (.cons (.var 3) .nil)))) (.seq (.ret (.lit (.bool false))) .skip) .skip) .skip)) (.seq (.ret (.bi .all (.cons (.comp (.nm 3) (.itv (.sub (.var 0) (.lit (.int 2)))) .nil (.call "_law_is_open_key" (.cons (.var 1) (.cons (.var 3) .nil))) [3]) .nil))) .skip)))⟩
def d__law_obeys : Df := ⟨"_law_obeys", tp 42, ["rules", "table"], ["rules", "table", "row", "some", "column"], f__law_obeys⟩
/-- law(script) -/
def f_law : Fn := ⟨1, 9, false, (.seq (.set 1 (.call "_law_open" (.cons (.var 0) .nil))) (.seq (.for_ (.nm 2) (.rng1 (.lit (.int 7))) (.seq (.set 3 (.bin .add (.lit (.int 1)) (.call "_law_take" (.cons (.call "_law_anew" (.cons (.var 1) .nil)) (.cons (.lit (.int 4)) .nil))))) (.seq (.set 4 (.call "_law_wide" (.cons (.var 1) (.cons (.var 3) .nil)))) (.seq (.set 5 (.bi .tuple (.cons (.lst (.cons (.call "_law_set" (.cons (.var 1) (.cons (.var 3) .nil))) .nil)) .nil))) (.seq (.set 6 (.lst (.cons (.call "_law_key_rules" (.cons (.var 1) (.cons (.var 3) .nil))) (.cons (.tup (.cons (.tup .nil) (.cons (.var 5) (.cons (.tup .nil) .nil)))) .nil)))) (.seq (.set 6 (.bin .add (.var 6) (.lst (.cons (.tup (.cons (.tup .nil) (.cons (.tup .nil) (.cons (.var 5) .nil)))) (.cons (.tup (.cons (.sub (.var 5) (.lit (.int 0))) (.cons (.tup .nil) (.cons (.tup .nil) .nil)))) .nil))))) (.seq (.for_ (.nm 7) (.itv (.var 6)) (.seq (.set 8 (.bi .repr (.cons (.tup (.cons (.var 7) (.cons (.var 4) .nil))) .nil))) (.seq (.ite (.cmp .ne (.bi .repr (.cons (.call "obeys" (.cons (.var 3) (.cons (.var 7) (.cons (.var 4) .nil)))) .nil)) (.bi .repr (.cons (.call "_law_obeys" (.cons (.var 7) (.cons (.var 4) .nil))) .nil))) (.seq (.ret (.lit (.bool false))) .skip) .skip) (.seq (.ite (.cmp .ne (.bi .repr (.cons (.tup (.cons (.var 7) (.cons (.var 4) .nil))) .nil)) (.var 8)) (.seq (.ret (.lit (.bool false))) .skip) .skip) .skip)))) .skip))))))) (.seq (.ret (.lit (.bool true))) .skip)))⟩
def d_law : Df := ⟨"law", tp 43, ["script"], ["script", "pen", "turn", "many", "table", "some", "cases", "rules", "kept"], f_law⟩
def LL : Lw where
  ds := [d__law_open, d__law_spread, d__law_take, d__law_one, d__law_wide, d__law_set, d__law_key_rules, d__law_anew, d_is_integer, d_is_between, d_require_many, d_is_set_for, d_are_sets, d_is_rules_of, d_require_rules, d_is_value, d_is_wide_row, d_is_wide_table, d_is_known, d_are_alike, d_is_possible_key, d_do_meet, d_is_sure_key, d_obeys_rules, d_obeys, d__law_meet, d__law_is_sure, d__law_alike, d__law_is_open_key, d__law_obeys, d_law]
  nums := [("MOST_COLUMNS", 4), ("MOST_SETS", 6), ("MOST_ROWS", 40)]
  free := ["all", "any", "bool", "enumerate", "int", "isinstance", "len", "list", "range", "repr", "set", "sorted", "tuple"]
  cls := ["InvalidRules", "InvalidNumber"]
  trys := []
  isx := []
theorem b__law_open : Bnd d__law_open := fun _ _ _ _ _ _ us hl => match us, hl with | [_], _ => rfl
theorem k__law_open : d__law_open.ok = true ∧ Bnd d__law_open ∧ ∃ k, chk k (LL.ck d__law_open) (.qss (defBody d__law_open.st) d__law_open.f.body) = true := ⟨by decide +kernel, b__law_open, 300, by decide +kernel⟩
theorem b__law_spread : Bnd d__law_spread := fun _ _ _ _ _ _ us hl => match us, hl with | [_, _], _ => rfl
theorem k__law_spread : d__law_spread.ok = true ∧ Bnd d__law_spread ∧ ∃ k, chk k (LL.ck d__law_spread) (.qss (defBody d__law_spread.st) d__law_spread.f.body) = true := ⟨by decide +kernel, b__law_spread, 300, by decide +kernel⟩
theorem b__law_take : Bnd d__law_take := fun _ _ _ _ _ _ us hl => match us, hl with | [_, _], _ => rfl
theorem k__law_take : d__law_take.ok = true ∧ Bnd d__law_take ∧ ∃ k, chk k (LL.ck d__law_take) (.qss (defBody d__law_take.st) d__law_take.f.body) = true := ⟨by decide +kernel, b__law_take, 300, by decide +kernel⟩
theorem b__law_one : Bnd d__law_one := fun _ _ _ _ _ _ us hl => match us, hl with | [_, _], _ => rfl
theorem k__law_one : d__law_one.ok = true ∧ Bnd d__law_one ∧ ∃ k, chk k (LL.ck d__law_one) (.qss (defBody d__law_one.st) d__law_one.f.body) = true := ⟨by decide +kernel, b__law_one, 300, by decide +kernel⟩
theorem b__law_wide : Bnd d__law_wide := fun _ _ _ _ _ _ us hl => match us, hl with | [_, _], _ => rfl
theorem k__law_wide : d__law_wide.ok = true ∧ Bnd d__law_wide ∧ ∃ k, chk k (LL.ck d__law_wide) (.qss (defBody d__law_wide.st) d__law_wide.f.body) = true := ⟨by decide +kernel, b__law_wide, 300, by decide +kernel⟩
theorem b__law_set : Bnd d__law_set := fun _ _ _ _ _ _ us hl => match us, hl with | [_, _], _ => rfl
theorem k__law_set : d__law_set.ok = true ∧ Bnd d__law_set ∧ ∃ k, chk k (LL.ck d__law_set) (.qss (defBody d__law_set.st) d__law_set.f.body) = true := ⟨by decide +kernel, b__law_set, 300, by decide +kernel⟩
theorem b__law_key_rules : Bnd d__law_key_rules := fun _ _ _ _ _ _ us hl => match us, hl with | [_, _], _ => rfl
theorem k__law_key_rules : d__law_key_rules.ok = true ∧ Bnd d__law_key_rules ∧ ∃ k, chk k (LL.ck d__law_key_rules) (.qss (defBody d__law_key_rules.st) d__law_key_rules.f.body) = true := ⟨by decide +kernel, b__law_key_rules, 300, by decide +kernel⟩
theorem b__law_anew : Bnd d__law_anew := fun _ _ _ _ _ _ us hl => match us, hl with | [_], _ => rfl
theorem k__law_anew : d__law_anew.ok = true ∧ Bnd d__law_anew ∧ ∃ k, chk k (LL.ck d__law_anew) (.qss (defBody d__law_anew.st) d__law_anew.f.body) = true := ⟨by decide +kernel, b__law_anew, 300, by decide +kernel⟩
theorem b_is_integer : Bnd d_is_integer := fun _ _ _ _ _ _ us hl => match us, hl with | [_], _ => rfl
theorem k_is_integer : d_is_integer.ok = true ∧ Bnd d_is_integer ∧ ∃ k, chk k (LL.ck d_is_integer) (.qss (defBody d_is_integer.st) d_is_integer.f.body) = true := ⟨by decide +kernel, b_is_integer, 300, by decide +kernel⟩
theorem b_is_between : Bnd d_is_between := fun _ _ _ _ _ _ us hl => match us, hl with | [_, _, _], _ => rfl
theorem k_is_between : d_is_between.ok = true ∧ Bnd d_is_between ∧ ∃ k, chk k (LL.ck d_is_between) (.qss (defBody d_is_between.st) d_is_between.f.body) = true := ⟨by decide +kernel, b_is_between, 300, by decide +kernel⟩
theorem b_require_many : Bnd d_require_many := fun _ _ _ _ _ _ us hl => match us, hl with | [_], _ => rfl
theorem k_require_many : d_require_many.ok = true ∧ Bnd d_require_many ∧ ∃ k, chk k (LL.ck d_require_many) (.qss (defBody d_require_many.st) d_require_many.f.body) = true := ⟨by decide +kernel, b_require_many, 300, by decide +kernel⟩
theorem b_is_set_for : Bnd d_is_set_for := fun _ _ _ _ _ _ us hl => match us, hl with | [_, _], _ => rfl
theorem k_is_set_for : d_is_set_for.ok = true ∧ Bnd d_is_set_for ∧ ∃ k, chk k (LL.ck d_is_set_for) (.qss (defBody d_is_set_for.st) d_is_set_for.f.body) = true := ⟨by decide +kernel, b_is_set_for, 300, by decide +kernel⟩
theorem b_are_sets : Bnd d_are_sets := fun _ _ _ _ _ _ us hl => match us, hl with | [_, _], _ => rfl
theorem k_are_sets : d_are_sets.ok = true ∧ Bnd d_are_sets ∧ ∃ k, chk k (LL.ck d_are_sets) (.qss (defBody d_are_sets.st) d_are_sets.f.body) = true := ⟨by decide +kernel, b_are_sets, 300, by decide +kernel⟩
theorem b_is_rules_of : Bnd d_is_rules_of := fun _ _ _ _ _ _ us hl => match us, hl with | [_, _], _ => rfl
theorem k_is_rules_of : d_is_rules_of.ok = true ∧ Bnd d_is_rules_of ∧ ∃ k, chk k (LL.ck d_is_rules_of) (.qss (defBody d_is_rules_of.st) d_is_rules_of.f.body) = true := ⟨by decide +kernel, b_is_rules_of, 300, by decide +kernel⟩
theorem b_require_rules : Bnd d_require_rules := fun _ _ _ _ _ _ us hl => match us, hl with | [_, _], _ => rfl
theorem k_require_rules : d_require_rules.ok = true ∧ Bnd d_require_rules ∧ ∃ k, chk k (LL.ck d_require_rules) (.qss (defBody d_require_rules.st) d_require_rules.f.body) = true := ⟨by decide +kernel, b_require_rules, 300, by decide +kernel⟩
theorem b_is_value : Bnd d_is_value := fun _ _ _ _ _ _ us hl => match us, hl with | [_], _ => rfl
theorem k_is_value : d_is_value.ok = true ∧ Bnd d_is_value ∧ ∃ k, chk k (LL.ck d_is_value) (.qss (defBody d_is_value.st) d_is_value.f.body) = true := ⟨by decide +kernel, b_is_value, 300, by decide +kernel⟩
theorem b_is_wide_row : Bnd d_is_wide_row := fun _ _ _ _ _ _ us hl => match us, hl with | [_, _], _ => rfl
theorem k_is_wide_row : d_is_wide_row.ok = true ∧ Bnd d_is_wide_row ∧ ∃ k, chk k (LL.ck d_is_wide_row) (.qss (defBody d_is_wide_row.st) d_is_wide_row.f.body) = true := ⟨by decide +kernel, b_is_wide_row, 300, by decide +kernel⟩
theorem b_is_wide_table : Bnd d_is_wide_table := fun _ _ _ _ _ _ us hl => match us, hl with | [_, _], _ => rfl
theorem k_is_wide_table : d_is_wide_table.ok = true ∧ Bnd d_is_wide_table ∧ ∃ k, chk k (LL.ck d_is_wide_table) (.qss (defBody d_is_wide_table.st) d_is_wide_table.f.body) = true := ⟨by decide +kernel, b_is_wide_table, 300, by decide +kernel⟩
theorem b_is_known : Bnd d_is_known := fun _ _ _ _ _ _ us hl => match us, hl with | [_, _], _ => rfl
theorem k_is_known : d_is_known.ok = true ∧ Bnd d_is_known ∧ ∃ k, chk k (LL.ck d_is_known) (.qss (defBody d_is_known.st) d_is_known.f.body) = true := ⟨by decide +kernel, b_is_known, 300, by decide +kernel⟩
theorem b_are_alike : Bnd d_are_alike := fun _ _ _ _ _ _ us hl => match us, hl with | [_, _, _], _ => rfl
theorem k_are_alike : d_are_alike.ok = true ∧ Bnd d_are_alike ∧ ∃ k, chk k (LL.ck d_are_alike) (.qss (defBody d_are_alike.st) d_are_alike.f.body) = true := ⟨by decide +kernel, b_are_alike, 300, by decide +kernel⟩
theorem b_is_possible_key : Bnd d_is_possible_key := fun _ _ _ _ _ _ us hl => match us, hl with | [_, _], _ => rfl
theorem k_is_possible_key : d_is_possible_key.ok = true ∧ Bnd d_is_possible_key ∧ ∃ k, chk k (LL.ck d_is_possible_key) (.qss (defBody d_is_possible_key.st) d_is_possible_key.f.body) = true := ⟨by decide +kernel, b_is_possible_key, 300, by decide +kernel⟩
theorem b_do_meet : Bnd d_do_meet := fun _ _ _ _ _ _ us hl => match us, hl with | [_, _, _], _ => rfl
theorem k_do_meet : d_do_meet.ok = true ∧ Bnd d_do_meet ∧ ∃ k, chk k (LL.ck d_do_meet) (.qss (defBody d_do_meet.st) d_do_meet.f.body) = true := ⟨by decide +kernel, b_do_meet, 300, by decide +kernel⟩
theorem b_is_sure_key : Bnd d_is_sure_key := fun _ _ _ _ _ _ us hl => match us, hl with | [_, _], _ => rfl
theorem k_is_sure_key : d_is_sure_key.ok = true ∧ Bnd d_is_sure_key ∧ ∃ k, chk k (LL.ck d_is_sure_key) (.qss (defBody d_is_sure_key.st) d_is_sure_key.f.body) = true := ⟨by decide +kernel, b_is_sure_key, 300, by decide +kernel⟩
theorem b_obeys_rules : Bnd d_obeys_rules := fun _ _ _ _ _ _ us hl => match us, hl with | [_, _], _ => rfl
theorem k_obeys_rules : d_obeys_rules.ok = true ∧ Bnd d_obeys_rules ∧ ∃ k, chk k (LL.ck d_obeys_rules) (.qss (defBody d_obeys_rules.st) d_obeys_rules.f.body) = true := ⟨by decide +kernel, b_obeys_rules, 300, by decide +kernel⟩
theorem b_obeys : Bnd d_obeys := fun _ _ _ _ _ _ us hl => match us, hl with | [_, _, _], _ => rfl
theorem k_obeys : d_obeys.ok = true ∧ Bnd d_obeys ∧ ∃ k, chk k (LL.ck d_obeys) (.qss (defBody d_obeys.st) d_obeys.f.body) = true := ⟨by decide +kernel, b_obeys, 300, by decide +kernel⟩
theorem b__law_meet : Bnd d__law_meet := fun _ _ _ _ _ _ us hl => match us, hl with | [_, _, _], _ => rfl
theorem k__law_meet : d__law_meet.ok = true ∧ Bnd d__law_meet ∧ ∃ k, chk k (LL.ck d__law_meet) (.qss (defBody d__law_meet.st) d__law_meet.f.body) = true := ⟨by decide +kernel, b__law_meet, 300, by decide +kernel⟩
theorem b__law_is_sure : Bnd d__law_is_sure := fun _ _ _ _ _ _ us hl => match us, hl with | [_, _], _ => rfl
theorem k__law_is_sure : d__law_is_sure.ok = true ∧ Bnd d__law_is_sure ∧ ∃ k, chk k (LL.ck d__law_is_sure) (.qss (defBody d__law_is_sure.st) d__law_is_sure.f.body) = true := ⟨by decide +kernel, b__law_is_sure, 300, by decide +kernel⟩
theorem b__law_alike : Bnd d__law_alike := fun _ _ _ _ _ _ us hl => match us, hl with | [_, _, _], _ => rfl
theorem k__law_alike : d__law_alike.ok = true ∧ Bnd d__law_alike ∧ ∃ k, chk k (LL.ck d__law_alike) (.qss (defBody d__law_alike.st) d__law_alike.f.body) = true := ⟨by decide +kernel, b__law_alike, 300, by decide +kernel⟩
theorem b__law_is_open_key : Bnd d__law_is_open_key := fun _ _ _ _ _ _ us hl => match us, hl with | [_, _], _ => rfl
theorem k__law_is_open_key : d__law_is_open_key.ok = true ∧ Bnd d__law_is_open_key ∧ ∃ k, chk k (LL.ck d__law_is_open_key) (.qss (defBody d__law_is_open_key.st) d__law_is_open_key.f.body) = true := ⟨by decide +kernel, b__law_is_open_key, 300, by decide +kernel⟩
theorem b__law_obeys : Bnd d__law_obeys := fun _ _ _ _ _ _ us hl => match us, hl with | [_, _], _ => rfl
theorem k__law_obeys : d__law_obeys.ok = true ∧ Bnd d__law_obeys ∧ ∃ k, chk k (LL.ck d__law_obeys) (.qss (defBody d__law_obeys.st) d__law_obeys.f.body) = true := ⟨by decide +kernel, b__law_obeys, 300, by decide +kernel⟩
theorem b_law : Bnd d_law := fun _ _ _ _ _ _ us hl => match us, hl with | [_], _ => rfl
theorem k_law : d_law.ok = true ∧ Bnd d_law ∧ ∃ k, chk k (LL.ck d_law) (.qss (defBody d_law.st) d_law.f.body) = true := ⟨by decide +kernel, b_law, 300, by decide +kernel⟩
theorem LLg : LL.Good := ⟨by decide +kernel, fun e he => by
  simp only [LL, List.mem_cons, List.not_mem_nil, or_false] at he
  rcases he with rfl | rfl | rfl | rfl | rfl | rfl | rfl | rfl | rfl | rfl | rfl | rfl | rfl | rfl | rfl | rfl | rfl | rfl | rfl | rfl | rfl | rfl | rfl | rfl | rfl | rfl | rfl | rfl | rfl | rfl | rfl
  · exact k__law_open
  · exact k__law_spread
  · exact k__law_take
  · exact k__law_one
  · exact k__law_wide
  · exact k__law_set
  · exact k__law_key_rules
  · exact k__law_anew
  · exact k_is_integer
  · exact k_is_between
  · exact k_require_many
  · exact k_is_set_for
  · exact k_are_sets
  · exact k_is_rules_of
  · exact k_require_rules
  · exact k_is_value
  · exact k_is_wide_row
  · exact k_is_wide_table
  · exact k_is_known
  · exact k_are_alike
  · exact k_is_possible_key
  · exact k_do_meet
  · exact k_is_sure_key
  · exact k_obeys_rules
  · exact k_obeys
  · exact k__law_meet
  · exact k__law_is_sure
  · exact k__law_alike
  · exact k__law_is_open_key
  · exact k__law_obeys
  · exact k_law⟩
end K55
namespace K55
open PySem PySem.Spec PyProof.Rows L2 MP
def lse : List PySem.Str := (["KeyRuleError", "InvalidRules", "InvalidNumber", "is_integer", "is_between", "MOST_COLUMNS", "is_value", "is_set_for", "do_meet", "are_alike", "MOST_SETS", "MOST_ROWS", "are_sets", "is_rules_of", "is_wide_row", "is_wide_table", "is_sure_key", "is_possible_key", "is_known", "obeys_rules", "require_many", "require_rules", "obeys", "_law_spread", "_law_open", "_law_take", "_law_anew", "_law_one", "_law_set", "_law_key_rules"] : List PySem.Str) ++ (["_law_meet", "_law_alike", "_law_is_sure", "_law_is_open_key", "_law_wide", "_law_obeys"] : List PySem.Str)
abbrev R : PySem.W.OpenRow := PySem.W.OpenLaw.row PySem.Challenge.rw_surekeys_k55_rules_in_tables_of_many_row
abbrev hk : PySem.W.Hook := hookX 2 LL
def ob (s : PySem.W.SharedT) : AlX := obsX 2 LL (HandSHeadRun.getT s)
theorem ob_eq (s : PySem.W.SharedT) : ob s = hk.obs s.abs := obsX_eq (HandSHeadRun.getT_eq s)
theorem run (w : World) : HandSHeadRun.RunEq R (PySem.W.view R.prog [43]) hk ob 12000 lse w := by
  intro os
  kernel_rfl
end K55
/-! MPU: reasoning about meanings: what a run is to reach. -/
namespace MP
open PySem
/-- r ends well with Q, or with an own error that X allows -/
def OkX {α : Type} (r : Res α) (Q : α → Mem → Prop) (X : Xn → Mem → Prop) : Prop := match r with
  | .ok a m => Q a m
  | .exc e m => X e m
  | .no => False
structure En where
  nx : Vr → Mem → Prop := fun _ _ => False
  rt : W → Mem → Prop := fun _ _ => False
  bk : Vr → Mem → Prop := fun _ _ => False
  ct : Vr → Mem → Prop := fun _ _ => False
  ex : Xn → Vr → Mem → Prop := fun _ _ _ => False
def OkS (r : RS) (D : En) : Prop := match r with
  | .nx v m => D.nx v m
  | .rt w m => D.rt w m
  | .bk v m => D.bk v m
  | .ct v m => D.ct v m
  | .exc e v m => D.ex e v m
  | .no => False
section
variable {α β : Type} {Q : α → Mem → Prop} {Q2 : β → Mem → Prop} {X : Xn → Mem → Prop} {D : En} {m : Mem} {v : Vr} {r : Res α} {cf : CallF} {a b c es it ifs elt lo hi i k e : E} {QW : W → Mem → Prop} {QL : List W → Mem → Prop} {QI : Src → Mem → Prop} {QB : Bool → Mem → Prop} {s t : S} {g : Tg} {x : PyData} {w : W}
theorem OkX.imp {Q' : α → Mem → Prop} {X' : Xn → Mem → Prop} (h : OkX r Q X) (h1 : ∀ a m, Q a m → Q' a m) (h2 : ∀ e m, X e m → X' e m) : OkX r Q' X' := by
  cases r with
  | ok a m => exact h1 _ _ h
  | exc e m => exact h2 _ _ h
  | no => exact h
theorem OkX.get (h : OkX r Q fun _ _ => False) : ∃ a m, r = .ok a m ∧ Q a m := by
  cases r with
  | ok a m => exact ⟨a, m, rfl, h⟩
  | exc e m => exact h.elim
  | no => exact h.elim
theorem OkX.of {a : α} (h : r = .ok a m) (q : Q a m) : OkX r Q X := by rw [h]; exact q
theorem asD_d {x : PyData} : asD (.d x) = some x := rfl
theorem x_ok {a : α} : OkX (.ok a m) Q X = Q a m := rfl
theorem x_no : OkX (.no : Res α) Q X = False := rfl
theorem x_bind {f : α → Mem → Res β} : OkX (r.bind f) Q2 X = OkX r (fun a m => OkX (f a m) Q2 X) X := by cases r <;> rfl
theorem x_opt {o : Option α} : OkX (optR o m) Q X = ∃ a, o = some a ∧ Q a m := by
  cases o with
  | none => simp [optR, OkX]
  | some a => simp [optR, OkX]
theorem x_ite {p : Prop} [Decidable p] {r1 r2 : Res α} : OkX (if p then r1 else r2) Q X = ((p → OkX r1 Q X) ∧ (¬ p → OkX r2 Q X)) := by
  by_cases h : p <;> simp [h]
theorem x_guard {p : Prop} [Decidable p] {a : α} : OkX (if p then .ok a m else .no) Q X = (p ∧ Q a m) := by
  by_cases h : p <;> simp [h, OkX]
theorem s_ite {p : Prop} [Decidable p] {r1 r2 : RS} : OkS (if p then r1 else r2) D = ((p → OkS r1 D) ∧ (¬ p → OkS r2 D)) := by
  by_cases h : p <;> simp [h]
theorem s_toS {f : α → Mem → RS} : OkS (r.toS v f) D = OkX r (fun a m => OkS (f a m) D) (fun e m => D.ex e v m) := by cases r <;> rfl
theorem s_org {o : Option RS} : OkS (orNo o) D = ∃ r, o = some r ∧ OkS r D := by
  cases o with
  | none => simp [orNo, OkS]
  | some a => simp [orNo]
theorem s_nx : OkS (.nx v m) D = D.nx v m := rfl
theorem s_rt : OkS (.rt w m) D = D.rt w m := rfl
theorem s_no : OkS .no D = False := rfl
/-! ### expressions -/
theorem e_var {i : Nat} : OkX (den cf (.var i) v m) QW X = ∃ w, v[i]? = some (some w) ∧ QW w m := by
  show OkX (match v[i]? with | some (some w) => Res.ok w m | _ => .no) QW X = _
  cases h : v[i]? with
  | none => simp [OkX]
  | some o => cases o <;> simp [OkX]
theorem e_lit : OkX (den cf (.lit x) v m) QW X = QW (.d x) m := rfl
theorem e_tup : OkX (den cf (.tup es) v m) QW X = OkX (denA cf es v m) (fun l m1 => ∃ xs, l.mapM asD = some xs ∧ xs.length ≤ sizeLine ∧ QW (.d (.tuple xs)) m1) X := by
  show OkX ((denA cf es v m).bind fun l m1 => optR ((l.mapM asD).bind fun xs => if xs.length ≤ sizeLine then some (.d (.tuple xs)) else none) m1) QW X = _
  rw [x_bind]; congr 1; funext l m1; rw [x_opt]
  apply propext
  constructor
  · rintro ⟨w, h1, h2⟩
    obtain ⟨xs, h3, h4⟩ := Option.bind_eq_some_iff.mp h1
    split at h4
    · cases h4; exact ⟨xs, h3, by assumption, h2⟩
    · cases h4
  · rintro ⟨xs, h1, h2, h3⟩
    exact ⟨_, by rw [h1]; show (if xs.length ≤ sizeLine then _ else _) = _; rw [if_pos h2], h3⟩
theorem e_lst : OkX (den cf (.lst es) v m) QW X = OkX (denA cf es v m) (fun l m1 => ∃ xs, l.mapM asD = some xs ∧ xs.length ≤ sizeLine ∧ QW (.d (.list xs)) m1) X := by
  show OkX ((denA cf es v m).bind fun l m1 => optR ((l.mapM asD).bind fun xs => if xs.length ≤ sizeLine then some (.d (.list xs)) else none) m1) QW X = _
  rw [x_bind]; congr 1; funext l m1; rw [x_opt]
  apply propext
  constructor
  · rintro ⟨w, h1, h2⟩
    obtain ⟨xs, h3, h4⟩ := Option.bind_eq_some_iff.mp h1
    split at h4
    · cases h4; exact ⟨xs, h3, by assumption, h2⟩
    · cases h4
  · rintro ⟨xs, h1, h2, h3⟩
    exact ⟨_, by rw [h1]; show (if xs.length ≤ sizeLine then _ else _) = _; rw [if_pos h2], h3⟩
theorem ex_two {α β γ : Type} {o1 : Option α} {o2 : Option β} {f : α → β → Option γ} {P : γ → Prop} : (∃ w, (o1.bind fun p => o2.bind fun q => f p q) = some w ∧ P w) = ∃ p, o1 = some p ∧ ∃ q, o2 = some q ∧ ∃ w, f p q = some w ∧ P w := by
  cases o1 <;> cases o2 <;> simp
theorem ex_one {α γ : Type} {o1 : Option α} {f : α → Option γ} {P : γ → Prop} : (∃ w, (o1.bind f) = some w ∧ P w) = ∃ p, o1 = some p ∧ ∃ w, f p = some w ∧ P w := by
  cases o1 <;> simp
theorem ex_map {α γ : Type} {o1 : Option α} {f : α → γ} {P : γ → Prop} : (∃ w, (o1.map f) = some w ∧ P w) = ∃ p, o1 = some p ∧ P (f p) := by
  cases o1 <;> simp
theorem ex_some {α : Type} {a : α} {P : α → Prop} : (∃ w, some a = some w ∧ P w) = P a := by simp
theorem e_bin {o : Op} : OkX (den cf (.bin o a b) v m) QW X = OkX (den cf a v m) (fun x m1 => OkX (den cf b v m1) (fun y m2 => ∃ p, vw m2 x = some p ∧ ∃ q, vw m2 y = some q ∧ ∃ z, binF o p q = some z ∧ QW (.d z) m2) X) X := by
  show OkX ((den cf a v m).bind fun x m1 => (den cf b v m1).bind fun y m2 => optR ((vw m2 x).bind fun p => (vw m2 y).bind fun q => (binF o p q).map .d) m2) QW X = _
  simp only [x_bind, x_opt, ex_two, ex_map]
theorem e_cmp {o : Cm} : OkX (den cf (.cmp o a b) v m) QW X = OkX (den cf a v m) (fun x m1 => OkX (den cf b v m1) (fun y m2 => ∃ p, vw m2 x = some p ∧ ∃ q, vw m2 y = some q ∧ ∃ t, cmpF o p q = some t ∧ QW (.d (.bool t)) m2) X) X := by
  show OkX ((den cf a v m).bind fun x m1 => (den cf b v m1).bind fun y m2 => optR ((vw m2 x).bind fun p => (vw m2 y).bind fun q => (cmpF o p q).map fun t => .d (.bool t)) m2) QW X = _
  simp only [x_bind, x_opt, ex_two, ex_map]
theorem e_chain {o o2 : Cm} : OkX (den cf (.chain o o2 a b c) v m) QW X = OkX (den cf a v m) (fun x m1 => OkX (den cf b v m1) (fun y m2 => ∃ p, vw m2 x = some p ∧ ∃ q, vw m2 y = some q ∧ ∃ t, cmpF o p q = some t ∧
    ((t = true → OkX (den cf c v m2) (fun z m4 => ∃ p, vw m4 y = some p ∧ ∃ q, vw m4 z = some q ∧ ∃ t, cmpF o2 p q = some t ∧ QW (.d (.bool t)) m4) X) ∧ (¬ t = true → QW (.d (.bool false)) m2))) X) X := by
  show OkX ((den cf a v m).bind fun x m1 => (den cf b v m1).bind fun y m2 => (optR ((vw m2 x).bind fun p => (vw m2 y).bind fun q => cmpF o p q) m2).bind fun t m3 =>
        if t then (den cf c v m3).bind fun z m4 => optR ((vw m4 y).bind fun p => (vw m4 z).bind fun q => (cmpF o2 p q).map fun t => .d (.bool t)) m4 else .ok (.d (.bool false)) m3) QW X = _
  simp only [x_bind, x_opt, ex_two, ex_map, x_ite, x_ok]
theorem e_isc {sg : Sg} {n : Bool} : OkX (den cf (.isc sg n a) v m) QW X = OkX (den cf a v m) (fun x m1 => ∃ p, isW sg x = some p ∧ QW (.d (.bool (if n then !p else p))) m1) X := by
  show OkX ((den cf a v m).bind fun x m1 => optR ((isW sg x).map fun p => .d (.bool (if n then !p else p))) m1) QW X = _
  simp only [x_bind, x_opt, ex_map]
theorem isW_d {sg : Sg} {p : PyData} : isW sg (.d p) = some (isF sg p) := rfl
theorem e_isx {c : String} : OkX (den cf (.isx c a) v m) QW X = OkX (den cf a v m) (fun x m1 => ∃ y, x = .exn y ∧ QW (.d (.bool (isxF c y))) m1) X := by
  show OkX ((den cf a v m).bind fun x m1 => match x with
    | .exn y => .ok (.d (.bool (isxF c y))) m1
    | _ => .no) QW X = _
  rw [x_bind]; congr 1; funext w m1
  cases w <;> simp [OkX]
theorem e_rvt : OkX (den cf (.rvt a) v m) QW X = OkX (den cf a v m) (fun x m1 => ∃ p, asD x = some p ∧ ∃ z, rvF p = some z ∧ QW (.d z) m1) X := by
  show OkX ((den cf a v m).bind fun x m1 => optR ((asD x).bind fun p => (rvF p).map .d) m1) QW X = _
  simp only [x_bind, x_opt, ex_one, ex_map]
theorem e_not : OkX (den cf (.not a) v m) QW X = OkX (den cf a v m) (fun x m1 => ∃ p, vw m1 x = some p ∧ ∃ t, truF p = some t ∧ QW (.d (.bool (!t))) m1) X := by
  show OkX ((den cf a v m).bind fun x m1 => optR ((vw m1 x).bind fun p => (truF p).map fun t => .d (.bool (!t))) m1) QW X = _
  simp only [x_bind, x_opt, ex_one, ex_map]
theorem e_and : OkX (den cf (.and a b) v m) QW X = OkX (den cf a v m) (fun x m1 => ∃ p, vw m1 x = some p ∧ ∃ t, truF p = some t ∧ ((t = true → OkX (den cf b v m1) QW X) ∧ (¬ t = true → QW x m1))) X := by
  show OkX ((den cf a v m).bind fun x m1 => (optR ((vw m1 x).bind truF) m1).bind fun t m2 => if t then den cf b v m2 else .ok x m2) QW X = _
  simp only [x_bind, x_opt, ex_one, x_ite, x_ok]
theorem e_or : OkX (den cf (.or a b) v m) QW X = OkX (den cf a v m) (fun x m1 => ∃ p, vw m1 x = some p ∧ ∃ t, truF p = some t ∧ ((t = true → QW x m1) ∧ (¬ t = true → OkX (den cf b v m1) QW X))) X := by
  show OkX ((den cf a v m).bind fun x m1 => (optR ((vw m1 x).bind truF) m1).bind fun t m2 => if t then .ok x m2 else den cf b v m2) QW X = _
  simp only [x_bind, x_opt, ex_one, x_ite, x_ok]
theorem e_ite : OkX (den cf (.ite c a b) v m) QW X = OkX (den cf c v m) (fun x m1 => ∃ p, vw m1 x = some p ∧ ∃ t, truF p = some t ∧ ((t = true → OkX (den cf a v m1) QW X) ∧ (¬ t = true → OkX (den cf b v m1) QW X))) X := by
  show OkX ((den cf c v m).bind fun x m1 => (optR ((vw m1 x).bind truF) m1).bind fun t m2 => if t then den cf a v m2 else den cf b v m2) QW X = _
  simp only [x_bind, x_opt, ex_one, x_ite]
theorem e_call {f : String} : OkX (den cf (.call f es) v m) QW X = OkX (denA cf es v m) (fun l m1 => OkX (cf f l m1) QW X) X := by
  show OkX ((denA cf es v m).bind fun l m1 => cf f l m1) QW X = _
  rw [x_bind]
theorem e_bi {bb : Bi} : OkX (den cf (.bi bb es) v m) QW X = OkX (denA cf es v m) (fun l m1 => ∃ xs, l.mapM (vw m1) = some xs ∧ ∃ z, biF bb xs = some z ∧ QW (.d z) m1) X := by
  show OkX ((denA cf es v m).bind fun l m1 => optR ((l.mapM (vw m1)).bind fun xs => (biF bb xs).map .d) m1) QW X = _
  simp only [x_bind, x_opt, ex_one, ex_map]
theorem e_me {o : Me} : OkX (den cf (.me o a es) v m) QW X = OkX (den cf a v m) (fun x m1 => ∃ p0, asD x = some p0 ∧ ∃ p, seqM o p0 = some p ∧ OkX (denA cf es v m1) (fun l m2 => ∃ xs, l.mapM (vw m2) = some xs ∧ ∃ z, meF o p xs = some z ∧ QW (.d z) m2) X) X := by
  show OkX ((den cf a v m).bind fun x m1 => (optR ((asD x).bind (seqM o)) m1).bind fun p m2 => (denA cf es v m2).bind fun l m3 => optR ((l.mapM (vw m3)).bind fun xs => (meF o p xs).map .d) m3) QW X = _
  simp only [x_bind, x_opt, ex_one, ex_map]
theorem e_tupR : OkX (den cf (.tupR it) v m) QW X = OkX (denI cf it v m) (fun s m1 => ∃ l, s = .items l ∧ l.length ≤ 10000 ∧ QW (.d (.tuple l)) m1) X := by
  show OkX ((denI cf it v m).bind fun s m1 => optR (match s with
    | .items l => if l.length ≤ 10000 then some (.d (.tuple l)) else none
    | _ => none) m1) QW X = _
  rw [x_bind]; congr 1; funext s m1
  cases s with
  | items l =>
    rw [x_opt]
    show (∃ a, (if l.length ≤ 10000 then some (W.d (.tuple l)) else none) = some a ∧ QW a m1) = _
    by_cases h : l.length ≤ 10000 <;> simp [h]
  | live k l => simp [optR, OkX]
theorem e_sub : OkX (den cf (.sub a i) v m) QW X = OkX (den cf a v m) (fun x m1 => OkX (den cf i v m1) (fun y m2 => ∃ p, vw m2 x = some p ∧ ∃ q, vw m2 y = some q ∧ ∃ z, subF p q = some z ∧ QW (.d z) m2) X) X := by
  show OkX ((den cf a v m).bind fun x m1 => (den cf i v m1).bind fun y m2 => optR ((vw m2 x).bind fun p => (vw m2 y).bind fun q => (subF p q).map .d) m2) QW X = _
  simp only [x_bind, x_opt, ex_two, ex_map]
theorem e_slc : OkX (den cf (.slc a lo hi) v m) QW X = OkX (den cf a v m) (fun x m1 => OkX (denA cf lo v m1) (fun l m2 => ∃ i, partF l.head? = some i ∧ OkX (denA cf hi v m2) (fun l m3 => ∃ j, partF l.head? = some j ∧ ∃ p, vws m3 x = some p ∧ ∃ z, slcF p i j = some z ∧ QW (.d z) m3) X) X) X := by
  show OkX ((den cf a v m).bind fun x m1 => ((denA cf lo v m1).bind fun l m2 => optR (partF l.head?) m2).bind fun i m2 => ((denA cf hi v m2).bind fun l m3 => optR (partF l.head?) m3).bind fun j m3 =>
      optR ((vws m3 x).bind fun p => (slcF p i j).map .d) m3) QW X = _
  simp only [x_bind, x_opt, ex_one, ex_map]
theorem e_frz : OkX (den cf (.frz a) v m) QW X = OkX (den cf a v m) (fun x m1 => OkX (frzF m1 x) QW X) X := by
  show OkX ((den cf a v m).bind fun x m1 => frzF m1 x) QW X = _
  rw [x_bind]
theorem a_nil : OkX (denA cf .nil v m) QL X = QL [] m := rfl
theorem a_cons : OkX (denA cf (.cons e es) v m) QL X = OkX (den cf e v m) (fun x m1 => OkX (denA cf es v m1) (fun l m2 => QL (x :: l) m2) X) X := by
  show OkX ((den cf e v m).bind fun x m1 => (denA cf es v m1).bind fun l m2 => .ok (x :: l) m2) QL X = _
  simp only [x_bind, x_ok]
theorem a_star : OkX (denA cf (.star e es) v m) QL X = OkX (den cf e v m) (fun x m1 => ∃ p, vw m1 x = some p ∧ ∃ k, seqOf p = some k ∧ OkX (denA cf es v m1) (fun l m2 => QL (k.map W.d ++ l) m2) X) X := by
  show OkX ((den cf e v m).bind fun x m1 => (optR ((vw m1 x).bind seqOf) m1).bind fun k m2 => (denA cf es v m2).bind fun l m3 => .ok (k.map W.d ++ l) m3) QL X = _
  simp only [x_bind, x_opt, ex_one, x_ok]
theorem t_nil : OkX (denT cf .nil v m) QB X = QB true m := rfl
theorem t_cons : OkX (denT cf (.cons e es) v m) QB X = OkX (den cf e v m) (fun x m1 => ∃ p, vw m1 x = some p ∧ ∃ t, truF p = some t ∧ ((t = true → OkX (denT cf es v m1) QB X) ∧ (¬ t = true → QB false m1))) X := by
  show OkX ((den cf e v m).bind fun x m1 => (optR ((vw m1 x).bind truF) m1).bind fun t m2 => if t then denT cf es v m2 else .ok false m2) QB X = _
  simp only [x_bind, x_opt, ex_one, x_ite, x_ok]
theorem i_rng1e : OkX (denI cf (.rng1 a) v m) QI X = OkX (den cf a v m) (fun x m1 => ∃ n, x = .d (.int n) ∧ (n < 2 ^ 62 ∧ -(2 ^ 62) ≤ n) ∧ QI (.items (rngD 0 n.toNat)) m1) X := by
  show OkX ((den cf a v m).bind fun x m1 => match x with
    | .d (.int n) => if n < 2 ^ 62 ∧ -(2 ^ 62) ≤ n then .ok (.items (rngD 0 n.toNat)) m1 else .no
    | _ => .no) QI X = _
  rw [x_bind]; congr 1; funext w m1
  cases w with
  | d y =>
    cases y with
    | int n =>
      show OkX (if _ then Res.ok _ m1 else .no) QI X = _
      rw [x_guard]
      apply propext
      constructor
      · intro h; exact ⟨n, rfl, h⟩
      · rintro ⟨n', e, h⟩; cases e; exact h
    | _ => simp [OkX]
  | _ => simp [OkX]
theorem i_rng2e : OkX (denI cf (.rng2 a b) v m) QI X = OkX (den cf a v m) (fun x m1 => OkX (den cf b v m1) (fun y m2 => ∃ i n, x = .d (.int i) ∧ y = .d (.int n) ∧ (n < 2 ^ 62 ∧ -(2 ^ 62) ≤ n ∧ i < 2 ^ 62 ∧ -(2 ^ 62) ≤ i) ∧ QI (.items (rngD i (n - i).toNat)) m2) X) X := by
  show OkX ((den cf a v m).bind fun x m1 => (den cf b v m1).bind fun y m2 => match x, y with
    | .d (.int i), .d (.int n) => if n < 2 ^ 62 ∧ -(2 ^ 62) ≤ n ∧ i < 2 ^ 62 ∧ -(2 ^ 62) ≤ i then .ok (.items (rngD i (n - i).toNat)) m2 else .no
    | _, _ => .no) QI X = _
  simp only [x_bind]; congr 1; funext w m1; congr 1; funext w2 m2
  cases w with
  | d y =>
    cases y with
    | int i =>
      cases w2 with
      | d y2 =>
        cases y2 with
        | int n =>
          show OkX (if _ then Res.ok _ m2 else .no) QI X = _
          rw [x_guard]
          apply propext
          constructor
          · intro h; exact ⟨i, n, rfl, rfl, h⟩
          · rintro ⟨i', n', e, e', h⟩; cases e; cases e'; exact h
        | _ => simp [OkX]
      | _ => simp [OkX]
    | _ => simp [OkX]
  | _ => simp [OkX]
theorem i_enume : OkX (denI cf (.enum a) v m) QI X = OkX (den cf a v m) (fun x m1 => ∃ p, asD x = some p ∧ ∃ l, seqOf p = some l ∧ QI (.items (enumD 0 l)) m1) X := by
  show OkX ((den cf a v m).bind fun x m1 => (optR ((asD x).bind seqOf) m1).bind fun l m2 => .ok (.items (enumD 0 l)) m2) QI X = _
  simp only [x_bind, x_opt, ex_one, x_ok]
theorem i_zipe : OkX (denI cf (.zip a b) v m) QI X = OkX (den cf a v m) (fun x m1 => OkX (den cf b v m1) (fun y m2 => ∃ p, asD x = some p ∧ ∃ q, asD y = some q ∧ ∃ l, pairOf p q = some l ∧ QI (.items (zipD l.1 l.2)) m2) X) X := by
  show OkX ((den cf a v m).bind fun x m1 => (den cf b v m1).bind fun y m2 => (optR ((asD x).bind fun p => (asD y).bind fun q => pairOf p q) m2).bind fun l m3 => .ok (.items (zipD l.1 l.2)) m3) QI X = _
  simp only [x_bind, x_opt, ex_two, x_ok]
theorem i_reve : OkX (denI cf (.rev a) v m) QI X = OkX (den cf a v m) (fun x m1 => ∃ p, asD x = some p ∧ ∃ l, seqOf p = some l ∧ QI (.items l.reverse) m1) X := by
  show OkX ((den cf a v m).bind fun x m1 => (optR ((asD x).bind seqOf) m1).bind fun l m2 => .ok (.items l.reverse) m2) QI X = _
  simp only [x_bind, x_opt, ex_one, x_ok]
theorem i_itve : OkX (denI cf (.itv a) v m) QI X = OkX (den cf a v m) (fun x m1 => ∃ s, srcOf m1 x = some s ∧ QI s m1) X := by
  show OkX ((den cf a v m).bind fun x m1 => optR (srcOf m1 x) m1) QI X = _
  simp only [x_bind, x_opt]
/-! ### statements -/
theorem s_skip : OkS (denS cf .skip v m) D = D.nx v m := rfl
theorem s_seq : OkS (denS cf (.seq s t) v m) D = OkS (denS cf s v m) { D with nx := fun v1 m1 => OkS (denS cf t v1 m1) D } := by
  rw [denS_seq]
  show OkS (match denS cf s v m with | .nx v1 m1 => denS cf t v1 m1 | o => o) D = _
  cases denS cf s v m <;> rfl
theorem s_ex : OkS (denS cf (.ex e) v m) D = OkX (den cf e v m) (fun _ m1 => D.nx v m1) (fun x m => D.ex x v m) := by
  show OkS ((den cf e v m).toS v fun _ m1 => .nx v m1) D = _
  rw [s_toS]; rfl
theorem s_put {i : Nat} : OkS (putV i w v m) D = (i < v.length ∧ D.nx (v.set i (some w)) m) := by
  unfold putV
  by_cases h : i < v.length <;> simp [h, OkS]
theorem s_set {i : Nat} : OkS (denS cf (.set i e) v m) D = OkX (den cf e v m) (fun w m1 => i < v.length ∧ D.nx (v.set i (some w)) m1) (fun x m => D.ex x v m) := by
  show OkS ((den cf e v m).toS v fun w m1 => putV i w v m1) D = _
  simp only [s_toS, s_put]
theorem x_new : OkX (newC true w m) QW X = ∃ l, w = .d (.list l) ∧ QW (.ref m.length) (m ++ [.lst l]) := by
  unfold newC
  rw [if_pos rfl]
  cases w with
  | d y => cases y <;> simp [OkX]
  | _ => simp [OkX]
theorem x_new0 : OkX (newC false w m) QW X = QW w m := rfl
theorem s_new {i : Nat} : OkS (denS cf (.new i e) v m) D = OkX (den cf e v m) (fun w m1 => ∃ l, w = .d (.list l) ∧ i < v.length ∧ D.nx (v.set i (some (.ref m1.length))) (m1 ++ [.lst l])) (fun x m => D.ex x v m) := by
  show OkS ((den cf e v m).toS v fun w m1 => (newC true w m1).toS v fun w2 m2 => putV i w2 v m2) D = _
  simp only [s_toS, s_put, x_new]
theorem s_par {i j : Nat} {p q : Bool} : OkS (denS cf (.par i j p q a b) v m) D = OkX (den cf a v m) (fun x m1 => OkX (newC p x m1) (fun x2 m2 => OkX (den cf b v m2) (fun y m3 => OkX (newC q y m3) (fun y2 m4 =>
      (i ≠ j ∧ i < v.length ∧ j < v.length) ∧ D.nx ((v.set i (some x2)).set j (some y2)) m4) (fun x m => D.ex x v m)) (fun x m => D.ex x v m)) (fun x m => D.ex x v m)) (fun x m => D.ex x v m) := by
  show OkS ((den cf a v m).toS v fun x m1 => (newC p x m1).toS v fun x2 m2 => (den cf b v m2).toS v fun y m3 => (newC q y m3).toS v fun y2 m4 =>
      if i ≠ j ∧ i < v.length ∧ j < v.length then .nx ((v.set i (some x2)).set j (some y2)) m4 else .no) D = _
  simp only [s_toS, s_ite, s_nx, s_no]
  congr 1; funext x m1; congr 1; funext x2 m2; congr 1; funext y m3; congr 1; funext y2 m4
  by_cases h : i ≠ j ∧ i < v.length ∧ j < v.length <;> simp [h]
theorem pp_and {P A : Prop} : ((P → A) ∧ (¬ P → False)) = (P ∧ A) := by by_cases h : P <;> simp [h]
theorem s_par3 {i j k : Nat} {p q r' : Bool} : OkS (denS cf (.par3 i j k p q r' a b c) v m) D = OkX (den cf a v m) (fun x m1 => OkX (newC p x m1) (fun x2 m2 => OkX (den cf b v m2) (fun y m3 => OkX (newC q y m3) (fun y2 m4 => OkX (den cf c v m4) (fun z m5 => OkX (newC r' z m5) (fun z2 m6 =>
      (i ≠ j ∧ i ≠ k ∧ j ≠ k ∧ i < v.length ∧ j < v.length ∧ k < v.length) ∧ D.nx (((v.set i (some x2)).set j (some y2)).set k (some z2)) m6) (fun x m => D.ex x v m)) (fun x m => D.ex x v m)) (fun x m => D.ex x v m)) (fun x m => D.ex x v m)) (fun x m => D.ex x v m)) (fun x m => D.ex x v m) := by
  show OkS ((den cf a v m).toS v fun x m1 => (newC p x m1).toS v fun x2 m2 => (den cf b v m2).toS v fun y m3 => (newC q y m3).toS v fun y2 m4 => (den cf c v m4).toS v fun z m5 => (newC r' z m5).toS v fun z2 m6 =>
      if i ≠ j ∧ i ≠ k ∧ j ≠ k ∧ i < v.length ∧ j < v.length ∧ k < v.length then .nx (((v.set i (some x2)).set j (some y2)).set k (some z2)) m6 else .no) D = _
  simp only [s_toS, s_ite, s_nx, s_no]
  congr 1; funext x m1; congr 1; funext x2 m2; congr 1; funext y m3; congr 1; funext y2 m4; congr 1; funext z m5; congr 1; funext z2 m6
  exact pp_and
theorem s_tgt : OkS (denS cf (.tgt g e) v m) D = OkX (den cf e v m) (fun w m1 => ∃ x, asD w = some x ∧ ∃ v1, setV g x v = some v1 ∧ D.nx v1 m1) (fun x m => D.ex x v m) := by
  show OkS ((den cf e v m).toS v fun w m1 => orNo ((asD w).bind fun x => (setV g x v).map fun v1 => .nx v1 m1)) D = _
  simp only [s_toS, s_org, ex_one, ex_map, s_nx]
theorem s_if : OkS (denS cf (.ite c s t) v m) D = OkX (den cf c v m) (fun x m1 => ∃ p, vw m1 x = some p ∧ ∃ b, truF p = some b ∧ ((b = true → OkS (denS cf s v m1) D) ∧ (¬ b = true → OkS (denS cf t v m1) D))) (fun x m => D.ex x v m) := by
  show OkS ((den cf c v m).toS v fun x m1 => orNo ((vw m1 x).bind fun p => (truF p).map fun b => if b then denS cf s v m1 else denS cf t v m1)) D = _
  simp only [s_toS, s_org, ex_one, ex_map, s_ite]
theorem s_ret : OkS (denS cf (.ret e) v m) D = OkX (den cf e v m) D.rt (fun x m => D.ex x v m) := by
  show OkS ((den cf e v m).toS v fun w m1 => .rt w m1) D = _
  simp only [s_toS, s_rt]
theorem s_retn : OkS (denS cf (.retn e) v m) D = OkX (den cf e v m) (fun w m1 => ∃ l, w = .d (.list l) ∧ D.rt (.ref m1.length) (m1 ++ [.lst l])) (fun x m => D.ex x v m) := by
  show OkS ((den cf e v m).toS v fun w m1 => (newC true w m1).toS v fun w2 m2 => .rt w2 m2) D = _
  simp only [s_toS, s_rt, x_new]
theorem s_sret : OkS (denS cf (.seq (.ret e) t) v m) D = OkX (den cf e v m) D.rt (fun x m => D.ex x v m) := by rw [s_seq, s_ret]
theorem s_sretn : OkS (denS cf (.seq (.retn e) t) v m) D = OkX (den cf e v m) (fun w m1 => ∃ l, w = .d (.list l) ∧ D.rt (.ref m1.length) (m1 ++ [.lst l])) (fun x m => D.ex x v m) := by rw [s_seq, s_retn]
theorem s_sraise {c : String} : OkS (denS cf (.seq (.raise c) t) v m) D = D.ex ⟨c, none⟩ v m := by rw [s_seq]; rfl
theorem s_sbrk : OkS (denS cf (.seq .brk t) v m) D = D.bk v m := by rw [s_seq]; rfl
theorem s_scnt : OkS (denS cf (.seq .cnt t) v m) D = D.ct v m := by rw [s_seq]; rfl
theorem s_for : OkS (denS cf (.for_ g it s) v m) D = OkX (denI cf it v m) (fun src m1 => OkS (forL src.stands (fun x v1 m2 => orNo ((setV g x v1).map fun v2 => denS cf s v2 m2)) src.list v m1) D) (fun x m => D.ex x v m) := by
  show OkS ((denI cf it v m).toS v fun src m1 => forL src.stands (fun x v1 m2 => orNo ((setV g x v1).map fun v2 => denS cf s v2 m2)) src.list v m1) D = _
  rw [s_toS]
theorem s_brk : OkS (denS cf .brk v m) D = D.bk v m := rfl
theorem s_cnt : OkS (denS cf .cnt v m) D = D.ct v m := rfl
theorem s_raise {c : String} : OkS (denS cf (.raise c) v m) D = D.ex ⟨c, none⟩ v m := rfl
theorem s_app {i : Nat} : OkS (denS cf (.app i e) v m) D = ∃ n, atV v i = some n ∧ ∃ l0, lstAt m n = some l0 ∧ OkX (den cf e v m) (fun w m1 => ∃ y, asD w = some y ∧ ∃ l, lstAt m1 n = some l ∧ l.length < sizeLine ∧ D.nx v (m1.set n (.lst (l ++ [y])))) (fun x m => D.ex x v m) := by
  show OkS (orNo ((atV v i).bind fun n => (lstAt m n).map fun _ => (den cf e v m).toS v fun w m1 => orNo ((asD w).bind fun y => (lstAt m1 n).bind fun l => if l.length < sizeLine then some (.nx v (m1.set n (.lst (l ++ [y])))) else none))) D = _
  simp only [s_org, ex_one, ex_map, s_toS]
  congr 1; funext n; congr 1; congr 1; funext l0; congr 1; congr 1; funext w m1; congr 1; funext y; congr 1; congr 1; funext l
  by_cases h : l.length < sizeLine <;> simp [h, OkS]
theorem s_ext {i : Nat} : OkS (denS cf (.ext i e) v m) D = ∃ n, atV v i = some n ∧ ∃ l0, lstAt m n = some l0 ∧ OkX (den cf e v m) (fun w m1 => ∃ y, asD w = some y ∧ ∃ k, lstOf y = some k ∧ ∃ l, lstAt m1 n = some l ∧ l.length + k.length ≤ sizeLine ∧ D.nx v (m1.set n (.lst (l ++ k)))) (fun x m => D.ex x v m) := by
  show OkS (orNo ((atV v i).bind fun n => (lstAt m n).map fun _ => (den cf e v m).toS v fun w m1 => orNo (((asD w).bind lstOf).bind fun k => (lstAt m1 n).bind fun l => if l.length + k.length ≤ sizeLine then some (.nx v (m1.set n (.lst (l ++ k)))) else none))) D = _
  simp only [s_org, ex_one, ex_map, s_toS]
  congr 1; funext n; congr 1; congr 1; funext l0; congr 1; congr 1; funext w m1; congr 1; funext y; congr 1; congr 1; funext k; congr 1; congr 1; funext l
  by_cases h : l.length + k.length ≤ sizeLine <;> simp [h, OkS]
theorem s_rvs {i : Nat} : OkS (denS cf (.rvs i) v m) D = ∃ n, atV v i = some n ∧ ∃ l, lstAt m n = some l ∧ l.length ≤ sizeLine ∧ D.nx v (m.set n (.lst l.reverse)) := by
  show OkS (orNo ((atV v i).bind fun n => (lstAt m n).bind fun l => if l.length ≤ sizeLine then some (.nx v (m.set n (.lst l.reverse))) else none)) D = _
  simp only [s_org, ex_one]
  congr 1; funext n; congr 1; congr 1; funext l
  by_cases h : l.length ≤ sizeLine <;> simp [h, OkS]
theorem s_six {i : Nat} : OkS (denS cf (.six i k e) v m) D = OkX (den cf e v m) (fun w m1 => ∃ n, atV v i = some n ∧ OkX (den cf k v m1) (fun z m2 => ∃ y, asD w = some y ∧ ∃ l, lstAt m2 n = some l ∧ ∃ j, z = .d (.int j) ∧ ∃ q, placeIx l.length j = some q ∧ D.nx v (m2.set n (.lst (l.set q y)))) (fun x m => D.ex x v m)) (fun x m => D.ex x v m) := by
  show OkS ((den cf e v m).toS v fun w m1 => orNo ((atV v i).map fun n => (den cf k v m1).toS v fun z m2 => orNo ((asD w).bind fun y => (lstAt m2 n).bind fun l => match z with
      | .d (.int j) => (placeIx l.length j).map fun q => .nx v (m2.set n (.lst (l.set q y)))
      | _ => none))) D = _
  simp only [s_org, ex_one, ex_map, s_toS]
  congr 1; funext w m1; congr 1; funext n; congr 1; congr 1; funext z m2; congr 1; funext yy; congr 1; congr 1; funext l; congr 1
  cases z with
  | d y =>
    cases y with
    | int j =>
      show (∃ r, ((placeIx l.length j).map fun q => RS.nx v (m2.set n (.lst (l.set q yy)))) = some r ∧ OkS r D) = _
      rw [ex_map]
      apply propext
      constructor
      · rintro ⟨q, h1, h2⟩; exact ⟨j, rfl, q, h1, h2⟩
      · rintro ⟨j', e, q, h1, h2⟩; cases e; exact ⟨q, h1, h2⟩
    | _ => simp
  | _ => simp
theorem s_try : OkS (denS cf (.tryx s t) v m) D = OkS (denS cf s v m) { D with ex := fun x v1 m1 => OkS (denH cf t x v1 m1) D } := by
  show OkS (match denS cf s v m with | .exc x v1 m1 => denH cf t x v1 m1 | o => o) D = _
  cases denS cf s v m <;> rfl
theorem s_tryas {i j : Nat} : OkS (denS cf (.tryas s i j) v m) D = OkS (denS cf s v m) { D with ex := fun x v1 m1 => (i ≠ j ∧ i < v1.length ∧ j < v1.length) ∧ D.nx ((v1.set j (some (.exn x.c))).set i none) m1 } := by
  show OkS (match denS cf s v m with
    | .exc x v1 m1 => if i ≠ j ∧ i < v1.length ∧ j < v1.length then .nx ((v1.set j (some (.exn x.c))).set i none) m1 else .no
    | o => o) D = _
  cases denS cf s v m with
  | exc x v1 m1 =>
    show OkS (if i ≠ j ∧ i < v1.length ∧ j < v1.length then RS.nx ((v1.set j (some (.exn x.c))).set i none) m1 else .no) D = _
    by_cases h : i ≠ j ∧ i < v1.length ∧ j < v1.length
    · rw [if_pos h]
      exact propext ⟨fun k => ⟨h, k⟩, fun k => k.2⟩
    · rw [if_neg h]
      exact propext ⟨fun k => k.elim, fun k => (h k.1).elim⟩
  | _ => rfl
theorem h_hnd {n : String} {x : Xn} : OkS (denH cf (.hnd n s t) x v m) D = ((takesX n x = true → OkS (denS cf s v m) { D with ex := fun _ _ _ => False }) ∧ (¬ takesX n x = true → OkS (denH cf t x v m) D)) := by
  show OkS (if takesX n x then noXS (denS cf s v m) else denH cf t x v m) D = _
  rw [s_ite]
  congr 1
  apply propext
  constructor
  · intro h q
    have h := h q
    cases e : denS cf s v m <;> rw [e] at h <;> exact h
  · intro h q
    have h := h q
    cases e : denS cf s v m <;> rw [e] at h <;> exact h
theorem h_end {x : Xn} : OkS (denH cf .skip x v m) D = D.ex x v m := rfl
/-! ### calls -/
open Classical in
theorem x_kcut {m0 m : Mem} {a : α} : OkX (if keepsR m0 m then .ok a (m.take m0.length) else .no) Q X = cutR m0 m (Q a) := by
  unfold cutR
  by_cases h : keepsR m0 m <;> simp [h, OkX]
open Classical in
theorem x_kcutX {m0 m : Mem} {x : Xn} : OkX (if keepsR m0 m then (.exc x (m.take m0.length) : Res α) else .no) Q X = cutR m0 m (X x) := by
  unfold cutR
  by_cases h : keepsR m0 m <;> simp [h, OkX]
def enF (kp : Bool) (m0 : Mem) (Q : W → Mem → Prop) (X : Xn → Mem → Prop) : En where
  nx := fun v m => if kp then Q (.d .none) m else cutR m0 m (Q (.d .none))
  rt := fun w m => OkX (finF kp m0 (.rt w m)) Q X
  ex := fun x v m => cutR m0 m (X x)
open Classical in
theorem call_of {T : Tab} {f : String} {fn : Fn} {n : Nat} {l : List W} (h : T.lookup f = some fn) (ha : l.length = fn.ar ∧ fn.ar ≤ fn.nv) : OkX (callN T (n + 1) f l m) QW X = OkS (denS (callN T n) fn.body (l.map some ++ List.replicate (fn.nv - fn.ar) none) m) (enF fn.keep m QW X) := by
  rw [t2, h]
  show OkX (if l.length = fn.ar ∧ fn.ar ≤ fn.nv then _ else _) QW X = _
  rw [if_pos ha]
  cases e : denS (callN T n) fn.body (l.map some ++ List.replicate (fn.nv - fn.ar) none) m with
  | nx v m1 =>
    show OkX (if fn.keep then .ok (.d .none) m1 else if keepsR m m1 then .ok (.d .none) (m1.take m.length) else .no) QW X = if fn.keep then QW (.d .none) m1 else cutR m m1 (QW (.d .none))
    cases fn.keep with
    | true => rfl
    | false => exact x_kcut
  | rt w m1 => rfl
  | bk v m1 => rfl
  | ct v m1 => rfl
  | exc x v m1 => exact x_kcutX
  | no => rfl
open Classical in
theorem r_d {m0 : Mem} : OkX (finF false m0 (.rt (.d x) m)) QW X = cutR m0 m (QW (.d x)) := by
  show OkX (if keepsR m0 m then .ok (.d x) (m.take m0.length) else .no) QW X = _
  exact x_kcut
open Classical in
theorem r_ref {m0 : Mem} {k : Nat} : OkX (finF false m0 (.rt (.ref k) m)) QW X = cutR m0 m fun M => (k < m0.length → QW (.ref k) M) ∧ (¬ k < m0.length → ∃ l, m[k]? = some (.lst l) ∧ QW (.d (.list l)) M) := by
  show OkX (if keepsR m0 m then (if k < m0.length then Res.ok (.ref k) (m.take m0.length) else match m[k]? with | some (.lst l) => .ok (.d (.list l)) (m.take m0.length) | _ => .no) else .no) QW X = _
  unfold cutR
  by_cases h : keepsR m0 m
  · rw [if_pos h, x_ite]
    simp only [h, true_and]
    congr 1
    cases m[k]? with
    | none => simp [OkX]
    | some c => cases c <;> simp [OkX]
  · rw [if_neg h]; simp [h, OkX]
/-! ### changing lists of changing lists -/
theorem e_subr {i : E} : OkX (den cf (.subr a i) v m) QW X = OkX (den cf a v m) (fun x m1 => OkX (den cf i v m1) (fun y m2 => ∃ n, refOf x = some n ∧ ∃ ns, rfsAt m2 n = some ns ∧ ∃ j, intOf y = some j ∧ ∃ k, ixF ns j = some k ∧ QW (.ref k) m2) X) X := by
  show OkX ((den cf a v m).bind fun x m1 => (den cf i v m1).bind fun y m2 => optR ((refOf x).bind fun n => (rfsAt m2 n).bind fun ns => (intOf y).bind fun j => (ixF ns j).map .ref) m2) QW X = _
  simp only [x_bind, x_opt, ex_one, ex_map]
theorem s_st2 : OkS (denS cf (.st2 a k e) v m) D = OkX (den cf e v m) (fun w m1 => OkX (den cf a v m1) (fun x m2 => OkX (den cf k v m2) (fun z m3 => ∃ y, asD w = some y ∧ ∃ n, refOf x = some n ∧ ∃ l, lstAt m3 n = some l ∧ ∃ j, intOf z = some j ∧ ∃ q, placeIx l.length j = some q ∧ D.nx v (m3.set n (.lst (l.set q y)))) (fun x m => D.ex x v m)) (fun x m => D.ex x v m)) (fun x m => D.ex x v m) := by
  show OkS ((den cf e v m).toS v fun w m1 => (den cf a v m1).toS v fun x m2 => (den cf k v m2).toS v fun z m3 => orNo ((asD w).bind fun y => (refOf x).bind fun n => (lstAt m3 n).bind fun l => (intOf z).bind fun j => (placeIx l.length j).map fun q => .nx v (m3.set n (.lst (l.set q y))))) D = _
  simp only [s_toS, s_org, ex_one, ex_map, s_nx]
theorem s_stl : OkS (denS cf (.stl a k e) v m) D = OkX (den cf e v m) (fun w m0 => ∃ l0, w = .d (.list l0) ∧ OkX (den cf a v (m0 ++ [.lst l0])) (fun x m2 => OkX (den cf k v m2) (fun z m3 => ∃ n, refOf x = some n ∧ ∃ l, rfsAt m3 n = some l ∧ ∃ j, intOf z = some j ∧ ∃ q, placeIx l.length j = some q ∧ D.nx v (m3.set n (.rfs (l.set q m0.length)))) (fun x m => D.ex x v m)) (fun x m => D.ex x v m)) (fun x m => D.ex x v m) := by
  show OkS ((den cf e v m).toS v fun w0 m0 => (newC true w0 m0).toS v fun w m1 => (den cf a v m1).toS v fun x m2 => (den cf k v m2).toS v fun z m3 => orNo ((refOf w).bind fun r => (refOf x).bind fun n => (rfsAt m3 n).bind fun l => (intOf z).bind fun j => (placeIx l.length j).map fun q => .nx v (m3.set n (.rfs (l.set q r))))) D = _
  simp only [s_toS, s_org, ex_one, ex_map, s_nx, x_new]
  simp only [refOf, ex_some]
theorem s_nrw {i : Nat} {g : Tg} {it ifs elt : E} {vs : List Nat} : OkS (denS cf (.nrw i g it ifs elt vs) v m) D = OkX (denI cf it v m) (fun s m1 => s.list.length ≤ sizeLine ∧ OkX (compR s.stands (fun x m2 => noX (match setV g x (wipeV v vs) with
      | some v1 => (denT cf ifs v1 m2).bind fun t m3 => if t then (den cf elt v1 m3).bind fun y m4 => (newC true y m4).bind fun z m5 => optR ((refOf z).map some) m5 else .ok none m3
      | none => .no)) s.list m1) (fun ns m6 => i < v.length ∧ D.nx (v.set i (some (.ref m6.length))) (m6 ++ [.rfs ns])) (fun x m => D.ex x v m)) (fun x m => D.ex x v m) := by
  show OkS ((denI cf it v m).toS v fun s m1 => if sizeLine < s.list.length then .no else (compR s.stands (fun x m2 => noX (match setV g x (wipeV v vs) with
      | some v1 => (denT cf ifs v1 m2).bind fun t m3 => if t then (den cf elt v1 m3).bind fun y m4 => (newC true y m4).bind fun z m5 => optR ((refOf z).map some) m5 else .ok none m3
      | none => .no)) s.list m1).toS v fun ns m6 => putV i (.ref m6.length) v (m6 ++ [.rfs ns])) D = _
  rw [s_toS]
  congr 1; funext s m1
  by_cases h : sizeLine < s.list.length
  · rw [if_pos h]
    have : ¬ s.list.length ≤ sizeLine := by omega
    simp [this, OkS]
  · rw [if_neg h, s_toS]
    have : s.list.length ≤ sizeLine := by omega
    simp only [this, true_and, s_put]
theorem rfsAt_of {n : Nat} {l : List Nat} (h : m[n]? = some (.rfs l)) : rfsAt m n = some l := by unfold rfsAt; rw [h]
end
end MP
/-! MPV: loops, small facts about data, for laws. -/
namespace MP
open PySem
section
variable {cf : CallF} {v : Vr} {m : Mem} {Q : W → Mem → Prop} {X : Xn → Mem → Prop} {D : En} {g : Tg} {it ifs elt : E} {vs : List Nat} {s : S}
theorem x_noX {α : Type} {r : Res α} {Q : α → Mem → Prop} {X : Xn → Mem → Prop} : OkX (noX r) Q X = OkX r Q fun _ _ => False := by cases r <;> rfl
theorem e_comp : OkX (den cf (.comp g it ifs elt vs) v m) Q X = OkX (denI cf it v m) (fun s m1 => s.list.length ≤ sizeLine ∧ OkX (compL s.stands (fun x m2 => noX (match setV g x (wipeV v vs) with
      | some v1 => (denT cf ifs v1 m2).bind fun t m3 => if t then (den cf elt v1 m3).bind fun y m4 => optR ((asD y).map some) m4 else .ok none m3
      | none => .no)) s.list m1) (fun ys m5 => Q (.d (.list ys)) m5) X) X := by
  show OkX ((denI cf it v m).bind fun s m1 => if sizeLine < s.list.length then .no else (compL s.stands (fun x m2 => noX (match setV g x (wipeV v vs) with
      | some v1 => (denT cf ifs v1 m2).bind fun t m3 => if t then (den cf elt v1 m3).bind fun y m4 => optR ((asD y).map some) m4 else .ok none m3
      | none => .no)) s.list m1).bind fun ys m5 => .ok (.d (.list ys)) m5) Q X = _
  rw [x_bind]; congr 1; funext s m1
  rw [x_ite, x_bind]
  apply propext
  constructor
  · rintro ⟨h1, h2⟩
    by_cases h : sizeLine < s.list.length
    · exact (h1 h).elim
    · exact ⟨by omega, h2 h⟩
  · rintro ⟨h1, h2⟩
    exact ⟨fun h => by omega, fun _ => h2⟩
theorem f_comp {x : PyData} {QO : Option PyData → Mem → Prop} {m2 : Mem} : OkX (noX (match setV g x (wipeV v vs) with
      | some v1 => (denT cf ifs v1 m2).bind fun t m3 => if t then (den cf elt v1 m3).bind fun y m4 => optR ((asD y).map some) m4 else .ok none m3
      | none => .no)) QO X = ∃ v1, setV g x (wipeV v vs) = some v1 ∧ OkX (denT cf ifs v1 m2) (fun t m3 => (t = true → OkX (den cf elt v1 m3) (fun y m4 => ∃ d, asD y = some d ∧ QO (some d) m4) fun _ _ => False) ∧ (¬ t = true → QO none m3)) fun _ _ => False := by
  rw [x_noX]
  cases setV g x (wipeV v vs) with
  | none => simp [x_no]
  | some v1 => simp only [x_bind, x_ite, x_ok, x_opt, ex_map, ex_some]
theorem e_comp2 {g1 : Tg} {it1 ifs1 : E} {vs1 : List Nat} : OkX (den cf (.comp2 g it ifs g1 it1 ifs1 elt vs vs1) v m) Q X = OkX (denI cf it v m) (fun s m1 => s.list.length ≤ 10000 ∧ OkX (compLL s.stands (fun x m2 => noX (match setV g x (wipeV v vs) with
      | some v1 => (denT cf ifs v1 m2).bind fun t m3 => if t then (denI cf it1 v1 m3).bind fun s1 m4 => if 1000 < s1.list.length then .no else compL s1.stands (fun x m5 => noX (match setV g1 x (wipeV v1 vs1) with
        | some v2 => (denT cf ifs1 v2 m5).bind fun t m6 => if t then (den cf elt v2 m6).bind fun y m7 => optR ((asD y).map some) m7 else .ok none m6
        | none => .no)) s1.list m4 else .ok [] m3
      | none => .no)) s.list m1) (fun ys m5 => Q (.d (.list ys)) m5) X) X := by
  show OkX ((denI cf it v m).bind fun s m1 => if 10000 < s.list.length then .no else (compLL s.stands (fun x m2 => noX (match setV g x (wipeV v vs) with
      | some v1 => (denT cf ifs v1 m2).bind fun t m3 => if t then (denI cf it1 v1 m3).bind fun s1 m4 => if 1000 < s1.list.length then .no else compL s1.stands (fun x m5 => noX (match setV g1 x (wipeV v1 vs1) with
        | some v2 => (denT cf ifs1 v2 m5).bind fun t m6 => if t then (den cf elt v2 m6).bind fun y m7 => optR ((asD y).map some) m7 else .ok none m6
        | none => .no)) s1.list m4 else .ok [] m3
      | none => .no)) s.list m1).bind fun ys m5 => .ok (.d (.list ys)) m5) Q X = _
  rw [x_bind]; congr 1; funext s m1
  rw [x_ite, x_bind]
  apply propext
  constructor
  · rintro ⟨h1, h2⟩
    by_cases h : 10000 < s.list.length
    · exact (h1 h).elim
    · exact ⟨by omega, h2 h⟩
  · rintro ⟨h1, h2⟩
    exact ⟨fun h => by omega, fun _ => h2⟩
theorem x_cut {α : Type} {r : Res α} {n k : Nat} {Q : α → Mem → Prop} : OkX (if k < n then Res.no else r) Q X = (n ≤ k ∧ OkX r Q X) := by
  by_cases h : k < n
  · rw [if_pos h]
    have : ¬ n ≤ k := by omega
    simp [OkX, this]
  · rw [if_neg h]
    have : n ≤ k := by omega
    simp [this]
theorem f_comp2 {g1 : Tg} {it1 ifs1 : E} {vs1 : List Nat} {x : PyData} {QO : List PyData → Mem → Prop} {m2 : Mem} : OkX (noX (match setV g x (wipeV v vs) with
      | some v1 => (denT cf ifs v1 m2).bind fun t m3 => if t then (denI cf it1 v1 m3).bind fun s1 m4 => if 1000 < s1.list.length then .no else compL s1.stands (fun x m5 => noX (match setV g1 x (wipeV v1 vs1) with
        | some v2 => (denT cf ifs1 v2 m5).bind fun t m6 => if t then (den cf elt v2 m6).bind fun y m7 => optR ((asD y).map some) m7 else .ok none m6
        | none => .no)) s1.list m4 else .ok [] m3
      | none => .no)) QO X = ∃ v1, setV g x (wipeV v vs) = some v1 ∧ OkX (denT cf ifs v1 m2) (fun t m3 => (t = true → OkX (denI cf it1 v1 m3) (fun s1 m4 => s1.list.length ≤ 1000 ∧ OkX (compL s1.stands (fun x m5 => noX (match setV g1 x (wipeV v1 vs1) with
        | some v2 => (denT cf ifs1 v2 m5).bind fun t m6 => if t then (den cf elt v2 m6).bind fun y m7 => optR ((asD y).map some) m7 else .ok none m6
        | none => .no)) s1.list m4) QO fun _ _ => False) fun _ _ => False) ∧ (¬ t = true → QO [] m3)) fun _ _ => False := by
  rw [x_noX]
  cases setV g x (wipeV v vs) with
  | none => simp [x_no]
  | some v1 =>
    simp only [x_bind, x_ite (p := _ = true), x_ok, ex_some, x_cut]
theorem compR_ok {st : Mem → Prop} {f : PyData → Mem → Res (Option Nat)} {QL : List Nat → Mem → Prop} (I : Nat → List Nat → Mem → Prop) : ∀ (l : List PyData) (m : Mem), I 0 [] m →
    (∀ i x ys m, l[i]? = some x → I i ys m → st m ∧ OkX (f x m) (fun y m1 => I (i + 1) (match y with | some z => ys ++ [z] | none => ys) m1) fun _ _ => False) → (∀ ys m, I l.length ys m → st m ∧ QL ys m) → OkX (compR st f l m) QL X := by
  intro l m h0 hs he
  suffices H : ∀ (r : List PyData) (i : Nat) (ys : List Nat) (m : Mem), l.drop i = r → i + r.length = l.length → I i ys m → OkX (compR st f r m) (fun zs m => QL (ys ++ zs) m) X by
    exact H l 0 [] m rfl (by simp) h0
  intro r
  induction r with
  | nil =>
    intro i ys m hd hl hi
    have e : i = l.length := by simpa using hl
    subst e
    obtain ⟨h1, h2⟩ := he ys m hi
    unfold compR
    rw [if_pos h1]
    show QL (ys ++ []) m
    rw [List.append_nil]; exact h2
  | cons x r ih =>
    intro i ys m hd hl hi
    have hx : l[i]? = some x := by
      have := congrArg List.head? hd
      simpa [List.head?_drop] using this
    obtain ⟨h1, h2⟩ := hs i x ys m hx hi
    unfold compR
    rw [if_pos h1, x_bind]
    have hd' : l.drop (i + 1) = r := by
      have := congrArg List.tail hd
      simpa [List.tail_drop] using this
    refine OkX.imp h2 (fun y m1 hy => ?_) fun _ _ z => z.elim
    rw [x_bind]
    have q := ih (i + 1) _ m1 hd' (by simp at hl; omega) hy
    refine OkX.imp q (fun zs m2 hz => ?_) fun _ _ z => z
    show QL (ys ++ _) m2
    cases y with
    | none => exact hz
    | some z =>
      rw [List.append_assoc] at hz
      exact hz
theorem comp_ok {st : Mem → Prop} {f : PyData → Mem → Res (Option PyData)} {QL : List PyData → Mem → Prop} (I : Nat → List PyData → Mem → Prop) : ∀ (l : List PyData) (m : Mem), I 0 [] m →
    (∀ i x ys m, l[i]? = some x → I i ys m → st m ∧ OkX (f x m) (fun y m1 => I (i + 1) (match y with | some z => ys ++ [z] | none => ys) m1) fun _ _ => False) → (∀ ys m, I l.length ys m → st m ∧ QL ys m) → OkX (compL st f l m) QL X := by
  intro l m h0 hs he
  suffices H : ∀ (r : List PyData) (i : Nat) (ys : List PyData) (m : Mem), l.drop i = r → i + r.length = l.length → I i ys m → OkX (compL st f r m) (fun zs m => QL (ys ++ zs) m) X by
    exact H l 0 [] m rfl (by simp) h0
  intro r
  induction r with
  | nil =>
    intro i ys m hd hl hi
    have e : i = l.length := by simpa using hl
    subst e
    obtain ⟨h1, h2⟩ := he ys m hi
    unfold compL
    rw [if_pos h1]
    show QL (ys ++ []) m
    rw [List.append_nil]; exact h2
  | cons x r ih =>
    intro i ys m hd hl hi
    have hx : l[i]? = some x := by
      have := congrArg List.head? hd
      simpa [List.head?_drop] using this
    obtain ⟨h1, h2⟩ := hs i x ys m hx hi
    unfold compL
    rw [if_pos h1, x_bind]
    have hd' : l.drop (i + 1) = r := by
      have := congrArg List.tail hd
      simpa [List.tail_drop] using this
    refine h2.imp (fun y m1 hy => ?_) fun _ _ z => z.elim
    rw [x_bind]
    have q := ih (i + 1) _ m1 hd' (by simp at hl; omega) hy
    refine q.imp (fun zs m2 hz => ?_) fun _ _ z => z
    show QL (ys ++ _) m2
    cases y with
    | none => exact hz
    | some z =>
      rw [List.append_assoc] at hz
      exact hz
theorem for_ok {st : Mem → Prop} {f : PyData → Vr → Mem → RS} (I : Nat → Vr → Mem → Prop) : ∀ (l : List PyData) (v : Vr) (m : Mem), I 0 v m →
    (∀ i x v m, l[i]? = some x → I i v m → st m ∧ OkS (f x v m) { D with nx := I (i + 1), ct := I (i + 1), bk := D.nx }) → (∀ v m, I l.length v m → st m ∧ D.nx v m) → OkS (forL st f l v m) D := by
  intro l v m h0 hs he
  suffices H : ∀ (r : List PyData) (i : Nat) (v : Vr) (m : Mem), l.drop i = r → i + r.length = l.length → I i v m → OkS (forL st f r v m) D by
    exact H l 0 v m rfl (by simp) h0
  intro r
  induction r with
  | nil =>
    intro i v m hd hl hi
    have e : i = l.length := by simpa using hl
    subst e
    obtain ⟨h1, h2⟩ := he v m hi
    unfold forL
    rw [if_pos h1]
    exact h2
  | cons x r ih =>
    intro i v m hd hl hi
    have hx : l[i]? = some x := by
      have := congrArg List.head? hd
      simpa [List.head?_drop] using this
    obtain ⟨h1, h2⟩ := hs i x v m hx hi
    have hd' : l.drop (i + 1) = r := by
      have := congrArg List.tail hd
      simpa [List.tail_drop] using this
    have hl' : i + 1 + r.length = l.length := by simp at hl; omega
    unfold forL
    rw [if_pos h1]
    cases q : f x v m with
    | nx v1 m1 => rw [q] at h2; exact ih (i + 1) v1 m1 hd' hl' h2
    | ct v1 m1 => rw [q] at h2; exact ih (i + 1) v1 m1 hd' hl' h2
    | bk v1 m1 => rw [q] at h2; exact h2
    | rt w m1 => rw [q] at h2; exact h2
    | exc e v1 m1 => rw [q] at h2; exact h2
    | no => rw [q] at h2; exact h2
theorem f_for {x : PyData} {v1 : Vr} {m2 : Mem} : OkS (orNo ((setV g x v1).map fun v2 => denS cf s v2 m2)) D = ∃ v2, setV g x v1 = some v2 ∧ OkS (denS cf s v2 m2) D := by
  rw [s_org, ex_map]
end
theorem seq_st {cf : CallF} {v : Vr} {m : Mem} {D : En} {s t : S} (h : ∀ N : Vr → Mem → Prop, (∀ v1 m1, OkS (denS cf t v1 m1) D → N v1 m1) → OkS (denS cf s v m) { D with nx := N }) : OkS (denS cf (.seq s t) v m) D := by
  rw [s_seq]
  exact h _ fun v1 m1 q => q
theorem s_end {cf : CallF} {v : Vr} {m : Mem} {D : En} (h : D.nx v m) : OkS (denS cf .skip v m) D := h
/-! ### ints -/
theorem intD_at {l : List Int} {i : Nat} : (intD l)[i]? = l[i]?.map PyData.int := by unfold intD; rw [List.getElem?_map]
theorem intD_len {l : List Int} : (intD l).length = l.length := by unfold intD; rw [List.length_map]
theorem ixF_nn {α : Type} {l : List α} {i : Int} (h0 : 0 ≤ i) (h1 : i < l.length) : ∃ x, ixF l i = some x ∧ l[i.toNat]? = some x ∧ x ∈ l := by
  have h : i.toNat < l.length := by omega
  refine ⟨l[i.toNat], ?_, by simp [h], List.getElem_mem h⟩
  unfold ixF
  rw [if_pos h0]
  simp [h]
theorem small_of {i : Int} (h1 : -(2 ^ 64) < i) (h2 : i < 2 ^ 64) : small i = true := by unfold small; rw [decide_eq_true h1, decide_eq_true h2]; rfl
theorem b_mul {a b : Int} (h : (-(2 ^ 64) < a ∧ a < 2 ^ 64) ∨ (-(2 ^ 64) < b ∧ b < 2 ^ 64)) : binF .mul (.int a) (.int b) = some (.int (a * b)) := by
  show (if small a || small b then _ else _) = _
  rw [if_pos]
  rcases h with h | h
  · rw [small_of h.1 h.2]; rfl
  · rw [small_of h.1 h.2]; simp
theorem b_pow {a b : Int} (h0 : 0 ≤ b) (h1 : b ≤ 1000000) (h2 : -(2 ^ 64) < a) (h3 : a < 2 ^ 64) : binF .pow (.int a) (.int b) = some (.int (a ^ b.toNat)) := by
  show (if 0 ≤ b ∧ b ≤ 1000000 ∧ small a then _ else _) = _
  rw [if_pos ⟨h0, h1, small_of h2 h3⟩]
theorem b_mod {a b : Int} (h : 0 < b) : binF .mod (.int a) (.int b) = some (.int (a % b)) := by
  show (if 0 < b then _ else _) = _
  rw [if_pos h]
theorem b_fdiv {a b : Int} (h : 0 < b) (h2 : b < 1073741824) : binF .fdiv (.int a) (.int b) = some (.int (a / b)) := by
  show (if 0 < b ∧ b < 1073741824 then _ else _) = _
  rw [if_pos ⟨h, h2⟩]
theorem b_add {a b : Int} : binF .add (.int a) (.int b) = some (.int (a + b)) := rfl
theorem b_sub {a b : Int} : binF .sub (.int a) (.int b) = some (.int (a - b)) := rfl
theorem b_addL {a b : List PyData} (h : a.length + b.length ≤ sizeLine) : binF .add (.list a) (.list b) = some (.list (a ++ b)) := by
  show (if a.length + b.length ≤ sizeLine then _ else _) = _
  rw [if_pos h]
theorem i_int {a : Int} : biF .int [.int a] = some (.int a) := rfl
theorem c_eqI {a b : Int} : cmpF .eq (.int a) (.int b) = some (decide (a = b)) := by
  show (if deepOk (.int a) (.int b) then some (PyData.eqv (.int a) (.int b)) else none) = _
  rw [if_pos ⟨Nat.zero_le _, Nat.zero_le _⟩]
  simp only [PyData.eqv]
  by_cases h : a = b <;> simp [h]
theorem c_neI {a b : Int} : cmpF .ne (.int a) (.int b) = some (!decide (a = b)) := by
  show (if deepOk (.int a) (.int b) then some (!PyData.eqv (.int a) (.int b)) else none) = _
  rw [if_pos ⟨Nat.zero_le _, Nat.zero_le _⟩]
  simp only [PyData.eqv]
  by_cases h : a = b <;> simp [h]
theorem c_lt {a b : Int} : cmpF .lt (.int a) (.int b) = some (decide (a < b)) := rfl
theorem c_le {a b : Int} : cmpF .le (.int a) (.int b) = some (decide (a ≤ b)) := rfl
theorem c_gt {a b : Int} : cmpF .gt (.int a) (.int b) = some (decide (b < a)) := rfl
theorem c_ge {a b : Int} : cmpF .ge (.int a) (.int b) = some (decide (b ≤ a)) := rfl
theorem tr_b {b : Bool} : truF (.bool b) = some b := rfl
theorem i_lenL {l : List PyData} : biF .len [.list l] = some (.int l.length) := rfl
theorem i_lenT {l : List PyData} : biF .len [.tuple l] = some (.int l.length) := rfl
theorem i_lenI {l : List PyData} : biF .list [.list l] = some (.list l) := rfl
theorem i_tupL {l : List PyData} : biF .tuple [.list l] = some (.tuple l) := rfl
theorem i_tupT {l : List PyData} : biF .tuple [.tuple l] = some (.tuple l) := rfl
theorem sub_L {l : List PyData} {i : Int} : subF (.list l) (.int i) = ixF l i := rfl
theorem sub_T {l : List PyData} {i : Int} : subF (.tuple l) (.int i) = ixF l i := rfl
/-! ### memory -/
theorem set_at {m : Mem} {k : Nat} {c : Cell} (h : k < m.length) : (m.set k c)[k]? = some c := by rw [List.getElem?_set_self h]
theorem lstAt_of {m : Mem} {k : Nat} {l : List PyData} (h : m[k]? = some (.lst l)) : lstAt m k = some l := by unfold lstAt; rw [h]
theorem vw_ref {m : Mem} {k : Nat} {l : List PyData} (h : m[k]? = some (.lst l)) : vw m (.ref k) = some (.list l) := by
  show (match m[k]? with | some (.lst l) => some (PyData.list l) | _ => none) = _
  rw [h]
/-- a list of lists goes over into data -/
theorem frz_rfs {m : Mem} {n : Nat} {ns : List Nat} {ls : List PyData} (h : m[n]? = some (.rfs ns)) (nd : ns.Nodup) (hr : rowsAt m ns = some ls) : frzF m (.ref n) = .ok (.d (.list ls)) (deadAll (m.set n .dead) ns) := by
  show (match m[n]? with | some (.lst l) => Res.ok (W.d (PyData.list l)) (m.set n .dead) | some (.rfs ns) => (if ns.Nodup then (match rowsAt m ns with
      | some ls => Res.ok (W.d (.list ls)) (deadAll (m.set n .dead) ns)
      | none => Res.no) else Res.no) | some (.obj _ _) => Res.no | _ => Res.ok (W.ref n) m) = _
  rw [h]
  show (if ns.Nodup then (match rowsAt m ns with
      | some ls => Res.ok (W.d (.list ls)) (deadAll (m.set n .dead) ns)
      | none => Res.no) else Res.no) = _
  rw [if_pos nd, hr]
theorem frz_ref {m : Mem} {k : Nat} {l : List PyData} (h : m[k]? = some (.lst l)) : frzF m (.ref k) = .ok (.d (.list l)) (m.set k .dead) := by
  simp only [frzF, h]
theorem vw_d {m : Mem} {x : PyData} : vw m (.d x) = some x := rfl
end MP
/-! MPW: the pen: what the draws of every law do. -/
local macro_rules | `(tactic| one_sign) => `(tactic| try simp only [MP.x_ok, MP.x_no, MP.x_guard, MP.x_bind, MP.x_opt, MP.x_new, MP.x_new0, MP.x_noX, MP.e_var, MP.e_lit, MP.e_tup, MP.e_lst, MP.e_bin, MP.e_cmp, MP.e_chain, MP.e_isc, MP.isW_d, MP.e_isx, MP.W.exn.injEq, MP.e_rvt, MP.e_not, MP.e_and, MP.e_or, MP.e_ite, MP.e_call, MP.e_bi, MP.e_sub, MP.e_slc, MP.e_frz, MP.a_nil, MP.a_cons, MP.a_star, MP.t_nil, MP.t_cons, MP.i_rng1e, MP.i_rng2e, MP.i_enume, MP.i_zipe, MP.i_reve, MP.i_itve, MP.s_skip, MP.s_sret, MP.s_sretn, MP.s_sraise, MP.s_sbrk, MP.s_scnt, MP.s_ex, MP.s_set, MP.s_new, MP.s_par, MP.s_par3, MP.s_tgt, MP.s_if, MP.s_ret, MP.s_retn, MP.s_for, MP.s_brk, MP.s_cnt, MP.s_raise, MP.s_app, MP.s_six, MP.s_ext, MP.s_rvs, MP.e_me, MP.e_tupR, MP.s_try, MP.s_tryas, MP.h_hnd, MP.h_end, MP.s_nx, MP.s_rt, MP.vw_d, List.getElem?_cons_zero, List.getElem?_cons_succ, List.set_cons_zero, List.set_cons_succ, List.length_cons, List.length_nil, Option.some.injEq, exists_eq_left', exists_eq_left, and_true, true_and, MP.b_add, MP.b_sub, MP.i_int, MP.c_lt, MP.c_le, MP.c_gt, MP.c_ge, MP.c_eqI, MP.c_neI, MP.tr_b, MP.i_lenL, MP.i_lenT, MP.i_lenI, MP.i_tupL, MP.i_tupT, MP.sub_L, MP.sub_T, decide_eq_true_eq, decide_eq_false_iff_not, Nat.zero_add, Nat.reduceAdd, Nat.reduceLT, List.mapM_cons, List.mapM_nil, Option.bind_eq_bind, Option.bind_some, Option.pure_def, MP.asD_d])
namespace MP
open PySem
def fspread : Fn := ⟨2, 8, false, (.seq (.ite (.cmp .ge (.var 0) (.bin .pow (.lit (.int 10)) (.lit (.int 18)))) (.seq (.ret (.var 0)) .skip) .skip) (.seq (.set 2 (.lst (.cons (.lit (.int 2147483629)) (.cons (.lit (.int 2147483587)) (.cons (.lit (.int 2147483579)) (.cons (.lit (.int 2147483563)) (.cons (.lit (.int 2147483549)) (.cons (.lit (.int 2147483543)) (.cons (.lit (.int 2147483497)) .nil))))))))) (.seq (.set 2 (.bin .add (.var 2) (.lst (.cons (.lit (.int 2147483489)) (.cons (.lit (.int 2147483477)) (.cons (.lit (.int 2147483423)) (.cons (.lit (.int 2147483399)) (.cons (.lit (.int 2147483353)) (.cons (.lit (.int 2147483323)) .nil))))))))) (.seq (.set 3 (.bin .add (.bin .add (.bin .mul (.bin .mod (.bi .int (.cons (.var 0) .nil)) (.lit (.int 1000000007))) (.bin .add (.bin .mul (.lit (.int 2)) (.var 1)) (.lit (.int 69069)))) (.bin .mul (.var 1) (.lit (.int 40503)))) (.lit (.int 977)))) (.seq (.set 4 (.bin .mod (.bi .int (.cons (.bin .pow (.var 3) (.lit (.int 3))) .nil)) (.sub (.var 2) (.bin .mod (.bi .int (.cons (.var 1) .nil)) (.lit (.int 13)))))) (.seq (.set 5 (.bin .add (.bin .mod (.bi .int (.cons (.var 0) .nil)) (.lit (.int 65537))) (.lit (.int 5)))) (.seq (.set 6 (.bin .mod (.bi .int (.cons (.bin .pow (.bin .add (.bin .mul (.var 4) (.bin .add (.var 1) (.lit (.int 3)))) (.var 5)) (.lit (.int 5))) .nil)) (.sub (.var 2) (.bin .mod (.bi .int (.cons (.bin .add (.var 1) (.lit (.int 5))) .nil)) (.lit (.int 13)))))) (.seq (.set 7 (.bin .mod (.bi .int (.cons (.bin .pow (.bin .add (.bin .add (.var 6) (.bin .mod (.bi .int (.cons (.var 4) .nil)) (.lit (.int 1009)))) (.var 1)) (.lit (.int 3))) .nil)) (.sub (.var 2) (.bin .mod (.bi .int (.cons (.bin .add (.var 1) (.lit (.int 7))) .nil)) (.lit (.int 13)))))) (.seq (.ret (.bin .add (.bin .mul (.bin .add (.bin .mul (.var 4) (.lit (.int 2147483647))) (.var 6)) (.lit (.int 2147483647))) (.var 7))) .skip)))))))))⟩
def ftake : Fn := ⟨2, 5, false, (.seq (.ite (.cmp .lt (.sub (.var 0) (.lit (.int 2))) (.var 1)) (.seq (.set 2 (.sub (.var 0) (.lit (.int 1)))) (.seq (.set 3 (.lit (.int 0))) (.seq (.ite (.cmp .lt (.var 2) (.bi .len (.cons (.sub (.var 0) (.lit (.int 0))) .nil))) (.seq (.set 3 (.sub (.sub (.var 0) (.lit (.int 0))) (.var 2))) .skip) (.seq (.ite (.cmp .gt (.bi .len (.cons (.sub (.var 0) (.lit (.int 0))) .nil)) (.lit (.int 0))) (.seq (.set 3 (.bin .mod (.bi .int (.cons (.sub (.sub (.var 0) (.lit (.int 0))) (.bin .mod (.bi .int (.cons (.bin .add (.bin .mul (.var 2) (.lit (.int 5))) (.lit (.int 3))) .nil)) (.bi .len (.cons (.sub (.var 0) (.lit (.int 0))) .nil)))) .nil)) (.bin .add (.bin .pow (.lit (.int 10)) (.lit (.int 17))) (.var 2)))) .skip) .skip) .skip)) (.seq (.six 0 (.lit (.int 1)) (.bin .add (.var 2) (.lit (.int 1)))) (.seq (.six 0 (.lit (.int 2)) (.call "_law_spread" (.cons (.var 3) (.cons (.var 2) .nil)))) .skip))))) .skip) (.seq (.set 4 (.bin .mod (.bi .int (.cons (.sub (.var 0) (.lit (.int 2))) .nil)) (.var 1))) (.seq (.six 0 (.lit (.int 2)) (.bin .fdiv (.sub (.var 0) (.lit (.int 2))) (.var 1))) (.seq (.ret (.var 4)) .skip))))⟩
def fone : Fn := ⟨2, 2, false, (.seq (.ret (.sub (.var 1) (.call "_law_take" (.cons (.var 0) (.cons (.bi .len (.cons (.var 1) .nil)) .nil))))) .skip)⟩
def fanew : Fn := ⟨1, 1, false, (.seq (.six 0 (.lit (.int 2)) (.lit (.int 0))) (.seq (.ret (.var 0)) .skip))⟩
def fopen : Fn := ⟨1, 4, true, (.seq (.new 1 (.bi .list (.cons (.slc (.var 0) .nil (.cons (.lit (.int 12)) .nil)) .nil))) (.seq (.for_ (.tup (.cons (.nm 2) (.cons (.nm 3) .nil))) (.enum (.slc (.var 0) (.cons (.lit (.int 12)) .nil) (.cons (.lit (.int 63)) .nil))) (.seq (.six 1 (.bin .mod (.bi .int (.cons (.var 2) .nil)) (.lit (.int 12))) (.bin .add (.sub (.var 1) (.bin .mod (.bi .int (.cons (.var 2) .nil)) (.lit (.int 12)))) (.var 3))) .skip)) (.seq (.retn (.lst (.cons (.frz (.var 1)) (.cons (.lit (.int 0)) (.cons (.lit (.int 0)) .nil))))) .skip)))⟩
theorem en_kr {Q : W → Mem → Prop} {X : Xn → Mem → Prop} {x : PyData} {m0 m : Mem} (kr : keepsR m0 m) (h : Q (.d x) (m.take m0.length)) : (enF false m0 Q X).rt (.d x) m := by
  show OkX (finF false m0 (.rt (.d x) m)) Q X
  rw [r_d]
  exact ⟨kr, h⟩
theorem en_d {m0 : Mem} {Q : W → Mem → Prop} {X : Xn → Mem → Prop} {x : PyData} {m : Mem} (hl : m = m0) (h : Q (.d x) m) : (enF false m0 Q X).rt (.d x) m := by
  subst hl
  exact en_kr keepsR_id (by rw [List.take_length]; exact h)
theorem en_kl {m0 : Mem} {Q : W → Mem → Prop} {X : Xn → Mem → Prop} {x : PyData} {m : Mem} (kr : keepsR m0 m) (hl : m.length = m0.length) (h : Q (.d x) m) : (enF false m0 Q X).rt (.d x) m :=
  en_kr kr (by rw [← hl, List.take_length]; exact h)
theorem en_r {k : Nat} {Q : W → Mem → Prop} {X : Xn → Mem → Prop} {m0 m : Mem} (kr : keepsR m0 m) (hl : m.length = m0.length) (hk : k < m0.length) (h : Q (.ref k) m) : (enF false m0 Q X).rt (.ref k) m := by
  show OkX (finF false m0 (.rt (.ref k) m)) Q X
  rw [r_ref]
  refine ⟨kr, ?_⟩
  rw [← hl, List.take_length]
  exact ⟨fun _ => h, fun q => absurd hk (by rw [hl] at q; exact q)⟩
def PL : List PyData := [.int 2147483629, .int 2147483587, .int 2147483579, .int 2147483563, .int 2147483549, .int 2147483543, .int 2147483497, .int 2147483489, .int 2147483477, .int 2147483423, .int 2147483399, .int 2147483353, .int 2147483323]
theorem PL_at {i : Int} (h0 : 0 ≤ i) (h1 : i < 13) : ∃ p, ixF PL i = some (.int p) ∧ 0 < p ∧ p < 2147483648 := by
  obtain ⟨x, e, _, hm⟩ := ixF_nn (l := PL) h0 (by show i < 13; exact h1)
  simp only [PL, List.mem_cons, List.not_mem_nil, or_false] at hm
  rcases hm with rfl | rfl | rfl | rfl | rfl | rfl | rfl | rfl | rfl | rfl | rfl | rfl | rfl <;> exact ⟨_, e, by decide, by decide⟩
theorem p_spread {T : Tab} {n : Nat} {cell at_ : Int} {m : Mem} {Q : W → Mem → Prop} {X : Xn → Mem → Prop} (hT : T.lookup "_law_spread" = some fspread) (h0 : 0 ≤ at_) (h1 : at_ ≤ 1048576) (hQ : ∀ z : Int, Q (.d (.int z)) m) :
    OkX (callN T (n + 1) "_law_spread" [.d (.int cell), .d (.int at_)] m) Q X := by
  rw [call_of hT ⟨rfl, by decide⟩]
  show OkS (denS _ fspread.body [some (.d (.int cell)), some (.d (.int at_)), none, none, none, none, none, none] m) _
  unfold fspread
  dsimp only
  refine seq_st fun N hN => ?_
  one_sign
  refine ⟨_, b_pow (by decide) (by decide) (by decide) (by decide), ?_⟩
  simp only [c_ge, Option.some.injEq, exists_eq_left', decide_eq_true_eq]
  refine ⟨fun _ => en_d rfl (hQ _), fun _ => hN _ _ ?_⟩
  clear hN N
  refine seq_st fun N hN => ?_
  one_sign
  (first | refine hN _ _ ?_ | refine ⟨by decide, hN _ _ ?_⟩ | refine ⟨by decide, by decide, hN _ _ ?_⟩)
  clear hN N
  refine seq_st fun N hN => ?_
  one_sign
  first | refine ⟨_, b_addL (by decide), ?_⟩ | refine ⟨by decide, _, b_addL (by decide), ?_⟩
  (first | refine hN _ _ ?_ | refine ⟨by decide, hN _ _ ?_⟩ | refine ⟨by decide, by decide, hN _ _ ?_⟩)
  clear hN N
  show OkS (denS _ _ [_, _, some (.d (.list PL)), _, _, _, _, _] m) _
  refine seq_st fun N hN => ?_
  one_sign
  have c1 : 0 ≤ cell % 1000000007 := Int.emod_nonneg _ (by decide)
  have c2 : cell % 1000000007 < 1000000007 := Int.emod_lt_of_pos _ (by decide)
  have q1 : 0 ≤ cell % 1000000007 * (2 * at_ + 69069) := Int.mul_nonneg c1 (by omega)
  have q2 : cell % 1000000007 * (2 * at_ + 69069) ≤ 1000000007 * 2166221 := Int.mul_le_mul (by omega) (by omega) (by omega) (by omega)
  refine ⟨_, b_mod (by decide), _, b_mul (.inl ⟨by decide, by decide⟩), ?_⟩
  one_sign
  refine ⟨_, b_mul (.inl ⟨by omega, by omega⟩), _, b_mul (.inr ⟨by decide, by decide⟩), ?_⟩
  one_sign
  (first | refine hN _ _ ?_ | refine ⟨by decide, hN _ _ ?_⟩ | refine ⟨by decide, by decide, hN _ _ ?_⟩)
  clear hN N
  generalize hmix : cell % 1000000007 * (2 * at_ + 69069) + at_ * 40503 + 977 = mix
  have m1 : 0 ≤ mix := by omega
  have m2 : mix ≤ 2166221000000000 * 2 := by omega
  refine seq_st fun N hN => ?_
  one_sign
  refine ⟨_, b_pow (by decide) (by decide) (by omega) (by omega), ?_⟩
  one_sign
  have a1 : 0 ≤ at_ % 13 := Int.emod_nonneg _ (by decide)
  have a2 : at_ % 13 < 13 := Int.emod_lt_of_pos _ (by decide)
  refine ⟨_, b_mod (by decide), ?_⟩
  one_sign
  obtain ⟨p, e1, p1, p2⟩ := PL_at a1 a2
  refine ⟨_, e1, _, b_mod p1, ?_⟩
  (first | refine hN _ _ ?_ | refine ⟨by decide, hN _ _ ?_⟩ | refine ⟨by decide, by decide, hN _ _ ?_⟩)
  clear hN N
  generalize hone : mix ^ (3 : Int).toNat % p = one
  have o1 : 0 ≤ one := by rw [← hone]; exact Int.emod_nonneg _ (by omega)
  have o2 : one < 2147483648 := by
    have := Int.emod_lt_of_pos (mix ^ (3 : Int).toNat) p1
    rw [hone] at this; omega
  refine seq_st fun N hN => ?_
  one_sign
  refine ⟨_, b_mod (by decide), ?_⟩
  one_sign
  (first | refine hN _ _ ?_ | refine ⟨by decide, hN _ _ ?_⟩ | refine ⟨by decide, by decide, hN _ _ ?_⟩)
  clear hN N
  have r1 : 0 ≤ cell % 65537 := Int.emod_nonneg _ (by decide)
  have r2 : cell % 65537 < 65537 := Int.emod_lt_of_pos _ (by decide)
  have w1 : 0 ≤ one * (at_ + 3) := Int.mul_nonneg o1 (by omega)
  have w2 : one * (at_ + 3) ≤ 2147483648 * 1048579 := Int.mul_le_mul (by omega) (by omega) (by omega) (by omega)
  refine seq_st fun N hN => ?_
  one_sign
  refine ⟨_, b_mul (.inl ⟨by omega, by omega⟩), ?_⟩
  one_sign
  refine ⟨_, b_pow (by decide) (by decide) (by omega) (by omega), ?_⟩
  one_sign
  have a3 : 0 ≤ (at_ + 5) % 13 := Int.emod_nonneg _ (by decide)
  have a4 : (at_ + 5) % 13 < 13 := Int.emod_lt_of_pos _ (by decide)
  refine ⟨_, b_mod (by decide), ?_⟩
  one_sign
  obtain ⟨p', e2, p3, p4⟩ := PL_at a3 a4
  refine ⟨_, e2, _, b_mod p3, ?_⟩
  (first | refine hN _ _ ?_ | refine ⟨by decide, hN _ _ ?_⟩ | refine ⟨by decide, by decide, hN _ _ ?_⟩)
  clear hN N
  generalize htwo : (one * (at_ + 3) + (cell % 65537 + 5)) ^ (5 : Int).toNat % p' = two
  have t1 : 0 ≤ two := by rw [← htwo]; exact Int.emod_nonneg _ (by omega)
  have t2 : two < 2147483648 := by
    have := Int.emod_lt_of_pos ((one * (at_ + 3) + (cell % 65537 + 5)) ^ (5 : Int).toNat) p3
    rw [htwo] at this; omega
  refine seq_st fun N hN => ?_
  one_sign
  refine ⟨_, b_mod (by decide), ?_⟩
  one_sign
  have u1 : 0 ≤ one % 1009 := Int.emod_nonneg _ (by decide)
  have u2 : one % 1009 < 1009 := Int.emod_lt_of_pos _ (by decide)
  refine ⟨_, b_pow (by decide) (by decide) (by omega) (by omega), ?_⟩
  one_sign
  have a5 : 0 ≤ (at_ + 7) % 13 := Int.emod_nonneg _ (by decide)
  have a6 : (at_ + 7) % 13 < 13 := Int.emod_lt_of_pos _ (by decide)
  refine ⟨_, b_mod (by decide), ?_⟩
  one_sign
  obtain ⟨p'', e3, p5, p6⟩ := PL_at a5 a6
  refine ⟨_, e3, _, b_mod p5, ?_⟩
  (first | refine hN _ _ ?_ | refine ⟨by decide, hN _ _ ?_⟩ | refine ⟨by decide, by decide, hN _ _ ?_⟩)
  clear hN N
  one_sign
  refine ⟨_, b_mul (.inl ⟨by omega, by omega⟩), ?_⟩
  one_sign
  refine ⟨_, b_mul (.inr ⟨by decide, by decide⟩), ?_⟩
  one_sign
  exact en_d rfl (hQ _)
/-- the pen: cells that stay, how far it has read, what it holds -/
def Pen (m : Mem) (k a : Nat) : Prop := ∃ (cs : List Int) (p : Nat) (h : Int), m[k]? = some (.lst [.list (intD cs), .int p, .int h]) ∧ p ≤ a
/-- only the cell k is another one -/
def Upd (k : Nat) (m m' : Mem) : Prop := m'.length = m.length ∧ ∀ j, j ≠ k → m'[j]? = m[j]?
theorem Upd.refl {k : Nat} {m : Mem} : Upd k m m := ⟨rfl, fun _ _ => rfl⟩
theorem Upd.trans {k : Nat} {m m1 m2 : Mem} (h : Upd k m m1) (h2 : Upd k m1 m2) : Upd k m m2 := ⟨h2.1.trans h.1, fun j hj => (h2.2 j hj).trans (h.2 j hj)⟩
theorem Upd.set {k : Nat} {m : Mem} (c : Cell) : Upd k m (m.set k c) := ⟨List.length_set, fun j hj => List.getElem?_set_ne (Ne.symm hj)⟩
theorem Pen.mono {m : Mem} {k a b : Nat} (h : Pen m k a) (hab : a ≤ b) : Pen m k b := let ⟨cs, p, x, h1, h2⟩ := h; ⟨cs, p, x, h1, Nat.le_trans h2 hab⟩
theorem Pen.lt {m : Mem} {k a : Nat} (h : Pen m k a) : k < m.length := let ⟨_, _, _, h1, _⟩ := h; (List.getElem?_eq_some_iff.mp h1).1
theorem Upd.kr {k a : Nat} {m m' : Mem} (h : Upd k m m') (hp : Pen m' k a) : keepsR m m' := fun i _ => by
  by_cases e : i = k
  · subst e
    obtain ⟨_, _, _, h1, _⟩ := hp
    exact .inr ⟨_, h1, rfl⟩
  · exact .inl (h.2 i e)
theorem en_u {k a : Nat} {Q : W → Mem → Prop} {X : Xn → Mem → Prop} {x : PyData} {m0 m : Mem} (hu : Upd k m0 m) (hp : Pen m k a) (h : Q (.d x) m) : (enF false m0 Q X).rt (.d x) m := en_kl (hu.kr hp) hu.1 h
theorem p_take {T : Tab} {n k a : Nat} {many : Int} {m : Mem} {Q : W → Mem → Prop} {X : Xn → Mem → Prop} (hT : T.lookup "_law_take" = some ftake) (hT2 : T.lookup "_law_spread" = some fspread) (hp : Pen m k a) (ha : a ≤ 1048576) (h1 : 1 ≤ many) (h2 : many < 1073741824)
    (hQ : ∀ (v : Int) m', 0 ≤ v → v < many → Upd k m m' → Pen m' k (a + 1) → Q (.d (.int v)) m') : OkX (callN T (n + 2) "_law_take" [.ref k, .d (.int many)] m) Q X := by
  obtain ⟨cs, p, h, hk, hpa⟩ := hp
  have hkl : k < m.length := (List.getElem?_eq_some_iff.mp hk).1
  rw [call_of hT ⟨rfl, by decide⟩]
  show OkS (denS _ ftake.body [some (.ref k), some (.d (.int many)), none, none, none] m) _
  -- what is left once the pen holds enough
  have rest : ∀ (m1 : Mem) (x y : Option W) (h' : Int), m1.length = m.length → Upd k m m1 → (∃ (cs : List Int) (p : Nat), m1[k]? = some (.lst [.list (intD cs), .int p, .int h']) ∧ p ≤ a + 1) →
      OkS (denS (callN T (n + 1)) (.seq (.set 4 (.bin .mod (.bi .int (.cons (.sub (.var 0) (.lit (.int 2))) .nil)) (.var 1))) (.seq (.six 0 (.lit (.int 2)) (.bin .fdiv (.sub (.var 0) (.lit (.int 2))) (.var 1))) (.seq (.ret (.var 4)) .skip))) [some (.ref k), some (.d (.int many)), x, y, none] m1) (enF false m Q X) := by
    intro m1 x y h' hl hu ⟨cs, p, hk, hpa⟩
    have hkl' : k < m1.length := by rw [hl]; exact hkl
    refine seq_st fun N hN => ?_
    one_sign
    refine ⟨_, vw_ref hk, ?_⟩
    one_sign
    refine ⟨_, rfl, ?_⟩
    one_sign
    refine ⟨_, b_mod (by omega), ?_⟩
    (first | refine hN _ _ ?_ | refine ⟨by decide, hN _ _ ?_⟩ | refine ⟨by decide, by decide, hN _ _ ?_⟩)
    clear hN N
    refine seq_st fun N hN => ?_
    one_sign
    refine ⟨_, vw_ref hk, ?_⟩
    one_sign
    refine ⟨_, rfl, ?_⟩
    one_sign
    refine ⟨_, b_fdiv (by omega) (by omega), ?_⟩
    refine ⟨k, rfl, _, lstAt_of hk, 2, rfl, 2, rfl, hN _ _ ?_⟩
    clear hN N
    one_sign
    refine en_u (k := k) (a := a + 1) (hu.trans (Upd.set _)) ⟨cs, p, _, set_at hkl', hpa⟩ (hQ _ _ (Int.emod_nonneg _ (by omega)) (Int.emod_lt_of_pos _ (by omega)) (hu.trans (Upd.set _)) ⟨cs, p, _, set_at hkl', hpa⟩)
  unfold ftake
  dsimp only
  refine seq_st fun N hN => ?_
  one_sign
  refine ⟨_, vw_ref hk, _, rfl, ?_⟩
  one_sign
  refine ⟨fun hlt => ?_, fun _ => hN _ _ (rest m _ _ h rfl Upd.refl ⟨cs, p, hk, by omega⟩)⟩
  have fin : ∀ (m1 : Mem) (cell : Int), m1 = m → OkS (denS (callN T (n + 1)) (.seq (.six 0 (.lit (.int 1)) (.bin .add (.var 2) (.lit (.int 1)))) (.seq (.six 0 (.lit (.int 2)) (.call "_law_spread" (.cons (.var 3) (.cons (.var 2) .nil)))) .skip)) [some (.ref k), some (.d (.int many)), some (.d (.int p)), some (.d (.int cell)), none] m1) { (enF false m Q X) with nx := N } := by
    intro m1 cell e
    subst e
    refine seq_st fun N' hN' => ?_
    one_sign
    refine ⟨k, rfl, _, lstAt_of hk, 1, rfl, 1, rfl, hN' _ _ ?_⟩
    refine seq_st fun N2 hN2 => ?_
    one_sign
    refine p_spread hT2 (by omega) (by omega) fun z => ?_
    refine ⟨k, rfl, _, rfl, _, lstAt_of (set_at hkl), 2, rfl, 2, rfl, hN2 _ _ (s_end (hN _ _ ?_))⟩
    refine rest _ _ _ z (by simp) ((Upd.set _).trans (Upd.set _)) ⟨cs, p + 1, ?_, by omega⟩
    rw [set_at (by simpa using hkl)]
    rfl
  refine seq_st fun N' hN' => ?_
  one_sign
  refine ⟨_, vw_ref hk, _, rfl, ?_⟩
  refine hN' _ _ ?_
  clear hN' N'
  refine seq_st fun N' hN' => ?_
  one_sign
  refine hN' _ _ ?_
  clear hN' N'
  refine seq_st fun N' hN' => ?_
  one_sign
  refine ⟨_, vw_ref hk, _, rfl, ?_⟩
  one_sign
  refine ⟨fun hin => ?_, fun hout => ?_⟩
  · refine seq_st fun N2 hN2 => ?_
    one_sign
    refine ⟨_, vw_ref hk, _, rfl, ?_⟩
    one_sign
    obtain ⟨x, e, e2, hm⟩ := ixF_nn (l := intD cs) (i := (p : Int)) (by omega) (by rw [intD_len] at hin ⊢; exact hin)
    obtain ⟨c, _, rfl⟩ := List.mem_map.mp hm
    refine ⟨_, e, ?_⟩
    exact hN2 _ _ (s_end (hN' _ _ (fin m c rfl)))
  · refine seq_st fun N2 hN2 => ?_
    one_sign
    refine ⟨_, vw_ref hk, _, rfl, ?_⟩
    one_sign
    refine ⟨fun hpos => ?_, fun _ => hN2 _ _ (s_end (hN' _ _ (fin m 0 rfl)))⟩
    refine seq_st fun N3 hN3 => ?_
    one_sign
    refine ⟨_, vw_ref hk, _, rfl, ?_⟩
    have l1 : 0 ≤ ((p : Int) * 5 + 3) % ((intD cs).length : Int) := Int.emod_nonneg _ (by omega)
    have l2 : ((p : Int) * 5 + 3) % ((intD cs).length : Int) < (intD cs).length := Int.emod_lt_of_pos _ hpos
    obtain ⟨x, e, e2, hm⟩ := ixF_nn l1 l2
    obtain ⟨c, _, rfl⟩ := List.mem_map.mp hm
    refine ⟨_, b_mul (.inr ⟨by decide, by decide⟩), _, b_add, _, i_int, _, vw_ref hk, _, rfl, _, i_lenL, _, b_mod hpos, _, e, _, i_int, _, b_pow (by decide) (by decide) (by decide) (by decide), _, b_add, _, b_mod ?_, hN3 _ _ (s_end (hN2 _ _ (s_end (hN' _ _ (fin m _ rfl)))))⟩
    have : (10 : Int) ^ (17 : Int).toNat = 100000000000000000 := by decide
    omega
theorem p_one {T : Tab} {n k a : Nat} {l : List PyData} {x : PyData} {m : Mem} {Q : W → Mem → Prop} {X : Xn → Mem → Prop} (hT : T.lookup "_law_take" = some ftake) (hT2 : T.lookup "_law_spread" = some fspread) (hT3 : T.lookup "_law_one" = some fone) (hp : Pen m k a) (ha : a ≤ 1048576) (hx : x = .list l ∨ x = .tuple l)
    (h1 : 0 < l.length) (h2 : l.length ≤ 1000000) (hQ : ∀ d m', d ∈ l → Upd k m m' → Pen m' k (a + 1) → Q (.d d) m') : OkX (callN T (n + 3) "_law_one" [.ref k, .d x] m) Q X := by
  rw [call_of hT3 ⟨rfl, by decide⟩]
  show OkS (denS _ fone.body [some (.ref k), some (.d x)] m) _
  unfold fone
  dsimp only
  one_sign
  have hl : biF .len [x] = some (.int l.length) := by rcases hx with rfl | rfl <;> rfl
  refine ⟨_, hl, p_take hT hT2 hp ha (by omega) (by omega) fun v m' v0 v1 hu hp' => ?_⟩
  obtain ⟨d, e, _, hm⟩ := ixF_nn v0 v1
  have hs : subF x (.int v) = some d := by rcases hx with rfl | rfl <;> exact e
  exact ⟨_, rfl, d, hs, en_u hu hp' (hQ d m' hm hu hp')⟩
theorem p_anew {T : Tab} {n k a : Nat} {m : Mem} {Q : W → Mem → Prop} {X : Xn → Mem → Prop} (hT : T.lookup "_law_anew" = some fanew) (hp : Pen m k a) (hQ : ∀ m', Upd k m m' → Pen m' k a → Q (.ref k) m') : OkX (callN T (n + 1) "_law_anew" [.ref k] m) Q X := by
  obtain ⟨cs, p, h, hk, hpa⟩ := hp
  have hkl : k < m.length := (List.getElem?_eq_some_iff.mp hk).1
  rw [call_of hT ⟨rfl, by decide⟩]
  show OkS (denS _ fanew.body [some (.ref k)] m) _
  unfold fanew
  dsimp only
  refine seq_st fun N hN => ?_
  one_sign
  refine ⟨k, rfl, _, lstAt_of hk, 2, rfl, 2, rfl, hN _ _ ?_⟩
  one_sign
  exact en_r ((Upd.set (k := k) _).kr (a := a) ⟨cs, p, 0, by rw [set_at hkl], hpa⟩) (by simp) (by simpa using hkl) (hQ _ (Upd.set _) ⟨cs, p, 0, by rw [set_at hkl], hpa⟩)
theorem intD_take {l : List Int} {k : Nat} : (intD l).take k = intD (l.take k) := by unfold intD; rw [List.map_take]
theorem intD_drop {l : List Int} {k : Nat} : (intD l).drop k = intD (l.drop k) := by unfold intD; rw [List.map_drop]
theorem intD_set {l : List Int} {k : Nat} {z : Int} : (intD l).set k (.int z) = intD (l.set k z) := by unfold intD; rw [List.map_set]
theorem placeIx_nn {n : Nat} {i : Int} (h0 : 0 ≤ i) (h1 : i < n) : placeIx n i = some i.toNat := by
  unfold placeIx
  rw [if_pos h0, if_pos h1]
theorem p_open {T : Tab} {n : Nat} {ns : List Int} {m : Mem} {Q : W → Mem → Prop} {X : Xn → Mem → Prop} (hT : T.lookup "_law_open" = some fopen) (hn : ns.length ≤ 63) (hQ : ∀ cs, Q (.ref (m.length + 1)) (m ++ [.dead, .lst [.list (intD cs), .int (0 : Nat), .int 0]])) :
    OkX (callN T (n + 1) "_law_open" [.scr ns] m) Q X := by
  rw [call_of hT ⟨rfl, by decide⟩]
  show OkS (denS _ fopen.body [some (.scr ns), none, none, none] m) _
  unfold fopen
  dsimp only
  have ea : cutF (intD ns) none (some 12) = intD (ns.take (min 12 ns.length)) := by
    unfold cutF
    have e := HT.sIx_nat (intD ns).length (intD ns).length 12
    have e' : HT.sIx (intD ns).length (intD ns).length (some (12 : Int)) = min 12 (intD ns).length := e
    rw [HT.sIx_none, e', intD_len, List.drop_zero, Nat.sub_zero, intD_take]
  have eb : cutF (intD ns) (some 12) (some 63) = intD ((ns.drop (min 12 ns.length)).take (min 63 ns.length - min 12 ns.length)) := by
    unfold cutF
    have e := HT.sIx_nat (intD ns).length 0 12
    have e1 : HT.sIx (intD ns).length 0 (some (12 : Int)) = min 12 (intD ns).length := e
    have e := HT.sIx_nat (intD ns).length (intD ns).length 63
    have e2 : HT.sIx (intD ns).length (intD ns).length (some (63 : Int)) = min 63 (intD ns).length := e
    rw [e1, e2, intD_len, intD_drop, intD_take]
  generalize hA : ns.take (min 12 ns.length) = A at ea
  generalize hB : (ns.drop (min 12 ns.length)).take (min 63 ns.length - min 12 ns.length) = B at eb
  have hAB : 0 < B.length → A.length = 12 := fun h => by
    rw [← hB] at h
    rw [← hA]
    simp only [List.length_take, List.length_drop] at h ⊢
    omega
  refine seq_st fun N hN => ?_
  one_sign
  refine ⟨_, rfl, _, rfl, _, rfl, _, rfl, ?_⟩
  one_sign
  rw [ea]
  refine ⟨_, rfl, ?_⟩
  (first | refine hN _ _ ?_ | refine ⟨by decide, hN _ _ ?_⟩ | refine ⟨by decide, by decide, hN _ _ ?_⟩)
  clear hN N
  have hlen : ∀ x : List PyData, (m ++ [Cell.lst x])[m.length]? = some (.lst x) := fun x => by simp
  refine seq_st fun N hN => ?_
  rw [s_for]
  one_sign
  refine ⟨_, rfl, _, rfl, ?_⟩
  one_sign
  have hs : slcF (.list (intD ns)) (some 12) (some 63) = some (.list (intD B)) := by
    show some (PyData.list (cutF _ _ _)) = _
    rw [eb]
  refine ⟨_, rfl, _, hs, _, rfl, ?_⟩
  refine for_ok (fun i v1 m1 => ∃ (cs : List Int) (x y : Option W), v1 = [some (.scr ns), some (.ref m.length), x, y] ∧ m1 = m ++ [.lst (intD cs)] ∧ cs.length = A.length) _ _ _ ⟨A, none, none, rfl, rfl, rfl⟩ ?_ ?_
  · rintro i x v1 m1 hx ⟨cs, x0, y0, rfl, rfl, hcs⟩
    refine ⟨trivial, ?_⟩
    obtain ⟨d, hd, rfl⟩ := enumD_at _ _ _ _ hx
    rw [intD_at] at hd
    obtain ⟨z, hz, rfl⟩ := Option.map_eq_some_iff.mp hd
    have hi : i < B.length := (List.getElem?_eq_some_iff.mp hz).1
    have h12 : cs.length = 12 := by rw [hcs]; exact hAB (by omega)
    rw [f_for, Nat.zero_add]
    refine ⟨[some (.scr ns), some (.ref m.length), some (.d (.int (i : Int))), some (.d (.int z))], rfl, ?_⟩
    have k0 : 0 ≤ (i : Int) % 12 := Int.emod_nonneg _ (by decide)
    have k1 : (i : Int) % 12 < 12 := Int.emod_lt_of_pos _ (by decide)
    obtain ⟨q, e, e2, hm⟩ := ixF_nn (l := intD cs) k0 (by rw [intD_len, h12]; exact k1)
    obtain ⟨w, _, rfl⟩ := List.mem_map.mp hm
    refine seq_st fun N' hN' => ?_
    one_sign
    refine ⟨_, b_mod (by decide), _, vw_ref (hlen _), _, e, ?_⟩
    one_sign
    refine ⟨m.length, rfl, _, b_mod (by decide), ?_⟩
    one_sign
    refine ⟨_, lstAt_of (hlen _), _, rfl, _, placeIx_nn k0 (by rw [intD_len, h12]; exact k1), hN' _ _ (s_end ?_)⟩
    refine ⟨cs.set ((i : Int) % 12).toNat (w + z), _, _, rfl, ?_, by rw [List.length_set]; exact hcs⟩
    rw [intD_set, List.set_append_right _ _ (by simp)]
    simp
  · rintro v1 m1 ⟨cs, x0, y0, rfl, rfl, hcs⟩
    refine ⟨trivial, hN _ _ ?_⟩
    one_sign
    rw [frz_ref (hlen _)]
    one_sign
    refine ⟨by show 3 ≤ sizeLine; decide, _, rfl, ?_⟩
    have e : (m ++ [Cell.lst (intD cs)]).set m.length .dead = m ++ [.dead] := by rw [List.set_append_right _ _ (Nat.le_refl _)]; simp
    rw [e]
    have q := hQ cs
    show Q (.ref (m ++ [Cell.dead]).length) (m ++ [Cell.dead] ++ [_])
    rw [List.append_assoc, List.length_append]
    exact q
end MP
/-! MPX: what repr shows of tame data. -/
namespace MP
open PySem
open PySem.PyData (strOk)
theorem ok_iff {x : Str} : strOk x = true ↔ ∀ c ∈ x.cps.toList, c < 0x110000 := by
  unfold PyData.strOk
  rw [Array.all_eq_true_iff_forall_mem]
  simp
theorem ok_char (c : Char) : c.toNat < 0x110000 := by
  have := c.valid
  have h : c.toNat = c.val.toNat := rfl
  rcases this with q | ⟨_, q⟩
  · have : c.toNat < 0xD800 := q
    omega
  · exact q
theorem ok_lit (s : String) : strOk (Str.ofString s) = true := by
  rw [Str.ofString_eq_toList, ok_iff]
  intro c hc
  simp at hc
  obtain ⟨a, _, rfl⟩ := hc
  exact ok_char a
theorem ok_join {sep : Str} (hs : strOk sep = true) : ∀ {ts : List Str}, (∀ t ∈ ts, strOk t = true) → strOk (Str.join sep ts) = true
  | [], _ => ok_lit ""
  | [x], h => h x (by simp)
  | x :: y :: r, h => by
    have ih := ok_join hs (ts := y :: r) fun t ht => h t (List.mem_cons_of_mem _ ht)
    exact strOk_app (strOk_app (h x (by simp)) hs) ih
theorem ok_from : ∀ (ts : List Str) (k : Nat) (acc : Str), strOk acc = true → (∀ t ∈ ts, strOk t = true) → strOk (textFrom k acc ts) = true
  | [], _, acc, h, _ => h
  | t :: ts, k, acc, h, ht => by
    refine ok_from ts (k + 1) _ (strOk_app (strOk_app h ?_) (ht t (by simp))) fun u hu => ht u (List.mem_cons_of_mem _ hu)
    split <;> exact ok_lit _
theorem ok_rchar {q c x : Nat} (hq : q < 0x110000) (hc : c < 0x110000) (h : x ∈ Builtin.Str.reprChar q c) : x < 0x110000 := by
  unfold Builtin.Str.reprChar at h
  have hex : ∀ w : Nat, ∀ x ∈ (List.replicate (w - ((Nat.toDigits 16 c).map Char.toNat).length) 48 ++ (Nat.toDigits 16 c).map Char.toNat), x < 0x110000 := fun w x hx => by
    rcases List.mem_append.mp hx with hx | hx
    · have := (List.mem_replicate.mp hx).2
      omega
    · obtain ⟨a, _, rfl⟩ := List.mem_map.mp hx
      exact ok_char a
  dsimp only at h
  split at h
  · simp at h; omega
  split at h
  · simp at h; omega
  split at h
  · simp at h; omega
  split at h
  · simp at h; omega
  split at h
  · simp at h; omega
  split at h
  · rcases List.mem_append.mp h with h | h
    · simp at h; omega
    · exact hex _ _ h
  split at h
  · rcases List.mem_append.mp h with h | h
    · simp at h; omega
    · exact hex _ _ h
  · rcases List.mem_append.mp h with h | h
    · simp at h; omega
    · exact hex _ _ h
theorem ok_repr {x : Str} (h : strOk x = true) : strOk (reprText x) = true := by
  have hq : reprQuote x < 0x110000 := by unfold reprQuote; split <;> decide
  rw [ok_iff] at h ⊢
  have key : ∀ (l : List Nat) (acc : Array Nat), (∀ c ∈ acc.toList, c < 0x110000) → (∀ c ∈ l, c < 0x110000) → ∀ c ∈ (l.foldl (fun out c => out ++ (Builtin.Str.reprChar (reprQuote x) c).toArray) acc).toList, c < 0x110000 := by
    intro l
    induction l with
    | nil => intro acc h1 _ c hc; exact h1 c hc
    | cons y r ih =>
      intro acc h1 h2
      refine ih _ (fun c hc => ?_) fun c hc => h2 c (List.mem_cons_of_mem _ hc)
      simp at hc
      rcases hc with hc | hc
      · exact h1 c (by simpa using hc)
      · exact ok_rchar hq (h2 y (by simp)) hc
  intro c hc
  unfold reprText at hc
  simp only [Array.toList_push, List.mem_append, List.mem_singleton] at hc
  rcases hc with hc | rfl
  · rw [← Array.foldl_toList] at hc
    refine key x.cps.toList _ ?_ h c hc
    intro c hc
    simp at hc
    rw [hc]; exact hq
  · exact hq
mutual
theorem ok_shown : ∀ d : PyData, d.canLay0 = true → strOk d.shown = true
  | .none, _ => ok_lit "None"
  | .bool b, _ => by cases b <;> exact ok_lit _
  | .int i, _ => ok_lit (toString i)
  | .str x, h => by
    rw [PyData.shown_str]
    exact ok_repr (by simpa [PyData.canLay0] using h)
  | .list xs, h => by
    have e : (PyData.list xs).shown = listText (PyData.shownAll xs) := by simp only [PyData.shown]
    rw [e]
    exact strOk_app (ok_from _ _ _ (ok_lit _) (ok_shownAll xs (by simpa [PyData.canLay0] using h))) (ok_lit _)
  | .tuple xs, h => by
    have e : (PyData.tuple xs).shown = tupleText (PyData.shownAll xs) := by simp only [PyData.shown]
    rw [e]
    refine strOk_app (strOk_app (ok_lit _) (ok_join (ok_lit _) (ok_shownAll xs (by simpa [PyData.canLay0] using h)))) ?_
    split <;> exact ok_lit _
  | .dict _, h => by simp [PyData.canLay0] at h
theorem ok_shownAll : ∀ xs : List PyData, PyData.canLayAll0 xs = true → ∀ t ∈ PyData.shownAll xs, strOk t = true
  | [], _, t, ht => by simp [PyData.shownAll] at ht
  | x :: xs, h, t, ht => by
    have h' : x.canLay0 = true ∧ PyData.canLayAll0 xs = true := by simpa [PyData.canLayAll0] using h
    simp only [PyData.shownAll, List.mem_cons] at ht
    rcases ht with rfl | ht
    · exact ok_shown x h'.1
    · exact ok_shownAll xs h'.2 t ht
end
/-! ### tame data: short, small, not deep -/
def tm : Nat → PyData → Bool
  | _, .none => true
  | _, .bool _ => true
  | _, .int i => decide (-1000000000000000000000 ≤ i ∧ i ≤ 1000000000000000000000)
  | _, .str x => decide (x.length ≤ 20) && strOk x
  | 0, _ => false
  | k + 1, .list l => decide (l.length ≤ 9) && l.all (tm k)
  | k + 1, .tuple l => decide (l.length ≤ 9) && l.all (tm k)
  | _, .dict _ => false
theorem tm_list {k : Nat} {l : List PyData} : tm (k + 1) (.list l) = true ↔ l.length ≤ 9 ∧ ∀ x ∈ l, tm k x = true := by
  show (decide (l.length ≤ 9) && l.all (tm k)) = true ↔ _
  simp
theorem tm_tup {k : Nat} {l : List PyData} : tm (k + 1) (.tuple l) = true ↔ l.length ≤ 9 ∧ ∀ x ∈ l, tm k x = true := by
  show (decide (l.length ≤ 9) && l.all (tm k)) = true ↔ _
  simp
theorem tm_int {k : Nat} {i : Int} : tm k (.int i) = true ↔ (-1000000000000000000000 ≤ i ∧ i ≤ 1000000000000000000000) := by
  cases k <;> simp [tm]
theorem depthAll_le {k : Nat} : ∀ {l : List PyData}, (∀ x ∈ l, x.depth ≤ k) → PyData.depthAll l ≤ k
  | [], _ => Nat.zero_le _
  | x :: l, h => by
    have := depthAll_le (l := l) fun y hy => h y (List.mem_cons_of_mem _ hy)
    have := h x (by simp)
    simp only [PyData.depthAll]
    omega
theorem weightAll_le {w : Nat} : ∀ {l : List PyData}, (∀ x ∈ l, x.weight ≤ w) → PyData.weightAll l ≤ l.length * (w + 1)
  | [], _ => by simp [PyData.weightAll]
  | x :: l, h => by
    have h1 := weightAll_le (l := l) fun y hy => h y (List.mem_cons_of_mem _ hy)
    have h2 := h x (by simp)
    simp only [PyData.weightAll, List.length_cons, Nat.add_mul, Nat.one_mul]
    simp only [Nat.mul_add, Nat.mul_one] at h1 ⊢
    omega
theorem shortAll_of {B : Nat} : ∀ {l : List PyData}, (∀ x ∈ l, PyData.intsShort B x = true) → PyData.intsShortAll B l = true
  | [], _ => by simp [PyData.intsShortAll]
  | x :: l, h => by
    simp only [PyData.intsShortAll, Bool.and_eq_true]
    exact ⟨h x (by simp), shortAll_of fun y hy => h y (List.mem_cons_of_mem _ hy)⟩
theorem showAll_of : ∀ {l : List PyData}, (∀ x ∈ l, PyData.showable x = true) → PyData.showableAll l = true
  | [], _ => by simp [PyData.showableAll]
  | x :: l, h => by
    simp only [PyData.showableAll, Bool.and_eq_true]
    exact ⟨h x (by simp), showAll_of fun y hy => h y (List.mem_cons_of_mem _ hy)⟩
theorem ofS_len (s : String) : (Str.ofString s).length = s.length := by
  exact PySem.ofString_length s
theorem log2_lt {n k : Nat} (h : n < 2 ^ k) (hk : 0 < k) : n.log2 < k := by
  by_cases h0 : n = 0
  · subst h0; simpa using hk
  · exact (Nat.log2_lt h0).mpr h
theorem ne_str {x : Str} : cmpF .ne (.str x) (.str x) = some false := by
  show (if deepOk (.str x) (.str x) then some (!PyData.eqv (.str x) (.str x)) else none) = _
  rw [if_pos ⟨Nat.zero_le _, Nat.zero_le _⟩]
  simp [PyData.eqv]
/-! ### pure comprehensions; lists of bools, of ints -/
theorem comp_map {st : Mem → Prop} {f : PyData → Mem → Res (Option PyData)} {QL : List PyData → Mem → Prop} {X : Xn → Mem → Prop} (F : PyData → PyData) (l : List PyData) (m : Mem) (hst : st m) (hf : ∀ x ∈ l, OkX (f x m) (fun y m1 => y = some (F x) ∧ m1 = m) fun _ _ => False) (hQ : QL (l.map F) m) :
    OkX (compL st f l m) QL X := by
  refine comp_ok (fun i ys m1 => m1 = m ∧ ys = (l.take i).map F) l m ⟨rfl, by simp⟩ ?_ ?_
  · rintro i x ys m1 hx ⟨rfl, rfl⟩
    refine ⟨hst, (hf x (List.mem_of_getElem? hx)).imp (fun y m2 h => ?_) fun _ _ z => z⟩
    obtain ⟨rfl, rfl⟩ := h
    refine ⟨rfl, ?_⟩
    have hi := (List.getElem?_eq_some_iff.mp hx).1
    rw [List.take_add_one, hx]
    simp
  · rintro ys m1 ⟨rfl, rfl⟩
    rw [List.take_length]
    exact ⟨hst, hQ⟩
theorem bools_map {α : Type} (f : α → Bool) : ∀ l : List α, boolsOf (l.map fun y => PyData.bool (f y)) = some (l.map f)
  | [] => rfl
  | x :: l => by
    show (boolsOf (l.map fun y => PyData.bool (f y))).map _ = _
    rw [bools_map f l]; rfl
theorem all_map {l : List PyData} {f : PyData → Bool} : biF .all [.list (l.map fun y => PyData.bool (f y))] = some (.bool (l.all f)) := by
  show (boolsOf _).map _ = _
  rw [bools_map]
  simp [List.all_map]
theorem any_map {l : List PyData} {f : PyData → Bool} : biF .any [.list (l.map fun y => PyData.bool (f y))] = some (.bool (l.any f)) := by
  show (boolsOf _).map _ = _
  rw [bools_map]
  simp [List.any_map]
theorem depthAll_ints : ∀ ns : List Int, PyData.depthAll (intD ns) = 0
  | [] => rfl
  | x :: r => by
    have := depthAll_ints r
    show max (PyData.depth (.int x)) (PyData.depthAll (intD r)) = 0
    rw [this]; rfl
theorem eqvAll_ints : ∀ a b : List Int, PyData.eqvAll (intD a) (intD b) = decide (a = b)
  | [], [] => by simp [intD, PyData.eqvAll]
  | [], y :: s => by simp [intD, PyData.eqvAll]
  | x :: r, [] => by simp [intD, PyData.eqvAll]
  | x :: r, y :: s => by
    have ih := eqvAll_ints r s
    have e : PyData.eqvAll (intD (x :: r)) (intD (y :: s)) = (PyData.eqv (.int x) (.int y) && PyData.eqvAll (intD r) (intD s)) := by simp only [intD, List.map_cons, PyData.eqvAll]
    rw [e, ih]
    simp only [PyData.eqv]
    by_cases h : x = y <;> simp [h]
theorem depth_ints (a : List Int) : (PyData.list (intD a)).depth ≤ 64 := by
  simp only [PyData.depth]
  rw [depthAll_ints]; decide
theorem eq_ints {a b : List Int} : cmpF .eq (.list (intD a)) (.list (intD b)) = some (decide (a = b)) := by
  show (if deepOk (.list (intD a)) (.list (intD b)) then some (PyData.eqv (.list (intD a)) (.list (intD b))) else none) = _
  rw [if_pos ⟨depth_ints a, depth_ints b⟩]
  simp only [PyData.eqv]
  rw [eqvAll_ints]
theorem intsOf_ints : ∀ ns : List Int, intsOf (intD ns) = some ns
  | [] => rfl
  | x :: r => by
    show (intsOf (intD r)).map _ = _
    rw [intsOf_ints r]; rfl
theorem e_neglit {cf : CallF} {i : Int} {v : Vr} {m : Mem} {Q : W → Mem → Prop} {X : Xn → Mem → Prop} : OkX (den cf (.neg (.lit (.int i))) v m) Q X = Q (.d (.int (-i))) m := rfl
theorem sz0 : (0 ≤ sizeLine) = True := by simp [sizeLine_eq]
theorem sz1 : (1 ≤ sizeLine) = True := by simp [sizeLine_eq]
theorem sz2 : (2 ≤ sizeLine) = True := by simp [sizeLine_eq]
theorem sz3 : (3 ≤ sizeLine) = True := by simp [sizeLine_eq]
theorem sz4 : (4 ≤ sizeLine) = True := by simp [sizeLine_eq]
theorem sz5 : (5 ≤ sizeLine) = True := by simp [sizeLine_eq]
theorem sz6 : (6 ≤ sizeLine) = True := by simp [sizeLine_eq]
theorem sz7 : (7 ≤ sizeLine) = True := by simp [sizeLine_eq]
theorem sz8 : (8 ≤ sizeLine) = True := by simp [sizeLine_eq]
theorem sz9 : (9 ≤ sizeLine) = True := by simp [sizeLine_eq]
theorem sz10 : (10 ≤ sizeLine) = True := by simp [sizeLine_eq]
theorem sz11 : (11 ≤ sizeLine) = True := by simp [sizeLine_eq]
theorem sz12 : (12 ≤ sizeLine) = True := by simp [sizeLine_eq]
theorem sz13 : (13 ≤ sizeLine) = True := by simp [sizeLine_eq]
theorem sz14 : (14 ≤ sizeLine) = True := by simp [sizeLine_eq]
/-! ### data that is shown, by weight -/
structure TW (k w : Nat) (d : PyData) : Prop where
  lay : d.canLay0 = true
  dep : d.depth ≤ k
  wgt : d.weight ≤ w
  srt : d.intsShort 40 = true
  shw : d.showable = true
theorem TW.mono {k k' w w' : Nat} {d : PyData} (h : TW k w d) (hk : k ≤ k') (hw : w ≤ w') : TW k' w' d := ⟨h.lay, Nat.le_trans h.dep hk, Nat.le_trans h.wgt hw, h.srt, h.shw⟩
theorem tw_int {k : Nat} {i : Int} (hn : i.natAbs < 10 ^ 36) : TW k 120 (.int i) := by
  have e2 : (10 : Nat) ^ 36 < 2 ^ 120 := by decide
  have h2 : i.natAbs.log2 < 120 := log2_lt (by omega) (by decide)
  refine ⟨rfl, Nat.zero_le _, ?_, ?_, ?_⟩
  · simp only [PyData.weight]
    split <;> omega
  · simp only [PyData.intsShort, decide_eq_true_eq]
    have q := int_text_length_le10 (k := 36) (by decide) hn
    show (Str.ofString (toString i)).length ≤ 40
    rw [ofS_len]; omega
  · simp only [PyData.showable, decide_eq_true_eq]
    omega
theorem tw_int2 {k : Nat} {i : Int} (h1 : -1000000000000000000000000000000000000 < i) (h2 : i < 1000000000000000000000000000000000000) : TW k 120 (.int i) := by
  refine tw_int ?_
  have e : (10 : Nat) ^ 36 = 1000000000000000000000000000000000000 := by decide
  omega
theorem tw_none {k w : Nat} : TW k w .none := ⟨rfl, Nat.zero_le _, Nat.zero_le _, rfl, rfl⟩
theorem tw_bool {k w : Nat} {b : Bool} : TW k w (.bool b) := ⟨rfl, Nat.zero_le _, Nat.zero_le _, rfl, rfl⟩
theorem tw_tup {k w n : Nat} {l : List PyData} (hn : l.length ≤ n) (q : ∀ x ∈ l, TW k w x) : TW (k + 1) (n * (w + 1)) (.tuple l) := by
  have e1 := depthAll_le fun x hx => (q x hx).dep
  have e2 := weightAll_le fun x hx => (q x hx).wgt
  refine ⟨by simp only [PyData.canLay0]; exact canL_iff.mpr fun x hx => (q x hx).lay, by simp only [PyData.depth]; omega, ?_, by simp only [PyData.intsShort]; exact shortAll_of fun x hx => (q x hx).srt, by simp only [PyData.showable]; exact showAll_of fun x hx => (q x hx).shw⟩
  simp only [PyData.weight]
  exact Nat.le_trans e2 (Nat.mul_le_mul_right _ hn)
theorem repr_tw {k w : Nat} {d : PyData} (q : TW k w d) (hk : k ≤ 64) (hw : w ≤ 399000) : reprOk d := by
  refine ⟨q.shw, Nat.le_trans q.dep hk, ?_, PyData.hasDict_of_canLay d q.lay, ok_shown d q.lay⟩
  have h1 := PyData.shown_le 40 (by decide) d (PyData.leavesShort_of_canLay0 40 d q.lay q.srt)
  have h2 : (40 + 2) * d.weight ≤ (40 + 2) * w := Nat.mul_le_mul_left _ q.wgt
  rw [sizeLine_eq]
  omega
theorem b_repr_tw {k w : Nat} {d : PyData} (h : TW k w d) (hk : k ≤ 64) (hw : w ≤ 399000) : biF .repr [d] = some (.str d.shown) := by
  show (@ite _ (reprOk d) (Classical.propDecidable _) _ _) = _
  rw [if_pos (repr_tw h hk hw)]
end MP
/-! MYA: shared defs (printed by genlib.py) -/
namespace MP
open PySem
/-- is_integer(value): value; in 72 laws -/
def g_is_integer : Fn := ⟨1, 1, false, (.seq (.ret (.and (.bi .isInt (.cons (.var 0) .nil)) (.not (.bi .isBool (.cons (.var 0) .nil))))) .skip)⟩
structure H_is_integer (T : Tab) : Prop where
  me : T.lookup "is_integer" = some g_is_integer
/-- is_between(value, least, most): value, least, most; in 69 laws -/
def g_is_between : Fn := ⟨3, 3, false, (.seq (.ret (.and (.call "is_integer" (.cons (.var 0) .nil)) (.chain .le .le (.var 1) (.var 0) (.var 2)))) .skip)⟩
structure H_is_between (T : Tab) : Prop where
  me : T.lookup "is_between" = some g_is_between
  c_is_integer : H_is_integer T
/-- is_set_for(many, value): many, value, one; in 68 laws -/
def g_is_set_for : Fn := ⟨2, 3, false, (.seq (.ite (.or (.not (.bi .isTup (.cons (.var 1) .nil))) (.not (.bi .all (.cons (.comp (.nm 2) (.itv (.var 1)) .nil (.call "is_between" (.cons (.var 2) (.cons (.lit (.int 0)) (.cons (.bin .sub (.var 0) (.lit (.int 1))) .nil)))) [2]) .nil)))) (.seq (.ret (.lit (.bool false))) .skip) .skip) (.seq (.ret (.cmp .eq (.bi .list (.cons (.var 1) .nil)) (.bi .srtset (.cons (.var 1) .nil)))) .skip))⟩
structure H_is_set_for (T : Tab) : Prop where
  me : T.lookup "is_set_for" = some g_is_set_for
  c_is_between : H_is_between T
/-- are_sets(many, value): many, value, some; in 20 laws -/
def g_are_sets : Fn := ⟨2, 3, false, (.seq (.ite (.or (.not (.bi .isTup (.cons (.var 1) .nil))) (.cmp .gt (.bi .len (.cons (.var 1) .nil)) (.lit (.int 6)))) (.seq (.ret (.lit (.bool false))) .skip) .skip) (.seq (.ret (.bi .all (.cons (.comp (.nm 2) (.itv (.var 1)) .nil (.call "is_set_for" (.cons (.var 0) (.cons (.var 2) .nil))) [2]) .nil))) .skip))⟩
structure H_are_sets (T : Tab) : Prop where
  me : T.lookup "are_sets" = some g_are_sets
  c_is_set_for : H_is_set_for T
/-- is_rules_of(many, value): many, value; in 20 laws -/
def g_is_rules_of : Fn := ⟨2, 2, false, (.seq (.ite (.or (.not (.bi .isTup (.cons (.var 1) .nil))) (.or (.cmp .ne (.bi .len (.cons (.var 1) .nil)) (.lit (.int 3))) (.not (.call "is_set_for" (.cons (.var 0) (.cons (.sub (.var 1) (.lit (.int 0))) .nil)))))) (.seq (.ret (.lit (.bool false))) .skip) .skip) (.seq (.ret (.and (.call "are_sets" (.cons (.var 0) (.cons (.sub (.var 1) (.lit (.int 1))) .nil))) (.call "are_sets" (.cons (.var 0) (.cons (.sub (.var 1) (.lit (.int 2))) .nil))))) .skip))⟩
structure H_is_rules_of (T : Tab) : Prop where
  me : T.lookup "is_rules_of" = some g_is_rules_of
  c_are_sets : H_are_sets T
  c_is_set_for : H_is_set_for T
/-- require_many(value): value; in 20 laws -/
def g_require_many : Fn := ⟨1, 1, false, (.seq (.ite (.not (.call "is_between" (.cons (.var 0) (.cons (.lit (.int 1)) (.cons (.lit (.int 4)) .nil))))) (.seq (.raise "InvalidNumber") .skip) .skip) .skip)⟩
structure H_require_many (T : Tab) : Prop where
  me : T.lookup "require_many" = some g_require_many
  c_is_between : H_is_between T
/-- require_rules(many, value): many, value; in 19 laws -/
def g_require_rules : Fn := ⟨2, 2, false, (.seq (.ex (.call "require_many" (.cons (.var 0) .nil))) (.seq (.ite (.not (.call "is_rules_of" (.cons (.var 0) (.cons (.var 1) .nil)))) (.seq (.raise "InvalidRules") .skip) .skip) .skip))⟩
structure H_require_rules (T : Tab) : Prop where
  me : T.lookup "require_rules" = some g_require_rules
  c_is_rules_of : H_is_rules_of T
  c_require_many : H_require_many T
/-- _law_spread(cell, at): cell, at, primes, mixed, one, rest, two, three; in 77 laws -/
def g_law_spread : Fn := ⟨2, 8, false, (.seq (.ite (.cmp .ge (.var 0) (.bin .pow (.lit (.int 10)) (.lit (.int 18)))) (.seq (.ret (.var 0)) .skip) .skip) (.seq (.set 2 (.lst (.cons (.lit (.int 2147483629)) (.cons (.lit (.int 2147483587)) (.cons (.lit (.int 2147483579)) (.cons (.lit (.int 2147483563)) (.cons (.lit (.int 2147483549)) (.cons (.lit (.int 2147483543)) (.cons (.lit (.int 2147483497)) .nil))))))))) (.seq (.set 2 (.bin .add (.var 2) (.lst (.cons (.lit (.int 2147483489)) (.cons (.lit (.int 2147483477)) (.cons (.lit (.int 2147483423)) (.cons (.lit (.int 2147483399)) (.cons (.lit (.int 2147483353)) (.cons (.lit (.int 2147483323)) .nil))))))))) (.seq (.set 3 (.bin .add (.bin .add (.bin .mul (.bin .mod (.bi .int (.cons (.var 0) .nil)) (.lit (.int 1000000007))) (.bin .add (.bin .mul (.lit (.int 2)) (.var 1)) (.lit (.int 69069)))) (.bin .mul (.var 1) (.lit (.int 40503)))) (.lit (.int 977)))) (.seq (.set 4 (.bin .mod (.bi .int (.cons (.bin .pow (.var 3) (.lit (.int 3))) .nil)) (.sub (.var 2) (.bin .mod (.bi .int (.cons (.var 1) .nil)) (.lit (.int 13)))))) (.seq (.set 5 (.bin .add (.bin .mod (.bi .int (.cons (.var 0) .nil)) (.lit (.int 65537))) (.lit (.int 5)))) (.seq (.set 6 (.bin .mod (.bi .int (.cons (.bin .pow (.bin .add (.bin .mul (.var 4) (.bin .add (.var 1) (.lit (.int 3)))) (.var 5)) (.lit (.int 5))) .nil)) (.sub (.var 2) (.bin .mod (.bi .int (.cons (.bin .add (.var 1) (.lit (.int 5))) .nil)) (.lit (.int 13)))))) (.seq (.set 7 (.bin .mod (.bi .int (.cons (.bin .pow (.bin .add (.bin .add (.var 6) (.bin .mod (.bi .int (.cons (.var 4) .nil)) (.lit (.int 1009)))) (.var 1)) (.lit (.int 3))) .nil)) (.sub (.var 2) (.bin .mod (.bi .int (.cons (.bin .add (.var 1) (.lit (.int 7))) .nil)) (.lit (.int 13)))))) (.seq (.ret (.bin .add (.bin .mul (.bin .add (.bin .mul (.var 4) (.lit (.int 2147483647))) (.var 6)) (.lit (.int 2147483647))) (.var 7))) .skip)))))))))⟩
structure H_law_spread (T : Tab) : Prop where
  me : T.lookup "_law_spread" = some g_law_spread
/-- _law_take(pen, many): pen, many, at, cell, found; in 77 laws -/
def g_law_take : Fn := ⟨2, 5, false, (.seq (.ite (.cmp .lt (.sub (.var 0) (.lit (.int 2))) (.var 1)) (.seq (.set 2 (.sub (.var 0) (.lit (.int 1)))) (.seq (.set 3 (.lit (.int 0))) (.seq (.ite (.cmp .lt (.var 2) (.bi .len (.cons (.sub (.var 0) (.lit (.int 0))) .nil))) (.seq (.set 3 (.sub (.sub (.var 0) (.lit (.int 0))) (.var 2))) .skip) (.seq (.ite (.cmp .gt (.bi .len (.cons (.sub (.var 0) (.lit (.int 0))) .nil)) (.lit (.int 0))) (.seq (.set 3 (.bin .mod (.bi .int (.cons (.sub (.sub (.var 0) (.lit (.int 0))) (.bin .mod (.bi .int (.cons (.bin .add (.bin .mul (.var 2) (.lit (.int 5))) (.lit (.int 3))) .nil)) (.bi .len (.cons (.sub (.var 0) (.lit (.int 0))) .nil)))) .nil)) (.bin .add (.bin .pow (.lit (.int 10)) (.lit (.int 17))) (.var 2)))) .skip) .skip) .skip)) (.seq (.six 0 (.lit (.int 1)) (.bin .add (.var 2) (.lit (.int 1)))) (.seq (.six 0 (.lit (.int 2)) (.call "_law_spread" (.cons (.var 3) (.cons (.var 2) .nil)))) .skip))))) .skip) (.seq (.set 4 (.bin .mod (.bi .int (.cons (.sub (.var 0) (.lit (.int 2))) .nil)) (.var 1))) (.seq (.six 0 (.lit (.int 2)) (.bin .fdiv (.sub (.var 0) (.lit (.int 2))) (.var 1))) (.seq (.ret (.var 4)) .skip))))⟩
structure H_law_take (T : Tab) : Prop where
  me : T.lookup "_law_take" = some g_law_take
  c_law_spread : H_law_spread T
/-- _law_one(pen, some): pen, some; in 77 laws -/
def g_law_one : Fn := ⟨2, 2, false, (.seq (.ret (.sub (.var 1) (.call "_law_take" (.cons (.var 0) (.cons (.bi .len (.cons (.var 1) .nil)) .nil))))) .skip)⟩
structure H_law_one (T : Tab) : Prop where
  me : T.lookup "_law_one" = some g_law_one
  c_law_take : H_law_take T
/-- _law_set(pen, many): pen, many, column; in 28 laws -/
def g_law_set2 : Fn := ⟨2, 3, false, (.seq (.ret (.bi .tuple (.cons (.comp (.nm 2) (.rng1 (.var 1)) (.cons (.cmp .eq (.call "_law_take" (.cons (.var 0) (.cons (.lit (.int 2)) .nil))) (.lit (.int 0))) .nil) (.var 2) [2]) .nil))) .skip)⟩
structure H_law_set2 (T : Tab) : Prop where
  me : T.lookup "_law_set" = some g_law_set2
  c_law_take : H_law_take T
/-- _law_key_rules(pen, many): pen, many, sure, count, possible, known, kept, k, some; in 10 laws -/
def g_law_key_rules : Fn := ⟨2, 9, false, (.seq (.set 2 (.bi .tuple (.cons (.comp (.nm 7) (.rng1 (.call "_law_one" (.cons (.var 0) (.cons (.lst (.cons (.lit (.int 0)) (.cons (.lit (.int 1)) (.cons (.lit (.int 1)) (.cons (.lit (.int 2)) (.cons (.lit (.int 3)) (.cons (.lit (.int 4)) (.cons (.lit (.int 5)) (.cons (.lit (.int 6)) .nil))))))))) .nil)))) .nil (.call "_law_set" (.cons (.var 0) (.cons (.var 1) .nil))) [7]) .nil))) (.seq (.set 3 (.call "_law_one" (.cons (.var 0) (.cons (.lst (.cons (.lit (.int 0)) (.cons (.lit (.int 1)) (.cons (.lit (.int 2)) (.cons (.lit (.int 2)) (.cons (.lit (.int 3)) (.cons (.lit (.int 4)) (.cons (.lit (.int 5)) (.cons (.lit (.int 6)) .nil))))))))) .nil)))) (.seq (.set 4 (.bi .tuple (.cons (.comp (.nm 7) (.rng1 (.var 3)) .nil (.call "_law_set" (.cons (.var 0) (.cons (.var 1) .nil))) [7]) .nil))) (.seq (.set 5 (.call "_law_one" (.cons (.var 0) (.cons (.lst (.cons (.tup .nil) (.cons (.call "_law_set" (.cons (.var 0) (.cons (.var 1) .nil))) (.cons (.call "_law_set" (.cons (.var 0) (.cons (.var 1) .nil))) .nil)))) .nil)))) (.seq (.set 6 (.comp (.nm 8) (.itv (.var 2)) (.cons (.or (.cmp .ne (.var 8) (.tup .nil)) (.cmp .eq (.call "_law_take" (.cons (.var 0) (.cons (.lit (.int 9)) .nil))) (.lit (.int 0)))) .nil) (.var 8) [8])) (.seq (.ret (.tup (.cons (.var 5) (.cons (.bi .tuple (.cons (.var 6) .nil)) (.cons (.var 4) .nil))))) .skip))))))⟩
structure H_law_key_rules (T : Tab) : Prop where
  me : T.lookup "_law_key_rules" = some g_law_key_rules
  c_law_one : H_law_one T
  c_law_set2 : H_law_set2 T
  c_law_take : H_law_take T
/-- is_value(value): value; in 69 laws -/
def g_is_value : Fn := ⟨1, 1, false, (.seq (.ret (.and (.call "is_integer" (.cons (.var 0) .nil)) (.cmp .ge (.var 0) (.lit (.int 0))))) .skip)⟩
structure H_is_value (T : Tab) : Prop where
  me : T.lookup "is_value" = some g_is_value
  c_is_integer : H_is_integer T
/-- _law_meet(first, second, some): first, second, some, column, one, other; in 7 laws -/
def g_law_meet : Fn := ⟨3, 6, false, (.seq (.for_ (.nm 3) (.itv (.var 2)) (.seq (.par 4 5 false false (.sub (.var 0) (.var 3)) (.sub (.var 1) (.var 3))) (.seq (.ite (.and (.isc .none true (.var 4)) (.and (.isc .none true (.var 5)) (.cmp .ne (.var 4) (.var 5)))) (.seq (.ret (.lit (.bool false))) .skip) .skip) .skip))) (.seq (.ret (.lit (.bool true))) .skip))⟩
structure H_law_meet (T : Tab) : Prop where
  me : T.lookup "_law_meet" = some g_law_meet
/-- _law_alike(first, second, some): first, second, some, column; in 7 laws -/
def g_law_alike : Fn := ⟨3, 4, false, (.seq (.for_ (.nm 3) (.itv (.var 2)) (.seq (.ite (.or (.isc .none false (.sub (.var 0) (.var 3))) (.cmp .ne (.sub (.var 0) (.var 3)) (.sub (.var 1) (.var 3)))) (.seq (.ret (.lit (.bool false))) .skip) .skip) .skip)) (.seq (.ret (.lit (.bool true))) .skip))⟩
structure H_law_alike (T : Tab) : Prop where
  me : T.lookup "_law_alike" = some g_law_alike
/-- is_wide_row(many, value): many, value, one; in 16 laws -/
def g_is_wide_row : Fn := ⟨2, 3, false, (.seq (.ite (.or (.not (.bi .isTup (.cons (.var 1) .nil))) (.cmp .ne (.bi .len (.cons (.var 1) .nil)) (.var 0))) (.seq (.ret (.lit (.bool false))) .skip) .skip) (.seq (.ret (.bi .all (.cons (.comp (.nm 2) (.itv (.var 1)) .nil (.or (.isc .none false (.var 2)) (.call "is_value" (.cons (.var 2) .nil))) [2]) .nil))) .skip))⟩
structure H_is_wide_row (T : Tab) : Prop where
  me : T.lookup "is_wide_row" = some g_is_wide_row
  c_is_value : H_is_value T
/-- is_wide_table(many, value): many, value, row; in 16 laws -/
def g_is_wide_table : Fn := ⟨2, 3, false, (.seq (.ite (.or (.not (.bi .isTup (.cons (.var 1) .nil))) (.cmp .gt (.bi .len (.cons (.var 1) .nil)) (.lit (.int 40)))) (.seq (.ret (.lit (.bool false))) .skip) .skip) (.seq (.ret (.bi .all (.cons (.comp (.nm 2) (.itv (.var 1)) .nil (.call "is_wide_row" (.cons (.var 0) (.cons (.var 2) .nil))) [2]) .nil))) .skip))⟩
structure H_is_wide_table (T : Tab) : Prop where
  me : T.lookup "is_wide_table" = some g_is_wide_table
  c_is_wide_row : H_is_wide_row T
/-- do_meet(first, second, some): first, second, some, column; in 38 laws -/
def g_do_meet : Fn := ⟨3, 4, false, (.seq (.ret (.bi .all (.cons (.comp (.nm 3) (.itv (.var 2)) .nil (.or (.isc .none false (.sub (.var 0) (.var 3))) (.cmp .isin (.sub (.var 1) (.var 3)) (.tup (.cons (.lit .none) (.cons (.sub (.var 0) (.var 3)) .nil))))) [3]) .nil))) .skip)⟩
structure H_do_meet (T : Tab) : Prop where
  me : T.lookup "do_meet" = some g_do_meet
/-- are_alike(first, second, some): first, second, some, column; in 45 laws -/
def g_are_alike : Fn := ⟨3, 4, false, (.seq (.ret (.bi .all (.cons (.comp (.nm 3) (.itv (.var 2)) .nil (.and (.isc .none true (.sub (.var 0) (.var 3))) (.cmp .eq (.sub (.var 0) (.var 3)) (.sub (.var 1) (.var 3)))) [3]) .nil))) .skip)⟩
structure H_are_alike (T : Tab) : Prop where
  me : T.lookup "are_alike" = some g_are_alike
/-- is_sure_key(table, some): table, some, k, one, other; in 22 laws -/
def g_is_sure_key : Fn := ⟨2, 5, false, (.seq (.ret (.not (.bi .any (.cons (.comp2 (.tup (.cons (.nm 2) (.cons (.nm 3) .nil))) (.enum (.var 0)) .nil (.nm 4) (.itv (.slc (.var 0) .nil (.cons (.var 2) .nil))) .nil (.call "do_meet" (.cons (.var 3) (.cons (.var 4) (.cons (.var 1) .nil)))) [2, 3, 4] [4]) .nil)))) .skip)⟩
structure H_is_sure_key (T : Tab) : Prop where
  me : T.lookup "is_sure_key" = some g_is_sure_key
  c_do_meet : H_do_meet T
/-- is_possible_key(table, some): table, some, k, one, other; in 16 laws -/
def g_is_possible_key : Fn := ⟨2, 5, false, (.seq (.ret (.not (.bi .any (.cons (.comp2 (.tup (.cons (.nm 2) (.cons (.nm 3) .nil))) (.enum (.var 0)) .nil (.nm 4) (.itv (.slc (.var 0) .nil (.cons (.var 2) .nil))) .nil (.call "are_alike" (.cons (.var 3) (.cons (.var 4) (.cons (.var 1) .nil)))) [2, 3, 4] [4]) .nil)))) .skip)⟩
structure H_is_possible_key (T : Tab) : Prop where
  me : T.lookup "is_possible_key" = some g_is_possible_key
  c_are_alike : H_are_alike T
/-- is_known(rules, table): rules, table, row, column; in 16 laws -/
def g_is_known : Fn := ⟨2, 4, false, (.seq (.ret (.not (.bi .any (.cons (.comp2 (.nm 2) (.itv (.var 1)) .nil (.nm 3) (.itv (.sub (.var 0) (.lit (.int 0)))) .nil (.isc .none false (.sub (.var 2) (.var 3))) [2, 3] [3]) .nil)))) .skip)⟩
structure H_is_known (T : Tab) : Prop where
  me : T.lookup "is_known" = some g_is_known
/-- obeys_rules(rules, table): rules, table, some; in 15 laws -/
def g_obeys_rules : Fn := ⟨2, 3, false, (.seq (.ite (.or (.not (.call "is_known" (.cons (.var 0) (.cons (.var 1) .nil)))) (.not (.bi .all (.cons (.comp (.nm 2) (.itv (.sub (.var 0) (.lit (.int 1)))) .nil (.call "is_sure_key" (.cons (.var 1) (.cons (.var 2) .nil))) [2]) .nil)))) (.seq (.ret (.lit (.bool false))) .skip) .skip) (.seq (.ret (.bi .all (.cons (.comp (.nm 2) (.itv (.sub (.var 0) (.lit (.int 2)))) .nil (.call "is_possible_key" (.cons (.var 1) (.cons (.var 2) .nil))) [2]) .nil))) .skip))⟩
structure H_obeys_rules (T : Tab) : Prop where
  me : T.lookup "obeys_rules" = some g_obeys_rules
  c_is_known : H_is_known T
  c_is_possible_key : H_is_possible_key T
  c_is_sure_key : H_is_sure_key T
/-- obeys(many, rules, value): many, rules, value; in 6 laws -/
def g_obeys : Fn := ⟨3, 3, false, (.seq (.ex (.call "require_rules" (.cons (.var 0) (.cons (.var 1) .nil)))) (.seq (.ret (.and (.call "is_wide_table" (.cons (.var 0) (.cons (.var 2) .nil))) (.call "obeys_rules" (.cons (.var 1) (.cons (.var 2) .nil))))) .skip))⟩
structure H_obeys (T : Tab) : Prop where
  me : T.lookup "obeys" = some g_obeys
  c_is_wide_table : H_is_wide_table T
  c_obeys_rules : H_obeys_rules T
  c_require_rules : H_require_rules T
/-- _law_is_sure(table, some): table, some, k, row; in 6 laws -/
def g_law_is_sure : Fn := ⟨2, 4, false, (.seq (.for_ (.nm 2) (.rng1 (.bi .len (.cons (.var 0) .nil))) (.seq (.ite (.cmp .ne (.comp (.nm 3) (.itv (.slc (.var 0) .nil (.cons (.var 2) .nil))) (.cons (.call "_law_meet" (.cons (.var 3) (.cons (.sub (.var 0) (.var 2)) (.cons (.var 1) .nil)))) .nil) (.var 3) [3]) (.lst .nil)) (.seq (.ret (.lit (.bool false))) .skip) .skip) .skip)) (.seq (.ret (.lit (.bool true))) .skip))⟩
structure H_law_is_sure (T : Tab) : Prop where
  me : T.lookup "_law_is_sure" = some g_law_is_sure
  c_law_meet : H_law_meet T
/-- _law_is_open_key(table, some): table, some, k, row; in 5 laws -/
def g_law_is_open_key : Fn := ⟨2, 4, false, (.seq (.for_ (.nm 2) (.rng1 (.bi .len (.cons (.var 0) .nil))) (.seq (.ite (.cmp .ne (.comp (.nm 3) (.itv (.slc (.var 0) .nil (.cons (.var 2) .nil))) (.cons (.call "_law_alike" (.cons (.var 3) (.cons (.sub (.var 0) (.var 2)) (.cons (.var 1) .nil)))) .nil) (.var 3) [3]) (.lst .nil)) (.seq (.ret (.lit (.bool false))) .skip) .skip) .skip)) (.seq (.ret (.lit (.bool true))) .skip))⟩
structure H_law_is_open_key (T : Tab) : Prop where
  me : T.lookup "_law_is_open_key" = some g_law_is_open_key
  c_law_alike : H_law_alike T
/-- _law_open(script): script, cells, k, cell; in 77 laws -/
def g_law_open : Fn := ⟨1, 4, true, (.seq (.new 1 (.bi .list (.cons (.slc (.var 0) .nil (.cons (.lit (.int 12)) .nil)) .nil))) (.seq (.for_ (.tup (.cons (.nm 2) (.cons (.nm 3) .nil))) (.enum (.slc (.var 0) (.cons (.lit (.int 12)) .nil) (.cons (.lit (.int 63)) .nil))) (.seq (.six 1 (.bin .mod (.bi .int (.cons (.var 2) .nil)) (.lit (.int 12))) (.bin .add (.sub (.var 1) (.bin .mod (.bi .int (.cons (.var 2) .nil)) (.lit (.int 12)))) (.var 3))) .skip)) (.seq (.retn (.lst (.cons (.frz (.var 1)) (.cons (.lit (.int 0)) (.cons (.lit (.int 0)) .nil))))) .skip)))⟩
structure H_law_open (T : Tab) : Prop where
  me : T.lookup "_law_open" = some g_law_open
/-- _law_anew(pen): pen; in 76 laws -/
def g_law_anew : Fn := ⟨1, 1, false, (.seq (.six 0 (.lit (.int 2)) (.lit (.int 0))) (.seq (.ret (.var 0)) .skip))⟩
structure H_law_anew (T : Tab) : Prop where
  me : T.lookup "_law_anew" = some g_law_anew
end MP
/-! MYB: contracts of the shared defs: rules -/
namespace MP
open PySem
/-! ### what the program's defs answer -/
def isI : PyData → Bool
  | .int _ => true
  | _ => false
def isB : PyData → Bool
  | .bool _ => true
  | _ => false
def isT : PyData → Bool
  | .tuple _ => true
  | _ => false
def isBt (lo hi : Int) : PyData → Bool
  | .int i => decide (lo ≤ i) && decide (i ≤ hi)
  | _ => false
def isSet4 (many : Int) : PyData → Bool
  | .tuple l => l.all (isBt 0 (many - 1)) && (match intsOf l with | some ns => decide (ns = srt1 ns) | none => false)
  | _ => false
def isSts (many : Int) : PyData → Bool
  | .tuple l => decide (l.length ≤ 6) && l.all (isSet4 many)
  | _ => false
def isRl (many : Int) : PyData → Bool
  | .tuple [a, b, c] => isSet4 many a && (isSts many b && isSts many c)
  | _ => false
section
variable {T : Tab} {n : Nat} {x : PyData} {m : Mem} {Q : W → Mem → Prop} {X : Xn → Mem → Prop} {many lo hi : Int}
theorem isTup_eq : biF .isTup [x] = some (.bool (isT x)) := by cases x <;> rfl
theorem L_int (H : H_is_integer T) (h : Q (.d (.bool (isI x))) m) : OkX (callN T (n + 1) "is_integer" [.d x] m) Q X := by
  rw [call_of (fn := g_is_integer) H.me ⟨rfl, by decide⟩]
  show OkS (denS _ g_is_integer.body [some (.d x)] m) _
  unfold g_is_integer
  dsimp only
  one_sign
  have e1 : biF .isInt [x] = some (.bool (isI x || isB x)) := by cases x <;> rfl
  have e2 : biF .isBool [x] = some (.bool (isB x)) := by cases x <;> rfl
  refine ⟨_, e1, _, rfl, fun ht => ⟨_, e2, _, rfl, en_d rfl ?_⟩, fun ht => en_d rfl ?_⟩
  · have e : (!isB x) = isI x := by cases x <;> first | rfl | cases ht
    rw [e]; exact h
  · have e : (isI x || isB x) = isI x := by cases x <;> first | rfl | exact absurd rfl ht
    rw [e]; exact h
theorem L_bt (H : H_is_between T) (h : Q (.d (.bool (isBt lo hi x))) m) : OkX (callN T (n + 2) "is_between" [.d x, .d (.int lo), .d (.int hi)] m) Q X := by
  rw [call_of (fn := g_is_between) H.me ⟨rfl, by decide⟩]
  show OkS (denS _ g_is_between.body [some (.d x), some (.d (.int lo)), some (.d (.int hi))] m) _
  unfold g_is_between
  dsimp only
  one_sign
  refine L_int H.c_is_integer ?_
  refine ⟨_, rfl, _, rfl, fun ht => ?_, fun ht => en_d rfl ?_⟩
  · cases x with
    | int i =>
      refine ⟨_, rfl, fun h1 => ⟨_, rfl, en_d rfl ?_⟩, fun h1 => en_d rfl ?_⟩
      · have e : decide (i ≤ hi) = isBt lo hi (.int i) := by simp only [isBt, h1, Bool.true_and]
        rw [e]; exact h
      · have e : false = isBt lo hi (.int i) := by
          have : decide (lo ≤ i) = false := by simpa using h1
          simp only [isBt, this, Bool.false_and]
        rw [e]; exact h
    | _ => cases ht
  · have e : isI x = isBt lo hi x := by cases x <;> first | rfl | exact absurd rfl ht
    rw [e]; exact h
theorem bt_ints {lo hi : Int} : ∀ {l : List PyData}, l.all (isBt lo hi) = true → ∃ ns, l = intD ns
  | [], _ => ⟨[], rfl⟩
  | x :: l, h => by
    simp only [List.all_cons, Bool.and_eq_true] at h
    obtain ⟨ns, rfl⟩ := bt_ints h.2
    cases x with
    | int i => exact ⟨i :: ns, rfl⟩
    | _ => cases h.1
/-- short, where it is a tuple -/
def Sh (x : PyData) : Prop := ∀ l, x = .tuple l → l.length ≤ 60
theorem L_st (H : H_is_set_for T) (hs : Sh x) (h : Q (.d (.bool (isSet4 many x))) m) : OkX (callN T (n + 3) "is_set_for" [.d (.int many), .d x] m) Q X := by
  rw [call_of (fn := g_is_set_for) H.me ⟨rfl, by decide⟩]
  show OkS (denS _ g_is_set_for.body [some (.d (.int many)), some (.d x), none] m) _
  unfold g_is_set_for
  dsimp only
  refine seq_st fun N hN => ?_
  one_sign
  have e1 := isTup_eq (x := x)
  refine ⟨_, e1, _, rfl, ?_⟩
  cases x with
  | tuple l =>
    refine ⟨fun ht => (by cases ht), fun _ => ?_⟩
    rw [e_comp]
    one_sign
    refine ⟨_, rfl, ?_⟩
    have h60 := hs l rfl
    refine ⟨by show l.length ≤ _; rw [sizeLine_eq]; omega, ?_⟩
    refine comp_map (fun y => .bool (isBt 0 (many - 1) y)) l m trivial (fun y hy => ?_) ?_
    · rw [f_comp]
      refine ⟨[some (.d (.int many)), some (.d (.tuple l)), some (.d y)], rfl, ?_⟩
      one_sign
      refine ⟨fun _ => ?_, fun q => (q trivial).elim⟩
      refine L_bt H.c_is_between ?_
      exact ⟨_, rfl, rfl, rfl⟩
    · refine ⟨_, all_map, _, rfl, fun hb => ?_, fun hb => hN _ _ ?_⟩
      · refine en_d rfl ?_
        have hb : l.all (isBt 0 (many - 1)) = false := by simpa using hb
        have e : isSet4 many (.tuple l) = false := by simp only [isSet4, hb, Bool.false_and]
        rw [e] at h; exact h
      · have hb : l.all (isBt 0 (many - 1)) = true := by simpa using hb
        obtain ⟨ns, rfl⟩ := bt_ints hb
        one_sign
        refine ⟨_, rfl, ?_⟩
        have h60' : ns.length ≤ 60 := by rw [← intD_len]; exact h60
        have e3 : biF .srtset [.tuple (intD ns)] = some (.list (intD (srt1 ns))) := by
          show (if (intD ns).length ≤ 60 then (intsOf (intD ns)).map fun b => PyData.list (intD (srt1 b)) else none) = _
          rw [if_pos h60, intsOf_ints]; rfl
        refine ⟨_, e3, _, eq_ints, en_d rfl ?_⟩
        have e : isSet4 many (.tuple (intD ns)) = decide (ns = srt1 ns) := by simp only [isSet4, hb, intsOf_ints, Bool.true_and]
        rw [e] at h; exact h
  | _ =>
    refine ⟨fun _ => ⟨fun _ => en_d rfl h, fun q => absurd rfl q⟩, fun q => absurd rfl q⟩
theorem L_sts (H : H_are_sets T) (hs : ∀ l, x = .tuple l → l.length ≤ 60 ∧ ∀ y ∈ l, Sh y) (h : Q (.d (.bool (isSts many x))) m) : OkX (callN T (n + 4) "are_sets" [.d (.int many), .d x] m) Q X := by
  rw [call_of (fn := g_are_sets) H.me ⟨rfl, by decide⟩]
  show OkS (denS _ g_are_sets.body [some (.d (.int many)), some (.d x), none] m) _
  unfold g_are_sets
  dsimp only
  refine seq_st fun N hN => ?_
  one_sign
  refine ⟨_, isTup_eq, _, rfl, ?_⟩
  cases x with
  | tuple l =>
    refine ⟨fun ht => (by cases ht), fun _ => ?_⟩
    obtain ⟨h60, hsh⟩ := hs l rfl
    refine ⟨_, rfl, _, rfl, fun hb => en_d rfl ?_, fun hb => hN _ _ ?_⟩
    · have e : isSts many (.tuple l) = false := by
        have : ¬ l.length ≤ 6 := by
          have : (6 : Int) < l.length := by simpa using hb
          omega
        simp only [isSts, decide_eq_false this, Bool.false_and]
      rw [e] at h; exact h
    · one_sign
      rw [e_comp]
      one_sign
      refine ⟨_, rfl, ?_⟩
      refine ⟨by show l.length ≤ _; rw [sizeLine_eq]; omega, ?_⟩
      refine comp_map (fun y => .bool (isSet4 many y)) l m trivial (fun y hy => ?_) ?_
      · rw [f_comp]
        refine ⟨[some (.d (.int many)), some (.d (.tuple l)), some (.d y)], rfl, ?_⟩
        one_sign
        refine ⟨fun _ => ?_, fun q => (q trivial).elim⟩
        refine L_st H.c_is_set_for (hsh y hy) ?_
        exact ⟨_, rfl, rfl, rfl⟩
      · refine ⟨_, all_map, en_d rfl ?_⟩
        have e : isSts many (.tuple l) = l.all (isSet4 many) := by
          have : l.length ≤ 6 := by
            have : ¬ (6 : Int) < l.length := by simpa using hb
            omega
          simp only [isSts, decide_eq_true this, Bool.true_and]
        rw [e] at h; exact h
  | _ => refine ⟨fun _ => ⟨fun _ => en_d rfl h, fun q => absurd rfl q⟩, fun q => absurd rfl q⟩
/-- short, three levels deep -/
def Sh3 (x : PyData) : Prop := ∀ l, x = .tuple l → ∀ y ∈ l, Sh y ∧ ∀ k, y = .tuple k → k.length ≤ 60 ∧ ∀ z ∈ k, Sh z
theorem L_rl (H : H_is_rules_of T) (hs : Sh3 x) (h : Q (.d (.bool (isRl many x))) m) : OkX (callN T (n + 5) "is_rules_of" [.d (.int many), .d x] m) Q X := by
  rw [call_of (fn := g_is_rules_of) H.me ⟨rfl, by decide⟩]
  show OkS (denS _ g_is_rules_of.body [some (.d (.int many)), some (.d x)] m) _
  unfold g_is_rules_of
  dsimp only
  refine seq_st fun N hN => ?_
  one_sign
  refine ⟨_, isTup_eq, _, rfl, ?_⟩
  cases x with
  | tuple l =>
    refine ⟨fun ht => (by cases ht), fun _ => ?_⟩
    refine ⟨_, rfl, _, c_neI, fun hb => ?_, fun hb => ?_⟩
    · have hl : l.length ≠ 3 := by
        have : ¬ (l.length : Int) = 3 := by simpa using hb
        omega
      have e : isRl many (.tuple l) = false := by
        rcases l with _ | ⟨a, _ | ⟨b, _ | ⟨c, _ | ⟨d, r⟩⟩⟩⟩ <;> first | rfl | exact absurd rfl hl
      rw [e] at h
      exact ⟨fun _ => en_d rfl h, fun q => (q hb).elim⟩
    · have hl : l.length = 3 := by
        have : (l.length : Int) = 3 := by simpa using hb
        omega
      rcases l with _ | ⟨a, _ | ⟨b, _ | ⟨c, _ | ⟨d, r⟩⟩⟩⟩ <;> simp at hl
      have hsl := hs _ rfl
      have ha := hsl a (by simp)
      have hb' := hsl b (by simp)
      have hc := hsl c (by simp)
      refine ⟨a, rfl, L_st H.c_is_set_for ha.1 ?_⟩
      refine ⟨_, rfl, _, rfl, fun q => en_d rfl ?_, fun q => hN _ _ ?_⟩
      · have : isSet4 many a = false := by simpa using q
        have e : isRl many (.tuple [a, b, c]) = false := by simp only [isRl, this, Bool.false_and]
        rw [e] at h; exact h
      · have h1 : isSet4 many a = true := by simpa using q
        have e : isRl many (.tuple [a, b, c]) = (isSts many b && isSts many c) := by simp only [isRl, h1, Bool.true_and]
        rw [e] at h
        one_sign
        refine ⟨b, rfl, L_sts H.c_are_sets hb'.2 ?_⟩
        refine ⟨_, rfl, _, rfl, fun q => ⟨c, rfl, L_sts H.c_are_sets hc.2 (en_d rfl ?_)⟩, fun q => en_d rfl ?_⟩
        · rw [q, Bool.true_and] at h; exact h
        · have q : isSts many b = false := by simpa using q
          rw [q, Bool.false_and] at h
          rw [q]; exact h
  | _ => refine ⟨fun _ => ⟨fun _ => en_d rfl h, fun q => absurd rfl q⟩, fun q => absurd rfl q⟩
theorem L_many (H : H_require_many T) (h1 : isBt 1 4 x = true → Q (.d .none) m) (h2 : isBt 1 4 x = false → X ⟨"InvalidNumber", none⟩ m) : OkX (callN T (n + 3) "require_many" [.d x] m) Q X := by
  rw [call_of (fn := g_require_many) H.me ⟨rfl, by decide⟩]
  show OkS (denS _ g_require_many.body [some (.d x)] m) _
  unfold g_require_many
  dsimp only
  refine seq_st fun N hN => ?_
  one_sign
  refine L_bt H.c_is_between ?_
  refine ⟨_, rfl, _, rfl, fun hb => ?_, fun hb => hN _ _ (s_end ?_)⟩
  · show cutR m m (X _)
    rw [cutR_id]
    exact h2 (by simpa using hb)
  · show cutR m m (Q _)
    rw [cutR_id]
    exact h1 (by simpa using hb)
theorem sh_tm {k : Nat} (h : tm k x = true) : Sh x := fun l e => by
  subst e
  cases k with
  | zero => cases h
  | succ k => have := (tm_tup.mp h).1; omega
theorem sh3_tm (h : tm 4 x = true) : Sh3 x := fun l e y hy => by
  subst e
  have h1 := (tm_tup.mp h).2 y hy
  refine ⟨sh_tm h1, fun k e => ?_⟩
  subst e
  obtain ⟨h2, h3⟩ := tm_tup.mp h1
  exact ⟨by omega, fun z hz => sh_tm (h3 z hz)⟩
end
end MP
/-! MYC: contracts of shared draws: sets, key rules -/
namespace MP
open PySem
/-! ### draws -/
/-- a good set of column numbers -/
def GS (many : Int) (d : PyData) : Prop := ∃ ns : List Int, d = .tuple (intD ns) ∧ ns.Pairwise (· < ·) ∧ (∀ z ∈ ns, 0 ≤ z ∧ z < many) ∧ ns.length ≤ 4
section
variable {T : Tab} {n k a : Nat} {m : Mem} {Q : W → Mem → Prop} {X : Xn → Mem → Prop} {many : Int}
theorem L_take (H : H_law_take T) {q : Int} (hp : Pen m k a) (ha : a ≤ 1048576) (h1 : 1 ≤ q) (h2 : q < 1073741824) (hQ : ∀ (v : Int) m', 0 ≤ v → v < q → Upd k m m' → Pen m' k (a + 1) → Q (.d (.int v)) m') : OkX (callN T (n + 2) "_law_take" [.ref k, .d (.int q)] m) Q X :=
  p_take H.me H.c_law_spread.me hp ha h1 h2 hQ
theorem L_one (H : H_law_one T) {x : PyData} {l : List PyData} (hp : Pen m k a) (ha : a ≤ 1048576) (hx : x = .list l ∨ x = .tuple l) (h1 : 0 < l.length) (h2 : l.length ≤ 1000000) (hQ : ∀ d m', d ∈ l → Upd k m m' → Pen m' k (a + 1) → Q (.d d) m') : OkX (callN T (n + 3) "_law_one" [.ref k, .d x] m) Q X :=
  p_one H.c_law_take.me H.c_law_take.c_law_spread.me H.me hp ha hx h1 h2 hQ
theorem L_set2 (H : H_law_set2 T) (hp : Pen m k a) (ha : a + 4 ≤ 1048576) (h1 : 1 ≤ many) (h4 : many ≤ 4) (hQ : ∀ d m', GS many d → Upd k m m' → Pen m' k (a + 4) → Q (.d d) m') : OkX (callN T (n + 3) "_law_set" [.ref k, .d (.int many)] m) Q X := by
  rw [call_of (fn := g_law_set2) H.me ⟨rfl, by decide⟩]
  show OkS (denS _ g_law_set2.body [some (.ref k), some (.d (.int many)), none] m) _
  unfold g_law_set2
  dsimp only
  one_sign
  rw [e_comp]
  one_sign
  refine ⟨_, rfl, ⟨by omega, by omega⟩, ?_⟩
  have hlen : (rngD 0 many.toNat).length = many.toNat := rngD_len _ _
  refine ⟨by show (rngD 0 many.toNat).length ≤ _; rw [hlen, sizeLine_eq]; omega, ?_⟩
  refine comp_ok (fun i ys m1 => ∃ ns : List Int, ys = intD ns ∧ ns.Pairwise (· < ·) ∧ (∀ z ∈ ns, 0 ≤ z ∧ z < i) ∧ ns.length ≤ i ∧ Upd k m m1 ∧ Pen m1 k (a + i)) (rngD 0 many.toNat) m ⟨[], rfl, .nil, by simp, Nat.le_refl _, Upd.refl, hp⟩ ?_ ?_
  · rintro i x ys m1 hx ⟨ns, rfl, q1, q2, q3, q4, q5⟩
    obtain ⟨rfl, hi⟩ := rngD_at _ _ _ _ hx
    refine ⟨trivial, ?_⟩
    rw [f_comp]
    refine ⟨[some (.ref k), some (.d (.int many)), some (.d (.int (0 + (i : Int))))], rfl, ?_⟩
    one_sign
    refine L_take H.c_law_take q5 (by omega) (by decide) (by decide) fun v m2 v0 v1 hu hp2 => ?_
    one_sign
    refine ⟨fun _ => ⟨fun _ => ?_, fun q => (q trivial).elim⟩, fun _ => ⟨fun q => (by cases q), fun _ => ⟨ns, rfl, q1, fun z hz => ⟨(q2 z hz).1, by have := (q2 z hz).2; omega⟩, by omega, q4.trans hu, hp2⟩⟩⟩
    refine ⟨ns ++ [0 + (i : Int)], by simp [intD], ?_, ?_, by simp; omega, q4.trans hu, hp2⟩
    · rw [List.pairwise_append]
      refine ⟨q1, by simp, fun z hz y hy => ?_⟩
      simp at hy
      have := (q2 z hz).2
      omega
    · intro z hz
      rcases List.mem_append.mp hz with hz | hz
      · have := q2 z hz; omega
      · simp at hz; omega
  · rintro ys m1 ⟨ns, rfl, q1, q2, q3, q4, q5⟩
    rw [hlen] at q2 q3 q5
    refine ⟨trivial, ?_⟩
    one_sign
    refine en_u q4 q5 (hQ _ _ ⟨ns, rfl, q1, fun z hz => ?_, by omega⟩ q4 (q5.mono (by omega)))
    have := q2 z hz
    omega
/-- what a pen's comprehension over a range gives: each item is good -/
theorem D_sets {P : PyData → Prop} {st : Mem → Prop} {f : PyData → Mem → Res (Option PyData)} {QL : List PyData → Mem → Prop} {c : Nat} (hp : Pen m k a) (l : List PyData) (hst : ∀ m, st m) (hf : ∀ i x m1, l[i]? = some x → Upd k m m1 → Pen m1 k (a + c * i) → OkX (f x m1) (fun y m2 => (∃ d, y = some d ∧ P d) ∧ Upd k m1 m2 ∧ Pen m2 k (a + c * i + c)) fun _ _ => False)
    (hQ : ∀ ys m1, ys.length = l.length → (∀ d ∈ ys, P d) → Upd k m m1 → Pen m1 k (a + c * l.length) → QL ys m1) : OkX (compL st f l m) QL X := by
  refine comp_ok (fun i ys m1 => ys.length = i ∧ (∀ d ∈ ys, P d) ∧ Upd k m m1 ∧ Pen m1 k (a + c * i)) l m ⟨rfl, by simp, Upd.refl, hp⟩ ?_ ?_
  · rintro i x ys m1 hx ⟨h1, h2, h3, h4⟩
    refine ⟨hst _, (hf i x m1 hx h3 h4).imp (fun y m2 h => ?_) fun _ _ z => z⟩
    obtain ⟨⟨d, rfl, hd⟩, hu, hp2⟩ := h
    refine ⟨by simp [h1], fun e he => ?_, h3.trans hu, hp2.mono (by rw [Nat.mul_succ]; omega)⟩
    rcases List.mem_append.mp he with he | he
    · exact h2 e he
    · simp at he; subst he; exact hd
  · rintro ys m1 ⟨h1, h2, h3, h4⟩
    exact ⟨hst _, hQ ys m1 h1 h2 h3 h4⟩
/-- what key rules are drawn: known, sure, possible -/
def GR (many : Int) (d : PyData) : Prop := ∃ x l r, d = .tuple [x, .tuple l, .tuple r] ∧ GS many x ∧ (∀ y ∈ l, GS many y) ∧ (∀ y ∈ r, GS many y) ∧ l.length ≤ 6 ∧ r.length ≤ 6
theorem gs_nil : GS many (.tuple []) := ⟨[], rfl, .nil, by simp, by decide⟩
theorem gs_depth {d : PyData} (h : GS many d) : d.depth ≤ 64 := by
  obtain ⟨ns, rfl, _⟩ := h
  simp only [PyData.depth]
  rw [depthAll_ints]; decide
theorem c_neD {x y : PyData} (h1 : x.depth ≤ 64) (h2 : y.depth ≤ 64) : cmpF .ne x y = some (!PyData.eqv x y) := by
  show (if deepOk x y then some (!PyData.eqv x y) else none) = _
  rw [if_pos ⟨h1, h2⟩]
theorem nums6 {d : PyData} {l : List Int} (hl : ∀ z ∈ l, 0 ≤ z ∧ z ≤ 6) (h : d ∈ intD l) : ∃ c : Int, d = .int c ∧ 0 ≤ c ∧ c ≤ 6 := by
  obtain ⟨z, hz, rfl⟩ := List.mem_map.mp h
  exact ⟨z, rfl, hl z hz⟩
theorem L_kr (H : H_law_key_rules T) (hp : Pen m k a) (ha : a + 100 ≤ 1048576) (h1 : 1 ≤ many) (h4 : many ≤ 4) (hQ : ∀ d m', GR many d → Upd k m m' → Pen m' k (a + 100) → Q (.d d) m') : OkX (callN T (n + 4) "_law_key_rules" [.ref k, .d (.int many)] m) Q X := by
  rw [call_of (fn := g_law_key_rules) H.me ⟨rfl, by decide⟩]
  show OkS (denS _ g_law_key_rules.body [some (.ref k), some (.d (.int many)), none, none, none, none, none, none, none] m) _
  unfold g_law_key_rules
  dsimp only
  refine seq_st fun N hN => ?_
  one_sign
  rw [e_comp]
  one_sign
  refine ⟨by decide, ?_⟩
  refine L_one H.c_law_one (l := intD [0, 1, 1, 2, 3, 4, 5, 6]) hp (by omega) (.inl rfl) (by decide) (by decide) fun d m1 hd hu1 hp1 => ?_
  obtain ⟨c, rfl, c0, c6⟩ := nums6 (by decide) hd
  refine ⟨c, rfl, ⟨by omega, by omega⟩, ?_⟩
  have hlen : (rngD 0 c.toNat).length = c.toNat := rngD_len _ _
  refine ⟨by show (rngD 0 c.toNat).length ≤ _; rw [hlen, sizeLine_eq]; omega, ?_⟩
  refine D_sets (P := GS many) (c := 4) hp1 (rngD 0 c.toNat) (fun _ => trivial) (fun i x m2 hx hu hp2 => ?_) (fun sure m2 hl hs hu2 hp2 => ?_)
  · have hi := (List.getElem?_eq_some_iff.mp hx).1
    rw [hlen] at hi
    rw [f_comp]
    refine ⟨[some (.ref k), some (.d (.int many)), none, none, none, none, none, some (.d x), none], rfl, ?_⟩
    one_sign
    refine ⟨fun _ => L_set2 H.c_law_set2 hp2 (by omega) h1 h4 fun d m2 hd hu hp2 => ⟨d, rfl, hd, hu, hp2⟩, fun q => (q trivial).elim⟩
  · rw [hlen] at hl hp2
    one_sign
    (first | refine hN _ _ ?_ | refine ⟨by decide, hN _ _ ?_⟩ | refine ⟨by decide, by decide, hN _ _ ?_⟩)
    clear hN N
    refine seq_st fun N hN => ?_
    one_sign
    refine ⟨by decide, ?_⟩
    refine L_one H.c_law_one (l := intD [0, 1, 2, 2, 3, 4, 5, 6]) hp2 (by omega) (.inl rfl) (by decide) (by decide) fun d m3 hd hu3 hp3 => ?_
    obtain ⟨c', rfl, c0', c6'⟩ := nums6 (by decide) hd
    (first | refine hN _ _ ?_ | refine ⟨by decide, hN _ _ ?_⟩ | refine ⟨by decide, by decide, hN _ _ ?_⟩)
    clear hN N
    refine seq_st fun N hN => ?_
    one_sign
    rw [e_comp]
    one_sign
    refine ⟨c', rfl, ⟨by omega, by omega⟩, ?_⟩
    have hlen' : (rngD 0 c'.toNat).length = c'.toNat := rngD_len _ _
    refine ⟨by show (rngD 0 c'.toNat).length ≤ _; rw [hlen', sizeLine_eq]; omega, ?_⟩
    refine D_sets (P := GS many) (c := 4) hp3 (rngD 0 c'.toNat) (fun _ => trivial) (fun i x m4 hx hu hp4 => ?_) (fun poss m4 hl4 hs4 hu4 hp4 => ?_)
    · have hi := (List.getElem?_eq_some_iff.mp hx).1
      rw [hlen'] at hi
      rw [f_comp]
      refine ⟨[some (.ref k), some (.d (.int many)), some (.d (.tuple sure)), some (.d (.int c')), none, none, none, some (.d x), none], rfl, ?_⟩
      one_sign
      refine ⟨fun _ => L_set2 H.c_law_set2 hp4 (by omega) h1 h4 fun d m2 hd hu hp2 => ⟨d, rfl, hd, hu, hp2⟩, fun q => (q trivial).elim⟩
    · rw [hlen'] at hl4 hp4
      one_sign
      (first | refine hN _ _ ?_ | refine ⟨by decide, hN _ _ ?_⟩ | refine ⟨by decide, by decide, hN _ _ ?_⟩)
      clear hN N
      refine seq_st fun N hN => ?_
      one_sign
      refine ⟨by decide, L_set2 H.c_law_set2 hp4 (by omega) h1 h4 fun g1 m5 hg1 hu5 hp5 => ?_⟩
      refine L_set2 H.c_law_set2 hp5 (by omega) h1 h4 fun g2 m6 hg2 hu6 hp6 => ?_
      refine ⟨_, rfl, by show 3 ≤ sizeLine; decide, ?_⟩
      refine L_one H.c_law_one (l := [.tuple [], g1, g2]) hp6 (by omega) (.inl rfl) (by show 0 < 3; decide) (by show 3 ≤ 1000000; decide) fun known m7 hd hu7 hp7 => ?_
      have hk : GS many known := by
        simp only [List.mem_cons, List.not_mem_nil, or_false] at hd
        rcases hd with rfl | rfl | rfl
        · exact gs_nil
        · exact hg1
        · exact hg2
      (first | refine hN _ _ ?_ | refine ⟨by decide, hN _ _ ?_⟩ | refine ⟨by decide, by decide, hN _ _ ?_⟩)
      clear hN N
      refine seq_st fun N hN => ?_
      one_sign
      rw [e_comp]
      one_sign
      refine ⟨_, rfl, by show sure.length ≤ _; rw [sizeLine_eq]; omega, ?_⟩
      refine comp_ok (fun i ys m1 => ys.length ≤ i ∧ (∀ y ∈ ys, GS many y) ∧ Upd k m7 m1 ∧ Pen m1 k (a + 90 + i)) sure m7 ⟨Nat.le_refl _, by simp, Upd.refl, hp7.mono (by omega)⟩ ?_ ?_
      · rintro i x ys m8 hx ⟨q1, q2, q3, q4⟩
        have hi := (List.getElem?_eq_some_iff.mp hx).1
        have hgx := hs x (List.mem_of_getElem? hx)
        refine ⟨trivial, ?_⟩
        rw [f_comp]
        refine ⟨[some (.ref k), some (.d (.int many)), some (.d (.tuple sure)), some (.d (.int c')), some (.d (.tuple poss)), some (.d known), none, none, some (.d x)], rfl, ?_⟩
        one_sign
        refine ⟨by decide, _, c_neD (gs_depth hgx) (by decide), ?_⟩
        have yes : ∀ m9 b, Upd k m7 m9 → Pen m9 k b → b ≤ a + 90 + (i + 1) → (ys ++ [x]).length ≤ i + 1 ∧ (∀ y ∈ ys ++ [x], GS many y) ∧ Upd k m7 m9 ∧ Pen m9 k (a + 90 + (i + 1)) := fun m9 b hu hp hb =>
          ⟨by simp; omega, fun y hy => by
            rcases List.mem_append.mp hy with hy | hy
            · exact q2 y hy
            · simp at hy; rw [hy]; exact hgx, hu, hp.mono hb⟩
        refine ⟨fun h => ⟨fun _ => ⟨fun _ => yes m8 _ q3 q4 (by omega), fun q => (q trivial).elim⟩, fun q => (q h).elim⟩, fun _ => L_take H.c_law_take q4 (by omega) (by decide) (by decide) fun v m9 v0 v1 hu hp9 => ?_⟩
        refine ⟨_, rfl, _, c_eqI, fun _ => ⟨fun _ => yes m9 _ (q3.trans hu) hp9 (by omega), fun q => (q trivial).elim⟩, fun _ => ⟨fun q => (by cases q), fun _ => ⟨by omega, q2, q3.trans hu, hp9.mono (by omega)⟩⟩⟩
      · rintro ys m8 ⟨q1, q2, q3, q4⟩
        refine ⟨trivial, ?_⟩
        one_sign
        (first | refine hN _ _ ?_ | refine ⟨by decide, hN _ _ ?_⟩ | refine ⟨by decide, by decide, hN _ _ ?_⟩)
        clear hN N
        one_sign
        have hu := hu1.trans (hu2.trans (hu3.trans (hu4.trans (hu5.trans (hu6.trans (hu7.trans q3))))))
        refine ⟨by show 3 ≤ sizeLine; decide, en_u hu q4 (hQ _ _ ⟨known, ys, poss, rfl, hk, q2, hs4, by omega, by omega⟩ hu (q4.mono (by omega)))⟩
theorem gs_tm {d : PyData} (h4 : many ≤ 4) (h : GS many d) : tm 1 d = true := by
  obtain ⟨ns, rfl, _, h2, h3⟩ := h
  refine tm_tup.mpr ⟨by rw [intD_len]; omega, fun x hx => ?_⟩
  obtain ⟨z, hz, rfl⟩ := List.mem_map.mp hx
  have := h2 z hz
  exact tm_int.mpr ⟨by omega, by omega⟩
theorem tm_up : ∀ (k : Nat) (d : PyData), tm k d = true → tm (k + 1) d = true
  | k, .none, _ => rfl
  | k, .bool _, _ => rfl
  | k, .int i, h => tm_int.mpr (tm_int.mp h)
  | k, .str x, h => by cases k <;> exact h
  | 0, .list _, h => by cases h
  | 0, .tuple _, h => by cases h
  | k, .dict _, h => by cases k <;> cases h
  | k + 1, .list l, h => by
    obtain ⟨h1, h2⟩ := tm_list.mp h
    exact tm_list.mpr ⟨h1, fun x hx => tm_up k x (h2 x hx)⟩
  | k + 1, .tuple l, h => by
    obtain ⟨h1, h2⟩ := tm_tup.mp h
    exact tm_tup.mpr ⟨h1, fun x hx => tm_up k x (h2 x hx)⟩
theorem srt1_of : ∀ {ns : List Int}, ns.Pairwise (· < ·) → srt1 ns = ns := fun {ns} h => asc_uniq (srt1_srt ns) h fun y => srt1_mem
theorem gs_st {d : PyData} (h : GS many d) : isSet4 many d = true := by
  obtain ⟨ns, rfl, h1, h2, h3⟩ := h
  simp only [isSet4, Bool.and_eq_true, List.all_eq_true, intsOf_ints, decide_eq_true_eq]
  refine ⟨fun x hx => ?_, (srt1_of h1).symm⟩
  obtain ⟨z, hz, rfl⟩ := List.mem_map.mp hx
  have := h2 z hz
  simp only [isBt, Bool.and_eq_true, decide_eq_true_eq]
  omega
end
end MP
/-! MYD: contracts of shared defs: what follows from key rules -/
namespace MP
open PySem
/-! ### sets of numbers, comprehensions -/
abbrev tD (s : List Int) : PyData := .tuple (intD s)
/-- good columns, for many of them -/
structure GI (many : Int) (s : List Int) : Prop where
  asc : s.Pairwise (· < ·)
  bd : ∀ z ∈ s, 0 ≤ z ∧ z < many
  len : s.length ≤ 4
theorem gi_gs {many : Int} {s : List Int} (h : GI many s) : GS many (tD s) := ⟨s, rfl, h.asc, h.bd, h.len⟩
theorem gs_gi {many : Int} {d : PyData} (h : GS many d) : ∃ s, d = tD s ∧ GI many s := let ⟨s, e, h1, h2, h3⟩ := h; ⟨s, e, h1, h2, h3⟩
theorem gs_list {many : Int} : ∀ {l : List PyData}, (∀ d ∈ l, GS many d) → ∃ S : List (List Int), l = S.map tD ∧ ∀ s ∈ S, GI many s
  | [], _ => ⟨[], rfl, by simp⟩
  | d :: l, h => by
    obtain ⟨s, rfl, hs⟩ := gs_gi (h d (by simp))
    obtain ⟨S, rfl, hS⟩ := gs_list (l := l) fun y hy => h y (List.mem_cons_of_mem _ hy)
    refine ⟨s :: S, rfl, fun t ht => ?_⟩
    rcases List.mem_cons.mp ht with rfl | ht
    · exact hs
    · exact hS t ht
theorem c_neNil {l : List PyData} (h : (PyData.list l).depth ≤ 64) : cmpF .ne (.list l) (.list []) = some (!l.isEmpty) := by
  show (if deepOk (.list l) (.list []) then some (!PyData.eqv (.list l) (.list [])) else none) = _
  rw [if_pos ⟨h, by decide⟩]
  cases l <;> simp [PyData.eqv, PyData.eqvAll]
/-- a pure comprehension over items that come from a list -/
theorem comp_fm {α : Type} {st : Mem → Prop} {f : PyData → Mem → Res (Option PyData)} {QL : List PyData → Mem → Prop} {X : Xn → Mem → Prop} (g : α → PyData) (F : α → Option PyData) (L : List α) (m : Mem) (hst : st m) (hf : ∀ a ∈ L, OkX (f (g a) m) (fun y m1 => y = F a ∧ m1 = m) fun _ _ => False) (hQ : QL (L.filterMap F) m) :
    OkX (compL st f (L.map g) m) QL X := by
  refine comp_ok (fun i ys m1 => m1 = m ∧ ys = (L.take i).filterMap F) (L.map g) m ⟨rfl, by simp⟩ ?_ ?_
  · rintro i x ys m1 hx ⟨rfl, rfl⟩
    rw [List.getElem?_map] at hx
    cases ha : L[i]? with
    | none => rw [ha] at hx; cases hx
    | some a =>
      rw [ha] at hx
      cases hx
      refine ⟨hst, (hf a (List.mem_of_getElem? ha)).imp (fun y m2 h => ?_) fun _ _ z => z⟩
      obtain ⟨rfl, rfl⟩ := h
      refine ⟨rfl, ?_⟩
      rw [List.take_add_one, ha, List.filterMap_append]
      cases hF : F a <;> simp [hF]
  · rintro ys m1 ⟨rfl, rfl⟩
    rw [List.length_map, List.take_length]
    exact ⟨hst, hQ⟩
theorem fm_map {α β : Type} (F : α → β) (L : List α) : L.filterMap (fun a => some (F a)) = L.map F := by
  induction L with
  | nil => rfl
  | cons a L ih => simp [ih]
theorem fm_filter {α β : Type} (p : α → Bool) (F : α → β) (L : List α) : L.filterMap (fun a => if p a then some (F a) else none) = (L.filter p).map F := by
  induction L with
  | nil => rfl
  | cons a L ih =>
    cases h : p a <;> simp [h, ih]
theorem all_mapA {α : Type} {l : List α} {f : α → Bool} : biF .all [.list (l.map fun y => PyData.bool (f y))] = some (.bool (l.all f)) := by
  show (boolsOf _).map _ = _
  rw [bools_map]
  simp [List.all_map]
theorem any_mapA {α : Type} {l : List α} {f : α → Bool} : biF .any [.list (l.map fun y => PyData.bool (f y))] = some (.bool (l.any f)) := by
  show (boolsOf _).map _ = _
  rw [bools_map]
  simp [List.any_map]
/-! ### kinds -/
/-! ### rules -/
abbrev rD (K : List Int) (S P : List (List Int)) : PyData := .tuple [tD K, .tuple (S.map tD), .tuple (P.map tD)]
structure GRI (many : Int) (K : List Int) (S P : List (List Int)) : Prop where
  k : GI many K
  s : ∀ s ∈ S, GI many s
  p : ∀ s ∈ P, GI many s
  ls : S.length ≤ 6
  lp : P.length ≤ 6
theorem gr_i {many : Int} {d : PyData} (h : GR many d) : ∃ K S P, d = rD K S P ∧ GRI many K S P := by
  obtain ⟨x, l, r, rfl, h1, h2, h3, h4, h5⟩ := h
  obtain ⟨K, rfl, hK⟩ := gs_gi h1
  obtain ⟨S, rfl, hS⟩ := gs_list h2
  obtain ⟨P, rfl, hP⟩ := gs_list h3
  exact ⟨K, S, P, rfl, hK, hS, hP, by simpa using h4, by simpa using h5⟩
section
variable {T : Tab} {n k a : Nat} {m : Mem} {Q : W → Mem → Prop} {X : Xn → Mem → Prop} {many : Int} {K s o : List Int} {S P : List (List Int)} {kd : Bool}
theorem L_rrules (H : H_require_rules T) {x y : PyData} (hs : isBt 1 4 x = true → ∀ k, x = .int k → Sh3 y) (h0 : isBt 1 4 x = false → X ⟨"InvalidNumber", none⟩ m) (h1 : ∀ k, x = .int k → isBt 1 4 x = true → isRl k y = false → X ⟨"InvalidRules", none⟩ m)
    (h2 : ∀ k, x = .int k → isBt 1 4 x = true → isRl k y = true → Q (.d .none) m) : OkX (callN T (n + 6) "require_rules" [.d x, .d y] m) Q X := by
  rw [call_of (fn := g_require_rules) H.me ⟨rfl, by decide⟩]
  show OkS (denS _ g_require_rules.body [some (.d x), some (.d y)] m) _
  unfold g_require_rules
  dsimp only
  refine seq_st fun N hN => ?_
  one_sign
  refine L_many H.c_require_many (fun hb => ?_) (fun hb => ?_)
  · refine hN _ _ ?_
    clear hN N
    cases x with
    | int k =>
      refine seq_st fun N hN => ?_
      one_sign
      refine L_rl H.c_is_rules_of (hs hb k rfl) ?_
      refine ⟨_, rfl, _, rfl, fun hr => ?_, fun hr => hN _ _ (s_end ?_)⟩
      · show cutR m m (X _)
        rw [cutR_id]
        exact h1 k rfl hb (by simpa using hr)
      · show cutR m m (Q _)
        rw [cutR_id]
        exact h2 k rfl hb (by simpa using hr)
    | _ => cases hb
  · show cutR m m (X _)
    rw [cutR_id]
    exact h0 hb
theorem bt_of {lo hi i : Int} (h1 : lo ≤ i) (h2 : i ≤ hi) : isBt lo hi (.int i) = true := by simp only [isBt, decide_eq_true h1, decide_eq_true h2, Bool.and_self]
theorem tpl' {k : Nat} {l : List PyData} (h1 : l.length ≤ 9) (h : ∀ x ∈ l, tm k x = true) : tm (k + 1) (.tuple l) = true := tm_tup.mpr ⟨h1, h⟩
theorem gi_tm (h4 : many ≤ 4) (h : GI many s) : tm 1 (tD s) = true := gs_tm h4 (gi_gs h)
theorem gis_tm (h4 : many ≤ 4) (h : ∀ s ∈ S, GI many s) (hl : S.length ≤ 9) : tm 2 (.tuple (S.map tD)) = true := tpl' (by simpa using hl) fun y hy => by
  obtain ⟨s, hs, rfl⟩ := List.mem_map.mp hy
  exact gi_tm h4 (h s hs)
theorem gri_tm (h4 : many ≤ 4) (h : GRI many K S P) : tm 4 (rD K S P) = true := tpl' (by show 3 ≤ 9; decide) fun w hw => by
  simp only [List.mem_cons, List.not_mem_nil, or_false] at hw
  rcases hw with rfl | rfl | rfl
  · exact tm_up 2 _ (tm_up 1 _ (gi_tm h4 h.k))
  · exact tm_up 2 _ (gis_tm h4 h.s (by have := h.ls; omega))
  · exact tm_up 2 _ (gis_tm h4 h.p (by have := h.lp; omega))
theorem gi_sts (h : ∀ s ∈ S, GI many s) (hl : S.length ≤ 6) : isSts many (.tuple (S.map tD)) = true := by
  simp only [isSts, Bool.and_eq_true, decide_eq_true_eq, List.all_eq_true, List.length_map]
  refine ⟨hl, fun y hy => ?_⟩
  obtain ⟨s, hs, rfl⟩ := List.mem_map.mp hy
  exact gs_st (gi_gs (h s hs))
theorem gri_rl (h : GRI many K S P) : isRl many (rD K S P) = true := by
  simp only [isRl, gs_st (gi_gs h.k), gi_sts h.s h.ls, gi_sts h.p h.lp, Bool.and_self]
/-- good rules are not refused -/
theorem L_rrulesG (H : H_require_rules T) (hm1 : 1 ≤ many) (h4 : many ≤ 4) (h : GRI many K S P) (hq : Q (.d .none) m) : OkX (callN T (n + 6) "require_rules" [.d (.int many), .d (rD K S P)] m) Q X := by
  refine L_rrules H (fun _ _ _ => sh3_tm (gri_tm h4 h)) (fun q => ?_) (fun k e _ q => ?_) (fun _ _ _ _ => hq)
  · rw [bt_of hm1 h4] at q; cases q
  · cases e; rw [gri_rl h] at q; cases q
end
end MP
/-! MYE: contracts of shared defs: reasons, tables against, subsets -/
namespace MP
open PySem
/-! ### items of enumerate, range -/
theorem enumD_at0 {l : List PyData} {i : Nat} {d : PyData} (h : (enumD 0 l)[i]? = some d) : ∃ y, l[i]? = some y ∧ d = .tuple [.int (i : Int), y] := by
  obtain ⟨y, h1, h2⟩ := enumD_at _ _ _ _ h
  rw [Nat.zero_add] at h2
  exact ⟨y, h1, h2⟩
theorem map_at {α : Type} {g : α → PyData} {L : List α} {i : Nat} {x : PyData} (h : (L.map g)[i]? = some x) : ∃ a, L[i]? = some a ∧ x = g a := by
  rw [List.getElem?_map] at h
  cases ha : L[i]? with
  | none => rw [ha] at h; cases h
  | some a => rw [ha] at h; cases h; exact ⟨a, rfl, rfl⟩
/-! ### rows -/
def oD : Option Int → PyData
  | none => .none
  | some i => .int i
abbrev rowD (r : List (Option Int)) : PyData := .tuple (r.map oD)
def meetC : Option Int → Option Int → Bool
  | some x, some y => decide (x = y)
  | _, _ => true
def alikeC : Option Int → Option Int → Bool
  | some x, some y => decide (x = y)
  | _, _ => false
def gC (r : List (Option Int)) (c : Int) : Option Int := r.getD c.toNat none
def meet (r1 r2 : List (Option Int)) (s : List Int) : Bool := s.all fun c => meetC (gC r1 c) (gC r2 c)
def alike (r1 r2 : List (Option Int)) (s : List Int) : Bool := s.all fun c => alikeC (gC r1 c) (gC r2 c)
theorem ix_row {r : List (Option Int)} {i : Int} (h0 : 0 ≤ i) (h1 : i < r.length) : ixF (r.map oD) i = some (oD (gC r i)) := by
  unfold ixF gC
  rw [if_pos h0, List.getElem?_map]
  have : i.toNat < r.length := by omega
  simp [this, List.getD]
theorem c_neO {a b : Option Int} : cmpF .ne (oD a) (oD b) = some (!decide (a = b)) := by
  cases a <;> cases b
  · rfl
  · rfl
  · rfl
  · show cmpF .ne (.int _) (.int _) = _
    rw [c_neI]; simp
theorem c_eqO {a b : Option Int} : cmpF .eq (oD a) (oD b) = some (decide (a = b)) := by
  cases a <;> cases b
  · rfl
  · rfl
  · rfl
  · show cmpF .eq (.int _) (.int _) = _
    rw [c_eqI]; simp
/-- all sets of columns, as the laws list them -/
def sets : Nat → List (List Int)
  | 0 => [[]]
  | n + 1 => sets n ++ (sets n).map fun s => s ++ [(n : Int)]
section
variable {T : Tab} {n k a : Nat} {m : Mem} {Q : W → Mem → Prop} {X : Xn → Mem → Prop} {many : Int} {K s o : List Int} {S P : List (List Int)} {kd : Bool} {r1 r2 : List (Option Int)}
theorem all_take {p : Int → Bool} {i : Nat} {z : Int} (hz : s[i]? = some z) : (s.take (i + 1)).all p = ((s.take i).all p && p z) := by
  rw [List.take_add_one, hz, List.all_append]; simp
theorem L_lmeet (H : H_law_meet T) (h1 : ∀ z ∈ s, 0 ≤ z ∧ z < r1.length) (h2 : ∀ z ∈ s, z < r2.length) (h : Q (.d (.bool (meet r1 r2 s))) m) : OkX (callN T (n + 1) "_law_meet" [.d (rowD r1), .d (rowD r2), .d (tD s)] m) Q X := by
  rw [call_of (fn := g_law_meet) H.me ⟨rfl, by decide⟩]
  show OkS (denS _ g_law_meet.body [some (.d (rowD r1)), some (.d (rowD r2)), some (.d (tD s)), none, none, none] m) _
  unfold g_law_meet
  dsimp only
  refine seq_st fun N hN => ?_
  rw [s_for]
  one_sign
  refine ⟨_, rfl, ?_⟩
  refine for_ok (fun i v m2 => m2 = m ∧ (s.take i).all (fun c => meetC (gC r1 c) (gC r2 c)) = true ∧ ∃ x3 x4 x5, v = [some (.d (rowD r1)), some (.d (rowD r2)), some (.d (tD s)), x3, x4, x5]) _ _ _ ⟨rfl, rfl, _, _, _, rfl⟩ ?_ ?_
  · rintro i x v m2 hx ⟨rfl, hb, x3, x4, x5, rfl⟩
    obtain ⟨z, hz, rfl⟩ := map_at (g := PyData.int) hx
    have hzm := List.mem_of_getElem? hz
    refine ⟨trivial, ?_⟩
    rw [f_for]
    refine ⟨[some (.d (rowD r1)), some (.d (rowD r2)), some (.d (tD s)), some (.d (.int z)), x4, x5], rfl, ?_⟩
    refine seq_st fun N2 hN2 => ?_
    one_sign
    refine ⟨_, ix_row (h1 z hzm).1 (h1 z hzm).2, _, ix_row (h1 z hzm).1 (h2 z hzm), by decide, hN2 _ _ ?_⟩
    clear hN2 N2
    refine seq_st fun N2 hN2 => ?_
    one_sign
    have good : meetC (gC r1 z) (gC r2 z) = true → N2 [some (.d (rowD r1)), some (.d (rowD r2)), some (.d (tD s)), some (.d (.int z)), some (.d (oD (gC r1 z))), some (.d (oD (gC r2 z)))] m2 := fun q =>
      hN2 _ _ (s_end ⟨rfl, by rw [all_take hz, hb, q]; rfl, _, _, _, rfl⟩)
    have bad : meetC (gC r1 z) (gC r2 z) = false → Q (.d (.bool false)) m2 := fun q => by
      have e : meet r1 r2 s = false := by
        unfold meet
        rw [List.all_eq_false]
        exact ⟨z, hzm, by simp [q]⟩
      rw [e] at h; exact h
    refine ⟨fun q1 => ⟨fun q2 => ⟨_, c_neO, fun q3 => en_d rfl (bad ?_), fun q3 => good ?_⟩, fun q2 => ⟨fun q => absurd q q2, fun _ => good ?_⟩⟩, fun q1 => ⟨fun q => absurd q q1, fun _ => good ?_⟩⟩
    all_goals ((try revert q3); (try revert q2); revert q1; cases gC r1 z <;> cases gC r2 z <;> simp [oD, isF, meetC])
  · rintro v m2 ⟨rfl, hb, x3, x4, x5, rfl⟩
    refine ⟨trivial, hN _ _ ?_⟩
    have e3 : (intD s).length = s.length := intD_len
    have e4 : s.take (Src.items (intD s)).list.length = s := by
      show s.take (intD s).length = s
      rw [e3, List.take_length]
    rw [e4] at hb
    one_sign
    have e : meet r1 r2 s = true := hb
    rw [e] at h
    exact en_d rfl h
theorem L_lalike (H : H_law_alike T) (h1 : ∀ z ∈ s, 0 ≤ z ∧ z < r1.length) (h2 : ∀ z ∈ s, z < r2.length) (h : Q (.d (.bool (alike r1 r2 s))) m) : OkX (callN T (n + 1) "_law_alike" [.d (rowD r1), .d (rowD r2), .d (tD s)] m) Q X := by
  rw [call_of (fn := g_law_alike) H.me ⟨rfl, by decide⟩]
  show OkS (denS _ g_law_alike.body [some (.d (rowD r1)), some (.d (rowD r2)), some (.d (tD s)), none] m) _
  unfold g_law_alike
  dsimp only
  refine seq_st fun N hN => ?_
  rw [s_for]
  one_sign
  refine ⟨_, rfl, ?_⟩
  refine for_ok (fun i v m2 => m2 = m ∧ (s.take i).all (fun c => alikeC (gC r1 c) (gC r2 c)) = true ∧ ∃ x3, v = [some (.d (rowD r1)), some (.d (rowD r2)), some (.d (tD s)), x3]) _ _ _ ⟨rfl, rfl, _, rfl⟩ ?_ ?_
  · rintro i x v m2 hx ⟨rfl, hb, x3, rfl⟩
    obtain ⟨z, hz, rfl⟩ := map_at (g := PyData.int) hx
    have hzm := List.mem_of_getElem? hz
    refine ⟨trivial, ?_⟩
    rw [f_for]
    refine ⟨[some (.d (rowD r1)), some (.d (rowD r2)), some (.d (tD s)), some (.d (.int z))], rfl, ?_⟩
    refine seq_st fun N2 hN2 => ?_
    one_sign
    have good : alikeC (gC r1 z) (gC r2 z) = true → N2 [some (.d (rowD r1)), some (.d (rowD r2)), some (.d (tD s)), some (.d (.int z))] m2 := fun q =>
      hN2 _ _ (s_end ⟨rfl, by rw [all_take hz, hb, q]; rfl, _, rfl⟩)
    have bad : alikeC (gC r1 z) (gC r2 z) = false → Q (.d (.bool false)) m2 := fun q => by
      have e : alike r1 r2 s = false := by
        unfold alike
        rw [List.all_eq_false]
        exact ⟨z, hzm, by simp [q]⟩
      rw [e] at h; exact h
    refine ⟨_, ix_row (h1 z hzm).1 (h1 z hzm).2, fun q1 => ⟨fun _ => en_d rfl (bad ?_), fun q => absurd q1 q⟩, fun q1 => ⟨_, ix_row (h1 z hzm).1 (h1 z hzm).2, _, ix_row (h1 z hzm).1 (h2 z hzm), _, c_neO, fun q2 => en_d rfl (bad ?_), fun q2 => good ?_⟩⟩
    all_goals ((try revert q2); revert q1; cases gC r1 z <;> cases gC r2 z <;> simp [oD, isF, alikeC])
  · rintro v m2 ⟨rfl, hb, x3, rfl⟩
    refine ⟨trivial, hN _ _ ?_⟩
    have e3 : (intD s).length = s.length := intD_len
    have e4 : s.take (Src.items (intD s)).list.length = s := by
      show s.take (intD s).length = s
      rw [e3, List.take_length]
    rw [e4] at hb
    one_sign
    have e : alike r1 r2 s = true := hb
    rw [e] at h
    exact en_d rfl h
end
end MP
/-! MYF: contracts of shared defs: all sets by size, least keys, bars -/
namespace MP
open PySem
/-! ### comprehensions of two clauses -/
section
variable {cf : CallF} {v : Vr} {m : Mem} {Q : W → Mem → Prop} {X : Xn → Mem → Prop} {g g1 : Tg} {it1 ifs ifs1 elt : E} {vs vs1 : List Nat}
theorem compLL_fm {α : Type} {st : Mem → Prop} {f : PyData → Mem → Res (List PyData)} {QL : List PyData → Mem → Prop} (g : α → PyData) (F : α → List PyData) (m : Mem) (hst : st m) : ∀ (L : List α), (∀ a ∈ L, OkX (f (g a) m) (fun y m1 => y = F a ∧ m1 = m) fun _ _ => False) → ∀ {QL : List PyData → Mem → Prop}, QL (L.flatMap F) m →
    OkX (compLL st f (L.map g) m) QL X
  | [], _, QL, hQ => by
    show OkX (compLL st f [] m) QL X
    unfold compLL
    rw [if_pos hst]
    exact hQ
  | a :: L, hf, QL, hQ => by
    show OkX (compLL st f (g a :: L.map g) m) QL X
    unfold compLL
    rw [if_pos hst, x_bind]
    refine (hf a (by simp)).imp (fun y m1 h => ?_) fun _ _ z => z.elim
    obtain ⟨rfl, rfl⟩ := h
    rw [x_bind]
    refine compLL_fm (QL := QL) g F m1 hst L (fun b hb => hf b (List.mem_cons_of_mem _ hb)) ?_
    rw [List.flatMap_cons] at hQ
    exact hQ
end
/-! ### the sets by size -/
/-! ### sorted -/
theorem pen_app {m : Mem} {k a : Nat} {c : Cell} (h : Pen m k a) : Pen (m ++ [c]) k a := by
  obtain ⟨cs, p, x, h1, h2⟩ := h
  exact ⟨cs, p, x, by rw [List.getElem?_append_left (List.getElem?_eq_some_iff.mp h1).1]; exact h1, h2⟩
theorem pen_set {m : Mem} {k a q : Nat} {c : Cell} (h : Pen m k a) (hq : q ≠ k) : Pen (m.set q c) k a := by
  obtain ⟨cs, p, x, h1, h2⟩ := h
  exact ⟨cs, p, x, by rw [List.getElem?_set_ne hq]; exact h1, h2⟩
section
variable {T : Tab} {n k a : Nat} {m : Mem} {Q : W → Mem → Prop} {X : Xn → Mem → Prop} {many : Int} {K s o : List Int} {S P : List (List Int)} {kd : Bool} {D : En}
end
end MP
/-! MYG: contracts of shared defs: least keys, bars -/
namespace MP
open PySem
section
variable {T : Tab} {n k a : Nat} {m : Mem} {Q : W → Mem → Prop} {X : Xn → Mem → Prop} {many : Int} {K s o : List Int} {S P : List (List Int)} {kd : Bool} {D : En}
end
end MP
/-! MYH: contracts of shared defs: tables that obey key rules -/
namespace MP
open PySem
abbrev tabD (tb : List (List (Option Int))) : PyData := .tuple (tb.map rowD)
def sureK (tb : List (List (Option Int))) (s : List Int) : Bool := (List.range tb.length).all fun k => (tb.take k).all fun o => !meet (tb.getD k []) o s
def possK (tb : List (List (Option Int))) (s : List Int) : Bool := (List.range tb.length).all fun k => (tb.take k).all fun o => !alike (tb.getD k []) o s
def knwn (K : List Int) (tb : List (List (Option Int))) : Bool := tb.all fun r => K.all fun c => (gC r c).isSome
def oby (K : List Int) (S P : List (List Int)) (tb : List (List (Option Int))) : Bool := knwn K tb && (S.all (sureK tb) && P.all (possK tb))
theorem meetC_comm {a b : Option Int} : meetC a b = meetC b a := by
  cases a <;> cases b <;> simp [meetC, eq_comm]
theorem alikeC_comm {a b : Option Int} : alikeC a b = alikeC b a := by
  cases a <;> cases b <;> simp [alikeC, eq_comm]
theorem meet_comm {r1 r2 : List (Option Int)} {s : List Int} : meet r1 r2 s = meet r2 r1 s := by
  unfold meet
  congr 1; funext c; exact meetC_comm
theorem alike_comm {r1 r2 : List (Option Int)} {s : List Int} : alike r1 r2 s = alike r2 r1 s := by
  unfold alike
  congr 1; funext c; exact alikeC_comm
theorem cut_take {l : List PyData} {j : Nat} (h : j ≤ l.length) : cutF l none (some (j : Int)) = l.take j := by
  unfold cutF
  rw [HT.sIx_none, HT.sIx_nat, List.drop_zero, Nat.sub_zero, Nat.min_eq_left h]
theorem enum_map {α : Type} {g : α → PyData} {d : α} (L : List α) : enumD 0 (L.map g) = (List.range L.length).map fun k : Nat => PyData.tuple [.int (k : Int), g (L.getD k d)] := by
  apply List.ext_getElem?
  intro i
  by_cases h : i < L.length
  · have h1 : i < (enumD 0 (L.map g)).length := by rw [enumD_len, List.length_map]; exact h
    obtain ⟨y, hy, e⟩ := enumD_at0 (List.getElem?_eq_getElem h1)
    rw [List.getElem?_eq_getElem h1, e]
    obtain ⟨a, ha, rfl⟩ := map_at hy
    simp [h, List.getD, ha]
    have := List.getElem?_eq_getElem h
    rw [ha] at this
    rw [Option.some.inj this]
  · rw [List.getElem?_eq_none (by rw [enumD_len, List.length_map]; omega), List.getElem?_eq_none (by simp; omega)]
theorem depth_os (r : List (Option Int)) : PyData.depthAll (r.map oD) = 0 := by
  induction r with
  | nil => rfl
  | cons a r ih =>
    cases a <;> simp only [List.map_cons, PyData.depthAll, ih] <;> rfl
theorem depth_row (r : List (Option Int)) : (rowD r).depth = 1 := by
  show (PyData.tuple (r.map oD)).depth = 1
  simp only [PyData.depth]
  rw [depth_os]
theorem depth_rows (tb : List (List (Option Int))) : PyData.depthAll (tb.map rowD) ≤ 1 := by
  induction tb with
  | nil => decide
  | cons r tb ih =>
    simp only [List.map_cons, PyData.depthAll, depth_row]
    omega
theorem c_neNilR {S : List (List (Option Int))} : cmpF .ne (.list (S.map rowD)) (.list []) = some (!S.isEmpty) := by
  rw [c_neNil]
  · cases S <;> rfl
  · have := depth_rows S
    simp only [PyData.depth]; omega
theorem eqvO {a b : Option Int} : PyData.eqv (oD a) (oD b) = decide (a = b) := by
  have h := c_eqO (a := a) (b := b)
  have d : ∀ o : Option Int, (oD o).depth ≤ 64 := fun o => by cases o <;> exact Nat.zero_le _
  have e : cmpF .eq (oD a) (oD b) = some (PyData.eqv (oD a) (oD b)) := by
    show (if deepOk (oD a) (oD b) then some (PyData.eqv (oD a) (oD b)) else none) = _
    rw [if_pos ⟨d a, d b⟩]
  rw [e] at h
  exact Option.some.inj h
theorem c_in2 {a b : Option Int} : cmpF .isin (oD b) (.tuple [.none, oD a]) = some (b.isNone || decide (a = b)) := by
  have d : ∀ o : Option Int, (oD o).depth = 0 := fun o => by cases o <;> rfl
  show (if deepOk (oD b) (.tuple [.none, oD a]) then some (memD (oD b) [.none, oD a]) else none) = _
  rw [if_pos ⟨by rw [d]; decide, by simp only [PyData.depth, PyData.depthAll, d]; decide⟩]
  have e : memD (oD b) [.none, oD a] = (PyData.eqv .none (oD b) || (PyData.eqv (oD a) (oD b) || false)) := rfl
  rw [e, eqvO]
  cases b <;> simp [oD, PyData.eqv]
/-! ### what is a wide table -/
def isV : PyData → Bool
  | .int i => decide (0 ≤ i)
  | _ => false
def isNo : PyData → Bool
  | .none => true
  | _ => false
def isWR (many : Int) : PyData → Bool
  | .tuple l => decide ((l.length : Int) = many) && l.all fun x => isNo x || isV x
  | _ => false
def isWT (many : Int) : PyData → Bool
  | .tuple l => decide (l.length ≤ 40) && l.all (isWR many)
  | _ => false
/-- a good table -/
structure GT (many : Int) (tb : List (List (Option Int))) : Prop where
  len : tb.length ≤ 40
  row : ∀ r ∈ tb, (r.length : Int) = many ∧ ∀ a ∈ r, ∀ z, a = some z → 0 ≤ z
theorem row_wr {many : Int} {r : List (Option Int)} (h1 : (r.length : Int) = many) (h2 : ∀ a ∈ r, ∀ z, a = some z → 0 ≤ z) : isWR many (rowD r) = true := by
  simp only [isWR, Bool.and_eq_true, decide_eq_true_eq, List.all_eq_true, Bool.or_eq_true, List.length_map]
  refine ⟨h1, fun x hx => ?_⟩
  obtain ⟨a, ha, rfl⟩ := List.mem_map.mp hx
  cases a with
  | none => exact .inl rfl
  | some z => exact .inr (by simpa [oD, isV] using h2 _ ha z rfl)
theorem tab_wt {many : Int} {tb : List (List (Option Int))} (h : GT many tb) : isWT many (tabD tb) = true := by
  simp only [isWT, Bool.and_eq_true, decide_eq_true_eq, List.all_eq_true, List.length_map]
  refine ⟨h.len, fun x hx => ?_⟩
  obtain ⟨r, hr, rfl⟩ := List.mem_map.mp hx
  exact row_wr (h.row r hr).1 (h.row r hr).2
section
variable {T : Tab} {n k a : Nat} {m : Mem} {Q : W → Mem → Prop} {X : Xn → Mem → Prop} {many : Int} {K s o : List Int} {S P : List (List Int)} {kd : Bool} {r1 r2 : List (Option Int)} {tb : List (List (Option Int))} {x : PyData}
theorem L_val (H : H_is_value T) (h : Q (.d (.bool (isV x))) m) : OkX (callN T (n + 2) "is_value" [.d x] m) Q X := by
  rw [call_of (fn := g_is_value) H.me ⟨rfl, by decide⟩]
  show OkS (denS _ g_is_value.body [some (.d x)] m) _
  unfold g_is_value
  dsimp only
  one_sign
  refine L_int H.c_is_integer ⟨_, rfl, _, rfl, fun q => ?_, fun q => en_d rfl ?_⟩
  · cases x with
    | int i => exact ⟨_, rfl, en_d rfl h⟩
    | _ => cases q
  · have e : isI x = isV x := by cases x <;> first | rfl | exact absurd rfl q
    rw [e]; exact h
theorem L_wr (H : H_is_wide_row T) (hm : many ≤ 1000) (h : Q (.d (.bool (isWR many x))) m) : OkX (callN T (n + 3) "is_wide_row" [.d (.int many), .d x] m) Q X := by
  rw [call_of (fn := g_is_wide_row) H.me ⟨rfl, by decide⟩]
  show OkS (denS _ g_is_wide_row.body [some (.d (.int many)), some (.d x), none] m) _
  unfold g_is_wide_row
  dsimp only
  refine seq_st fun N hN => ?_
  one_sign
  refine ⟨_, isTup_eq, _, rfl, ?_⟩
  cases x with
  | tuple l =>
    refine ⟨fun ht => (by cases ht), fun _ => ⟨_, rfl, _, c_neI, fun hb => en_d rfl ?_, fun hb => hN _ _ ?_⟩⟩
    · have e : isWR many (.tuple l) = false := by
        have : ¬ (l.length : Int) = many := by simpa using hb
        simp only [isWR, decide_eq_false this, Bool.false_and]
      rw [e] at h; exact h
    · have hb : (l.length : Int) = many := by simpa using hb
      one_sign
      rw [e_comp]
      one_sign
      refine ⟨_, rfl, by show l.length ≤ _; rw [sizeLine_eq]; omega, ?_⟩
      refine comp_map (fun y => .bool (isNo y || isV y)) l m trivial (fun y hy => ?_) ?_
      · rw [f_comp]
        refine ⟨[some (.d (.int many)), some (.d (.tuple l)), some (.d y)], rfl, ?_⟩
        one_sign
        refine ⟨fun _ => ?_, fun q => (q trivial).elim⟩
        cases y with
        | none => exact ⟨fun _ => rfl, fun q => absurd rfl q⟩
        | _ => exact ⟨fun q => absurd (show false = true from q) (by decide), fun _ => L_val H.c_is_value ⟨_, rfl, rfl, rfl⟩⟩
      · refine ⟨_, all_map, en_d rfl ?_⟩
        have e : isWR many (.tuple l) = l.all fun y => isNo y || isV y := by simp only [isWR, decide_eq_true hb, Bool.true_and]
        rw [e] at h; exact h
  | _ => refine ⟨fun _ => ⟨fun _ => en_d rfl h, fun q => absurd rfl q⟩, fun q => absurd rfl q⟩
theorem L_wt (H : H_is_wide_table T) (hm : many ≤ 1000) (h : Q (.d (.bool (isWT many x))) m) : OkX (callN T (n + 4) "is_wide_table" [.d (.int many), .d x] m) Q X := by
  rw [call_of (fn := g_is_wide_table) H.me ⟨rfl, by decide⟩]
  show OkS (denS _ g_is_wide_table.body [some (.d (.int many)), some (.d x), none] m) _
  unfold g_is_wide_table
  dsimp only
  refine seq_st fun N hN => ?_
  one_sign
  refine ⟨_, isTup_eq, _, rfl, ?_⟩
  cases x with
  | tuple l =>
    refine ⟨fun ht => (by cases ht), fun _ => ⟨_, rfl, _, rfl, fun hb => en_d rfl ?_, fun hb => hN _ _ ?_⟩⟩
    · have e : isWT many (.tuple l) = false := by
        have : ¬ l.length ≤ 40 := by
          have : (40 : Int) < l.length := by simpa using hb
          omega
        simp only [isWT, decide_eq_false this, Bool.false_and]
      rw [e] at h; exact h
    · have hb : l.length ≤ 40 := by
        have : ¬ (40 : Int) < l.length := by simpa using hb
        omega
      one_sign
      rw [e_comp]
      one_sign
      refine ⟨_, rfl, by show l.length ≤ _; rw [sizeLine_eq]; omega, ?_⟩
      refine comp_map (fun y => .bool (isWR many y)) l m trivial (fun y hy => ?_) ?_
      · rw [f_comp]
        refine ⟨[some (.d (.int many)), some (.d (.tuple l)), some (.d y)], rfl, ?_⟩
        one_sign
        exact ⟨fun _ => L_wr H.c_is_wide_row hm ⟨_, rfl, rfl, rfl⟩, fun q => (q trivial).elim⟩
      · refine ⟨_, all_map, en_d rfl ?_⟩
        have e : isWT many (.tuple l) = l.all (isWR many) := by simp only [isWT, decide_eq_true hb, Bool.true_and]
        rw [e] at h; exact h
  | _ => refine ⟨fun _ => ⟨fun _ => en_d rfl h, fun q => absurd rfl q⟩, fun q => absurd rfl q⟩
theorem L_dm (H : H_do_meet T) (h1 : ∀ z ∈ s, 0 ≤ z ∧ z < r1.length) (h2 : ∀ z ∈ s, z < r2.length) (hl : s.length ≤ 1000) (h : Q (.d (.bool (meet r1 r2 s))) m) : OkX (callN T (n + 1) "do_meet" [.d (rowD r1), .d (rowD r2), .d (tD s)] m) Q X := by
  rw [call_of (fn := g_do_meet) H.me ⟨rfl, by decide⟩]
  show OkS (denS _ g_do_meet.body [some (.d (rowD r1)), some (.d (rowD r2)), some (.d (tD s)), none] m) _
  unfold g_do_meet
  dsimp only
  one_sign
  rw [e_comp]
  one_sign
  refine ⟨_, rfl, by show (intD s).length ≤ _; rw [intD_len, sizeLine_eq]; omega, ?_⟩
  refine comp_fm PyData.int (fun z => some (.bool (meetC (gC r1 z) (gC r2 z)))) s m trivial (fun z hz => ?_) ?_
  · rw [f_comp]
    refine ⟨[some (.d (rowD r1)), some (.d (rowD r2)), some (.d (tD s)), some (.d (.int z))], rfl, ?_⟩
    have i1 := ix_row (h1 z hz).1 (h1 z hz).2
    have i2 := ix_row (h1 z hz).1 (h2 z hz)
    one_sign
    refine ⟨fun _ => ⟨_, i1, fun q => ?_, fun q => ⟨_, i2, _, i1, by rw [sizeLine_eq]; decide, _, c_in2, ?_⟩⟩, fun q => (q trivial).elim⟩
    all_goals (revert q; cases gC r1 z <;> cases gC r2 z <;> simp [oD, isF, meetC])
  · rw [fm_map]
    exact ⟨_, all_mapA, en_d rfl h⟩
theorem L_al (H : H_are_alike T) (h1 : ∀ z ∈ s, 0 ≤ z ∧ z < r1.length) (h2 : ∀ z ∈ s, z < r2.length) (hl : s.length ≤ 1000) (h : Q (.d (.bool (alike r1 r2 s))) m) : OkX (callN T (n + 1) "are_alike" [.d (rowD r1), .d (rowD r2), .d (tD s)] m) Q X := by
  rw [call_of (fn := g_are_alike) H.me ⟨rfl, by decide⟩]
  show OkS (denS _ g_are_alike.body [some (.d (rowD r1)), some (.d (rowD r2)), some (.d (tD s)), none] m) _
  unfold g_are_alike
  dsimp only
  one_sign
  rw [e_comp]
  one_sign
  refine ⟨_, rfl, by show (intD s).length ≤ _; rw [intD_len, sizeLine_eq]; omega, ?_⟩
  refine comp_fm PyData.int (fun z => some (.bool (alikeC (gC r1 z) (gC r2 z)))) s m trivial (fun z hz => ?_) ?_
  · rw [f_comp]
    refine ⟨[some (.d (rowD r1)), some (.d (rowD r2)), some (.d (tD s)), some (.d (.int z))], rfl, ?_⟩
    have i1 := ix_row (h1 z hz).1 (h1 z hz).2
    have i2 := ix_row (h1 z hz).1 (h2 z hz)
    one_sign
    refine ⟨fun _ => ⟨_, i1, fun q => ⟨_, i1, _, i2, _, c_eqO, ?_⟩, fun q => ?_⟩, fun q => (q trivial).elim⟩
    all_goals (revert q; cases gC r1 z <;> cases gC r2 z <;> simp [oD, isF, alikeC])
  · rw [fm_map]
    exact ⟨_, all_mapA, en_d rfl h⟩
theorem any_flat {α β : Type} {f : α → List β} {p : α → β → Bool} {L : List α} : biF .any [.list (L.flatMap fun k => (f k).map fun o => PyData.bool (p k o))] = some (.bool (L.any fun k => (f k).any (p k))) := by
  have e : (L.flatMap fun k => (f k).map fun o => PyData.bool (p k o)) = (L.flatMap fun k => (f k).map (p k)).map fun b => PyData.bool b := by
    rw [List.map_flatMap]
    congr 1; funext k
    rw [List.map_map]; rfl
  rw [e, any_mapA (f := fun b => b), List.any_flatMap]
  congr 2
  apply congrArg
  funext k
  rw [List.any_map]
  rfl
theorem sureK_any : (!(List.range tb.length).any fun k => (tb.take k).any fun o => meet (tb.getD k []) o s) = sureK tb s := by
  unfold sureK
  rw [Bool.eq_iff_iff]
  simp [List.any_eq_true, List.all_eq_true]
theorem possK_any : (!(List.range tb.length).any fun k => (tb.take k).any fun o => alike (tb.getD k []) o s) = possK tb s := by
  unfold possK
  rw [Bool.eq_iff_iff]
  simp [List.any_eq_true, List.all_eq_true]
theorem getD_mem {k : Nat} (h : k < tb.length) : tb.getD k [] ∈ tb := by
  rw [List.getD_eq_getElem?_getD, List.getElem?_eq_getElem h]
  exact List.getElem_mem h
theorem L_sk (H : H_is_sure_key T) (hl : tb.length ≤ 1000) (hb : ∀ r ∈ tb, ∀ z ∈ s, 0 ≤ z ∧ z < r.length) (hsl : s.length ≤ 1000) (h : Q (.d (.bool (sureK tb s))) m) : OkX (callN T (n + 2) "is_sure_key" [.d (tabD tb), .d (tD s)] m) Q X := by
  rw [call_of (fn := g_is_sure_key) H.me ⟨rfl, by decide⟩]
  show OkS (denS _ g_is_sure_key.body [some (.d (tabD tb)), some (.d (tD s)), none, none, none] m) _
  unfold g_is_sure_key
  dsimp only
  one_sign
  rw [e_comp2]
  one_sign
  refine ⟨_, rfl, ?_⟩
  have e : (Src.items (enumD 0 (tb.map rowD))).list = (List.range tb.length).map fun k : Nat => PyData.tuple [.int (k : Int), rowD (tb.getD k [])] := enum_map tb
  refine ⟨by rw [e]; simp; omega, ?_⟩
  rw [e]
  refine compLL_fm (st := Src.stands (Src.items (enumD 0 (tb.map rowD)))) (QL := fun _ _ => True) (fun k : Nat => PyData.tuple [.int (k : Int), rowD (tb.getD k [])]) (fun k => (tb.take k).map fun o => PyData.bool (meet (tb.getD k []) o s)) m trivial _ (fun k hk => ?_) ?_
  · have hk := List.mem_range.mp hk
    rw [f_comp2]
    refine ⟨[some (.d (tabD tb)), some (.d (tD s)), some (.d (.int (k : Int))), some (.d (rowD (tb.getD k []))), none], rfl, ?_⟩
    one_sign
    refine ⟨fun _ => ?_, fun q => (q trivial).elim⟩
    refine ⟨_, rfl, _, rfl, _, rfl, _, rfl, _, rfl, ?_⟩
    rw [cut_take (by rw [List.length_map]; omega), ← List.map_take]
    refine ⟨by show ((tb.take k).map rowD).length ≤ _; rw [List.length_map, List.length_take]; omega, ?_⟩
    refine comp_fm rowD (fun o => some (.bool (meet (tb.getD k []) o s))) (tb.take k) m trivial (fun o ho => ?_) ?_
    · rw [f_comp]
      refine ⟨[some (.d (tabD tb)), some (.d (tD s)), some (.d (.int (k : Int))), some (.d (rowD (tb.getD k []))), some (.d (rowD o))], rfl, ?_⟩
      one_sign
      exact ⟨fun _ => L_dm H.c_do_meet (hb _ (getD_mem hk)) (fun z hz => (hb o (List.mem_of_mem_take ho) z hz).2) hsl ⟨_, rfl, rfl, rfl⟩, fun q => (q trivial).elim⟩
    · rw [fm_map]
      exact ⟨rfl, rfl⟩
  · refine ⟨_, any_flat, _, rfl, en_d rfl ?_⟩
    rw [sureK_any]
    exact h
theorem L_pk (H : H_is_possible_key T) (hl : tb.length ≤ 1000) (hb : ∀ r ∈ tb, ∀ z ∈ s, 0 ≤ z ∧ z < r.length) (hsl : s.length ≤ 1000) (h : Q (.d (.bool (possK tb s))) m) : OkX (callN T (n + 2) "is_possible_key" [.d (tabD tb), .d (tD s)] m) Q X := by
  rw [call_of (fn := g_is_possible_key) H.me ⟨rfl, by decide⟩]
  show OkS (denS _ g_is_possible_key.body [some (.d (tabD tb)), some (.d (tD s)), none, none, none] m) _
  unfold g_is_possible_key
  dsimp only
  one_sign
  rw [e_comp2]
  one_sign
  refine ⟨_, rfl, ?_⟩
  have e : (Src.items (enumD 0 (tb.map rowD))).list = (List.range tb.length).map fun k : Nat => PyData.tuple [.int (k : Int), rowD (tb.getD k [])] := enum_map tb
  refine ⟨by rw [e]; simp; omega, ?_⟩
  rw [e]
  refine compLL_fm (st := Src.stands (Src.items (enumD 0 (tb.map rowD)))) (QL := fun _ _ => True) (fun k : Nat => PyData.tuple [.int (k : Int), rowD (tb.getD k [])]) (fun k => (tb.take k).map fun o => PyData.bool (alike (tb.getD k []) o s)) m trivial _ (fun k hk => ?_) ?_
  · have hk := List.mem_range.mp hk
    rw [f_comp2]
    refine ⟨[some (.d (tabD tb)), some (.d (tD s)), some (.d (.int (k : Int))), some (.d (rowD (tb.getD k []))), none], rfl, ?_⟩
    one_sign
    refine ⟨fun _ => ?_, fun q => (q trivial).elim⟩
    refine ⟨_, rfl, _, rfl, _, rfl, _, rfl, _, rfl, ?_⟩
    rw [cut_take (by rw [List.length_map]; omega), ← List.map_take]
    refine ⟨by show ((tb.take k).map rowD).length ≤ _; rw [List.length_map, List.length_take]; omega, ?_⟩
    refine comp_fm rowD (fun o => some (.bool (alike (tb.getD k []) o s))) (tb.take k) m trivial (fun o ho => ?_) ?_
    · rw [f_comp]
      refine ⟨[some (.d (tabD tb)), some (.d (tD s)), some (.d (.int (k : Int))), some (.d (rowD (tb.getD k []))), some (.d (rowD o))], rfl, ?_⟩
      one_sign
      exact ⟨fun _ => L_al H.c_are_alike (hb _ (getD_mem hk)) (fun z hz => (hb o (List.mem_of_mem_take ho) z hz).2) hsl ⟨_, rfl, rfl, rfl⟩, fun q => (q trivial).elim⟩
    · rw [fm_map]
      exact ⟨rfl, rfl⟩
  · refine ⟨_, any_flat, _, rfl, en_d rfl ?_⟩
    rw [possK_any]
    exact h
theorem knwn_any : (!tb.any fun r => K.any fun c => (gC r c).isNone) = knwn K tb := by
  unfold knwn
  rw [Bool.eq_iff_iff]
  simp [List.any_eq_true, List.all_eq_true, Option.isNone_iff_eq_none, Option.isSome_iff_ne_none]
theorem L_known (H : H_is_known T) (hl : tb.length ≤ 1000) (hK : K.length ≤ 1000) (hb : ∀ r ∈ tb, ∀ z ∈ K, 0 ≤ z ∧ z < r.length) (h : Q (.d (.bool (knwn K tb))) m) : OkX (callN T (n + 1) "is_known" [.d (rD K S P), .d (tabD tb)] m) Q X := by
  rw [call_of (fn := g_is_known) H.me ⟨rfl, by decide⟩]
  show OkS (denS _ g_is_known.body [some (.d (rD K S P)), some (.d (tabD tb)), none, none] m) _
  unfold g_is_known
  dsimp only
  one_sign
  rw [e_comp2]
  one_sign
  refine ⟨_, rfl, by show (tb.map rowD).length ≤ _; rw [List.length_map]; omega, ?_⟩
  refine compLL_fm (st := Src.stands (Src.items (tb.map rowD))) (QL := fun _ _ => True) rowD (fun r => K.map fun c => PyData.bool (gC r c).isNone) m trivial tb (fun r hr => ?_) ?_
  · rw [f_comp2]
    refine ⟨[some (.d (rD K S P)), some (.d (tabD tb)), some (.d (rowD r)), none], rfl, ?_⟩
    one_sign
    refine ⟨fun _ => ?_, fun q => (q trivial).elim⟩
    refine ⟨_, rfl, _, rfl, by show (intD K).length ≤ _; rw [intD_len]; omega, ?_⟩
    refine comp_fm PyData.int (fun c => some (.bool (gC r c).isNone)) K m trivial (fun c hc => ?_) ?_
    · rw [f_comp]
      refine ⟨[some (.d (rD K S P)), some (.d (tabD tb)), some (.d (rowD r)), some (.d (.int c))], rfl, ?_⟩
      have i1 := ix_row (hb r hr c hc).1 (hb r hr c hc).2
      one_sign
      refine ⟨fun _ => ⟨_, i1, ?_⟩, fun q => (q trivial).elim⟩
      cases gC r c <;> rfl
    · rw [fm_map]
      exact ⟨rfl, rfl⟩
  · refine ⟨_, any_flat, _, rfl, en_d rfl ?_⟩
    rw [knwn_any]
    exact h
theorem gt_b (hg : GT many tb) (hs : ∀ z ∈ s, 0 ≤ z ∧ z < many) : ∀ r ∈ tb, ∀ z ∈ s, 0 ≤ z ∧ z < (r.length : Int) := fun r hr z hz => by
  rw [(hg.row r hr).1]; exact hs z hz
theorem L_obr (H : H_obeys_rules T) (hr : GRI many K S P) (hg : GT many tb) (h : Q (.d (.bool (oby K S P tb))) m) : OkX (callN T (n + 3) "obeys_rules" [.d (rD K S P), .d (tabD tb)] m) Q X := by
  have hl : tb.length ≤ 1000 := by have := hg.len; omega
  rw [call_of (fn := g_obeys_rules) H.me ⟨rfl, by decide⟩]
  show OkS (denS _ g_obeys_rules.body [some (.d (rD K S P)), some (.d (tabD tb)), none] m) _
  unfold g_obeys_rules
  dsimp only
  refine seq_st fun N hN => ?_
  one_sign
  refine L_known H.c_is_known hl (by have := hr.k.len; omega) (gt_b hg hr.k.bd) ?_
  refine ⟨_, rfl, _, rfl, fun q => ⟨fun _ => en_d rfl ?_, fun q' => absurd q q'⟩, fun q => ?_⟩
  · have q : knwn K tb = false := by simpa using q
    unfold oby at h
    rw [q, Bool.false_and] at h
    exact h
  have q : knwn K tb = true := by simpa using q
  rw [e_comp]
  one_sign
  refine ⟨_, rfl, _, rfl, by show (S.map tD).length ≤ _; rw [List.length_map, sizeLine_eq]; have := hr.ls; omega, ?_⟩
  refine comp_fm tD (fun o => some (.bool (sureK tb o))) S m trivial (fun o ho => ?_) ?_
  · rw [f_comp]
    refine ⟨[some (.d (rD K S P)), some (.d (tabD tb)), some (.d (tD o))], rfl, ?_⟩
    one_sign
    exact ⟨fun _ => L_sk H.c_is_sure_key hl (gt_b hg (hr.s o ho).bd) (by have := (hr.s o ho).len; omega) ⟨_, rfl, rfl, rfl⟩, fun q => (q trivial).elim⟩
  rw [fm_map]
  refine ⟨_, all_mapA, _, rfl, fun q2 => en_d rfl ?_, fun q2 => hN _ _ ?_⟩
  · have q2 : S.all (sureK tb) = false := by simpa using q2
    unfold oby at h
    rw [q2, Bool.false_and, Bool.and_false] at h
    exact h
  have q2 : S.all (sureK tb) = true := by simpa using q2
  clear hN N
  one_sign
  rw [e_comp]
  one_sign
  refine ⟨_, rfl, _, rfl, by show (P.map tD).length ≤ _; rw [List.length_map, sizeLine_eq]; have := hr.lp; omega, ?_⟩
  refine comp_fm tD (fun o => some (.bool (possK tb o))) P m trivial (fun o ho => ?_) ?_
  · rw [f_comp]
    refine ⟨[some (.d (rD K S P)), some (.d (tabD tb)), some (.d (tD o))], rfl, ?_⟩
    one_sign
    exact ⟨fun _ => L_pk H.c_is_possible_key hl (gt_b hg (hr.p o ho).bd) (by have := (hr.p o ho).len; omega) ⟨_, rfl, rfl, rfl⟩, fun q => (q trivial).elim⟩
  rw [fm_map]
  refine ⟨_, all_mapA, en_d rfl ?_⟩
  unfold oby at h
  rw [q, q2, Bool.true_and, Bool.true_and] at h
  exact h
/-- good rules, a good table -/
theorem L_obG (H : H_obeys T) (hm1 : 1 ≤ many) (h4 : many ≤ 4) (hr : GRI many K S P) (hg : GT many tb) (h : Q (.d (.bool (oby K S P tb))) m) : OkX (callN T (n + 7) "obeys" [.d (.int many), .d (rD K S P), .d (tabD tb)] m) Q X := by
  rw [call_of (fn := g_obeys) H.me ⟨rfl, by decide⟩]
  show OkS (denS _ g_obeys.body [some (.d (.int many)), some (.d (rD K S P)), some (.d (tabD tb))] m) _
  unfold g_obeys
  dsimp only
  refine seq_st fun N hN => ?_
  one_sign
  refine L_rrulesG H.c_require_rules hm1 h4 hr (hN _ _ ?_)
  clear hN N
  one_sign
  refine L_wt H.c_is_wide_table (by omega) ?_
  rw [tab_wt hg]
  exact ⟨_, rfl, _, rfl, fun _ => L_obr H.c_obeys_rules hr hg (en_d rfl h), fun q => absurd rfl q⟩
theorem any_neR {p : List (Option Int) → Bool} {L : List (List (Option Int))} : (!(L.filter p).isEmpty) = L.any p := by
  rw [Bool.eq_iff_iff]
  simp only [Bool.not_eq_true', List.isEmpty_eq_false_iff, ne_eq, List.filter_eq_nil_iff, List.any_eq_true]
  constructor
  · intro q
    by_cases hh : ∃ x, x ∈ L ∧ p x = true
    · exact hh
    · exact (q fun a ha hp => hh ⟨a, ha, hp⟩).elim
  · rintro ⟨x, hx, hp⟩ q
    exact q x hx hp
theorem ix_tab {k : Nat} (h : k < tb.length) : ixF (tb.map rowD) (k : Int) = some (rowD (tb.getD k [])) := by
  unfold ixF
  rw [if_pos (by omega), Int.toNat_natCast, List.getElem?_map, List.getD_eq_getElem?_getD, List.getElem?_eq_getElem h]
  rfl
theorem L_lsk0 (H : H_law_is_sure T) {x : PyData} (hx : x = tabD tb) (hl : tb.length ≤ 1000) (hb : ∀ r ∈ tb, ∀ z ∈ s, 0 ≤ z ∧ z < r.length) (h : Q (.d (.bool (sureK tb s))) m) : OkX (callN T (n + 2) "_law_is_sure" [.d x, .d (tD s)] m) Q X := by
  have hxl : biF .len [x] = some (.int (tb.length : Int)) := by rw [hx]; show some (PyData.int ((tb.map rowD).length : Int)) = _; rw [List.length_map]
  have hxs : ∀ i, i ≤ tb.length → slcF x none (some (i : Int)) = some (.tuple ((tb.take i).map rowD)) := fun i hi => by
    rw [hx]
    show some (PyData.tuple (cutF (tb.map rowD) none (some (i : Int)))) = _
    rw [cut_take (by rw [List.length_map]; omega), ← List.map_take]
  have hxi : ∀ i, i < tb.length → subF x (.int (i : Int)) = some (rowD (tb.getD i [])) := fun i hi => by
    rw [hx]; exact ix_tab hi
  clear hx
  rw [call_of (fn := g_law_is_sure) H.me ⟨rfl, by decide⟩]
  show OkS (denS _ g_law_is_sure.body [some (.d x), some (.d (tD s)), none, none] m) _
  unfold g_law_is_sure
  dsimp only
  refine seq_st fun N hN => ?_
  rw [s_for]
  one_sign
  refine ⟨_, hxl, _, rfl, ⟨by omega, by omega⟩, ?_⟩
  have e1 : ((tb.length : Nat) : Int).toNat = tb.length := by simp
  rw [e1]
  have hlen : (rngD 0 tb.length).length = tb.length := rngD_len _ _
  refine for_ok (fun i v m2 => m2 = m ∧ (∀ j, j < i → (tb.take j).all (fun o => !meet (tb.getD j []) o s) = true) ∧ ∃ x2, v = [some (.d x), some (.d (tD s)), x2, none]) _ _ _ ⟨rfl, by simp, _, rfl⟩ ?_ ?_
  · rintro i x v m2 hx ⟨rfl, hall, x2, rfl⟩
    obtain ⟨rfl, hi⟩ := rngD_at _ _ _ _ hx
    rw [Int.zero_add]
    refine ⟨trivial, ?_⟩
    rw [f_for]
    refine ⟨[some (.d x), some (.d (tD s)), some (.d (.int (i : Int))), none], rfl, ?_⟩
    refine seq_st fun N2 hN2 => ?_
    one_sign
    rw [e_comp]
    one_sign
    refine ⟨_, rfl, _, rfl, _, rfl, _, hxs i (by omega), _, rfl, ?_⟩
    refine ⟨by show ((tb.take i).map rowD).length ≤ _; rw [List.length_map, List.length_take, sizeLine_eq]; omega, ?_⟩
    refine comp_fm rowD (fun o => if meet (tb.getD i []) o s then some (rowD o) else none) (tb.take i) m2 trivial (fun o ho => ?_) ?_
    · rw [f_comp]
      refine ⟨[some (.d x), some (.d (tD s)), some (.d (.int (i : Int))), some (.d (rowD o))], rfl, ?_⟩
      one_sign
      refine ⟨_, hxi i hi, L_lmeet H.c_law_meet (hb o (List.mem_of_mem_take ho)) (fun z hz => (hb _ (getD_mem hi) z hz).2) ?_⟩
      rw [meet_comm]
      exact ⟨_, rfl, _, rfl, fun q => ⟨fun _ => ⟨by rw [if_pos q], rfl⟩, fun q => (q trivial).elim⟩, fun q => ⟨fun q => (by cases q), fun _ => ⟨by rw [if_neg q], rfl⟩⟩⟩
    rw [fm_filter]
    refine ⟨by rw [sizeLine_eq]; decide, _, c_neNilR, ?_⟩
    rw [any_neR]
    refine ⟨fun q => en_d rfl ?_, fun q => hN2 _ _ (s_end ⟨rfl, fun j hj => ?_, _, rfl⟩)⟩
    · have e : sureK tb s = false := by
        unfold sureK
        rw [List.all_eq_false]
        refine ⟨i, List.mem_range.mpr hi, ?_⟩
        obtain ⟨o, ho, hm⟩ := List.any_eq_true.mp q
        intro hh
        have q2 := List.all_eq_true.mp hh o ho
        have hm : (!meet (tb.getD i []) o s) = false := by rw [show meet (tb.getD i []) o s = true from hm]; rfl
        rw [show (!meet (tb.getD i []) o s) = true from q2] at hm
        cases hm
      rw [e] at h; exact h
    · by_cases hji : j = i
      · subst hji
        rw [List.all_eq_true]
        intro o ho
        have q := List.any_eq_false.mp ((Bool.not_eq_true _).mp q) o ho
        simpa using q
      · exact hall j (by omega)
  · rintro v m2 ⟨rfl, hall, x2, rfl⟩
    refine ⟨trivial, hN _ _ ?_⟩
    one_sign
    refine en_d rfl ?_
    have e : sureK tb s = true := by
      unfold sureK
      rw [List.all_eq_true]
      intro k hk
      exact hall k (by rw [show (Src.items (rngD 0 tb.length)).list.length = tb.length from hlen]; exact List.mem_range.mp hk)
    rw [e] at h; exact h
theorem L_lpk0 (H : H_law_is_open_key T) {x : PyData} (hx : x = tabD tb) (hl : tb.length ≤ 1000) (hb : ∀ r ∈ tb, ∀ z ∈ s, 0 ≤ z ∧ z < r.length) (h : Q (.d (.bool (possK tb s))) m) : OkX (callN T (n + 2) "_law_is_open_key" [.d x, .d (tD s)] m) Q X := by
  have hxl : biF .len [x] = some (.int (tb.length : Int)) := by rw [hx]; show some (PyData.int ((tb.map rowD).length : Int)) = _; rw [List.length_map]
  have hxs : ∀ i, i ≤ tb.length → slcF x none (some (i : Int)) = some (.tuple ((tb.take i).map rowD)) := fun i hi => by
    rw [hx]
    show some (PyData.tuple (cutF (tb.map rowD) none (some (i : Int)))) = _
    rw [cut_take (by rw [List.length_map]; omega), ← List.map_take]
  have hxi : ∀ i, i < tb.length → subF x (.int (i : Int)) = some (rowD (tb.getD i [])) := fun i hi => by
    rw [hx]; exact ix_tab hi
  clear hx
  rw [call_of (fn := g_law_is_open_key) H.me ⟨rfl, by decide⟩]
  show OkS (denS _ g_law_is_open_key.body [some (.d x), some (.d (tD s)), none, none] m) _
  unfold g_law_is_open_key
  dsimp only
  refine seq_st fun N hN => ?_
  rw [s_for]
  one_sign
  refine ⟨_, hxl, _, rfl, ⟨by omega, by omega⟩, ?_⟩
  have e1 : ((tb.length : Nat) : Int).toNat = tb.length := by simp
  rw [e1]
  have hlen : (rngD 0 tb.length).length = tb.length := rngD_len _ _
  refine for_ok (fun i v m2 => m2 = m ∧ (∀ j, j < i → (tb.take j).all (fun o => !alike (tb.getD j []) o s) = true) ∧ ∃ x2, v = [some (.d x), some (.d (tD s)), x2, none]) _ _ _ ⟨rfl, by simp, _, rfl⟩ ?_ ?_
  · rintro i x v m2 hx ⟨rfl, hall, x2, rfl⟩
    obtain ⟨rfl, hi⟩ := rngD_at _ _ _ _ hx
    rw [Int.zero_add]
    refine ⟨trivial, ?_⟩
    rw [f_for]
    refine ⟨[some (.d x), some (.d (tD s)), some (.d (.int (i : Int))), none], rfl, ?_⟩
    refine seq_st fun N2 hN2 => ?_
    one_sign
    rw [e_comp]
    one_sign
    refine ⟨_, rfl, _, rfl, _, rfl, _, hxs i (by omega), _, rfl, ?_⟩
    refine ⟨by show ((tb.take i).map rowD).length ≤ _; rw [List.length_map, List.length_take, sizeLine_eq]; omega, ?_⟩
    refine comp_fm rowD (fun o => if alike (tb.getD i []) o s then some (rowD o) else none) (tb.take i) m2 trivial (fun o ho => ?_) ?_
    · rw [f_comp]
      refine ⟨[some (.d x), some (.d (tD s)), some (.d (.int (i : Int))), some (.d (rowD o))], rfl, ?_⟩
      one_sign
      refine ⟨_, hxi i hi, L_lalike H.c_law_alike (hb o (List.mem_of_mem_take ho)) (fun z hz => (hb _ (getD_mem hi) z hz).2) ?_⟩
      rw [alike_comm]
      exact ⟨_, rfl, _, rfl, fun q => ⟨fun _ => ⟨by rw [if_pos q], rfl⟩, fun q => (q trivial).elim⟩, fun q => ⟨fun q => (by cases q), fun _ => ⟨by rw [if_neg q], rfl⟩⟩⟩
    rw [fm_filter]
    refine ⟨by rw [sizeLine_eq]; decide, _, c_neNilR, ?_⟩
    rw [any_neR]
    refine ⟨fun q => en_d rfl ?_, fun q => hN2 _ _ (s_end ⟨rfl, fun j hj => ?_, _, rfl⟩)⟩
    · have e : possK tb s = false := by
        unfold possK
        rw [List.all_eq_false]
        refine ⟨i, List.mem_range.mpr hi, ?_⟩
        obtain ⟨o, ho, hm⟩ := List.any_eq_true.mp q
        intro hh
        have q2 := List.all_eq_true.mp hh o ho
        have hm : (!alike (tb.getD i []) o s) = false := by rw [show alike (tb.getD i []) o s = true from hm]; rfl
        rw [show (!alike (tb.getD i []) o s) = true from q2] at hm
        cases hm
      rw [e] at h; exact h
    · by_cases hji : j = i
      · subst hji
        rw [List.all_eq_true]
        intro o ho
        have q := List.any_eq_false.mp ((Bool.not_eq_true _).mp q) o ho
        simpa using q
      · exact hall j (by omega)
  · rintro v m2 ⟨rfl, hall, x2, rfl⟩
    refine ⟨trivial, hN _ _ ?_⟩
    one_sign
    refine en_d rfl ?_
    have e : possK tb s = true := by
      unfold possK
      rw [List.all_eq_true]
      intro k hk
      exact hall k (by rw [show (Src.items (rngD 0 tb.length)).list.length = tb.length from hlen]; exact List.mem_range.mp hk)
    rw [e] at h; exact h
end
end MP
/-! MYI: plain laws of key rules: least keys, bars, tables against, tables that obey -/
namespace MP
open PySem
/-! ### what follows grows with the set, the kind, the rules -/
/-! ### below each one there is a least one -/
/-! ### the table against a set -/
section
variable {many : Int} {K s o : List Int} {S P : List (List Int)} {kd : Bool} {r1 r2 : List (Option Int)} {tb : List (List (Option Int))}
/-! ### in a table that obeys, what follows is a key -/
theorem nb {a b : Bool} (h : a = true → b = true) (hb : b = false) : a = false := by
  cases a
  · rfl
  · rw [h rfl] at hb; cases hb
/-! ### ascending lists are short -/
end
/-! ### what a callee leaves of the memory -/
/-- longer, the pen moved -/
structure Upx (k : Nat) (m m' : Mem) : Prop where
  len : m.length ≤ m'.length
  old : ∀ j, j ≠ k → j < m.length → m'[j]? = m[j]?
theorem Upx.of {k : Nat} {m m' : Mem} (h : Upd k m m') : Upx k m m' := ⟨Nat.le_of_eq h.1.symm, fun j hj _ => h.2 j hj⟩
theorem Upx.trans {k : Nat} {m m1 m2 : Mem} (h : Upx k m m1) (h2 : Upx k m1 m2) : Upx k m m2 := ⟨Nat.le_trans h.len h2.len, fun j hj hl => by
  rw [h2.old j hj (by have := h.len; omega), h.old j hj hl]⟩
theorem Upx.app {k : Nat} {m : Mem} {c : Cell} : Upx k m (m ++ [c]) := ⟨by simp, fun j _ hl => List.getElem?_append_left hl⟩
theorem Upx.set {k q : Nat} {m m' : Mem} {c : Cell} (h : Upx k m m') (hq : m.length ≤ q) : Upx k m (m'.set q c) := ⟨by rw [List.length_set]; exact h.len, fun j hj hl => by
  rw [List.getElem?_set_ne (by omega)]; exact h.old j hj hl⟩
theorem Upx.cut {k : Nat} {m m' : Mem} (h : Upx k m m') : Upd k m (m'.take m.length) := by
  refine ⟨by rw [List.length_take]; have := h.len; omega, fun j hj => ?_⟩
  by_cases hl : j < m.length
  · rw [List.getElem?_take, if_pos hl]; exact h.old j hj hl
  · rw [List.getElem?_eq_none (by rw [List.length_take]; omega), List.getElem?_eq_none (by omega)]
theorem pen_cut {k a : Nat} {m m' : Mem} (hk : k < m.length) (h : Pen m' k a) : Pen (m'.take m.length) k a := by
  obtain ⟨cs, p, x, h1, h2⟩ := h
  exact ⟨cs, p, x, by rw [List.getElem?_take, if_pos hk]; exact h1, h2⟩
theorem Upx.kr {k a : Nat} {m m' : Mem} (h : Upx k m m') (hp : Pen m' k a) : keepsR m m' := fun i hi => by
  by_cases e : i = k
  · subst e
    obtain ⟨_, _, _, h1, _⟩ := hp
    exact .inr ⟨_, h1, rfl⟩
  · exact .inl (h.old i e hi)
end MP
/-! MYJ: contracts of shared draws: bad sets, bad rules -/
local macro_rules | `(tactic| leaf_len) => `(tactic| try simp only [MP.x_ok, MP.x_no, MP.x_guard, MP.x_bind, MP.x_opt, MP.x_new, MP.x_new0, MP.x_noX, MP.e_var, MP.e_lit, MP.e_tup, MP.e_lst, MP.e_bin, MP.e_cmp, MP.e_chain, MP.e_isc, MP.isW_d, MP.e_isx, MP.W.exn.injEq, MP.e_rvt, MP.e_not, MP.e_and, MP.e_or, MP.e_ite, MP.e_call, MP.e_bi, MP.e_sub, MP.e_slc, MP.e_frz, MP.a_nil, MP.a_cons, MP.a_star, MP.t_nil, MP.t_cons, MP.i_rng1e, MP.i_rng2e, MP.i_enume, MP.i_zipe, MP.i_reve, MP.i_itve, MP.s_skip, MP.s_sret, MP.s_sretn, MP.s_sraise, MP.s_sbrk, MP.s_scnt, MP.s_ex, MP.s_set, MP.s_new, MP.s_par, MP.s_par3, MP.s_tgt, MP.s_if, MP.s_ret, MP.s_retn, MP.s_for, MP.s_brk, MP.s_cnt, MP.s_raise, MP.s_app, MP.s_six, MP.s_ext, MP.s_rvs, MP.e_me, MP.e_tupR, MP.s_try, MP.s_tryas, MP.h_hnd, MP.h_end, MP.s_nx, MP.s_rt, MP.vw_d, List.getElem?_cons_zero, List.getElem?_cons_succ, List.set_cons_zero, List.set_cons_succ, List.length_cons, List.length_nil, Option.some.injEq, exists_eq_left', exists_eq_left, and_true, true_and, MP.b_add, MP.b_sub, MP.i_int, MP.c_lt, MP.c_le, MP.c_gt, MP.c_ge, MP.c_eqI, MP.c_neI, MP.tr_b, MP.i_lenL, MP.i_lenT, MP.i_lenI, MP.i_tupL, MP.i_tupT, MP.sub_L, MP.sub_T, decide_eq_true_eq, decide_eq_false_iff_not, Nat.zero_add, Nat.reduceAdd, Nat.reduceLT, List.mapM_cons, List.mapM_nil, Option.bind_eq_bind, Option.bind_some, Option.pure_def, MP.asD_d, MP.e_neglit, MP.sz0, MP.sz1, MP.sz2, MP.sz3, MP.sz4, MP.sz5, MP.sz6, MP.sz7, MP.sz8, MP.sz9, MP.sz10, MP.sz11, MP.sz12, MP.sz13, MP.sz14])
namespace MP
open PySem
section
variable {T : Tab} {n k a : Nat} {m : Mem} {Q : W → Mem → Prop} {X : Xn → Mem → Prop} {many : Int} {x y z b g s d : PyData}
/-! ### shown, by weight, decided -/
theorem gi_tw {ns : List Int} (h4 : many ≤ 4) (h : GI many ns) : TW 1 484 (tD ns) := by
  refine (tw_tup (n := 4) (w := 120) (k := 0) (by rw [intD_len]; exact h.len) fun x hx => ?_).mono (by decide) (by decide)
  obtain ⟨z, hz, rfl⟩ := List.mem_map.mp hx
  have := h.bd z hz
  exact tw_int2 (by omega) (by omega)
theorem gri_tw {K : List Int} {S P : List (List Int)} (h4 : many ≤ 4) (h : GRI many K S P) : TW 3 8733 (rD K S P) := by
  have two : ∀ L : List (List Int), (∀ s ∈ L, GI many s) → L.length ≤ 6 → TW 2 2910 (.tuple (L.map tD)) := fun L hL hl => by
    refine (tw_tup (k := 1) (n := 6) (w := 484) (by simpa using hl) fun x hx => ?_).mono (by decide) (by decide)
    obtain ⟨s, hs, rfl⟩ := List.mem_map.mp hx
    exact gi_tw h4 (hL s hs)
  refine (tw_tup (n := 3) (w := 2910) (k := 2) (by show 3 ≤ 3; decide) fun x hx => ?_).mono (by decide) (by decide)
  simp only [List.mem_cons, List.not_mem_nil, or_false] at hx
  rcases hx with rfl | rfl | rfl
  · exact (gi_tw h4 h.k).mono (by decide) (by decide)
  · exact two S h.s h.ls
  · exact two P h.p h.lp
theorem e2 {l : List PyData} (h : l.length ≤ 1000) : binF .mul (.list l) (.int 2) = some (.list (l ++ l)) := by
  show (if -1000 ≤ (2 : Int) ∧ (2 : Int) ≤ 1000 ∧ l.length ≤ 1000 then some (PyData.list (List.replicate (2 : Int).toNat l).flatten) else none) = _
  rw [if_pos ⟨by decide, by decide, h⟩]
  show some (PyData.list (l ++ (l ++ []))) = _
  rw [List.append_nil]
end
end MP
/-! MYK: columns, tables: what the program's requirements answer -/
namespace MP
open PySem
section
variable {T : Tab} {n k a : Nat} {m : Mem} {Q : W → Mem → Prop} {X : Xn → Mem → Prop} {cs : List (Option (List Int))} {c : Option (List Int)} {r r1 r2 : List (Option Int)} {tb : List (List (Option Int))} {s : List Int} {x y : PyData}
end
end MP
/-! MYL: draws of columns, values, tables (as k56 and its kin draw them) -/
namespace MP
open PySem
theorem e29 : (10 : Int) ^ (29 : Int).toNat = 100000000000000000000000000000 := by decide
section
variable {T : Tab} {n k a : Nat} {m : Mem} {Q : W → Mem → Prop} {X : Xn → Mem → Prop} {cs : List (Option (List Int))} {c : Option (List Int)} {r r1 r2 : List (Option Int)} {tb : List (List (Option Int))} {s : List Int} {x y : PyData} {most many u : Int}
end
end MP
/-! MYM: draws of columns, values, tables (as k20 and its kin draw them) -/
namespace MP
open PySem
section
variable {T : Tab} {n k a : Nat} {m : Mem} {Q : W → Mem → Prop} {X : Xn → Mem → Prop} {cs : List (Option (List Int))} {c : Option (List Int)} {r r1 r2 : List (Option Int)} {tb : List (List (Option Int))} {s : List Int} {x y : PyData} {most many u : Int}
end
end MP
/-! MYN: filled rows, worlds, keys of worlds: what the program and the laws say of them -/
namespace MP
open PySem
section
variable {T : Tab} {n k a : Nat} {m : Mem} {Q : W → Mem → Prop} {X : Xn → Mem → Prop} {cs : List (Option (List Int))} {c : Option (List Int)} {r r1 r2 o : List (Option Int)} {tb : List (List (Option Int))} {s : List Int} {x y : PyData} {most many u : Int}
end
end MP
/-! MYO: a drawn set of the columns -/
namespace MP
open PySem
section
variable {T : Tab} {n k a : Nat} {m : Mem} {Q : W → Mem → Prop} {X : Xn → Mem → Prop} {cs : List (Option (List Int))} {xc : PyData}
end
end MP
/-! MYP: what the program's looks answer of any value: columns, rows, tables -/
namespace MP
open PySem
def isN : PyData → Bool
  | .none => true
  | _ => false
section
variable {T : Tab} {n k a : Nat} {m : Mem} {Q : W → Mem → Prop} {X : Xn → Mem → Prop} {cs : List (Option (List Int))} {c : Option (List Int)} {x y : PyData}
end
end MP
/-! MYQ: what a caught error is told as; draws of what is no columns, no table, no set, no demand -/
namespace MP
open PySem
section
variable {T : Tab} {n k a : Nat} {m : Mem} {Q : W → Mem → Prop} {X : Xn → Mem → Prop} {cs : List (Option (List Int))} {c : Option (List Int)} {x y : PyData}
/-! ### no columns -/
end
end MP
/-! MYR: bad sets, demands, bad demands -/
namespace MP
open PySem
section
variable {T : Tab} {n k a : Nat} {m : Mem} {Q : W → Mem → Prop} {X : Xn → Mem → Prop} {cs : List (Option (List Int))} {c : Option (List Int)} {x y xc : PyData}
end
end MP
/-! MYS: bad tables -/
namespace MP
open PySem
section
variable {cs : List (Option (List Int))} {c : Option (List Int)} {x y xc : PyData}
/-! the three parts of the list -/
end
section
variable {T : Tab} {n k a : Nat} {m : Mem} {Q : W → Mem → Prop} {X : Xn → Mem → Prop} {cs : List (Option (List Int))} {c : Option (List Int)} {x y xc : PyData}
end
end MP
/-! MYT: shared: weights of columns, tables; what is raised; the pen beside other cells -/
namespace MP
open PySem
theorem Pen.app {m : Mem} {k a : Nat} {M : Mem} (h : Pen m k a) : Pen (m ++ M) k a := by
  have hk := h.lt
  obtain ⟨cs, p, x, h1, h2⟩ := h
  exact ⟨cs, p, x, by rw [List.getElem?_append_left hk]; exact h1, h2⟩
end MP
/-! MYU: unknown entries, another entry, worlds, keys -/
namespace MP
open PySem
theorem rng0_at {n i : Nat} {x : PyData} (h : (rngD 0 n)[i]? = some x) : x = .int (i : Int) ∧ i < n := by
  obtain ⟨rfl, hi⟩ := rngD_at _ _ _ _ h
  exact ⟨by rw [Int.zero_add], hi⟩
/-! ### unknown entries -/
def ueR (i : Nat) (r : List (Option Int)) : List (Nat × Nat) := ((List.range r.length).filter fun c => (r.getD c none).isNone).map fun c => (i, c)
def ueP (tb : List (List (Option Int))) (i : Nat) : List (Nat × Nat) := (List.range i).flatMap fun k => ueR k (tb.getD k [])
abbrev ueL (tb : List (List (Option Int))) : List (Nat × Nat) := ueP tb tb.length
/-- another entry at a place -/
def setE (tb : List (List (Option Int))) (i c : Nat) (e : Option Int) : List (List (Option Int)) := tb.set i ((tb.getD i []).set c e)
section
variable {T : Tab} {n k a : Nat} {m : Mem} {Q : W → Mem → Prop} {X : Xn → Mem → Prop} {cs : List (Option (List Int))} {tb w : List (List (Option Int))} {r r1 r2 : List (Option Int)} {s : List Int} {x y xc xt : PyData}
end
end MP
/-! MYV: worlds and keys: what the program answers -/
namespace MP
open PySem
section
variable {T : Tab} {n k a : Nat} {m : Mem} {Q : W → Mem → Prop} {X : Xn → Mem → Prop} {cs : List (Option (List Int))} {tb w : List (List (Option Int))} {r r1 r2 : List (Option Int)} {s : List Int} {x y xc xt : PyData}
end
end MP
/-! MYW: drawn rows; tables without unknown entries -/
namespace MP
open PySem
end MP
/-! MYX: twins, new values, the search of the program -/
namespace MP
open PySem
def twP (tb : List (List (Option Int))) (D : List (List Int)) (k j i : Nat) : Bool := alike (tb.getD i []) (tb.getD j []) (D.getD k [])
def twJ (p : Nat → Nat → Bool) (n : Nat) : Option (Nat × Nat) := (List.range n).findSome? fun j => ((List.range j).find? (p j)).map fun i => (i, j)
/-- the first twins -/
def twF (tb : List (List (Option Int))) (D : List (List Int)) : Option (Nat × Nat × Nat) := (List.range D.length).findSome? fun k => (twJ (twP tb D k) tb.length).map fun q => (q.1, q.2, k)
section
variable {T : Tab} {n k a : Nat} {m : Mem} {Q : W → Mem → Prop} {X : Xn → Mem → Prop} {cs : List (Option (List Int))} {tb w : List (List (Option Int))} {r r1 r2 : List (Option Int)} {s : List Int} {x y xc xt : PyData} {D : List (List Int)}
/-! ### the search -/
theorem setE_len {tb : List (List (Option Int))} {i c : Nat} {e : Option Int} : (setE tb i c e).length = tb.length := List.length_set
def exL (f : Int → PyData × PyData) (i c : Nat) : List Int → List PyData → PyData × PyData
  | [], ts => (.tuple [.str (Str.ofString "split"), .int i, .int c, .tuple ts], .none)
  | v :: r, ts => if isN (f v).1 then (.none, (f v).2) else exL f i c r (ts ++ [(f v).1])
end
end MP
/-! MYY: what is a right tree: what the program answers of any value -/
namespace MP
open PySem
section
variable {T : Tab} {n k a : Nat} {m : Mem} {Q : W → Mem → Prop} {X : Xn → Mem → Prop} {cs : List (Option (List Int))} {tb w : List (List (Option Int))} {r r1 r2 : List (Option Int)} {s : List Int} {x y xc xt xd : PyData} {D : List (List Int)}
end
end MP
/-! MYZ: demands: what the program's functions of several keys answer -/
namespace MP
open PySem
section
variable {T : Tab} {n k a : Nat} {m : Mem} {Q : W → Mem → Prop} {X : Xn → Mem → Prop} {cs : List (Option (List Int))} {tb w : List (List (Option Int))} {c t x y xc xt xd : PyData} {D : List (List Int)} {e : String}
/-! a def that begins with require_table, require_demand -/
end
end MP
/-! MZA: barred values and settled entries: what the program's functions answer -/
namespace MP
open PySem
section
variable {T : Tab} {n k a : Nat} {m : Mem} {Q : W → Mem → Prop} {X : Xn → Mem → Prop} {cs : List (Option (List Int))} {tb w : List (List (Option Int))} {c t x y xc xt xd : PyData} {D : List (List Int)} {e : String}
end
end MP
/-! MZB: what the search gives: a tree or a world -/
namespace MP
open PySem
/-! what exL gives -/
end MP
/-! MZC: the search's worlds and trees are right -/
namespace MP
open PySem
/-- an entry of a column, below a bound -/
def okB (B : Int) (c : Option (List Int)) (e : Option Int) : Prop := ∀ z, e = some z → 0 ≤ z ∧ z < B ∧ ∀ l, c = some l → z ∈ l
structure VRow (B : Int) (cs : List (Option (List Int))) (r : List (Option Int)) : Prop where
  len : r.length = cs.length
  ok : ∀ (i : Nat) c e, cs[i]? = some c → r[i]? = some e → okB B c e
def VT (B : Int) (cs : List (Option (List Int))) (tb : List (List (Option Int))) : Prop := ∀ r ∈ tb, VRow B cs r
def gE (tb : List (List (Option Int))) (i c : Nat) : Option Int := (tb.getD i []).getD c none
theorem VRow.mono {B C : Int} {cs : List (Option (List Int))} {r : List (Option Int)} (h : VRow B cs r) (hb : B ≤ C) : VRow C cs r :=
  ⟨h.len, fun i c e h1 h2 z hz => ⟨(h.ok i c e h1 h2 z hz).1, Int.lt_of_lt_of_le (h.ok i c e h1 h2 z hz).2.1 hb, (h.ok i c e h1 h2 z hz).2.2⟩⟩
theorem gE_set {tb : List (List (Option Int))} {i c j d : Nat} {e : Option Int} (hi : i < tb.length) (hc : c < (tb.getD i []).length) : gE (setE tb i c e) j d = if j = i ∧ d = c then e else gE tb j d := by
  unfold gE setE
  rw [List.getD_eq_getElem?_getD (l := tb.set _ _), List.getElem?_set]
  by_cases hj : i = j
  · subst hj
    rw [if_pos rfl, if_pos hi]
    show (((tb.getD i []).set c e).getD d none) = _
    rw [List.getD_eq_getElem?_getD, List.getElem?_set]
    by_cases hd : c = d
    · subst hd
      rw [if_pos rfl, if_pos hc, if_pos ⟨rfl, rfl⟩]; rfl
    · rw [if_neg hd, if_neg (fun q => hd q.2.symm)]
      simp [List.getD_eq_getElem?_getD]
  · rw [if_neg hj, if_neg (fun q => hj q.1.symm)]
    simp [List.getD_eq_getElem?_getD]
/-- the world that the search gives -/
structure Wrl (B : Int) (cs : List (Option (List Int))) (tb : List (List (Option Int))) (D : List (List Int)) (W : List (List (Option Int))) : Prop where
  len : W.length = tb.length
  vt : VT B cs W
  full : ueL W = []
  keep : ∀ i c z, gE tb i c = some z → gE W i c = some z
  tw : twF W D = none
theorem Wrl.set {B : Int} {cs : List (Option (List Int))} {tb : List (List (Option Int))} {D : List (List Int)} {W : List (List (Option Int))} {i c : Nat} {e : Option Int} (hi : i < tb.length) (hc : c < (tb.getD i []).length) (hn : gE tb i c = none) (h : Wrl B cs (setE tb i c e) D W) : Wrl B cs tb D W :=
  ⟨by rw [h.len, setE_len], h.vt, h.full, fun j d z hz => h.keep j d z (by
    rw [gE_set hi hc, if_neg (fun q => by rw [q.1, q.2, hn] at hz; cases hz)]
    exact hz), h.tw⟩
/-! the tree's text -/
section
variable {T : Tab} {n k a : Nat} {m : Mem} {Q : W → Mem → Prop} {X : Xn → Mem → Prop} {B : Int} {cs : List (Option (List Int))} {c : Option (List Int)} {r r1 r2 o : List (Option Int)} {tb : List (List (Option Int))} {s : List Int} {x y : PyData}
end
end MP
/-! MZD: the law's own judge of trees finds the search's trees right -/
namespace MP
open PySem
section
variable {T : Tab} {n k a : Nat} {m : Mem} {Q : W → Mem → Prop} {X : Xn → Mem → Prop} {cs : List (Option (List Int))} {tb w : List (List (Option Int))} {r r1 r2 : List (Option Int)} {s : List Int} {x y xc xt xd : PyData} {D : List (List Int)}
end
end MP
/-! MZE: the law's tight tables -/
namespace MP
open PySem
section
variable {T : Tab} {n k a : Nat} {m : Mem} {Q : W → Mem → Prop} {X : Xn → Mem → Prop}
end
end MP
/-! MZF: which tables have a world that keeps a demand -/
namespace MP
open PySem
section
variable {cs : List (Option (List Int))} {D : List (List Int)} {tb W : List (List (Option Int))}
/-! an open column: a value that no other entry has -/
/-! the search and the law's own search find the same -/
end
end MP
/-! MZG: the law's own search; the settled entries, freshly told -/
namespace MP
open PySem
section
variable {T : Tab} {n k a : Nat} {m : Mem} {Q : W → Mem → Prop} {X : Xn → Mem → Prop} {cs : List (Option (List Int))} {tb w : List (List (Option Int))} {r r1 r2 : List (Option Int)} {s : List Int} {x y xc xt xd : PyData} {D : List (List Int)}
end
end MP
/-! MZH: barred values (printed by mkmzh.py) -/
namespace MP
open PySem
section
variable {T : Tab} {n k a : Nat} {m : Mem} {Q : W → Mem → Prop} {X : Xn → Mem → Prop} {cs : List (Option (List Int))} {tb w : List (List (Option Int))} {c t x y xc xt xd : PyData} {D : List (List Int)} {e : String}
end
end MP
/-! MZI: the law's own judges of rows and worlds, for any value -/
namespace MP
open PySem
section
variable {T : Tab} {n k a : Nat} {m : Mem} {Q : W → Mem → Prop} {X : Xn → Mem → Prop} {cs : List (Option (List Int))} {c : Option (List Int)} {tb w : List (List (Option Int))} {r : List (Option Int)} {s : List Int} {x y xc xt xd : PyData}
end
end MP
/-! a value changed at any depth: it stays tame -/
namespace MP
open PySem
section
variable {T : Tab} {n a pk : Nat} {m : Mem} {Q : W → Mem → Prop} {X : Xn → Mem → Prop}
end
end MP
/-! MZK: the law's own judges of tables, sets, demands, for any value -/
namespace MP
open PySem
section
variable {T : Tab} {n k a : Nat} {m : Mem} {Q : W → Mem → Prop} {X : Xn → Mem → Prop} {cs : List (Option (List Int))} {c : Option (List Int)} {x y xc xt xd : PyData}
end
end MP
/-! MZL: the law's own judge of columns, for any value -/
namespace MP
open PySem
section
variable {T : Tab} {n k a : Nat} {m : Mem} {Q : W → Mem → Prop} {X : Xn → Mem → Prop} {x y : PyData}
end
end MP
/-! MZM: the law's own judge of trees, for any value -/
namespace MP
open PySem
section
variable {T : Tab} {n k a : Nat} {m : Mem} {Q : W → Mem → Prop} {X : Xn → Mem → Prop} {cs : List (Option (List Int))} {tb w : List (List (Option Int))} {r r1 r2 : List (Option Int)} {s : List Int} {x y xc xt xd : PyData} {D : List (List Int)}
end
end MP
/-! MZN: counted worlds: what the program's functions answer -/
namespace MP
open PySem
/-! ### what the functions answer -/
section
variable {T : Tab} {n k a : Nat} {m : Mem} {Q : W → Mem → Prop} {X : Xn → Mem → Prop} {cs : List (Option (List Int))} {tb w : List (List (Option Int))} {s : List Int} {x y xc xt xd : PyData} {D : List (List Int)}
end
end MP
/-! MZO: counted worlds: numbers of trees -/
namespace MP
open PySem
section
variable {T : Tab} {n k a : Nat} {m : Mem} {Q : W → Mem → Prop} {X : Xn → Mem → Prop} {cs : List (Option (List Int))} {tb w : List (List (Option Int))} {s : List Int} {x y xc xt xd : PyData} {D : List (List Int)}
end
end MP
/-! MZP: counted worlds: what the program's functions of counts answer -/
namespace MP
open PySem
section
variable {T : Tab} {n k a : Nat} {m : Mem} {Q : W → Mem → Prop} {X : Xn → Mem → Prop} {cs : List (Option (List Int))} {tb w : List (List (Option Int))} {s : List Int} {c t d x y xc xt xd : PyData} {D : List (List Int)} {e : String}
/-! the functions that begin with require_table, require_demand -/
/-! refusals -/
end
end MP
/-! MZQ: contracts of the checker: meeting, key, tree -/
namespace MP
open PySem
section
variable {T : Tab} {n : Nat} {m : Mem} {Q : W → Mem → Prop} {X : Xn → Mem → Prop} {cs : List (Option (List Int))} {tb : List (List (Option Int))} {D : List (List Int)} {s : List Int} {x xt xd : PyData}
/-! ### find_wrong, check -/
end
end MP
namespace K55
open PySem MP
/-- _law_wide(pen, many): pen, many, count, first, rows, step, i, j, k, kind, row; in 1 laws -/
def g_law_wide : Fn := ⟨2, 11, false, (.seq (.set 2 (.call "_law_one" (.cons (.var 0) (.cons (.lst (.cons (.lit (.int 5)) (.cons (.lit (.int 6)) (.cons (.lit (.int 9)) (.cons (.lit (.int 17)) (.cons (.lit (.int 25)) (.cons (.lit (.int 39)) (.cons (.lit (.int 40)) .nil)))))))) .nil)))) (.seq (.set 3 (.call "_law_one" (.cons (.var 0) (.cons (.lst (.cons (.lit (.int 0)) (.cons (.lit (.int 0)) (.cons (.bin .pow (.lit (.int 10)) (.lit (.int 29))) .nil)))) .nil)))) (.seq (.nrw 4 (.nm 8) (.rng1 (.var 2)) .nil (.bin .mul (.lst (.cons (.bin .add (.var 3) (.var 8)) .nil)) (.var 1)) [8]) (.seq (.for_ (.nm 5) (.rng1 (.call "_law_one" (.cons (.var 0) (.cons (.lst (.cons (.lit (.int 0)) (.cons (.lit (.int 1)) (.cons (.lit (.int 1)) (.cons (.lit (.int 2)) (.cons (.lit (.int 3)) .nil)))))) .nil)))) (.seq (.par 6 7 false false (.call "_law_take" (.cons (.var 0) (.cons (.var 2) .nil))) (.call "_law_take" (.cons (.var 0) (.cons (.var 2) .nil)))) (.seq (.par 8 9 false false (.call "_law_take" (.cons (.var 0) (.cons (.var 1) .nil))) (.call "_law_take" (.cons (.var 0) (.cons (.lit (.int 4)) .nil)))) (.seq (.ite (.cmp .eq (.var 9) (.lit (.int 0))) (.seq (.st2 (.subr (.var 4) (.var 6)) (.var 8) (.lit .none)) .skip) (.seq (.ite (.cmp .eq (.var 9) (.lit (.int 1))) (.seq (.stl (.var 4) (.var 6) (.bi .list (.cons (.subr (.var 4) (.var 7)) .nil))) .skip) (.seq (.st2 (.subr (.var 4) (.var 6)) (.var 8) (.sub (.subr (.var 4) (.var 7)) (.var 8))) .skip)) .skip)) .skip)))) (.seq (.ret (.bi .tuple (.cons (.comp (.nm 10) (.itv (.frz (.var 4))) .nil (.bi .tuple (.cons (.var 10) .nil)) [10]) .nil))) .skip)))))⟩
structure H_law_wide (T : Tab) : Prop where
  me : T.lookup "_law_wide" = some g_law_wide
  c_law_one : H_law_one T
  c_law_take : H_law_take T
/-- _law_obeys(rules, table): rules, table, row, some, column; in 1 laws -/
def g_law_obeys : Fn := ⟨2, 5, false, (.seq (.for_ (.nm 2) (.itv (.var 1)) (.seq (.ite (.cmp .isin (.lit .none) (.comp (.nm 4) (.itv (.sub (.var 0) (.lit (.int 0)))) .nil (.sub (.var 2) (.var 4)) [4])) (.seq (.ret (.lit (.bool false))) .skip) .skip) .skip)) (.seq (.for_ (.nm 3) (.itv (.sub (.var 0) (.lit (.int 1)))) (.seq (.ite (.not (.call "_law_is_sure" (.cons (.var 1) (.cons (.var 3) .nil)))) (.seq (.ret (.lit (.bool false))) .skip) .skip) .skip)) (.seq (.ret (.bi .all (.cons (.comp (.nm 3) (.itv (.sub (.var 0) (.lit (.int 2)))) .nil (.call "_law_is_open_key" (.cons (.var 1) (.cons (.var 3) .nil))) [3]) .nil))) .skip)))⟩
structure H_law_obeys (T : Tab) : Prop where
  me : T.lookup "_law_obeys" = some g_law_obeys
  c_law_is_open_key : H_law_is_open_key T
  c_law_is_sure : H_law_is_sure T
/-- law(script): script, pen, turn, many, table, some, cases, rules, kept; in 1 laws -/
def g_law : Fn := ⟨1, 9, false, (.seq (.set 1 (.call "_law_open" (.cons (.var 0) .nil))) (.seq (.for_ (.nm 2) (.rng1 (.lit (.int 7))) (.seq (.set 3 (.bin .add (.lit (.int 1)) (.call "_law_take" (.cons (.call "_law_anew" (.cons (.var 1) .nil)) (.cons (.lit (.int 4)) .nil))))) (.seq (.set 4 (.call "_law_wide" (.cons (.var 1) (.cons (.var 3) .nil)))) (.seq (.set 5 (.bi .tuple (.cons (.lst (.cons (.call "_law_set" (.cons (.var 1) (.cons (.var 3) .nil))) .nil)) .nil))) (.seq (.set 6 (.lst (.cons (.call "_law_key_rules" (.cons (.var 1) (.cons (.var 3) .nil))) (.cons (.tup (.cons (.tup .nil) (.cons (.var 5) (.cons (.tup .nil) .nil)))) .nil)))) (.seq (.set 6 (.bin .add (.var 6) (.lst (.cons (.tup (.cons (.tup .nil) (.cons (.tup .nil) (.cons (.var 5) .nil)))) (.cons (.tup (.cons (.sub (.var 5) (.lit (.int 0))) (.cons (.tup .nil) (.cons (.tup .nil) .nil)))) .nil))))) (.seq (.for_ (.nm 7) (.itv (.var 6)) (.seq (.set 8 (.bi .repr (.cons (.tup (.cons (.var 7) (.cons (.var 4) .nil))) .nil))) (.seq (.ite (.cmp .ne (.bi .repr (.cons (.call "obeys" (.cons (.var 3) (.cons (.var 7) (.cons (.var 4) .nil)))) .nil)) (.bi .repr (.cons (.call "_law_obeys" (.cons (.var 7) (.cons (.var 4) .nil))) .nil))) (.seq (.ret (.lit (.bool false))) .skip) .skip) (.seq (.ite (.cmp .ne (.bi .repr (.cons (.tup (.cons (.var 7) (.cons (.var 4) .nil))) .nil)) (.var 8)) (.seq (.ret (.lit (.bool false))) .skip) .skip) .skip)))) .skip))))))) (.seq (.ret (.lit (.bool true))) .skip)))⟩
structure H_law (T : Tab) : Prop where
  me : T.lookup "law" = some g_law
  c_law_anew : H_law_anew T
  c_law_key_rules : H_law_key_rules T
  c_law_obeys : H_law_obeys T
  c_law_open : H_law_open T
  c_law_set2 : H_law_set2 T
  c_law_take : H_law_take T
  c_law_wide : H_law_wide T
  c_obeys : H_obeys T
end K55
namespace K55
open PySem MP
def BB : Int := 100000000000000000000000000100
/-- a row of a wide table -/
structure RO (many : Int) (r : List (Option Int)) : Prop where
  len : (r.length : Int) = many
  bd : ∀ e ∈ r, ∀ z, e = some z → 0 ≤ z ∧ z < BB
theorem mul_l {x : PyData} {k : Int} (h0 : 0 ≤ k) (h1 : k ≤ 1000) : binF .mul (.list [x]) (.int k) = some (.list (List.replicate k.toNat x)) := by
  show (if -1000 ≤ k ∧ k ≤ 1000 ∧ 1 ≤ 1000 then some (PyData.list (List.replicate k.toNat [x]).flatten) else none) = _
  rw [if_pos ⟨by omega, h1, by decide⟩]
  congr 2
  generalize k.toNat = n
  induction n with
  | zero => rfl
  | succ n ih => rw [List.replicate_succ, List.flatten_cons, ih]; rfl
theorem RO.set {many : Int} {r : List (Option Int)} {q : Nat} {e : Option Int} (h : RO many r) (he : ∀ z, e = some z → 0 ≤ z ∧ z < BB) : RO many (r.set q e) := ⟨by rw [List.length_set]; exact h.len, fun u hu => by
  rcases List.mem_or_eq_of_mem_set hu with hu | hu
  · exact h.bd u hu
  · rw [hu]; exact he⟩
/-- the rows in the cells -/
structure Rs (many : Int) (c b : Nat) (M : Mem) (o : Nat) (ns : List Nat) (R : List (List (Option Int))) : Prop where
  at_ : M[o]? = some (.rfs ns)
  len : ns.length = c
  lenR : R.length = c
  nd : ns.Nodup
  no : o ∉ ns
  ob : b ≤ o
  nb : ∀ k ∈ ns, b ≤ k ∧ k < M.length
  cell : ∀ (q : Nat) k, ns[q]? = some k → M[k]? = some (.lst ((R.getD q []).map oD))
  ok : ∀ r ∈ R, RO many r
theorem getD_ok {R : List (List (Option Int))} {P : List (Option Int) → Prop} (h : ∀ r ∈ R, P r) {q : Nat} (hq : q < R.length) : P (R.getD q []) := by
  rw [List.getD_eq_getElem?_getD, List.getElem?_eq_getElem hq]
  exact h _ (List.getElem_mem hq)
theorem Rs.pen {many : Int} {c b : Nat} {M M' : Mem} {o : Nat} {ns : List Nat} {R : List (List (Option Int))} {pk : Nat} (h : Rs many c b M o ns R) (hpk : pk < b) (hu : Upd pk M M') : Rs many c b M' o ns R := by
  have ne : ∀ k, b ≤ k → k ≠ pk := fun k h => by omega
  refine ⟨by rw [hu.2 _ (ne _ h.ob)]; exact h.at_, h.len, h.lenR, h.nd, h.no, h.ob, fun k hk => ⟨(h.nb k hk).1, by rw [hu.1]; exact (h.nb k hk).2⟩, fun q k hk => ?_, h.ok⟩
  rw [hu.2 _ (ne _ (h.nb k (List.mem_of_getElem? hk)).1)]
  exact h.cell q k hk
theorem nd_at {ns : List Nat} (h : ns.Nodup) {i j k : Nat} (hi : ns[i]? = some k) (hj : ns[j]? = some k) : i = j := by
  obtain ⟨x1, y1⟩ := List.getElem?_eq_some_iff.mp hi
  obtain ⟨x2, y2⟩ := List.getElem?_eq_some_iff.mp hj
  exact (List.getElem_inj h).mp (y1.trans y2.symm)
theorem nd_set {k : Nat} : ∀ {ns : List Nat} {i : Nat}, ns.Nodup → k ∉ ns → (ns.set i k).Nodup
  | [], _, h, _ => h
  | n :: r, 0, h, hk => List.nodup_cons.mpr ⟨fun q => hk (List.mem_cons_of_mem _ q), (List.nodup_cons.mp h).2⟩
  | n :: r, i + 1, h, hk => List.nodup_cons.mpr ⟨fun q => by
      rcases List.mem_or_eq_of_mem_set q with q | q
      · exact (List.nodup_cons.mp h).1 q
      · exact hk (by simp [q]), nd_set (List.nodup_cons.mp h).2 fun q => hk (List.mem_cons_of_mem _ q)⟩
theorem Rs.put {many : Int} {c b : Nat} {M : Mem} {o : Nat} {ns : List Nat} {R : List (List (Option Int))} (h : Rs many c b M o ns R) {i k : Nat} (hi : ns[i]? = some k) {r : List (Option Int)} (hr : RO many r) : Rs many c b (M.set k (.lst (r.map oD))) o ns (R.set i r) := by
  have hk := h.nb k (List.mem_of_getElem? hi)
  have hil : i < R.length := by rw [h.lenR, ← h.len]; exact (List.getElem?_eq_some_iff.mp hi).1
  have hko : k ≠ o := fun e => h.no (by rw [← e]; exact List.mem_of_getElem? hi)
  refine ⟨by rw [List.getElem?_set_ne hko]; exact h.at_, h.len, by rw [List.length_set]; exact h.lenR, h.nd, h.no, h.ob, fun k' hk' => ⟨(h.nb k' hk').1, by rw [List.length_set]; exact (h.nb k' hk').2⟩, fun q k' hq => ?_, fun r' hr' => ?_⟩
  · by_cases e : k' = k
    · subst e
      have eq := nd_at h.nd hi hq
      subst eq
      rw [List.getElem?_set_self hk.2, List.getD_eq_getElem?_getD, List.getElem?_set_self hil]
      rfl
    · have hne : i ≠ q := fun e2 => e (by rw [e2, hq] at hi; exact Option.some.inj hi)
      rw [List.getElem?_set_ne (Ne.symm e), h.cell q k' hq, List.getD_eq_getElem?_getD, List.getD_eq_getElem?_getD, List.getElem?_set_ne hne]
  · rcases List.mem_or_eq_of_mem_set hr' with h' | h'
    · exact h.ok r' h'
    · rw [h']; exact hr
theorem Rs.own {many : Int} {c b : Nat} {M : Mem} {o : Nat} {ns : List Nat} {R : List (List (Option Int))} (h : Rs many c b M o ns R) (hb : b ≤ M.length) {i : Nat} (hi : i < c) {r : List (Option Int)} (hr : RO many r) : Rs many c b ((M ++ [Cell.lst (r.map oD)]).set o (.rfs (ns.set i M.length))) o (ns.set i M.length) (R.set i r) := by
  have hol : o < M.length := (List.getElem?_eq_some_iff.mp h.at_).1
  have hnl : M.length ∉ ns := fun q => by have := (h.nb _ q).2; omega
  have hin : i < ns.length := by rw [h.len]; exact hi
  refine ⟨by rw [List.getElem?_set_self (by simp; omega)], by rw [List.length_set]; exact h.len, by rw [List.length_set]; exact h.lenR, ?_, fun q => ?_, h.ob, fun k hk => ?_, fun q k hk => ?_, fun r' hr' => ?_⟩
  · exact nd_set h.nd hnl
  · rcases List.mem_or_eq_of_mem_set q with q | q
    · exact h.no q
    · omega
  · rw [List.length_set, List.length_append]
    rcases List.mem_or_eq_of_mem_set hk with q | q
    · have := h.nb k q; exact ⟨this.1, by show k < M.length + 1; omega⟩
    · exact ⟨by omega, by show k < M.length + 1; omega⟩
  · have hko : k ≠ o := fun e => by
      subst e
      rcases List.mem_or_eq_of_mem_set (List.mem_of_getElem? hk) with q | q
      · exact h.no q
      · omega
    rw [List.getElem?_set_ne (Ne.symm hko)]
    by_cases e : i = q
    · subst e
      rw [List.getElem?_set_self hin] at hk
      cases hk
      rw [List.getElem?_append_right (Nat.le_refl _)]
      rw [List.getD_eq_getElem?_getD, List.getElem?_set_self (by rw [h.lenR]; exact hi)]
      simp
    · rw [List.getElem?_set_ne e] at hk
      have := h.nb k (List.mem_of_getElem? hk)
      rw [List.getElem?_append_left this.2, h.cell q k hk, List.getD_eq_getElem?_getD, List.getD_eq_getElem?_getD, List.getElem?_set_ne e]
  · rcases List.mem_or_eq_of_mem_set hr' with h' | h'
    · exact h.ok r' h'
    · rw [h']; exact hr
theorem rowsAt_eq {M : Mem} : ∀ {ns : List Nat} {R : List (List (Option Int))}, ns.length = R.length → (∀ (q : Nat) k, ns[q]? = some k → M[k]? = some (.lst ((R.getD q []).map oD))) → rowsAt M ns = some (R.map fun r => .list (r.map oD))
  | [], [], _, _ => rfl
  | [], _ :: _, h, _ => by cases h
  | _ :: _, [], h, _ => by cases h
  | k :: ns, r :: R, h, hc => by
    unfold rowsAt
    have h0 := hc 0 k rfl
    rw [h0]
    show (rowsAt M ns).map _ = _
    rw [rowsAt_eq (R := R) (by simpa using h) fun q k' hk => by
      have := hc (q + 1) k' (by simpa using hk)
      simpa using this]
    rfl
theorem dead_at {M : Mem} : ∀ {ns : List Nat} {M : Mem} {i : Nat}, i ∉ ns → (deadAll M ns)[i]? = M[i]?
  | [], _, _, _ => rfl
  | k :: r, M, i, h => by
    show (deadAll (M.set k .dead) r)[i]? = _
    rw [dead_at (M := M) fun q => h (List.mem_cons_of_mem _ q), List.getElem?_set_ne fun e => h (by simp [e])]
theorem dead_len : ∀ {ns : List Nat} {M : Mem}, (deadAll M ns).length = M.length
  | [], _ => rfl
  | k :: r, M => by show (deadAll (M.set k .dead) r).length = _; rw [dead_len, List.length_set]
section
variable {T : Tab} {n a pk k : Nat} {m : Mem} {Q : W → Mem → Prop} {X : Xn → Mem → Prop} {many : Int} {K s : List Int} {S P : List (List Int)} {tb : List (List (Option Int))} {x xt y du : PyData}
theorem L_wide (H : H_law_wide T) (hp : Pen m pk a) (ha : a + 20 ≤ 1048576) (h1 : 1 ≤ many) (h4 : many ≤ 4)
    (hQ : ∀ tb m', tb.length ≤ 40 → (∀ r ∈ tb, RO many r) → Upd pk m m' → Pen m' pk (a + 20) → Q (.d (tabD tb)) m') : OkX (callN T (n + 4) "_law_wide" [.ref pk, .d (.int many)] m) Q X := by
  have hk := hp.lt
  rw [call_of (fn := g_law_wide) H.me ⟨rfl, by decide⟩]
  show OkS (denS (callN T (n + 3)) g_law_wide.body [some (.ref pk), some (.d (.int many)), none, none, none, none, none, none, none, none, none] m) _
  unfold g_law_wide
  dsimp only
  refine seq_st fun N hN => ?_
  leaf_len
  refine L_one (n := n) H.c_law_one (l := intD [5, 6, 9, 17, 25, 39, 40]) hp (by omega) (.inl rfl) (by decide) (by decide) fun d m1 hd hu1 hp1 => hN _ _ ?_
  clear hN N
  obtain ⟨c, rfl, c0, c40⟩ : ∃ c : Int, d = .int c ∧ 5 ≤ c ∧ c ≤ 40 := by
    obtain ⟨z, hz, rfl⟩ := List.mem_map.mp hd
    refine ⟨z, rfl, ?_⟩
    simp only [List.mem_cons, List.not_mem_nil, or_false] at hz
    rcases hz with rfl | rfl | rfl | rfl | rfl | rfl | rfl <;> decide
  refine seq_st fun N hN => ?_
  leaf_len
  refine ⟨_, b_pow (by decide) (by decide) (by decide) (by decide), ?_⟩
  refine L_one (n := n) H.c_law_one (l := [.int 0, .int 0, .int (10 ^ (29 : Int).toNat)]) hp1 (by omega) (.inl rfl) (by show 0 < 3; decide) (by show 3 ≤ 1000000; decide) fun d m2 hd hu2 hp2 => hN _ _ ?_
  clear hN N
  obtain ⟨f, rfl, f0, f1⟩ : ∃ f : Int, d = .int f ∧ 0 ≤ f ∧ f ≤ 100000000000000000000000000000 := by
    have e29 : (10 : Int) ^ (29 : Int).toNat = 100000000000000000000000000000 := by decide
    rw [e29] at hd
    simp only [List.mem_cons, List.not_mem_nil, or_false] at hd
    rcases hd with rfl | rfl | rfl
    · exact ⟨0, rfl, by decide, by decide⟩
    · exact ⟨0, rfl, by decide, by decide⟩
    · exact ⟨_, rfl, by decide, by decide⟩
  have hu := hu1.trans hu2
  have hml : m2.length = m.length := hu.1
  clear hu1 hu2 hp1
  refine seq_st fun N hN => ?_
  rw [s_nrw]
  leaf_len
  refine ⟨c, rfl, ⟨by omega, by omega⟩, ?_⟩
  have hlen : (rngD 0 c.toNat).length = c.toNat := rngD_len _ _
  refine ⟨by show (rngD 0 c.toNat).length ≤ _; rw [hlen, sizeLine_eq]; omega, ?_⟩
  show OkX (compR _ _ (rngD 0 c.toNat) m2) _ _
  refine compR_ok (fun j ns M => ∃ R : List (List (Option Int)), M = m2 ++ R.map (fun r => Cell.lst (r.map oD)) ∧ R.length = j ∧ ns = List.range' m2.length j ∧ ∀ r ∈ R, RO many r) _ _ ⟨[], by simp, rfl, rfl, by simp⟩ ?_ ?_
  · rintro j z ns M hz ⟨R, rfl, hR, rfl, hok⟩
    obtain ⟨rfl, hj⟩ := rng0_at hz
    refine ⟨trivial, ?_⟩
    rw [x_noX]
    show OkX (Res.bind _ _) _ _
    rw [show List.set (wipeV [some (W.ref pk), some (W.d (PyData.int many)), some (W.d (PyData.int c)), some (W.d (PyData.int f)), none, none, none, none, none, none, none] [8]) 8 (some (W.d (PyData.int (j : Int)))) = [some (W.ref pk), some (W.d (PyData.int many)), some (W.d (PyData.int c)), some (W.d (PyData.int f)), none, none, none, none, some (W.d (PyData.int (j : Int))), none, none] from rfl]
    simp only [x_bind, x_ite, x_ok, x_opt, ex_map, ex_some, x_new]
    leaf_len
    refine ⟨fun _ => ?_, fun q => (q trivial).elim⟩
    refine ⟨_, mul_l (by omega) (by omega), _, rfl, _, rfl, R ++ [List.replicate many.toNat (some (f + (j : Int)))], ?_, by simp [hR], ?_, fun r hr => ?_⟩
    · rw [List.map_append, ← List.append_assoc]
      simp [oD]
    · rw [List.range'_concat]
      simp [hR]
    · rcases List.mem_append.mp hr with hr | hr
      · exact hok r hr
      · rw [List.mem_singleton.mp hr]
        refine ⟨by rw [List.length_replicate]; omega, fun e he z hz => ?_⟩
        rw [(List.mem_replicate.mp he).2] at hz
        cases hz
        unfold BB
        omega
  rintro ns M ⟨R, rfl, hR, rfl, hok⟩
  rw [hlen] at hR
  rw [hlen]
  refine ⟨trivial, hN _ _ ?_⟩
  clear hN N
  obtain ⟨cn, hcn⟩ : ∃ cn : Nat, cn = c.toNat := ⟨_, rfl⟩
  rw [← hcn] at hR ⊢
  have hMl : (m2 ++ R.map fun r => Cell.lst (r.map oD)).length = m2.length + cn := by simp [hR]
  have rs0 : Rs many cn m.length (m2 ++ (R.map fun r => Cell.lst (r.map oD)) ++ [Cell.rfs (List.range' m2.length cn)]) (m2 ++ R.map fun r => Cell.lst (r.map oD)).length (List.range' m2.length cn) R := by
    refine ⟨by simp, List.length_range', hR, List.nodup_range', fun q => ?_, by omega, fun k hk => ?_, fun q k hk => ?_, hok⟩
    · have := List.mem_range'_1.mp q; omega
    · have := List.mem_range'_1.mp hk
      rw [List.length_append, hMl]
      exact ⟨by omega, by show k < m2.length + cn + 1; omega⟩
    · obtain ⟨hq, e⟩ := List.getElem?_eq_some_iff.mp hk
      rw [List.length_range'] at hq
      rw [List.getElem_range'] at e
      have e : k = m2.length + q := by omega
      subst e
      rw [List.getElem?_append_left (by rw [hMl]; omega), List.getElem?_append_right (by omega), show m2.length + q - m2.length = q by omega, List.getElem?_map, List.getElem?_eq_getElem (by omega), List.getD_eq_getElem?_getD, List.getElem?_eq_getElem (by omega)]
      rfl
  have hux0 : Upx pk m (m2 ++ (R.map fun r => Cell.lst (r.map oD)) ++ [Cell.rfs (List.range' m2.length cn)]) := by
    rw [List.append_assoc]
    exact (Upx.of hu).trans ⟨by simp, fun j _ hl => List.getElem?_append_left hl⟩
  have hp0 : Pen (m2 ++ (R.map fun r => Cell.lst (r.map oD)) ++ [Cell.rfs (List.range' m2.length cn)]) pk (a + 2) := by
    rw [List.append_assoc]
    exact hp2.app
  generalize (m2 ++ R.map fun r => Cell.lst (r.map oD)).length = o at rs0 ⊢
  generalize (m2 ++ (R.map fun r => Cell.lst (r.map oD)) ++ [Cell.rfs (List.range' m2.length cn)]) = M at rs0 hux0 hp0 ⊢
  generalize List.range' m2.length cn = ns at rs0
  clear hMl hok hR
  refine seq_st fun N hN => ?_
  rw [s_for]
  leaf_len
  refine L_one (n := n) H.c_law_one (l := intD [0, 1, 1, 2, 3]) hp0 (by omega) (.inl rfl) (by decide) (by decide) fun d M1 hd hu1 hp1 => ?_
  obtain ⟨st, rfl, s0, s3⟩ : ∃ st : Int, d = .int st ∧ 0 ≤ st ∧ st ≤ 3 := by
    obtain ⟨z, hz, rfl⟩ := List.mem_map.mp hd
    refine ⟨z, rfl, ?_⟩
    simp only [List.mem_cons, List.not_mem_nil, or_false] at hz
    rcases hz with rfl | rfl | rfl | rfl | rfl <;> decide
  refine ⟨st, rfl, ⟨by omega, by omega⟩, ?_⟩
  have rs1 := rs0.pen hk hu1
  have hux1 := hux0.trans (.of hu1)
  have hlens : (rngD 0 st.toNat).length = st.toNat := rngD_len _ _
  clear rs0 hux0 hp0 hd
  obtain ⟨I, hI⟩ : ∃ I : Nat → Vr → Mem → Prop, I = fun j v M => Upx pk m M ∧ Pen M pk (a + 3 + 4 * j) ∧ ∃ (ns : List Nat) (R : List (List (Option Int))) (x5 x6 x7 x8 x9 : Option W), v = [some (.ref pk), some (.d (.int many)), some (.d (.int c)), some (.d (.int f)), some (.ref o), x5, x6, x7, x8, x9, none] ∧ Rs many cn m.length M o ns R := ⟨_, rfl⟩
  refine for_ok I _ _ _ (by rw [hI]; exact ⟨hux1, hp1.mono (by omega), ns, R, _, _, _, _, _, rfl, rs1⟩) ?_ ?_
  · intro j z v M hz hv
    rw [hI] at hv
    obtain ⟨hux, hp, ns, R, x5, x6, x7, x8, x9, rfl, rs⟩ := hv
    obtain ⟨rfl, hj⟩ := rng0_at hz
    have hj3 : j < 3 := by omega
    obtain ⟨ji, hji⟩ : ∃ ji : Int, ji = (j : Int) := ⟨_, rfl⟩
    refine ⟨trivial, ?_⟩
    rw [f_for, ← hji]
    refine ⟨[some (.ref pk), some (.d (.int many)), some (.d (.int c)), some (.d (.int f)), some (.ref o), some (.d (.int ji)), x6, x7, x8, x9, none], rfl, ?_⟩
    clear hN
    refine seq_st fun N1 hN => ?_
    leaf_len
    refine L_take (n := n + 1) H.c_law_take hp (by omega) (by omega) (by omega) fun i1 Ma i10 i11 hua hpa => ?_
    refine L_take (n := n + 1) H.c_law_take hpa (by omega) (by omega) (by omega) fun i2 Mb i20 i21 hub hpb => ?_
    refine ⟨by decide, hN _ _ ?_⟩
    clear hN N1
    refine seq_st fun N1 hN => ?_
    leaf_len
    refine L_take (n := n + 1) H.c_law_take hpb (by omega) (by omega) (by omega) fun k1 Mc k10 k11 huc hpc => ?_
    refine L_take (n := n + 1) H.c_law_take hpc (by omega) (by omega) (by omega) fun kd Md kd0 kd1 hud hpd => ?_
    refine ⟨by decide, hN _ _ ?_⟩
    clear hN N1
    have hux2 := hux.trans (.of (hua.trans (hub.trans (huc.trans hud))))
    have rs2 := rs.pen hk (hua.trans (hub.trans (huc.trans hud)))
    clear rs hux hua hub huc hud hpa hpb hpc hp
    have hcn : (cn : Int) = c := by omega
    have at1 := rfsAt_of rs2.at_
    have ixn : ∀ i : Int, 0 ≤ i → i < c → ∃ k, ixF ns i = some k ∧ ns[i.toNat]? = some k := fun i h0 h1 => by
      have hl : i.toNat < ns.length := by rw [rs2.len]; omega
      refine ⟨ns[i.toNat], ?_, List.getElem?_eq_getElem hl⟩
      unfold ixF
      rw [if_pos h0, List.getElem?_eq_getElem hl]
    obtain ⟨q1, hq1, hn1⟩ := ixn i1 i10 i11
    obtain ⟨q2, hq2, hn2⟩ := ixn i2 i20 i21
    have ro : ∀ i : Int, 0 ≤ i → i < c → RO many (R.getD i.toNat []) := fun i h0 h1 => getD_ok rs2.ok (by rw [rs2.lenR]; omega)
    have ro1 := ro i1 i10 i11
    have ro2 := ro i2 i20 i21
    have c1 := rs2.cell _ _ hn1
    have c2 := rs2.cell _ _ hn2
    have pen_ns : ∀ k ∈ ns, k ≠ pk := fun k hk' => by have := (rs2.nb k hk').1; omega
    have fin : ∀ {M' : Mem} {ns' : List Nat} {R' : List (List (Option Int))}, Upx pk m M' → Pen M' pk (a + 3 + 4 * j + 4) → Rs many cn m.length M' o ns' R' → I (j + 1) [some (.ref pk), some (.d (.int many)), some (.d (.int c)), some (.d (.int f)), some (.ref o), some (.d (.int ji)), some (.d (.int i1)), some (.d (.int i2)), some (.d (.int k1)), some (.d (.int kd)), none] M' := fun {M' ns' R'} h1 h2 h3 => by
      rw [hI]
      exact ⟨h1, h2.mono (by omega), ns', R', _, _, _, _, _, rfl, h3⟩
    have pl : ∀ {r : List (Option Int)}, RO many r → placeIx (r.map oD).length k1 = some k1.toNat := fun {r} h => by
      have := h.len
      unfold placeIx
      rw [if_pos k10, if_pos (by rw [List.length_map]; omega)]
    rw [s_seq]
    rw [s_if]
    leaf_len
    refine ⟨fun q => ?_, fun q => ?_⟩
    · rw [s_seq, s_st2]
      leaf_len
      rw [e_subr]
      leaf_len
      refine ⟨o, rfl, ns, at1, i1, rfl, q1, hq1, q1, rfl, _, lstAt_of c1, k1, rfl, _, pl ro1, ?_⟩
      have e : ((R.getD i1.toNat []).map oD).set k1.toNat .none = ((R.getD i1.toNat []).set k1.toNat none).map oD := by rw [List.map_set]; rfl
      rw [e]
      exact fin (hux2.set (rs2.nb _ (List.mem_of_getElem? hn1)).1) (pen_set hpd (pen_ns _ (List.mem_of_getElem? hn1))) (rs2.put hn1 (ro1.set fun z e => by cases e))
    rw [s_seq, s_if]
    leaf_len
    refine ⟨fun q' => ?_, fun q' => ?_⟩
    · rw [s_seq, s_stl]
      leaf_len
      rw [e_subr]
      leaf_len
      refine ⟨o, rfl, ns, at1, i2, rfl, q2, hq2, ?_⟩
      have hol : o < Md.length := (List.getElem?_eq_some_iff.mp rs2.at_).1
      refine ⟨_, by rw [vw_ref c2]; rfl, _, rfl, _, rfl, o, rfl, ns, rfsAt_of (by rw [List.getElem?_append_left hol]; exact rs2.at_), i1, rfl, i1.toNat, by
        unfold placeIx
        rw [if_pos i10, if_pos (by rw [rs2.len]; omega)], ?_⟩
      have hob := rs2.ob
      exact fin ((hux2.trans Upx.app).set hob) (pen_set (pen_app hpd) (by omega)) (rs2.own hux2.len (by omega) ro2)
    · rw [s_seq, s_st2]
      leaf_len
      rw [e_subr]
      leaf_len
      refine ⟨o, rfl, ns, at1, i2, rfl, q2, hq2, ?_⟩
      obtain ⟨rr, hrr⟩ : ∃ rr, rr = R.getD i2.toNat [] := ⟨_, rfl⟩
      rw [← hrr] at ro2 c2
      have l2 := ro2.len
      have ix2 : subF (.list (rr.map oD)) (.int k1) = some (oD (rr.getD k1.toNat none)) := by
        show ixF (rr.map oD) k1 = _
        unfold ixF
        rw [if_pos k10, List.getElem?_map, List.getElem?_eq_getElem (by omega), List.getD_eq_getElem?_getD, List.getElem?_eq_getElem (by omega)]
        rfl
      refine ⟨_, vw_ref c2, _, ix2, ?_⟩
      rw [e_subr]
      leaf_len
      refine ⟨o, rfl, ns, at1, i1, rfl, q1, hq1, q1, rfl, _, lstAt_of c1, k1, rfl, _, pl ro1, ?_⟩
      obtain ⟨e, he⟩ : ∃ e, e = rr.getD k1.toNat none := ⟨_, rfl⟩
      have hbe : ∀ z, e = some z → 0 ≤ z ∧ z < BB := fun z hz => by
        refine ro2.bd e ?_ z hz
        rw [he, List.getD_eq_getElem?_getD, List.getElem?_eq_getElem (by omega)]
        exact List.getElem_mem _
      rw [← he]
      have e' : ((R.getD i1.toNat []).map oD).set k1.toNat (oD e) = ((R.getD i1.toNat []).set k1.toNat e).map oD := by rw [List.map_set]
      rw [e']
      exact fin (hux2.set (rs2.nb _ (List.mem_of_getElem? hn1)).1) (pen_set hpd (pen_ns _ (List.mem_of_getElem? hn1))) (rs2.put hn1 (ro1.set hbe))
  · intro v M hv
    rw [hI] at hv
    obtain ⟨hux, hp, ns, R, x5, x6, x7, x8, x9, rfl, rs⟩ := hv
    refine ⟨trivial, hN _ _ ?_⟩
    clear hN
    leaf_len
    rw [e_comp]
    leaf_len
    have hrow := rowsAt_eq (M := M) (ns := ns) (R := R) (by rw [rs.len, rs.lenR]) rs.cell
    rw [frz_rfs rs.at_ rs.nd hrow]
    leaf_len
    refine ⟨_, rfl, by show (R.map fun r => PyData.list (r.map oD)).length ≤ _; rw [List.length_map, rs.lenR, sizeLine_eq]; omega, ?_⟩
    show OkX (compL (Src.stands (Src.items (R.map fun r => PyData.list (r.map oD)))) _ (R.map fun r => PyData.list (r.map oD)) (deadAll (M.set o .dead) ns)) _ _
    refine comp_fm (st := Src.stands (Src.items (R.map fun r => PyData.list (r.map oD)))) (fun r => PyData.list (r.map oD)) (fun r => some (rowD r)) R (deadAll (M.set o .dead) ns) trivial (fun r hr => ?_) ?_
    · rw [f_comp]
      refine ⟨[some (.ref pk), some (.d (.int many)), some (.d (.int c)), some (.d (.int f)), some (.ref o), x5, x6, x7, x8, x9, some (.d (.list (r.map oD)))], rfl, ?_⟩
      leaf_len
      exact ⟨fun _ => trivial, fun q => (q trivial).elim⟩
    rw [fm_map]
    have nn : ∀ k ∈ ns, m.length ≤ k := fun k hk' => (rs.nb k hk').1
    have nin : ∀ i, i < m.length → i ∉ ns := fun i hi q => by have := nn i q; omega
    have dead : ∀ i, i < m.length → (deadAll (M.set o .dead) ns)[i]? = M[i]? := fun i hi => by
      have := rs.ob
      rw [dead_at (M := M) (nin i hi), List.getElem?_set_ne (by omega)]
    have huxD : Upx pk m (deadAll (M.set o .dead) ns) := ⟨by rw [dead_len, List.length_set]; exact hux.len, fun i hi hl => by rw [dead i hl]; exact hux.old i hi hl⟩
    have hpD : Pen (deadAll (M.set o .dead) ns) pk (a + 20) := by
      obtain ⟨cs, p, x, h1, h2⟩ := hp
      refine ⟨cs, p, x, by rw [dead pk hk]; exact h1, ?_⟩
      have : (Src.items (rngD 0 st.toNat)).list.length = st.toNat := hlens
      omega
    exact en_kr (huxD.kr hpD) (hQ R _ (by rw [rs.lenR]; omega) rs.ok huxD.cut (pen_cut hk hpD))
end
end K55
namespace K55
open PySem MP
theorem oD_dep : ∀ o : Option Int, (oD o).depth = 0 := fun o => by cases o <;> rfl
theorem isin_none {α : Type} {L : List α} {f : α → Option Int} : cmpF .isin .none (.list (L.map fun a => oD (f a))) = some (L.any fun a => (f a).isNone) := by
  have hd : deepOk .none (.list (L.map fun a => oD (f a))) := ⟨by show 0 ≤ 64; decide, by
    simp only [PyData.depth]
    have := depthAll_le (k := 0) (l := L.map fun a => oD (f a)) fun x hx => by
      obtain ⟨a, _, rfl⟩ := List.mem_map.mp hx
      rw [oD_dep]; exact Nat.le_refl _
    omega⟩
  have hm : memD .none (L.map fun a => oD (f a)) = L.any fun a => (f a).isNone := by
    clear hd
    induction L with
    | nil => rfl
    | cons a L ih =>
      show (PyData.eqv (oD (f a)) .none || memD .none (L.map fun a => oD (f a))) = _
      rw [ih, List.any_cons]
      cases f a <;> rfl
  show (if deepOk .none (.list (L.map fun a => oD (f a))) then some (memD .none (L.map fun a => oD (f a))) else none) = _
  rw [if_pos hd, hm]
theorem kn_row {K : List Int} {r : List (Option Int)} : (K.any fun c => (gC r c).isNone) = !(K.all fun c => (gC r c).isSome) := by
  induction K with
  | nil => rfl
  | cons c K ih =>
    rw [List.any_cons, List.all_cons, ih]
    cases gC r c <;> rfl
section
variable {T : Tab} {n a pk k : Nat} {m : Mem} {Q : W → Mem → Prop} {X : Xn → Mem → Prop} {many : Int} {K s : List Int} {S P : List (List Int)} {tb : List (List (Option Int))} {x xt y du : PyData}
theorem L_lob (H : H_law_obeys T) (hr : GRI many K S P) (hg : GT many tb) (ht : xt = tabD tb) (h : Q (.d (.bool (oby K S P tb))) m) : OkX (callN T (n + 3) "_law_obeys" [.d (rD K S P), .d xt] m) Q X := by
  have hl := hg.len
  have hbK := gt_b hg hr.k.bd
  have hKl := hr.k.len
  have hsrc : srcOf m (.d xt) = some (.items (tb.map rowD)) := by rw [ht]; rfl
  have SU : ∀ {s : List Int} {Q' : W → Mem → Prop} {X' : Xn → Mem → Prop}, GI many s → Q' (.d (.bool (sureK tb s))) m → OkX (callN T (n + 2) "_law_is_sure" [.d xt, .d (tD s)] m) Q' X' := fun h1 h2 => L_lsk0 (n := n) H.c_law_is_sure ht (by omega) (gt_b hg h1.bd) h2
  have PO : ∀ {s : List Int} {Q' : W → Mem → Prop} {X' : Xn → Mem → Prop}, GI many s → Q' (.d (.bool (possK tb s))) m → OkX (callN T (n + 2) "_law_is_open_key" [.d xt, .d (tD s)] m) Q' X' := fun h1 h2 => L_lpk0 (n := n) H.c_law_is_open_key ht (by omega) (gt_b hg h1.bd) h2
  have hoby : oby K S P tb = (knwn K tb && (S.all (sureK tb) && P.all (possK tb))) := rfl
  rw [hoby] at h
  have r0 : subF (rD K S P) (.int 0) = some (tD K) := rfl
  have r1 : subF (rD K S P) (.int 1) = some (.tuple (S.map tD)) := rfl
  have r2 : subF (rD K S P) (.int 2) = some (.tuple (P.map tD)) := rfl
  obtain ⟨xr, hxr⟩ : ∃ xr, xr = rD K S P := ⟨_, rfl⟩
  rw [← hxr] at r0 r1 r2 ⊢
  rw [call_of (fn := g_law_obeys) H.me ⟨rfl, by decide⟩]
  show OkS (denS (callN T (n + 2)) g_law_obeys.body [some (.d xr), some (.d xt), none, none, none] m) _
  unfold g_law_obeys
  dsimp only
  refine seq_st fun N hN => ?_
  rw [s_for]
  leaf_len
  refine ⟨_, hsrc, ?_⟩
  refine for_ok (fun i v m1 => m1 = m ∧ ((tb.take i).all fun r => K.all fun c => (gC r c).isSome) = true ∧ ∃ x2, v = [some (.d xr), some (.d xt), x2, none, none]) _ _ _ ⟨rfl, by simp, _, rfl⟩ ?_ ?_
  · rintro i z v m1 hz ⟨rfl, hall, x2, rfl⟩
    rw [show (Src.items (tb.map rowD)).list = tb.map rowD from rfl, List.getElem?_map] at hz
    obtain ⟨r, hri, rfl⟩ := Option.map_eq_some_iff.mp hz
    have hrm := List.mem_of_getElem? hri
    refine ⟨trivial, ?_⟩
    rw [f_for]
    refine ⟨[some (.d xr), some (.d xt), some (.d (rowD r)), none, none], rfl, ?_⟩
    clear hN
    rw [s_seq]
    leaf_len
    rw [e_comp]
    leaf_len
    refine ⟨_, r0, _, rfl, by show (intD K).length ≤ _; rw [intD_len, sizeLine_eq]; omega, ?_⟩
    refine comp_fm PyData.int (fun c => some (oD (gC r c))) K m1 trivial (fun c hc => ?_) ?_
    · rw [f_comp]
      refine ⟨[some (.d xr), some (.d xt), some (.d (rowD r)), none, some (.d (.int c))], rfl, ?_⟩
      leaf_len
      exact ⟨fun _ => ⟨_, ix_row (hbK r hrm c hc).1 (hbK r hrm c hc).2, rfl⟩, fun q => (q trivial).elim⟩
    rw [fm_map]
    refine ⟨_, isin_none, ?_⟩
    rw [kn_row]
    cases hk : K.all fun c => (gC r c).isSome with
    | true =>
      refine ⟨fun q => (by cases q), fun _ => ⟨rfl, ?_, _, rfl⟩⟩
      rw [List.take_add_one, hri, List.all_append, hall]
      simp [hk]
    | false =>
      refine ⟨fun _ => en_d rfl ?_, fun q => absurd rfl q⟩
      have e : knwn K tb = false := by
        unfold knwn
        rw [List.all_eq_false]
        exact ⟨r, hrm, by rw [hk]; simp⟩
      rw [e] at h
      exact h
  rintro v m1 ⟨rfl, hall, x2, rfl⟩
  have hk : knwn K tb = true := by
    have e : tb.take (Src.items (tb.map rowD)).list.length = tb := by
      show tb.take (tb.map rowD).length = tb
      rw [List.length_map, List.take_length]
    rw [e] at hall
    exact hall
  rw [hk, Bool.true_and] at h
  refine ⟨trivial, hN _ _ ?_⟩
  clear hN N hall
  refine seq_st fun N hN => ?_
  rw [s_for]
  leaf_len
  refine ⟨_, r1, _, rfl, ?_⟩
  show OkS (forL _ _ (S.map tD) _ m1) _
  refine for_ok (fun i v m2 => m2 = m1 ∧ ((S.take i).all (sureK tb)) = true ∧ ∃ x3, v = [some (.d xr), some (.d xt), x2, x3, none]) _ _ _ ⟨rfl, by simp, _, rfl⟩ ?_ ?_
  · rintro i z v m2 hz ⟨rfl, hall, x3, rfl⟩
    rw [List.getElem?_map] at hz
    obtain ⟨s, hsi, rfl⟩ := Option.map_eq_some_iff.mp hz
    have hsm := List.mem_of_getElem? hsi
    refine ⟨trivial, ?_⟩
    rw [f_for]
    refine ⟨[some (.d xr), some (.d xt), x2, some (.d (tD s)), none], rfl, ?_⟩
    clear hN
    rw [s_seq]
    leaf_len
    refine SU (hr.s s hsm) ?_
    cases hk : sureK tb s with
    | true =>
      refine ⟨_, rfl, _, rfl, fun q => (by cases q), fun _ => ⟨rfl, ?_, _, rfl⟩⟩
      rw [List.take_add_one, hsi, List.all_append, hall]
      simp [hk]
    | false =>
      refine ⟨_, rfl, _, rfl, fun _ => en_d rfl ?_, fun q => absurd rfl q⟩
      have e : S.all (sureK tb) = false := by
        rw [List.all_eq_false]
        exact ⟨s, hsm, by rw [hk]; simp⟩
      rw [e] at h
      exact h
  rintro v m2 ⟨rfl, hall, x3, rfl⟩
  have hS : S.all (sureK tb) = true := by
    rw [List.length_map, List.take_length] at hall
    exact hall
  rw [hS, Bool.true_and] at h
  refine ⟨trivial, hN _ _ ?_⟩
  clear hN N hall
  have lp := hr.lp
  leaf_len
  rw [e_comp]
  leaf_len
  refine ⟨_, r2, _, rfl, by show (P.map tD).length ≤ _; rw [List.length_map, sizeLine_eq]; omega, ?_⟩
  refine comp_fm tD (fun s => some (.bool (possK tb s))) P m2 trivial (fun s hs => ?_) ?_
  · rw [f_comp]
    refine ⟨[some (.d xr), some (.d xt), x2, some (.d (tD s)), none], rfl, ?_⟩
    leaf_len
    exact ⟨fun _ => PO (hr.p s hs) ⟨_, rfl, rfl, rfl⟩, fun q => (q trivial).elim⟩
  rw [fm_map]
  exact ⟨_, all_mapA, en_d rfl h⟩
end
theorem ro_tw {many : Int} {r : List (Option Int)} (h4 : many ≤ 4) (h : RO many r) : TW 1 484 (rowD r) := by
  have hl := h.len
  refine (tw_tup (n := 4) (k := 0) (w := 120) (by rw [List.length_map]; omega) fun x hx => ?_).mono (by decide) (by decide)
  obtain ⟨e, he, rfl⟩ := List.mem_map.mp hx
  cases e with
  | none => exact tw_none
  | some z =>
    have := h.bd _ he z rfl
    unfold BB at this
    exact tw_int2 (by omega) (by omega)
theorem wide_tw {many : Int} {tb : List (List (Option Int))} (h4 : many ≤ 4) (hl : tb.length ≤ 40) (h : ∀ r ∈ tb, RO many r) : TW 4 20000 (tabD tb) := by
  refine (tw_tup (n := 40) (k := 1) (w := 484) (by rw [List.length_map]; exact hl) fun x hx => ?_).mono (by decide) (by decide)
  obtain ⟨r, hr, rfl⟩ := List.mem_map.mp hx
  exact ro_tw h4 (h r hr)
theorem lawT {T : Tab} (H : H_law T) (ns : List Int) (hns : ns.length ≤ 63) : OkX (callN T 8 "law" [.scr ns] []) (fun w _ => w = .d (.bool true)) fun _ _ => False := by
    rw [call_of (fn := g_law) H.me ⟨rfl, by decide⟩]
    show OkS (denS (callN T 7) g_law.body [some (.scr ns), none, none, none, none, none, none, none, none] []) _
    unfold g_law
    dsimp only
    refine seq_st fun N hN => ?_
    one_sign
    refine p_open H.c_law_open.me hns fun cs0' => ?_
    refine hN _ _ ?_
    clear hN N
    refine seq_st fun N hN => ?_
    rw [s_for]
    one_sign
    refine ⟨7, rfl, ⟨by decide, by decide⟩, ?_⟩
    refine for_ok (fun i v m => (∃ x2 x3 x4 x5 x6 x7 x8, v = [some (.scr ns), some (.ref 1), x2, x3, x4, x5, x6, x7, x8]) ∧ Pen m 1 (200 * i)) _ _ _
      ⟨⟨none, none, none, none, none, none, none, rfl⟩, ⟨cs0', 0, 0, rfl, Nat.le_refl _⟩⟩ ?_ ?_
    · rintro i x v m hx ⟨⟨x2, x3, x4, x5, x6, x7, x8, rfl⟩, hp⟩
      obtain ⟨rfl, hi⟩ := rng0_at hx
      have hi : i < 7 := hi
      refine ⟨trivial, ?_⟩
      rw [f_for]
      obtain ⟨ki, hki⟩ : ∃ ki : Int, ki = (i : Int) := ⟨_, rfl⟩
      rw [← hki]
      refine ⟨[some (.scr ns), some (.ref 1), some (.d (.int ki)), x3, x4, x5, x6, x7, x8], rfl, ?_⟩
      clear hN
      refine seq_st fun N1 hN => ?_
      leaf_len
      refine p_anew H.c_law_anew.me hp fun m1 hu1 hp1 => ?_
      refine L_take H.c_law_take hp1 (by omega) (by decide) (by decide) fun v0 m2 v00 v04 hu2 hp2 => ?_
      refine ⟨_, rfl, _, rfl, hN _ _ ?_⟩
      clear hN N1
      obtain ⟨many, hmany⟩ : ∃ many : Int, many = 1 + v0 := ⟨_, rfl⟩
      have hm1 : 1 ≤ many := by omega
      have hm4 : many ≤ 4 := by omega
      rw [← hmany]
      refine seq_st fun N1 hN => ?_
      leaf_len
      refine L_wide (n := 3) H.c_law_wide hp2 (by omega) hm1 hm4 fun tb m3 hl40 hok hu3 hp3 => hN _ _ ?_
      clear hN N1
      have hg : GT many tb := ⟨hl40, fun r hr => ⟨(hok r hr).len, fun e he z hz => ((hok r hr).bd e he z hz).1⟩⟩
      have wT := wide_tw hm4 hl40 hok
      obtain ⟨xt, hxt⟩ : ∃ xt, xt = tabD tb := ⟨_, rfl⟩
      rw [← hxt] at wT ⊢
      refine seq_st fun N1 hN => ?_
      leaf_len
      refine L_set2 (n := 4) H.c_law_set2 hp3 (by omega) hm1 hm4 fun d m4 hd hu4 hp4 => ?_
      obtain ⟨s, rfl, hs⟩ := gs_gi hd
      refine ⟨_, rfl, by rw [sizeLine_eq]; show 1 ≤ _; decide, hN _ _ ?_⟩
      clear hN N1
      refine seq_st fun N1 hN => ?_
      leaf_len
      refine L_kr (n := 3) H.c_law_key_rules hp4 (by omega) hm1 hm4 fun d m5 hd hu5 hp5 => ?_
      obtain ⟨K, S, P, rfl, hr⟩ := gr_i hd
      refine ⟨_, rfl, by rw [sizeLine_eq]; show 2 ≤ _; decide, hN _ _ ?_⟩
      clear hN N1 hd hp4 hp3 hp2 hp1 hu1 hu2 hu3 hu4
      have g0 : GI many [] := ⟨.nil, by simp, by decide⟩
      have r2 : GRI many [] [s] [] := ⟨g0, fun o ho => by rw [List.mem_singleton.mp ho]; exact hs, by simp, by show 1 ≤ 6; decide, by decide⟩
      have r3 : GRI many [] [] [s] := ⟨g0, by simp, fun o ho => by rw [List.mem_singleton.mp ho]; exact hs, by decide, by show 1 ≤ 6; decide⟩
      have r4 : GRI many s [] [] := ⟨hs, by simp, by simp, by decide, by decide⟩
      obtain ⟨y1, hy1⟩ : ∃ y1, y1 = rD K S P := ⟨_, rfl⟩
      rw [← hy1]
      refine seq_st fun N1 hN => ?_
      leaf_len
      refine ⟨_, rfl, _, b_addL (by rw [sizeLine_eq]; show 2 + 2 ≤ _; decide), hN _ _ ?_⟩
      clear hN N1
      have all : ∀ y ∈ [y1, rD [] [s] [], rD [] [] [s], rD s [] []], ∃ K' S' P', y = rD K' S' P' ∧ GRI many K' S' P' := fun y hy => by
        simp only [List.mem_cons, List.not_mem_nil, or_false] at hy
        rcases hy with rfl | rfl | rfl | rfl
        · exact ⟨K, S, P, hy1, hr⟩
        · exact ⟨_, _, _, rfl, r2⟩
        · exact ⟨_, _, _, rfl, r3⟩
        · exact ⟨_, _, _, rfl, r4⟩
      obtain ⟨V, hV⟩ : ∃ V, V = [y1, rD [] [s] [], rD [] [] [s], rD s [] []] := ⟨_, rfl⟩
      rw [← hV] at all
      show OkS (denS (callN T 7) _ [some (.scr ns), some (.ref 1), some (.d (.int ki)), some (.d (.int many)), some (.d xt), some (.d (.tuple [tD s])), some (.d (.list [y1, rD [] [s] [], rD [] [] [s], rD s [] []])), x7, x8] m5) _
      rw [← hV]
      obtain ⟨x5, hx5⟩ : ∃ x5, x5 = PyData.tuple [tD s] := ⟨_, rfl⟩
      rw [← hx5]
      rw [s_seq, s_for]
      leaf_len
      refine ⟨_, rfl, ?_⟩
      obtain ⟨x6, hx6⟩ : ∃ x6, x6 = PyData.list V := ⟨_, rfl⟩
      rw [← hx6]
      show OkS (forL _ _ V _ m5) _
      refine for_ok (fun j v m => m = m5 ∧ ∃ x7 x8, v = [some (.scr ns), some (.ref 1), some (.d (.int ki)), some (.d (.int many)), some (.d xt), some (.d x5), some (.d x6), x7, x8]) _ _ _ ⟨rfl, _, _, rfl⟩ ?_ ?_
      · rintro j y v m6 hy ⟨rfl, x7, x8, rfl⟩
        obtain ⟨K', S', P', hyr, hr'⟩ := all y (List.mem_of_getElem? hy)
        have wR : TW 4 20000 y := by rw [hyr]; exact (gri_tw hm4 hr').mono (by decide) (by decide)
        have er : biF .repr [.tuple [y, xt]] = some (.str (PyData.tuple [y, xt]).shown) := b_repr_tw (tw_tup (n := 2) (k := 4) (w := 20000) (by show 2 ≤ 2; decide) fun z hz => by
          simp only [List.mem_cons, List.not_mem_nil, or_false] at hz
          rcases hz with rfl | rfl <;> assumption) (by decide) (by decide)
        have rb : biF .repr [.bool (oby K' S' P' tb)] = some (.str (PyData.bool (oby K' S' P' tb)).shown) := b_repr_tw (k := 0) (w := 0) tw_bool (by decide) (by decide)
        have OB : ∀ {Q' : W → Mem → Prop} {X' : Xn → Mem → Prop}, Q' (.d (.bool (oby K' S' P' tb))) m6 → OkX (callN T 7 "obeys" [.d (.int many), .d y, .d xt] m6) Q' X' := fun h => by
          rw [hyr, hxt]
          exact L_obG (n := 0) H.c_obeys hm1 hm4 hr' hg h
        have LO : ∀ {Q' : W → Mem → Prop} {X' : Xn → Mem → Prop}, Q' (.d (.bool (oby K' S' P' tb))) m6 → OkX (callN T 7 "_law_obeys" [.d y, .d xt] m6) Q' X' := fun h => by
          rw [hyr]
          exact L_lob (n := 4) H.c_law_obeys hr' hg hxt h
        generalize oby K' S' P' tb = b at rb OB LO
        clear hyr hr'
        refine ⟨trivial, ?_⟩
        rw [f_for]
        refine ⟨[some (.scr ns), some (.ref 1), some (.d (.int ki)), some (.d (.int many)), some (.d xt), some (.d x5), some (.d x6), some (.d y), x8], rfl, ?_⟩
        refine seq_st fun N1 hN => ?_
        leaf_len
        refine ⟨_, er, hN _ _ ?_⟩
        clear hN N1
        refine seq_st fun N1 hN => ?_
        leaf_len
        refine OB ⟨_, rfl, _, rb, LO ⟨_, rfl, _, rb, _, ne_str, fun q => (by cases q), fun _ => hN _ _ ?_⟩⟩
        clear hN N1
        rw [s_seq]
        leaf_len
        exact ⟨_, er, _, ne_str, fun q => (by cases q), fun _ => ⟨_, _, rfl⟩⟩
      rintro v m6 ⟨rfl, x7, x8, rfl⟩
      refine ⟨trivial, ?_⟩
      exact ⟨⟨_, _, _, _, _, _, _, rfl⟩, hp5.mono (by omega)⟩
    · rintro v m ⟨⟨x2, x3, x4, x5, x6, x7, x8, rfl⟩, hp⟩
      refine ⟨trivial, hN _ _ ?_⟩
      clear hN N
      leaf_len
      exact en_kr (fun i hi => (Nat.not_lt_zero i hi).elim) rfl
end K55
namespace K55
open PySem MP
abbrev T : Tab := LL.tab
theorem hh_law_open : H_law_open T := ⟨rfl⟩
theorem hh_law_spread : H_law_spread T := ⟨rfl⟩
theorem hh_law_take : H_law_take T := ⟨rfl, hh_law_spread⟩
theorem hh_law_one : H_law_one T := ⟨rfl, hh_law_take⟩
theorem hh_law_wide : H_law_wide T := ⟨rfl, hh_law_one, hh_law_take⟩
theorem hh_law_set2 : H_law_set2 T := ⟨rfl, hh_law_take⟩
theorem hh_law_key_rules : H_law_key_rules T := ⟨rfl, hh_law_one, hh_law_set2, hh_law_take⟩
theorem hh_law_anew : H_law_anew T := ⟨rfl⟩
theorem hh_is_integer : H_is_integer T := ⟨rfl⟩
theorem hh_is_between : H_is_between T := ⟨rfl, hh_is_integer⟩
theorem hh_require_many : H_require_many T := ⟨rfl, hh_is_between⟩
theorem hh_is_set_for : H_is_set_for T := ⟨rfl, hh_is_between⟩
theorem hh_are_sets : H_are_sets T := ⟨rfl, hh_is_set_for⟩
theorem hh_is_rules_of : H_is_rules_of T := ⟨rfl, hh_are_sets, hh_is_set_for⟩
theorem hh_require_rules : H_require_rules T := ⟨rfl, hh_is_rules_of, hh_require_many⟩
theorem hh_is_value : H_is_value T := ⟨rfl, hh_is_integer⟩
theorem hh_is_wide_row : H_is_wide_row T := ⟨rfl, hh_is_value⟩
theorem hh_is_wide_table : H_is_wide_table T := ⟨rfl, hh_is_wide_row⟩
theorem hh_is_known : H_is_known T := ⟨rfl⟩
theorem hh_are_alike : H_are_alike T := ⟨rfl⟩
theorem hh_is_possible_key : H_is_possible_key T := ⟨rfl, hh_are_alike⟩
theorem hh_do_meet : H_do_meet T := ⟨rfl⟩
theorem hh_is_sure_key : H_is_sure_key T := ⟨rfl, hh_do_meet⟩
theorem hh_obeys_rules : H_obeys_rules T := ⟨rfl, hh_is_known, hh_is_possible_key, hh_is_sure_key⟩
theorem hh_obeys : H_obeys T := ⟨rfl, hh_is_wide_table, hh_obeys_rules, hh_require_rules⟩
theorem hh_law_meet : H_law_meet T := ⟨rfl⟩
theorem hh_law_is_sure : H_law_is_sure T := ⟨rfl, hh_law_meet⟩
theorem hh_law_alike : H_law_alike T := ⟨rfl⟩
theorem hh_law_is_open_key : H_law_is_open_key T := ⟨rfl, hh_law_alike⟩
theorem hh_law_obeys : H_law_obeys T := ⟨rfl, hh_law_is_open_key, hh_law_is_sure⟩
theorem hh_law : H_law T := ⟨rfl, hh_law_anew, hh_law_key_rules, hh_law_obeys, hh_law_open, hh_law_set2, hh_law_take, hh_law_wide, hh_obeys⟩
theorem hD (ns : List Int) (hns : ns.length ≤ 63) : ∃ m, callN T 8 "law" [.scr ns] [] = .ok (.d (.bool true)) m := by
  obtain ⟨w, m, e, rfl⟩ := (lawT hh_law ns hns).get
  exact ⟨m, e⟩
end K55
open PySem PySem.W PySem.Calls PyProof.Rows
theorem PySem.Challenge.cw_surekeys_k55_rules_in_tables_of_many_row_holds : PySem.Challenge.rw_surekeys_k55_rules_in_tables_of_many_row.Holds := by
  w_on; o_law
  refine HandSHeadRun.head_any (r := OpenLaw.row PySem.Challenge.rw_surekeys_k55_rules_in_tables_of_many_row) (q := view (OpenLaw.row PySem.Challenge.rw_surekeys_k55_rules_in_tables_of_many_row).prog [43]) (H := K55.hk) (ob := K55.ob) (M := 12000) (loose := K55.lse) (d := HandSHeadRun.topDef (OpenLaw.row PySem.Challenge.rw_surekeys_k55_rules_in_tables_of_many_row).prog 43) (kwd := []) K55.ob_eq
    (by kernel_rfl) (fun s => by kernel_rfl) K55.run (by kernel_rfl) (by kernel_rfl) (by kernel_rfl) (by rfl) (by first | assumption | decide +kernel) (by decide +kernel) ⟨rfl, rfl, rfl, rfl, rfl, by decide +kernel⟩ ?hw ?hc
  case hw => w_witness2
  case hc => exact MP.law_end (l := PySem.Challenge.rw_surekeys_k55_rules_in_tables_of_many_row) (n := 63) (k := 8) (x := "script") (e := K55.d_law) K55.LLg (by simp [K55.LL]) rfl rfl (by decide) (by kernel_rfl) ⟨rfl, by decide, by decide⟩ (by kernel_rfl) K55.hD
