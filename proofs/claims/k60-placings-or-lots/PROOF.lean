import PyProof.Rows.All
import Wide.All
import OpenK.AllK
import Wide.FinOn
import HandS.ForMost
import HandS.TupAny
import HandS.TupMul
import HandS.Conv
import HandS.Lambda
import HandS.Deep
import HandS.Wide
import HandS.IsInst
import HandS.SortInts
import HandS.Exc
import HandS.ExcOwn
import HandS.Flow
import KE.DataMinMax
import KE.SortData
import HandS.WordsExc
import HandS.Iter
import HandS.Zip
import HandS.Walk
import HandS.Comp
import KE.GoesMore
import KE.GoesZip
import HandS.Small
import HandS.Style
import PyProof.EqAt
import PyProof.EqKinds
import PyProof.TupleCall
import PyProof.Rows.SortShell
import HandS.Base
import HandS.Call
import HandS.List
import HandS.Sort
import HandS.SortOrd
import PyProof.TupleKey
import PyProof.DictKinds
import KE.KSortTup
import HandS.Dict
import HandS.More
import KE.KDictPairs
import KE.KDictZip
import KE.KDictList
import HandS.Strs
import HandS.SetFor
import KE.KExcSuper
import HandS.ExcInit
import HandS.ExcIs
import HandS.ExcField
import KE.KExcIs
import HandS.ReCall
import KE.KItemsList
import HandS.ListItems
import KE.KRevSl
import HandS.Words
import HandS.Ends
import HandS.EndBits
import HandS.Codes
import KE.KNest
import HandS.ForExc
import PySem.Challenge.RW_besthours_k60_whole_placings_or_lots
section
set_option Elab.async false
set_option linter.all false
set_option maxRecDepth 100000
/-! PV1: an evaluator of a small language of defs, over values; the model's text is turned into it and shown to do what it says (PV3). -/
namespace PV
open PySem L2

abbrev D := PyData
def LIM : Nat := 16777216

inductive EV where
  | d (x : D)
  | loc (n : Nat)
  | exc (c : Nat) (fs : List D)
  | ro (xs : List D)
inductive MO where
  | lst (xs : List EV)
  | dK (kvs : List (Key × EV))
  | tp (xs : List EV)
  | dF (kvs : List (Key × EV))
abbrev Mem := List MO
abbrev Env := List (Option EV)

inductive Res (α : Type) where
  | ok (a : α) (m : Mem)
  | ex (c : Nat) (fs : List D) (m : Mem)
  | bad

@[simp] def Res.bind {α β : Type} : Res α → (α → Mem → Res β) → Res β
  | .ok a m, f => f a m
  | .ex c fs m, _ => .ex c fs m
  | .bad, _ => .bad
@[simp] def Res.noex {α : Type} : Res α → Res α
  | .ok a m => .ok a m
  | _ => .bad
@[simp] def Res.of {α : Type} (o : Option α) (m : Mem) : Res α := match o with
  | some a => .ok a m
  | none => .bad

inductive O2 where
  | add | sub | mul | fdiv | mod | pow | lt | le | gt | ge | eq | ne | inn | nin
  deriving DecidableEq
inductive O1 where
  | neg | not | len | tuple | list | sum | max | min | int | repr | isN | notN | srt
  deriving DecidableEq

/-- what an except suite makes of the exception that it holds -/
inductive HA where
  | c (x : D)
  | isE (j : Nat)
  | isV
  | fld (f : Str)
inductive HX where
  | one (a : HA)
  | ite (j : Nat) (x y : D)
  | tup (l : List HA)
  | lst (l : List HA)
/-- what a call's answer is put into -/
inductive HW where
  | one
  | two (x : D)
  | twoL (x : D)
def hwV (w : HW) (x : D) : D := match w with
  | .one => x
  | .two y => .tuple [y, x]
  | .twoL y => .list [y, x]
mutual
inductive Tg where
  | nm (i : Nat)
  | tup (ts : Tgs)
inductive Tgs where
  | nil
  | cons (t : Tg) (r : Tgs)
end
mutual
inductive Ex where
  | v (i : Nat)
  | c (x : D)
  | tup (es : Exs)
  | fl (l : Lx)
  | ml (l : Lx)
  | dis (ks : List Str) (es : Exs)
  | b2 (o : O2) (a b : Ex)
  | u1 (o : O1) (a : Ex)
  | and (a b : Ex)
  | or (a b : Ex)
  | ite (c a b : Ex)
  | chain (o p : O2) (a b c : Ex)
  | ix (a i : Ex)
  | sl1 (a lo : Ex)
  | sl2 (a hi : Ex)
  | sl3 (a lo hi : Ex)
  | call (f : Nat) (es : Exs)
  | callk (f : Nat) (es ks : Exs) (pm : List Nat)
  | stuck
  | isi (t : Nat) (a : Ex)
  | fv (x : Str)
  | callv (tab : List (Str × Nat)) (a : Ex) (es : Exs)
  | srt (a : Ex)
  | dget (a i d : Ex)
  | fz (a : Ex)
  | mm (g : Bool) (a b : Ex)
  | trg (it : It)
  | dct (a : Ex)
  | sst (a : Ex)
  | lns (a : Ex)
  | heard (w : HW) (cs : List (Nat × HX)) (e : Ex)
  | isB (neg d : Bool) (a : Ex)
  | cnt (a b : Ex)
  | sit (a : Ex)
  | lix (a b : Ex)
  | rev (a : Ex)
inductive Lx where
  | dis (es : Exs)
  | comp (t : Tg) (it : It) (vs : List Nat) (q : Ex) (e : Ex)
  | comp2 (t : Tg) (it : It) (vs : List Nat) (q : Ex) (t1 : Tg) (it1 : It) (vs1 : List Nat) (q1 : Ex) (e : Ex)
  | lst (a : Ex)
  | rg (it : It)
  | enl (a : Ex)
  | compk (t : Tg) (i : Nat) (vs : List Nat) (q : Ex) (e : Ex)
inductive It where
  | sq (a : Ex)
  | en (a : Ex)
  | zp (a b : Ex)
  | rng1 (b : Ex)
  | rng (a b : Ex)
inductive Exs where
  | nil
  | cons (e : Ex) (r : Exs)
end
def haV (sub : Nat → Nat → Bool) (k : Nat) (fs : List D) : HA → Option D
  | .c x => some x
  | .isE j => some (.bool (sub k j))
  | .isV => some (.bool true)
  | .fld f => match fs with
    | [.str g, x] => if decide (g = f) then some x else none
    | _ => none
def haAll (sub : Nat → Nat → Bool) (k : Nat) (fs : List D) : List HA → Option (List D)
  | [] => some []
  | a :: r => match haV sub k fs a, haAll sub k fs r with
    | some x, some xs => some (x :: xs)
    | _, _ => none
def hv (sub : Nat → Nat → Bool) (k : Nat) (fs : List D) : HX → Option D
  | .one a => haV sub k fs a
  | .ite j x y => some (if sub k j then x else y)
  | .tup l => if decide (l.length ≤ 1000) then (haAll sub k fs l).map .tuple else none
  | .lst l => if decide (l.length ≤ 1000) then (haAll sub k fs l).map .list else none
/-- one clause: the class, the error's slot, the slot that is set, to what -/
structure HC where
  c : Nat
  nm : Nat
  i : Nat
  h : HX
mutual
inductive Stt where
  | ex (e : Ex)
  | asg (t : Tg) (e : Ex)
  | par (is : List Nat) (es : Exs)
  | asgs (t : Tgs) (es : Exs)
  | sto (o i e : Ex)
  | aug (i : Nat) (o : O2) (e : Ex)
  | augs (o : Ex) (op : O2) (i e : Ex)
  | app (i : Nat) (e : Ex)
  | upd (i : Nat) (e : Ex)
  | ext (i : Nat) (e : Ex)
  | fork (t : Tg) (i : Nat) (b : Sts)
  | ite (c : Ex) (a b : Sts)
  | whl (c : Ex) (b : Sts)
  | for (t : Tg) (it : It) (b : Sts)
  | ret (e : Ex)
  | rais (c : Nat) (es : Exs)
  | trye (b : Sts) (cs : List HC)
  | pass
  | brk
  | cont
  | stuck
inductive Sts where
  | nil
  | cons (s : Stt) (r : Sts)
end

/-! ### data -/
theorem map_some {α β : Type} {f : α → β} {o : Option α} {b : β} (h : o.map f = some b) : ∃ a, o = some a ∧ f a = b := by
  cases o with
  | none => cases h
  | some a => exact ⟨a, rfl, Option.some.inj h⟩
def allD : List EV → Option (List D)
  | [] => some []
  | .d x :: r => match allD r with
    | some xs => some (x :: xs)
    | none => none
  | _ :: _ => none
theorem allD_map (xs : List D) : allD (xs.map EV.d) = some xs := by
  induction xs with
  | nil => rfl
  | cons x xs ih => simp [allD, ih]
theorem allD_eq : ∀ {vs : List EV} {xs : List D}, allD vs = some xs → vs = xs.map EV.d
  | [], xs, h => by simp [allD] at h; subst h; rfl
  | .d x :: r, xs, h => by
    unfold allD at h
    split at h
    · rename_i ys e
      injection h with h
      subst h
      rw [allD_eq e]; rfl
    · cases h
  | .loc _ :: _, _, h => by simp [allD] at h
  | .exc _ _ :: _, _, h => by simp [allD] at h
  | .ro _ :: _, _, h => by simp [allD] at h

/-- a value as data -/
def view (m : Mem) : EV → Option D
  | .d x => some x
  | .loc n => match m[n]? with
    | some (.lst xs) => (allD xs).map .list
    | _ => none
  | _ => none

/-- the script's list, too, where it is read alone -/
def viewR (m : Mem) : EV → Option D
  | .ro xs => some (.list xs)
  | y => view m y
def kD : Key → D
  | .inl i => .int i
  | .inr x => .str x
/-- a dict by its keys -/
def viewD (m : Mem) : EV → Option D
  | .loc n => match m[n]? with
    | some (.dK kvs) => some (.dict (kvs.map fun p => (kD p.1, .none)))
    | _ => view m (.loc n)
  | y => view m y
def view2 (o : O2) (m : Mem) (y : EV) : Option D := match o with
  | .eq => viewR m y
  | .ne => viewR m y
  | .inn => viewD m y
  | .nin => viewD m y
  | _ => view m y
def view1 (o : O1) (m : Mem) (y : EV) : Option D := match o with
  | .len => viewR m y
  | .list => viewR m y
  | .tuple => viewR m y
  | _ => view m y

def idx (i : Int) (n : Nat) : Option Nat := ixN n i
def cut (xs : List D) (lo hi : Option Int) : List D := (xs.drop (HT.sIx xs.length 0 lo)).take (HT.sIx xs.length xs.length hi - HT.sIx xs.length 0 lo)
def cutD (x : D) (lo hi : Option Int) : Option D := match x with
  | .list xs => some (.list (cut xs lo hi))
  | .tuple xs => some (.tuple (cut xs lo hi))
  | _ => none

def eqD (a b : D) : Option Bool := match a, b with
  | .int i, .int j => some (decide (i = j))
  | .str x, .str y => some (decide (x = y))
  | .bool x, .bool y => some (decide (x = y))
  | a, b => if SeqAt.shaped a && SeqAt.shaped b then some (PyData.eqv a b) else none
def intsD : List D → Option (List Int)
  | [] => some []
  | .int i :: r => match intsD r with
    | some is => some (i :: is)
    | none => none
  | _ :: _ => none
def inD (a : D) (xs : List D) : Option Bool :=
  if SeqAt.shaped a && SeqAt.shaped (.list xs) then some (xs.any fun z => PyData.eqv z a) else none

def inDT (a : D) (xs : List D) : Option Bool :=
  if SeqAt.shaped a && SeqAt.shaped (.tuple xs) then some (xs.any fun z => PyData.eqv z a) else none
def keyD : D → Option Key
  | .int i => some (.inl i)
  | .str x => some (.inr x)
  | _ => none
def isDD : D → Bool
  | .dict _ => true
  | _ => false
/-- a in b -/
def innD (a b : D) : Option Bool := if isDD a then none else match b with
  | .list xs => inD a xs
  | .tuple xs => inDT a xs
  | .dict kvs => (keyD a).map fun k => kvs.any fun p => decide (keyD p.1 = some k)
  | _ => none
def mulOk (i j : Int) : Bool := decide (-(2 ^ 64) < i ∧ i < 2 ^ 64) || decide (-(2 ^ 64) < j ∧ j < 2 ^ 64)
def op2 (o : O2) (a b : D) : Option D := match o with
  | .add => match a, b with
    | .int i, .int j => some (.int (i + j))
    | .list xs, .list ys => if xs.length + ys.length ≤ LIM then some (.list (xs ++ ys)) else none
    | .tuple xs, .tuple ys => if xs.length + ys.length ≤ LIM then some (.tuple (xs ++ ys)) else none
    | _, _ => none
  | .sub => match a, b with
    | .int i, .int j => some (.int (i - j))
    | _, _ => none
  | .mul => match a, b with
    | .int i, .int j => if mulOk i j then some (.int (i * j)) else none
    | .tuple xs, .int j => if !xs.isEmpty && decide (1 ≤ j) && decide (j ≤ 1000) && decide (xs.length ≤ 1000) then some (.tuple (List.replicate j.toNat xs).flatten) else none
    | .list xs, .int j => if decide (0 ≤ j) && decide (j ≤ 1000000) && decide (xs.length * j.toNat ≤ LIM) then some (.list (List.replicate j.toNat xs).flatten) else none
    | _, _ => none
  | .fdiv => match a, b with
    | .int i, .int j => if 0 < j && j < 2 ^ 8000 then some (.int (i / j)) else none
    | _, _ => none
  | .mod => match a, b with
    | .int i, .int j => if 0 < j then some (.int (i % j)) else none
    | _, _ => none
  | .pow => match a, b with
    | .int i, .int j => if 0 ≤ j && j ≤ 1000 && i.natAbs < 2 ^ 64 then some (.int (i ^ j.toNat)) else none
    | _, _ => none
  | .lt => match a, b with
    | .int i, .int j => some (.bool (decide (i < j)))
    | _, _ => none
  | .le => match a, b with
    | .int i, .int j => some (.bool (decide (i ≤ j)))
    | _, _ => none
  | .gt => match a, b with
    | .int i, .int j => some (.bool (decide (j < i)))
    | _, _ => none
  | .ge => match a, b with
    | .int i, .int j => some (.bool (decide (j ≤ i)))
    | _, _ => none
  | .eq => (eqD a b).map .bool
  | .ne => (eqD a b).map fun k => .bool (!k)
  | .inn => (innD a b).map .bool
  | .nin => (innD a b).map fun k => .bool (!k)

def seqD : D → Option (List D)
  | .list xs => some xs
  | .tuple xs => some xs
  | _ => none
def truD : D → Bool
  | .none => false
  | .bool b => b
  | .int i => i != 0
  | .str x => (x.length : Int) != 0
  | .list xs => !xs.isEmpty
  | .tuple xs => !xs.isEmpty
  | .dict kvs => !kvs.isEmpty
/-- is it that truth value -/
def isBD (d : Bool) : D → Bool
  | .bool b => decide (b = d)
  | _ => false
def isND : D → Bool
  | .none => true
  | _ => false
def op1 (o : O1) (a : D) : Option D := match o with
  | .neg => match a with
    | .int i => some (.int (-i))
    | _ => none
  | .not => some (.bool (!truD a))
  | .len => (seqD a).map fun xs => .int xs.length
  | .tuple => (seqD a).map .tuple
  | .list => (seqD a).map .list
  | .sum => ((seqD a).bind intsD).map fun is => .int is.sum
  | .max => match (seqD a).bind intsD with
    | some (i :: is) => some (.int (is.foldl max i))
    | _ => none
  | .min => match (seqD a).bind intsD with
    | some (i :: is) => some (.int (is.foldl min i))
    | _ => none
  | .int => match a with
    | .int i => some (.int i)
    | .bool b => some (.int (if b then 1 else 0))
    | _ => none
  | .repr => if a.showable && decide (a.depth ≤ 60) && a.canLay0 && decide (a.shown.length ≤ LIM) then some (.str a.shown) else none
  | .isN => some (.bool (isND a))
  | .notN => some (.bool (!isND a))
  | .srt => ((seqD a).bind intsD).map fun is => .list ((is.mergeSort (fun x y => decide (x ≤ y))).map .int)

def isiD (t : Nat) (a : D) : Bool := match t, a with
  | 0, .int _ => true
  | 0, .bool _ => true
  | 1, .bool _ => true
  | 2, .tuple _ => true
  | 3, .str _ => true
  | 4, .list _ => true
  | _, _ => false

/-! ### stores -/
def kvGet (kvs : List (Key × EV)) (k : Key) : Option EV := (kvs.find? fun p => decide (p.1 = k)).map (·.2)
def kvPut (kvs : List (Key × EV)) (k : Key) (v : EV) : List (Key × EV) :=
  if kvs.any (fun p => decide (p.1 = k)) then kvs.map fun p => if p.1 = k then (p.1, v) else p else kvs ++ [(k, v)]
def mergeE (kvs more : List (Key × EV)) : List (Key × EV) := more.foldl (fun acc kv => kvPut acc kv.1 kv.2) kvs
/-- pairs as data -/
def pairsD : List D → Option (List (Key × EV))
  | [] => some []
  | .tuple [k, v] :: r => match keyD k, pairsD r with
    | some kk, some rs => some ((kk, .d v) :: rs)
    | _, _ => none
  | _ => none
def dctV (x : D) : Option (List (Key × EV)) := ((seqD x).bind pairsD).map (mergeE [])
def getIx (m : Mem) (a : EV) (i : D) : Option EV := match a with
  | .d (.list xs) => match i with
    | .int k => (idx k xs.length).bind fun j => (xs[j]?).map .d
    | _ => none
  | .d (.tuple xs) => match i with
    | .int k => (idx k xs.length).bind fun j => (xs[j]?).map .d
    | _ => none
  | .loc n => match m[n]? with
    | some (.lst xs) => match i with
      | .int k => (idx k xs.length).bind fun j => xs[j]?
      | _ => none
    | some (.dK kvs) => (keyD i).bind fun k => kvGet kvs k
    | some (.tp xs) => match i with
      | .int k => (idx k xs.length).bind fun j => xs[j]?
      | _ => none
    | some (.dF kvs) => (keyD i).bind fun k => kvGet kvs k
    | _ => none
  | _ => none
/-- a dict locked while it is walked -/
def lockM (m : Mem) : EV → Option Mem
  | .loc n => match m[n]? with
    | some (.dK kvs) => some (m.set n (.dF kvs))
    | _ => none
  | _ => none
def unlkM (m : Mem) : EV → Option Mem
  | .loc n => match m[n]? with
    | some (.dF kvs) => some (m.set n (.dK kvs))
    | _ => none
  | _ => none
/-- a thing is laid into an older one alone -/
def inB (n : Nat) : EV → Bool
  | .d _ => true
  | .loc k => decide (k < n)
  | .exc _ _ => true
  | _ => false
/-- a def taken as a value: `.exc 0 [.str x]`; which call it is -/
def calT (tab : List (Str × Nat)) : EV → Option Nat
  | .exc _ [.str x] => tab.lookup x
  | _ => none
def setIx (m : Mem) (a : EV) (i : D) (v : EV) : Option Mem := match a with
  | .loc n => match m[n]? with
    | some (.lst xs) => match i with
      | .int k => if inB n v then (idx k xs.length).map fun j => m.set n (.lst (xs.set j v)) else none
      | _ => none
    | some (.dK kvs) => (keyD i).bind fun k => if decide (kvs.length < 1000) && inB n v then some (m.set n (.dK (kvPut kvs k v))) else none
    | _ => none
  | _ => none
def appIx (m : Mem) (a : EV) (v : EV) : Option Mem := match a with
  | .loc n => match m[n]? with
    | some (.lst xs) => if decide (xs.length < LIM) && inB n v then some (m.set n (.lst (xs ++ [v]))) else none
    | _ => none
  | _ => none
/-- x.extend(..) -/
def extIx (m : Mem) (a : EV) (v : EV) : Option Mem := match a, v with
  | .loc n, .d (.list ys) => match m[n]? with
    | some (.lst xs) => if decide (xs.length + ys.length ≤ LIM) then some (m.set n (.lst (xs ++ ys.map .d))) else none
    | _ => none
  | _, _ => none
/-- d.update(e) -/
def updIx (m : Mem) (a b : EV) : Option Mem := match a, b with
  | .loc n, .loc k => match m[n]?, m[k]? with
    | some (.dK kvs), some (.dK more) => if decide (n ≠ k) && decide (kvs.length + more.length ≤ LIM) && more.all (fun p => inB n p.2) then some (m.set n (.dK (mergeE kvs more))) else none
    | _, _ => none
  | _, _ => none
/-- the int keys of a locked dict -/
def keysK : List (Key × EV) → Option (List D)
  | [] => some []
  | (.inl i, _) :: r => match keysK r with
    | some xs => some (.int i :: xs)
    | none => none
  | _ => none
def keysF (m : Mem) : EV → Option (List D)
  | .loc n => match m[n]? with
    | some (.dF kvs) => keysK kvs
    | _ => none
  | _ => none
/-- the dict in a slot, its keys, the memory where it is locked -/
def lockV (m : Mem) : Option EV → Option (EV × List D × Mem)
  | some v => match lockM m v with
    | some m1 => match keysF m1 v with
      | some xs => some (v, xs, m1)
      | none => none
    | none => none
  | none => none
/-- sorted: ints -/
def insI (x : Int) : List Int → List Int
  | [] => [x]
  | y :: r => if x ≤ y then x :: y :: r else y :: insI x r
def sortI : List Int → List Int
  | [] => []
  | x :: r => insI x (sortI r)
def keysI : List (Key × EV) → Option (List Int)
  | [] => some []
  | (.inl i, _) :: r => (keysI r).map (i :: ·)
  | _ => none
def srtV (m : Mem) : EV → Option (List Int)
  | .d (.list xs) => (intsD xs).map sortI
  | .d (.tuple xs) => (intsD xs).map sortI
  | .loc n => match m[n]? with
    | some (.dK kvs) => match keysI kvs with
      | some ks => if decide (ks.length < 64) then some (sortI ks) else none
      | none => none
    | some (.lst ys) => ((allD ys).bind intsD).map sortI
    | _ => none
  | _ => none
/-- sorted: pairs of an int and a tuple of ints -/
def plD : D → Option (Int × List Int)
  | .tuple [.int i, .tuple w] => (intsD w).map fun v => (i, v)
  | _ => none
def plsD : List D → Option (List (Int × List Int))
  | [] => some []
  | x :: r => match plD x, plsD r with
    | some p, some ps => some (p :: ps)
    | _, _ => none
def plE (p : Int × List Int) : D := .tuple [.int p.1, .tuple (p.2.map .int)]
def lexQ (p q : Int × List Int) : Bool := if p.1 = q.1 then HT.lexLt p.2 q.2 else decide (p.1 < q.1)
def insP (x : Int × List Int) : List (Int × List Int) → List (Int × List Int)
  | [] => [x]
  | y :: r => if lexQ y x then y :: insP x r else x :: y :: r
def sortP : List (Int × List Int) → List (Int × List Int)
  | [] => []
  | x :: r => insP x (sortP r)
def srtE (m : Mem) (y : EV) : Option EV := match srtV m y with
  | some is => some (.d (.list (is.map .int)))
  | none => match y with
    | .d (.list xs) => (plsD xs).map fun ps => .d (.list ((sortP ps).map plE))
    | _ => none
/-- sorted(d.items()) -/
def plsK : List (Key × EV) → Option (List (Int × List Int))
  | [] => some []
  | (.inl i, .d (.tuple w)) :: r => match intsD w, plsK r with
    | some v, some ps => some ((i, v) :: ps)
    | _, _ => none
  | _ => none
def sitV (m : Mem) : EV → Option (List (Int × List Int))
  | .loc n => match m[n]? with
    | some (.dK kvs) => plsK kvs
    | _ => none
  | _ => none
/-- xs.index(y) -/
def lixD (xs : List D) (y : D) : Option Nat := if SeqAt.shaped (.list xs) && SeqAt.shaped y then xs.findIdx? (fun z => PyData.eqv z y) else none
/-- sorted(set(..)): ints, each once -/
def insU (x : Int) : List Int → List Int
  | [] => [x]
  | y :: r => if x < y then x :: y :: r else if x = y then y :: r else y :: insU x r
def sortU : List Int → List Int
  | [] => []
  | x :: r => insU x (sortU r)
def sstU (o : Option (List Int)) : Option (List Int) := match o with
  | some is => if decide (is.length ≤ 4000) && decide ((sortU is).length < 64) then some (sortU is) else none
  | none => none
def sstV (m : Mem) : EV → Option (List Int)
  | .d (.list xs) => sstU (intsD xs)
  | .d (.tuple xs) => sstU (intsD xs)
  | .loc n => match m[n]? with
    | some (.lst ys) => sstU ((allD ys).bind intsD)
    | _ => none
  | _ => none
/-- list(d) -/
def dkeys (m : Mem) : EV → Option (List D)
  | .loc n => match m[n]? with
    | some (.dK kvs) => (keysI kvs).map fun ks => ks.map .int
    | _ => none
  | _ => none
def isDct (m : Mem) : EV → Bool
  | .loc n => match m[n]? with
    | some (.dK _) => true
    | _ => false
  | _ => false
/-- o.get(k, z) -/
def dgetV (m : Mem) (o : EV) (k : D) (z : EV) : Option EV := match o with
  | .loc n => match m[n]? with
    | some (.dK kvs) => (keyD k).map fun kk => (kvGet kvs kk).getD z
    | _ => none
  | _ => none
/-- a list made since, of data alone: it may be taken as data where nobody holds it -/
def frz (m : Mem) (n : Nat) : EV → Option D
  | .loc k => if n ≤ k then (match m[k]? with
    | some (.lst ys) => (allD ys).map .list
    | _ => none) else none
  | _ => none
def frzE (m : Mem) (n : Nat) (v : EV) : Option D := match v with
  | .d x => some x
  | v => frz m n v
def frzAll (m : Mem) (n : Nat) : List EV → Option (List D)
  | [] => some []
  | v :: r => match frzE m n v, frzAll m n r with
    | some x, some xs => some (x :: xs)
    | _, _ => none
/-- a tuple made since, of data and lists made since -/
def frzT (m : Mem) (n k : Nat) : Option D := if n ≤ k then (match m[k]? with
    | some (.tp xs) => (frzAll m n xs).map .tuple
    | _ => none) else none
def isLst (m : Mem) : EV → Bool
  | .loc n => match m[n]? with
    | some (.lst _) => true
    | _ => false
  | _ => false
def getV (env : Env) (i : Nat) : Option EV := match env[i]? with
  | some (some v) => some v
  | _ => none
def wipeE (env : Env) : List Nat → Env
  | [] => env
  | i :: r => (wipeE env r).set i none

mutual
def asgT : Tg → EV → Env → Option Env
  | .nm i, v, env => some (env.set i (some v))
  | .tup ts, v, env => match v with
    | .d (.tuple xs) => asgTs ts (xs.map .d) env
    | _ => none
def asgTs : Tgs → List EV → Env → Option Env
  | .nil, [], env => some env
  | .cons t r, x :: xs, env => match asgT t x env with
    | some env' => asgTs r xs env'
    | none => none
  | _, _, _ => none
end

def asgM (m : Mem) (t : Tg) (v : EV) (env : Env) : Option Env := match t with
  | .nm i => some (env.set i (some v))
  | .tup ts => match v with
    | .loc n => match m[n]? with
      | some (.tp xs) => asgTs ts xs env
      | _ => none
    | v => asgT (.tup ts) v env
/-- what is walked: data, or a list that lives on -/
inductive Src where
  | fx (xs : List D)
  | lv (n len : Nat)
  | tv (n len : Nat)
def Src.len : Src → Nat
  | .fx xs => xs.length
  | .lv _ k => k
  | .tv _ k => k
def Src.get (m : Mem) (i : Nat) : Src → Option EV
  | .fx xs => (xs[i]?).map .d
  | .lv n k => match m[n]? with
    | some (.lst ys) => if ys.length = k then ys[i]? else none
    | _ => none
  | .tv n k => match m[n]? with
    | some (.tp ys) => if ys.length = k then ys[i]? else none
    | _ => none
def Src.fin (m : Mem) : Src → Bool
  | .fx _ => true
  | .lv n k => match m[n]? with
    | some (.lst ys) => decide (ys.length = k)
    | _ => false
  | .tv n k => match m[n]? with
    | some (.tp ys) => decide (ys.length = k)
    | _ => false
/-- one turn after another of a comprehension -/
def compL (src : Src) (bd : EV → Mem → Res (Option D)) : Nat → Nat → Mem → Res (List D)
  | 0, _, m => if src.fin m then .ok [] m else .bad
  | k + 1, i, m => match src.get m i with
    | none => .bad
    | some x => (bd x m).noex.bind fun o m1 => (compL src bd k (i + 1) m1).bind fun ds m2 => .ok (match o with | some d => d :: ds | none => ds) m2

def enumL (k : Int) : List D → List D
  | [] => []
  | x :: r => .tuple [.int k, x] :: enumL (k + 1) r
def zipL : List D → List D → List D
  | x :: r, y :: s => .tuple [x, y] :: zipL r s
  | _, _ => []
def rangeL (a b : Int) : List D := (List.range (b - a).toNat).map fun (i : Nat) => .int (a + i)

def truth (m : Mem) (v : EV) : Option Bool := (view m v).map truD
/-- of a comprehension of two clauses: the turns of the first one -/
def catL (src : Src) (bd : EV → Mem → Res (List D)) : Nat → Nat → Mem → Res (List D)
  | 0, _, m => if src.fin m then .ok [] m else .bad
  | k + 1, i, m => match src.get m i with
    | none => .bad
    | some x => (bd x m).noex.bind fun ds m1 => (catL src bd k (i + 1) m1).noex.bind fun es m2 => .ok (ds ++ es) m2
/-- one turn: the target, the test, what is made -/
def turnB (t : Tg) (env : Env) (fq fe : Env → Mem → Res EV) (x : EV) (m2 : Mem) : Res (Option D) := match asgT t x env with
  | none => .bad
  | some env2 => (fq env2 m2).bind fun k m3 => match truth m3 k with
    | some true => (fe env2 m3).bind fun y m4 => match y with
      | .d p => .ok (some p) m4
      | _ => .bad
    | some false => .ok none m3
    | none => .bad
/-- one turn of the first clause -/
def turnA (t : Tg) (env : Env) (fq : Env → Mem → Res EV) (fi : Env → Mem → Res Src) (fb : Env → EV → Mem → Res (Option D)) (x : EV) (m2 : Mem) : Res (List D) := match asgT t x env with
  | none => .bad
  | some env2 => (fq env2 m2).bind fun k m3 => match truth m3 k with
    | some true => (fi env2 m3).bind fun ys m4 => compL ys (fb env2) ys.len 0 m4
    | some false => .ok [] m3
    | none => .bad
def limL (r : Res (List D)) : Res (List D) := r.noex.bind fun ds m2 => if decide (ds.length ≤ LIM) then .ok ds m2 else .bad


/-- what stands behind calls; the classes of exceptions -/
structure CF where
  c : Nat → List EV → Mem → Res EV
  s : Nat → Nat → Bool
instance : CoeFun CF (fun _ => Nat → List EV → Mem → Res EV) := ⟨CF.c⟩
def BIG : Nat := 1000000
def NOPI : Nat := 999999
/-- what the clauses tell -/
def heardC (s : Nat → Nat → Bool) (k : Nat) (fs : List D) (n : Nat) (m : Mem) : List (Nat × HX) → Res EV
  | [] => .bad
  | x :: r => if s k x.1 then (match hv s k fs x.2 with
    | some v => .ok (.d v) (m.take n)
    | none => .bad) else heardC s k fs n m r
section
variable (cf : CF)
mutual
def evE : Ex → Env → Mem → Res EV
  | .v i, env, m => Res.of (getV env i) m
  | .c x, _, m => .ok (.d x) m
  | .tup es, env, m => (evEs es env m).bind fun vs m1 => match allD vs with
      | some xs => .ok (.d (.tuple xs)) m1
      | none => if vs.all (inB m1.length) then .ok (.loc m1.length) (m1 ++ [.tp vs]) else .bad
  | .fl l, env, m => (evL l env m).bind fun xs m1 => .ok (.d (.list xs)) m1
  | .ml l, env, m => (evL l env m).bind fun xs m1 => .ok (.loc m1.length) (m1 ++ [.lst (xs.map .d)])
  | .dis ks es, env, m => (evEs es env m).bind fun vs m1 => if decide (vs.length = ks.length) && decide (ks.Nodup) && vs.all (inB m1.length) then .ok (.loc m1.length) (m1 ++ [.dK ((ks.map Sum.inr).zip vs)]) else .bad
  | .b2 o a b, env, m => (evE a env m).bind fun x m1 => (evE b env m1).bind fun y m2 =>
      match view2 o m2 x, view2 o m2 y with
      | some p, some q => Res.of ((op2 o p q).map .d) m2
      | _, _ => .bad
  | .u1 o a, env, m => (evE a env m).bind fun x m1 => match view1 o m1 x with
      | some p => Res.of ((op1 o p).map .d) m1
      | none => .bad
  | .and a b, env, m => (evE a env m).bind fun x m1 => match truth m1 x with
      | some true => evE b env m1
      | some false => .ok x m1
      | none => .bad
  | .or a b, env, m => (evE a env m).bind fun x m1 => match truth m1 x with
      | some true => .ok x m1
      | some false => evE b env m1
      | none => .bad
  | .ite c a b, env, m => (evE c env m).bind fun x m1 => match truth m1 x with
      | some true => evE a env m1
      | some false => evE b env m1
      | none => .bad
  | .chain o p a b c, env, m => (evE a env m).bind fun x m1 => (evE b env m1).bind fun y m2 =>
      match x, y with
      | .d u, .d w => match op2 o u w with
        | some (.bool true) => (evE c env m2).bind fun z m3 => match z with
          | .d t => Res.of ((op2 p w t).map .d) m3
          | _ => .bad
        | some (.bool false) => .ok (.d (.bool false)) m2
        | _ => .bad
      | _, _ => .bad
  | .ix a i, env, m => (evE a env m).bind fun x m1 => (evE i env m1).bind fun y m2 => match y with
      | .d k => Res.of (getIx m2 x k) m2
      | _ => .bad
  | .sl1 a lo, env, m => (evE a env m).bind fun x m1 => (evE lo env m1).bind fun y m2 => match view m2 x, y with
      | some p, .d (.int l) => Res.of ((cutD p (some l) none).map .d) m2
      | _, _ => .bad
  | .sl2 a hi, env, m => (evE a env m).bind fun x m1 => (evE hi env m1).bind fun y m2 => match view m2 x, y with
      | some p, .d (.int h) => Res.of ((cutD p none (some h)).map .d) m2
      | _, _ => .bad
  | .sl3 a lo hi, env, m => (evE a env m).bind fun x m1 => (evE lo env m1).bind fun y m2 => match y with
      | .d (.int l) => (evE hi env m2).bind fun z m3 => match view m3 x, z with
        | some p, .d (.int h) => Res.of ((cutD p (some l) (some h)).map .d) m3
        | _, _ => .bad
      | _ => .bad
  | .call f es, env, m => (evEs es env m).bind fun vs m1 => cf f vs m1
  | .callk f es ks pm, env, m => (evEs es env m).bind fun us m1 => (evEs ks env m1).bind fun ws m2 => cf f (pm.filterMap fun i => (us ++ ws)[i]?) m2
  | .stuck, _, _ => .bad
  | .isi t a, env, m => (evE a env m).bind fun x m1 => match view m1 x with
      | some p => .ok (.d (.bool (isiD t p))) m1
      | none => .bad
  | .fv x, _, m => .ok (.exc 0 [.str x]) m
  | .callv tab a es, env, m => (evE a env m).bind fun x m1 => match calT tab x with
      | some k => (evEs es env m1).bind fun vs m2 => cf k vs m2
      | none => .bad
  | .srt a, env, m => (evE a env m).bind fun x m1 => Res.of (srtE m1 x) m1
  | .sst a, env, m => (evE a env m).bind fun x m1 => Res.of ((sstV m1 x).map fun is => EV.d (.list (is.map .int))) m1
  | .lns a, env, m => (evE a env m).bind fun x m1 => Res.of ((sstV m1 x).map fun is => EV.d (.int (is.length : Nat))) m1
  | .cnt a b, env, m => (evE a env m).bind fun x m1 => match x with
      | .d (.tuple xs) => (evE b env m1).bind fun y m2 => match intsD xs, y with
        | some is, .d (.int k) => .ok (.d (.int (is.count k : Nat))) m2
        | _, _ => .bad
      | .d (.list xs) => (evE b env m1).bind fun y m2 => match intsD xs, y with
        | some is, .d (.int k) => .ok (.d (.int (is.count k : Nat))) m2
        | _, _ => .bad
      | _ => .bad
  | .sit a, env, m => (evE a env m).bind fun x m1 => Res.of ((sitV m1 x).map fun ps => EV.d (.list ((sortP ps).map plE))) m1
  | .lix a b, env, m => (evE a env m).bind fun x m1 => match x with
      | .d (.list xs) => (evE b env m1).bind fun y m2 => match y with
        | .d k => Res.of ((lixD xs k).map fun j => EV.d (.int (j : Nat))) m2
        | _ => .bad
      | _ => .bad
  | .rev a, env, m => (evE a env m).bind fun x m1 => match x with
      | .d (.tuple xs) => .ok (.d (.tuple xs.reverse)) m1
      | _ => .bad
  | .isB neg d a, env, m => (evE a env m).bind fun x m1 => match view m1 x with
      | some p => .ok (.d (.bool (if neg then !isBD d p else isBD d p))) m1
      | none => .bad
  | .heard w cs e, env, m => (cf.c (BIG + BIG + NOPI) [] m).bind fun _ m0 => match evE e env m0 with
      | .ok v m1 => match frzE m1 m.length v with
        | some x => .ok (.d (hwV w x)) (m1.take m.length)
        | none => .bad
      | .ex k fs m1 => heardC cf.s k fs m.length m1 cs
      | .bad => .bad
  | .dget a i d, env, m => (evE a env m).bind fun x m1 => match isDct m1 x with
      | true => (evE i env m1).bind fun y m2 => (evE d env m2).bind fun z m3 => match y with
        | .d k => Res.of (dgetV m3 x k z) m3
        | _ => .bad
      | false => .bad
  | .fz a, env, m => (evE a env m).bind fun x m1 => match frz m1 m.length x with
      | some p => .ok (.d p) (m1.take m.length)
      | none => .ok x m1
  | .mm g a b, env, m => (evE a env m).bind fun x m1 => (evE b env m1).bind fun y m2 => match x, y with
      | .d (.int i), .d (.int j) => .ok (.d (.int (if g then max i j else min i j))) m2
      | _, _ => .bad
  | .trg it, env, m => (evI it env m).bind fun s m1 => match s with
      | .fx xs => .ok (.d (.tuple xs)) m1
      | _ => .bad
  | .dct a, env, m => (evE a env m).bind fun x m1 => match view m1 x with
      | some p => match dctV p with
        | some kvs => .ok (.loc m1.length) (m1 ++ [.dK kvs])
        | none => .bad
      | none => .bad
def evEs : Exs → Env → Mem → Res (List EV)
  | .nil, _, m => .ok [] m
  | .cons e r, env, m => (evE e env m).bind fun x m1 => (evEs r env m1).bind fun xs m2 => .ok (x :: xs) m2
def evI : It → Env → Mem → Res Src
  | .sq a, env, m => (evE a env m).bind fun x m1 => match x with
      | .d p => Res.of ((seqD p).map .fx) m1
      | .loc n => match m1[n]? with
        | some (.lst ys) => .ok (.lv n ys.length) m1
        | some (.tp ys) => .ok (.tv n ys.length) m1
        | _ => .bad
      | _ => .bad
  | .en a, env, m => (evE a env m).bind fun x m1 => match x with
      | .d p => Res.of ((seqD p).map fun xs => .fx (enumL 0 xs)) m1
      | _ => .bad
  | .zp a b, env, m => (evE a env m).bind fun x m1 => (evE b env m1).bind fun y m2 => match x, y with
      | .d (.list xs), .d (.list ys) => .ok (.fx (zipL xs ys)) m2
      | .d (.tuple xs), .d (.tuple ys) => .ok (.fx (zipL xs ys)) m2
      | .d (.list xs), .d (.tuple ys) => .ok (.fx (zipL xs ys)) m2
      | .d (.tuple xs), .d (.list ys) => .ok (.fx (zipL xs ys)) m2
      | _, _ => .bad
  | .rng1 b, env, m => (evE b env m).bind fun y m2 => match y with
      | .d (.int j) => if decide (-(2 ^ 62) ≤ j) && decide (j ≤ LIM) then .ok (.fx (rangeL 0 j)) m2 else .bad
      | _ => .bad
  | .rng a b, env, m => (evE a env m).bind fun x m1 => (evE b env m1).bind fun y m2 => match x, y with
      | .d (.int i), .d (.int j) => if decide (-(2 ^ 62) ≤ i) && decide (i < 2 ^ 62) && decide (-(2 ^ 62) ≤ j) && decide (j < 2 ^ 62) && decide (j - i ≤ LIM) then .ok (.fx (rangeL i j)) m2 else .bad
      | _, _ => .bad
def evL : Lx → Env → Mem → Res (List D)
  | .dis es, env, m => (evEs es env m).bind fun vs m1 => Res.of (allD vs) m1
  | .comp t it vs q e, env, m => (evI it env m).bind fun xs m1 =>
      compL xs (fun x m2 => match asgT t x (wipeE env vs) with
        | none => .bad
        | some env2 => (evE q env2 m2).bind fun k m3 => match truth m3 k with
          | some true => (evE e env2 m3).bind fun y m4 => match y with
            | .d p => .ok (some p) m4
            | _ => .bad
          | some false => .ok none m3
          | none => .bad) xs.len 0 m1
  | .comp2 t it vs q t1 it1 vs1 q1 e, env, m => (evI it env m).bind fun xs m1 =>
      limL (catL xs (turnA t (wipeE env vs) (fun e2 m2 => evE q e2 m2) (fun e2 m2 => evI it1 e2 m2) (fun e2 => turnB t1 (wipeE e2 vs1) (fun e3 m3 => evE q1 e3 m3) (fun e3 m3 => evE e e3 m3))) xs.len 0 m1)
  | .compk t i vs q e, env, m => match lockV m (getV env i) with
      | some (v, xs, m1) => (compL (.fx xs) (turnB t (wipeE env vs) (fun e2 m2 => evE q e2 m2) (fun e2 m2 => evE e e2 m2)) xs.length 0 m1).noex.bind fun ds m2 => match unlkM m2 v with
        | some m3 => .ok ds m3
        | none => .bad
      | none => .bad
  | .lst a, env, m => (evE a env m).bind fun x m1 => match viewR m1 x with
      | some p => Res.of (seqD p) m1
      | none => Res.of (dkeys m1 x) m1
  | .rg it, env, m => (evI it env m).bind fun s m1 => match s with
      | .fx xs => .ok xs m1
      | _ => .bad
  | .enl a, env, m => (evE a env m).bind fun x m1 => match view m1 x with
      | some (.list xs) => .ok (enumL 0 xs) m1
      | _ => .bad
end

/-- how a statement ends -/
inductive S where
  | nx (env : Env) (m : Mem)
  | rt (v : EV) (m : Mem)
  | bk (env : Env) (m : Mem)
  | ct (env : Env) (m : Mem)
  | ex (c : Nat) (fs : List D) (env : Env) (m : Mem)
  | bad
@[simp] def S.of {α : Type} (env : Env) : Res α → (α → Mem → S) → S
  | .ok a m, f => f a m
  | .ex c fs m, _ => .ex c fs env m
  | .bad, _ => .bad
@[simp] def S.opt {α : Type} (o : Option α) (f : α → S) : S := match o with
  | some a => f a
  | none => .bad
/-- .. unlocked behind a walk -/
def unlkS (v : EV) : S → S
  | .nx env m => S.opt (unlkM m v) fun m1 => .nx env m1
  | .rt y m => S.opt (unlkM m v) fun m1 => .rt y m1
  | _ => .bad
def forL (src : Src) (t : Tg) (b : Env → Mem → S) : Nat → Nat → Env → Mem → S
  | 0, _, env, m => if src.fin m then .nx env m else .bad
  | k + 1, i, env, m => match src.get m i with
    | none => .bad
    | some x => match asgT t x env with
      | none => .bad
      | some env1 => match b env1 m with
        | .nx env2 m2 => forL src t b k (i + 1) env2 m2
        | .ct env2 m2 => forL src t b k (i + 1) env2 m2
        | .bk env2 m2 => .nx env2 m2
        | r => r
def whlL (c : Env → Mem → Res Bool) (b : Env → Mem → S) : Nat → Env → Mem → S
  | 0, _, _ => .bad
  | n + 1, env, m => match c env m with
    | .ok true m1 => match b env m1 with
      | .nx env2 m2 => whlL c b n env2 m2
      | .ct env2 m2 => whlL c b n env2 m2
      | .bk env2 m2 => .nx env2 m2
      | r => r
    | .ok false m1 => .nx env m1
    | .ex k fs m1 => .ex k fs env m1
    | .bad => .bad
def catchE (sub : Nat → Nat → Bool) (k : Nat) (fs : List D) (env : Env) (m : Mem) : List HC → S
  | [] => .ex k fs env m
  | x :: r => if sub k x.c then (match hv sub k fs x.h with
    | some v => .nx ((env.set x.i (some (.d v))).set x.nm none) m
    | none => .bad) else catchE sub k fs env m r
def evT (e : Ex) (env : Env) (m : Mem) : Res Bool := (evE cf e env m).bind fun x m1 => Res.of (truth m1 x) m1

def setAll (env : Env) : List Nat → List EV → Env
  | i :: r, v :: vs => setAll (env.set i (some v)) r vs
  | _, _ => env

variable (sub : Nat → Nat → Bool)
mutual
def evS : Stt → Env → Mem → S
  | .ex e, env, m => S.of env (evE cf e env m) fun _ m1 => .nx env m1
  | .asg t e, env, m => S.of env (evE cf e env m) fun x m1 => S.opt (asgM m1 t x env) fun env1 => .nx env1 m1
  | .par is es, env, m => S.of env (evEs cf es env m) fun vs m1 => .nx (setAll env is vs) m1
  | .asgs t es, env, m => S.of env (evEs cf es env m) fun vs m1 => S.opt (asgTs t vs env) fun env1 => .nx env1 m1
  | .sto o i e, env, m => S.of env (evE cf e env m) fun x m1 => S.of env (evE cf o env m1) fun y m2 => S.of env (evE cf i env m2) fun z m3 => match z with
      | .d k => S.opt (setIx m3 y k x) fun m4 => .nx env m4
      | _ => .bad
  | .aug i o e, env, m => S.opt (getV env i) fun x => S.of env (evE cf e env m) fun y m1 => match o, x, y with
      | .add, .d (.int p), .d (.int q) => .nx (env.set i (some (.d (.int (p + q))))) m1
      | .sub, .d (.int p), .d (.int q) => .nx (env.set i (some (.d (.int (p - q))))) m1
      | _, _, _ => .bad
  | .augs o op i e, env, m => S.of env (evE cf o env m) fun y m1 => S.of env (evE cf i env m1) fun z m2 => match z, isLst m2 y with
      | .d (.int k), true => if decide (0 ≤ k) && decide (k < 2 ^ 62) then S.opt (getIx m2 y (.int k)) fun x => S.of env (evE cf e env m2) fun w m3 => match op, x, w with
          | .add, .d (.int p), .d (.int q) => S.opt (setIx m3 y (.int k) (.d (.int (p + q)))) fun m4 => .nx env m4
          | .sub, .d (.int p), .d (.int q) => S.opt (setIx m3 y (.int k) (.d (.int (p - q)))) fun m4 => .nx env m4
          | _, _, _ => .bad
        else .bad
      | _, _ => .bad
  | .app i e, env, m => S.opt (getV env i) fun o => match isLst m o with
      | true => S.of env (evE cf e env m) fun x m1 => S.opt (appIx m1 o x) fun m2 => .nx env m2
      | false => .bad
  | .upd i e, env, m => S.opt (getV env i) fun o => match isDct m o with
      | true => S.of env (evE cf e env m) fun x m1 => S.opt (updIx m1 o x) fun m2 => .nx env m2
      | false => .bad
  | .ext i e, env, m => S.opt (getV env i) fun o => match isLst m o with
      | true => S.of env (evE cf e env m) fun x m1 => S.opt (extIx m1 o x) fun m2 => .nx env m2
      | false => .bad
  | .fork t i b, env, m => match lockV m (getV env i) with
      | some (v, xs, m1) => unlkS v (forL (.fx xs) t (fun e2 m2 => evSs b e2 m2) xs.length 0 env m1)
      | none => .bad
  | .ite c a b, env, m => S.of env (evT cf c env m) fun k m1 => match k with
      | true => evSs a env m1
      | false => evSs b env m1
  | .whl c b, env, m => whlL (evT cf c) (fun e2 m2 => evSs b e2 m2) 1000000000 env m
  | .for t it b, env, m => S.of env (evI cf it env m) fun xs m1 => forL xs t (fun e2 m2 => evSs b e2 m2) xs.len 0 env m1
  | .ret e, env, m => S.of env (evE cf e env m) fun x m1 => .rt x m1
  | .rais c es, env, m => S.of env (evEs cf es env m) fun vs m1 => S.opt (allD vs) fun fs => .ex c fs env m1
  | .trye b cs, env, m => match evSs b env m with
      | .ex k fs env1 m1 => catchE sub k fs env1 m1 cs
      | r => r
  | .pass, env, m => .nx env m
  | .brk, env, m => .bk env m
  | .cont, env, m => .ct env m
  | .stuck, _, _ => .bad
def evSs : Sts → Env → Mem → S
  | .nil, env, m => .nx env m
  | .cons s r, env, m => match evS s env m with
    | .nx env1 m1 => evSs r env1 m1
    | x => x
end
end

structure Fn where
  np : Nat
  nl : Nat
  body : Sts

/-- the store behind a call -/
def back (n : Nat) (v : EV) (m : Mem) : Res EV := match v with
  | .d x => .ok (.d x) (m.take n)
  | .loc k => match frzT m n k with
    | some p => .ok (.d p) (m.take n)
    | none => .ok (.loc k) m
  | _ => .bad
/-- how a def's body ends -/
def fin (n : Nat) : S → Res EV
  | .nx _ m1 => .ok (.d .none) (m1.take n)
  | .rt v m1 => back n v m1
  | .ex c fs _ m1 => .ex c fs (m1.take n)
  | _ => .bad
def callF (T : List Fn) (sub : Nat → Nat → Bool) : Nat → CF
  | 0 => ⟨fun _ _ _ => .bad, sub⟩
  | n + 1 => ⟨fun f vs m => if BIG ≤ f then (callF T sub n).c (f - BIG) vs m else if f = NOPI then .ok (.d .none) m else match T[f]? with
      | none => .bad
      | some fn => if vs.length = fn.np then fin m.length (evSs (callF T sub n) sub fn.body (vs.map some ++ List.replicate (fn.nl - fn.np) none) m) else .bad, sub⟩
end PV
end

section
set_option Elab.async false
set_option linter.all false
set_option maxRecDepth 100000
/-! PV0: tuples that are known to have no dict of their own. -/
namespace PV
open PySem PySem.Spec PyProof.Rows L2 HT
/-- a bare tuple -/
def SqB (K : PySem.W.Frag) (H : Hp) (a : Addr) (xs : List V) : Prop :=
  (∃ o, H a = some (.frz o (.tup xs)) ∧ o.dict = none) ∨
    ∃ (o : Obj) (its : Array Value) (n : Nat), K.lookup a = some o ∧ o.cls = .type "tuple" ∧ o.dict = none ∧ o.data = .seq its n ∧ its.size ≤ sizeLine ∧ Vals xs its.toList
section
variable {K : PySem.W.Frag} {H H' : Hp} {a : Addr} {xs : List V}
theorem SqB.t (h : SqB K H a xs) : SqT K H a xs := by
  rcases h with ⟨o, h, _⟩ | ⟨o, its, n, h1, h2, _, h3, h4, h5⟩
  · exact .inl (.inr ⟨o, h⟩)
  · exact .inr ⟨o, its, n, h1, h2, h3, h4, h5⟩
theorem SqB.of {o : Obj} (h : H a = some (.frz o (.tup xs))) (d : o.dict = none) : SqB K H a xs := .inl ⟨o, h, d⟩
theorem sqB_mono (e : ∀ a o, H a = some o → H' a = some o) (h : SqB K H a xs) : SqB K H' a xs := by
  rcases h with ⟨o, h, d⟩ | h
  · exact .inl ⟨o, e _ _ h, d⟩
  · exact .inr h
end
/-- the wish behind a new tuple -/
def NewT (Q : VK) (H : Hp) (xs : List V) : Prop := ∀ p (o : Obj), H p = none → o.dict = none → Q (.ref p) (upd H p (.frz o (.tup xs)))
def bT (its : List Value) : Obj := { cls := .type "tuple", data := .seq its.toArray }
section
variable {X : Cx} {pins : List (Addr × Obj)} {σ : L2.St} {H : Hp} {s : Shared} {e : Expr} {es : List Expr} {te : TE} {t : TA} {pos : Pos}
theorem newT_at {Q : VK} {xs : List V} {its : List Value} {t' : Nat} (I : Inv X pins σ H s) (r : Vals xs its) (z : xs.length ≤ sizeLine) (q : NewT Q H xs) : EP X pins σ Q (.ref s.heap.objs.size) { s with heap := s.heap.push { cls := .type "tuple", data := .seq its.toArray }, toks := t' } := by
  have hf : H s.heap.objs.size = none := I.hok.fresh (Nat.le_refl _)
  refine ⟨.ref s.heap.objs.size, upd H s.heap.objs.size (.frz (bT its) (.tup xs)), I.laid (t' := t') (fun b u e => Heap.get?_push_of_some _ e) (Nat.le_refl _) ?new, rfl, q _ _ hf rfl⟩
  exact ⟨Heap.get?_push_size _ rfl, z, its, r, IsTup.new _ _⟩
def tTupB (t : TA) : TE := fun σ H Q => t σ H fun xs H1 => xs.length ≤ sizeLine ∧ NewT Q H1 xs
theorem pe_tupB {x1} (h : PA X es t) : PE X (.Tuple es x1 pos) (tTupB t) := by
  refine ⟨fun pins s σ H Q I hq => ?_⟩
  refine wpAny_Tuple_spliced (thn (h.run pos pins s σ H _ I hq) fun us s1 ⟨xs, H1, I1, r, z, q⟩ => ⟨by rw [← r.length]; exact z, ?_⟩)
  exact newT_at (t' := s1.toks) I1 r z q
def rCatB (K : PySem.W.Frag) : R2 := fun x y H Q => ∃ a b xs ys, x = .ref a ∧ y = .ref b ∧ SqT K H a xs ∧ SqT K H b ys ∧ xs.length + ys.length ≤ sizeLine ∧
  (xs = [] → Q (.ref b) H) ∧ (xs ≠ [] → ys = [] → Q (.ref a) H) ∧ (xs ≠ [] → ys ≠ [] → NewT Q H (xs ++ ys))
theorem op_catB : OpR X (binaryOp .Add) (rCatB X.K) := by
  intro pins s σ H x y v u Q I rx ry h
  obtain ⟨a, b, xs, ys, rfl, rfl, ha, hb, hz, q0, q1, q2⟩ := h
  cases rx
  cases ry
  obtain ⟨its, r1, p1, _⟩ := I.tuple ha
  obtain ⟨its2, r2, p2, _⟩ := I.tuple hb
  by_cases hx : xs = []
  · subst hx
    cases r1
    exact cat_tup0 p1 p2 ⟨.ref b, H, I, rfl, q0 rfl⟩
  · refine HT.cat_tup p1 p2 (fun z => hx (r1.nil_iff.mp z)) (fun z => ⟨.ref a, H, I, rfl, q1 hx (r2.nil_iff.mp z)⟩) (fun z => ?_) (by rw [← r1.length, ← r2.length]; exact hz)
    exact newT_at (t' := s.toks) I (r1.append r2) (by rw [List.length_append]; exact hz) (q2 hx fun w => z (r2.nil_iff.mpr w))
def rRepB (K : PySem.W.Frag) : R2 := fun x y H Q => ∃ l k xs, x = .ref l ∧ y = .int k ∧ SqT K H l xs ∧ xs ≠ [] ∧ 2 ≤ k ∧ k ≤ 1000 ∧ xs.length ≤ 1000 ∧ NewT Q H (List.replicate k.toNat xs).flatten
theorem op_repB : OpR X (binaryOp .Mult) (rRepB X.K) := by
  intro pins s σ H x y v u Q I rx ry h
  obtain ⟨l, k, xs, rfl, rfl, hT, hne, h1, h2, hz, q⟩ := h
  cases rx
  obtain ⟨t, rfl⟩ := ry
  obtain ⟨its, r, ⟨⟨cls, dd, data, sl⟩, ho, hc, n, hd⟩, hs⟩ := I.tuple hT
  simp only at hc hd
  subst hc hd
  have hle : its.length = xs.length := r.length.symm
  have hn : its ≠ [] := fun e => hne (by
    rw [e] at hle
    exact List.eq_nil_of_length_eq_zero hle.symm)
  have hi : its.toArray.isEmpty = false := by
    cases its with
    | nil => exact absurd rfl hn
    | cons a b => rfl
  have hsz0 : its.toArray.size = xs.length := by rw [List.size_toArray, hle]
  have hm : ((its.toArray.size : Nat) : Int) * k ≤ 1000000 := by
    rw [hsz0]
    have a1 : ((xs.length : Nat) : Int) * k ≤ 1000 * k := Int.mul_le_mul_of_nonneg_right (by omega) (by omega)
    omega
  have flen : (List.replicate k.toNat its).flatten.length ≤ sizeLine := by
    rw [PyProof.Rows.lm_len_rep_flat, hle, sizeLine_eq]
    have a1 : k.toNat * xs.length ≤ 1000 * 1000 := Nat.mul_le_mul (by omega) hz
    omega
  have c0 : (decide (k < -(2 ^ 63)) || decide (k ≥ 2 ^ 63)) = false := by
    rw [decide_eq_false (by omega), decide_eq_false (by omega)] <;> rfl
  have c1 : (its.toArray.isEmpty || k == 1) = false := by
    rw [hi, Bool.false_or]
    exact beq_eq_false_iff_ne.mpr (by omega)
  have c2 : (decide (k ≤ 0) || its.toArray.isEmpty) = false := by
    rw [hi, Bool.or_false]
    exact decide_eq_false (by omega)
  have c4 : Builtin.Tuple.tupleTooMany (((its.toArray.size : Nat) : Int) * k) = false := by
    unfold Builtin.Tuple.tupleTooMany
    rw [sizeLine_eq]
    exact decide_eq_false (by omega)
  refine wpAny_binaryOp_repeat_ref (T := "tuple") (U := "int") (by decide) ⟨_, ho, rfl⟩ (fun s' => typeIs_int s' k t) noFill_tuple_mul F.fills_int_mul F.slot_int_rmul repeat_tuple F.slot_int_index.lookup
    (call_meets F.slot_int_rmul (typeIs_int s k t) F.entry_int_rmul (F.args_int_rmul_2 _ _) (int_rmul_tuple k t l its.toArray n dd sl)
      ⟨ho, rfl, ⟨_, ho, rfl⟩, call_meets F.slot_tuple_mul ⟨_, ho, rfl⟩ F.entry_tuple_mul (F.args_tuple_mul_2 _ _) (tuple_mulW l its.toArray n dd sl k t c0 c1 c2 (by omega) c4 (by rw [size_rep, List.size_toArray]; exact flen)) ⟨ho, ?_⟩⟩)
  rw [size_rep]
  refine newT_at (t' := s.toks) I (r.rep k.toNat) ?_ q
  rw [PyProof.Rows.lm_len_rep_flat, sizeLine_eq]
  have a1 : k.toNat * xs.length ≤ 1000 * 1000 := Nat.mul_le_mul (by omega) hz
  omega
def rSlB (K : PySem.W.Frag) : V → Option Int → Option Int → Hp → VK → Prop := fun x lo hi H Q => ∃ a xs, x = .ref a ∧ SqT K H a xs ∧
  (HT.sIx xs.length 0 lo = 0 ∧ HT.sIx xs.length xs.length hi = xs.length → Q (.ref a) H) ∧ (¬ (HT.sIx xs.length 0 lo = 0 ∧ HT.sIx xs.length xs.length hi = xs.length) → NewT Q H (cutV xs lo hi))
theorem sl_tupB : SlR X (rSlB X.K) := by
  intro pins s σ H x v vl vu lo hi sl Q I rx hs pl pu h
  obtain ⟨a, xs, rfl, hx, q1, q2⟩ := h
  cases rx
  obtain ⟨its, r, ht, hz⟩ := I.tuple hx
  have hlen : its.toArray.size = xs.length := by rw [List.size_toArray]; exact r.length.symm
  refine ⟨"tuple", _, PyProof.Rows.slot_tuple_getitem.lookup, ht.typeIs, ?_⟩
  by_cases hw : HT.sIx xs.length 0 lo = 0 ∧ HT.sIx xs.length xs.length hi = xs.length
  · exact getItem_tuple_whole ht hs pl pu (by rw [hlen]; exact hw) ⟨.ref a, H, I, rfl, q1 hw⟩
  · refine HT.getItem_tuple_cut ht hs pl pu (by rw [hlen]; exact hw) ?_ (by rw [hlen]; exact hz)
    rw [hlen]
    exact newT_at (t' := s.toks) I ((r.drop (HT.sIx xs.length 0 lo)).take (HT.sIx xs.length xs.length hi - HT.sIx xs.length 0 lo)) (Nat.le_trans (cutV_length xs lo hi) hz) (q2 hw)
theorem call_tupleB : CallR X (.type "tuple") (fun xs H Q => ∃ p ys, xs = [.ref p] ∧ ((SqL X.K H p ys ∧ NewT Q H ys) ∨ (SqT X.K H p ys ∧ Q (.ref p) H))) := by
  intro pins s σ H xs us Q I r h
  obtain ⟨p, ys, rfl, h⟩ := h
  obtain ⟨u, rfl, rx⟩ := vals1 r
  cases rx
  rcases h with ⟨hq, q⟩ | ⟨hq, q⟩
  · obtain ⟨its, r', pl, hz⟩ := I.list hq
    have hlen := r'.length
    refine call_tuple_list pl.isList (fun h' kp => ?_) (by simp only [List.size_toArray] <;> omega)
    have I1 : Inv X pins σ H { s with heap := h' } := I.kept (t' := s.toks) kp
    exact newT_at (t' := s.toks) I1 r' hz q
  · obtain ⟨its, r', pl, hz⟩ := I.tuple hq
    exact call_tuple_same pl ⟨.ref p, H, I, rfl, q⟩
def tTupRgB (te : L2.St → Hp → (Int → Int → Hp → Prop) → Prop) : TE := fun σ H Q => te σ H fun a b H1 => RgOk a b ∧ NewT Q H1 (rgV a b)
theorem pe_tupRgB {p pos : Pos} {te : L2.St → Hp → (Int → Int → Hp → Prop) → Prop} (hc : X.calm = true) (hg : Gl X "tuple") (hm : X.mg "tuple" = none) (he : PRg X e te) (na : starEach [e] X.env = (false, eval e X.env) :: starEach [] X.env := by rfl) : PE X (.Call (.Name "tuple" p) [e] [] pos) (tTupRgB te) := by
  refine ⟨fun pins s σ H Q I h => ?_⟩
  refine Call_ (ld_blt I hg hm boot_tuple (PyProof.Rows.callWith_type1 (args_cons (thn (he pins s σ H _ I h) fun x s1 ⟨r, a, b, t, u, v, H1, ex, hr, I1, ok, q⟩ => args_nil ?_) na) na))
  subst ex
  obtain ⟨b1, b2, b3, b4, b5⟩ := ok
  refine call_tuple_range (n := (b - a).toNat) (I1.ok.hd hc) hr (small_one b1 b2 b3 b4) (rangeSize_nat a b) b5 fun h' tk acc hk hi => ?_
  have I2 : Inv X pins σ H1 { s1 with heap := h', toks := tk } := I1.kept hk
  have := newT_at (t' := tk) I2 (vals_rg hi) (by rw [rgV_length, sizeLine_eq]; omega) q
  rwa [Array.toArray_toList] at this
end
end PV
end

section
set_option Elab.async false
set_option linter.all false
set_option maxRecDepth 100000
/-! PV2: what the values and stores of PV1 stand for in the abstract heap. -/
namespace PV
open PySem L2

theorem lim_eq : LIM = sizeLine := by rw [sizeLine_eq]; rfl

section
variable (K : PySem.W.Frag) (xa : List (Addr × Str))
mutual
/-- a value's data: each list tracked, all within the line -/
inductive Df (F : Hp) : V → D → Prop
  | non : Df F .non .none
  | bl (b : Bool) : Df F (.bl b) (.bool b)
  | int (i : Int) : Df F (.int i) (.int i)
  | str (x : Str) (h : x.length ≤ LIM) : Df F (.str x) (.str x)
  | lst {a : Addr} {vs : List V} {ds : List D} (e : F a = some (.lst vs)) (r : Dfs F vs ds) (l : ds.length ≤ LIM) : Df F (.ref a) (.list ds)
  | tup {a : Addr} {vs : List V} {ds : List D} (e : SqB K F a vs) (r : Dfs F vs ds) (l : ds.length ≤ LIM) : Df F (.ref a) (.tuple ds)
inductive Dfs (F : Hp) : List V → List D → Prop
  | nil : Dfs F [] []
  | cons {v : V} {vs : List V} {d : D} {ds : List D} (h : Df F v d) (t : Dfs F vs ds) : Dfs F (v :: vs) (d :: ds)
end
/-- what is seen of a value: a list may be one of its own -/
def VR (F H : Hp) (v : V) (x : D) : Prop := match x with
  | .list xs => xs.length ≤ LIM ∧ ∃ a vs, v = .ref a ∧ H a = some (.lst vs) ∧ Dfs K F vs xs
  | x => Df K F v x
def RepV (F : Hp) (ρ : List Addr) (v : V) : EV → Prop
  | .d x => Df K F v x
  | .loc n => ∃ a, v = .ref a ∧ ρ[n]? = some a
  | .exc _ fs => xa = xa ∧ ∃ x f, fs = [PyData.str x] ∧ v = .ref f ∧ PySem.W.nsIn K mainGlobals x = some (some (.ref f))
  | .ro xs => xs.length ≤ LIM ∧ ∃ a vs, v = .ref a ∧ SqL K F a vs ∧ Dfs K F vs xs
abbrev RepVs (F : Hp) (ρ : List Addr) : List V → List EV → Prop := Paired (RepV K xa F ρ)
def ObR (F : Hp) (ρ : List Addr) (H : Hp) (a : Addr) : MO → Prop
  | .lst xs => xs.length ≤ LIM ∧ ∃ vs, H a = some (.lst vs) ∧ RepVs K xa F ρ vs xs
  | .dK kvs => kvs.length ≤ LIM ∧ ∃ kw, H a = some (.dK kw) ∧ Paired (fun (p : Key × V) (q : Key × EV) => p.1 = q.1 ∧ RepV K xa F ρ p.2 q.2) kw kvs
  | .tp xs => xs.length ≤ LIM ∧ ∃ (o : Obj) (vs : List V), H a = some (.frz o (.tup vs)) ∧ o.dict = none ∧ RepVs K xa F ρ vs xs
  | .dF kvs => kvs.length ≤ LIM ∧ ∃ (o : Obj) (kw : List (Key × V)), H a = some (.frz o (.dK kw)) ∧ Paired (fun (p : Key × V) (q : Key × EV) => p.1 = q.1 ∧ RepV K xa F ρ p.2 q.2) kw kvs
def okO (n : Nat) : MO → Prop
  | .lst xs => ∀ v ∈ xs, inB n v = true
  | .tp xs => ∀ v ∈ xs, inB n v = true
  | .dK kvs => ∀ p ∈ kvs, inB n p.2 = true
  | .dF kvs => ∀ p ∈ kvs, inB n p.2 = true
structure Rep (F : Hp) (ρ : List Addr) (m : Mem) (H : Hp) : Prop where
  le : Same F H
  len : ρ.length = m.length
  ob : ∀ (n : Nat) (a : Addr) (o : MO), ρ[n]? = some a → m[n]? = some o → ObR K xa F ρ H a o
  nf : ∀ a ∈ ρ, F a = none
  nd : ρ.Nodup
  wf : ∀ (n : Nat) (o : MO), m[n]? = some o → okO n o
  tab : LamX.Tabs xa H
  nft : ∀ a ps, F a ≠ some (.tbl ps)
structure Ext (F : Hp) (ρ : List Addr) (H : Hp) (F' : Hp) (ρ' : List Addr) (H' : Hp) : Prop where
  fle : Same F F'
  pre : ∃ ζ, ρ' = ρ ++ ζ ∧ ∀ a ∈ ζ, H a = none
  frm : ∀ a o, H a = some o → a ∉ ρ → (∀ ps, o ≠ .tbl ps) → H' a = some o
  new : ∀ a o, F' a = some o → F a = none → H a = none
  kep : ∀ a, H a ≠ none → H' a ≠ none
  frz : ∀ a o u, H a = some (.frz o u) → H' a = some (.frz o u)
def RepE (F : Hp) (ρ : List Addr) (σ : St) (env : Env) : Prop :=
  σ.length = env.length ∧ ∀ (i : Nat) (v : EV), env[i]? = some (some v) → ∃ x, σ[i]? = some (some x) ∧ RepV K xa F ρ x v
end

section
variable {K : PySem.W.Frag} {xa : List (Addr × Str)} {F F' F2 : Hp} {ρ ρ' ρ2 : List Addr} {m m' : Mem} {H H' H2 : Hp}

/-- no table, no told object -/
def NT (u : HO) : Prop := (∀ ps, u ≠ .tbl ps) ∧ ∀ φ, u ≠ .ext φ
theorem tabs_upd {T : List (Addr × Str)} {H : Hp} {a : Addr} {o : HO} (t : LamX.Tabs T H) (h : ∀ u, H a = some u → NT u) : LamX.Tabs T (upd H a o) := fun p hp => by
  obtain ⟨ps, h1, h2, h3⟩ := t p hp
  have n1 : p.1 ≠ a := fun z => (h _ (z ▸ h1)).1 ps rfl
  refine ⟨ps, by rw [upd_ne n1]; exact h1, h2, fun pos cv hc => ?_⟩
  obtain ⟨c, e, hc2⟩ := h3 pos cv hc
  have n2 : c ≠ a := fun z => (h _ (z ▸ hc2)).2 _ rfl
  exact ⟨c, e, by rw [upd_ne n2]; exact hc2⟩
theorem nt_lst {xs : List V} : NT (.lst xs) := ⟨fun ps e => (by cases e), fun φ e => (by cases e)⟩
theorem nt_dK {kw : List (Key × V)} : NT (.dK kw) := ⟨fun ps e => (by cases e), fun φ e => (by cases e)⟩
theorem nt_frz {o : Obj} {u : HO} : NT (.frz o u) := ⟨fun ps e => (by cases e), fun φ e => (by cases e)⟩
theorem pair_imp {α β : Type} {P Q : α → β → Prop} : ∀ {xs : List α} {ys : List β}, Paired P xs ys → (∀ a b, P a b → Q a b) → Paired Q xs ys
  | _, _, .nil, _ => .nil
  | _, _, .cons h t, f => .cons (f _ _ h) (pair_imp t f)
theorem Same.rd {a : Addr} {u : HO} (e : Same F F') (h : Rd F a u) : Rd F' a u := by
  rcases h with h | ⟨o, h⟩
  · exact .inl (e _ _ h)
  · exact .inr ⟨o, e _ _ h⟩
theorem sqL_mono {a : Addr} {xs : List V} (e : Same F F') (h : SqL K F a xs) : SqL K F' a xs := by
  rcases h with h | h
  · exact .inl (Same.rd e h)
  · exact .inr h
theorem sqT_mono {a : Addr} {xs : List V} (e : Same F F') (h : SqT K F a xs) : SqT K F' a xs := by
  rcases h with h | h
  · exact .inl (Same.rd e h)
  · exact .inr h
mutual
theorem Df.mono (e : Same F F') : ∀ {x : D} {v : V}, Df K F v x → Df K F' v x
  | .none, _, h => by cases h; exact .non
  | .bool _, _, h => by cases h; exact .bl _
  | .int _, _, h => by cases h; exact .int _
  | .str _, _, h => by cases h with | str _ h => exact .str _ h
  | .list _, _, h => by
    cases h with
    | lst a b l => exact .lst (e _ _ a) (Dfs.mono e b) l
  | .tuple _, _, h => by
    cases h with
    | tup a b l => exact .tup (sqB_mono e a) (Dfs.mono e b) l
  | .dict _, _, h => by cases h
theorem Dfs.mono (e : Same F F') : ∀ {xs : List D} {vs : List V}, Dfs K F vs xs → Dfs K F' vs xs
  | [], _, h => by cases h; exact .nil
  | _ :: _, _, h => by
    cases h with
    | cons a b => exact .cons (Df.mono e a) (Dfs.mono e b)
end
mutual
theorem Df.dp : ∀ {x : D} {v : V}, Df K F v x → Dp K F v x
  | .none, _, h => by cases h; exact .non
  | .bool _, _, h => by cases h; exact .bl _
  | .int _, _, h => by cases h; exact .int _
  | .str _, _, h => by cases h with | str _ h => exact .str _
  | .list _, _, h => by
    cases h with
    | lst a b l => exact .lst (SqL.of a) (Dfs.dps b)
  | .tuple _, _, h => by
    cases h with
    | tup a b l => exact .tup a.t (Dfs.dps b)
  | .dict _, _, h => by cases h
theorem Dfs.dps : ∀ {xs : List D} {vs : List V}, Dfs K F vs xs → DpAll K F vs xs
  | [], _, h => by cases h; exact .nil
  | _ :: _, _, h => by
    cases h with
    | cons a b => exact .cons (Df.dp a) (Dfs.dps b)
end
theorem RepV.mono {v : V} {y : EV} (e : Same F F') (p : ∃ ζ, ρ' = ρ ++ ζ) (h : RepV K xa F ρ v y) : RepV K xa F' ρ' v y := by
  cases y with
  | d x => exact Df.mono e h
  | loc n =>
    obtain ⟨a, e1, e2⟩ := h
    obtain ⟨ζ, rfl⟩ := p
    refine ⟨a, e1, ?_⟩
    rw [List.getElem?_append_left (List.getElem?_eq_some_iff.mp e2).1]
    exact e2
  | exc c fs => exact h
  | ro xs =>
    obtain ⟨l, a, vs, e1, e2, e3⟩ := h
    exact ⟨l, a, vs, e1, sqL_mono e e2, Dfs.mono e e3⟩
theorem RepVs.mono {vs : List V} {ys : List EV} (e : Same F F') (p : ∃ ζ, ρ' = ρ ++ ζ) (h : RepVs K xa F ρ vs ys) : RepVs K xa F' ρ' vs ys := pair_imp h fun _ _ q => q.mono e p
theorem RepE.mono {σ : St} {env : Env} (e : Same F F') (p : ∃ ζ, ρ' = ρ ++ ζ) (h : RepE K xa F ρ σ env) : RepE K xa F' ρ' σ env :=
  ⟨h.1, fun i v q => let ⟨x, e1, e2⟩ := h.2 i v q; ⟨x, e1, e2.mono e p⟩⟩
theorem Ext.pre' (h : Ext F ρ H F' ρ' H') : ∃ ζ, ρ' = ρ ++ ζ := let ⟨ζ, e, _⟩ := h.pre; ⟨ζ, e⟩
theorem Ext.refl (F : Hp) (ρ : List Addr) (H : Hp) : Ext F ρ H F ρ H :=
  ⟨Same.refl F, ⟨[], by simp, by simp⟩, fun _ _ h _ _ => h, fun a o h1 h2 => (by rw [h1] at h2; cases h2), fun _ h => h, fun _ _ _ h => h⟩
theorem none_of_kep (k : ∀ a, H a ≠ none → H' a ≠ none) {a : Addr} (h : H' a = none) : H a = none := by
  cases e : H a with
  | none => rfl
  | some o => exact absurd h (k a (by rw [e]; simp))
theorem Ext.trans (a : Ext F ρ H F' ρ' H') (b : Ext F' ρ' H' F2 ρ2 H2) : Ext F ρ H F2 ρ2 H2 := by
  obtain ⟨ζ, e1, n1⟩ := a.pre
  obtain ⟨η, e2, n2⟩ := b.pre
  refine ⟨Same.trans a.fle b.fle, ⟨ζ ++ η, by rw [e2, e1, List.append_assoc], fun c hc => ?_⟩, fun c o h n nt => ?_, fun c o h1 h2 => ?_, fun c h => b.kep c (a.kep c h), fun c o u h => b.frz c o u (a.frz c o u h)⟩
  · rcases List.mem_append.mp hc with q | q
    · exact n1 c q
    · exact none_of_kep a.kep (n2 c q)
  · refine b.frm c o (a.frm c o h n nt) ?_ nt
    rw [e1]
    intro q
    rcases List.mem_append.mp q with q | q
    · exact n q
    · rw [n1 c q] at h; cases h
  · cases e : F' c with
    | some o' => exact a.new c o' e h2
    | none => exact none_of_kep a.kep (b.new c o h1 e)
theorem RepV.ext {v : V} {y : EV} (e : Ext F ρ H F' ρ' H') (h : RepV K xa F ρ v y) : RepV K xa F' ρ' v y := h.mono e.fle e.pre'
theorem RepVs.ext {vs : List V} {ys : List EV} (e : Ext F ρ H F' ρ' H') (h : RepVs K xa F ρ vs ys) : RepVs K xa F' ρ' vs ys := RepVs.mono e.fle e.pre' h
theorem RepE.ext {σ : St} {env : Env} (e : Ext F ρ H F' ρ' H') (h : RepE K xa F ρ σ env) : RepE K xa F' ρ' σ env := h.mono e.fle e.pre'
theorem ObR.mono {a : Addr} {o : MO} (e : Same F F') (p : ∃ ζ, ρ' = ρ ++ ζ) (hs : ∀ u, H a = some u → H' a = some u) (h : ObR K xa F ρ H a o) : ObR K xa F' ρ' H' a o := by
  cases o with
  | lst xs =>
    obtain ⟨l, vs, e1, e2⟩ := h
    exact ⟨l, vs, hs _ e1, RepVs.mono e p e2⟩
  | dK kvs =>
    obtain ⟨l, kw, e1, e2⟩ := h
    exact ⟨l, kw, hs _ e1, pair_imp e2 fun _ _ q => ⟨q.1, q.2.mono e p⟩⟩
  | tp xs =>
    obtain ⟨l, ob, vs, e1, e3, e2⟩ := h
    exact ⟨l, ob, vs, hs _ e1, e3, RepVs.mono e p e2⟩
  | dF kvs =>
    obtain ⟨l, o, kw, e1, e2⟩ := h
    exact ⟨l, o, kw, hs _ e1, pair_imp e2 fun _ _ q => ⟨q.1, q.2.mono e p⟩⟩
theorem Rep.there (R : Rep K xa F ρ m H) {a : Addr} (h : a ∈ ρ) : H a ≠ none := by
  obtain ⟨n, hn, e⟩ := List.getElem_of_mem h
  have e1 : ρ[n]? = some a := by rw [List.getElem?_eq_some_iff]; exact ⟨hn, e⟩
  have hm : n < m.length := by rw [← R.len]; exact hn
  have q := R.ob n a m[n] e1 (by rw [List.getElem?_eq_some_iff]; exact ⟨hm, rfl⟩)
  cases ho : m[n] with
  | lst xs =>
    rw [ho] at q
    obtain ⟨_, vs, e2, _⟩ := q
    rw [e2]; simp
  | dK kvs =>
    rw [ho] at q
    obtain ⟨_, vs, e2, _⟩ := q
    rw [e2]; simp
  | tp xs =>
    rw [ho] at q
    obtain ⟨_, _, vs, e2, _⟩ := q
    rw [e2]; simp
  | dF xs =>
    rw [ho] at q
    obtain ⟨_, _, vs, e2, _⟩ := q
    rw [e2]; simp
/-- one's own things are no tables -/
theorem Rep.nt (R : Rep K xa F ρ m H) {n : Nat} {a : Addr} (h : ρ[n]? = some a) : ∀ u, H a = some u → NT u := fun u hu => by
  have hm : n < m.length := by rw [← R.len]; exact (List.getElem?_eq_some_iff.mp h).1
  have q := R.ob n a m[n] h (by rw [List.getElem?_eq_some_iff]; exact ⟨hm, rfl⟩)
  cases ho : m[n] with
  | lst xs =>
    rw [ho] at q
    obtain ⟨_, vs, e2, _⟩ := q
    rw [e2] at hu; cases hu; exact nt_lst
  | dK kvs =>
    rw [ho] at q
    obtain ⟨_, vs, e2, _⟩ := q
    rw [e2] at hu; cases hu; exact nt_dK
  | tp xs =>
    rw [ho] at q
    obtain ⟨_, _, vs, e2, _⟩ := q
    rw [e2] at hu; cases hu; exact nt_frz
  | dF xs =>
    rw [ho] at q
    obtain ⟨_, _, vs, e2, _⟩ := q
    rw [e2] at hu; cases hu; exact nt_frz
/-- what is new lies among the frozen things -/
theorem Rep.grow (R : Rep K xa F ρ m H) (f1 : Same F F') (f2 : Same F' H') (hh : Same H H') (hn : ∀ a o, F' a = some o → F a = none → H a = none) (ht : ∀ a ps, F' a ≠ some (.tbl ps) := by exact Rep.nft (by assumption)) : Rep K xa F' ρ m H' ∧ Ext F ρ H F' ρ H' := by
  refine ⟨⟨f2, R.len, fun n a o e1 e2 => (R.ob n a o e1 e2).mono f1 ⟨[], by simp⟩ (fun u q => hh _ _ q), fun a ha => ?_, R.nd, R.wf, R.tab.ext hh, ht⟩, ⟨f1, ⟨[], by simp, by simp⟩, fun a o q _ _ => hh _ _ q, hn, fun a q => ?_, fun a o u q => hh _ _ q⟩⟩
  · cases e : F' a with
    | none => rfl
    | some o => exact absurd (hn a o e (R.nf a ha)) (R.there ha)
  · cases e : H a with
    | none => exact absurd e q
    | some o => rw [hh a o e]; simp
/-- one new frozen object at p -/
theorem Rep.put (R : Rep K xa F ρ m H) {p : Addr} {o : HO} (hp : H p = none) (ho : ∀ ps, o ≠ .tbl ps := by intro ps z; cases z) : Rep K xa (upd F p o) ρ m (upd H p o) ∧ Ext F ρ H (upd F p o) ρ (upd H p o) := by
  have fp : F p = none := by
    cases e : F p with
    | none => rfl
    | some u => rw [R.le p u e] at hp; cases hp
  refine R.grow (fun b u e => ?_) (fun b u e => ?_) (fun b u e => ?_) (fun b u e n => ?_) (fun b ps e => ?_)
  · rw [upd_ne (ne_of_none e fp)]; exact e
  · by_cases hb : b = p
    · subst hb; rw [upd_same] at e ⊢; exact e
    · rw [upd_ne hb] at e ⊢; exact R.le b u e
  · rw [upd_ne (ne_of_none e hp)]; exact e
  · by_cases hb : b = p
    · subst hb; exact hp
    · rw [upd_ne hb, n] at e; cases e
  · by_cases hb : b = p
    · rw [hb, upd_same] at e; exact ho ps (Option.some.inj e)
    · rw [upd_ne hb] at e; exact R.nft b ps e
/-- what stands at p, tracked and not yet anyone's, becomes frozen -/
theorem Rep.freeze (R : Rep K xa F ρ m H) {p : Addr} {o : HO} (hp : H p = some o) (fp : F p = none) (hr : p ∉ ρ) (ho : ∀ ps, o ≠ .tbl ps := by intro ps z; cases z) : Rep K xa (upd F p o) ρ m H := by
  refine ⟨fun b u e => ?_, R.len, fun n a q e1 e2 => (R.ob n a q e1 e2).mono (fun b u e => ?_) ⟨[], by simp⟩ (fun _ z => z), fun a ha => ?_, R.nd, R.wf, R.tab, fun b ps e => ?_⟩
  · by_cases hb : b = p
    · subst hb; rw [upd_same] at e; cases e; exact hp
    · rw [upd_ne hb] at e; exact R.le b u e
  · rw [upd_ne (ne_of_none e fp)]; exact e
  · have : a ≠ p := fun e => hr (e ▸ ha)
    rw [upd_ne this]; exact R.nf a ha
  · by_cases hb : b = p
    · rw [hb, upd_same] at e; exact ho ps (Option.some.inj e)
    · rw [upd_ne hb] at e; exact R.nft b ps e
theorem okO_push {n : Nat} {o : MO} (hm : ∀ (k : Nat) (u : MO), m[k]? = some u → okO k u) (ho : okO m.length o) (h : (m ++ [o])[n]? = some o') : okO n o' := by
  by_cases hn : n < m.length
  · rw [List.getElem?_append_left hn] at h
    exact hm n o' h
  · rw [List.getElem?_append_right (by omega)] at h
    cases e : n - m.length with
    | zero =>
      rw [e] at h
      simp at h
      subst h
      have : n = m.length := by omega
      subst this; exact ho
    | succ k => rw [e] at h; simp at h
/-- what stands at p becomes a thing of its own -/
theorem Rep.own (R : Rep K xa F ρ m H) {p : Addr} {o : MO} (hr : p ∉ ρ) (fp : F p = none) (ob : ObR K xa F (ρ ++ [p]) H p o) (wf : okO m.length o) : Rep K xa F (ρ ++ [p]) (m ++ [o]) H := by
  refine ⟨R.le, by simp [R.len], fun n a q e1 e2 => ?_, fun a ha => ?_, ?_, fun n q e => okO_push R.wf wf e, R.tab, R.nft⟩
  · by_cases hn : n < ρ.length
    · rw [List.getElem?_append_left hn] at e1
      rw [List.getElem?_append_left (by rw [← R.len]; exact hn)] at e2
      exact (R.ob n a q e1 e2).mono (Same.refl F) ⟨_, rfl⟩ fun _ z => z
    · have h1 : n = ρ.length := by
        have := (List.getElem?_eq_some_iff.mp e1).1
        simp at this
        omega
      subst h1
      rw [List.getElem?_append_right (Nat.le_refl _)] at e1
      rw [R.len, List.getElem?_append_right (Nat.le_refl _)] at e2
      simp at e1 e2
      subst e1 e2
      exact ob
  · rcases List.mem_append.mp ha with h | h
    · exact R.nf a h
    · rw [List.mem_singleton.mp h]; exact fp
  · rw [List.nodup_append]
    exact ⟨R.nd, by simp, fun a ha b hb => by rw [List.mem_singleton.mp hb]; exact fun e => hr (e ▸ ha)⟩
theorem repV_take {k : Nat} {v : V} {y : EV} {n : Nat} (h : RepV K xa F ρ v y) (hy : inB n y = true) (hn : n ≤ k) : RepV K xa F (ρ.take k) v y := by
  cases y with
  | d x => exact h
  | loc j =>
    obtain ⟨a, e1, e2⟩ := h
    have hj : j < n := by simpa [inB] using hy
    exact ⟨a, e1, by rw [List.getElem?_take_of_lt (by omega)]; exact e2⟩
  | exc c fs => exact h
  | ro xs => exact h
/-- a call's own things are dropped -/
theorem Rep.take (R : Rep K xa F ρ m H) (k : Nat) : Rep K xa F (ρ.take k) (m.take k) H := by
  refine ⟨R.le, by simp [R.len], fun n a o e1 e2 => ?_, fun a ha => R.nf a (List.mem_of_mem_take ha), R.nd.sublist (List.take_sublist _ _), fun n o e => ?_, R.tab, R.nft⟩
  · have hk : n < k := by
      have := (List.getElem?_eq_some_iff.mp e1).1
      simp at this; omega
    rw [List.getElem?_take_of_lt hk] at e1 e2
    have w := R.wf n o e2
    have q := R.ob n a o e1 e2
    cases o with
    | lst xs =>
      obtain ⟨l, vs, e3, e4⟩ := q
      refine ⟨l, vs, e3, ?_⟩
      have w' : ∀ v ∈ xs, inB n v = true := w
      clear e2 e3 l w
      induction e4 with
      | nil => exact .nil
      | cons h t ih => exact .cons (repV_take h (w' _ List.mem_cons_self) (by omega)) (ih fun v hv => w' v (List.mem_cons_of_mem _ hv))
    | tp xs =>
      obtain ⟨l, ob, vs, e3, e5, e4⟩ := q
      refine ⟨l, ob, vs, e3, e5, ?_⟩
      have w' : ∀ v ∈ xs, inB n v = true := w
      clear e2 e3 l w
      induction e4 with
      | nil => exact .nil
      | cons h t ih => exact .cons (repV_take h (w' _ List.mem_cons_self) (by omega)) (ih fun v hv => w' v (List.mem_cons_of_mem _ hv))
    | dK kvs =>
      obtain ⟨l, vs, e3, e4⟩ := q
      refine ⟨l, vs, e3, ?_⟩
      have w' : ∀ p ∈ kvs, inB n p.2 = true := w
      clear e2 e3 l w
      induction e4 with
      | nil => exact .nil
      | cons h t ih => exact .cons ⟨h.1, repV_take h.2 (w' _ List.mem_cons_self) (by omega)⟩ (ih fun v hv => w' v (List.mem_cons_of_mem _ hv))
    | dF kvs =>
      obtain ⟨l, o5, vs, e3, e4⟩ := q
      refine ⟨l, o5, vs, e3, ?_⟩
      have w' : ∀ p ∈ kvs, inB n p.2 = true := w
      clear e2 e3 l w
      induction e4 with
      | nil => exact .nil
      | cons h t ih => exact .cons ⟨h.1, repV_take h.2 (w' _ List.mem_cons_self) (by omega)⟩ (ih fun v hv => w' v (List.mem_cons_of_mem _ hv))
  · have hk : n < k := by
      have := (List.getElem?_eq_some_iff.mp e).1
      simp at this; omega
    rw [List.getElem?_take_of_lt hk] at e
    exact R.wf n o e
theorem Ext.take (e : Ext F ρ H F' ρ' H') : Ext F ρ H F' (ρ'.take ρ.length) H' := by
  obtain ⟨ζ, e1, n1⟩ := e.pre
  refine ⟨e.fle, ⟨[], ?_, by simp⟩, e.frm, e.new, e.kep, e.frz⟩
  rw [e1, List.take_left']
  · simp
  · rfl

/-! ### views -/
theorem dfs_of : ∀ {vs : List V} {xs : List D}, RepVs K xa F ρ vs (xs.map EV.d) → Dfs K F vs xs
  | _, [], h => by cases h; exact .nil
  | _, x :: xs, h => by
    cases h with
    | cons a b => exact .cons a (dfs_of b)
theorem of_dfs : ∀ {vs : List V} {xs : List D}, Dfs K F vs xs → RepVs K xa F ρ vs (xs.map EV.d)
  | _, [], h => by cases h; exact .nil
  | _, x :: xs, h => by
    cases h with
    | cons a b => exact .cons a (of_dfs b)
theorem Dfs.len : ∀ {vs : List V} {xs : List D}, Dfs K F vs xs → vs.length = xs.length
  | _, [], h => by cases h; rfl
  | _, x :: xs, h => by
    cases h with
    | cons a b => simp [Dfs.len b]
theorem Dfs.get : ∀ {vs : List V} {xs : List D} {i : Nat} {x : D}, Dfs K F vs xs → xs[i]? = some x → ∃ v, vs[i]? = some v ∧ Df K F v x
  | _, [], i, x, h, e => by simp at e
  | _, y :: ys, 0, x, h, e => by
    cases h with
    | cons a b => simp at e; subst e; exact ⟨_, rfl, a⟩
  | _, y :: ys, i + 1, x, h, e => by
    cases h with
    | cons a b =>
      obtain ⟨v, h1, h2⟩ := Dfs.get (i := i) (x := x) b (by simpa using e)
      exact ⟨v, by simpa using h1, h2⟩
theorem Dfs.append : ∀ {vs ws : List V} {xs ys : List D}, Dfs K F vs xs → Dfs K F ws ys → Dfs K F (vs ++ ws) (xs ++ ys)
  | _, _, [], _, h, g => by cases h; exact g
  | _, _, x :: xs, _, h, g => by
    cases h with
    | cons a b => exact .cons a (Dfs.append b g)
theorem Dfs.take (n : Nat) : ∀ {vs : List V} {xs : List D}, Dfs K F vs xs → Dfs K F (vs.take n) (xs.take n) := by
  induction n with
  | zero => intro vs xs h; exact .nil
  | succ n ih =>
    intro vs xs h
    cases h with
    | nil => exact .nil
    | cons a b => exact .cons a (ih b)
theorem Dfs.drop (n : Nat) : ∀ {vs : List V} {xs : List D}, Dfs K F vs xs → Dfs K F (vs.drop n) (xs.drop n) := by
  induction n with
  | zero => intro vs xs h; exact h
  | succ n ih =>
    intro vs xs h
    cases h with
    | nil => exact .nil
    | cons a b => exact ih b
/-- what is seen of a value stands in the heap -/
theorem VR.df (R : Rep K xa F ρ m H) {v : V} {x : D} (h : VR K F H v x) : Df K H v x := by
  cases x with
  | list xs =>
    obtain ⟨l, a, vs, rfl, e, r⟩ := h
    exact .lst e (Dfs.mono R.le r) l
  | none => exact Df.mono R.le h
  | bool b => exact Df.mono R.le h
  | int b => exact Df.mono R.le h
  | str b => exact Df.mono R.le h
  | tuple b => exact Df.mono R.le h
  | dict b => exact Df.mono R.le h
theorem VR.of (R : Rep K xa F ρ m H) {v : V} {x : D} (h : Df K F v x) : VR K F H v x := by
  cases x with
  | list xs =>
    cases h with
    | lst e r l => exact ⟨l, _, _, rfl, R.le _ _ e, r⟩
  | none => exact h
  | bool b => exact h
  | int b => exact h
  | str b => exact h
  | tuple b => exact h
  | dict b => exact h
theorem view_vr (R : Rep K xa F ρ m H) {v : V} {y : EV} {x : D} (h : RepV K xa F ρ v y) (e : view m y = some x) : VR K F H v x := by
  cases y with
  | d z =>
    have e' : some z = some x := e
    cases e'
    exact VR.of R h
  | loc n =>
    obtain ⟨a, e1, e2⟩ := h
    subst e1
    unfold view at e
    simp only at e
    split at e
    · rename_i xs em
      cases ea : allD xs with
      | none => rw [ea] at e; cases e
      | some ds =>
        rw [ea] at e
        cases e
        rw [allD_eq ea] at em
        obtain ⟨l, vs, e3, e4⟩ := R.ob n a _ e2 em
        exact ⟨by simpa using l, a, vs, rfl, e3, dfs_of e4⟩
    · cases e
  | exc c fs => cases e
  | ro xs => cases e
/-- .. of the script's list, too -/
def VS (K : PySem.W.Frag) (F H : Hp) (v : V) (x : D) : Prop := VR K F H v x ∨ ∃ xs a vs, x = .list xs ∧ xs.length ≤ LIM ∧ v = .ref a ∧ SqL K F a vs ∧ Dfs K F vs xs
theorem viewR_vs (R : Rep K xa F ρ m H) {v : V} {y : EV} {x : D} (h : RepV K xa F ρ v y) (e : viewR m y = some x) : VS K F H v x := by
  cases y with
  | ro xs =>
    have e' : some (PyData.list xs) = some x := e
    cases e'
    obtain ⟨l, a, vs, e1, e2, e3⟩ := h
    exact .inr ⟨xs, a, vs, rfl, l, e1, e2, e3⟩
  | d z => exact .inl (view_vr R h e)
  | loc n => exact .inl (view_vr R h e)
  | exc c fs => exact .inl (view_vr R h e)
theorem VS.dp (R : Rep K xa F ρ m H) {v : V} {x : D} (h : VS K F H v x) : Dp K H v x := by
  rcases h with h | ⟨xs, a, vs, rfl, l, rfl, h, r⟩
  · exact (h.df R).dp
  · exact .lst (sqL_mono R.le h) (Dfs.dps (Dfs.mono R.le r))
end
end PV
end

section
set_option Elab.async false
set_option linter.all false
set_option maxRecDepth 100000
/-! PV3: operations by values do what PV1 says. -/
namespace PV
open PySem PySem.Spec PyProof.Rows L2

section
variable {X : Cx}
theorem opR_or {f : Value → Value → Sem Value} {r r' : R2} (h : OpR X f r) (h' : OpR X f r') : OpR X f (fun x y H Q => r x y H Q ∨ r' x y H Q) := by
  intro pins s σ H x y v u Q I rx ry q
  rcases q with q | q
  · exact h pins s σ H x y v u Q I rx ry q
  · exact h' pins s σ H x y v u Q I rx ry q
end

section
variable (K : PySem.W.Frag) (xa : List (Addr × Str))
/-- a result that is data, perhaps new -/
def Gives (F : Hp) (ρ : List Addr) (m : Mem) (H : Hp) (d : D) (Q : VK) : Prop := ∀ F' H' v, Ext F ρ H F' ρ H' → Rep K xa F' ρ m H' → Df K F' v d → Q v H'
end
def semO (o : O2) : Value → Value → Sem Value := match o with
  | .add => binaryOp .Add
  | .sub => binaryOp .Sub
  | .mul => binaryOp .Mult
  | .fdiv => binaryOp .FloorDiv
  | .mod => binaryOp .Mod
  | .pow => binaryOp .Pow
  | .lt => compareOp .Lt
  | .le => compareOp .LtE
  | .gt => compareOp .Gt
  | .ge => compareOp .GtE
  | .eq => compareOp .Eq
  | .ne => compareOp .NotEq
  | .inn => compareOp .In
  | .nin => compareOp .NotIn

section
variable {X : Cx} {xa : List (Addr × Str)}
theorem gives_flat {K : PySem.W.Frag} {F : Hp} {ρ : List Addr} {m : Mem} {H : Hp} {d : D} {Q : VK} {v : V} (R : Rep K xa F ρ m H) (g : Gives K xa F ρ m H d Q) (h : Df K F v d) : Q v H := g F H v (Ext.refl _ _ _) R h
theorem gives_lst {K : PySem.W.Frag} {F : Hp} {ρ : List Addr} {m : Mem} {H : Hp} {xs : List D} {Q : VK} {vs : List V} (R : Rep K xa F ρ m H) (g : Gives K xa F ρ m H (.list xs) Q) (h : Dfs K F vs xs) (l : xs.length ≤ LIM) :
    ∀ p, H p = none → Q (.ref p) (upd H p (.lst vs)) := fun p hp => by
  obtain ⟨R', E⟩ := R.put (o := .lst vs) hp
  exact g _ _ _ E R' (.lst upd_same (Dfs.mono E.fle h) l)
theorem gives_tup {K : PySem.W.Frag} {F : Hp} {ρ : List Addr} {m : Mem} {H : Hp} {xs : List D} {Q : VK} {vs : List V} (R : Rep K xa F ρ m H) (g : Gives K xa F ρ m H (.tuple xs) Q) (h : Dfs K F vs xs) (l : xs.length ≤ LIM) :
    NewT Q H vs := fun p o hp hd => by
  obtain ⟨R', E⟩ := R.put (o := .frz o (.tup vs)) hp
  exact g _ _ _ E R' (.tup (SqB.of upd_same hd) (Dfs.mono E.fle h) l)

/-- an operation does what op2 says -/
def OpOk (X : Cx) (xa : List (Addr × Str)) (o : O2) : Prop := ∃ r, OpR X (semO o) r ∧ ∀ (F : Hp) (ρ : List Addr) (m : Mem) (H : Hp) (x y : V) (a b : EV) (p q d : D) (Q : VK), Rep X.K xa F ρ m H → RepV X.K xa F ρ x a → RepV X.K xa F ρ y b →
  view2 o m a = some p → view2 o m b = some q → op2 o p q = some d → Gives X.K xa F ρ m H d Q → r x y H Q

theorem vr_int {K : PySem.W.Frag} {F H : Hp} {v : V} {i : Int} (h : VR K F H v (.int i)) : v = .int i := by
  have h : Df K F v (.int i) := h
  cases h; rfl
theorem vs_int {K : PySem.W.Frag} {F H : Hp} {v : V} {i : Int} (h : VS K F H v (.int i)) : v = .int i := by
  rcases h with h | ⟨xs, a, vs, e, _⟩
  · exact vr_int h
  · cases e
theorem vs_bool {K : PySem.W.Frag} {F H : Hp} {v : V} {i : Bool} (h : VS K F H v (.bool i)) : v = .bl i := by
  rcases h with h | ⟨xs, a, vs, e, _⟩
  · have h : Df K F v (.bool i) := h
    cases h; rfl
  · cases e
theorem vs_str {K : PySem.W.Frag} {F H : Hp} {v : V} {i : Str} (h : VS K F H v (.str i)) : v = .str i := by
  rcases h with h | ⟨xs, a, vs, e, _⟩
  · have h : Df K F v (.str i) := h
    cases h; rfl
  · cases e

/-- ints in, a flat thing out -/
theorem opOk_int {o : O2} {C : Int → Int → Prop} {g : Int → Int → V} {g' : Int → Int → D} (h : OpR X (semO o) (rI C g)) (hv : ∀ m y, view2 o m y = view m y)
    (hs : ∀ p q d, op2 o p q = some d → ∃ i j, p = .int i ∧ q = .int j ∧ C i j ∧ d = g' i j) (hg : ∀ F i j, Df X.K F (g i j) (g' i j)) : OpOk X xa o := by
  refine ⟨_, h, fun F ρ m H x y a b p q d Q R ra rb va vb e gv => ?_⟩
  obtain ⟨i, j, rfl, rfl, hc, rfl⟩ := hs p q d e
  rw [hv] at va vb
  exact ⟨i, j, vr_int (view_vr R ra va), vr_int (view_vr R rb vb), hc, gives_flat R gv (hg _ _ _)⟩
theorem opOk_int0 {o : O2} {g : Int → Int → V} {g' : Int → Int → D} (h : OpR X (semO o) (rI0 g)) (hv : ∀ m y, view2 o m y = view m y)
    (hs : ∀ p q d, op2 o p q = some d → ∃ i j, p = .int i ∧ q = .int j ∧ d = g' i j) (hg : ∀ F i j, Df X.K F (g i j) (g' i j)) : OpOk X xa o := by
  refine ⟨_, h, fun F ρ m H x y a b p q d Q R ra rb va vb e gv => ?_⟩
  obtain ⟨i, j, rfl, rfl, rfl⟩ := hs p q d e
  rw [hv] at va vb
  exact ⟨i, j, vr_int (view_vr R ra va), vr_int (view_vr R rb vb), gives_flat R gv (hg _ _ _)⟩

theorem ok_sub : OpOk X xa .sub := opOk_int0 (g := fun i j => .int (i - j)) (g' := fun i j => .int (i - j)) op_sub (fun _ _ => rfl) (fun p q d e => by
  dsimp only [op2] at e; split at e <;> first | (cases e; exact ⟨_, _, rfl, rfl, rfl⟩) | cases e) fun _ _ _ => .int _
theorem ok_lt : OpOk X xa .lt := opOk_int0 (g := fun i j => .bl (decide (i < j))) (g' := fun i j => .bool (decide (i < j))) op_lt (fun _ _ => rfl) (fun p q d e => by
  dsimp only [op2] at e; split at e <;> first | (cases e; exact ⟨_, _, rfl, rfl, rfl⟩) | cases e) fun _ _ _ => .bl _
theorem ok_le : OpOk X xa .le := opOk_int0 (g := fun i j => .bl (decide (i ≤ j))) (g' := fun i j => .bool (decide (i ≤ j))) op_le (fun _ _ => rfl) (fun p q d e => by
  dsimp only [op2] at e; split at e <;> first | (cases e; exact ⟨_, _, rfl, rfl, rfl⟩) | cases e) fun _ _ _ => .bl _
theorem ok_gt : OpOk X xa .gt := opOk_int0 (g := fun i j => .bl (decide (j < i))) (g' := fun i j => .bool (decide (j < i))) op_gt (fun _ _ => rfl) (fun p q d e => by
  dsimp only [op2] at e; split at e <;> first | (cases e; exact ⟨_, _, rfl, rfl, rfl⟩) | cases e) fun _ _ _ => .bl _
theorem ok_ge : OpOk X xa .ge := opOk_int0 (g := fun i j => .bl (decide (j ≤ i))) (g' := fun i j => .bool (decide (j ≤ i))) op_ge (fun _ _ => rfl) (fun p q d e => by
  dsimp only [op2] at e; split at e <;> first | (cases e; exact ⟨_, _, rfl, rfl, rfl⟩) | cases e) fun _ _ _ => .bl _
theorem tuple_mul1 (l : Addr) (items : Array Value) (n : Nat) (dd : Option Addr) (sl : Array (Option Value)) (u : Tok) :
    Meets (Builtin.«tuple.__mul__» ⟨[.ref l, .int 1 u], []⟩) (fun _ R s => s.heap.get? l = some { cls := .type "tuple", dict := dd, data := .seq items n, slots := sl } ∧ R (.ok (.ret (Value.ref l))) s) :=
  .of_wp fun prog w A R s h => by
    obtain ⟨hp, g, d, tk, os⟩ := s
    obtain ⟨hl, h⟩ := h
    have f1 := AutoSeq1.idx_int
    have c0 : (decide ((1 : Int) < -(2 ^ 63)) || decide ((1 : Int) ≥ 2 ^ 63)) = false := by decide
    have c1 : (items.isEmpty || (1 : Int) == 1) = true := by simp
    wp_walk using wpAny_loadPart' hl
    repeat (first
      | (refine wpAny_ite_false (decide_eq_false (by rw [c0]; exact Bool.false_ne_true)) ?_; wp_walk using wpAny_loadPart' hl)
      | (refine wpAny_ite_true (decide_eq_true (by rw [c1])) ?_; wp_walk using wpAny_loadPart' hl))
    exact ⟨_, rfl, h⟩
def rRep1 (K : PySem.W.Frag) : R2 := fun x y H Q => ∃ l xs, x = .ref l ∧ y = .int 1 ∧ SqT K H l xs ∧ Q (.ref l) H
theorem op_rep1 {X : Cx} : OpR X (binaryOp .Mult) (rRep1 X.K) := by
  intro pins s σ H x y v u Q I rx ry h
  obtain ⟨l, xs, rfl, rfl, hT, q⟩ := h
  cases rx
  obtain ⟨t, rfl⟩ := ry
  obtain ⟨its, r, ⟨⟨cls, dd, data, sl⟩, ho, hc, n, hd⟩, hs⟩ := I.tuple hT
  simp only at hc hd
  subst hc hd
  refine wpAny_binaryOp_repeat_ref (T := "tuple") (U := "int") (by decide) ⟨_, ho, rfl⟩ (fun s' => typeIs_int s' 1 t) noFill_tuple_mul F.fills_int_mul F.slot_int_rmul repeat_tuple F.slot_int_index.lookup
    (call_meets F.slot_int_rmul (typeIs_int s 1 t) F.entry_int_rmul (F.args_int_rmul_2 _ _) (int_rmul_tuple 1 t l its.toArray n dd sl)
      ⟨ho, rfl, ⟨_, ho, rfl⟩, call_meets F.slot_tuple_mul ⟨_, ho, rfl⟩ F.entry_tuple_mul (F.args_tuple_mul_2 _ _) (tuple_mul1 l its.toArray n dd sl t) ⟨ho, ?_⟩⟩)
  exact ⟨.ref l, H, I, rfl, q⟩
theorem Dfs.rep {K : PySem.W.Frag} {F : Hp} {vs : List V} {xs : List D} (h : Dfs K F vs xs) : ∀ n : Nat, Dfs K F (List.replicate n vs).flatten (List.replicate n xs).flatten
  | 0 => .nil
  | n + 1 => by
    rw [List.replicate_succ, List.replicate_succ, List.flatten_cons, List.flatten_cons]
    exact h.append (Dfs.rep h n)
theorem ok_mul : OpOk X xa .mul := by
  refine ⟨_, opR_or op_mul (opR_or op_repB (opR_or op_rep1 op_rep)), fun F ρ m H x y a b p q d Q R ra rb va vb e g => ?_⟩
  have wa := view_vr R ra (show view m a = some p from va)
  have wb := view_vr R rb (show view m b = some q from vb)
  dsimp only [op2] at e
  split at e
  · split at e
    · rename_i i j h
      cases e
      unfold mulOk at h
      simp only [Bool.or_eq_true, decide_eq_true_eq] at h
      exact .inl ⟨_, _, vr_int wa, vr_int wb, h, gives_flat R g (.int _)⟩
    · cases e
  · split at e
    · rename_i xs j h
      cases e
      simp only [Bool.and_eq_true, decide_eq_true_eq, Bool.not_eq_true'] at h
      obtain ⟨⟨⟨h1, h2⟩, h3⟩, h4⟩ := h
      have wa : Df X.K F x (.tuple xs) := wa
      rw [vr_int wb]
      cases wa with
      | tup q1 q2 l =>
        by_cases hj : j = 1
        · subst hj
          refine .inr (.inr (.inl ⟨_, _, rfl, rfl, sqT_mono R.le q1.t, gives_flat R g ?_⟩))
          have e1 : (List.replicate (1 : Int).toNat xs).flatten = xs := by simp
          rw [e1]
          exact .tup q1 q2 l
        refine .inr (.inl ⟨_, j, _, rfl, rfl, sqT_mono R.le q1.t, ?_, by omega, h3, by rw [q2.len]; exact h4, gives_tup R g (q2.rep _) ?_⟩)
        · intro z
          have := q2.len
          rw [z] at this
          have : xs = [] := List.length_eq_zero_iff.mp this.symm
          rw [this] at h1
          cases h1
        · rw [List.length_flatten, List.map_replicate, List.sum_replicate_nat]
          have a1 : j.toNat ≤ 1000 := by omega
          have a2 := Nat.mul_le_mul a1 h4
          have a3 : 1000 * 1000 ≤ LIM := by decide
          omega
    · cases e
  · split at e
    · rename_i xs j h
      cases e
      simp only [Bool.and_eq_true, decide_eq_true_eq] at h
      obtain ⟨⟨h1, h2⟩, h3⟩ := h
      obtain ⟨l1, a1, v1, rfl, k1, d1⟩ := wa
      rw [vr_int wb]
      refine .inr (.inr (.inr ⟨a1, j, v1, rfl, rfl, k1, by omega, by omega, by rw [d1.len, ← lim_eq]; exact h3, gives_lst R g (d1.rep _) ?_⟩))
      rw [List.length_flatten, List.map_replicate, List.sum_replicate_nat, Nat.mul_comm]
      exact h3
    · cases e
  · cases e
theorem ok_fdiv : OpOk X xa .fdiv := opOk_int (g := fun i j => .int (i / j)) (g' := fun i j => .int (i / j)) op_fdivW (fun _ _ => rfl) (fun p q d e => by
  dsimp only [op2] at e
  split at e
  · split at e
    · rename_i i j h
      cases e
      simp only [Bool.and_eq_true, decide_eq_true_eq] at h
      refine ⟨i, j, rfl, rfl, wide_div h.1 (b := 8000) ?_ (by decide) (by decide), rfl⟩
      have h2 := h.2
      omega
    · cases e
  · cases e) fun _ _ _ => .int _
theorem ok_mod : OpOk X xa .mod := opOk_int (g := fun i j => .int (i % j)) (g' := fun i j => .int (i % j)) op_mod (fun _ _ => rfl) (fun p q d e => by
  dsimp only [op2] at e
  split at e
  · split at e
    · rename_i i j h
      cases e
      exact ⟨i, j, rfl, rfl, h, rfl⟩
    · cases e
  · cases e) fun _ _ _ => .int _
theorem ok_pow : OpOk X xa .pow := opOk_int (g := fun i j => .int (i ^ j.toNat)) (g' := fun i j => .int (i ^ j.toNat)) op_pow (fun _ _ => rfl) (fun p q d e => by
  dsimp only [op2] at e
  split at e
  · split at e
    · rename_i i j h
      cases e
      simp only [Bool.and_eq_true, decide_eq_true_eq] at h
      exact ⟨i, j, rfl, rfl, ⟨h.1.1, by have := h.1.2; omega, h.2⟩, rfl⟩
    · cases e
  · cases e) fun _ _ _ => .int _
theorem ok_add : OpOk X xa .add := by
  refine ⟨_, opR_or op_add (opR_or op_cat op_catB), fun F ρ m H x y a b p q d Q R ra rb va vb e g => ?_⟩
  have wa := view_vr R ra (show view m a = some p from va)
  have wb := view_vr R rb (show view m b = some q from vb)
  dsimp only [op2] at e
  split at e
  · cases e
    exact .inl ⟨_, _, vr_int wa, vr_int wb, gives_flat R g (.int _)⟩
  · split at e
    · rename_i xs ys h
      cases e
      obtain ⟨l1, a1, v1, rfl, h1, d1⟩ := wa
      obtain ⟨l2, a2, v2, rfl, h2, d2⟩ := wb
      refine .inr (.inl ⟨a1, a2, v1, v2, rfl, rfl, h1, h2, by rw [d1.len, d2.len, ← lim_eq]; exact h, ?_⟩)
      exact gives_lst R g (d1.append d2) (by simpa using h)
    · cases e
  · split at e
    · rename_i xs ys h
      cases e
      have wa : Df X.K F x (.tuple xs) := wa
      have wb : Df X.K F y (.tuple ys) := wb
      cases wa with
      | tup s1 d1 l1 =>
      cases wb with
      | tup s2 d2 l2 =>
      refine .inr (.inr ⟨_, _, _, _, rfl, rfl, sqT_mono R.le s1.t, sqT_mono R.le s2.t, by rw [d1.len, d2.len, ← lim_eq]; exact h, fun e1 => ?_, fun n1 e2 => ?_, fun n1 n2 => ?_⟩)
      · subst e1
        have : xs = [] := by cases d1; rfl
        subst this
        exact gives_flat R g (by rw [List.nil_append]; exact .tup s2 d2 l2)
      · subst e2
        have : ys = [] := by cases d2; rfl
        subst this
        exact gives_flat R g (by rw [List.append_nil]; exact .tup s1 d1 l1)
      · exact gives_tup R g (d1.append d2) (by simpa using h)
    · cases e
  · cases e
theorem shaped_ok {a b : D} {k : Bool} (h : (if (SeqAt.shaped a && SeqAt.shaped b) = true then some (PyData.eqv a b) else none) = some k) : SeqAt.shaped a = true ∧ SeqAt.shaped b = true ∧ PyData.eqv a b = k := by
  split at h
  · rename_i q
    cases h
    rw [Bool.and_eq_true] at q
    exact ⟨q.1, q.2, rfl⟩
  · cases h
theorem eqD_cases {K : PySem.W.Frag} {F H : Hp} {ρ : List Addr} {m : Mem} (R : Rep K xa F ρ m H) {x y : V} {a b : D} {k : Bool} (h : eqD a b = some k) (wa : VS K F H x a) (wb : VS K F H y b) :
    (scal x y = true ∧ decide (x = y) = k) ∨ (Dp K H x a ∧ Dp K H y b ∧ SeqAt.shaped a = true ∧ SeqAt.shaped b = true ∧ PyData.eqv a b = k) := by
  unfold eqD at h
  split at h
  · cases h
    rw [vs_int wa, vs_int wb]
    refine .inl ⟨rfl, ?_⟩
    simp
  · cases h
    rw [vs_str wa, vs_str wb]
    refine .inl ⟨rfl, ?_⟩
    simp
  · cases h
    rw [vs_bool wa, vs_bool wb]
    refine .inl ⟨rfl, ?_⟩
    simp
  · obtain ⟨s1, s2, e⟩ := shaped_ok h
    exact .inr ⟨wa.dp R, wb.dp R, s1, s2, e⟩
theorem ok_eq (hu : X.A.units + 64 < cLine) : OpOk X xa .eq := by
  refine ⟨_, opR_or op_eq (op_eqD hu), fun F ρ m H x y a b p q d Q R ra rb va vb e g => ?_⟩
  have wa := viewR_vs R ra (show viewR m a = some p from va)
  have wb := viewR_vs R rb (show viewR m b = some q from vb)
  have e : (eqD p q).map PyData.bool = some d := e
  cases h : eqD p q with
  | none => rw [h] at e; cases e
  | some k =>
    rw [h] at e
    cases e
    rcases eqD_cases R h wa wb with ⟨h1, h2⟩ | ⟨h1, h2, h3, h4, h5⟩
    · refine .inl ⟨h1, ?_⟩
      rw [h2]
      exact gives_flat R g (.bl _)
    · refine .inr ⟨p, q, h1, h2, h3, h4, ?_⟩
      rw [h5]
      exact gives_flat R g (.bl _)
theorem ok_ne (hu : X.A.units + 64 < cLine) : OpOk X xa .ne := by
  refine ⟨_, opR_or op_ne (op_neD hu), fun F ρ m H x y a b p q d Q R ra rb va vb e g => ?_⟩
  have wa := viewR_vs R ra (show viewR m a = some p from va)
  have wb := viewR_vs R rb (show viewR m b = some q from vb)
  have e : (eqD p q).map (fun k => PyData.bool (!k)) = some d := e
  cases h : eqD p q with
  | none => rw [h] at e; cases e
  | some k =>
    rw [h] at e
    cases e
    rcases eqD_cases R h wa wb with ⟨h1, h2⟩ | ⟨h1, h2, h3, h4, h5⟩
    · refine .inl ⟨h1, ?_⟩
      rw [h2]
      exact gives_flat R g (.bl _)
    · refine .inr ⟨p, q, h1, h2, h3, h4, ?_⟩
      rw [h5]
      exact gives_flat R g (.bl _)
theorem inD_ok {a : D} {xs : List D} {k : Bool} (h : inD a xs = some k) : SeqAt.shaped a = true ∧ SeqAt.shaped (.list xs) = true ∧ (xs.any fun z => PyData.eqv z a) = k := by
  unfold inD at h
  split at h
  · rename_i q
    cases h
    rw [Bool.and_eq_true] at q
    exact ⟨q.1, q.2, rfl⟩
  · cases h
def rInT (K : PySem.W.Frag) (neg : Bool) : R2 := fun x y H Q => ∃ d ds, Dp K H x d ∧ Dp K H y (.tuple ds) ∧ SeqAt.shaped d = true ∧ SeqAt.shaped (.tuple ds) = true ∧ Q (.bl (if neg then !(ds.any fun z => PyData.eqv z d) else ds.any fun z => PyData.eqv z d)) H
theorem op_inT (hu : X.A.units + 65 < cLine) : OpR X (compareOp .In) (rInT X.K false) := by
  intro pins s σ H x y v u Q I rx ry h
  obtain ⟨d, ds, hd, he, sd, se, q⟩ := h
  obtain ⟨as, r1⟩ := Dp.reads I d x v hd rx
  obtain ⟨bs, r2⟩ := Dp.reads I (.tuple ds) y u he ry
  exact SeqAt.in_tuple_reads r2 r1 (SeqAt.canLay_of_shaped se) (SeqAt.canLay_of_shaped sd) (room_in_shaped sd hu) ⟨.bl _, H, I, rfl, q⟩
theorem op_ninT (hu : X.A.units + 65 < cLine) : OpR X (compareOp .NotIn) (rInT X.K true) := by
  intro pins s σ H x y v u Q I rx ry h
  obtain ⟨d, ds, hd, he, sd, se, q⟩ := h
  obtain ⟨as, r1⟩ := Dp.reads I d x v hd rx
  obtain ⟨bs, r2⟩ := Dp.reads I (.tuple ds) y u he ry
  exact SeqAt.notIn_tuple_reads r2 r1 (SeqAt.canLay_of_shaped se) (SeqAt.canLay_of_shaped sd) (room_in_shaped sd hu) ⟨.bl _, H, I, rfl, q⟩
def rInK (neg : Bool) : R2 := fun x y H Q => ∃ a o, y = .ref a ∧ DGet H a x o ∧ Q (.bl (if neg then !o.isSome else o.isSome)) H
theorem op_inK (hu : X.A.units + 1 < cLine) : OpR X (compareOp .In) (rInK false) := by
  intro pins s σ H x y v u Q I rx ry h
  obtain ⟨a, o, rfl, g, q⟩ := h
  cases ry
  exact d_in hu I g rx fun s3 I3 => ⟨.bl o.isSome, H, I3, rfl, q⟩
theorem op_ninK (hu : X.A.units + 1 < cLine) : OpR X (compareOp .NotIn) (rInK true) := by
  intro pins s σ H x y v u Q I rx ry h
  obtain ⟨a, o, rfl, g, q⟩ := h
  cases ry
  exact d_notIn hu I g rx fun s3 I3 => ⟨.bl (!o.isSome), H, I3, rfl, q⟩
theorem viewD_of {m : Mem} {y : EV} {p : D} (h : viewD m y = some p) : view m y = some p ∨ ∃ n kvs, y = .loc n ∧ m[n]? = some (.dK kvs) ∧ p = .dict (kvs.map fun q => (kD q.1, .none)) := by
  cases y with
  | loc n =>
    unfold viewD at h
    simp only at h
    split at h
    · rename_i kvs e
      cases h
      exact .inr ⟨n, kvs, rfl, e, rfl⟩
    · exact .inl h
  | d x => exact .inl h
  | exc _ _ => exact .inl h
  | ro _ => exact .inl h
theorem view_nodict {K : PySem.W.Frag} {F H : Hp} {ρ : List Addr} {m : Mem} (R : Rep K xa F ρ m H) {v : V} {y : EV} {kvs : List (D × D)} (h : RepV K xa F ρ v y) (e : view m y = some (.dict kvs)) : False := by
  have w : Df K F v (.dict kvs) := view_vr R h e
  cases w
theorem kv_some {K : PySem.W.Frag} {F : Hp} {ρ : List Addr} {k : Key} : ∀ {kw : List (Key × V)} {kvs : List (Key × EV)}, Paired (fun (p : Key × V) (q : Key × EV) => p.1 = q.1 ∧ RepV K xa F ρ p.2 q.2) kw kvs → (valV kw k).isSome = kvs.any fun q => decide (q.1 = k)
  | _, _, .nil => rfl
  | _, _, .cons (a := p) (b := q) (l₂ := r) h t => by
    by_cases hk : q.1 = k
    · rw [valV_pos (h.1.trans hk)]
      simp [hk]
    · rw [valV_neg (fun z => hk (h.1.symm.trans z)), kv_some t]
      simp [hk]
theorem keyD_df' {K : PySem.W.Frag} {F : Hp} {v : V} {i : D} {k : Key} (h : Df K F v i) (e : keyD i = some k) : v = kV k := by
  cases i with
  | int i =>
    cases e
    cases h
    rfl
  | str i =>
    cases e
    cases h
    rfl
  | none => cases e
  | bool b => cases e
  | list b => cases e
  | tuple b => cases e
  | dict b => cases e
theorem keyD_kD (k k' : Key) : keyD (kD k) = some k' ↔ k = k' := by
  cases k with
  | inl i => exact ⟨fun h => (by cases h; rfl), fun h => (by subst h; rfl)⟩
  | inr i => exact ⟨fun h => (by cases h; rfl), fun h => (by subst h; rfl)⟩
theorem innD_ok {a b : D} {k : Bool} (h : innD a b = some k) : isDD a = false ∧ ((∃ xs, b = .list xs ∧ SeqAt.shaped a = true ∧ SeqAt.shaped (.list xs) = true ∧ (xs.any fun z => PyData.eqv z a) = k) ∨ (∃ xs, b = .tuple xs ∧ SeqAt.shaped a = true ∧ SeqAt.shaped (.tuple xs) = true ∧ (xs.any fun z => PyData.eqv z a) = k) ∨
    ∃ kvs kk, b = .dict kvs ∧ keyD a = some kk ∧ (kvs.any fun p => decide (keyD p.1 = some kk)) = k) := by
  unfold innD at h
  split at h
  · cases h
  · rename_i hd
    refine ⟨by simpa using hd, ?_⟩
    split at h
    · rename_i xs
      obtain ⟨h1, h2, h3⟩ := inD_ok h
      exact .inl ⟨xs, rfl, h1, h2, h3⟩
    · rename_i xs
      unfold inDT at h
      split at h
      · rename_i q
        cases h
        rw [Bool.and_eq_true] at q
        exact .inr (.inl ⟨xs, rfl, q.1, q.2, rfl⟩)
      · cases h
    · rename_i kvs
      obtain ⟨kk, e1, e2⟩ := map_some h
      exact .inr (.inr ⟨kvs, kk, rfl, e1, e2⟩)
    · cases h
theorem inn_cases {K : PySem.W.Frag} {F H : Hp} {ρ : List Addr} {m : Mem} {x y : V} {a b : EV} {p q : D} {k : Bool} (R : Rep K xa F ρ m H) (ra : RepV K xa F ρ x a) (rb : RepV K xa F ρ y b) (va : viewD m a = some p) (vb : viewD m b = some q) (h : innD p q = some k) :
    (∃ d xs, Dp K H x d ∧ Dp K H y (.list xs) ∧ SeqAt.shaped d = true ∧ SeqAt.shaped (.list xs) = true ∧ (xs.any fun z => PyData.eqv z d) = k) ∨ (∃ d xs, Dp K H x d ∧ Dp K H y (.tuple xs) ∧ SeqAt.shaped d = true ∧ SeqAt.shaped (.tuple xs) = true ∧ (xs.any fun z => PyData.eqv z d) = k) ∨
    ∃ ad o, y = .ref ad ∧ DGet H ad x o ∧ o.isSome = k := by
  obtain ⟨hd, h⟩ := innD_ok h
  have va : view m a = some p := by
    rcases viewD_of va with h | ⟨n, kvs, _, _, rfl⟩
    · exact h
    · cases hd
  have wa := view_vr R ra va
  have dy : ∀ {z : D}, isDD z = false → q = z → VR K F H y z := by
    intro z hz e
    subst e
    rcases viewD_of vb with h | ⟨n, kvs, _, _, rfl⟩
    · exact view_vr R rb h
    · cases hz
  rcases h with ⟨xs, e, h1, h2, h3⟩ | ⟨xs, e, h1, h2, h3⟩ | ⟨kvs, kk, e, h1, h2⟩
  · exact .inl ⟨p, xs, (wa.df R).dp, ((dy rfl e).df R).dp, h1, h2, h3⟩
  · exact .inr (.inl ⟨p, xs, (wa.df R).dp, ((dy rfl e).df R).dp, h1, h2, h3⟩)
  · subst e
    rcases viewD_of vb with h | ⟨n, kws, rfl, em, eq⟩
    · exact (view_nodict R rb h).elim
    · obtain ⟨ad, rfl, hρ⟩ := rb
      obtain ⟨l, kw, g1, g2⟩ := R.ob n ad _ hρ em
      cases eq
      have hx : x = kV kk := by
        have : Df K F x p := by
          cases p with
          | int i => exact wa
          | str i => exact wa
          | _ => cases h1
        exact keyD_df' this h1
      subst hx
      refine .inr (.inr ⟨ad, _, rfl, DGet.k g1, ?_⟩)
      rw [kv_some g2, ← h2, List.any_map]
      congr 1
      funext z
      show decide (z.1 = kk) = decide (keyD (kD z.1) = some kk)
      rw [decide_eq_decide]
      exact (keyD_kD z.1 kk).symm
theorem ok_in (hu : X.A.units + 65 < cLine) : OpOk X xa .inn := by
  refine ⟨_, opR_or (op_inD hu) (opR_or (op_inT hu) (op_inK (by omega))), fun F ρ m H x y a b p q d Q R ra rb va vb e g => ?_⟩
  have e : (innD p q).map PyData.bool = some d := e
  obtain ⟨k, h, rfl⟩ := map_some e
  rcases inn_cases R ra rb va vb h with ⟨d, xs, h1, h2, h3, h4, h5⟩ | ⟨d, xs, h1, h2, h3, h4, h5⟩ | ⟨ad, o, h1, h2, h3⟩
  · refine .inl ⟨d, xs, h1, h2, h3, h4, ?_⟩
    rw [h5]
    exact gives_flat R g (.bl _)
  · refine .inr (.inl ⟨d, xs, h1, h2, h3, h4, ?_⟩)
    rw [h5]
    exact gives_flat R g (.bl _)
  · refine .inr (.inr ⟨ad, o, h1, h2, ?_⟩)
    rw [h3]
    exact gives_flat R g (.bl _)
theorem ok_nin (hu : X.A.units + 65 < cLine) : OpOk X xa .nin := by
  refine ⟨_, opR_or (op_notInD hu) (opR_or (op_ninT hu) (op_ninK (by omega))), fun F ρ m H x y a b p q d Q R ra rb va vb e g => ?_⟩
  have e : (innD p q).map (fun k => PyData.bool (!k)) = some d := e
  obtain ⟨k, h, rfl⟩ := map_some e
  rcases inn_cases R ra rb va vb h with ⟨d, xs, h1, h2, h3, h4, h5⟩ | ⟨d, xs, h1, h2, h3, h4, h5⟩ | ⟨ad, o, h1, h2, h3⟩
  · refine .inl ⟨d, xs, h1, h2, h3, h4, ?_⟩
    rw [h5]
    exact gives_flat R g (.bl _)
  · refine .inr (.inl ⟨d, xs, h1, h2, h3, h4, ?_⟩)
    rw [h5]
    exact gives_flat R g (.bl _)
  · refine .inr (.inr ⟨ad, o, h1, h2, ?_⟩)
    rw [h3]
    exact gives_flat R g (.bl _)
theorem ok_op2 (hu : X.A.units + 65 < cLine) : ∀ o, OpOk X xa o
  | .add => ok_add
  | .sub => ok_sub
  | .mul => ok_mul
  | .fdiv => ok_fdiv
  | .mod => ok_mod
  | .pow => ok_pow
  | .lt => ok_lt
  | .le => ok_le
  | .gt => ok_gt
  | .ge => ok_ge
  | .eq => ok_eq (by omega)
  | .ne => ok_ne (by omega)
  | .inn => ok_in hu
  | .nin => ok_nin hu
end
end PV
end

section
set_option Elab.async false
set_option linter.all false
set_option maxRecDepth 100000
/-! PV4: built-in calls of one argument. -/
namespace PySem
section
variable {prog : Program} {w : World} {A : Around} {E : Value → Shared → Prop} {s : Shared} {l : Addr} {xs : Array (Int × Tok)}
theorem pv_sum_tup {Q : Value → Shared → Prop} (hh : A.handled = none) (hl : s.heap.IsTuple l (intItems xs))
    (h : ∀ h' tk t', (∀ b o, s.heap.get? b = some o → h'.get? b = some o) → Q (.int (preSum (numAt xs) xs.size) t') { s with heap := h', toks := tk }) :
    wpAny (model prog w) A (call (.builtin "sum") [.ref l]) Q E s := by
  have hlt : l < s.heap.objs.size := by obtain ⟨_, e, _⟩ := hl; exact Heap.lt_size e
  refine call_sum_walkG (wpAny_pyIter_tuple hl ?_)
  refine ⟨_, _, _, _, _, _, numAt xs, rfl, Walks.tuple (A := A.in1) hh _ l (Nat.ne_of_lt hlt) (intItems xs), ⟨⟨_, Heap.get?_push_size _ rfl, rfl, rfl⟩, hl.push _⟩, fun b hb => ?_, (fun _ _ => intItems_at), fun h' tk t' hk => ?_⟩
  · show b < (s.heap.push _).objs.size
    rw [Heap.size_push]
    rcases List.mem_cons.mp hb with rfl | hb
    · exact Nat.lt_succ_self _
    · rcases List.mem_cons.mp hb with rfl | hb
      · exact Nat.lt_succ_of_lt hlt
      · exact absurd hb (by simp)
  · have q := h h' tk t' fun b o e => hk b o (fun z => by
      have : b < s.heap.objs.size := Heap.lt_size e
      rw [List.mem_singleton.mp z] at this
      exact absurd this (Nat.lt_irrefl _)) (Heap.get?_push_of_some _ e)
    have hz : (intItems xs).size = xs.size := by simp [intItems]
    rw [hz]
    exact q
end
end PySem
namespace PV
open PySem PySem.Spec PyProof.Rows L2

theorem dfs_ints {K : PySem.W.Frag} {F : Hp} : ∀ {xs : List D} {is : List Int} {vs : List V}, Dfs K F vs xs → intsD xs = some is → vs = is.map V.int ∧ xs = is.map PyData.int
  | [], _, _, h, e => by
    cases h
    have e : some ([] : List Int) = some _ := e
    cases e
    exact ⟨rfl, rfl⟩
  | .int i :: r, _, _, h, e => by
    cases h with
    | cons a b =>
      unfold intsD at e
      split at e
      · rename_i ks q
        cases e
        obtain ⟨h1, h2⟩ := dfs_ints b q
        cases a
        rw [h1, h2]
        exact ⟨rfl, rfl⟩
      · cases e
  | .none :: _, _, _, _, e => by cases e
  | .bool _ :: _, _, _, _, e => by cases e
  | .str _ :: _, _, _, _, e => by cases e
  | .list _ :: _, _, _, _, e => by cases e
  | .tuple _ :: _, _, _, _, e => by cases e
  | .dict _ :: _, _, _, _, e => by cases e
theorem ints_of_map : ∀ {is : List Int} {its : List Value}, Vals (is.map V.int) its → IntsAre its is
  | [], _, h => by cases h; exact .nil
  | i :: r, _, h => by
    cases h with
    | cons a b =>
      obtain ⟨t, rfl⟩ := a
      exact .cons _ _ (ints_of_map b)
theorem reads_ints {h : Heap} : ∀ {is : List Int} {its : List Value}, IntsAre its is → ∃ as, ReadsAll h its (is.map PyData.int) as
  | _, _, .nil => ⟨_, .nil⟩
  | _, _, .cons i t r => by
    obtain ⟨as, q⟩ := reads_ints (h := h) r
    exact ⟨_, .cons (.int i t) q⟩
theorem reads_int {h : Heap} {v : Value} {i : Int} {as : List Addr} (r : Reads h v (.int i) as) : ∃ t, v = .int i t := by
  cases r
  exact ⟨_, rfl⟩
theorem alike_of_ints (is : List Int) : PySem.W.AlikeAll (is.map PyData.int) := by
  refine ⟨fun x hx y hy => ?_, fun x hx => ?_⟩
  · obtain ⟨i, _, rfl⟩ := List.mem_map.mp hx
    obtain ⟨j, _, rfl⟩ := List.mem_map.mp hy
    rfl
  · obtain ⟨i, _, rfl⟩ := List.mem_map.mp hx
    intro q; cases q

section
variable {X : Cx} {xa : List (Addr × Str)}
theorem callR_or {f : Value} {r r' : List V → Hp → VK → Prop} (h : CallR X f r) (h' : CallR X f r') : CallR X f (fun xs H Q => r xs H Q ∨ r' xs H Q) := by
  intro pins s σ H xs us Q I rx q
  rcases q with q | q
  · exact h pins s σ H xs us Q I rx q
  · exact h' pins s σ H xs us Q I rx q
/-- a list or tuple of ints at a -/
def Seq2 (K : PySem.W.Frag) (H : Hp) (a : Addr) (xs : List V) : Prop := SqL K H a xs ∨ SqT K H a xs
theorem cr_sum2 (hc : X.calm = true) : CallR X (.builtin "sum") (fun vs H Q => ∃ (a : Addr) (ns : List Int), vs = [V.ref a] ∧ Seq2 X.K H a (ns.map V.int) ∧ Q (.int ns.sum) H) := by
  intro pins s σ H vs us Q I r h
  obtain ⟨a, ns, rfl, hs, q⟩ := h
  rcases hs with hs | hs
  · exact cr_sum hc pins s σ H _ us Q I r ⟨a, ns, rfl, hs, q⟩
  · obtain ⟨its, rv, ht, _⟩ := I.tuple hs
    rw [Vals.ref1 r]
    have hi := rv.ints
    obtain ⟨ys, e⟩ := hi.allInts.items
    have hn : numsOf (intItems ys).toList = ns := by rw [← e]; exact hi.numsOf
    rw [nums_intItems] at hn
    rw [e] at ht
    refine pv_sum_tup (I.ok.hd hc) (by obtain ⟨o, h1, h2, n, h3⟩ := ht; exact ⟨o, h1, h2, n, h3⟩) fun h' tk t' hk => ?_
    refine ⟨.int _, H, I.kept hk, ⟨_, rfl⟩, ?_⟩
    rw [preSum_eq, List.take_of_length_le (by simp), hn]
    exact q
theorem max_at (hc : X.calm = true) (hu : X.A.units + 1 < cLine) : CallR X (.builtin "max") (fun vs H Q => ∃ (a : Addr) (n : Int) (ns : List Int), vs = [V.ref a] ∧ Seq2 X.K H a ((n :: ns).map V.int) ∧ Q (.int (ns.foldl max n)) H) := by
  intro pins s σ H vs us Q I r h
  obtain ⟨a, n, ns, rfl, hs, q⟩ := h
  rw [Vals.ref1 r]
  have hd : PyData.depthAll (PyData.int n :: ns.map PyData.int) = 0 := PySem.W.depth_ints (n :: ns)
  have ha : PySem.W.AlikeAll (PyData.int n :: ns.map PyData.int) := alike_of_ints (n :: ns)
  have hu' : X.A.units + 1 + PyData.depthAll (PyData.int n :: ns.map PyData.int) < cLine := by rw [hd]; exact hu
  rcases hs with hs | hs
  · obtain ⟨its, rv, hl, _⟩ := I.list hs
    obtain ⟨as, hr⟩ := reads_ints (h := s.heap) rv.ints
    refine PySem.W.max_list_data (I.ok.hd hc) hl.isList (show ReadsAll s.heap its (PyData.int n :: ns.map PyData.int) as from hr) ha hu' fun i v h' tk bs hv hb hk => ?_
    rw [PySem.W.maxD_ints] at hb
    obtain ⟨t, rfl⟩ := reads_int hb
    exact ⟨.int _, H, I.kept hk, ⟨_, rfl⟩, q⟩
  · obtain ⟨its, rv, hl, _⟩ := I.tuple hs
    obtain ⟨as, hr⟩ := reads_ints (h := s.heap) rv.ints
    refine PySem.W.max_tuple_data (I.ok.hd hc) (by obtain ⟨o, h1, h2, n, h3⟩ := hl; exact ⟨o, h1, h2, n, h3⟩) (show ReadsAll s.heap its (PyData.int n :: ns.map PyData.int) as from hr) ha hu' fun i v h' tk bs hv hb hk => ?_
    rw [PySem.W.maxD_ints] at hb
    obtain ⟨t, rfl⟩ := reads_int hb
    exact ⟨.int _, H, I.kept hk, ⟨_, rfl⟩, q⟩
theorem min_at (hc : X.calm = true) (hu : X.A.units + 1 < cLine) : CallR X (.builtin "min") (fun vs H Q => ∃ (a : Addr) (n : Int) (ns : List Int), vs = [V.ref a] ∧ Seq2 X.K H a ((n :: ns).map V.int) ∧ Q (.int (ns.foldl min n)) H) := by
  intro pins s σ H vs us Q I r h
  obtain ⟨a, n, ns, rfl, hs, q⟩ := h
  rw [Vals.ref1 r]
  have hd : PyData.depthAll (PyData.int n :: ns.map PyData.int) = 0 := PySem.W.depth_ints (n :: ns)
  have ha : PySem.W.AlikeAll (PyData.int n :: ns.map PyData.int) := alike_of_ints (n :: ns)
  have hu' : X.A.units + 1 + PyData.depthAll (PyData.int n :: ns.map PyData.int) < cLine := by rw [hd]; exact hu
  rcases hs with hs | hs
  · obtain ⟨its, rv, hl, _⟩ := I.list hs
    obtain ⟨as, hr⟩ := reads_ints (h := s.heap) rv.ints
    refine PySem.W.min_list_data (I.ok.hd hc) hl.isList (show ReadsAll s.heap its (PyData.int n :: ns.map PyData.int) as from hr) ha hu' fun i v h' tk bs hv hb hk => ?_
    rw [PySem.W.minD_ints] at hb
    obtain ⟨t, rfl⟩ := reads_int hb
    exact ⟨.int _, H, I.kept hk, ⟨_, rfl⟩, q⟩
  · obtain ⟨its, rv, hl, _⟩ := I.tuple hs
    obtain ⟨as, hr⟩ := reads_ints (h := s.heap) rv.ints
    refine PySem.W.min_tuple_data (I.ok.hd hc) (by obtain ⟨o, h1, h2, n, h3⟩ := hl; exact ⟨o, h1, h2, n, h3⟩) (show ReadsAll s.heap its (PyData.int n :: ns.map PyData.int) as from hr) ha hu' fun i v h' tk bs hv hb hk => ?_
    rw [PySem.W.minD_ints] at hb
    obtain ⟨t, rfl⟩ := reads_int hb
    exact ⟨.int _, H, I.kept hk, ⟨_, rfl⟩, q⟩
/-- repr of data at any depth -/
theorem repr_at (hg : X.A.guards = some []) (hu : X.A.units + 64 < cLine) : CallR X (.builtin "repr") (fun vs H Q => ∃ v d, vs = [v] ∧ Dp X.K H v d ∧ d.showable = true ∧ d.depth ≤ 60 ∧ d.canLay0 = true ∧ d.shown.length ≤ sizeLine ∧ Q (.str d.shown) H) := by
  intro pins s σ H vs us Q I r h
  obtain ⟨v, d, rfl, hd, h1, h2, h3, h4, q⟩ := h
  cases r with
  | cons rv rr =>
    cases rr
    rename_i u
    cases v with
    | ref a =>
      obtain rfl : u = Value.ref a := rv
      obtain ⟨as, hr⟩ := Dp.reads I d (.ref a) _ hd rfl
      exact repr_of_reads' hr h1 (PyData.noDict_hsm (PyData.hasDict_of_canLay d h3)) hg (by omega) (fun _ _ e => e) (fun h' u' tk hk => ⟨.str _, H, I.kept hk, ⟨_, rfl⟩, q⟩) h4
    | int i =>
      cases hd
      obtain ⟨t, rfl⟩ := rv
      exact PySem.P.repr_of_int (of_decide_eq_true h1) ⟨.str _, H, I.tok _, ⟨_, rfl⟩, q⟩
    | non =>
      cases hd
      obtain rfl : u = Value.none := rv
      exact PySem.P.repr_of_none ⟨.str _, H, I.tok _, ⟨_, rfl⟩, q⟩
    | bl b =>
      cases hd
      obtain rfl : u = Value.bool b := rv
      refine PySem.P.repr_of_bool ⟨.str _, H, I.tok _, ⟨_, rfl⟩, ?_⟩
      have e : (PyData.bool b).shown = (if b then "True" else "False" : Str) := by cases b <;> rfl
      rw [← e]
      exact q
    | str x =>
      cases hd
      obtain ⟨t, rfl⟩ := rv
      exact PySem.P.repr_of_str ⟨.str _, H, I.tok _, ⟨_, rfl⟩, q⟩ h4
    | byt x => cases hd
    | flt x => cases hd
    | ty x => cases hd

/-- a built-in of one argument does what op1 says -/
def CallOk (X : Cx) (xa : List (Addr × Str)) (f : Value) (o : O1) : Prop := ∃ r, CallR X f r ∧ ∀ (F : Hp) (ρ : List Addr) (m : Mem) (H : Hp) (x : V) (a : EV) (p d : D) (Q : VK), Rep X.K xa F ρ m H → RepV X.K xa F ρ x a →
  view1 o m a = some p → op1 o p = some d → Gives X.K xa F ρ m H d Q → r [x] H Q
/-- what is seen of a list or tuple -/
theorem vs_seq {K : PySem.W.Frag} {F H : Hp} {ρ : List Addr} {m : Mem} (R : Rep K xa F ρ m H) {v : V} {p : D} {xs : List D} (h : VS K F H v p) (e : seqD p = some xs) :
    ∃ a vs, v = .ref a ∧ Dfs K F vs xs ∧ xs.length ≤ LIM ∧ ((p = .list xs ∧ SqL K H a vs) ∨ (p = .tuple xs ∧ SqB K F a vs)) := by
  rcases h with h | ⟨ys, a, vs, rfl, l, rfl, hs, d⟩
  · cases p with
    | list ys =>
      cases e
      obtain ⟨l, a, vs, rfl, h1, h2⟩ := h
      exact ⟨a, vs, rfl, h2, l, .inl ⟨rfl, SqL.of h1⟩⟩
    | tuple ys =>
      cases e
      have h : Df K F v (.tuple xs) := h
      cases h with
      | tup h1 h2 l => exact ⟨_, _, rfl, h2, l, .inr ⟨rfl, h1⟩⟩
    | none => cases e
    | bool b => cases e
    | int b => cases e
    | str b => cases e
    | dict b => cases e
  · cases e
    exact ⟨a, vs, rfl, d, l, .inl ⟨rfl, sqL_mono R.le hs⟩⟩
theorem view1_vs {K : PySem.W.Frag} {F H : Hp} {ρ : List Addr} {m : Mem} (R : Rep K xa F ρ m H) {v : V} {a : EV} {p : D} (o : O1) (h : RepV K xa F ρ v a) (e : view1 o m a = some p) : VS K F H v p := by
  have n : view m a = some p → VS K F H v p := fun e => .inl (view_vr R h e)
  cases o <;> first | exact viewR_vs R h e | exact n e
theorem seq2_of {K : PySem.W.Frag} {F H : Hp} {ρ : List Addr} {m : Mem} (R : Rep K xa F ρ m H) {a : Addr} {vs : List V} {p : D} {xs : List D} (h : (p = .list xs ∧ SqL K H a vs) ∨ (p = .tuple xs ∧ SqB K F a vs)) : Seq2 K H a vs := by
  rcases h with ⟨_, h⟩ | ⟨_, h⟩
  · exact .inl h
  · exact .inr (sqT_mono R.le h.t)
theorem bind_some' {α β : Type} {f : α → Option β} {o : Option α} {b : β} (h : o.bind f = some b) : ∃ a, o = some a ∧ f a = some b := by
  cases o with
  | none => cases h
  | some a => exact ⟨a, rfl, h⟩
theorem c_len : CallOk X xa (.builtin "len") .len := by
  refine ⟨_, call_len_seq, fun F ρ m H x a p d Q R ra va e g => ?_⟩
  obtain ⟨xs, e1, rfl⟩ := map_some e
  obtain ⟨b, vs, rfl, h1, l, h2⟩ := vs_seq R (view1_vs R .len ra va) e1
  refine ⟨b, vs, rfl, seq2_of R h2, ?_⟩
  rw [h1.len]
  exact gives_flat R g (.int _)
theorem c_tuple : CallOk X xa (.type "tuple") .tuple := by
  refine ⟨_, call_tupleB, fun F ρ m H x a p d Q R ra va e g => ?_⟩
  obtain ⟨xs, e1, rfl⟩ := map_some e
  obtain ⟨b, vs, rfl, h1, l, h2⟩ := vs_seq R (view1_vs R .tuple ra va) e1
  refine ⟨b, vs, rfl, ?_⟩
  rcases h2 with ⟨_, h⟩ | ⟨_, h⟩
  · exact .inl ⟨h, gives_tup R g h1 l⟩
  · exact .inr ⟨sqT_mono R.le h.t, gives_flat R g (.tup h h1 l)⟩
theorem c_list : CallOk X xa (.type "list") .list := by
  refine ⟨_, call_list_of, fun F ρ m H x a p d Q R ra va e g => ?_⟩
  obtain ⟨xs, e1, rfl⟩ := map_some e
  obtain ⟨b, vs, rfl, h1, l, h2⟩ := vs_seq R (view1_vs R .list ra va) e1
  exact ⟨b, vs, rfl, seq2_of R h2, gives_lst R g h1 l⟩
theorem c_sum (hc : X.calm = true) : CallOk X xa (.builtin "sum") .sum := by
  refine ⟨_, cr_sum2 hc, fun F ρ m H x a p d Q R ra va e g => ?_⟩
  obtain ⟨is, e0, rfl⟩ := map_some e
  obtain ⟨xs, e1, e2⟩ := bind_some' e0
  obtain ⟨b, vs, rfl, h1, l, h2⟩ := vs_seq R (view1_vs R .sum ra va) e1
  obtain ⟨rfl, rfl⟩ := dfs_ints h1 e2
  exact ⟨b, is, rfl, seq2_of R h2, gives_flat R g (.int _)⟩
theorem c_max (hc : X.calm = true) (hu : X.A.units + 1 < cLine) : CallOk X xa (.builtin "max") .max := by
  refine ⟨_, max_at hc hu, fun F ρ m H x a p d Q R ra va e g => ?_⟩
  dsimp only [op1] at e
  split at e
  · rename_i i is q
    cases e
    obtain ⟨xs, e1, e2⟩ := bind_some' q
    obtain ⟨b, vs, rfl, h1, l, h2⟩ := vs_seq R (view1_vs R .max ra va) e1
    obtain ⟨rfl, rfl⟩ := dfs_ints h1 e2
    exact ⟨b, i, is, rfl, seq2_of R h2, gives_flat R g (.int _)⟩
  · cases e
theorem c_min (hc : X.calm = true) (hu : X.A.units + 1 < cLine) : CallOk X xa (.builtin "min") .min := by
  refine ⟨_, min_at hc hu, fun F ρ m H x a p d Q R ra va e g => ?_⟩
  dsimp only [op1] at e
  split at e
  · rename_i i is q
    cases e
    obtain ⟨xs, e1, e2⟩ := bind_some' q
    obtain ⟨b, vs, rfl, h1, l, h2⟩ := vs_seq R (view1_vs R .min ra va) e1
    obtain ⟨rfl, rfl⟩ := dfs_ints h1 e2
    exact ⟨b, i, is, rfl, seq2_of R h2, gives_flat R g (.int _)⟩
  · cases e
theorem c_int : CallOk X xa (.type "int") .int := by
  refine ⟨_, call_int1, fun F ρ m H x a p d Q R ra va e g => ?_⟩
  have v := view_vr R ra va
  dsimp only [op1] at e
  split at e
  · cases e
    rw [vr_int v]
    exact .inl ⟨_, rfl, gives_flat R g (.int _)⟩
  · cases e
    rw [vs_bool (.inl v)]
    exact .inr ⟨_, rfl, gives_flat R g (.int _)⟩
  · cases e
theorem c_repr (hg : X.A.guards = some []) (hu : X.A.units + 64 < cLine) : CallOk X xa (.builtin "repr") .repr := by
  refine ⟨_, repr_at hg hu, fun F ρ m H x a p d Q R ra va e g => ?_⟩
  have v := view_vr R ra va
  dsimp only [op1] at e
  split at e
  · rename_i q
    cases e
    simp only [Bool.and_eq_true, decide_eq_true_eq] at q
    obtain ⟨⟨⟨h1, h2⟩, h3⟩, h4⟩ := q
    exact ⟨_, p, rfl, (v.df R).dp, h1, h2, h3, by rw [← lim_eq]; exact h4, gives_flat R g (.str _ h4)⟩
  · cases e
end
end PV
end

section
set_option Elab.async false
set_option linter.all false
set_option maxRecDepth 100000
/-! PV5: what an expression's reading is, and the rules construct by construct. -/
namespace PV
open PySem PySem.Spec PyProof.Rows L2

section
variable (K : PySem.W.Frag) (xa : List (Addr × Str)) (ec : Nat → Addr)
/-- an exception as it flies -/
def ExR (F H : Hp) (c : Nat) (fs : List D) (cls : Value) (d : Option Addr) : Prop := cls = .ref (ec c) ∧ ((fs = [] ∧ d = none) ∨ ∃ (f : Str) (x : D) (dd : Addr) (v : V), fs = [.str f, x] ∧ d = some dd ∧ H dd = some (.xd [(f, v)]) ∧ Df K F v x ∧ PySem.W.findIn K (.ref (ec c)) f = some none)
def Post {α β : Type} (rel : Hp → List Addr → β → α → Prop) (W : XK) (F : Hp) (ρ : List Addr) (H : Hp) (r : Res α) (Q : β → Hp → Prop) : Prop := match r with
  | .ok a m' => ∀ F' ρ' H' b, Ext F ρ H F' ρ' H' → Rep K xa F' ρ' m' H' → rel F' ρ' b a → Q b H'
  | .ex c fs m' => ∀ F' ρ' H' cls d, Ext F ρ H F' ρ' H' → Rep K xa F' ρ' m' H' → ExR K ec F' H' c fs cls d → W cls d H'
  | .bad => False
end
section
variable {K : PySem.W.Frag} {xa : List (Addr × Str)} {ec : Nat → Addr} {F F1 : Hp} {ρ ρ1 : List Addr} {H H1 : Hp} {W : XK}
theorem Post.up {α β : Type} {rel : Hp → List Addr → β → α → Prop} {r : Res α} {Q : β → Hp → Prop} (h : Post K xa ec rel W F ρ H r Q) (e : Ext F ρ H F1 ρ1 H1) : Post K xa ec rel W F1 ρ1 H1 r Q := by
  cases r with
  | ok a m => exact fun F' ρ' H' b e' => h F' ρ' H' b (e.trans e')
  | ex c fs m => exact fun F' ρ' H' cls d e' => h F' ρ' H' cls d (e.trans e')
  | bad => exact h
theorem Post.weak {α β : Type} {rel : Hp → List Addr → β → α → Prop} {r : Res α} {Q Q' : β → Hp → Prop} (h : Post K xa ec rel W F ρ H r Q) (k : ∀ b H, Q b H → Q' b H) : Post K xa ec rel W F ρ H r Q' := by
  cases r with
  | ok a m => exact fun F' ρ' H' b e R q => k b H' (h F' ρ' H' b e R q)
  | ex c fs m => exact h
  | bad => exact h
theorem Post.bind {α β γ δ : Type} {rel : Hp → List Addr → β → α → Prop} {rel' : Hp → List Addr → δ → γ → Prop} {r : Res α} {f : α → Mem → Res γ} {Q : δ → Hp → Prop} {Q' : β → Hp → Prop} (h : Post K xa ec rel' W F ρ H (r.bind f) Q)
    (k : ∀ a m1 F1 ρ1 H1 b, r = .ok a m1 → Ext F ρ H F1 ρ1 H1 → Rep K xa F1 ρ1 m1 H1 → rel F1 ρ1 b a → Post K xa ec rel' W F1 ρ1 H1 (f a m1) Q → Q' b H1) : Post K xa ec rel W F ρ H r Q' := by
  cases r with
  | ok a m => exact fun F' ρ' H' b e R q => k a m F' ρ' H' b rfl e R q (Post.up (r := f a m) h e)
  | ex c fs m => exact h
  | bad => exact h
theorem Post.of {α β : Type} {rel : Hp → List Addr → β → α → Prop} {o : Option α} {m : Mem} {Q : β → Hp → Prop} (h : Post K xa ec rel W F ρ H (Res.of o m) Q) : ∃ a, o = some a ∧ Post K xa ec rel W F ρ H (.ok a m) Q := by
  cases o with
  | none => exact False.elim h
  | some a => exact ⟨a, rfl, h⟩
theorem Post.now {α β : Type} {rel : Hp → List Addr → β → α → Prop} {a : α} {b : β} {m : Mem} {Q : β → Hp → Prop} (h : Post K xa ec rel W F ρ H (.ok a m) Q) (R : Rep K xa F ρ m H) (q : rel F ρ b a) : Q b H := h F ρ H b (Ext.refl _ _ _) R q
end

section
variable (X : Cx) (xa : List (Addr × Str)) (ec : Nat → Addr) (cf : CF) (W : WX)
abbrev relV (F : Hp) (ρ : List Addr) (v : V) (y : EV) : Prop := RepV X.K xa F ρ v y
abbrev relVs (F : Hp) (ρ : List Addr) (v : List V) (y : List EV) : Prop := RepVs X.K xa F ρ v y
/-- an expression's reading -/
def tE (e : Ex) : TE := fun σ H Q => ∃ F ρ m env, Rep X.K xa F ρ m H ∧ RepE X.K xa F ρ σ env ∧ Post X.K xa ec (relV X xa) (fun c d H => W c d σ H) F ρ H (evE cf e env m) Q
def tT (e : Ex) : TT := fun σ H Q => ∃ F ρ m env, Rep X.K xa F ρ m H ∧ RepE X.K xa F ρ σ env ∧ Post X.K xa ec (fun _ _ (b b' : Bool) => b = b') (fun c d H => W c d σ H) F ρ H (evT cf e env m) Q
def tEs (es : Exs) : TA := fun σ H Q => ∃ F ρ m env, Rep X.K xa F ρ m H ∧ RepE X.K xa F ρ σ env ∧ Post X.K xa ec (relVs X xa) (fun c d H => W c d σ H) F ρ H (evEs cf es env m) Q
end

theorem pe_mono {X : Cx} {e : Expr} {t t' : TE} (h : PE X e t) (k : ∀ σ H Q, t' σ H Q → t σ H Q) : PE X e t' := ⟨fun pins s σ H Q I q => h.run pins s σ H Q I (k σ H Q q)⟩
theorem pt_mono {X : Cx} {e : Expr} {t t' : TT} (h : PT X e t) (k : ∀ σ H Q, t' σ H Q → t σ H Q) : PT X e t' := ⟨fun pins s σ H Q I q => h.run pins s σ H Q I (k σ H Q q)⟩
theorem pw_mono {X : Cx} {e : Expr} {t t' : TT} (h : PW X e t) (k : ∀ σ H Q, t' σ H Q → t σ H Q) : PW X e t' := ⟨fun wh pins s σ H Q I q => h.run wh pins s σ H Q I (k σ H Q q)⟩
theorem pa_mono {X : Cx} {e : List Expr} {t t' : TA} (h : PA X e t) (k : ∀ σ H Q, t' σ H Q → t σ H Q) : PA X e t' := ⟨fun pos pins s σ H Q I q => h.run pos pins s σ H Q I (k σ H Q q)⟩
theorem ps_mono {X : Cx} {e : Stmt} {t t' : TS} (h : PS X e t) (k : ∀ D σ H, t' D σ H → t D σ H) : PS X e t' := ⟨fun pins s σ H D I q => h.run pins s σ H D I (k D σ H q)⟩
theorem pss_mono {X : Cx} {e : List Stmt} {t t' : TS} (h : PSs X e t) (k : ∀ D σ H, t' D σ H → t D σ H) : PSs X e t' := ⟨fun pins s σ H D I q => h.run pins s σ H D I (k D σ H q)⟩

section
variable {X : Cx} {xa : List (Addr × Str)} {ec : Nat → Addr} {cf : CF} {W : WX} {a b c : Expr} {pos : Pos} {ea eb ec' : Ex}

theorem s_v {i : Nat} {x : Str} (hN : X.N[i]? = some x) (hv : Vis X.env.scope x) (hd : (x == ("__debug__" : Str)) = false) (hcd : (x == ("__classdict__" : Str)) = false) : PE X (.Name x pos) (tE X xa ec cf W (.v i)) := by
  refine pe_mono (pe_var hN hv hd hcd) fun σ H Q ⟨F, ρ, m, env, R, E, P⟩ => ?_
  obtain ⟨v, e, P1⟩ := Post.of (show Post X.K xa ec (relV X xa) _ F ρ H (Res.of (getV env i) m) Q from P)
  unfold getV at e
  split at e
  · rename_i v' he
    cases e
    obtain ⟨y, h1, h2⟩ := E.2 i v he
    exact ⟨y, h1, P1.now R h2⟩
  · cases e
theorem s_cc {e : Expr} {v : V} {x : D} (h : PE X e (tC v)) (hd : ∀ F, Df X.K F v x) : PE X e (tE X xa ec cf W (.c x)) := by
  refine pe_mono h fun σ H Q ⟨F, ρ, m, env, R, E, P⟩ => ?_
  exact Post.now (rel := relV X xa) (a := EV.d x) P R (hd F)
theorem s_op2r {r : R2} {o : O2} {F : Hp} {ρ : List Addr} {m : Mem} {H : Hp} {Q : VK} {x y : V} {v u : EV} {WE : XK}
    (hq : ∀ (F : Hp) (ρ : List Addr) (m : Mem) (H : Hp) (x y : V) (a b : EV) (p q d : D) (Q : VK), Rep X.K xa F ρ m H → RepV X.K xa F ρ x a → RepV X.K xa F ρ y b →
      view2 o m a = some p → view2 o m b = some q → op2 o p q = some d → Gives X.K xa F ρ m H d Q → r x y H Q)
    (R : Rep X.K xa F ρ m H) (rv : RepV X.K xa F ρ x v) (ru : RepV X.K xa F ρ y u)
    (P : Post X.K xa ec (relV X xa) WE F ρ H (match view2 o m v, view2 o m u with | some p, some q => Res.of ((op2 o p q).map EV.d) m | _, _ => .bad) Q) : r x y H Q := by
  split at P
  · rename_i p q e1 e2
    obtain ⟨d', e3, P1⟩ := P.of
    obtain ⟨d, e4, rfl⟩ := map_some e3
    exact hq F ρ m H x y v u p q d Q R rv ru e1 e2 e4 fun F' H' z E1 R1 h => P1 F' ρ H' z E1 R1 h
  · exact False.elim P
theorem s_bin {op : Operator} {o : O2} (hu : X.A.units + 65 < cLine) (ho : semO o = binaryOp op) (ha : PE X a (tE X xa ec cf W ea)) (hb : PE X b (tE X xa ec cf W eb)) : PE X (.BinOp a op b pos) (tE X xa ec cf W (.b2 o ea eb)) := by
  obtain ⟨r, hr, hq⟩ := ok_op2 (xa := xa) hu o
  rw [ho] at hr
  refine pe_mono (pe_op hr ha hb) fun σ H Q ⟨F, ρ, m, env, R, E, P⟩ => ?_
  refine ⟨F, ρ, m, env, R, E, Post.bind (rel' := relV X xa) P fun x m1 F1 ρ1 H1 v e1 E1 R1 rv P1 => ?_⟩
  refine ⟨F1, ρ1, m1, env, R1, E.ext E1, Post.bind (rel' := relV X xa) P1 fun y m2 F2 ρ2 H2 u e2 E2 R2 ru P2 => ?_⟩
  exact s_op2r hq R2 (rv.ext E2) ru P2
theorem s_cmp {op : CmpOp} {o : O2} (hu : X.A.units + 65 < cLine) (ho : semO o = compareOp op) (hm : behindInMarks op b = false) (ha : PE X a (tE X xa ec cf W ea)) (hb : PE X b (tE X xa ec cf W eb)) : PE X (.Compare a [op] [b] pos) (tE X xa ec cf W (.b2 o ea eb)) := by
  obtain ⟨r, hr, hq⟩ := ok_op2 (xa := xa) hu o
  rw [ho] at hr
  refine pe_mono (pe_cmpR hr ha hb hm) fun σ H Q ⟨F, ρ, m, env, R, E, P⟩ => ?_
  refine ⟨F, ρ, m, env, R, E, Post.bind (rel' := relV X xa) P fun x m1 F1 ρ1 H1 v e1 E1 R1 rv P1 => ?_⟩
  refine ⟨F1, ρ1, m1, env, R1, E.ext E1, Post.bind (rel' := relV X xa) P1 fun y m2 F2 ρ2 H2 u e2 E2 R2 ru P2 => ?_⟩
  exact s_op2r hq R2 (rv.ext E2) ru P2
/-- the truth of what is seen -/
theorem tru_of {K : PySem.W.Frag} {F H : Hp} {ρ : List Addr} {m : Mem} (R : Rep K xa F ρ m H) {v : V} {y : EV} {p : D} (h : RepV K xa F ρ v y) (e : view m y = some p) : TruV K v H (truD p) := by
  have w := view_vr R h e
  cases p with
  | list xs =>
    obtain ⟨l, a, vs, rfl, h1, h2⟩ := w
    refine .inl ⟨vs, SqL.of h1, ?_⟩
    cases h2 <;> rfl
  | tuple xs =>
    have w : Df K F v (.tuple xs) := w
    cases w with
    | tup h1 h2 l =>
      refine .inr (.inl ⟨_, sqT_mono R.le h1.t, ?_⟩)
      cases h2 <;> rfl
  | none =>
    have w : Df K F v .none := w
    cases w
    rfl
  | bool b =>
    have w : Df K F v (.bool b) := w
    cases w
    rfl
  | int b =>
    have w : Df K F v (.int b) := w
    cases w
    rfl
  | str b =>
    have w : Df K F v (.str b) := w
    cases w with
    | str _ hz => exact ⟨by rw [← lim_eq]; exact hz, rfl⟩
  | dict b =>
    have w : Df K F v (.dict b) := w
    cases w
theorem truth_some {m : Mem} {y : EV} {k : Bool} (h : truth m y = some k) : ∃ p, view m y = some p ∧ truD p = k := map_some h
/-- a test of a value -/
theorem s_test (ha : PE X a (tE X xa ec cf W ea)) (he : ∀ whole, isTrue a X.env whole = (do let v ← whole; standAt a.pos; holding [v] (truthy v))) : PT X a (tT X xa ec cf W ea) := by
  refine pt_mono (pt_truth ha he) fun σ H Q ⟨F, ρ, m, env, R, E, P⟩ => ?_
  refine ⟨F, ρ, m, env, R, E, Post.bind (rel' := fun _ _ (b b' : Bool) => b = b') P fun x m1 F1 ρ1 H1 v e1 E1 R1 rv P1 => ?_⟩
  obtain ⟨k, e, P2⟩ := P1.of
  obtain ⟨p, e2, rfl⟩ := truth_some e
  exact ⟨_, tru_of R1 rv e2, P2.now R1 rfl⟩
/-- a comparison's test -/
theorem s_testB {t : TE} (ha : PT X a (tTest t)) (hk : ∀ σ H Q, tE X xa ec cf W ea σ H Q → t σ H Q) (hb : ∀ env m v m1, evE cf ea env m = .ok v m1 → ∃ k, v = .d (.bool k)) : PT X a (tT X xa ec cf W ea) := by
  refine pt_mono ha fun σ H Q ⟨F, ρ, m, env, R, E, P⟩ => hk σ H _ ?_
  refine ⟨F, ρ, m, env, R, E, Post.bind (rel' := fun _ _ (b b' : Bool) => b = b') P fun x m1 F1 ρ1 H1 v e1 E1 R1 rv P1 => ?_⟩
  obtain ⟨k, rfl⟩ := hb _ _ _ _ e1
  have rv : Df X.K F1 v (.bool k) := rv
  cases rv
  refine ⟨k, rfl, Post.now (rel := fun _ _ (b b' : Bool) => b = b') (a := k) P1 R1 rfl⟩
theorem s_neg (ha : PE X a (tE X xa ec cf W ea)) : PE X (.UnaryOp .USub a pos) (tE X xa ec cf W (.u1 .neg ea)) := by
  refine pe_mono (pe_un un_neg ha) fun σ H Q ⟨F, ρ, m, env, R, E, P⟩ => ?_
  refine ⟨F, ρ, m, env, R, E, Post.bind (rel' := relV X xa) P fun x m1 F1 ρ1 H1 v e1 E1 R1 rv P1 => ?_⟩
  split at P1
  · rename_i p e2
    obtain ⟨y, e3, P2⟩ := P1.of
    obtain ⟨d, e4, rfl⟩ := map_some e3
    dsimp only [op1] at e4
    split at e4
    · rename_i i
      cases e4
      exact ⟨i, vr_int (view_vr R1 rv e2), P2.now R1 (show Df X.K F1 _ _ from .int _)⟩
    · cases e4
  · exact False.elim P1
theorem s_not (ha : PE X a (tE X xa ec cf W ea)) : PE X (.UnaryOp .Not a pos) (tE X xa ec cf W (.u1 .not ea)) := by
  refine pe_mono (pe_notT ha) fun σ H Q ⟨F, ρ, m, env, R, E, P⟩ => ?_
  refine ⟨F, ρ, m, env, R, E, Post.bind (rel' := relV X xa) P fun x m1 F1 ρ1 H1 v e1 E1 R1 rv P1 => ?_⟩
  split at P1
  · rename_i p e2
    obtain ⟨y, e3, P2⟩ := P1.of
    obtain ⟨d, e4, rfl⟩ := map_some e3
    have e4 : some (PyData.bool (!truD p)) = some d := e4
    cases e4
    exact ⟨_, tru_of R1 rv e2, P2.now R1 (show Df X.K F1 _ _ from .bl _)⟩
  · exact False.elim P1
theorem t_not (ha : PT X a (tT X xa ec cf W ea)) : PT X (.UnaryOp .Not a pos) (tT X xa ec cf W (.u1 .not ea)) := by
  refine pt_mono (pt_not ha) fun σ H Q ⟨F, ρ, m, env, R, E, P⟩ => ?_
  refine ⟨F, ρ, m, env, R, E, ?_⟩
  have P : Post X.K xa ec (fun _ _ (b b' : Bool) => b = b') (fun c d H => W c d σ H) F ρ H ((evE cf (.u1 .not ea) env m).bind fun x m1 => Res.of (truth m1 x) m1) Q := P
  show Post X.K xa ec (fun _ _ (b b' : Bool) => b = b') (fun c d H => W c d σ H) F ρ H ((evE cf ea env m).bind fun x m1 => Res.of (truth m1 x) m1) _
  simp only [evE] at P
  cases r : evE cf ea env m with
  | bad => rw [r] at P; exact P
  | ex c fs m' => rw [r] at P; exact P
  | ok v m1 =>
    rw [r] at P
    simp only [Res.bind, view1] at P ⊢
    unfold truth
    cases e : view m1 v with
    | none => rw [e] at P; exact P
    | some p =>
      rw [e] at P
      simp only [op1, Option.map, Res.of, Res.bind, truth, view, truD] at P ⊢
      exact fun F' ρ' H' b E1 R1 h => P F' ρ' H' (!b) E1 R1 (by rw [h])
theorem s_and {rest : List Expr} (ha : PE X a (tE X xa ec cf W ea)) (hb : PE X (.BoolOp .And (b :: rest) pos) (tE X xa ec cf W eb)) : PE X (.BoolOp .And (a :: b :: rest) pos) (tE X xa ec cf W (.and ea eb)) := by
  refine pe_mono (pe_andT ha hb) fun σ H Q ⟨F, ρ, m, env, R, E, P⟩ => ?_
  refine ⟨F, ρ, m, env, R, E, Post.bind (rel' := relV X xa) P fun x m1 F1 ρ1 H1 v e1 E1 R1 rv P1 => ?_⟩
  cases e : truth m1 x with
  | none => rw [e] at P1; exact False.elim P1
  | some k =>
    rw [e] at P1
    obtain ⟨p, e2, rfl⟩ := truth_some e
    refine ⟨_, tru_of R1 rv e2, ?_⟩
    cases h : truD p with
    | true =>
      rw [h] at P1
      exact iteT ⟨F1, ρ1, m1, env, R1, E.ext E1, P1⟩
    | false =>
      rw [h] at P1
      exact iteF (Post.now (rel := relV X xa) (a := x) P1 R1 rv)
theorem s_or {rest : List Expr} (ha : PE X a (tE X xa ec cf W ea)) (hb : PE X (.BoolOp .Or (b :: rest) pos) (tE X xa ec cf W eb)) : PE X (.BoolOp .Or (a :: b :: rest) pos) (tE X xa ec cf W (.or ea eb)) := by
  refine pe_mono (pe_orT ha hb) fun σ H Q ⟨F, ρ, m, env, R, E, P⟩ => ?_
  refine ⟨F, ρ, m, env, R, E, Post.bind (rel' := relV X xa) P fun x m1 F1 ρ1 H1 v e1 E1 R1 rv P1 => ?_⟩
  cases e : truth m1 x with
  | none => rw [e] at P1; exact False.elim P1
  | some k =>
    rw [e] at P1
    obtain ⟨p, e2, rfl⟩ := truth_some e
    refine ⟨_, tru_of R1 rv e2, ?_⟩
    cases h : truD p with
    | false =>
      rw [h] at P1
      exact iteF ⟨F1, ρ1, m1, env, R1, E.ext E1, P1⟩
    | true =>
      rw [h] at P1
      exact iteT (Post.now (rel := relV X xa) (a := x) P1 R1 rv)
theorem tru_unique {m : Mem} {x : EV} {k : Bool} (h : truth m x = some k) : truth m x = some k := h
theorem w_and {rest : List Expr} (ha : PT X a (tT X xa ec cf W ea)) (hb : PW X (.BoolOp .And (b :: rest) pos) (tT X xa ec cf W eb)) : PW X (.BoolOp .And (a :: b :: rest) pos) (tT X xa ec cf W (.and ea eb)) := by
  refine pw_mono (pw_and ha hb) fun σ H Q ⟨F, ρ, m, env, R, E, P⟩ => ?_
  refine ⟨F, ρ, m, env, R, E, ?_⟩
  unfold evT at P ⊢
  simp only [evE] at P
  cases r : evE cf ea env m with
  | bad => rw [r] at P; exact P
  | ex c fs m' => rw [r] at P; exact P
  | ok v m1 =>
    rw [r] at P
    simp only [Res.bind] at P ⊢
    cases e : truth m1 v with
    | none => rw [e] at P; exact P
    | some k =>
      rw [e] at P
      cases k with
      | true =>
        refine fun F' ρ' H' k' E1 R1 h => ?_
        subst h
        exact iteT ⟨F', ρ', m1, env, R1, E.ext E1, Post.up (r := evT cf eb env m1) P E1⟩
      | false =>
        simp only [Res.bind, e, Res.of] at P ⊢
        refine fun F' ρ' H' k' E1 R1 h => ?_
        subst h
        exact iteF (P F' ρ' H' false E1 R1 rfl)
theorem w_or {rest : List Expr} (ha : PT X a (tT X xa ec cf W ea)) (hb : PW X (.BoolOp .Or (b :: rest) pos) (tT X xa ec cf W eb)) : PW X (.BoolOp .Or (a :: b :: rest) pos) (tT X xa ec cf W (.or ea eb)) := by
  refine pw_mono (pw_or ha hb) fun σ H Q ⟨F, ρ, m, env, R, E, P⟩ => ?_
  refine ⟨F, ρ, m, env, R, E, ?_⟩
  unfold evT at P ⊢
  simp only [evE] at P
  cases r : evE cf ea env m with
  | bad => rw [r] at P; exact P
  | ex c fs m' => rw [r] at P; exact P
  | ok v m1 =>
    rw [r] at P
    simp only [Res.bind] at P ⊢
    cases e : truth m1 v with
    | none => rw [e] at P; exact P
    | some k =>
      rw [e] at P
      cases k with
      | false =>
        refine fun F' ρ' H' k' E1 R1 h => ?_
        subst h
        exact iteF ⟨F', ρ', m1, env, R1, E.ext E1, Post.up (r := evT cf eb env m1) P E1⟩
      | true =>
        simp only [Res.bind, e, Res.of] at P ⊢
        refine fun F' ρ' H' k' E1 R1 h => ?_
        subst h
        exact iteT (P F' ρ' H' true E1 R1 rfl)
theorem s_ite (hc : PT X c (tT X xa ec cf W ec')) (ha : PE X a (tE X xa ec cf W ea)) (hb : PE X b (tE X xa ec cf W eb)) : PE X (.IfExp c a b pos) (tE X xa ec cf W (.ite ec' ea eb)) := by
  refine pe_mono (pe_ifExp hc ha hb) fun σ H Q ⟨F, ρ, m, env, R, E, P⟩ => ?_
  refine ⟨F, ρ, m, env, R, E, ?_⟩
  simp only [evE] at P
  unfold evT
  cases r : evE cf ec' env m with
  | bad => rw [r] at P; exact P
  | ex c fs m' => rw [r] at P; exact P
  | ok v m1 =>
    rw [r] at P
    simp only [Res.bind] at P ⊢
    cases e : truth m1 v with
    | none => rw [e] at P; exact P
    | some k =>
      rw [e] at P
      simp only [Res.of]
      cases k with
      | true =>
        refine fun F' ρ' H' k' E1 R1 h => ?_
        subst h
        exact iteT ⟨F', ρ', m1, env, R1, E.ext E1, Post.up (r := evE cf ea env m1) P E1⟩
      | false =>
        refine fun F' ρ' H' k' E1 R1 h => ?_
        subst h
        exact iteF ⟨F', ρ', m1, env, R1, E.ext E1, Post.up (r := evE cf eb env m1) P E1⟩
theorem s_isN {op : CmpOp} {o : O1} {k : Nat} {p2 : Pos} (h : (op = .Is ∧ o = .isN) ∨ (op = .IsNot ∧ o = .notN)) (ha : PE X a (tE X xa ec cf W ea)) : PE X (.Compare a [op] [.Constant .none k p2] pos) (tE X xa ec cf W (.u1 o ea)) := by
  have key : ∀ {F : Hp} {H : Hp} {v : V} {p : D}, VR X.K F H v p → decide (v = V.non) = isND p := by
    intro F H v p w
    cases p with
    | list xs =>
      obtain ⟨l, a, vs, rfl, h1, h2⟩ := w
      rfl
    | none =>
      have w : Df X.K F v .none := w
      cases w; rfl
    | bool b =>
      have w : Df X.K F v (.bool b) := w
      cases w; rfl
    | int b =>
      have w : Df X.K F v (.int b) := w
      cases w; rfl
    | str b =>
      have w : Df X.K F v (.str b) := w
      cases w; rfl
    | tuple b =>
      have w : Df X.K F v (.tuple b) := w
      cases w; rfl
    | dict b =>
      have w : Df X.K F v (.dict b) := w
      cases w
  rcases h with ⟨rfl, rfl⟩ | ⟨rfl, rfl⟩
  · refine pe_mono (pe_cmp (pc_isN ha) rfl) fun σ H Q ⟨F, ρ, m, env, R, E, P⟩ => ?_
    refine ⟨F, ρ, m, env, R, E, Post.bind (rel' := relV X xa) P fun x m1 F1 ρ1 H1 v e1 E1 R1 rv P1 => ?_⟩
    split at P1
    · rename_i p e2
      obtain ⟨y, e3, P2⟩ := P1.of
      obtain ⟨d, e4, rfl⟩ := map_some e3
      have e4 : some (PyData.bool (isND p)) = some d := e4
      cases e4
      rw [key (view_vr R1 rv e2)]
      exact P2.now R1 (show Df X.K F1 _ _ from .bl _)
    · exact False.elim P1
  · refine pe_mono (pe_cmp (pc_notN ha) rfl) fun σ H Q ⟨F, ρ, m, env, R, E, P⟩ => ?_
    refine ⟨F, ρ, m, env, R, E, Post.bind (rel' := relV X xa) P fun x m1 F1 ρ1 H1 v e1 E1 R1 rv P1 => ?_⟩
    split at P1
    · rename_i p e2
      obtain ⟨y, e3, P2⟩ := P1.of
      obtain ⟨d, e4, rfl⟩ := map_some e3
      have e4 : some (PyData.bool (!isND p)) = some d := e4
      cases e4
      rw [key (view_vr R1 rv e2)]
      exact P2.now R1 (show Df X.K F1 _ _ from .bl _)
    · exact False.elim P1
theorem s_nil : PA X [] (tEs X xa ec cf W .nil) := by
  refine pa_mono pa_nil fun σ H Q ⟨F, ρ, m, env, R, E, P⟩ => ?_
  exact Post.now (rel := relVs X xa) (a := ([] : List EV)) P R .nil
theorem s_cons {es : List Expr} {xs : Exs} (ha : PE X a (tE X xa ec cf W ea)) (hr : PA X es (tEs X xa ec cf W xs)) (hs : starEach (a :: es) X.env = (false, eval a X.env) :: starEach es X.env) : PA X (a :: es) (tEs X xa ec cf W (.cons ea xs)) := by
  refine pa_mono (pa_cons ha hr hs) fun σ H Q ⟨F, ρ, m, env, R, E, P⟩ => ?_
  refine ⟨F, ρ, m, env, R, E, Post.bind (rel' := relVs X xa) P fun x m1 F1 ρ1 H1 v e1 E1 R1 rv P1 => ?_⟩
  refine ⟨F1, ρ1, m1, env, R1, E.ext E1, Post.bind (rel' := relVs X xa) P1 fun y m2 F2 ρ2 H2 u e2 E2 R2 ru P2 => ?_⟩
  exact Post.now (rel := relVs X xa) (a := x :: y) P2 R2 (.cons (rv.ext E2) ru)
theorem evEs_len {es : Exs} : ∀ {n : Nat} {env : Env} {m : Mem} {vs : List EV} {m1 : Mem}, evEs cf es env m = .ok vs m1 → True := fun _ => trivial
theorem gives_of {F : Hp} {ρ : List Addr} {m : Mem} {H : Hp} {Q : VK} {d : D} {WE : XK} (P : Post X.K xa ec (relV X xa) WE F ρ H (.ok (.d d) m) Q) : Gives X.K xa F ρ m H d Q := fun F' H' v E R h => P F' ρ H' v E R h
theorem s_tup {es : List Expr} {xs : Exs} {k : Nat} (h : PA X es (tEs X xa ec cf W xs)) (hl : es.length ≤ 1000) (hn : ∀ env m vs m1, evEs cf xs env m = .ok vs m1 → vs.length = es.length) : PE X (.Tuple es k pos) (tE X xa ec cf W (.tup xs)) := by
  refine pe_mono (pe_tupB h) fun σ H Q ⟨F, ρ, m, env, R, E, P⟩ => ?_
  refine ⟨F, ρ, m, env, R, E, Post.bind (rel' := relV X xa) P fun x m1 F1 ρ1 H1 vs e1 E1 R1 rv P1 => ?_⟩
  have l := hn _ _ _ _ e1
  split at P1
  · rename_i ds e4
    have e5 := allD_eq e4
    subst e5
    have dd := dfs_of rv
    have l2 : ds.length ≤ LIM := by
      have : ds.length = es.length := by simpa using l
      rw [this]
      exact Nat.le_trans hl (by decide)
    exact ⟨by rw [dd.len, ← lim_eq]; exact l2, gives_tup R1 (gives_of P1) dd l2⟩
  · split at P1
    · rename_i hb
      have l3 : vs.length = x.length := Paired.length rv
      have l2 : x.length ≤ LIM := by rw [l]; exact Nat.le_trans hl (by decide)
      refine ⟨by rw [l3, ← lim_eq]; exact l2, fun p ob hp hd => ?_⟩
      have fp : F1 p = none := by
        cases e : F1 p with
        | none => rfl
        | some u => rw [R1.le p u e] at hp; cases hp
      have rp : p ∉ ρ1 := fun z => R1.there z hp
      have g := R1.grow (F' := F1) (H' := upd H1 p (.frz ob (.tup vs))) (Same.refl F1) (fun b u h => by rw [upd_ne (ne_of_none (R1.le b u h) hp)]; exact R1.le b u h) (fun b u h => by rw [upd_ne (ne_of_none h hp)]; exact h) fun b u h n => (by rw [h] at n; cases n)
      have R3 := g.1.own rp fp (o := .tp x) ⟨l2, ob, vs, upd_same, hd, RepVs.mono (Same.refl _) ⟨_, rfl⟩ rv⟩ (fun v hv => (List.all_eq_true.mp hb) v hv)
      refine P1 F1 (ρ1 ++ [p]) _ (.ref p) ⟨g.2.fle, ⟨[p], rfl, fun b hb => by rw [List.mem_singleton.mp hb]; exact hp⟩, fun b u h n nt => g.2.frm b u h n nt, g.2.new, g.2.kep, g.2.frz⟩ R3 ⟨p, rfl, ?_⟩
      rw [← R1.len, List.getElem?_append_right (Nat.le_refl _)]
      simp
    · exact False.elim P1
end
end PV
end

section
set_option Elab.async false
set_option linter.all false
set_option maxRecDepth 100000
/-! PV6: subscripts, slices, displays, calls. -/
namespace PV
open PySem PySem.Spec PyProof.Rows L2

section
variable {X : Cx} {xa : List (Addr × Str)} {ec : Nat → Addr} {cf : CF} {W : WX} {a b c : Expr} {pos : Pos} {ea eb ec' : Ex}

theorem slR_or {r r' : V → Option Int → Option Int → Hp → VK → Prop} (h : SlR X r) (h' : SlR X r') : SlR X (fun x lo hi H Q => r x lo hi H Q ∨ r' x lo hi H Q) := SlR.or h h'
theorem ix_dct (hu : X.A.units + 1 < cLine) : IxR X (fun x y H Q => ∃ a v, x = .ref a ∧ DGet H a y (some v) ∧ Q v H) := by
  intro value slice pins s σ H x y v u Q I rx ry h hs
  obtain ⟨p, z, rfl, g, q⟩ := h
  obtain rfl : v = Value.ref p := rx
  exact tail_any (dict_typeIs I g) PySem.F.slot_dict_getitem.lookup (d_getItem hu I g ry fun w' s' I' rw' => ⟨z, H, I', rw', q⟩) hs
theorem Dfs.at {K : PySem.W.Frag} {F : Hp} {vs : List V} {xs : List D} {i : Int} {x : D} (h : Dfs K F vs xs) (e : ((idx i xs.length).bind fun j => xs[j]?) = some x) : ∃ v, atI vs i = some v ∧ Df K F v x := by
  obtain ⟨j, e1, e2⟩ := bind_some' e
  obtain ⟨v, h1, h2⟩ := h.get e2
  refine ⟨v, ?_, h2⟩
  unfold atI
  rw [h.len]
  show ((idx i xs.length).bind fun j => vs[j]?) = some v
  rw [e1]
  exact h1
theorem RepVs.get {K : PySem.W.Frag} {F : Hp} {ρ : List Addr} : ∀ {vs : List V} {ys : List EV} {i : Nat} {y : EV}, RepVs K xa F ρ vs ys → ys[i]? = some y → ∃ v, vs[i]? = some v ∧ RepV K xa F ρ v y
  | _, [], i, y, h, e => by simp at e
  | _, z :: zs, 0, y, h, e => by
    cases h with
    | cons p q => simp at e; subst e; exact ⟨_, rfl, p⟩
  | _, z :: zs, i + 1, y, h, e => by
    cases h with
    | cons p q =>
      obtain ⟨v, h1, h2⟩ := RepVs.get (i := i) (y := y) q (by simpa using e)
      exact ⟨v, by simpa using h1, h2⟩
theorem RepVs.len {K : PySem.W.Frag} {F : Hp} {ρ : List Addr} {vs : List V} {ys : List EV} (h : RepVs K xa F ρ vs ys) : vs.length = ys.length := Paired.length h
theorem RepVs.at {K : PySem.W.Frag} {F : Hp} {ρ : List Addr} {vs : List V} {ys : List EV} {i : Int} {y : EV} (h : RepVs K xa F ρ vs ys) (e : ((idx i ys.length).bind fun j => ys[j]?) = some y) : ∃ v, atI vs i = some v ∧ RepV K xa F ρ v y := by
  obtain ⟨j, e1, e2⟩ := bind_some' e
  obtain ⟨v, h1, h2⟩ := h.get e2
  refine ⟨v, ?_, h2⟩
  unfold atI
  rw [h.len]
  show ((idx i ys.length).bind fun j => vs[j]?) = some v
  rw [e1]
  exact h1
theorem kv_get {K : PySem.W.Frag} {F : Hp} {ρ : List Addr} {k : Key} {y : EV} : ∀ {kw : List (Key × V)} {kvs : List (Key × EV)}, Paired (fun (p : Key × V) (q : Key × EV) => p.1 = q.1 ∧ RepV K xa F ρ p.2 q.2) kw kvs → kvGet kvs k = some y → ∃ v, valV kw k = some v ∧ RepV K xa F ρ v y
  | _, _, .nil, e => by simp [kvGet] at e
  | _, _, .cons (a := p) (b := q) (l₂ := r) h t, e => by
    by_cases hk : q.1 = k
    · have e1 : kvGet (q :: r) k = some q.2 := by simp [kvGet, List.find?_cons, hk]
      rw [e1] at e
      cases e
      exact ⟨p.2, valV_pos (h.1.trans hk), h.2⟩
    · have e1 : kvGet (q :: r) k = kvGet r k := by simp [kvGet, List.find?_cons, hk]
      rw [e1] at e
      obtain ⟨v, h1, h2⟩ := kv_get t e
      exact ⟨v, by rw [valV_neg (fun z => hk (h.1.symm.trans z))]; exact h1, h2⟩
theorem keyD_df {K : PySem.W.Frag} {F : Hp} {v : V} {i : D} {k : Key} (h : Df K F v i) (e : keyD i = some k) : v = kV k := by
  cases i with
  | int i =>
    cases e
    cases h
    rfl
  | str i =>
    cases e
    cases h
    rfl
  | none => cases e
  | bool b => cases e
  | list b => cases e
  | tuple b => cases e
  | dict b => cases e
theorem s_ix (hu : X.A.units + 65 < cLine) (hs : PlainIx b) (ha : PE X a (tE X xa ec cf W ea)) (hb : PE X b (tE X xa ec cf W eb)) : PE X (.Subscript a b pos) (tE X xa ec cf W (.ix ea eb)) := by
  refine pe_mono (pe_ix (ix_list.or (ix_tup.or (ix_dct (by omega)))) ha hb hs) fun σ H Q ⟨F, ρ, m, env, R, E, P⟩ => ?_
  refine ⟨F, ρ, m, env, R, E, Post.bind (rel' := relV X xa) P fun x m1 F1 ρ1 H1 v e1 E1 R1 rv P1 => ?_⟩
  refine ⟨F1, ρ1, m1, env, R1, E.ext E1, Post.bind (rel' := relV X xa) P1 fun y m2 F2 ρ2 H2 u e2 E2 R2 ru P2 => ?_⟩
  have rv := rv.ext E2
  split at P2
  · rename_i k
    obtain ⟨z, e3, P3⟩ := P2.of
    have ru : Df X.K F2 u k := ru
    cases x with
    | d p =>
      cases p with
      | list xs =>
        cases k with
        | int i =>
          have e3 : ((idx i xs.length).bind fun j => (xs[j]?).map EV.d) = some z := e3
          obtain ⟨j, e4, e5⟩ := bind_some' e3
          obtain ⟨d, e6, rfl⟩ := map_some e5
          have rv : Df X.K F2 v (.list xs) := rv
          cases rv with
          | lst h1 h2 l =>
            obtain ⟨w, g1, g2⟩ := h2.at (i := i) (x := d) (by rw [e4]; exact e6)
            cases ru
            exact .inl ⟨_, _, i, w, rfl, rfl, SqL.of (R2.le _ _ h1), g1, P3.now R2 g2⟩
        | _ => cases e3
      | tuple xs =>
        cases k with
        | int i =>
          have e3 : ((idx i xs.length).bind fun j => (xs[j]?).map EV.d) = some z := e3
          obtain ⟨j, e4, e5⟩ := bind_some' e3
          obtain ⟨d, e6, rfl⟩ := map_some e5
          have rv : Df X.K F2 v (.tuple xs) := rv
          cases rv with
          | tup h1 h2 l =>
            obtain ⟨w, g1, g2⟩ := h2.at (i := i) (x := d) (by rw [e4]; exact e6)
            cases ru
            exact .inr (.inl ⟨_, _, i, w, rfl, rfl, sqT_mono R2.le h1.t, g1, P3.now R2 g2⟩)
        | _ => cases e3
      | _ => cases e3
    | loc n =>
      obtain ⟨ad, rfl, hρ⟩ := rv
      have e3 : getIx m2 (.loc n) k = some z := e3
      unfold getIx at e3
      simp only at e3
      split at e3
      · rename_i xs hm
        obtain ⟨l, vs, g1, g2⟩ := R2.ob n ad _ hρ hm
        split at e3
        · obtain ⟨w, g3, g4⟩ := g2.at e3
          cases ru
          exact .inl ⟨ad, vs, _, w, rfl, rfl, SqL.of g1, g3, P3.now R2 g4⟩
        · cases e3
      · rename_i kvs hm
        obtain ⟨l, kw, g1, g2⟩ := R2.ob n ad _ hρ hm
        obtain ⟨kk, e4, e5⟩ := bind_some' e3
        obtain ⟨w, g3, g4⟩ := kv_get g2 e5
        have := keyD_df ru e4
        subst this
        exact .inr (.inr ⟨ad, w, rfl, by rw [← g3]; exact DGet.k g1, P3.now R2 g4⟩)
      · rename_i xs hm
        obtain ⟨l, ob, vs, g1, gd, g2⟩ := R2.ob n ad _ hρ hm
        split at e3
        · obtain ⟨w, g3, g4⟩ := g2.at e3
          cases ru
          exact .inr (.inl ⟨ad, vs, _, w, rfl, rfl, .inl (.inr ⟨ob, g1⟩), g3, P3.now R2 g4⟩)
        · cases e3
      · rename_i kvs hm
        obtain ⟨l, o, kw, g1, g2⟩ := R2.ob n ad _ hρ hm
        obtain ⟨kk, e4, e5⟩ := bind_some' e3
        obtain ⟨w, g3, g4⟩ := kv_get g2 e5
        have := keyD_df ru e4
        subst this
        exact .inr (.inr ⟨ad, w, rfl, by rw [← g3]; exact .inl ⟨kw, kk, .inr ⟨o, g1⟩, rfl, rfl⟩, P3.now R2 g4⟩)
      · cases e3
    | exc c fs => cases e3
    | ro xs => cases e3
  · exact False.elim P2

theorem cut_dfs {K : PySem.W.Frag} {F : Hp} {vs : List V} {xs : List D} (h : Dfs K F vs xs) (lo hi : Option Int) : Dfs K F (cutV vs lo hi) (cut xs lo hi) ∧ (cut xs lo hi).length ≤ xs.length := by
  refine ⟨?_, ?_⟩
  · unfold cutV cut
    rw [h.len]
    exact (h.drop _).take _
  · unfold cut
    rw [List.length_take, List.length_drop]
    omega
theorem s_slr {F : Hp} {ρ : List Addr} {m : Mem} {H : Hp} {Q : VK} {x : V} {y : EV} {p : D} {lo hi : Option Int} {WE : XK} (R : Rep X.K xa F ρ m H) (rv : RepV X.K xa F ρ x y) (e : view m y = some p)
    (P : Post X.K xa ec (relV X xa) WE F ρ H (Res.of ((cutD p lo hi).map EV.d) m) Q) : rSlL X.K x lo hi H Q ∨ rSlB X.K x lo hi H Q := by
  obtain ⟨z, e3, P3⟩ := P.of
  obtain ⟨d, e6, rfl⟩ := map_some e3
  have w := view_vr R rv e
  cases p with
  | list xs =>
    cases e6
    obtain ⟨l, a, vs, rfl, h1, h2⟩ := w
    obtain ⟨g1, g2⟩ := cut_dfs h2 lo hi
    exact .inl ⟨a, vs, rfl, SqL.of h1, gives_lst R (gives_of P3) g1 (Nat.le_trans g2 l)⟩
  | tuple xs =>
    cases e6
    have w : Df X.K F x (.tuple xs) := w
    cases w with
    | tup h1 h2 l =>
      obtain ⟨g1, g2⟩ := cut_dfs h2 lo hi
      refine .inr ⟨_, _, rfl, sqT_mono R.le h1.t, fun hw => ?_, fun _ => gives_tup R (gives_of P3) g1 (Nat.le_trans g2 l)⟩
      have e : cut xs lo hi = xs := by
        unfold cut
        rw [← h2.len, hw.1, hw.2, h2.len]
        simp
      rw [e] at P3
      exact P3.now R (show Df X.K F _ _ from .tup h1 h2 l)
  | _ => cases e6
theorem s_sl1 {p2 : Pos} {lo : Expr} (ha : PE X a (tE X xa ec cf W ea)) (hb : PE X lo (tE X xa ec cf W eb)) : PE X (.Subscript a (.Slice (some lo) none none p2) pos) (tE X xa ec cf W (.sl1 ea eb)) := by
  refine pe_mono (pe_slice (sl_list.or sl_tupB) ha (po_some hb) po_none) fun σ H Q ⟨F, ρ, m, env, R, E, P⟩ => ?_
  refine ⟨F, ρ, m, env, R, E, Post.bind (rel' := relV X xa) P fun x m1 F1 ρ1 H1 v e1 E1 R1 rv P1 => ?_⟩
  refine ⟨F1, ρ1, m1, env, R1, E.ext E1, Post.bind (rel' := relV X xa) P1 fun y m2 F2 ρ2 H2 u e2 E2 R2 ru P2 => ?_⟩
  have rv := rv.ext E2
  split at P2
  · rename_i p l ep
    have ru : Df X.K F2 u (.int l) := ru
    cases ru
    exact ⟨l, rfl, s_slr R2 rv ep P2⟩
  · exact False.elim P2
theorem s_sl2 {p2 : Pos} {hi : Expr} (ha : PE X a (tE X xa ec cf W ea)) (hb : PE X hi (tE X xa ec cf W eb)) : PE X (.Subscript a (.Slice none (some hi) none p2) pos) (tE X xa ec cf W (.sl2 ea eb)) := by
  refine pe_mono (pe_slice (sl_list.or sl_tupB) ha po_none (po_some hb)) fun σ H Q ⟨F, ρ, m, env, R, E, P⟩ => ?_
  refine ⟨F, ρ, m, env, R, E, Post.bind (rel' := relV X xa) P fun x m1 F1 ρ1 H1 v e1 E1 R1 rv P1 => ?_⟩
  refine ⟨F1, ρ1, m1, env, R1, E.ext E1, Post.bind (rel' := relV X xa) P1 fun y m2 F2 ρ2 H2 u e2 E2 R2 ru P2 => ?_⟩
  have rv := rv.ext E2
  split at P2
  · rename_i p l ep
    have ru : Df X.K F2 u (.int l) := ru
    cases ru
    exact ⟨l, rfl, s_slr R2 rv ep P2⟩
  · exact False.elim P2
theorem s_sl3 {p2 : Pos} {lo hi : Expr} (ha : PE X a (tE X xa ec cf W ea)) (hb : PE X lo (tE X xa ec cf W eb)) (hc : PE X hi (tE X xa ec cf W ec')) : PE X (.Subscript a (.Slice (some lo) (some hi) none p2) pos) (tE X xa ec cf W (.sl3 ea eb ec')) := by
  refine pe_mono (pe_slice (sl_list.or sl_tupB) ha (po_some hb) (po_some hc)) fun σ H Q ⟨F, ρ, m, env, R, E, P⟩ => ?_
  refine ⟨F, ρ, m, env, R, E, Post.bind (rel' := relV X xa) P fun x m1 F1 ρ1 H1 v e1 E1 R1 rv P1 => ?_⟩
  refine ⟨F1, ρ1, m1, env, R1, E.ext E1, Post.bind (rel' := relV X xa) P1 fun y m2 F2 ρ2 H2 u e2 E2 R2 ru P2 => ?_⟩
  have rv := rv.ext E2
  split at P2
  · rename_i l
    have ru : Df X.K F2 u (.int l) := ru
    cases ru
    refine ⟨l, rfl, F2, ρ2, m2, env, R2, (E.ext E1).ext E2, Post.bind (rel' := relV X xa) P2 fun z m3 F3 ρ3 H3 t e3 E3 R3 rt P3 => ?_⟩
    have rv := rv.ext E3
    split at P3
    · rename_i p h' ep
      have rt : Df X.K F3 t (.int h') := rt
      cases rt
      exact ⟨h', rfl, s_slr R3 rv ep P3⟩
    · exact False.elim P3
  · exact False.elim P2
end
end PV
end

section
set_option Elab.async false
set_option linter.all false
set_option maxRecDepth 100000
/-! PV7: calls of defs and built-ins, isinstance, lists and dicts made. -/
namespace PV
open PySem PySem.Spec PyProof.Rows L2

/-! ### calls of defs -/
/-- a def's promise where no repr runs -/
structure FnG (P : Program) (w : World) (K : PySem.W.Frag) (mg : Str → Option Value) (base : Heap) (n : Nat) (f : Addr) (fd : FuncData) (ps : List Str) (sp : Sp) : Prop where
  len : ∀ vs H Q E, sp vs H Q E → vs.length = ps.length
  run : ∀ (A : Around) (outer : List PySem.Env) (s : Shared) (H : Hp) (args : Args) (us : List Value) (vs : List V) (Q : VK) (E : XK), Room n A → A.guards = some [] → Env0 P w K mg base A outer s H →
    BindsTo s fd args (ps.zip us) → Vals vs us → sp vs H Q E → codeAny (model P w) A (.call (.ref f) args) (CR (L2.CX P w) outer P w H s Q E) s
/-- the promise that an evaluator's def makes -/
def spC (K : PySem.W.Frag) (xa : List (Addr × Str)) (ec : Nat → Addr) (cf : CF) (k np : Nat) : Sp := fun vs H Q E => vs.length = np ∧ ∃ F ρ m args, Rep K xa F ρ m H ∧ RepVs K xa F ρ vs args ∧
  Post K xa ec (fun F ρ (v : V) (y : EV) => RepV K xa F ρ v y) E F ρ H (cf k args m) Q

section
variable {X : Cx} {ec : Nat → Addr} {cf : CF} {W : WX} {a b c : Expr} {pos : Pos} {ea eb ec' : Ex}
theorem end_call {pins : List (Addr × Obj)} {σ : L2.St} {H : Hp} {s : Shared} {Q : VK} {f : Addr} {args : Args} {E : XK} (hx : PassesAt (L2.CX X.prog X.w) X σ E) (I : Inv X pins σ H s)
    (h : codeAny (model X.prog X.w) X.A (.call (.ref f) args) (CR (L2.CX X.prog X.w) X.stack X.prog X.w H s Q E) s) : wpAny (model X.prog X.w) X.A (call (.ref f) args.pos args.kw) (EP X pins σ Q) X.xe s := by
  refine wpAny_call (codeAny_mono h fun r s' hq => ?_)
  cases r with
  | error e => exact hx pins H s e s' I hq
  | ok fl =>
    cases fl with
    | ret u => exact I.after hq
    | next => exact False.elim hq
    | brk => exact False.elim hq
    | cont => exact False.elim hq
theorem s_call {n k np : Nat} {f : Addr} {fd : FuncData} {ps : List Str} {x : Str} {p : Pos} {es : List Expr} {xs : Exs} (F : FnG X.prog X.w X.K X.mg X.base n f fd ps (spC X.K xa ec cf k np)) (hr : Room n X.A) (hgd : X.A.guards = some []) (hg : Gl X x) (hm : X.mg x = some (.ref f))
    (hk : PySem.W.keepIn X.K (.ref f) = true) (hb : Binds X.K fd ps []) (tk : Takes X W) (hbad : ∀ vs m, vs.length ≠ np → cf k vs m = .bad) (ha : PA X es (tEs X xa ec cf W xs)) (hdb : (x == ("__debug__" : Str)) = false)
    (hst : (es = [] ∧ xs = .nil) ∨ ∃ e r, es = e :: r ∧ starEach (e :: r) X.env = (false, eval e X.env) :: starEach r X.env ∧ (backTo pos (starEach r X.env)).any (·.1) = false) :
    PE X (.Call (.Name x p) es [] pos) (tE X xa ec cf W (.call k xs)) := by
  have run : ∀ (pins : List (Addr × Obj)) (s1 : Shared) (σ : L2.St) (H1 : Hp) (Q : VK) (us : List Value) (vs : List V), Inv X pins σ H1 s1 → Vals vs us → spC X.K xa ec cf k np vs H1 Q (WE W σ) → wpAny (model X.prog X.w) X.A (call (.ref f) us) (EP X pins σ Q) X.xe s1 := by
    intro pins s1 σ H1 Q us vs I1 r q
    have hl : us.length = ps.length := by rw [← r.length]; exact F.len _ _ _ _ q
    have b := hb s1 us I1.kIn (by rw [List.append_nil]; exact hl)
    rw [List.append_nil] at b
    exact end_call (args := ⟨us, []⟩) (passAt tk σ) I1 (F.run X.A X.stack s1 H1 ⟨us, []⟩ us vs Q _ hr hgd I1.env0 b r q)
  refine ⟨fun pins s σ H Q I ⟨F0, ρ, m, env, R, E, P⟩ => ?_⟩
  have args : tEs X xa ec cf W xs σ H (fun vs H1 => spC X.K xa ec cf k np vs H1 Q (WE W σ)) := by
    refine ⟨F0, ρ, m, env, R, E, Post.bind (rel' := relV X xa) P fun vs m1 F1 ρ1 H1 us e1 E1 R1 rv P1 => ?_⟩
    by_cases hl : vs.length = np
    · exact ⟨by rw [← hl]; exact rv.len, F1, ρ1, m1, vs, R1, rv, P1⟩
    · rw [hbad vs m1 hl] at P1
      exact False.elim P1
  refine wpAny_Call_Name_kw (ld_glob I hg hm ?_ hdb)
  rcases hst with ⟨rfl, rfl⟩ | ⟨e, r, rfl, he, hpl⟩
  · refine PySem.W.callWith_K0 I.kIn hk ?_
    obtain ⟨F1, ρ1, m1, env1, R1, E1, P1⟩ := args
    exact run pins s σ H Q [] [] I .nil (Post.now (rel := relVs X xa) (a := ([] : List EV)) P1 R1 .nil)
  · exact PySem.W.callWith_K (h₀ := X.base) I.ok.mod.kin hk (thn (ha.run pos pins s σ H _ I args) fun us s1 ⟨vs, H1, I1, r1, q⟩ => ⟨I1.kIn, run pins s1 σ H1 Q us vs I1 r1 q⟩) he hpl
/-- a built-in of one argument -/
theorem s_u1B {xa : List (Addr × Str)} {o : O1} {id : String} {x : Str} {p : Pos} (hc : CallOk X xa (.builtin id) o) (hg : Gl X x) (hm : X.mg x = none) (hv : bootBuiltins x = some (.builtin id)) (ha : PE X a (tE X xa ec cf W ea)) (hn : x ≠ "__name__") (hdb : (x == ("__debug__" : Str)) = false)
    (hs : starEach [a] X.env = (false, eval a X.env) :: starEach [] X.env) : PE X (.Call (.Name x p) [a] [] pos) (tE X xa ec cf W (.u1 o ea)) := by
  obtain ⟨r, hr, hq⟩ := hc
  refine pe_mono (pe_callB hr hg hm hv (pa_cons ha pa_nil hs) hn hdb hs rfl) fun σ H Q ⟨F, ρ, m, env, R, E, P⟩ => ?_
  refine ⟨F, ρ, m, env, R, E, Post.bind (rel' := relV X xa) P fun x m1 F1 ρ1 H1 v e1 E1 R1 rv P1 => ?_⟩
  split at P1
  · rename_i p e2
    obtain ⟨y, e3, P2⟩ := P1.of
    obtain ⟨d, e4, rfl⟩ := map_some e3
    exact hq F1 ρ1 m1 H1 v x p d Q R1 rv e2 e4 (gives_of P2)
  · exact False.elim P1
theorem s_u1T {xa : List (Addr × Str)} {o : O1} {id : String} {x : Str} {p : Pos} (hc : CallOk X xa (.type id) o) (hg : Gl X x) (hm : X.mg x = none) (hv : bootBuiltins x = some (.type id)) (ha : PE X a (tE X xa ec cf W ea)) (hn : x ≠ "__name__") (hdb : (x == ("__debug__" : Str)) = false)
    (hs : starEach [a] X.env = (false, eval a X.env) :: starEach [] X.env) : PE X (.Call (.Name x p) [a] [] pos) (tE X xa ec cf W (.u1 o ea)) := by
  obtain ⟨r, hr, hq⟩ := hc
  refine pe_mono (pe_callTy hr hg hm hv (pa_cons ha pa_nil hs) hn hdb hs rfl) fun σ H Q ⟨F, ρ, m, env, R, E, P⟩ => ?_
  refine ⟨F, ρ, m, env, R, E, Post.bind (rel' := relV X xa) P fun x m1 F1 ρ1 H1 v e1 E1 R1 rv P1 => ?_⟩
  split at P1
  · rename_i p e2
    obtain ⟨y, e3, P2⟩ := P1.of
    obtain ⟨d, e4, rfl⟩ := map_some e3
    exact hq F1 ρ1 m1 H1 v x p d Q R1 rv e2 e4 (gives_of P2)
  · exact False.elim P1
/-! ### isinstance of data -/
def tyN : Nat → String
  | 0 => "int"
  | 1 => "bool"
  | 2 => "tuple"
  | 3 => "str"
  | _ => "list"
def tyD : D → String
  | .none => "NoneType"
  | .bool _ => "bool"
  | .int _ => "int"
  | .str _ => "str"
  | .list _ => "list"
  | .tuple _ => "tuple"
  | .dict _ => "dict"
theorem kit_tab (K : PySem.W.Frag) : ∀ t : Nat, t ≤ 4 → (PySem.W.kitOne K (.type "NoneType") (.type (tyN t)) = some false ∧ PySem.W.kitOne K (.type "bool") (.type (tyN t)) = some (t == 0 || t == 1) ∧ PySem.W.kitOne K (.type "int") (.type (tyN t)) = some (t == 0) ∧
    PySem.W.kitOne K (.type "str") (.type (tyN t)) = some (t == 3) ∧ PySem.W.kitOne K (.type "list") (.type (tyN t)) = some (t == 4) ∧ PySem.W.kitOne K (.type "tuple") (.type (tyN t)) = some (t == 2)) := by
  intro t h
  match t, h with
  | 0, _ => exact ⟨by rfl, by rfl, by rfl, by rfl, by rfl, by rfl⟩
  | 1, _ => exact ⟨by rfl, by rfl, by rfl, by rfl, by rfl, by rfl⟩
  | 2, _ => exact ⟨by rfl, by rfl, by rfl, by rfl, by rfl, by rfl⟩
  | 3, _ => exact ⟨by rfl, by rfl, by rfl, by rfl, by rfl, by rfl⟩
  | 4, _ => exact ⟨by rfl, by rfl, by rfl, by rfl, by rfl, by rfl⟩
theorem tyx_of {K : PySem.W.Frag} {xa : List (Addr × Str)} {F H : Hp} {ρ : List Addr} {m : Mem} (R : Rep K xa F ρ m H) {v : V} {p : D} (h : VR K F H v p) : TyX K H v (.type (tyD p)) := by
  cases p with
  | list xs =>
    obtain ⟨l, a, vs, rfl, h1, h2⟩ := h
    exact .base (.lst h1)
  | tuple xs =>
    have h : Df K F v (.tuple xs) := h
    cases h with
    | tup h1 h2 l =>
      rcases h1 with ⟨o, h1, _⟩ | ⟨o, its, n, h1, hc, _⟩
      · exact .fTuple (R.le _ _ h1)
      · exact .kTuple h1 hc
  | none =>
    have h : Df K F v .none := h
    cases h
    exact .base .non
  | bool b =>
    have h : Df K F v (.bool b) := h
    cases h
    exact .base (.bl _)
  | int b =>
    have h : Df K F v (.int b) := h
    cases h
    exact .base (.int _)
  | str b =>
    have h : Df K F v (.str b) := h
    cases h
    exact .base (.str _)
  | dict b =>
    have h : Df K F v (.dict b) := h
    cases h
theorem isi_eqs (t : Nat) (ht : t ≤ 4) : isiD t .none = false ∧ (∀ b, isiD t (.bool b) = (t == 0 || t == 1)) ∧ (∀ i, isiD t (.int i) = (t == 0)) ∧ (∀ x, isiD t (.str x) = (t == 3)) ∧ (∀ xs, isiD t (.list xs) = (t == 4)) ∧ ∀ xs, isiD t (.tuple xs) = (t == 2) := by
  have h : t = 0 ∨ t = 1 ∨ t = 2 ∨ t = 3 ∨ t = 4 := by omega
  rcases h with rfl | rfl | rfl | rfl | rfl
  all_goals exact ⟨rfl, fun _ => rfl, fun _ => rfl, fun _ => rfl, fun _ => rfl, fun _ => rfl⟩
theorem kit_is (K : PySem.W.Frag) {t : Nat} (ht : t ≤ 4) {v : V} {F H : Hp} {p : D} (h : VR K F H v p) : PySem.W.kitOne K (.type (tyD p)) (.type (tyN t)) = some (isiD t p) := by
  obtain ⟨h1, h2, h3, h4, h5, h6⟩ := kit_tab K t ht
  obtain ⟨g1, g2, g3, g4, g5, g6⟩ := isi_eqs t ht
  cases p with
  | list xs => rw [g5]; exact h5
  | tuple xs => rw [g6]; exact h6
  | none => rw [g1]; exact h1
  | bool b => rw [g2]; exact h2
  | int b => rw [g3]; exact h3
  | str b => rw [g4]; exact h4
  | dict b =>
    have h : Df K F v (.dict b) := h
    cases h
theorem s_isi {xa : List (Addr × Str)} {t : Nat} {p q : Pos} {y : Str} (ht : t ≤ 4) (hg : Gl X "isinstance") (hm : X.mg "isinstance" = none) (hv : bootBuiltins ("isinstance" : Str) = some (.builtin "isinstance")) (hg2 : Gl X y) (hm2 : X.mg y = none) (hv2 : bootBuiltins y = some (.type (tyN t))) (hn2 : y ≠ "__name__") (hdb2 : (y == ("__debug__" : Str)) = false)
    (ha : PE X a (tE X xa ec cf W ea)) (hs : starEach [a, .Name y q] X.env = (false, eval a X.env) :: starEach [.Name y q] X.env) : PE X (.Call (.Name "isinstance" p) [a, .Name y q] [] pos) (tE X xa ec cf W (.isi t ea)) := by
  refine pe_mono (pe_callB call_isi hg hm hv (pa_cons ha (pa_cons (pe_bltn (v := .ty (tyN t)) hg2 hm2 hv2 rfl hn2 hdb2) pa_nil) hs) (by decide) (by decide) hs rfl) fun σ H Q ⟨F, ρ, m, env, R, E, P⟩ => ?_
  refine ⟨F, ρ, m, env, R, E, Post.bind (rel' := relV X xa) P fun x m1 F1 ρ1 H1 v e1 E1 R1 rv P1 => ?_⟩
  split at P1
  · rename_i p e2
    have w := view_vr R1 rv e2
    exact ⟨v, .ty (tyN t), _, _, _, rfl, .ty _, tyx_of R1 w, kit_is X.K ht w, Post.now (rel := relV X xa) (a := EV.d (.bool (isiD t p))) P1 R1 (show Df X.K F1 _ _ from .bl _)⟩
  · exact False.elim P1

/-! ### lists made -/
def PostL (X : Cx) (xa : List (Addr × Str)) (ec : Nat → Addr) (WE : XK) (F : Hp) (ρ : List Addr) (H : Hp) (acc : List D) (r : Res (List D)) (Q : VK) : Prop := match r with
  | .ok xs m' => ∀ F' ρ' H' p vs, Ext F ρ H F' ρ' H' → Rep X.K xa F' ρ' m' H' → H' p = some (.lst vs) → F' p = none → p ∉ ρ' → H p = none → Dfs X.K F' vs (acc ++ xs) → (acc ++ xs).length ≤ LIM → Q (.ref p) H'
  | .ex c fs m' => ∀ F' ρ' H' cls d, Ext F ρ H F' ρ' H' → Rep X.K xa F' ρ' m' H' → ExR X.K ec F' H' c fs cls d → WE cls d H'
  | .bad => False
/-- an expression that makes a list, the list's reading -/
def tL (X : Cx) (xa : List (Addr × Str)) (ec : Nat → Addr) (cf : CF) (W : WX) (l : Lx) : TE := fun σ H Q => ∃ F ρ m env, Rep X.K xa F ρ m H ∧ RepE X.K xa F ρ σ env ∧ PostL X xa ec (fun c d H => W c d σ H) F ρ H [] (evL cf l env m) Q
variable {xa : List (Addr × Str)} {l : Lx}
theorem fl_of : ∀ σ H Q, tE X xa ec cf W (.fl l) σ H Q → tL X xa ec cf W l σ H Q := by
  refine fun σ H Q ⟨F, ρ, m, env, R, E, P⟩ => ⟨F, ρ, m, env, R, E, ?_⟩
  simp only [evE] at P
  cases r : evL cf l env m with
  | bad => rw [r] at P; exact P
  | ex c fs m' => rw [r] at P; exact P
  | ok xs m1 =>
    rw [r] at P
    intro F' ρ' H' p vs E1 R1 hp fp hr hp0 dd ll
    have R2 := R1.freeze hp fp hr
    refine P (upd F' p (.lst vs)) ρ' H' (.ref p) ⟨fun b u e => ?_, E1.pre, E1.frm, fun b u e n => ?_, E1.kep, E1.frz⟩ R2 ?_
    · have e' := E1.fle b u e
      rw [upd_ne (ne_of_none e' fp)]
      exact e'
    · by_cases hb : b = p
      · rw [hb]; exact hp0
      · rw [upd_ne hb] at e
        exact E1.new b u e n
    · refine show Df X.K _ _ _ from .lst upd_same (Dfs.mono (fun b u e => ?_) dd) ll
      rw [upd_ne (ne_of_none e fp)]
      exact e
theorem s_fl (h : PE X a (tL X xa ec cf W l)) : PE X a (tE X xa ec cf W (.fl l)) := pe_mono h fl_of
theorem ml_of : ∀ σ H Q, tE X xa ec cf W (.ml l) σ H Q → tL X xa ec cf W l σ H Q := by
  refine fun σ H Q ⟨F, ρ, m, env, R, E, P⟩ => ⟨F, ρ, m, env, R, E, ?_⟩
  simp only [evE] at P
  cases r : evL cf l env m with
  | bad => rw [r] at P; exact P
  | ex c fs m' => rw [r] at P; exact P
  | ok xs m1 =>
    rw [r] at P
    intro F' ρ' H' p vs E1 R1 hp fp hr hp0 dd ll
    have ob : ObR X.K xa F' (ρ' ++ [p]) H' p (.lst (xs.map EV.d)) := ⟨by simpa using ll, vs, hp, of_dfs dd⟩
    have R2 := R1.own hr fp ob (fun v hv => by
      obtain ⟨x, _, rfl⟩ := List.mem_map.mp hv
      rfl)
    obtain ⟨ζ, e1, n1⟩ := E1.pre
    refine P F' (ρ' ++ [p]) H' (.ref p) ⟨E1.fle, ⟨ζ ++ [p], by rw [e1, List.append_assoc], fun b hb => ?_⟩, E1.frm, E1.new, E1.kep, E1.frz⟩ R2 ⟨p, rfl, ?_⟩
    · rcases List.mem_append.mp hb with q | q
      · exact n1 b q
      · rw [List.mem_singleton.mp q]; exact hp0
    · rw [← R1.len, List.getElem?_append_right (Nat.le_refl _)]
      simp
theorem fz_of {ea : Ex} : ∀ σ H Q, tE X xa ec cf W (.fz ea) σ H Q → tE X xa ec cf W ea σ H Q := by
  refine fun σ H Q ⟨F, ρ, m, env, R, E, P⟩ => ⟨F, ρ, m, env, R, E, ?_⟩
  have P : Post X.K xa ec (relV X xa) (fun c d H => W c d σ H) F ρ H ((evE cf ea env m).bind fun x m1 => match frz m1 m.length x with | some p => .ok (.d p) (m1.take m.length) | none => .ok x m1) Q := P
  cases r : evE cf ea env m with
  | bad => rw [r] at P; exact P
  | ex c fs m' => rw [r] at P; exact P
  | ok x m1 =>
    rw [r] at P
    intro F' ρ' H' v E1 R1 rv
    simp only [Res.bind] at P
    cases ef : frz m1 m.length x with
    | none => rw [ef] at P; exact P F' ρ' H' v E1 R1 rv
    | some q =>
      rw [ef] at P
      cases x with
      | loc k =>
        unfold frz at ef
        simp only at ef
        split at ef
        · rename_i hk
          split at ef
          · rename_i ys hm
            obtain ⟨xs, e2, rfl⟩ := map_some ef
            obtain ⟨p, rfl, hρ⟩ := rv
            obtain ⟨hl, vs, hp, hv⟩ := R1.ob k p _ hρ hm
            have e3 := allD_eq e2
            subst e3
            have fp : F' p = none := R1.nf p (List.mem_of_getElem? hρ)
            obtain ⟨ζ, e1, n1⟩ := E1.pre
            have hkl : ρ.length ≤ k := by rw [R.len]; exact hk
            have hz : p ∈ ζ := by
              rw [e1, List.getElem?_append_right hkl] at hρ
              exact List.mem_of_getElem? hρ
            have hnr : p ∉ ρ'.take m.length := by
              rw [← R.len, e1, List.take_left']
              · intro hin
                have nd := R1.nd
                rw [e1, List.nodup_append] at nd
                exact nd.2.2 p hin p hz rfl
              · rfl
            have R2 := (R1.take m.length).freeze hp fp hnr
            have E2 := E1.take
            rw [R.len] at E2
            refine P (upd F' p (.lst vs)) (ρ'.take m.length) H' (.ref p) ⟨fun b u e => ?_, E2.pre, E2.frm, fun b u e n => ?_, E2.kep, E2.frz⟩ R2 ?_
            · have e' := E1.fle b u e
              rw [upd_ne (ne_of_none e' fp)]
              exact e'
            · by_cases hb : b = p
              · rw [hb]; exact n1 p hz
              · rw [upd_ne hb] at e
                exact E1.new b u e n
            · refine show Df X.K _ _ _ from .lst upd_same (Dfs.mono (fun b u e => ?_) (dfs_of hv)) (by simpa using hl)
              rw [upd_ne (ne_of_none e fp)]
              exact e
          · cases ef
        · cases ef
      | _ => cases ef
theorem s_fz {ea : Ex} (h : PE X a (tE X xa ec cf W ea)) : PE X a (tE X xa ec cf W (.fz ea)) := pe_mono h fz_of
theorem s_ml (h : PE X a (tL X xa ec cf W l)) : PE X a (tE X xa ec cf W (.ml l)) := pe_mono h ml_of
theorem postL_bind {α β : Type} {rel : Hp → List Addr → β → α → Prop} {WE : XK} {F : Hp} {ρ : List Addr} {H : Hp} {acc : List D} {r : Res α} {f : α → Mem → Res (List D)} {Q : VK} {Q' : β → Hp → Prop} (h : PostL X xa ec WE F ρ H acc (r.bind f) Q)
    (k : ∀ a m1 F1 ρ1 H1 b, r = .ok a m1 → Ext F ρ H F1 ρ1 H1 → Rep X.K xa F1 ρ1 m1 H1 → rel F1 ρ1 b a → PostL X xa ec WE F1 ρ1 H1 acc (f a m1) Q → Q' b H1) : Post X.K xa ec rel WE F ρ H r Q' := by
  cases r with
  | ok a m =>
    refine fun F' ρ' H' b e R q => k a m F' ρ' H' b rfl e R q ?_
    have h : PostL X xa ec WE F ρ H acc (f a m) Q := h
    cases hf : f a m with
    | ok xs m2 =>
      rw [hf] at h
      exact fun F2 ρ2 H2 p vs E2 R2 h1 h2 h3 h4 => h F2 ρ2 H2 p vs (e.trans E2) R2 h1 h2 h3 (none_of_kep e.kep h4)
    | ex c fs m2 =>
      rw [hf] at h
      exact fun F2 ρ2 H2 cls d E2 => h F2 ρ2 H2 cls d (e.trans E2)
    | bad =>
      rw [hf] at h
      exact h
  | ex c fs m => exact h
  | bad => exact h
theorem postL_new {WE : XK} {F : Hp} {ρ : List Addr} {H : Hp} {m : Mem} {xs : List D} {Q : VK} {vs : List V} (R : Rep X.K xa F ρ m H) (P : PostL X xa ec WE F ρ H [] (.ok xs m) Q) (d : Dfs X.K F vs xs) (l : xs.length ≤ LIM) :
    ∀ p, H p = none → Q (.ref p) (upd H p (.lst vs)) := fun p hp => by
  have fp : F p = none := by
    cases e : F p with
    | none => rfl
    | some u => rw [R.le p u e] at hp; cases hp
  have hr : p ∉ ρ := fun z => R.there z hp
  refine P F ρ _ p vs ⟨Same.refl F, ⟨[], by simp, by simp⟩, fun b u e _ _ => ?_, fun b u e n => (by rw [e] at n; cases n), fun b hb => ?_, fun b o u e => (by rw [upd_ne (ne_of_none e hp)]; exact e)⟩ ?_ upd_same fp hr hp (by simpa using d) (by simpa using l)
  · rw [upd_ne (ne_of_none e hp)]; exact e
  · by_cases q : b = p
    · rw [q, upd_same]; simp
    · rw [upd_ne q]; exact hb
  · refine (R.grow (Same.refl F) (fun b u e => ?_) (fun b u e => ?_) fun b u e n => (by rw [e] at n; cases n)).1
    · rw [upd_ne (ne_of_none (R.le b u e) hp)]; exact R.le b u e
    · rw [upd_ne (ne_of_none e hp)]; exact e
theorem s_dis {es : List Expr} {xs : Exs} (h : PA X es (tEs X xa ec cf W xs)) (hl : es.length ≤ 1000) (hn : ∀ env m vs m1, evEs cf xs env m = .ok vs m1 → vs.length = es.length) : PE X (.List es pos) (tL X xa ec cf W (.dis xs)) := by
  refine pe_mono (pe_lst h) fun σ H Q ⟨F, ρ, m, env, R, E, P⟩ => ?_
  refine ⟨F, ρ, m, env, R, E, postL_bind (rel := relVs X xa) P fun x m1 F1 ρ1 H1 vs e1 E1 R1 rv P1 => ?_⟩
  cases e4 : allD x with
  | none => rw [e4] at P1; exact False.elim P1
  | some ds =>
    rw [e4] at P1
    have e5 := allD_eq e4
    subst e5
    have l := hn _ _ _ _ e1
    have dd := dfs_of rv
    have l2 : ds.length ≤ LIM := by
      have : ds.length = es.length := by simpa using l
      rw [this]
      exact Nat.le_trans hl (by decide)
    exact ⟨by rw [dd.len, ← lim_eq]; exact l2, postL_new R1 P1 dd l2⟩
end
end PV
end

section
set_option Elab.async false
set_option linter.all false
set_option maxRecDepth 100000
/-! PV8b: zip of a list and a tuple. -/
namespace PV
open PySem PySem.Spec PyProof.Rows L2
/-- true: a tuple -/
def SqK (k : Bool) (K : PySem.W.Frag) (H : Hp) (a : Addr) (xs : List V) : Prop := match k with
  | true => SqT K H a xs
  | false => SqL K H a xs
def itK (k : Bool) (h : Heap) (it a : Addr) (i : Nat) : Prop := match k with
  | true => h.IsTupleIter it a i
  | false => h.IsListIter it a i
def sqK (k : Bool) (h : Heap) (a : Addr) (xs : Array Value) : Prop := match k with
  | true => h.IsTuple a xs
  | false => h.IsList a xs
theorem drawsK (k : Bool) {prog : Program} {w : World} {A : Around} (hh : A.handled = none) (it t : Addr) (hne : t ≠ it) (items : Array Value) :
    Draws prog w A it [it, t] items.size (fun i v => items[i]? = some v) (fun i h => itK k h it t i ∧ sqK k h t items) := by
  cases k
  · exact Draws.list hh it t hne items
  · exact Draws.tuple hh it t hne items
def iterObj (k : Bool) (l : Addr) : Obj := match k with
  | true => { cls := .type "tuple_iterator", data := .fields #[.ref l, .int 0 0] }
  | false => { cls := .type "list_iterator", data := .fields #[.ref l, .int 0 0] }
theorem beginsK (k : Bool) (l : Addr) (items : Array Value) : Begins (.ref l) (iterObj k l) fun h => sqK k h l items := by
  cases k
  · exact begins_list l items
  · exact begins_tuple l items
theorem itK_new {k : Bool} {h : Heap} {it l : Addr} (e : h.get? it = some (iterObj k l)) : itK k h it l 0 := by
  cases k
  · exact ⟨_, e, rfl, rfl⟩
  · exact ⟨_, e, rfl, rfl⟩
theorem itK_at {k : Bool} {h h' : Heap} {it l : Addr} {i : Nat} (st : itK k h it l i) (f : ∀ o, h.get? it = some o → h'.get? it = some o) : itK k h' it l i := by
  cases k
  · exact Heap.IsListIter.at st f
  · exact Heap.IsTupleIter.at st f
theorem itK_obj {k : Bool} {h : Heap} {it l : Addr} {i : Nat} (st : itK k h it l i) : ∃ o, h.get? it = some o ∧ ∀ v, o.data ≠ .cell v := by
  cases k
  · obtain ⟨o, e, _, d⟩ := st
    exact ⟨o, e, fun v q => by rw [d] at q; cases q⟩
  · obtain ⟨o, e, _, d⟩ := st
    exact ⟨o, e, fun v q => by rw [d] at q; cases q⟩
theorem inv_sq {k : Bool} {X : Cx} {pins : List (Addr × Obj)} {σ : L2.St} {H : Hp} {s : Shared} {a : Addr} {xs : List V} (I : Inv X pins σ H s) (h : SqK k X.K H a xs) : ∃ its : List Value, Vals xs its ∧ sqK k s.heap a its.toArray ∧ a < s.heap.objs.size := by
  cases k
  · obtain ⟨its, rv, p, _⟩ := I.list h
    exact ⟨its, rv, p.isList, p.lt⟩
  · obtain ⟨its, rv, p, _⟩ := I.tuple h
    obtain ⟨o, ho, _⟩ := id p
    exact ⟨its, rv, p, Heap.lt_size ho⟩
theorem inv_one {k : Bool} {X : Cx} {pins : List (Addr × Obj)} {σ : L2.St} {H : Hp} {s : Shared} {a : Addr} {xs ys : List V} (I : Inv X pins σ H s) (h : SqK k X.K H a xs) (h' : SqK k X.K H a ys) : xs = ys := by
  cases k
  · exact I.list_inj h h'
  · exact I.tuple_inj h h'
def ItzK (K : PySem.W.Frag) (k k' : Bool) (a b : Addr) : L2.It :=
  ⟨fun i H => ∃ (xs ys : List V) (x y : V), SqK k K H a xs ∧ SqK k' K H b ys ∧ xs[i]? = some x ∧ ys[i]? = some y,
    fun i H v H' => ∃ T x y o, v = .ref T ∧ H T = none ∧ o.dict = none ∧ H' = upd H T (.frz o (.tup [x, y])) ∧ (∀ xs, SqK k K H a xs → xs[i]? = some x) ∧ ∀ ys, SqK k' K H b ys → ys[i]? = some y,
    fun i H => ∃ xs ys : List V, SqK k K H a xs ∧ SqK k' K H b ys ∧ i ≤ xs.length ∧ i ≤ ys.length ∧ (xs.length = i ∨ ys.length = i)⟩
theorem sep_of {z TI TO i1 i2 a b : Addr} (D : ZipApart z TI TO i1 i2 a b) : ZipSep2 z TI TO i1 i2 [i1, a] [i2, b] where
  TIz := D.TIz
  TOz := D.TOz
  TITO := D.TITO
  TIi1 := D.TIi1
  mem1 := by simp
  zf1 := by simp [D.i1z.symm, D.l1z.symm]
  Tf1 := by simp [D.TOi1, D.l1TO.symm]
  TIi2 := D.TIi2
  mem2 := by simp
  zf2 := by simp [D.i2z.symm, D.l2z.symm]
  Tf2 := by simp [D.TOi2, D.l2TO.symm]
  sep1_2 := by simp [D.i12, D.l2i1.symm]
  sep2_1 := by simp [D.i12.symm, D.l1i2.symm]
theorem turn_zipK {k k' : Bool} {P : Program} {w : World} {K : PySem.W.Frag} {elts : List Expr} {kk : Nat} {tpos : Pos} {a b z TI TO i1 i2 : Addr} (D : ZipApart z TI TO i1 i2 a b) :
    Turn P w K (.Tuple elts kk tpos) (ItzK K k k' a b) [z, TI, TO, i1, i2] z (fun i h => IsZip h z TI TO .none ∧ IsPair h TI (.ref i1) (.ref i2) ∧ (∃ x y, IsPair h TO x y) ∧ itK k h i1 a i ∧ itK k' h i2 b i) where
  mem := by simp
  obj := fun i h st c hc => by
    obtain ⟨hz, hTI, ⟨x, y, hTO⟩, h1, h2⟩ := st
    have e' : c = z ∨ c = TI ∨ c = TO ∨ c = i1 ∨ c = i2 := by simpa using hc
    rcases e' with q | q | q | q | q
    · rw [q]; exact ⟨_, hz, fun v q => nomatch q⟩
    · rw [q]; exact ⟨_, hTI, fun v q => nomatch q⟩
    · rw [q]; exact ⟨_, hTO, fun v q => nomatch q⟩
    · rw [q]; exact itK_obj h1
    · rw [q]; exact itK_obj h2
  keep := fun i h h' st k => by
    obtain ⟨hz, hTI, ⟨x, y, hTO⟩, h1, h2⟩ := st
    exact ⟨k z (by simp) _ hz, k TI (by simp) _ hTI, ⟨x, y, k TO (by simp) _ hTO⟩, itK_at h1 fun o q => k i1 (by simp) o q, itK_at h2 fun o q => k i2 (by simp) o q⟩
  item := by
    intro X hP hw hK hc i pins s σ H E I hf st hg
    subst hP hw hK
    obtain ⟨hz, hTI, ⟨x0, y0, hTO⟩, h1, h2⟩ := st
    obtain ⟨xs, ys, x, y, hqx, hqy, hx, hy⟩ := hg
    obtain ⟨its, rv, p, _⟩ := inv_sq I hqx
    obtain ⟨its2, rv2, p2, _⟩ := inv_sq I hqy
    obtain ⟨u, hu, ru⟩ := rv.get hx
    obtain ⟨u2, hu2, ru2⟩ := rv2.get hy
    have hzl : z < s.heap.objs.size := Heap.lt_size hz
    have hh : X.A.in1.handled = none := I.ok.hd hc
    have n1 : i < its.toArray.size := by rw [List.size_toArray]; exact (List.getElem?_eq_some_iff.mp hu).1
    have n2 : i < its2.toArray.size := by rw [List.size_toArray]; exact (List.getElem?_eq_some_iff.mp hu2).1
    refine wpAny_pyNext_zipD2_item (sep_of D) (drawsK k hh i1 a D.l1i1 its.toArray) (drawsK k' hh i2 b D.l2i2 its2.toArray) hz hTI hTO ⟨h1, p⟩ ⟨h2, p2⟩ n1 n2 fun v1 v2 h' tk ev1 ev2 z' TO' st1 st2 hT hsz hk => ?_
    have ev1 : v1 = u := by
      have q : its.toArray[i]? = some v1 := ev1
      rw [List.getElem?_toArray, hu] at q
      exact (Option.some.inj q).symm
    have ev2 : v2 = u2 := by
      have q : its2.toArray[i]? = some v2 := ev2
      rw [List.getElem?_toArray, hu2] at q
      exact (Option.some.inj q).symm
    subst ev1 ev2
    refine ⟨_, rfl, wpAny_letOwnedTupleGo_zip (s := { s with heap := h', toks := tk }) z' fun h'' z'' sb => ?_⟩
    have hT2 : h''.get? s.heap.objs.size = some (bT [v1, v2]) := (sb.2 _ (Nat.ne_of_gt hzl)).trans hT
    have new : ObjOk X.prog X.w (upd H s.heap.objs.size (.frz (bT [v1, v2]) (.tup [x, y]))) h'' s.heap.objs.size (.frz (bT [v1, v2]) (.tup [x, y])) :=
      ⟨hT2, by show 2 ≤ sizeLine; decide, [v1, v2], .cons ru (.cons ru2 .nil), ⟨_, hT2, rfl, _, rfl⟩⟩
    have I1 : Inv X pins σ (upd H s.heap.objs.size (.frz (bT [v1, v2]) (.tup [x, y]))) { s with heap := h'', toks := tk } :=
      I.turnedNew (t' := tk) (ch := [z, TI, TO, i1, i2]) (fun c o hb q => (sb.2 c (fun q' => hb (by simp [q']))).trans (hk c o (fun q' => hb (by simp [q'])) (fun q' => hb (by simp [q'])) (fun q' => hb (by simp [q'])) (fun q' => hb (by simp [q'])) q)) hf (Nat.le_refl _) new
    refine ⟨.ref s.heap.objs.size, _, I1, rfl, ⟨_, x, y, _, rfl, I.hok.fresh (Nat.le_refl _), rfl, rfl, fun l hl => by rw [inv_one I hl hqx]; exact hx, fun l hl => by rw [inv_one I hl hqy]; exact hy⟩, ⟨z'', ?_, ⟨v1, v2, ?_⟩, ?_, ?_⟩, fun c hcm => ?_⟩
    · exact (sb.2 _ D.TIz).trans (hk _ _ D.TIz D.TITO D.TIi1 D.TIi2 hTI)
    · exact (sb.2 _ D.TOz).trans TO'
    · exact itK_at st1.1 fun o q => (sb.2 _ D.i1z).trans q
    · exact itK_at st2.1 fun o q => (sb.2 _ D.i2z).trans q
    · have hlt : c < s.heap.objs.size := by
        have e' : c = z ∨ c = TI ∨ c = TO ∨ c = i1 ∨ c = i2 := by simpa using hcm
        rcases e' with q | q | q | q | q
        · rw [q]; exact hzl
        · rw [q]; exact Heap.lt_size hTI
        · rw [q]; exact Heap.lt_size hTO
        · rw [q]; obtain ⟨_, e1, _⟩ := itK_obj h1; exact Heap.lt_size e1
        · rw [q]; obtain ⟨_, e2, _⟩ := itK_obj h2; exact Heap.lt_size e2
      rw [upd_ne (Nat.ne_of_lt hlt)]
      exact (hf c hcm).1
  done := by
    intro X hP hw hK hc i pins s σ H E I hf st hg
    subst hP hw hK
    obtain ⟨hz, hTI, ⟨x0, y0, hTO⟩, h1, h2⟩ := st
    obtain ⟨xs, ys, hqx, hqy, g1, g2, g3⟩ := hg
    obtain ⟨its, rv, p, _⟩ := inv_sq I hqx
    obtain ⟨its2, rv2, p2, _⟩ := inv_sq I hqy
    have l1 := rv.length
    have l2 := rv2.length
    have hh : X.A.in1.handled = none := I.ok.hd hc
    exact wpAny_pyNext_zipD2_end (sep_of D) (drawsK k hh i1 a D.l1i1 its.toArray) (drawsK k' hh i2 b D.l2i2 its2.toArray) hz hTI hTO ⟨h1, p⟩ ⟨h2, p2⟩ (by simp; omega) (by simp; omega) (by simp; omega) fun h' tk hk => ⟨rfl, I.turnedL (t' := tk) (ch := [z, TI, TO, i1, i2]) (fun c o hb q =>
      hk c o (fun q' => hb (by simp [q'])) (fun q' => hb (by simp [q'])) (fun q' => hb (by simp [q'])) (fun q' => hb (by simp [q'])) q) hf⟩
  self := fun A i s Q E st h => wpAny_pyIter_zip st.1 h
def iZipK (K : PySem.W.Frag) (ta : TA) : TI := fun σ H R => ta σ H fun vs H1 => ∃ a b xs ys k k', vs = [.ref a, .ref b] ∧ SqK k K H1 a xs ∧ SqK k' K H1 b ys ∧ R (ItzK K k k' a b) H1
theorem pi_zipK {X : Cx} {e e2 : Expr} {ta : TA} {p pos tpos : Pos} {elts : List Expr} {kk : Nat} (hg : Gl X "zip") (hm : X.mg "zip" = none) (ha : PA X [e, e2] ta)
    (hs : starEach [e, e2] X.env = (false, eval e X.env) :: starEach [e2] X.env) (hpl : (backTo pos (starEach [e2] X.env)).any (·.1) = false) :
    PI X (.Tuple elts kk tpos) (.Call (.Name "zip" p) [e, e2] [] pos) (iZipK X.K ta) := by
  refine ⟨fun pins s σ H R I h => ?_⟩
  refine Call_ (ld_blt I hg hm PyProof.Rows.boot_zip (PyProof.Rows.callWith_type1 (thn (ha.run pos pins s σ H _ I h) fun us s1 ⟨vs, H1, I1, r1, q1⟩ => ?_) hs hpl))
  obtain ⟨a, b, xs, ys, k, k', ex, hqx, hqy, q⟩ := q1
  subst ex
  cases r1 with
  | cons r rr =>
    cases rr with
    | cons r' rr =>
      cases rr
      cases r
      cases r'
      have fresh5 : ∀ c, c ∈ [s1.heap.objs.size + 4, s1.heap.objs.size + 2, s1.heap.objs.size + 3, s1.heap.objs.size, s1.heap.objs.size + 1] → FpOk X pins H1 c := fun c hcm => by
        have e' : c = s1.heap.objs.size + 4 ∨ c = s1.heap.objs.size + 2 ∨ c = s1.heap.objs.size + 3 ∨ c = s1.heap.objs.size ∨ c = s1.heap.objs.size + 1 := by simpa using hcm
        have hle : s1.heap.objs.size ≤ c := by
          rcases e' with z | z | z | z | z
          · rw [z]; exact Nat.le_add_right _ _
          · rw [z]; exact Nat.le_add_right _ _
          · rw [z]; exact Nat.le_add_right _ _
          · rw [z]; exact Nat.le_refl _
          · rw [z]; exact Nat.le_add_right _ _
        exact I1.fpOk hle (I1.hok.fresh hle)
      obtain ⟨its, rv, p1, la⟩ := inv_sq I1 hqx
      obtain ⟨its2, rv2, p2, lb⟩ := inv_sq I1 hqy
      refine zip_begins2 (beginsK k a its.toArray) (beginsK k' b its2.toArray) p1 p2 fun h' hz hTI hTO h1 h2 hsz hk => wpAny_pyIter_zip hz ?_
      have I2 : Inv X pins σ H1 { s1 with heap := h' } := I1.kept (t' := s1.toks) hk
      exact ⟨s1.heap.objs.size + 4, [s1.heap.objs.size + 4, s1.heap.objs.size + 2, s1.heap.objs.size + 3, s1.heap.objs.size, s1.heap.objs.size + 1], _, _, H1, rfl, I2, turn_zipK (PySem.W.ktu_apart s1.heap.objs.size a b la lb), ⟨hz, hTI, ⟨_, _, hTO⟩, itK_new h1, itK_new h2⟩, fresh5, q⟩
end PV
end

section
set_option Elab.async false
set_option linter.all false
set_option maxRecDepth 100000
/-! PV8: targets, what is walked. -/
namespace PV
open PySem PySem.Spec PyProof.Rows L2

/-! ### enumerate of a tuple -/
theorem meets_enum1 {v : Value} {o : Obj} {H : Heap → Prop} (B : Begins v o H) :
    Meets (Builtin.«enumerate.__new__» ⟨[.type "enumerate", v], []⟩) (fun _ R s => H s.heap ∧
      R (.ok (.ret (.ref (s.heap.push o).objs.size))) { s with heap := (s.heap.push o).push { cls := .type "enumerate", data := .fields #[.none, .bool false, .ref s.heap.objs.size, rawInt 0, .none, .none] } }) :=
  .of_wp fun prog w A R s h => by
    obtain ⟨hp, g, d, tk, os⟩ := s; obtain ⟨h1, h⟩ := h
    have hsub := sub_enumerate
    have q1 : ∀ {A' : Around} {E : Value → Shared → Prop} {Q : Value → Shared → Prop}, Q (.ref hp.objs.size) ⟨hp.push o, g, d, tk, os⟩ → wpAny (model prog w) A' (pyIter v) Q E ⟨hp, g, d, tk, os⟩ :=
      fun q => B.iter prog w _ _ ⟨hp, g, d, tk, os⟩ _ h1 q
    wp_walk using q1
    refine wpAny_stack_any fun st => wpAny_pure ?_
    split
    · rename_i c _ _ _ _ _
      cases (c == Value.type "enumerate")
      · wp_walk using q1
        exact ⟨_, rfl, h⟩
      · wp_walk using q1
        exact ⟨_, rfl, h⟩
    · wp_walk using q1
      exact ⟨_, rfl, h⟩
theorem call_enum1 {prog : Program} {w : World} {A : Around} {E : Value → Shared → Prop} {s : Shared} {v : Value} {o : Obj} {H : Heap → Prop} {Q : Value → Shared → Prop} (B : Begins v o H) (h1 : H s.heap)
    (h : ∀ h', IsEnum h' (s.heap.objs.size + 1) s.heap.objs.size 0 .none → h'.get? s.heap.objs.size = some o → h'.objs.size = s.heap.objs.size + 2 →
      (∀ b o, s.heap.get? b = some o → h'.get? b = some o) → Q (.ref (s.heap.objs.size + 1)) { s with heap := h' }) :
    wpAny (model prog w) A (call (.type "enumerate") [v]) Q E s := by
  refine callType_new F.called_enumerate (by decide) (F.typeCall_enumerate_1 _) (F.newCall_enumerate_1 _) (fun obj => F.args_object_init_2 obj _) F.entry_enumerate_new
    (meets_enum1 B) ⟨h1, ?_⟩
  have hz : (s.heap.push o).objs.size = s.heap.objs.size + 1 := Heap.size_push ..
  show _ ∧ _
  rw [hz]
  have he : IsEnum ((s.heap.push o).push { cls := .type "enumerate", data := .fields #[.none, .bool false, .ref s.heap.objs.size, rawInt 0, .none, .none] }) (s.heap.objs.size + 1) s.heap.objs.size 0 .none := by
    have := Heap.get?_push_size (s.heap.push o) (o := { cls := .type "enumerate", data := .fields #[.none, .bool false, .ref s.heap.objs.size, rawInt 0, .none, .none] }) rfl
    rw [hz] at this; exact this
  refine ⟨⟨_, he, rfl⟩, h _ he (Heap.get?_push_of_some _ (Heap.get?_push_size _ B.free)) (by rw [Heap.size_push, hz]) fun b o x => Heap.get?_push_of_some _ (Heap.get?_push_of_some _ x)⟩
def IteK (K : PySem.W.Frag) (k : Bool) (a : Addr) : L2.It :=
  ⟨fun i H => ∃ (xs : List V) (x : V), SqK k K H a xs ∧ xs[i]? = some x, fun i H v H' => ∃ T x o, v = .ref T ∧ H T = none ∧ o.dict = none ∧ H' = upd H T (.frz o (.tup [.int (i : Nat), x])) ∧ ∀ xs, SqK k K H a xs → xs[i]? = some x, fun i H => ∃ xs : List V, SqK k K H a xs ∧ xs.length = i⟩
theorem turn_enumK {k : Bool} {P : Program} {w : World} {K : PySem.W.Frag} {tg : Expr} (htg : ∃ elts kk tpos, tg = .Tuple elts kk tpos) (a e it : Addr) :
    Turn P w K tg (IteK K k a) [e, it] e (fun i h => (∃ old, IsEnum h e it ((i : Nat) : Int) old) ∧ itK k h it a i ∧ e ≠ it ∧ a ≠ it ∧ e ≠ a) where
  mem := by simp
  obj := fun i h st b hb => by
    obtain ⟨⟨old, he⟩, hit, _⟩ := st
    have e' : b = e ∨ b = it := by simpa using hb
    rcases e' with z | z
    · rw [z]; exact ⟨_, he, fun v q => nomatch q⟩
    · rw [z]; exact itK_obj hit
  keep := fun i h h' st k => let ⟨⟨old, he⟩, hi, hne⟩ := st; ⟨⟨old, k e (by simp) _ he⟩, itK_at hi fun o q => k it (by simp) o q, hne⟩
  item := by
    obtain ⟨elts, kk, tpos, rfl⟩ := htg
    intro X hP hw hK hc i pins s σ H E I hf st hg
    subst hP hw hK
    obtain ⟨⟨old, he⟩, hit, hne, hai, hea⟩ := st
    obtain ⟨xs, x, hq, hx⟩ := hg
    obtain ⟨its, rv, hp, hal⟩ := inv_sq I hq
    obtain ⟨u, hu, ru⟩ := rv.get hx
    have hel : e < s.heap.objs.size := Heap.lt_size he
    have hil : it < s.heap.objs.size := by obtain ⟨_, q, _⟩ := itK_obj hit; exact Heap.lt_size q
    have hlt : i < its.toArray.size := by
      have := (List.getElem?_eq_some_iff.mp hu).1
      simpa using this
    refine wpAny_pyNext_enum_itemD (drawsK k (A := X.A.in1) (I.ok.hd hc) it a hai its.toArray) he ⟨hit, hp⟩ hlt hne (by simp [hne, hea]) fun u' h' tk hP' ho st' hT hsz hk => ?_
    have eu : u' = u := by
      have q1 : its.toArray[i]? = some u' := hP'
      have q2 : its.toArray[i]? = some u := by simpa using hu
      rw [q1] at q2; exact Option.some.inj q2
    subst eu
    obtain ⟨hit', _⟩ := st'
    refine ⟨_, rfl, wpAny_letOwnedTupleGo_enum (s := { s with heap := h', toks := tk + 1 }) ho fun h'' he' sb => ?_⟩
    have hT2 : h''.get? s.heap.objs.size = some (bT [.int i tk, u']) := (sb.2 _ (Nat.ne_of_gt hel)).trans hT
    have new : ObjOk X.prog X.w (upd H s.heap.objs.size (.frz (bT [.int i tk, u']) (.tup [.int (i : Nat), x]))) h'' s.heap.objs.size (.frz (bT [.int i tk, u']) (.tup [.int (i : Nat), x])) :=
      ⟨hT2, by show 2 ≤ sizeLine; decide, [.int i tk, u'], .cons ⟨_, rfl⟩ (.cons ru .nil), ⟨_, hT2, rfl, _, rfl⟩⟩
    have I1 : Inv X pins σ (upd H s.heap.objs.size (.frz (bT [.int i tk, u']) (.tup [.int (i : Nat), x]))) { s with heap := h'', toks := tk + 1 } :=
      I.turnedNew (ch := [e, it]) (fun b ob hb q => (sb.2 b (fun z => hb (by simp [z]))).trans (hk b ob (fun z => hb (by simp [z])) (fun z => hb (by simp [z])) q)) hf (Nat.le_refl _) new
    refine ⟨.ref s.heap.objs.size, _, I1, rfl, ⟨_, x, _, rfl, I.hok.fresh (Nat.le_refl _), rfl, rfl, fun ys hy => by rw [inv_one I hy hq]; exact hx⟩, ⟨⟨u', ?_⟩, itK_at hit' fun o q => (sb.2 it (Ne.symm hne)).trans q, hne, hai, hea⟩, fun b hb => ?_⟩
    · have e1 : ((i + 1 : Nat) : Int) = (i : Int) + 1 := by omega
      rw [e1]; exact he'
    · have hb' : b < s.heap.objs.size := by
        have e' : b = e ∨ b = it := by simpa using hb
        rcases e' with z | z
        · rw [z]; exact hel
        · rw [z]; exact hil
      rw [upd_ne (Nat.ne_of_lt hb')]
      exact (hf b hb).1
  done := by
    intro X hP hw hK hc i pins s σ H E I hf st hg
    subst hP hw hK
    obtain ⟨⟨old, he⟩, hit, hne, hai, hea⟩ := st
    obtain ⟨xs, hq, hx⟩ := hg
    obtain ⟨its, rv, hp, hal⟩ := inv_sq I hq
    obtain ⟨f0, f1, f2, f3, f4, f5⟩ := hf it (by simp)
    have hl := rv.length
    have hx' : i = its.toArray.size := by rw [List.size_toArray, ← hl, hx]
    exact wpAny_pyNext_enum_endD (drawsK k (A := X.A.in1) (I.ok.hd hc) it a hai its.toArray) he ⟨hx' ▸ hit, hp⟩ fun h' eb => ⟨rfl, I.turned (t' := s.toks) (fun b o hb q => eb b o hb q) f0 f1 f3 f4 f5⟩
  self := fun A i s Q E st h => let ⟨⟨_, he⟩, _⟩ := st; wpAny_pyIter_enum he h
def iEnumA (K : PySem.W.Frag) (ta : TA) : TI := fun σ H R => ta σ H fun vs H1 => ∃ a xs k, vs = [.ref a] ∧ SqK k K H1 a xs ∧ R (IteK K k a) H1
theorem pi_enumA {X : Cx} {e : Expr} {ta : TA} {p pos tpos : Pos} {elts : List Expr} {kk : Nat} (hg : Gl X "enumerate") (hm : X.mg "enumerate" = none) (ha : PA X [e] ta) (hs : starEach [e] X.env = (false, eval e X.env) :: starEach [] X.env) :
    PI X (.Tuple elts kk tpos) (.Call (.Name "enumerate" p) [e] [] pos) (iEnumA X.K ta) := by
  refine ⟨fun pins s σ H R I h => ?_⟩
  refine Call_ (ld_blt I hg hm boot_enumerate (PyProof.Rows.callWith_type1 (thn (ha.run pos pins s σ H _ I h) fun us s1 ⟨vs, H1, I1, r1, q1⟩ => ?_) hs rfl))
  obtain ⟨a, xs, k, ex, hq, q⟩ := q1
  subst ex
  cases r1 with
  | cons r rr =>
    cases rr
    cases r
    have fresh : ∀ b ∈ [s1.heap.objs.size + 1, s1.heap.objs.size], FpOk X pins H1 b := fun b hb => by
      have e' : b = s1.heap.objs.size + 1 ∨ b = s1.heap.objs.size := by simpa using hb
      have hle : s1.heap.objs.size ≤ b := by
        rcases e' with z | z
        · rw [z]; exact Nat.le_add_right _ _
        · rw [z]; exact Nat.le_refl _
      exact I1.fpOk hle (I1.hok.fresh hle)
    obtain ⟨its, rv, p', la⟩ := inv_sq I1 hq
    refine call_enum1 (beginsK k a its.toArray) p' fun h' he hit hsz hk => wpAny_pyIter_enum he ?_
    have I2 : Inv X pins σ H1 { s1 with heap := h' } := I1.kept (t' := s1.toks) hk
    exact ⟨s1.heap.objs.size + 1, [s1.heap.objs.size + 1, s1.heap.objs.size], _, _, H1, rfl, I2, turn_enumK ⟨elts, kk, tpos, rfl⟩ a (s1.heap.objs.size + 1) s1.heap.objs.size, ⟨⟨.none, he⟩, itK_new hit, Nat.succ_ne_self _, Nat.ne_of_lt la, Nat.ne_of_gt (Nat.lt_succ_of_lt la)⟩, fresh, q⟩
def iSeq (K : PySem.W.Frag) (tl : TE) : TI := fun σ H R => tl σ H fun x H1 => ∃ a xs, x = .ref a ∧ ((SqL K H1 a xs ∧ R (Itl K a) H1) ∨ (SqT K H1 a xs ∧ R (Itt K a) H1))
theorem pi_seq {X : Cx} {tg l : Expr} {tl : TE} (hl : PE X l tl) : PI X tg l (iSeq X.K tl) := by
  refine ⟨fun pins s σ H R I h => ?_⟩
  refine thn (hl.run pins s σ H _ I h) fun v s1 ⟨x, H1, I1, r1, q1⟩ => ?_
  obtain ⟨a, xs, e, q1⟩ := q1
  subst e
  cases r1
  rcases q1 with ⟨hq, q⟩ | ⟨hq, q⟩
  · obtain ⟨its, rv, p, hz⟩ := I1.list hq
    refine wpAny_pyIter_list p.isList ?_
    refine ⟨s1.heap.objs.size, [s1.heap.objs.size], _, _, H1, rfl, I1.kept (t' := s1.toks) fun b o e => Heap.get?_push_of_some _ e, turn_list a _, ⟨_, Heap.get?_push_size _ rfl, rfl, rfl⟩, fun b hb => ?_, q⟩
    have e : b = s1.heap.objs.size := by simpa using hb
    subst e
    exact I1.fpOk (Nat.le_refl _) (I1.hok.fresh (Nat.le_refl _))
  · obtain ⟨its, rv, p, hz⟩ := I1.tuple hq
    refine wpAny_pyIter_tuple (show s1.heap.IsTuple a its.toArray from p) ?_
    refine ⟨s1.heap.objs.size, [s1.heap.objs.size], _, _, H1, rfl, I1.kept (t' := s1.toks) fun b o e => Heap.get?_push_of_some _ e, turn_tuple a _, ⟨_, Heap.get?_push_size _ rfl, rfl, rfl⟩, fun b hb => ?_, q⟩
    have e : b = s1.heap.objs.size := by simpa using hb
    subst e
    exact I1.fpOk (Nat.le_refl _) (I1.hok.fresh (Nat.le_refl _))

/-! ### targets -/
mutual
def tgSl : Tg → List Nat
  | .nm i => [i]
  | .tup ts => tgsSl ts
def tgsSl : Tgs → List Nat
  | .nil => []
  | .cons t r => tgSl t ++ tgsSl r
end
def tgsLen : Tgs → Nat
  | .nil => 0
  | .cons _ r => tgsLen r + 1
theorem asgTs_len : ∀ {ts : Tgs} {ys : List EV} {env env' : Env}, asgTs ts ys env = some env' → ys.length = tgsLen ts
  | .nil, [], _, _, _ => rfl
  | .nil, _ :: _, _, _, h => by simp [asgTs] at h
  | .cons _ _, [], _, _, h => by simp [asgTs] at h
  | .cons t r, y :: ys, env, env', h => by
    unfold asgTs at h
    split at h
    · have := asgTs_len h
      simp [tgsLen, this]
    · cases h
theorem RepE.set {K : PySem.W.Frag} {xa : List (Addr × Str)} {F : Hp} {ρ : List Addr} {σ : L2.St} {env : Env} {i : Nat} {v : V} {y : EV} (E : RepE K xa F ρ σ env) (h : RepV K xa F ρ v y) : RepE K xa F ρ (σ.set i (some v)) (env.set i (some y)) := by
  refine ⟨by simp [E.1], fun j z hj => ?_⟩
  by_cases e : i = j
  · subst e
    have hl : i < env.length := by
      have := (List.getElem?_eq_some_iff.mp hj).1
      simpa using this
    rw [List.getElem?_set_self hl] at hj
    cases hj
    exact ⟨v, by rw [List.getElem?_set_self (by rw [E.1]; exact hl)], h⟩
  · rw [List.getElem?_set_ne e] at hj
    obtain ⟨x, h1, h2⟩ := E.2 j z hj
    exact ⟨x, by rw [List.getElem?_set_ne e]; exact h1, h2⟩
theorem RepE.unset {K : PySem.W.Frag} {xa : List (Addr × Str)} {F : Hp} {ρ : List Addr} {σ : L2.St} {env : Env} {i : Nat} (E : RepE K xa F ρ σ env) : RepE K xa F ρ (σ.set i none) (env.set i none) := by
  refine ⟨by simp [E.1], fun j z hj => ?_⟩
  by_cases e : i = j
  · subst e
    have hl : i < env.length := by
      have := (List.getElem?_eq_some_iff.mp hj).1
      simpa using this
    rw [List.getElem?_set_self hl] at hj
    cases hj
  · rw [List.getElem?_set_ne e] at hj
    obtain ⟨x, h1, h2⟩ := E.2 j z hj
    exact ⟨x, by rw [List.getElem?_set_ne e]; exact h1, h2⟩
theorem RepE.wipe {K : PySem.W.Frag} {xa : List (Addr × Str)} {F : Hp} {ρ : List Addr} {σ : L2.St} {env : Env} (E : RepE K xa F ρ σ env) : ∀ vs, RepE K xa F ρ (L2.wipe σ vs) (wipeE env vs)
  | [] => E
  | v :: vs => by
    unfold L2.wipe wipeE
    exact (RepE.wipe E vs).unset

section
variable {X : Cx} {xa : List (Addr × Str)} {ec : Nat → Addr} {cf : CF} {W : WX} {a b c : Expr} {pos : Pos} {ea eb ec' : Ex}
def tG (X : Cx) (xa : List (Addr × Str)) (t : Tg) : TG := fun v σ H Q => ∃ F ρ m env y env', Rep X.K xa F ρ m H ∧ RepE X.K xa F ρ σ env ∧ RepV X.K xa F ρ v y ∧ asgM m t y env = some env' ∧
  ∀ σ', RepE X.K xa F ρ σ' env' → σ'.length = σ.length → (∀ j, j ∉ tgSl t → σ'[j]? = σ[j]?) → Q σ' H
def tGs (X : Cx) (xa : List (Addr × Str)) (t : Tgs) : TGs := fun vs σ H Q => ∃ F ρ m env ys env', Rep X.K xa F ρ m H ∧ RepE X.K xa F ρ σ env ∧ RepVs X.K xa F ρ vs ys ∧ asgTs t ys env = some env' ∧
  ∀ σ', RepE X.K xa F ρ σ' env' → σ'.length = σ.length → (∀ j, j ∉ tgsSl t → σ'[j]? = σ[j]?) → Q σ' H
theorem asgM_of {m : Mem} {t : Tg} {y : EV} {env env' : Env} (h : asgT t y env = some env') : asgM m t y env = some env' := by
  cases t with
  | nm i => simpa [asgT, asgM] using h
  | tup ts =>
    cases y with
    | loc n => simp [asgT] at h
    | d x => exact h
    | exc c fs => exact h
    | ro xs => exact h
theorem pg_mono {e : Expr} {t t' : TG} (h : PG X e t) (k : ∀ v σ H Q, t' v σ H Q → t v σ H Q) : PG X e t' := ⟨fun pins s σ H v u Q I r q => h.run pins s σ H v u Q I r (k v σ H Q q)⟩
theorem pgs_mono {e : List Expr} {t t' : TGs} (h : PGs X e t) (k : ∀ v σ H Q, t' v σ H Q → t v σ H Q) : PGs X e t' := ⟨fun pins s σ H v u Q I r q => h.run pins s σ H v u Q I r (k v σ H Q q)⟩
theorem g_name {i : Nat} {x : Str} (hN : X.N.Nodup) (hi : X.N[i]? = some x) (hx : Loc X.env.scope x) (hf : X.fn x = true ∨ X.env.scope.names.lookup x = some .local) : PG X (.Name x pos) (tG X xa (.nm i)) := by
  refine pg_mono (pg_name hN hi hx hf) fun v σ H Q ⟨F, ρ, m, env, y, env', R, E, rv, e, q⟩ => ?_
  have e : some (env.set i (some y)) = some env' := by simpa [asgM] using e
  cases e
  refine q _ (E.set rv) (by simp) fun j hj => ?_
  have : i ≠ j := fun z => hj (by simp [tgSl, z])
  exact List.getElem?_set_ne this
theorem gs_nil : PGs X [] (tGs X xa .nil) := by
  refine pgs_mono pgs_nil fun v σ H Q ⟨F, ρ, m, env, ys, env', R, E, rv, e, q⟩ => ?_
  cases ys with
  | nil =>
    cases rv
    have e : some env = some env' := by simpa [asgTs] using e
    cases e
    exact ⟨rfl, q σ E rfl fun _ _ => rfl⟩
  | cons y ys => simp [asgTs] at e
theorem gs_cons {e : Expr} {es : List Expr} {t : Tg} {u : Tgs} (h1 : PG X e (tG X xa t)) (h2 : PGs X es (tGs X xa u))
    (hs : (assignEach (e :: es) X.env).map (·.2) = assign e X.env :: (assignEach es X.env).map (·.2)) : PGs X (e :: es) (tGs X xa (.cons t u)) := by
  refine pgs_mono (pgs_cons h1 h2 hs) fun v σ H Q ⟨F, ρ, m, env, ys, env', R, E, rv, e, q⟩ => ?_
  cases ys with
  | nil => simp [asgTs] at e
  | cons y ys =>
    cases rv with
    | cons r1 r2 =>
      unfold asgTs at e
      split at e
      · rename_i env1 e1
        refine ⟨_, _, rfl, F, ρ, m, env, y, env1, R, E, r1, asgM_of e1, fun σ1 E1 l1 k1 => ?_⟩
        refine ⟨F, ρ, m, env1, ys, env', R, E1, r2, e, fun σ2 E2 l2 k2 => q σ2 E2 (l2.trans l1) fun j hj => ?_⟩
        have hj : j ∉ tgSl t ∧ j ∉ tgsSl u := by simpa [tgsSl] using hj
        exact (k2 j hj.2).trans (k1 j hj.1)
      · cases e
theorem g_tup {es : List Expr} {k : Nat} {t : Tgs} (hc : X.calm = true) (h : PGs X es (tGs X xa t)) (hn : (assignEach es X.env).length = tgsLen t) (hst : (assignEach es X.env).findIdx? (·.1) = none) : PG X (.Tuple es k pos) (tG X xa (.tup t)) := by
  refine pg_mono (pg_tup hc h hn hst) fun v σ H Q ⟨F, ρ, m, env, y, env', R, E, rv, e, q⟩ => ?_
  cases y with
  | d x =>
    cases x with
    | tuple xs =>
      have e : asgTs t (xs.map .d) env = some env' := by simpa [asgM, asgT] using e
      have rv : Df X.K F v (.tuple xs) := rv
      cases rv with
      | tup h1 h2 l =>
        have hl := asgTs_len e
        refine ⟨_, _, rfl, sqT_mono R.le h1.t, ?_, F, ρ, m, env, xs.map .d, env', R, E, of_dfs h2, e, fun σ' E' l' k' => q σ' E' l' fun j hj => k' j (by simpa [tgSl] using hj)⟩
        rw [h2.len]
        simpa using hl
    | _ => simp [asgM, asgT] at e
  | loc n =>
    obtain ⟨ad, rfl, hρ⟩ := rv
    unfold asgM at e
    dsimp only at e
    split at e
    · rename_i xs em
      obtain ⟨l, ob, vs, g1, gd, g2⟩ := R.ob n ad _ hρ em
      have hl := asgTs_len e
      refine ⟨_, vs, rfl, .inl (.inr ⟨ob, g1⟩), ?_, F, ρ, m, env, xs, env', R, E, g2, e, fun σ' E' l' k' => q σ' E' l' fun j hj => k' j (by simpa [tgSl] using hj)⟩
      rw [Paired.length g2]
      exact hl
    · cases e
  | exc c fs => simp [asgM, asgT] at e
  | ro xs => simp [asgM, asgT] at e

/-! ### what is walked -/
/-- J gives what src has, while what was frozen stays -/
structure WalkS (K : PySem.W.Frag) (xa : List (Addr × Str)) (F1 : Hp) (ρ1 : List Addr) (J : L2.It) (src : Src) : Prop where
  len : src.len ≤ LIM
  go : ∀ (i : Nat) (F : Hp) (ρ : List Addr) (m : Mem) (H : Hp) (y : EV), i < src.len → Rep K xa F ρ m H → Same F1 F → (∃ ζ, ρ = ρ1 ++ ζ) → src.get m i = some y →
    J.go i H ∧ ∀ x H', J.yld i H x H' → ∃ F', Ext F ρ H F' ρ H' ∧ Rep K xa F' ρ m H' ∧ RepV K xa F' ρ x y
  stop : ∀ (F : Hp) (ρ : List Addr) (m : Mem) (H : Hp), Rep K xa F ρ m H → Same F1 F → (∃ ζ, ρ = ρ1 ++ ζ) → src.fin m = true → J.stop src.len H
/-- .. known from a state on -/
structure WalkE (K : PySem.W.Frag) (xa : List (Addr × Str)) (F1 : Hp) (ρ1 : List Addr) (H1 : Hp) (J : L2.It) (src : Src) : Prop where
  len : src.len ≤ LIM
  go : ∀ (i : Nat) (F : Hp) (ρ : List Addr) (m : Mem) (H : Hp) (y : EV), i < src.len → Rep K xa F ρ m H → Ext F1 ρ1 H1 F ρ H → src.get m i = some y →
    J.go i H ∧ ∀ x H', J.yld i H x H' → ∃ F', Ext F ρ H F' ρ H' ∧ Rep K xa F' ρ m H' ∧ RepV K xa F' ρ x y
  stop : ∀ (F : Hp) (ρ : List Addr) (m : Mem) (H : Hp), Rep K xa F ρ m H → Ext F1 ρ1 H1 F ρ H → src.fin m = true → J.stop src.len H
theorem WalkS.e {K : PySem.W.Frag} {F1 : Hp} {ρ1 : List Addr} {H1 : Hp} {J : L2.It} {src : Src} (w : WalkS K xa F1 ρ1 J src) : WalkE K xa F1 ρ1 H1 J src :=
  ⟨w.len, fun i F ρ m H y hi R e hx => w.go i F ρ m H y hi R e.fle e.pre' hx, fun F ρ m H R e hf => w.stop F ρ m H R e.fle e.pre' hf⟩
abbrev relI (X : Cx) (xa : List (Addr × Str)) (F : Hp) (ρ : List Addr) (J : L2.It) (src : Src) : Prop := WalkS X.K xa F ρ J src
def tI (X : Cx) (xa : List (Addr × Str)) (ec : Nat → Addr) (cf : CF) (W : WX) (it : PV.It) : TI := fun σ H R => ∃ F ρ m env, Rep X.K xa F ρ m H ∧ RepE X.K xa F ρ σ env ∧ Post X.K xa ec (relI X xa) (fun c d H => W c d σ H) F ρ H (evI cf it env m) R
theorem pi_mono {tg e : Expr} {t t' : TI} (h : PI X tg e t) (k : ∀ σ H Q, t' σ H Q → t σ H Q) : PI X tg e t' := ⟨fun pins s σ H Q I q => h.run pins s σ H Q I (k σ H Q q)⟩
theorem walk_fxL {K : PySem.W.Frag} {F1 : Hp} {ρ1 : List Addr} {a : Addr} {vs : List V} {xs : List D} (hl : xs.length ≤ LIM) (h : SqL K F1 a vs) (d : Dfs K F1 vs xs) : WalkS K xa F1 ρ1 (Itl K a) (.fx xs) := by
  refine ⟨hl, fun i F ρ m H y hi R hf hp e => ?_, fun F ρ m H R hf hp e => ?_⟩
  · obtain ⟨x, e1, rfl⟩ := map_some (show (xs[i]?).map EV.d = some y from e)
    obtain ⟨v, h1, h2⟩ := d.get e1
    have hq : SqL K H a vs := sqL_mono (Same.trans hf R.le) h
    refine ⟨⟨vs, v, hq, h1⟩, fun x' H' ⟨eH, q⟩ => ?_⟩
    subst eH
    have := q vs hq
    rw [h1] at this
    cases this
    exact ⟨F, Ext.refl _ _ _, R, Df.mono hf h2⟩
  · exact ⟨vs, sqL_mono (Same.trans hf R.le) h, by rw [d.len]; exact Nat.le_refl _⟩
theorem walk_fxT {K : PySem.W.Frag} {F1 : Hp} {ρ1 : List Addr} {a : Addr} {vs : List V} {xs : List D} (hl : xs.length ≤ LIM) (h : SqT K F1 a vs) (d : Dfs K F1 vs xs) : WalkS K xa F1 ρ1 (Itt K a) (.fx xs) := by
  refine ⟨hl, fun i F ρ m H y hi R hf hp e => ?_, fun F ρ m H R hf hp e => ?_⟩
  · obtain ⟨x, e1, rfl⟩ := map_some (show (xs[i]?).map EV.d = some y from e)
    obtain ⟨v, h1, h2⟩ := d.get e1
    have hq : SqT K H a vs := sqT_mono (Same.trans hf R.le) h
    refine ⟨⟨vs, v, hq, h1⟩, fun x' H' ⟨eH, q⟩ => ?_⟩
    subst eH
    have := q vs hq
    rw [h1] at this
    cases this
    exact ⟨F, Ext.refl _ _ _, R, Df.mono hf h2⟩
  · exact ⟨vs, sqT_mono (Same.trans hf R.le) h, by rw [d.len]; exact Nat.le_refl _⟩
theorem walk_lv {K : PySem.W.Frag} {F1 : Hp} {ρ1 : List Addr} {a : Addr} {n k : Nat} (hl : k ≤ LIM) (h : ρ1[n]? = some a) : WalkS K xa F1 ρ1 (Itl K a) (.lv n k) := by
  have at' : ∀ {ρ : List Addr}, (∃ ζ, ρ = ρ1 ++ ζ) → ρ[n]? = some a := fun ⟨ζ, e⟩ => by
    rw [e, List.getElem?_append_left (List.getElem?_eq_some_iff.mp h).1]
    exact h
  refine ⟨hl, fun i F ρ m H y hi R hf hp e => ?_, fun F ρ m H R hf hp e => ?_⟩
  · have e : (match m[n]? with | some (.lst ys) => if ys.length = k then ys[i]? else none | _ => none) = some y := e
    split at e
    · rename_i ys em
      split at e
      · obtain ⟨l, vs, h1, h2⟩ := R.ob n a _ (at' hp) em
        obtain ⟨v, h3, h4⟩ := RepVs.get h2 e
        refine ⟨⟨vs, v, SqL.of h1, h3⟩, fun x' H' ⟨eH, q⟩ => ?_⟩
        subst eH
        have := q vs (SqL.of h1)
        rw [h3] at this
        cases this
        exact ⟨F, Ext.refl _ _ _, R, h4⟩
      · cases e
    · cases e
  · have e : (match m[n]? with | some (.lst ys) => decide (ys.length = k) | _ => false) = true := e
    split at e
    · rename_i ys em
      obtain ⟨l, vs, h1, h2⟩ := R.ob n a _ (at' hp) em
      refine ⟨vs, SqL.of h1, ?_⟩
      rw [RepVs.len h2, of_decide_eq_true e]
      exact Nat.le_refl _
    · cases e
theorem walk_tv {K : PySem.W.Frag} {F1 : Hp} {ρ1 : List Addr} {a : Addr} {n k : Nat} (hl : k ≤ LIM) (h : ρ1[n]? = some a) : WalkS K xa F1 ρ1 (Itt K a) (.tv n k) := by
  have at' : ∀ {ρ : List Addr}, (∃ ζ, ρ = ρ1 ++ ζ) → ρ[n]? = some a := fun ⟨ζ, e⟩ => by
    rw [e, List.getElem?_append_left (List.getElem?_eq_some_iff.mp h).1]
    exact h
  refine ⟨hl, fun i F ρ m H y hi R hf hp e => ?_, fun F ρ m H R hf hp e => ?_⟩
  · have e : (match m[n]? with | some (.tp ys) => if ys.length = k then ys[i]? else none | _ => none) = some y := e
    split at e
    · rename_i ys em
      split at e
      · obtain ⟨l, ob, vs, h1, _, h2⟩ := R.ob n a _ (at' hp) em
        obtain ⟨v, h3, h4⟩ := RepVs.get h2 e
        have hs : SqT K H a vs := .inl (.inr ⟨ob, h1⟩)
        refine ⟨⟨vs, v, hs, h3⟩, fun x' H' ⟨eH, q⟩ => ?_⟩
        subst eH
        have := q vs hs
        rw [h3] at this
        cases this
        exact ⟨F, Ext.refl _ _ _, R, h4⟩
      · cases e
    · cases e
  · have e : (match m[n]? with | some (.tp ys) => decide (ys.length = k) | _ => false) = true := e
    split at e
    · rename_i ys em
      obtain ⟨l, ob, vs, h1, _, h2⟩ := R.ob n a _ (at' hp) em
      refine ⟨vs, .inl (.inr ⟨ob, h1⟩), ?_⟩
      rw [RepVs.len h2, of_decide_eq_true e]
      exact Nat.le_refl _
    · cases e
theorem enumL_get : ∀ (xs : List D) (k : Int) (i : Nat), (enumL k xs)[i]? = (xs[i]?).map fun x => .tuple [.int (k + (i : Int)), x]
  | [], _, _ => by simp [enumL]
  | x :: xs, k, 0 => by simp [enumL]
  | x :: xs, k, i + 1 => by
    simp only [enumL, List.getElem?_cons_succ, enumL_get xs (k + 1) i]
    congr 1
    funext y
    have : k + 1 + (i : Int) = k + ((i + 1 : Nat) : Int) := by omega
    rw [this]
theorem enumL_len : ∀ (xs : List D) (k : Int), (enumL k xs).length = xs.length
  | [], _ => rfl
  | x :: xs, k => by simp [enumL, enumL_len xs (k + 1)]
theorem zipL_get : ∀ (xs ys : List D) (i : Nat), (zipL xs ys)[i]? = match xs[i]?, ys[i]? with | some x, some y => some (.tuple [x, y]) | _, _ => none
  | [], ys, i => by simp [zipL]
  | x :: xs, [], i => by
    simp only [zipL, List.getElem?_nil]
    split <;> simp_all
  | x :: xs, y :: ys, 0 => by simp [zipL]
  | x :: xs, y :: ys, i + 1 => by simp only [zipL, List.getElem?_cons_succ, zipL_get xs ys i]
theorem zipL_len : ∀ (xs ys : List D), (zipL xs ys).length = min xs.length ys.length
  | [], ys => by simp [zipL]
  | x :: xs, [] => by simp [zipL]
  | x :: xs, y :: ys => by simp [zipL, zipL_len xs ys]
theorem rangeL_len (a b : Int) : (rangeL a b).length = (b - a).toNat := by simp [rangeL]
theorem rangeL_get (a b : Int) (i : Nat) (h : i < (b - a).toNat) : (rangeL a b)[i]? = some (.int (a + (i : Nat))) := by simp [rangeL, h]
/-- a new pair at T -/
theorem new_pair {K : PySem.W.Frag} {F H : Hp} {ρ : List Addr} {m : Mem} {T : Addr} {x y : V} {p q : D} {ob : Obj} (R : Rep K xa F ρ m H) (hT : H T = none) (hd : ob.dict = none) (h1 : Df K F x p) (h2 : Df K F y q) :
    ∃ F', Ext F ρ H F' ρ (upd H T (.frz ob (.tup [x, y]))) ∧ Rep K xa F' ρ m (upd H T (.frz ob (.tup [x, y]))) ∧ RepV K xa F' ρ (.ref T) (.d (.tuple [p, q])) := by
  obtain ⟨R', E'⟩ := R.put (o := .frz ob (.tup [x, y])) hT
  refine ⟨_, E', R', show Df K _ _ _ from .tup (SqB.of upd_same hd) (.cons (Df.mono E'.fle h1) (.cons (Df.mono E'.fle h2) .nil)) (by show 2 ≤ LIM; decide)⟩
theorem sqK_mono {k : Bool} {K : PySem.W.Frag} {F H : Hp} {a : Addr} {xs : List V} (h : Same F H) (q : SqK k K F a xs) : SqK k K H a xs := by
  cases k
  · exact sqL_mono h q
  · exact sqT_mono h q
theorem walk_enK {k : Bool} {K : PySem.W.Frag} {F1 : Hp} {ρ1 : List Addr} {a : Addr} {vs : List V} {xs : List D} (hl : xs.length ≤ LIM) (h : SqK k K F1 a vs) (d : Dfs K F1 vs xs) : WalkS K xa F1 ρ1 (IteK K k a) (.fx (enumL 0 xs)) := by
  refine ⟨by show (enumL 0 xs).length ≤ LIM; rw [enumL_len]; exact hl, fun i F ρ m H y hi R hf hp e => ?_, fun F ρ m H R hf hp e => ?_⟩
  · obtain ⟨z, e1, rfl⟩ := map_some (show ((enumL 0 xs)[i]?).map EV.d = some y from e)
    rw [enumL_get] at e1
    obtain ⟨x, e2, rfl⟩ := map_some e1
    obtain ⟨v, h1, h2⟩ := d.get e2
    have hq : SqK k K H a vs := sqK_mono (Same.trans hf R.le) h
    refine ⟨⟨vs, v, hq, h1⟩, fun x' H' ⟨T, v', ob, e3, hT, hd, e4, q⟩ => ?_⟩
    have := q vs hq
    rw [h1] at this
    cases this
    subst e3 e4
    have e5 : (0 : Int) + (i : Int) = ((i : Nat) : Int) := by omega
    rw [e5]
    exact new_pair R hT hd (.int _) (Df.mono hf h2)
  · exact ⟨vs, sqK_mono (Same.trans hf R.le) h, by rw [d.len]; show xs.length = (enumL 0 xs).length; rw [enumL_len]⟩
theorem zipL_some {xs ys : List D} {i : Nat} {z : D} (h : (zipL xs ys)[i]? = some z) : ∃ x y, xs[i]? = some x ∧ ys[i]? = some y ∧ z = .tuple [x, y] := by
  rw [zipL_get] at h
  split at h
  · rename_i x y e1 e2
    cases h
    exact ⟨x, y, e1, e2, rfl⟩
  · cases h
theorem walk_zpK {k k' : Bool} {K : PySem.W.Frag} {F1 : Hp} {ρ1 : List Addr} {a b : Addr} {vs ws : List V} {xs ys : List D} (hl : xs.length ≤ LIM) (h : SqK k K F1 a vs) (d : Dfs K F1 vs xs) (h' : SqK k' K F1 b ws) (d' : Dfs K F1 ws ys) : WalkS K xa F1 ρ1 (ItzK K k k' a b) (.fx (zipL xs ys)) := by
  refine ⟨by show (zipL xs ys).length ≤ LIM; rw [zipL_len]; omega, fun i F ρ m H y hi R hf hp e => ?_, fun F ρ m H R hf hp e => ?_⟩
  · obtain ⟨z, e1, rfl⟩ := map_some (show ((zipL xs ys)[i]?).map EV.d = some y from e)
    obtain ⟨x1, x2, e2, e3, rfl⟩ := zipL_some e1
    obtain ⟨v, h1, h2⟩ := d.get e2
    obtain ⟨w, h3, h4⟩ := d'.get e3
    have hq := sqK_mono (Same.trans hf R.le) h
    have hq' := sqK_mono (Same.trans hf R.le) h'
    refine ⟨⟨vs, ws, v, w, hq, hq', h1, h3⟩, fun x' H' ⟨T, v', w', ob, e3, hT, hd, e4, q, q'⟩ => ?_⟩
    have i1 := q vs hq
    have i2 := q' ws hq'
    rw [h1] at i1
    rw [h3] at i2
    cases i1
    cases i2
    subst e3 e4
    exact new_pair R hT hd (Df.mono hf h2) (Df.mono hf h4)
  · refine ⟨vs, ws, sqK_mono (Same.trans hf R.le) h, sqK_mono (Same.trans hf R.le) h', ?_⟩
    rw [d.len, d'.len]
    show (zipL xs ys).length ≤ xs.length ∧ (zipL xs ys).length ≤ ys.length ∧ (xs.length = (zipL xs ys).length ∨ ys.length = (zipL xs ys).length)
    rw [zipL_len]
    omega
theorem walk_rg {K : PySem.W.Frag} {F1 : Hp} {ρ1 : List Addr} {i j : Int} (hl : j - i ≤ (LIM : Int)) : WalkS K xa F1 ρ1 (Itr i (j - i).toNat) (.fx (rangeL i j)) := by
  refine ⟨by show (rangeL i j).length ≤ LIM; rw [rangeL_len]; omega, fun k F ρ m H y hi R hf hp e => ?_, fun F ρ m H R hf hp e => ?_⟩
  · obtain ⟨z, e1, rfl⟩ := map_some (show ((rangeL i j)[k]?).map EV.d = some y from e)
    have hk : k < (j - i).toNat := by
      have := (List.getElem?_eq_some_iff.mp e1).1
      rw [rangeL_len] at this
      exact this
    rw [rangeL_get i j k hk] at e1
    cases e1
    refine ⟨hk, fun x' H' ⟨eH, q⟩ => ?_⟩
    subst eH q
    exact ⟨F, Ext.refl _ _ _, R, show Df K F _ _ from .int _⟩
  · show (j - i).toNat ≤ (rangeL i j).length
    rw [rangeL_len]
    exact Nat.le_refl _

theorem i_sq {tg : Expr} (ha : PE X a (tE X xa ec cf W ea)) : PI X tg a (tI X xa ec cf W (.sq ea)) := by
  refine pi_mono (pi_seq ha) fun σ H Q ⟨F, ρ, m, env, R, E, P⟩ => ?_
  refine ⟨F, ρ, m, env, R, E, Post.bind (rel' := relI X xa) P fun x m1 F1 ρ1 H1 v e1 E1 R1 rv P1 => ?_⟩
  cases x with
  | d p =>
    obtain ⟨src, e2, P2⟩ := P1.of
    obtain ⟨xs, e3, rfl⟩ := map_some e2
    cases p with
    | list ys =>
      have e3 : some ys = some xs := e3
      cases e3
      have rv : Df X.K F1 v (.list xs) := rv
      cases rv with
      | lst h1 h2 l =>
        have hq : SqL X.K F1 _ _ := SqL.of h1
        exact ⟨_, _, rfl, .inl ⟨sqL_mono R1.le hq, P2.now R1 (walk_fxL l hq h2)⟩⟩
    | tuple ys =>
      have e3 : some ys = some xs := e3
      cases e3
      have rv : Df X.K F1 v (.tuple xs) := rv
      cases rv with
      | tup h1 h2 l => exact ⟨_, _, rfl, .inr ⟨sqT_mono R1.le h1.t, P2.now R1 (walk_fxT l h1.t h2)⟩⟩
    | none => cases e3
    | bool _ => cases e3
    | int _ => cases e3
    | str _ => cases e3
    | dict _ => cases e3
  | loc n =>
    obtain ⟨a, rfl, e2⟩ := rv
    dsimp only at P1
    split at P1
    · rename_i ys em
      obtain ⟨l, vs, h1, h2⟩ := R1.ob n a _ e2 em
      exact ⟨a, vs, rfl, .inl ⟨SqL.of h1, P1.now R1 (walk_lv l e2)⟩⟩
    · rename_i ys em
      obtain ⟨l, ob, vs, h1, _, h2⟩ := R1.ob n a _ e2 em
      exact ⟨a, vs, rfl, .inr ⟨.inl (.inr ⟨ob, h1⟩), P1.now R1 (walk_tv l e2)⟩⟩
    · exact False.elim P1
  | exc _ _ => exact False.elim P1
  | ro _ => exact False.elim P1
theorem tE_one (ha : PE X a (tE X xa ec cf W ea)) (hs : starEach [a] X.env = (false, eval a X.env) :: starEach [] X.env) : PA X [a] (fun σ H Q => tE X xa ec cf W ea σ H fun v H1 => Q [v] H1) :=
  pa_cons ha pa_nil hs
theorem i_en {elts : List Expr} {kk : Nat} {tpos p : Pos} (hg : Gl X "enumerate") (hm : X.mg "enumerate" = none) (ha : PE X a (tE X xa ec cf W ea)) (hs : starEach [a] X.env = (false, eval a X.env) :: starEach [] X.env) :
    PI X (.Tuple elts kk tpos) (.Call (.Name "enumerate" p) [a] [] pos) (tI X xa ec cf W (.en ea)) := by
  refine pi_mono (pi_enumA hg hm (tE_one ha hs) hs) fun σ H Q ⟨F, ρ, m, env, R, E, P⟩ => ?_
  refine ⟨F, ρ, m, env, R, E, Post.bind (rel' := relI X xa) P fun x m1 F1 ρ1 H1 v e1 E1 R1 rv P1 => ?_⟩
  cases x with
  | d p =>
    obtain ⟨src, e2, P2⟩ := P1.of
    obtain ⟨xs, e3, rfl⟩ := map_some e2
    cases p with
    | list ys =>
      have e3 : some ys = some xs := e3
      cases e3
      have rv : Df X.K F1 v (.list xs) := rv
      cases rv with
      | lst h1 h2 l =>
        have hq : SqL X.K F1 _ _ := SqL.of h1
        exact ⟨_, _, false, rfl, sqL_mono R1.le hq, P2.now R1 (walk_enK (k := false) l hq h2)⟩
    | tuple ys =>
      have e3 : some ys = some xs := e3
      cases e3
      have rv : Df X.K F1 v (.tuple xs) := rv
      cases rv with
      | tup h1 h2 l => exact ⟨_, _, true, rfl, sqT_mono R1.le h1.t, P2.now R1 (walk_enK (k := true) l h1.t h2)⟩
    | none => cases e3
    | bool _ => cases e3
    | int _ => cases e3
    | str _ => cases e3
    | dict _ => cases e3
  | loc n => exact False.elim P1
  | exc _ _ => exact False.elim P1
  | ro _ => exact False.elim P1
theorem i_zp {elts : List Expr} {kk : Nat} {tpos p : Pos} (hg : Gl X "zip") (hm : X.mg "zip" = none) (ha : PE X a (tE X xa ec cf W ea)) (hb : PE X b (tE X xa ec cf W eb)) (hs : starEach [a, b] X.env = (false, eval a X.env) :: starEach [b] X.env) (hs2 : starEach [b] X.env = (false, eval b X.env) :: starEach [] X.env)
    (hpl : (backTo pos (starEach [b] X.env)).any (·.1) = false) : PI X (.Tuple elts kk tpos) (.Call (.Name "zip" p) [a, b] [] pos) (tI X xa ec cf W (.zp ea eb)) := by
  refine pi_mono (pi_zipK hg hm (pa_cons ha (tE_one hb hs2) hs) hs hpl) fun σ H Q ⟨F, ρ, m, env, R, E, P⟩ => ?_
  refine ⟨F, ρ, m, env, R, E, Post.bind (rel' := relI X xa) P fun x m1 F1 ρ1 H1 v e1 E1 R1 rv P1 => ?_⟩
  refine ⟨F1, ρ1, m1, env, R1, E.ext E1, Post.bind (rel' := relI X xa) P1 fun y m2 F2 ρ2 H2 u e2 E2 R2 ru P2 => ?_⟩
  have rv2 := rv.ext E2
  have L : ∀ {v : V} {xs : List D}, Df X.K F2 v (.list xs) → ∃ a vs, v = .ref a ∧ SqK false X.K F2 a vs ∧ Dfs X.K F2 vs xs ∧ xs.length ≤ LIM := fun h => by
    cases h with
    | lst h1 h2 l => exact ⟨_, _, rfl, SqL.of h1, h2, l⟩
  have T : ∀ {v : V} {xs : List D}, Df X.K F2 v (.tuple xs) → ∃ a vs, v = .ref a ∧ SqK true X.K F2 a vs ∧ Dfs X.K F2 vs xs ∧ xs.length ≤ LIM := fun h => by
    cases h with
    | tup h1 h2 l => exact ⟨_, _, rfl, h1.t, h2, l⟩
  split at P2
  · rename_i xs ys
    obtain ⟨a, vs, rfl, q1, q2, q3⟩ := L (show Df X.K F2 v (.list xs) from rv2)
    obtain ⟨b, ws, rfl, q4, q5, _⟩ := L (show Df X.K F2 u (.list ys) from ru)
    exact ⟨_, _, _, _, false, false, rfl, sqK_mono R2.le q1, sqK_mono R2.le q4, P2.now R2 (walk_zpK q3 q1 q2 q4 q5)⟩
  · rename_i xs ys
    obtain ⟨a, vs, rfl, q1, q2, q3⟩ := T (show Df X.K F2 v (.tuple xs) from rv2)
    obtain ⟨b, ws, rfl, q4, q5, _⟩ := T (show Df X.K F2 u (.tuple ys) from ru)
    exact ⟨_, _, _, _, true, true, rfl, sqK_mono R2.le q1, sqK_mono R2.le q4, P2.now R2 (walk_zpK q3 q1 q2 q4 q5)⟩
  · rename_i xs ys
    obtain ⟨a, vs, rfl, q1, q2, q3⟩ := L (show Df X.K F2 v (.list xs) from rv2)
    obtain ⟨b, ws, rfl, q4, q5, _⟩ := T (show Df X.K F2 u (.tuple ys) from ru)
    exact ⟨_, _, _, _, false, true, rfl, sqK_mono R2.le q1, sqK_mono R2.le q4, P2.now R2 (walk_zpK q3 q1 q2 q4 q5)⟩
  · rename_i xs ys
    obtain ⟨a, vs, rfl, q1, q2, q3⟩ := T (show Df X.K F2 v (.tuple xs) from rv2)
    obtain ⟨b, ws, rfl, q4, q5, _⟩ := L (show Df X.K F2 u (.list ys) from ru)
    exact ⟨_, _, _, _, true, false, rfl, sqK_mono R2.le q1, sqK_mono R2.le q4, P2.now R2 (walk_zpK q3 q1 q2 q4 q5)⟩
  · exact False.elim P2
theorem i_rng1 {tg : Expr} {p : Pos} (hg : Gl X "range") (hm : X.mg "range" = none) (ha : PE X a (tE X xa ec cf W ea)) (hs : starEach [a] X.env = (false, eval a X.env) :: starEach [] X.env) :
    PI X tg (.Call (.Name "range" p) [a] [] pos) (tI X xa ec cf W (.rng1 ea)) := by
  refine pi_mono (pi_range1 hg hm (tE_one ha hs) hs) fun σ H Q ⟨F, ρ, m, env, R, E, P⟩ => ?_
  refine ⟨F, ρ, m, env, R, E, Post.bind (rel' := relI X xa) P fun x m1 F1 ρ1 H1 v e1 E1 R1 rv P1 => ?_⟩
  split at P1
  · rename_i j
    split at P1
    · rename_i hb
      simp only [Bool.and_eq_true, decide_eq_true_eq] at hb
      have rv : Df X.K F1 v (.int j) := rv
      cases rv
      have hl : (LIM : Int) < 2 ^ 62 := by decide
      refine ⟨j, rfl, hb.1, by omega, P1.now R1 ?_⟩
      have := walk_rg (xa := xa) (K := X.K) (F1 := F1) (ρ1 := ρ1) (i := 0) (j := j) (by omega)
      simpa using this
    · exact False.elim P1
  · exact False.elim P1
theorem i_rng {tg : Expr} {p : Pos} (hg : Gl X "range") (hm : X.mg "range" = none) (ha : PE X a (tE X xa ec cf W ea)) (hb : PE X b (tE X xa ec cf W eb)) (hs : starEach [a, b] X.env = [(false, eval a X.env), (false, eval b X.env)]) (hs2 : starEach [b] X.env = [(false, eval b X.env)]) :
    PI X tg (.Call (.Name "range" p) [a, b] [] pos) (tI X xa ec cf W (.rng ea eb)) := by
  refine pi_mono (pi_range2 hg hm (pa_cons ha (tE_one hb hs2) (by rw [hs, hs2])) hs hs2) fun σ H Q ⟨F, ρ, m, env, R, E, P⟩ => ?_
  refine ⟨F, ρ, m, env, R, E, Post.bind (rel' := relI X xa) P fun x m1 F1 ρ1 H1 v e1 E1 R1 rv P1 => ?_⟩
  refine ⟨F1, ρ1, m1, env, R1, E.ext E1, Post.bind (rel' := relI X xa) P1 fun y m2 F2 ρ2 H2 u e2 E2 R2 ru P2 => ?_⟩
  have rv2 := rv.ext E2
  split at P2
  · rename_i i j
    split at P2
    · rename_i hb
      simp only [Bool.and_eq_true, decide_eq_true_eq] at hb
      have rv2 : Df X.K F2 v (.int i) := rv2
      have ru : Df X.K F2 u (.int j) := ru
      cases rv2
      cases ru
      exact ⟨i, j, rfl, ⟨hb.1.1.1.1, hb.1.1.1.2, hb.1.1.2, hb.1.2⟩, P2.now R2 (walk_rg hb.2)⟩
    · exact False.elim P2
  · exact False.elim P2
end
end PV
end

section
set_option Elab.async false
set_option linter.all false
set_option maxRecDepth 100000
/-! PV9: comprehensions, statements. -/
namespace PV
open PySem PySem.Spec PyProof.Rows L2

theorem wipe_wipe (σ τ : L2.St) (vs : List Nat) (hl : τ.length = (L2.wipe σ vs).length) (k : ∀ j, j ∉ vs → τ[j]? = (L2.wipe σ vs)[j]?) : L2.wipe τ vs = L2.wipe σ vs := by
  have inn : ∀ (ρ : L2.St) (vs : List Nat) (j : Nat), j ∈ vs → (L2.wipe ρ vs)[j]? = if j < ρ.length then some none else none := by
    intro ρ vs j
    induction vs with
    | nil => intro h; cases h
    | cons v vs ih =>
      intro h
      unfold L2.wipe
      by_cases e : v = j
      · subst e
        by_cases hl : v < ρ.length
        · rw [List.getElem?_set_self (by rw [wipe_length]; exact hl), if_pos hl]
        · rw [if_neg hl, List.getElem?_eq_none]
          rw [List.length_set, wipe_length]
          omega
      · rw [List.getElem?_set_ne e]
        exact ih ((List.mem_cons.mp h).resolve_left (Ne.symm e))
  refine List.ext_getElem? fun j => ?_
  by_cases hj : j ∈ vs
  · rw [inn τ vs j hj, inn σ vs j hj, hl, wipe_length]
  · rw [wipe_out hj, k j hj]

section
variable {X : Cx} {xa : List (Addr × Str)} {ec : Nat → Addr} {cf : CF} {W : WX} {a b c : Expr} {pos : Pos} {ea eb ec' : Ex}
theorem ext_new {F F' H H' : Hp} {ρ ρ' : List Addr} {D : Addr} {o : HO} (e : Ext F ρ H F' ρ' H') (hD : H D = some o) (hF : F D = none) (hr : D ∉ ρ) (hn : NT o) : H' D = some o ∧ F' D = none ∧ D ∉ ρ' := by
  refine ⟨e.frm D o hD hr hn.1, ?_, ?_⟩
  · cases h : F' D with
    | none => rfl
    | some u => rw [e.new D u h hF] at hD; cases hD
  · obtain ⟨ζ, e1, n1⟩ := e.pre
    rw [e1]
    intro h
    rcases List.mem_append.mp h with h | h
    · exact hr h
    · rw [n1 D h] at hD; cases hD
def accO (acc : List PV.D) : Option PV.D → List PV.D
  | some d => acc ++ [d]
  | none => acc
theorem postL_step {WE : XK} {F : Hp} {ρ : List Addr} {H : Hp} {acc : List D} {o : Option D} {r : Res (List D)} {Q : VK} (h : PostL X xa ec WE F ρ H acc (r.bind fun ds m2 => .ok (match o with | some d => d :: ds | none => ds) m2) Q) :
    PostL X xa ec WE F ρ H (accO acc o) r Q := by
  cases r with
  | bad => exact h
  | ex c fs m => exact h
  | ok ds m2 =>
    cases o with
    | none => exact h
    | some d =>
      intro F' ρ' H' p vs E R h1 h2 h3 h4 h5 h6
      refine h F' ρ' H' p vs E R h1 h2 h3 h4 ?_ ?_
      · simpa [accO] using h5
      · simpa [accO, Nat.add_assoc, Nat.add_comm 1] using h6
/-- what one turn leaves -/
theorem s_compTurn {src : Src} {F1 H1 : Hp} {ρ1 : List Addr} {WE : XK} {Q : VK} {bd : EV → Mem → Res (Option D)} {i k : Nat} {m : Mem} {x : EV} {acc : List D} (hg : src.get m i = some x)
    (P : PostL X xa ec WE F1 ρ1 H1 acc (compL src bd (k + 1) i m) Q) : ∃ o m1, bd x m = .ok o m1 ∧ PostL X xa ec WE F1 ρ1 H1 (accO acc o) (compL src bd k (i + 1) m1) Q := by
  unfold compL at P
  rw [hg] at P
  dsimp only at P
  cases r : bd x m with
  | bad => rw [r] at P; exact False.elim P
  | ex c fs m' => rw [r] at P; exact False.elim P
  | ok o m1 =>
    rw [r] at P
    exact ⟨o, m1, rfl, postL_step P⟩
def W0 : WX := fun _ _ _ _ => False
theorem comp_core {t : Tg} {q e : Ex} {vs : List Nat} {σ : L2.St} {F1 : Hp} {ρ1 : List Addr} {H1 : Hp} {m1 : Mem} {env : Env} {J : L2.It} {src : Src} {Q : VK} {WE : XK} (hsl : ∀ j ∈ tgSl t, j ∈ vs) (R1 : Rep X.K xa F1 ρ1 m1 H1) (Eσ : RepE X.K xa F1 ρ1 σ env) (ws : WalkE X.K xa F1 ρ1 H1 J src)
    (P1 : PostL X xa ec WE F1 ρ1 H1 [] (compL src (turnB t (wipeE env vs) (fun e2 m2 => evE cf q e2 m2) (fun e2 m2 => evE cf e e2 m2)) src.len 0 m1) Q) (D : Addr) (hD : H1 D = none) :
    ∃ W' : Nat → Nat → Hp → Prop, (∃ m, W' 0 m (upd H1 D (.lst []))) ∧ ∀ i m H, W' i m H →
      (J.stop i H ∧ Q (.ref D) H) ∨ (J.go i H ∧ ∃ Nx : Hp → Prop, (∀ H', Nx H' → ∃ m', m' < m ∧ W' (i + 1) m' H') ∧ ∀ x H', J.yld i H x H' → tG X xa t x (wipe σ vs) H' fun σ2 H2 => wipe σ2 vs = wipe σ vs ∧ tT X xa ec cf W0 q σ2 H2 fun b H3 =>
        if b = true then tE X xa ec cf W0 e σ2 H3 fun y H4 => ∃ acc, H4 D = some (.lst acc) ∧ acc.length < sizeLine ∧ Nx (upd H4 D (.lst (acc ++ [y]))) else Nx H3) := by
  obtain ⟨bd, hbd⟩ : ∃ bd : EV → Mem → Res (Option PV.D), bd = fun x m2 => match asgT t x (wipeE env vs) with
        | none => .bad
        | some env2 => (evE cf q env2 m2).bind fun k m3 => match truth m3 k with
          | some true => (evE cf e env2 m3).bind fun y m4 => match y with
            | .d p => .ok (some p) m4
            | _ => .bad
          | some false => .ok none m3
          | none => .bad := ⟨_, rfl⟩
  have P1 : PostL X xa ec WE F1 ρ1 H1 [] (compL src bd src.len 0 m1) Q := by rw [hbd]; exact P1
  have hD1 : F1 D = none := by
    cases h : F1 D with
    | none => rfl
    | some o => rw [R1.le D o h] at hD; cases hD
  have hD2 : D ∉ ρ1 := fun h => R1.there h hD
  have E0 : Ext F1 ρ1 H1 F1 ρ1 (upd H1 D (.lst [])) := ⟨Same.refl _, ⟨[], by simp, by simp⟩, fun b u h _ _ => by rw [upd_ne (ne_of_none h hD)]; exact h, fun b u h n => (by rw [h] at n; cases n), fun b h => by
    by_cases hb : b = D
    · subst hb; exact absurd hD h
    · rw [upd_ne hb]; exact h, fun b o u h => by rw [upd_ne (ne_of_none h hD)]; exact h⟩
  have R0 : Rep X.K xa F1 ρ1 m1 (upd H1 D (.lst [])) := (R1.grow (Same.refl F1) (fun b u h => by rw [upd_ne (ne_of_none (R1.le b u h) hD)]; exact R1.le b u h) (fun b u h => by rw [upd_ne (ne_of_none h hD)]; exact h) fun b u h n => (by rw [h] at n; cases n)).1
  refine ⟨fun i n H' => n = src.len - i ∧ i ≤ src.len ∧ ∃ F' ρ' mem ws' acc, Ext F1 ρ1 H1 F' ρ' H' ∧ Rep X.K xa F' ρ' mem H' ∧ H' D = some (.lst ws') ∧ F' D = none ∧ D ∉ ρ' ∧ Dfs X.K F' ws' acc ∧ acc.length ≤ i ∧
    PostL X xa ec WE F1 ρ1 H1 acc (compL src bd (src.len - i) i mem) Q, ⟨src.len, rfl, Nat.zero_le _, F1, ρ1, m1, [], [], E0, R0, upd_same, hD1, hD2, .nil, Nat.zero_le _, P1⟩, ?_⟩
  rintro i n H' ⟨rfl, hi', F', ρ', mem, ws', acc, E', R', hD', hF', hr', dd, hl, P'⟩
  have hLen := ws.len
  by_cases hlt : i < src.len
  · obtain ⟨k, hk⟩ : ∃ k, src.len - i = k + 1 := ⟨src.len - i - 1, by omega⟩
    rw [hk] at P' ⊢
    have hget : ∃ x, src.get mem i = some x := by
      cases hx : src.get mem i with
      | some x => exact ⟨x, rfl⟩
      | none =>
        unfold compL at P'
        rw [hx] at P'
        exact False.elim P'
    obtain ⟨x, hx⟩ := hget
    obtain ⟨o, m2, hb, P2⟩ := s_compTurn hx P'
    obtain ⟨go, yld⟩ := ws.go i F' ρ' mem H' x hlt R' E' hx
    refine .inr ⟨go, fun H2 => ∃ F' ρ' mem ws' acc, Ext F1 ρ1 H1 F' ρ' H2 ∧ Rep X.K xa F' ρ' mem H2 ∧ H2 D = some (.lst ws') ∧ F' D = none ∧ D ∉ ρ' ∧ Dfs X.K F' ws' acc ∧ acc.length ≤ i + 1 ∧
      PostL X xa ec WE F1 ρ1 H1 acc (compL src bd k (i + 1) mem) Q, fun H2 h => ⟨k, by omega, by omega, by omega, by rw [show src.len - (i + 1) = k by omega]; exact h⟩, fun v H2 y => ?_⟩
    obtain ⟨F2, E2, R2, rv⟩ := yld v H2 y
    have E12 := E'.trans E2
    have hD2 := ext_new E2 hD' hF' hr' nt_lst
    rw [hbd] at hb
    dsimp only at hb
    cases ha : asgT t x (wipeE env vs) with
    | none => rw [ha] at hb; cases hb
    | some env2 =>
      rw [ha] at hb
      dsimp only at hb
      refine ⟨F2, ρ', mem, wipeE env vs, x, env2, R2, (Eσ.ext E12).wipe vs, rv, asgM_of ha, fun σ2 Eσ2 l2 k2 => ⟨wipe_wipe σ σ2 vs l2 fun j hj => k2 j fun h => hj (hsl j h), ?_⟩⟩
      refine ⟨F2, ρ', mem, env2, R2, Eσ2, ?_⟩
      show Post X.K xa ec (fun _ _ (b b' : Bool) => b = b') _ F2 ρ' H2 ((evE cf q env2 mem).bind fun x m1 => Res.of (truth m1 x) m1) _
      cases rq : evE cf q env2 mem with
      | bad => rw [rq] at hb; cases hb
      | ex c fs m' => rw [rq] at hb; cases hb
      | ok kv m3 =>
        rw [rq] at hb
        simp only [Res.bind] at hb ⊢
        cases ht' : truth m3 kv with
        | none => rw [ht'] at hb; cases hb
        | some tb =>
          rw [ht'] at hb
          intro F3 ρ3 H3 b E3 R3 hbb
          have hbb : b = tb := hbb
          rw [hbb]
          have hD3 := ext_new E3 hD2.1 hD2.2.1 hD2.2.2 nt_lst
          cases tb with
          | false =>
            have hb : Res.ok none m3 = Res.ok o m2 := hb
            simp only [Res.ok.injEq] at hb
            rw [if_neg Bool.false_ne_true]
            obtain ⟨rfl, rfl⟩ := hb
            exact ⟨F3, ρ3, m3, ws', acc, E12.trans E3, R3, hD3.1, hD3.2.1, hD3.2.2, Dfs.mono (Same.trans E2.fle E3.fle) dd, by omega, P2⟩
          | true =>
            rw [if_pos rfl]
            refine ⟨F3, ρ3, m3, env2, R3, Eσ2.ext E3, ?_⟩
            cases re : evE cf e env2 m3 with
            | bad => rw [re] at hb; cases hb
            | ex c fs m' => rw [re] at hb; cases hb
            | ok yv m4 =>
              rw [re] at hb
              intro F4 ρ4 H4 u E4 R4 ru
              cases yv with
              | loc _ => cases hb
              | exc _ _ => cases hb
              | ro _ => cases hb
              | d p =>
                simp only [Res.bind, Res.ok.injEq] at hb
                obtain ⟨rfl, rfl⟩ := hb
                have hD4 := ext_new E4 hD3.1 hD3.2.1 hD3.2.2 nt_lst
                have E14 := (E12.trans E3).trans E4
                have hl4 := (Dfs.mono (Same.trans (Same.trans E2.fle E3.fle) E4.fle) dd)
                have hnD : ∀ b u, F4 b = some u → b ≠ D := fun b u h z => by rw [z, hD4.2.1] at h; cases h
                have R5 : Rep X.K xa F4 ρ4 m4 (upd H4 D (.lst (ws' ++ [u]))) := by
                  refine ⟨fun b w h => ?_, R4.len, fun n a o e1 e2 => (R4.ob n a o e1 e2).mono (Same.refl _) ⟨[], by simp⟩ fun w h => ?_, R4.nf, R4.nd, R4.wf, tabs_upd R4.tab fun u hu => (by rw [hD4.1] at hu; cases hu; exact nt_lst), R4.nft⟩
                  · rw [upd_ne (hnD b w h)]; exact R4.le b w h
                  · have : a ≠ D := fun z => hD4.2.2 (z ▸ List.mem_of_getElem? e1)
                    rw [upd_ne this]; exact h
                have E5 : Ext F1 ρ1 H1 F4 ρ4 (upd H4 D (.lst (ws' ++ [u]))) := by
                  refine ⟨E14.fle, E14.pre, fun b w h n nt => ?_, E14.new, fun b h => ?_, fun b o' w h => (by rw [upd_ne (ne_of_none h hD)]; exact E14.frz b o' w h)⟩
                  · rw [upd_ne (ne_of_none h hD)]; exact E14.frm b w h n nt
                  · by_cases hb : b = D
                    · subst hb; rw [upd_same]; simp
                    · rw [upd_ne hb]; exact E14.kep b h
                refine ⟨ws', hD4.1, ?_, F4, ρ4, m4, ws' ++ [u], acc ++ [p], E5, R5, upd_same, hD4.2.1, hD4.2.2, Dfs.append hl4 (.cons ru .nil), by simp; omega, P2⟩
                rw [dd.len, ← lim_eq]
                omega
  · have hi2 : i = src.len := by omega
    subst hi2
    rw [Nat.sub_self] at P'
    unfold compL at P'
    split at P'
    · rename_i hf
      refine .inl ⟨ws.stop F' ρ' mem H' R' E' hf, ?_⟩
      refine P' F' ρ' H' D ws' E' R' hD' hF' hr' hD (by simpa using dd) ?_
      simp
      omega
    · exact False.elim P'
theorem s_comp {tg iter elt : Expr} {ifs : List Expr} {scope : Scope} {own : List (Str × Nat)} {t : Tg} {it : PV.It} {q e : Ex} (hc : X.calm = true) (hN : X.N.Nodup) (hi : PI X tg iter (tI X xa ec cf W it)) (ok : BlkOk X.N X.env.scope scope own)
    (hg : ∀ (s : Shared) (H : Hp) (C : Addr) (cl : List (Str × Addr)) (fp : List Addr), PG (X.blk s H scope (compEnvC scope cl C X.env) fp) tg (tG X xa t))
    (ht : ∀ (s : Shared) (H : Hp) (C : Addr) (cl : List (Str × Addr)) (fp : List Addr), PTs (X.blk s H scope (compEnvC scope cl C X.env) fp) ifs (tT X xa ec cf W0 q))
    (he : ∀ (s : Shared) (H : Hp) (C : Addr) (cl : List (Str × Addr)) (fp : List Addr), PE (X.blk s H scope (compEnvC scope cl C X.env) fp) elt (tE X xa ec cf W0 e))
    (hs : ∀ x, foldedSetIterable iter X.env x = pure x) (hsl : ∀ j ∈ tgSl t, j ∈ own.map (·.2)) :
    (∀ σ H Q, tL X xa ec cf W (.comp t it (own.map (·.2)) q e) σ H Q → tLc (tI X xa ec cf W it) (tG X xa t) (tT X xa ec cf W0 q) (tE X xa ec cf W0 e) (own.map (·.2)) σ H Q) := by
  intro σ H Q ⟨F, ρ, m, env, R, E, P⟩
  refine ⟨F, ρ, m, env, R, E, postL_bind (rel := relI X xa) P fun src m1 F1 ρ1 H1 J e1 E1 R1 ws P1 => fun D hD => comp_core hsl R1 (E.ext E1) ws.e P1 D hD⟩
theorem s_lc {tg iter elt : Expr} {ifs : List Expr} {scope : Scope} {own : List (Str × Nat)} {t : Tg} {it : PV.It} {q e : Ex} (hc : X.calm = true) (hN : X.N.Nodup) (hi : PI X tg iter (tI X xa ec cf W it)) (ok : BlkOk X.N X.env.scope scope own)
    (hg : ∀ (s : Shared) (H : Hp) (C : Addr) (cl : List (Str × Addr)) (fp : List Addr), PG (X.blk s H scope (compEnvC scope cl C X.env) fp) tg (tG X xa t))
    (ht : ∀ (s : Shared) (H : Hp) (C : Addr) (cl : List (Str × Addr)) (fp : List Addr), PTs (X.blk s H scope (compEnvC scope cl C X.env) fp) ifs (tT X xa ec cf W0 q))
    (he : ∀ (s : Shared) (H : Hp) (C : Addr) (cl : List (Str × Addr)) (fp : List Addr), PE (X.blk s H scope (compEnvC scope cl C X.env) fp) elt (tE X xa ec cf W0 e))
    (hs : ∀ x, foldedSetIterable iter X.env x = pure x) (hsl : ∀ j ∈ tgSl t, j ∈ own.map (·.2)) :
    PE X (.ListComp elt [⟨tg, iter, ifs, 0⟩] scope pos) (tL X xa ec cf W (.comp t it (own.map (·.2)) q e)) :=
  pe_mono (pe_lc hc hN hi ok hg ht he hs) (s_comp hc hN hi ok hg ht he hs hsl)

/-! ### statements -/
variable {sub : Nat → Nat → Bool}
def PostS (X : Cx) (xa : List (Addr × Str)) (ec : Nat → Addr) (W : WX) (F : Hp) (ρ : List Addr) (H : Hp) (r : S) (D : Ends) : Prop := match r with
  | .nx env m => ∀ F' ρ' H' σ', Ext F ρ H F' ρ' H' → Rep X.K xa F' ρ' m H' → RepE X.K xa F' ρ' σ' env → D.nx σ' H'
  | .rt v m => ∀ F' ρ' H' x, Ext F ρ H F' ρ' H' → Rep X.K xa F' ρ' m H' → RepV X.K xa F' ρ' x v → D.rt x H'
  | .bk env m => ∀ F' ρ' H' σ', Ext F ρ H F' ρ' H' → Rep X.K xa F' ρ' m H' → RepE X.K xa F' ρ' σ' env → D.bk σ' H'
  | .ct env m => ∀ F' ρ' H' σ', Ext F ρ H F' ρ' H' → Rep X.K xa F' ρ' m H' → RepE X.K xa F' ρ' σ' env → D.ct σ' H'
  | .ex c fs env m => ∀ F' ρ' H' σ' cls d, Ext F ρ H F' ρ' H' → Rep X.K xa F' ρ' m H' → RepE X.K xa F' ρ' σ' env → ExR X.K ec F' H' c fs cls d → W cls d σ' H'
  | .bad => False
theorem PostS.up {F F1 H H1 : Hp} {ρ ρ1 : List Addr} {r : S} {D : Ends} (h : PostS X xa ec W F ρ H r D) (e : Ext F ρ H F1 ρ1 H1) : PostS X xa ec W F1 ρ1 H1 r D := by
  cases r with
  | nx env m => exact fun F' ρ' H' σ' e' => h F' ρ' H' σ' (e.trans e')
  | rt v m => exact fun F' ρ' H' x e' => h F' ρ' H' x (e.trans e')
  | bk env m => exact fun F' ρ' H' σ' e' => h F' ρ' H' σ' (e.trans e')
  | ct env m => exact fun F' ρ' H' σ' e' => h F' ρ' H' σ' (e.trans e')
  | ex c fs env m => exact fun F' ρ' H' σ' cls d e' => h F' ρ' H' σ' cls d (e.trans e')
  | bad => exact h
def tS (X : Cx) (xa : List (Addr × Str)) (ec : Nat → Addr) (cf : CF) (W : WX) (sub : Nat → Nat → Bool) (st : Stt) : TS := fun D σ H => ∃ F ρ m env, Rep X.K xa F ρ m H ∧ RepE X.K xa F ρ σ env ∧ PostS X xa ec W F ρ H (evS cf sub st env m) D
def tSs (X : Cx) (xa : List (Addr × Str)) (ec : Nat → Addr) (cf : CF) (W : WX) (sub : Nat → Nat → Bool) (st : Sts) : TS := fun D σ H => ∃ F ρ m env, Rep X.K xa F ρ m H ∧ RepE X.K xa F ρ σ env ∧ PostS X xa ec W F ρ H (evSs cf sub st env m) D
/-- an expression, then the rest -/
theorem postS_of {α β : Type} {rel : Hp → List Addr → β → α → Prop} {F H : Hp} {ρ : List Addr} {σ : L2.St} {env : Env} {r : Res α} {f : α → Mem → S} {D : Ends} {Q' : β → Hp → Prop} (E : RepE X.K xa F ρ σ env) (h : PostS X xa ec W F ρ H (S.of env r f) D)
    (k : ∀ a m1 F1 ρ1 H1 b, r = .ok a m1 → Ext F ρ H F1 ρ1 H1 → Rep X.K xa F1 ρ1 m1 H1 → rel F1 ρ1 b a → PostS X xa ec W F1 ρ1 H1 (f a m1) D → Q' b H1) : Post X.K xa ec rel (fun c d H => W c d σ H) F ρ H r Q' := by
  cases r with
  | ok a m => exact fun F' ρ' H' b e R q => k a m F' ρ' H' b rfl e R q (PostS.up (r := f a m) h e)
  | ex c fs m => exact fun F' ρ' H' cls d e R x => h F' ρ' H' σ cls d e R (E.ext e) x
  | bad => exact h
theorem PostS.opt {α : Type} {F H : Hp} {ρ : List Addr} {o : Option α} {f : α → S} {D : Ends} (h : PostS X xa ec W F ρ H (S.opt o f) D) : ∃ a, o = some a ∧ PostS X xa ec W F ρ H (f a) D := by
  cases o with
  | none => exact False.elim h
  | some a => exact ⟨a, rfl, h⟩
theorem PostS.now {F H : Hp} {ρ : List Addr} {σ : L2.St} {env : Env} {m : Mem} {D : Ends} (h : PostS X xa ec W F ρ H (.nx env m) D) (R : Rep X.K xa F ρ m H) (E : RepE X.K xa F ρ σ env) : D.nx σ H := h F ρ H σ (Ext.refl _ _ _) R E
theorem ss_nil : PSs X [] (tSs X xa ec cf W sub .nil) := by
  refine pss_mono pss_nil fun D σ H ⟨F, ρ, m, env, R, E, P⟩ => ?_
  exact PostS.now (X := X) (W := W) (ec := ec) P R E
theorem ss_cons {s : Stmt} {ss : List Stmt} {t : Stt} {ts : Sts} (h1 : PS X s (tS X xa ec cf W sub t)) (h2 : PSs X ss (tSs X xa ec cf W sub ts)) : PSs X (s :: ss) (tSs X xa ec cf W sub (.cons t ts)) := by
  refine pss_mono (pss_cons h1 h2) fun D σ H ⟨F, ρ, m, env, R, E, P⟩ => ?_
  refine ⟨F, ρ, m, env, R, E, ?_⟩
  have P : PostS X xa ec W F ρ H (match evS cf sub t env m with | .nx env1 m1 => evSs cf sub ts env1 m1 | x => x) D := P
  cases r : evS cf sub t env m with
  | nx env1 m1 =>
    rw [r] at P
    exact fun F' ρ' H' σ' e R' E' => ⟨F', ρ', m1, env1, R', E', PostS.up (r := evSs cf sub ts env1 m1) P e⟩
  | rt v m1 => rw [r] at P; exact P
  | bk env1 m1 => rw [r] at P; exact P
  | ct env1 m1 => rw [r] at P; exact P
  | ex c fs env1 m1 => rw [r] at P; exact P
  | bad => rw [r] at P; exact P
theorem s_pass : PS X (.Pass pos) (tS X xa ec cf W sub .pass) := ps_mono ps_pass fun D σ H ⟨F, ρ, m, env, R, E, P⟩ => PostS.now (X := X) (W := W) (ec := ec) P R E
theorem s_brk : PS X (.Break pos) (tS X xa ec cf W sub .brk) := ps_mono ps_break fun D σ H ⟨F, ρ, m, env, R, E, P⟩ => P F ρ H σ (Ext.refl _ _ _) R E
theorem s_cont : PS X (.Continue pos) (tS X xa ec cf W sub .cont) := ps_mono ps_continue fun D σ H ⟨F, ρ, m, env, R, E, P⟩ => P F ρ H σ (Ext.refl _ _ _) R E
theorem s_exp (he : PE X a (tE X xa ec cf W ea)) (hs : swapsWith a none pos.line X.env = pure false) : PS X (.Expr a pos) (tS X xa ec cf W sub (.ex ea)) := by
  refine ps_mono (ps_expr he hs) fun D σ H ⟨F, ρ, m, env, R, E, P⟩ => ?_
  exact ⟨F, ρ, m, env, R, E, postS_of (rel := relV X xa) E P fun v m1 F1 ρ1 H1 b e E1 R1 q P1 => P1.now R1 (E.ext E1)⟩
theorem s_ret (he : PE X a (tE X xa ec cf W ea)) : PS X (.Return (some a) pos) (tS X xa ec cf W sub (.ret ea)) := by
  refine ps_mono (ps_ret he) fun D σ H ⟨F, ρ, m, env, R, E, P⟩ => ?_
  exact ⟨F, ρ, m, env, R, E, postS_of (rel := relV X xa) E P fun v m1 F1 ρ1 H1 b e E1 R1 q P1 => P1 F1 ρ1 H1 b (Ext.refl _ _ _) R1 q⟩
theorem s_asg {tg : Expr} {t : Tg} (he : PE X a (tE X xa ec cf W ea)) (hg : PG X tg (tG X xa t)) (hs : swapsWithSole [tg] a pos.line X.env = pure false) (hw : swappedStores [tg] a X.env = pure none)
    (h1 : (assignEach [tg] X.env).map (·.2) = [assign tg X.env]) : PS X (.Assign [tg] a pos) (tS X xa ec cf W sub (.asg t ea)) := by
  refine ps_mono (ps_asg he hg hs hw h1) fun D σ H ⟨F, ρ, m, env, R, E, P⟩ => ?_
  refine ⟨F, ρ, m, env, R, E, postS_of (rel := relV X xa) E P fun v m1 F1 ρ1 H1 b e E1 R1 q P1 => ?_⟩
  obtain ⟨env1, e2, P2⟩ := P1.opt
  exact ⟨F1, ρ1, m1, env, v, env1, R1, E.ext E1, q, e2, fun σ' E' _ _ => P2.now R1 E'⟩
/-- name = [.. for ..], stored from within -/
theorem s_asgL {i : Nat} {y : Str} {py spos : Pos} {tg iter elt : Expr} {ifs : List Expr} {scope : Scope} {own : List (Str × Nat)} {t : Tg} {it : PV.It} {q e : Ex} {te : Ex} (hc : X.calm = true) (hN : X.N.Nodup) (hy : X.N[i]? = some y) (hyl : X.env.scope.names.lookup y = some .local)
    (hsw : swapsWith (.ListComp elt [⟨tg, iter, ifs, 0⟩] scope pos) (some (.Name y py)) spos.line X.env = pure true) (hi : PI X tg iter (tI X xa ec cf W it)) (ok : BlkOk X.N X.env.scope scope own)
    (hg : ∀ (s : Shared) (H : Hp) (C : Addr) (cl : List (Str × Addr)) (fp : List Addr), PG (X.blk s H scope (compEnvC scope cl C X.env) fp) tg (tG X xa t))
    (ht : ∀ (s : Shared) (H : Hp) (C : Addr) (cl : List (Str × Addr)) (fp : List Addr), PTs (X.blk s H scope (compEnvC scope cl C X.env) fp) ifs (tT X xa ec cf W0 q))
    (he : ∀ (s : Shared) (H : Hp) (C : Addr) (cl : List (Str × Addr)) (fp : List Addr), PE (X.blk s H scope (compEnvC scope cl C X.env) fp) elt (tE X xa ec cf W0 e))
    (hs : ∀ x, foldedSetIterable iter X.env x = pure x) (hsl : ∀ j ∈ tgSl t, j ∈ own.map (·.2))
    (hte : ∀ σ H Q, tE X xa ec cf W te σ H Q → tL X xa ec cf W (.comp t it (own.map (·.2)) q e) σ H Q) :
    PS X (.Assign [.Name y py] (.ListComp elt [⟨tg, iter, ifs, 0⟩] scope pos) spos) (tS X xa ec cf W sub (.asg (.nm i) te)) := by
  refine ps_mono (ps_setLc hc hN hy hyl hsw hi ok hg ht he hs) fun D σ H ⟨F, ρ, m, env, R, E, P⟩ => ?_
  refine s_comp hc hN hi ok hg ht he hs hsl σ H _ (hte σ H _ ⟨F, ρ, m, env, R, E, postS_of (rel := relV X xa) E P fun v m1 F1 ρ1 H1 b e E1 R1 q P1 => ?_⟩)
  obtain ⟨env1, e2, P2⟩ := P1.opt
  have e2 : some (env.set i (some v)) = some env1 := by simpa [asgM] using e2
  cases e2
  exact P2.now R1 ((E.ext E1).set q)
end
end PV
end

section
set_option Elab.async false
set_option linter.all false
set_option maxRecDepth 100000
/-! PVG: comprehensions of two clauses. -/
namespace PV
open PySem PySem.Spec PyProof.Rows L2
theorem bind_ok {α β : Type} {r : Res α} {f : α → Mem → Res β} {b : β} {m : Mem} (h : r.bind f = .ok b m) : ∃ a m1, r = .ok a m1 ∧ f a m1 = .ok b m := by
  cases r with
  | ok a m1 => exact ⟨a, m1, rfl, h⟩
  | ex c fs m1 => cases h
  | bad => cases h
theorem noex_ok {α : Type} {r : Res α} {a : α} {m : Mem} (h : r.noex = .ok a m) : r = .ok a m := by
  cases r with
  | ok a m1 => exact h
  | ex c fs m1 => cases h
  | bad => cases h
theorem catL_z {src : Src} {bd : EV → Mem → Res (List D)} {i : Nat} {m mf : Mem} {ds : List D} (h : catL src bd 0 i m = .ok ds mf) : src.fin m = true ∧ ds = [] ∧ mf = m := by
  unfold catL at h
  split at h
  · rename_i hf
    simp only [Res.ok.injEq] at h
    exact ⟨hf, h.1.symm, h.2.symm⟩
  · cases h
theorem catL_s {src : Src} {bd : EV → Mem → Res (List D)} {k i : Nat} {m mf : Mem} {ds : List D} (h : catL src bd (k + 1) i m = .ok ds mf) : ∃ x ds1 m1 ds2, src.get m i = some x ∧ bd x m = .ok ds1 m1 ∧ catL src bd k (i + 1) m1 = .ok ds2 mf ∧ ds = ds1 ++ ds2 := by
  unfold catL at h
  cases hx : src.get m i with
  | none => rw [hx] at h; cases h
  | some x =>
    rw [hx] at h
    obtain ⟨ds1, m1, h1, h⟩ := bind_ok h
    obtain ⟨ds2, m2, h2, h⟩ := bind_ok h
    simp only [Res.ok.injEq] at h
    obtain ⟨rfl, rfl⟩ := h
    exact ⟨x, ds1, m1, ds2, rfl, noex_ok h1, noex_ok h2, rfl⟩
theorem compL_z {src : Src} {bd : EV → Mem → Res (Option D)} {i : Nat} {m mf : Mem} {ds : List D} (h : compL src bd 0 i m = .ok ds mf) : src.fin m = true ∧ ds = [] ∧ mf = m := by
  unfold compL at h
  split at h
  · rename_i hf
    simp only [Res.ok.injEq] at h
    exact ⟨hf, h.1.symm, h.2.symm⟩
  · cases h
theorem compL_s {src : Src} {bd : EV → Mem → Res (Option D)} {k i : Nat} {m mf : Mem} {ds : List D} (h : compL src bd (k + 1) i m = .ok ds mf) : ∃ x o m1 ds2, src.get m i = some x ∧ bd x m = .ok o m1 ∧ compL src bd k (i + 1) m1 = .ok ds2 mf ∧ ds = o.toList ++ ds2 := by
  unfold compL at h
  cases hx : src.get m i with
  | none => rw [hx] at h; cases h
  | some x =>
    rw [hx] at h
    obtain ⟨o, m1, h1, h⟩ := bind_ok h
    obtain ⟨ds2, m2, h2, h⟩ := bind_ok h
    simp only [Res.ok.injEq] at h
    obtain ⟨rfl, rfl⟩ := h
    refine ⟨x, o, m1, ds2, rfl, noex_ok h1, h2, ?_⟩
    cases o <;> rfl
section
variable {X : Cx} {xa : List (Addr × Str)} {ec : Nat → Addr} {cf : CF} {W : WX}
/-- a test, met -/
theorem tt_now {F : Hp} {ρ : List Addr} {m m3 : Mem} {H : Hp} {σ : L2.St} {env : Env} {q : Ex} {kv : EV} {tb : Bool} {W : WX} {Q : Bool → Hp → Prop} (R : Rep X.K xa F ρ m H) (E : RepE X.K xa F ρ σ env) (hq : evE cf q env m = .ok kv m3) (ht : truth m3 kv = some tb)
    (k : ∀ F' ρ' H', Ext F ρ H F' ρ' H' → Rep X.K xa F' ρ' m3 H' → Q tb H') : tT X xa ec cf W q σ H Q := by
  refine ⟨F, ρ, m, env, R, E, ?_⟩
  show Post X.K xa ec (fun _ _ (b b' : Bool) => b = b') _ F ρ H ((evE cf q env m).bind fun x m1 => Res.of (truth m1 x) m1) _
  rw [hq]
  show Post X.K xa ec (fun _ _ (b b' : Bool) => b = b') _ F ρ H (Res.of (truth m3 kv) m3) _
  rw [ht]
  intro F' ρ' H' b E' R' hb
  have hb : b = tb := hb
  rw [hb]
  exact k F' ρ' H' E' R'
theorem s_comp2 {t t1 : Tg} {it it1 : PV.It} {vs vs1 : List Nat} {q q1 e : Ex} (hsl : ∀ j ∈ tgSl t, j ∈ vs) (hsl1 : ∀ j ∈ tgSl t1, j ∈ vs1) :
    ∀ σ H Q, tL X xa ec cf W (.comp2 t it vs q t1 it1 vs1 q1 e) σ H Q → tLc2 (tI X xa ec cf W it) (tG X xa t) (tT X xa ec cf W0 q) (tI X xa ec cf W0 it1) (tG X xa t1) (tT X xa ec cf W0 q1) (tE X xa ec cf W0 e) vs vs1 σ H Q := by
  intro σ H Q ⟨F, ρ, m, env, R, E, P⟩
  refine ⟨F, ρ, m, env, R, E, postL_bind (rel := relI X xa) P fun src m1 F1 ρ1 H1 J e1 E1 R1 ws P1 => fun D hD => ?_⟩
  have Eσ := E.ext E1
  clear P
  obtain ⟨bd, hbd⟩ : ∃ bd : EV → Mem → Res (List PV.D), bd = turnA t (wipeE env vs) (fun e2 m2 => evE cf q e2 m2) (fun e2 m2 => evI cf it1 e2 m2) (fun e2 => turnB t1 (wipeE e2 vs1) (fun e3 m3 => evE cf q1 e3 m3) (fun e3 m3 => evE cf e e3 m3)) := ⟨_, rfl⟩
  have P1 : PostL X xa ec (fun c d H => W c d σ H) F1 ρ1 H1 [] (limL (catL src bd src.len 0 m1)) Q := by rw [hbd]; exact P1
  cases hcat : catL src bd src.len 0 m1 with
  | bad => rw [hcat] at P1; exact False.elim P1
  | ex c fs mf => rw [hcat] at P1; exact False.elim P1
  | ok ds mf =>
  rw [hcat] at P1
  have P1 : PostL X xa ec (fun c d H => W c d σ H) F1 ρ1 H1 [] (if decide (ds.length ≤ LIM) then .ok ds mf else .bad) Q := P1
  by_cases hl : ds.length ≤ LIM
  case neg => rw [decide_eq_false hl] at P1; exact False.elim P1
  rw [decide_eq_true hl] at P1
  have PQ : PostL X xa ec (fun c d H => W c d σ H) F1 ρ1 H1 [] (.ok ds mf) Q := P1
  clear P1
  have hD1 : F1 D = none := by
    cases h : F1 D with
    | none => rfl
    | some o => rw [R1.le D o h] at hD; cases hD
  have hD2 : D ∉ ρ1 := fun h => R1.there h hD
  have E0 : Ext F1 ρ1 H1 F1 ρ1 (upd H1 D (.lst [])) := ⟨Same.refl _, ⟨[], by simp, by simp⟩, fun b u h _ _ => by rw [upd_ne (ne_of_none h hD)]; exact h, fun b u h n => (by rw [h] at n; cases n), fun b h => by
    by_cases hb : b = D
    · subst hb; exact absurd hD h
    · rw [upd_ne hb]; exact h, fun b o u h => by rw [upd_ne (ne_of_none h hD)]; exact h⟩
  have R0 : Rep X.K xa F1 ρ1 m1 (upd H1 D (.lst [])) := (R1.grow (Same.refl F1) (fun b u h => by rw [upd_ne (ne_of_none (R1.le b u h) hD)]; exact R1.le b u h) (fun b u h => by rw [upd_ne (ne_of_none h hD)]; exact h) fun b u h n => (by rw [h] at n; cases n)).1
  refine ⟨fun i n H' => n = src.len - i ∧ i ≤ src.len ∧ ∃ F' ρ' mem ws' acc rest, Ext F1 ρ1 H1 F' ρ' H' ∧ Rep X.K xa F' ρ' mem H' ∧ H' D = some (.lst ws') ∧ F' D = none ∧ D ∉ ρ' ∧ Dfs X.K F' ws' acc ∧
    catL src bd (src.len - i) i mem = .ok rest mf ∧ acc ++ rest = ds, ⟨src.len, rfl, Nat.zero_le _, F1, ρ1, m1, [], [], ds, E0, R0, upd_same, hD1, hD2, .nil, hcat, rfl⟩, ?_⟩
  rintro i n H' ⟨rfl, hi', F', ρ', mem, ws', acc, rest, E', R', hD', hF', hr', dd, hrun, hsum⟩
  by_cases hlt : i < src.len
  case neg =>
    have hi2 : i = src.len := by omega
    subst hi2
    rw [Nat.sub_self] at hrun
    obtain ⟨hf, rfl, rfl⟩ := catL_z hrun
    rw [List.append_nil] at hsum
    subst hsum
    exact .inl ⟨ws.stop F' ρ' _ H' R' E'.fle E'.pre' hf, PQ F' ρ' H' D ws' E' R' hD' hF' hr' hD (by simpa using dd) (by simpa using hl)⟩
  obtain ⟨k, hk⟩ : ∃ k, src.len - i = k + 1 := ⟨src.len - i - 1, by omega⟩
  rw [hk] at hrun
  obtain ⟨x, ds1, m2, rest2, hx, hb, hrun2, hre⟩ := catL_s hrun
  subst hre
  obtain ⟨go, yld⟩ := ws.go i F' ρ' mem H' x hlt R' E'.fle E'.pre' hx
  refine .inr ⟨go, fun H2 => ∃ F' ρ' ws' acc', Ext F1 ρ1 H1 F' ρ' H2 ∧ Rep X.K xa F' ρ' m2 H2 ∧ H2 D = some (.lst ws') ∧ F' D = none ∧ D ∉ ρ' ∧ Dfs X.K F' ws' acc' ∧ acc' ++ rest2 = ds,
    fun H2 ⟨F9, ρ9, ws9, acc9, q1', q2, q3, q4, q5, q6, q7⟩ => ⟨k, by omega, by omega, by omega, F9, ρ9, m2, ws9, acc9, rest2, q1', q2, q3, q4, q5, q6, by rw [show src.len - (i + 1) = k by omega]; exact hrun2, q7⟩, fun v H2 y => ?_⟩
  obtain ⟨F2, E2, R2, rv⟩ := yld v H2 y
  have E12 := E'.trans E2
  have hD2 := ext_new E2 hD' hF' hr' nt_lst
  rw [hbd] at hb
  unfold turnA at hb
  cases ha : asgT t x (wipeE env vs) with
  | none => rw [ha] at hb; cases hb
  | some env2 =>
  rw [ha] at hb
  dsimp only at hb
  obtain ⟨kv, m3, hq, hb⟩ := bind_ok hb
  refine ⟨F2, ρ', mem, wipeE env vs, x, env2, R2, (Eσ.ext E12).wipe vs, rv, asgM_of ha, fun σ2 Eσ2 l2 k2 => ⟨wipe_wipe σ σ2 vs l2 fun j hj => k2 j fun h => hj (hsl j h), ?_⟩⟩
  cases ht' : truth m3 kv with
  | none => rw [ht'] at hb; cases hb
  | some tb =>
  rw [ht'] at hb
  refine tt_now R2 Eσ2 hq ht' fun F3 ρ3 H3 E3 R3 => ?_
  have hD3 := ext_new E3 hD2.1 hD2.2.1 hD2.2.2 nt_lst
  have dd3 := Dfs.mono (Same.trans E2.fle E3.fle) dd
  cases tb with
  | false =>
    have hb : Res.ok [] m3 = Res.ok ds1 m2 := hb
    simp only [Res.ok.injEq] at hb
    obtain ⟨rfl, rfl⟩ := hb
    rw [if_neg Bool.false_ne_true]
    exact ⟨F3, ρ3, ws', acc, E12.trans E3, R3, hD3.1, hD3.2.1, hD3.2.2, dd3, hsum⟩
  | true =>
  rw [if_pos rfl]
  dsimp only at hb
  obtain ⟨src1, m4, hi1, hb⟩ := bind_ok hb
  refine ⟨F3, ρ3, m3, env2, R3, Eσ2.ext E3, ?_⟩
  rw [hi1]
  intro F4 ρ4 H4 J1 E4 R4 ws1
  have ws1 : WalkS X.K xa F4 ρ4 J1 src1 := ws1
  have E14 := (E12.trans E3).trans E4
  have E24 := E3.trans E4
  have hD4 := ext_new E4 hD3.1 hD3.2.1 hD3.2.2 nt_lst
  have dd4 := Dfs.mono E4.fle dd3
  obtain ⟨bd1, hbd1⟩ : ∃ bd1 : EV → Mem → Res (Option PV.D), bd1 = turnB t1 (wipeE env2 vs1) (fun e3 m3 => evE cf q1 e3 m3) (fun e3 m3 => evE cf e e3 m3) := ⟨_, rfl⟩
  rw [← hbd1] at hb
  refine ⟨fun j n H' => n = src1.len - j ∧ j ≤ src1.len ∧ ∃ F' ρ' mem ws' acc1 rest1, Ext F1 ρ1 H1 F' ρ' H' ∧ Rep X.K xa F' ρ' mem H' ∧ Same F4 F' ∧ (∃ ζ, ρ' = ρ4 ++ ζ) ∧ H' D = some (.lst ws') ∧ F' D = none ∧ D ∉ ρ' ∧ Dfs X.K F' ws' acc1 ∧
    compL src1 bd1 (src1.len - j) j mem = .ok rest1 m2 ∧ acc1 ++ rest1 = acc ++ ds1, ⟨src1.len, rfl, Nat.zero_le _, F4, ρ4, m4, ws', acc, ds1, E14, R4, Same.refl _, ⟨[], by simp⟩, hD4.1, hD4.2.1, hD4.2.2, dd4, hb, rfl⟩, ?_⟩
  rintro j n H5 ⟨rfl, hj', F5, ρ5, mem5, ws5, acc5, rest5, E5, R5, s5, p5, hD5, hF5, hr5, dd5, hrun5, hsum5⟩
  by_cases hjt : j < src1.len
  case neg =>
    have hj2 : j = src1.len := by omega
    subst hj2
    rw [Nat.sub_self] at hrun5
    obtain ⟨hf, rfl, rfl⟩ := compL_z hrun5
    rw [List.append_nil] at hsum5
    subst hsum5
    exact .inl ⟨ws1.stop F5 ρ5 _ H5 R5 s5 p5 hf, F5, ρ5, ws5, _, E5, R5, hD5, hF5, hr5, dd5, by rw [List.append_assoc]; exact hsum⟩
  obtain ⟨k1, hk1⟩ : ∃ k1, src1.len - j = k1 + 1 := ⟨src1.len - j - 1, by omega⟩
  rw [hk1] at hrun5
  obtain ⟨y1, o, m6, rest6, hy, hb1, hrun6, hre⟩ := compL_s hrun5
  subst hre
  obtain ⟨go1, yld1⟩ := ws1.go j F5 ρ5 mem5 H5 y1 hjt R5 s5 p5 hy
  refine .inr ⟨go1, fun H2 => ∃ F' ρ' ws' acc1, Ext F1 ρ1 H1 F' ρ' H2 ∧ Rep X.K xa F' ρ' m6 H2 ∧ Same F4 F' ∧ (∃ ζ, ρ' = ρ4 ++ ζ) ∧ H2 D = some (.lst ws') ∧ F' D = none ∧ D ∉ ρ' ∧ Dfs X.K F' ws' acc1 ∧ acc1 ++ rest6 = acc ++ ds1,
    fun H2 ⟨F9, ρ9, ws9, acc9, q1', q2, q8, q9, q3, q4, q5, q6, q7⟩ => ⟨k1, by omega, by omega, by omega, F9, ρ9, m6, ws9, acc9, rest6, q1', q2, q8, q9, q3, q4, q5, q6, by rw [show src1.len - (j + 1) = k1 by omega]; exact hrun6, q7⟩, fun v6 H6 yy => ?_⟩
  obtain ⟨F6, E6, R6, rv6⟩ := yld1 v6 H6 yy
  have E16 := E5.trans E6
  have hD6 := ext_new E6 hD5 hF5 hr5 nt_lst
  have dd6 := Dfs.mono E6.fle dd5
  have s6 := Same.trans s5 E6.fle
  have e26 : RepE X.K xa F6 ρ5 σ2 env2 := by
    refine Eσ2.mono (Same.trans E24.fle s6) ?_
    obtain ⟨ζ, z1⟩ := p5
    obtain ⟨η, z2⟩ := E24.pre'
    exact ⟨η ++ ζ, by rw [z1, z2, List.append_assoc]⟩
  rw [hbd1] at hb1
  unfold turnB at hb1
  cases ha1 : asgT t1 y1 (wipeE env2 vs1) with
  | none => rw [ha1] at hb1; cases hb1
  | some env3 =>
  rw [ha1] at hb1
  dsimp only at hb1
  obtain ⟨kv1, m7, hq1, hb1⟩ := bind_ok hb1
  refine ⟨F6, ρ5, mem5, wipeE env2 vs1, y1, env3, R6, e26.wipe vs1, rv6, asgM_of ha1, fun σ3 Eσ3 l3 k3 => ⟨wipe_wipe σ2 σ3 vs1 l3 fun j hj => k3 j fun h => hj (hsl1 j h), ?_⟩⟩
  cases ht1 : truth m7 kv1 with
  | none => rw [ht1] at hb1; cases hb1
  | some tb1 =>
  rw [ht1] at hb1
  refine tt_now R6 Eσ3 hq1 ht1 fun F7 ρ7 H7 E7 R7 => ?_
  have E17 := E16.trans E7
  have hD7 := ext_new E7 hD6.1 hD6.2.1 hD6.2.2 nt_lst
  have dd7 := Dfs.mono E7.fle dd6
  have s7 := Same.trans s6 E7.fle
  have p7 : ∃ ζ, ρ7 = ρ4 ++ ζ := by
    obtain ⟨ζ, z1⟩ := p5
    obtain ⟨η, z2⟩ := E7.pre'
    exact ⟨ζ ++ η, by rw [z2, z1, List.append_assoc]⟩
  cases tb1 with
  | false =>
    have hb1 : Res.ok none m7 = Res.ok o m6 := hb1
    simp only [Res.ok.injEq] at hb1
    obtain ⟨rfl, rfl⟩ := hb1
    rw [if_neg Bool.false_ne_true]
    exact ⟨F7, ρ7, ws5, acc5, E17, R7, s7, p7, hD7.1, hD7.2.1, hD7.2.2, dd7, hsum5⟩
  | true =>
  rw [if_pos rfl]
  dsimp only at hb1
  obtain ⟨yv, m8, he, hb1⟩ := bind_ok hb1
  refine ⟨F7, ρ7, m7, env3, R7, Eσ3.ext E7, ?_⟩
  rw [he]
  intro F8 ρ8 H8 u E8 R8 ru
  cases yv with
  | loc _ => cases hb1
  | exc _ _ => cases hb1
  | ro _ => cases hb1
  | d p =>
  simp only [Res.ok.injEq] at hb1
  obtain ⟨rfl, rfl⟩ := hb1
  have hD8 := ext_new E8 hD7.1 hD7.2.1 hD7.2.2 nt_lst
  have E18 := E17.trans E8
  have dd8 := Dfs.mono E8.fle dd7
  have hnD : ∀ b u, F8 b = some u → b ≠ D := fun b u h z => by rw [z, hD8.2.1] at h; cases h
  have R9 : Rep X.K xa F8 ρ8 m8 (upd H8 D (.lst (ws5 ++ [u]))) := by
    refine ⟨fun b w h => ?_, R8.len, fun n a o e1 e2 => (R8.ob n a o e1 e2).mono (Same.refl _) ⟨[], by simp⟩ fun w h => ?_, R8.nf, R8.nd, R8.wf, tabs_upd R8.tab fun u hu => (by rw [hD8.1] at hu; cases hu; exact nt_lst), R8.nft⟩
    · rw [upd_ne (hnD b w h)]; exact R8.le b w h
    · have : a ≠ D := fun z => hD8.2.2 (z ▸ List.mem_of_getElem? e1)
      rw [upd_ne this]; exact h
  have E19 : Ext F1 ρ1 H1 F8 ρ8 (upd H8 D (.lst (ws5 ++ [u]))) := by
    refine ⟨E18.fle, E18.pre, fun b w h n nt => ?_, E18.new, fun b h => ?_, fun b o' w h => (by rw [upd_ne (ne_of_none h hD)]; exact E18.frz b o' w h)⟩
    · rw [upd_ne (ne_of_none h hD)]; exact E18.frm b w h n nt
    · by_cases hb : b = D
      · subst hb; rw [upd_same]; simp
      · rw [upd_ne hb]; exact E18.kep b h
  refine ⟨ws5, hD8.1, ?_, F8, ρ8, ws5 ++ [u], acc5 ++ [p], E19, R9, Same.trans s7 E8.fle, ?_, upd_same, hD8.2.1, hD8.2.2, Dfs.append dd8 (.cons ru .nil), ?_⟩
  · have h1 := congrArg List.length hsum5
    have h2 := congrArg List.length hsum
    simp only [List.length_append, Option.toList, List.length_cons, List.length_nil] at h1 h2
    rw [dd5.len, ← lim_eq]
    omega
  · obtain ⟨ζ, z1⟩ := p7
    obtain ⟨η, z2⟩ := E8.pre'
    exact ⟨ζ ++ η, by rw [z2, z1, List.append_assoc]⟩
  · rw [List.append_assoc]
    exact hsum5
theorem s_lc2 {elt tg iter tg1 iter1 : Expr} {ifs ifs1 : List Expr} {scope : Scope} {own : List (Str × Nat)} {pos : Pos} {t t1 : Tg} {it it1 : PV.It} {vs1 : List Nat} {q q1 e : Ex} (hc : X.calm = true) (hN : X.N.Nodup) (hi : PI X tg iter (tI X xa ec cf W it)) (ok : BlkOk X.N X.env.scope scope own) (hv : ∀ i ∈ vs1, i ∈ own.map (·.2))
    (hg : ∀ (s : Shared) (H : Hp) (C : Addr) (cl : List (Str × Addr)) (fp : List Addr), PG (X.blk s H scope (compEnvC scope cl C X.env) fp) tg (tG X xa t)) (ht : ∀ (s : Shared) (H : Hp) (C : Addr) (cl : List (Str × Addr)) (fp : List Addr), PTs (X.blk s H scope (compEnvC scope cl C X.env) fp) ifs (tT X xa ec cf W0 q))
    (hi1 : ∀ (s : Shared) (H : Hp) (C : Addr) (cl : List (Str × Addr)) (fp : List Addr), PI (X.blk s H scope (compEnvC scope cl C X.env) fp) tg1 iter1 (tI X xa ec cf W0 it1))
    (hg1 : ∀ (s : Shared) (H : Hp) (C : Addr) (cl : List (Str × Addr)) (fp : List Addr), PG (X.blk s H scope (compEnvC scope cl C X.env) fp) tg1 (tG X xa t1)) (ht1 : ∀ (s : Shared) (H : Hp) (C : Addr) (cl : List (Str × Addr)) (fp : List Addr), PTs (X.blk s H scope (compEnvC scope cl C X.env) fp) ifs1 (tT X xa ec cf W0 q1))
    (he : ∀ (s : Shared) (H : Hp) (C : Addr) (cl : List (Str × Addr)) (fp : List Addr), PE (X.blk s H scope (compEnvC scope cl C X.env) fp) elt (tE X xa ec cf W0 e)) (hs : ∀ x, foldedSetIterable iter X.env x = pure x) (hs1 : ∀ env x, foldedSetIterable iter1 env x = pure x)
    (hsl : ∀ j ∈ tgSl t, j ∈ own.map (·.2)) (hsl1 : ∀ j ∈ tgSl t1, j ∈ vs1) :
    PE X (.ListComp elt [⟨tg, iter, ifs, 0⟩, ⟨tg1, iter1, ifs1, 0⟩] scope pos) (tL X xa ec cf W (.comp2 t it (own.map (·.2)) q t1 it1 vs1 q1 e)) :=
  pe_mono (pe_lc2 hc hN hi ok hv hg ht hi1 hg1 ht1 he hs hs1) (s_comp2 hsl hsl1)
/-- name = [.. for .. for ..], stored from within -/
theorem s_asgL2 {sub : Nat → Nat → Bool} {i : Nat} {y : Str} {py spos : Pos} {elt tg iter tg1 iter1 : Expr} {ifs ifs1 : List Expr} {scope : Scope} {own : List (Str × Nat)} {pos : Pos} {t t1 : Tg} {it it1 : PV.It} {vs1 : List Nat} {q q1 e te : Ex} (hc : X.calm = true) (hN : X.N.Nodup) (hy : X.N[i]? = some y) (hyl : X.env.scope.names.lookup y = some .local)
    (hsw : swapsWith (.ListComp elt [⟨tg, iter, ifs, 0⟩, ⟨tg1, iter1, ifs1, 0⟩] scope pos) (some (.Name y py)) spos.line X.env = pure true) (hi : PI X tg iter (tI X xa ec cf W it)) (ok : BlkOk X.N X.env.scope scope own) (hv : ∀ i ∈ vs1, i ∈ own.map (·.2))
    (hg : ∀ (s : Shared) (H : Hp) (C : Addr) (cl : List (Str × Addr)) (fp : List Addr), PG (X.blk s H scope (compEnvC scope cl C X.env) fp) tg (tG X xa t)) (ht : ∀ (s : Shared) (H : Hp) (C : Addr) (cl : List (Str × Addr)) (fp : List Addr), PTs (X.blk s H scope (compEnvC scope cl C X.env) fp) ifs (tT X xa ec cf W0 q))
    (hi1 : ∀ (s : Shared) (H : Hp) (C : Addr) (cl : List (Str × Addr)) (fp : List Addr), PI (X.blk s H scope (compEnvC scope cl C X.env) fp) tg1 iter1 (tI X xa ec cf W0 it1))
    (hg1 : ∀ (s : Shared) (H : Hp) (C : Addr) (cl : List (Str × Addr)) (fp : List Addr), PG (X.blk s H scope (compEnvC scope cl C X.env) fp) tg1 (tG X xa t1)) (ht1 : ∀ (s : Shared) (H : Hp) (C : Addr) (cl : List (Str × Addr)) (fp : List Addr), PTs (X.blk s H scope (compEnvC scope cl C X.env) fp) ifs1 (tT X xa ec cf W0 q1))
    (he : ∀ (s : Shared) (H : Hp) (C : Addr) (cl : List (Str × Addr)) (fp : List Addr), PE (X.blk s H scope (compEnvC scope cl C X.env) fp) elt (tE X xa ec cf W0 e)) (hs : ∀ x, foldedSetIterable iter X.env x = pure x) (hs1 : ∀ env x, foldedSetIterable iter1 env x = pure x)
    (hsl : ∀ j ∈ tgSl t, j ∈ own.map (·.2)) (hsl1 : ∀ j ∈ tgSl t1, j ∈ vs1)
    (hte : ∀ σ H Q, tE X xa ec cf W te σ H Q → tL X xa ec cf W (.comp2 t it (own.map (·.2)) q t1 it1 vs1 q1 e) σ H Q) :
    PS X (.Assign [.Name y py] (.ListComp elt [⟨tg, iter, ifs, 0⟩, ⟨tg1, iter1, ifs1, 0⟩] scope pos) spos) (tS X xa ec cf W sub (.asg (.nm i) te)) := by
  refine ps_mono (ps_setLc2 hc hN hy hyl hsw hi ok hv hg ht hi1 hg1 ht1 he hs hs1) fun D σ H ⟨F, ρ, m, env, R, E, P⟩ => ?_
  refine s_comp2 hsl hsl1 σ H _ (hte σ H _ ⟨F, ρ, m, env, R, E, postS_of (rel := relV X xa) E P fun v m1 F1 ρ1 H1 b e E1 R1 q P1 => ?_⟩)
  obtain ⟨env1, e2, P2⟩ := P1.opt
  have e2 : some (env.set i (some v)) = some env1 := by simpa [asgM] using e2
  cases e2
  exact P2.now R1 ((E.ext E1).set q)
end
end PV
end

section
set_option Elab.async false
set_option linter.all false
set_option maxRecDepth 100000
/-! PV10: loops, branches, stores. -/
namespace PV
open PySem PySem.Spec PyProof.Rows L2

section
variable {X : Cx} {xa : List (Addr × Str)} {ec : Nat → Addr} {cf : CF} {W : WX} {a b c : Expr} {pos : Pos} {ea eb ec' : Ex} {sub : Nat → Nat → Bool}
theorem s_if {p q : List Stmt} {tp tq : Sts} (hc : PT X a (tT X xa ec cf W ea)) (hp : PSs X p (tSs X xa ec cf W sub tp)) (hq : PSs X q (tSs X xa ec cf W sub tq)) : PS X (.If a p q pos) (tS X xa ec cf W sub (.ite ea tp tq)) := by
  refine ps_mono (ps_if hc hp hq) fun D σ H ⟨F, ρ, m, env, R, E, P⟩ => ?_
  refine ⟨F, ρ, m, env, R, E, postS_of (rel := fun _ _ (b b' : Bool) => b = b') E P fun v m1 F1 ρ1 H1 b e E1 R1 q P1 => ?_⟩
  subst q
  cases b with
  | true => exact iteT ⟨F1, ρ1, m1, env, R1, E.ext E1, P1⟩
  | false => exact iteF ⟨F1, ρ1, m1, env, R1, E.ext E1, P1⟩
theorem for_core {t : Tg} {bs : Sts} {σ : L2.St} {F1 : Hp} {ρ1 : List Addr} {H1 : Hp} {m1 : Mem} {env : Env} {J : L2.It} {src : Src} {D : Ends} (R1 : Rep X.K xa F1 ρ1 m1 H1) (E1 : RepE X.K xa F1 ρ1 σ env) (ws : WalkE X.K xa F1 ρ1 H1 J src)
    (P1 : PostS X xa ec W F1 ρ1 H1 (forL src t (fun e2 m2 => evSs cf sub bs e2 m2) src.len 0 env m1) D) :
    ∃ W' : Nat → Nat → L2.St → Hp → Prop, (∃ m, W' 0 m σ H1) ∧ ∀ i m σ H, W' i m σ H →
      (J.stop i H ∧ D.nx σ H) ∨ (J.go i H ∧ ∃ N : L2.St → Hp → Prop, (∀ σ' H', N σ' H' → ∃ m', m' < m ∧ W' (i + 1) m' σ' H') ∧ ∀ x H', J.yld i H x H' → tG X xa t x σ H' fun σ2 H2 => tSs X xa ec cf W sub bs { D with nx := N, ct := N, bk := D.nx } σ2 H2) := by
  obtain ⟨bf, hbf⟩ : ∃ bf : Env → Mem → S, bf = fun e2 m2 => evSs cf sub bs e2 m2 := ⟨_, rfl⟩
  have P1 : PostS X xa ec W F1 ρ1 H1 (forL src t bf src.len 0 env m1) D := by rw [hbf]; exact P1
  refine ⟨fun i n σ' H' => n = src.len - i ∧ i ≤ src.len ∧ ∃ F' ρ' mem env', Ext F1 ρ1 H1 F' ρ' H' ∧ Rep X.K xa F' ρ' mem H' ∧ RepE X.K xa F' ρ' σ' env' ∧ PostS X xa ec W F' ρ' H' (forL src t bf (src.len - i) i env' mem) D,
    ⟨src.len, rfl, Nat.zero_le _, F1, ρ1, m1, env, Ext.refl _ _ _, R1, E1, P1⟩, ?_⟩
  rintro i n σ' H' ⟨rfl, hi', F', ρ', mem, env', E', R', Eσ, P'⟩
  by_cases hlt : i < src.len
  · obtain ⟨k, hk⟩ : ∃ k, src.len - i = k + 1 := ⟨src.len - i - 1, by omega⟩
    rw [hk] at P' ⊢
    unfold forL at P'
    cases hx : src.get mem i with
    | none => rw [hx] at P'; exact False.elim P'
    | some x =>
      rw [hx] at P'
      dsimp only at P'
      obtain ⟨go, yld⟩ := ws.go i F' ρ' mem H' x hlt R' E' hx
      cases ha : asgT t x env' with
      | none => rw [ha] at P'; exact False.elim P'
      | some env1 =>
        rw [ha] at P'
        dsimp only at P'
        refine .inr ⟨go, fun σ2 H2 => ∃ F' ρ' mem env', Ext F1 ρ1 H1 F' ρ' H2 ∧ Rep X.K xa F' ρ' mem H2 ∧ RepE X.K xa F' ρ' σ2 env' ∧ PostS X xa ec W F' ρ' H2 (forL src t bf k (i + 1) env' mem) D,
          fun σ2 H2 h => ⟨k, by omega, by omega, by omega, by rw [show src.len - (i + 1) = k by omega]; exact h⟩, fun v H2 y => ?_⟩
        obtain ⟨F2, E2, R2, rv⟩ := yld v H2 y
        refine ⟨F2, ρ', mem, env', x, env1, R2, Eσ.ext E2, rv, asgM_of ha, fun σ2 Eσ2 _ _ => ⟨F2, ρ', mem, env1, R2, Eσ2, ?_⟩⟩
        have hb2 : evSs cf sub bs env1 mem = bf env1 mem := by rw [hbf]
        rw [hb2]
        have E12 := E'.trans E2
        cases r : bf env1 mem with
        | nx env2 m2 =>
          rw [r] at P'
          exact fun F3 ρ3 H3 σ3 E3 R3 Eσ3 => ⟨F3, ρ3, m2, env2, E12.trans E3, R3, Eσ3, PostS.up (r := forL src t bf k (i + 1) env2 m2) P' (E2.trans E3)⟩
        | ct env2 m2 =>
          rw [r] at P'
          exact fun F3 ρ3 H3 σ3 E3 R3 Eσ3 => ⟨F3, ρ3, m2, env2, E12.trans E3, R3, Eσ3, PostS.up (r := forL src t bf k (i + 1) env2 m2) P' (E2.trans E3)⟩
        | bk env2 m2 =>
          rw [r] at P'
          exact fun F3 ρ3 H3 σ3 E3 R3 Eσ3 => P' F3 ρ3 H3 σ3 (E2.trans E3) R3 Eσ3
        | rt v2 m2 =>
          rw [r] at P'
          exact fun F3 ρ3 H3 x E3 R3 q => P' F3 ρ3 H3 x (E2.trans E3) R3 q
        | ex c fs env2 m2 =>
          rw [r] at P'
          exact fun F3 ρ3 H3 σ3 cls d E3 R3 Eσ3 q => P' F3 ρ3 H3 σ3 cls d (E2.trans E3) R3 Eσ3 q
        | bad => rw [r] at P'; exact P'
  · have hi2 : i = src.len := by omega
    subst hi2
    rw [Nat.sub_self] at P'
    unfold forL at P'
    split at P'
    · rename_i hf
      exact .inl ⟨ws.stop F' ρ' mem H' R' E' hf, P'.now R' Eσ⟩
    · exact False.elim P'
theorem s_for {tg iter : Expr} {t : Tg} {it : PV.It} {body : List Stmt} {bs : Sts} (hp : PassesOwn (model X.prog X.w) X.A X.env X.xe) (hc : X.calm = true) (hi : PI X tg iter (tI X xa ec cf W it)) (hg : PG X tg (tG X xa t)) (hb : PSs X body (tSs X xa ec cf W sub bs))
    (hs : ∀ x, foldedSetIterable iter X.env x = pure x) : PS X (.For tg iter body [] pos) (tS X xa ec cf W sub (.for t it bs)) := by
  refine ps_mono (ps_for hp hc hi hg hb hs) fun D σ H ⟨F, ρ, m, env, R, E, P⟩ => ?_
  refine ⟨F, ρ, m, env, R, E, postS_of (rel := relI X xa) E P fun src m1 F1 ρ1 H1 J e E1 R1 ws P1 => for_core R1 (E.ext E1) ws.e P1⟩
theorem s_whl {body : List Stmt} {bs : Sts} (hp : PassesOwn (model X.prog X.w) X.A X.env X.xe) (hc : PT X a (tT X xa ec cf W ea)) (hb : PSs X body (tSs X xa ec cf W sub bs)) : PS X (.While a body [] pos) (tS X xa ec cf W sub (.whl ea bs)) := by
  refine ps_mono (ps_while hp hc hb) fun D σ H ⟨F, ρ, m, env, R, E, P⟩ => ?_
  obtain ⟨bf, hbf⟩ : ∃ bf : Env → Mem → S, bf = fun e2 m2 => evSs cf sub bs e2 m2 := ⟨_, rfl⟩
  have P : PostS X xa ec W F ρ H (whlL (evT cf ea) bf 1000000000 env m) D := by rw [hbf]; exact P
  generalize (1000000000 : Nat) = fuel at P
  refine ⟨fun n σ' H' => ∃ F' ρ' mem env', Rep X.K xa F' ρ' mem H' ∧ RepE X.K xa F' ρ' σ' env' ∧ PostS X xa ec W F' ρ' H' (whlL (evT cf ea) bf n env' mem) D, ⟨fuel, F, ρ, m, env, R, E, P⟩, ?_⟩
  rintro n σ' H' ⟨F', ρ', mem, env', R', Eσ, P'⟩
  cases n with
  | zero => exact False.elim P'
  | succ n =>
    unfold whlL at P'
    refine ⟨F', ρ', mem, env', R', Eσ, ?_⟩
    cases rc : evT cf ea env' mem with
    | bad => rw [rc] at P'; exact P'
    | ex k fs m1 =>
      rw [rc] at P'
      exact fun F2 ρ2 H2 cls d E2 R2 x => P' F2 ρ2 H2 σ' cls d E2 R2 (Eσ.ext E2) x
    | ok tb m1 =>
      rw [rc] at P'
      intro F2 ρ2 H2 b E2 R2 hb
      have hb : b = tb := hb
      subst hb
      cases b with
      | false =>
        exact iteF (P' F2 ρ2 H2 σ' E2 R2 (Eσ.ext E2))
      | true =>
        refine iteT ⟨fun σ3 H3 => ∃ F' ρ' mem env', Rep X.K xa F' ρ' mem H3 ∧ RepE X.K xa F' ρ' σ3 env' ∧ PostS X xa ec W F' ρ' H3 (whlL (evT cf ea) bf n env' mem) D, fun σ3 H3 h => ⟨n, Nat.lt_succ_self n, h⟩, F2, ρ2, m1, env', R2, Eσ.ext E2, ?_⟩
        have hb2 : evSs cf sub bs env' m1 = bf env' m1 := by rw [hbf]
        rw [hb2]
        dsimp only at P'
        cases r : bf env' m1 with
        | nx env2 m2 =>
          rw [r] at P'
          exact fun F3 ρ3 H3 σ3 E3 R3 Eσ3 => ⟨F3, ρ3, m2, env2, R3, Eσ3, PostS.up (r := whlL (evT cf ea) bf n env2 m2) P' (E2.trans E3)⟩
        | ct env2 m2 =>
          rw [r] at P'
          exact fun F3 ρ3 H3 σ3 E3 R3 Eσ3 => ⟨F3, ρ3, m2, env2, R3, Eσ3, PostS.up (r := whlL (evT cf ea) bf n env2 m2) P' (E2.trans E3)⟩
        | bk env2 m2 =>
          rw [r] at P'
          exact fun F3 ρ3 H3 σ3 E3 R3 Eσ3 => P' F3 ρ3 H3 σ3 (E2.trans E3) R3 Eσ3
        | rt v2 m2 =>
          rw [r] at P'
          exact fun F3 ρ3 H3 x E3 R3 q => P' F3 ρ3 H3 x (E2.trans E3) R3 q
        | ex c fs env2 m2 =>
          rw [r] at P'
          exact fun F3 ρ3 H3 σ3 cls d E3 R3 Eσ3 q => P' F3 ρ3 H3 σ3 cls d (E2.trans E3) R3 Eσ3 q
        | bad => rw [r] at P'; exact P'
theorem setAll_2 (env : Env) (i j : Nat) (u v : EV) : setAll env [i, j] [u, v] = (env.set i (some u)).set j (some v) := rfl
theorem s_par2 {i j : Nat} {x y : Str} {xs : Exs} {px py pt : Pos} {kt k2 pt2} (hc : X.calm = true) (hN : X.N.Nodup) (hi : X.N[i]? = some x) (hj : X.N[j]? = some y) (hij : i ≠ j)
    (hx : X.env.scope.names.lookup x = some .local) (hy : X.env.scope.names.lookup y = some .local) (ha : PA X [a, b] (tEs X xa ec cf W xs))
    (hw : swappedStores [.Tuple [.Name x px, .Name y py] kt pt] (.Tuple [a, b] k2 pt2) X.env = pure (some [x, y])) (hn : ∀ env m vs m1, evEs cf xs env m = .ok vs m1 → vs.length = 2) :
    PS X (.Assign [.Tuple [.Name x px, .Name y py] kt pt] (.Tuple [a, b] k2 pt2) pos) (tS X xa ec cf W sub (.par [i, j] xs)) := by
  refine ps_mono (ps_par hc hN hi hj hij hx hy ha hw) fun D σ H ⟨F, ρ, m, env, R, E, P⟩ => ?_
  refine ⟨F, ρ, m, env, R, E, postS_of (rel := relVs X xa) E P fun v m1 F1 ρ1 H1 us e E1 R1 q P1 => ?_⟩
  have hl := hn _ _ _ _ e
  match v, hl with
  | [p1, p2], _ =>
    cases q with
    | cons q1 q =>
      cases q with
      | cons q2 q =>
        cases q
        exact ⟨_, _, rfl, P1.now R1 (((E.ext E1).set q1).set q2)⟩
theorem s_par3 {i j l : Nat} {x y z : Str} {xs : Exs} {px py pz pt : Pos} {kt k2 pt2} (hc : X.calm = true) (hN : X.N.Nodup) (hi : X.N[i]? = some x) (hj : X.N[j]? = some y) (hl : X.N[l]? = some z) (hij : i ≠ j) (hil : i ≠ l) (hjl : j ≠ l)
    (hx : X.env.scope.names.lookup x = some .local) (hy : X.env.scope.names.lookup y = some .local) (hz : X.env.scope.names.lookup z = some .local) (ha : PA X [a, b, c] (tEs X xa ec cf W xs))
    (hw : swappedStores [.Tuple [.Name x px, .Name y py, .Name z pz] kt pt] (.Tuple [a, b, c] k2 pt2) X.env = pure (some [x, y, z])) (hn : ∀ env m vs m1, evEs cf xs env m = .ok vs m1 → vs.length = 3) :
    PS X (.Assign [.Tuple [.Name x px, .Name y py, .Name z pz] kt pt] (.Tuple [a, b, c] k2 pt2) pos) (tS X xa ec cf W sub (.par [i, j, l] xs)) := by
  refine ps_mono (ps_par3 hc hN hi hj hl hij hil hjl hx hy hz ha hw) fun D σ H ⟨F, ρ, m, env, R, E, P⟩ => ?_
  refine ⟨F, ρ, m, env, R, E, postS_of (rel := relVs X xa) E P fun v m1 F1 ρ1 H1 us e E1 R1 q P1 => ?_⟩
  have hl := hn _ _ _ _ e
  match v, hl with
  | [p1, p2, p3], _ =>
    cases q with
    | cons q1 q =>
      cases q with
      | cons q2 q =>
        cases q with
        | cons q3 q =>
          cases q
          exact ⟨_, _, _, rfl, P1.now R1 ((((E.ext E1).set q1).set q2).set q3)⟩
end
end PV
end

section
set_option Elab.async false
set_option linter.all false
set_option maxRecDepth 100000
/-! PV11: stores into lists and dicts, dicts made, chains, keywords. -/
namespace PV
open PySem PySem.Spec PyProof.Rows L2

section
variable {K : PySem.W.Frag} {xa : List (Addr × Str)} {F H : Hp} {ρ : List Addr} {m : Mem}
theorem Rep.write (R : Rep K xa F ρ m H) {n : Nat} {a : Addr} {o : MO} {ho : HO} (hr : ρ[n]? = some a) (ob : ObR K xa F ρ (upd H a ho) a o) (wf : okO n o) (nf : ∀ o' u, H a ≠ some (.frz o' u)) : Rep K xa F ρ (m.set n o) (upd H a ho) ∧ Ext F ρ H F ρ (upd H a ho) := by
  have hin : a ∈ ρ := List.mem_of_getElem? hr
  refine ⟨⟨fun b u e => ?_, by simp [R.len], fun k b q e1 e2 => ?_, R.nf, R.nd, fun k q e => ?_, tabs_upd R.tab (R.nt hr), R.nft⟩, ⟨Same.refl F, ⟨[], by simp, by simp⟩, fun b u e hb _ => ?_, fun b u e1 e2 => (by rw [e1] at e2; cases e2), fun b hb => ?_, fun b o' u e => ?_⟩⟩
  · have : b ≠ a := fun z => by rw [z, R.nf a hin] at e; cases e
    rw [upd_ne this]; exact R.le b u e
  · by_cases hk : n = k
    · subst hk
      rw [hr] at e1
      cases e1
      have hl : n < m.length := by rw [← R.len]; exact (List.getElem?_eq_some_iff.mp hr).1
      rw [List.getElem?_set_self hl] at e2
      cases e2
      exact ob
    · rw [List.getElem?_set_ne hk] at e2
      have hb : b ≠ a := fun z => by
        subst z
        obtain ⟨h1, e3⟩ := List.getElem?_eq_some_iff.mp e1
        obtain ⟨h2, e4⟩ := List.getElem?_eq_some_iff.mp hr
        exact hk ((List.getElem_inj R.nd).mp (e4.trans e3.symm))
      exact (R.ob k b q e1 e2).mono (Same.refl F) ⟨[], by simp⟩ fun u h => by rw [upd_ne hb]; exact h
  · by_cases hk : n = k
    · subst hk
      have hl : n < m.length := by rw [← R.len]; exact (List.getElem?_eq_some_iff.mp hr).1
      rw [List.getElem?_set_self hl] at e
      cases e
      exact wf
    · rw [List.getElem?_set_ne hk] at e
      exact R.wf k q e
  · have : b ≠ a := fun z => hb (z ▸ hin)
    rw [upd_ne this]; exact e
  · by_cases hb2 : b = a
    · rw [hb2, upd_same]; simp
    · rw [upd_ne hb2]; exact hb
  · have : b ≠ a := fun z => nf o' u (z ▸ e)
    rw [upd_ne this]; exact e
theorem RepVs.setAt {vs : List V} {ys : List EV} (h : RepVs K xa F ρ vs ys) : ∀ {j : Nat} {v : V} {y : EV}, RepV K xa F ρ v y → RepVs K xa F ρ (vs.set j v) (ys.set j y) := by
  induction h with
  | nil => intro j v y _; exact .nil
  | cons a b ih =>
    intro j v y q
    cases j with
    | zero => exact .cons q b
    | succ j => exact .cons a (ih q)
theorem RepVs.snoc {vs : List V} {ys : List EV} (h : RepVs K xa F ρ vs ys) {v : V} {y : EV} (q : RepV K xa F ρ v y) : RepVs K xa F ρ (vs ++ [v]) (ys ++ [y]) := by
  induction h with
  | nil => exact .cons q .nil
  | cons a b ih => exact .cons a ih
abbrev KvR (K : PySem.W.Frag) (xa : List (Addr × Str)) (F : Hp) (ρ : List Addr) : List (Key × V) → List (Key × EV) → Prop := Paired (fun (p : Key × V) (q : Key × EV) => p.1 = q.1 ∧ RepV K xa F ρ p.2 q.2)
theorem KvR.any {kw : List (Key × V)} {kvs : List (Key × EV)} {k : Key} (h : KvR K xa F ρ kw kvs) : (kw.any fun kv => decide (kv.1 = k)) = kvs.any fun p => decide (p.1 = k) := by
  induction h with
  | nil => rfl
  | cons a b ih => simp only [List.any_cons, ih, a.1]
theorem KvR.put {kw : List (Key × V)} {kvs : List (Key × EV)} {k : Key} {v : V} {y : EV} (h : KvR K xa F ρ kw kvs) (q : RepV K xa F ρ v y) : KvR K xa F ρ (putK kw k v) (kvPut kvs k y) := by
  have ha := h.any (k := k)
  unfold putK kvPut
  rw [ha]
  split
  · clear ha
    induction h with
    | nil => exact .nil
    | @cons p r ps rs a b ih =>
      rename_i hh
      clear hh
      refine .cons ?_ ?_
      · dsimp only
        rw [← a.1]
        split
        · exact ⟨rfl, q⟩
        · exact a
      · clear ih
        induction b with
        | nil => exact .nil
        | cons a' b' ih' =>
          refine .cons ?_ ih'
          dsimp only
          rw [← a'.1]
          split
          · exact ⟨rfl, q⟩
          · exact a'
  · clear ha
    rename_i hh
    clear hh
    induction h with
    | nil => exact .cons ⟨rfl, q⟩ .nil
    | cons a b ih => exact .cons a ih
theorem KvR.len {kw : List (Key × V)} {kvs : List (Key × EV)} (h : KvR K xa F ρ kw kvs) : kw.length = kvs.length := Paired.length h
theorem kvPut_len (kvs : List (Key × EV)) (k : Key) (y : EV) : (kvPut kvs k y).length ≤ kvs.length + 1 := by
  unfold kvPut
  split <;> simp
theorem kvPut_ok {n : Nat} {kvs : List (Key × EV)} {k : Key} {y : EV} (h : ∀ p ∈ kvs, inB n p.2 = true) (q : inB n y = true) : ∀ p ∈ kvPut kvs k y, inB n p.2 = true := by
  unfold kvPut
  split
  · intro p hp
    obtain ⟨r, hr, e⟩ := List.mem_map.mp hp
    split at e
    · subst e; exact q
    · subst e; exact h r hr
  · intro p hp
    rcases List.mem_append.mp hp with z | z
    · exact h p z
    · rw [List.mem_singleton.mp z]; exact q
theorem key_of {v : V} {d : D} {k : Key} (h : Df K F v d) (e : keyD d = some k) : v = kV k := by
  cases d with
  | int i =>
    cases h
    have e : some (Sum.inl i) = some k := e
    cases e; rfl
  | str x =>
    cases h
    have e : some (Sum.inr x) = some k := e
    cases e; rfl
  | none => cases e
  | bool _ => cases e
  | list _ => cases e
  | tuple _ => cases e
  | dict _ => cases e
end

section
variable {X : Cx} {xa : List (Addr × Str)} {ec : Nat → Addr} {cf : CF} {W : WX} {a b c o i : Expr} {pos : Pos} {ea eb ec' eo ei : Ex} {sub : Nat → Nat → Bool}
def rSetA : TSet := fun o i v H Q => rSetL o i v H Q ∨ rSetD o i v H Q
theorem set_any (hu : X.A.units + 1 < cLine) : PSet X rSetA := fun pins s σ H o i v ov iv u Q I r1 r2 r3 h => h.elim (set_list pins s σ H o i v ov iv u Q I r1 r2 r3) (set_dict hu pins s σ H o i v ov iv u Q I r1 r2 r3)
theorem set_of {F H : Hp} {ρ : List Addr} {m m4 : Mem} {x y z : V} {v u : EV} {k : D} {σ : L2.St} {env : Env} {Dn : Ends} (R : Rep X.K xa F ρ m H) (E : RepE X.K xa F ρ σ env) (ru : RepV X.K xa F ρ y u) (rk : Df X.K F z k) (rv : RepV X.K xa F ρ x v) (e : setIx m u k v = some m4)
    (P : PostS X xa ec W F ρ H (.nx env m4) Dn) : rSetA y z x H fun H1 => Dn.nx σ H1 := by
  unfold setIx at e
  split at e
  · rename_i n
    obtain ⟨a, rfl, ha⟩ := ru
    split at e
    · rename_i xs em
      obtain ⟨l, vs, h1, h2⟩ := R.ob n a _ ha em
      split at e
      · rename_i kk
        split at e
        · rename_i hin
          obtain ⟨j, e1, rfl⟩ := map_some e
          cases rk
          obtain ⟨R', E'⟩ := R.write (o := .lst (xs.set j v)) (ho := .lst (vs.set j x)) ha ⟨by simpa using l, _, upd_same, h2.setAt rv⟩ (fun w hw => by
            have hw' : w ∈ xs.set j v := hw
            rcases List.mem_or_eq_of_mem_set hw' with z | z
            · exact R.wf n _ em w z
            · rw [z]; exact hin) (fun _ _ z => by rw [h1] at z; cases z)
          refine .inl ⟨a, vs, kk, j, rfl, rfl, h1, ?_, P F ρ _ σ E' R' E⟩
          rw [RepVs.len h2]
          exact e1
        · cases e
      · cases e
    · rename_i kvs em
      obtain ⟨l, kw, h1, h2⟩ := R.ob n a _ ha em
      obtain ⟨kk, e1, e2⟩ := bind_some' e
      split at e2
      · rename_i hb
        simp only [Bool.and_eq_true, decide_eq_true_eq] at hb
        cases e2
        have hl := KvR.len h2
        obtain ⟨R', E'⟩ := R.write (o := .dK (kvPut kvs kk v)) (ho := .dK (putK kw kk x)) ha ⟨Nat.le_trans (kvPut_len kvs kk v) (Nat.le_trans (Nat.succ_le_of_lt hb.1) (by decide)), _, upd_same, KvR.put h2 rv⟩ (kvPut_ok (R.wf n _ em) hb.2) (fun _ _ z => by rw [h1] at z; cases z)
        refine .inr ⟨a, _, rfl, .inl ⟨kw, kk, h1, key_of rk e1, ?_, rfl⟩, P F ρ _ σ E' R' E⟩
        rw [hl, ← lim_eq]
        exact Nat.lt_of_lt_of_le hb.1 (by decide)
      · cases e2
    · cases e
  · cases e
theorem s_sto {tp : Pos} (hu : X.A.units + 1 < cLine) (ho : PE X o (tE X xa ec cf W eo)) (hi : PE X i (tE X xa ec cf W ei)) (ha : PE X a (tE X xa ec cf W ea)) (hs : swapsWithSole [.Subscript o i tp] a pos.line X.env = pure false)
    (hasg : ∀ v, assign (.Subscript o i tp) X.env v = (do
      let ov ← holding [v] (eval o X.env)
      let iv ← holding [v, ov] (eval i X.env)
      standAt tp
      holding [v, ov, iv] (setItem ov iv v)
      release [v, ov, iv] [])) : PS X (.Assign [.Subscript o i tp] a pos) (tS X xa ec cf W sub (.sto eo ei ea)) := by
  refine ps_mono (ps_asg ha (pg_sub ho hi (set_any hu) hasg) hs rfl rfl) fun D σ H ⟨F, ρ, m, env, R, E, P⟩ => ?_
  refine ⟨F, ρ, m, env, R, E, postS_of (rel := relV X xa) E P fun v m1 F1 ρ1 H1 x e1 E1 R1 rv P1 => ?_⟩
  refine ⟨F1, ρ1, m1, env, R1, E.ext E1, postS_of (rel := relV X xa) (E.ext E1) P1 fun u m2 F2 ρ2 H2 y e2 E2 R2 ru P2 => ?_⟩
  have Eb := (E.ext E1).ext E2
  refine ⟨F2, ρ2, m2, env, R2, Eb, postS_of (rel := relV X xa) Eb P2 fun k m3 F3 ρ3 H3 z e3 E3 R3 rk P3 => ?_⟩
  cases k with
  | d k =>
    obtain ⟨m4, e4, P4⟩ := PostS.opt (X := X) (W := W) (ec := ec) P3
    exact set_of R3 (Eb.ext E3) (ru.ext E3) rk ((rv.ext E2).ext E3) e4 P4
  | loc _ => exact False.elim P3
  | exc _ _ => exact False.elim P3
  | ro _ => exact False.elim P3
theorem s_app {j : Nat} {x : Str} {np apos cpos : Pos} (hx : PE X (.Name x np) (tE X xa ec cf W (.v j))) (ha : PE X a (tE X xa ec cf W ea)) (hs : starEach [a] X.env = (false, eval a X.env) :: starEach [] X.env) (hline : (apos.endLine == cpos.line) = true)
    (hbase : attributeBase (.Name x np) "append" X.env (eval (.Name x np) X.env) = eval (.Name x np) X.env) : PS X (.Expr (.Call (.Attribute (.Name x np) "append" apos) [a] [] cpos) pos) (tS X xa ec cf W sub (.app j ea)) := by
  refine ps_mono (ps_expr (pe_bm F.plainAttrs_list F.slot_list_append F.type_list_append mt_append hx (tE_one ha hs) hbase (by rw [hs]; rfl) hline hs rfl) rfl) fun D σ H ⟨F, ρ, m, env, R, E, P⟩ => ?_
  obtain ⟨ov, eo, P1⟩ := PostS.opt (X := X) (W := W) (ec := ec) P
  refine ⟨F, ρ, m, env, R, E, ?_⟩
  show Post X.K xa ec (relV X xa) _ F ρ H (Res.of (getV env j) m) _
  rw [eo]
  intro F1 ρ1 H1 u E1 R1 ru
  have ru : RepV X.K xa F1 ρ1 u ov := ru
  have hL : isLst m ov = true := by
    cases h : isLst m ov with
    | true => rfl
    | false => rw [h] at P1; exact False.elim P1
  rw [hL] at P1
  have P2 := PostS.up (r := S.of env (evE cf ea env m) fun x m1 => S.opt (appIx m1 ov x) fun m2 => .nx env m2) P1 E1
  cases ov with
  | loc n =>
    obtain ⟨l, rfl, hl⟩ := ru
    have Eσ := E.ext E1
    -- what is appended to is a list that lives: it is known behind the argument
    have step : tE X xa ec cf W ea σ H1 (fun v H2 => rAppend (.ref l) [v] H2 fun _ H3 => D.nx σ H3) := by
      refine ⟨F1, ρ1, m, env, R1, Eσ, postS_of (rel := relV X xa) Eσ P2 fun v m1 F2 ρ2 H2 y e1 E2 R2 rv P3 => ?_⟩
      obtain ⟨m2, e2, P4⟩ := PostS.opt (X := X) (W := W) (ec := ec) P3
      unfold appIx at e2
      dsimp only at e2
      split at e2
      · rename_i xs em
        split at e2
        · rename_i hb
          simp only [Bool.and_eq_true, decide_eq_true_eq] at hb
          cases e2
          have hl2 : ρ2[n]? = some l := by
            obtain ⟨ζ, e3, _⟩ := E2.pre
            rw [e3, List.getElem?_append_left (List.getElem?_eq_some_iff.mp hl).1]
            exact hl
          obtain ⟨l0, vs, h1, h2⟩ := R2.ob n l _ hl2 em
          obtain ⟨R3, E3⟩ := R2.write (o := .lst (xs ++ [v])) (ho := .lst (vs ++ [y])) hl2 ⟨by simp; omega, _, upd_same, h2.snoc rv⟩ (fun w hw => by
            have hw' : w ∈ xs ++ [v] := hw
            rcases List.mem_append.mp hw' with z | z
            · exact R2.wf n _ em w z
            · rw [List.mem_singleton.mp z]; exact hb.2) (fun _ _ z => by rw [h1] at z; cases z)
          refine ⟨l, vs, y, rfl, rfl, h1, by rw [RepVs.len h2, ← lim_eq]; exact hb.1, P4 F2 ρ2 _ σ E3 R3 (Eσ.ext E2)⟩
        · cases e2
      · cases e2
    refine ⟨.inl ⟨rfl, ?_⟩, step⟩
    unfold isLst at hL
    dsimp only at hL
    split at hL
    · rename_i xs em
      obtain ⟨l0, vs, h1, h2⟩ := R1.ob n l _ hl em
      exact ⟨vs, SqL.of h1⟩
    · cases hL
  | d _ => cases hL
  | exc _ _ => cases hL
  | ro _ => cases hL
theorem s_aug {j : Nat} {x : Str} {np : Pos} {op : Operator} {o2 : O2} (hN : X.N.Nodup) (hj : X.N[j]? = some x) (hx : Loc X.env.scope x) (ha : PE X a (tE X xa ec cf W ea)) (ho : (op = .Add ∧ o2 = .add) ∨ (op = .Sub ∧ o2 = .sub)) (hf : X.fn x = true ∨ X.env.scope.names.lookup x = some .local) :
    PS X (.AugAssign (.Name x np) op a pos) (tS X xa ec cf W sub (.aug j o2 ea)) := by
  rcases ho with ⟨rfl, rfl⟩ | ⟨rfl, rfl⟩
  · refine ps_mono (ps_aug hN hj hx ha ip_add hf) fun D σ H ⟨F, ρ, m, env, R, E, P⟩ => ?_
    obtain ⟨v, e, P1⟩ := PostS.opt (X := X) (W := W) (ec := ec) P
    have ev : env[j]? = some (some v) := by
      unfold getV at e
      split at e
      · cases e; assumption
      · cases e
    obtain ⟨y, e1, ry⟩ := E.2 j v ev
    refine ⟨y, e1, F, ρ, m, env, R, E, postS_of (rel := relV X xa) E P1 fun u m1 F1 ρ1 H1 z e2 E1 R1 rz P2 => ?_⟩
    have ry := ry.ext E1
    split at P2
    · rename_i p q _ _
      have ry : Df X.K F1 y (.int p) := ry
      have rz : Df X.K F1 z (.int q) := rz
      cases ry
      cases rz
      exact ⟨p, q, rfl, rfl, P2.now R1 ((E.ext E1).set (show Df X.K F1 _ _ from .int _))⟩
    · rename_i h _; exact absurd h (by decide)
    · exact False.elim P2
  · refine ps_mono (ps_aug hN hj hx ha ip_sub hf) fun D σ H ⟨F, ρ, m, env, R, E, P⟩ => ?_
    obtain ⟨v, e, P1⟩ := PostS.opt (X := X) (W := W) (ec := ec) P
    have ev : env[j]? = some (some v) := by
      unfold getV at e
      split at e
      · cases e; assumption
      · cases e
    obtain ⟨y, e1, ry⟩ := E.2 j v ev
    refine ⟨y, e1, F, ρ, m, env, R, E, postS_of (rel := relV X xa) E P1 fun u m1 F1 ρ1 H1 z e2 E1 R1 rz P2 => ?_⟩
    have ry := ry.ext E1
    split at P2
    · rename_i h _; exact absurd h (by decide)
    · rename_i p q _ _
      have ry : Df X.K F1 y (.int p) := ry
      have rz : Df X.K F1 z (.int q) := rz
      cases ry
      cases rz
      exact ⟨p, q, rfl, rfl, P2.now R1 ((E.ext E1).set (show Df X.K F1 _ _ from .int _))⟩
    · exact False.elim P2
end
end PV
end

section
set_option Elab.async false
set_option linter.all false
set_option maxRecDepth 100000
/-! PV12: chains, dicts made, keywords, constants, what is never reached. -/
namespace PV
open PySem PySem.Spec PyProof.Rows L2

section
variable {X : Cx} {xa : List (Addr × Str)} {ec : Nat → Addr} {cf : CF} {W : WX} {a b c o i : Expr} {pos : Pos} {ea eb ec' eo ei : Ex} {sub : Nat → Nat → Bool}
theorem s_stuck {e : Expr} : PE X e (tE X xa ec cf W .stuck) := ⟨fun _ _ _ _ _ _ ⟨_, _, _, _, _, _, P⟩ => False.elim P⟩
theorem t_stuck {e : Expr} : PT X e (tT X xa ec cf W .stuck) := ⟨fun _ _ _ _ _ _ ⟨_, _, _, _, _, _, P⟩ => False.elim P⟩
theorem ss_stuck {st : Stmt} : PS X st (tS X xa ec cf W sub .stuck) := ⟨fun _ _ _ _ _ _ ⟨_, _, _, _, _, _, P⟩ => False.elim P⟩
theorem s_isNT {op : CmpOp} {o : O1} {k : Nat} {p2 : Pos} (h : (op = .Is ∧ o = .isN) ∨ (op = .IsNot ∧ o = .notN)) (ha : PE X a (tE X xa ec cf W ea)) : PT X (.Compare a [op] [.Constant .none k p2] pos) (tT X xa ec cf W (.u1 o ea)) := by
  have key : ∀ {F : Hp} {H : Hp} {v : V} {p : D}, VR X.K F H v p → decide (v = V.non) = isND p := by
    intro F H v p w
    cases p with
    | list xs =>
      obtain ⟨l, a, vs, rfl, h1, h2⟩ := w
      rfl
    | none =>
      have w : Df X.K F v .none := w
      cases w; rfl
    | bool b =>
      have w : Df X.K F v (.bool b) := w
      cases w; rfl
    | int b =>
      have w : Df X.K F v (.int b) := w
      cases w; rfl
    | str b =>
      have w : Df X.K F v (.str b) := w
      cases w; rfl
    | tuple b =>
      have w : Df X.K F v (.tuple b) := w
      cases w; rfl
    | dict b =>
      have w : Df X.K F v (.dict b) := w
      cases w
  have fin : ∀ {σ : L2.St} {H : Hp} {Q : Bool → Hp → Prop} {g : D → Bool}, (∀ p, op1 o p = some (.bool (g p))) → (∀ F H v p, VR X.K F H v p → (if op = .Is then decide (v = V.non) else !decide (v = V.non)) = g p) →
      tT X xa ec cf W (.u1 o ea) σ H Q → tE X xa ec cf W ea σ H fun v H1 => Q (if op = .Is then decide (v = V.non) else !decide (v = V.non)) H1 := by
    rintro σ H Q g hg hv ⟨F, ρ, m, env, R, E, P⟩
    refine ⟨F, ρ, m, env, R, E, ?_⟩
    have P : Post X.K xa ec (fun _ _ (b b' : Bool) => b = b') (fun c d H => W c d σ H) F ρ H ((evE cf (.u1 o ea) env m).bind fun x m1 => Res.of (truth m1 x) m1) Q := P
    simp only [evE] at P
    cases r : evE cf ea env m with
    | bad => rw [r] at P; exact P
    | ex c fs m' => rw [r] at P; exact P
    | ok v m1 =>
      rw [r] at P
      have hv1 : view1 o m1 v = view m1 v := by rcases h with ⟨_, rfl⟩ | ⟨_, rfl⟩ <;> rfl
      simp only [Res.bind, hv1] at P
      intro F' ρ' H' u E1 R1 ru
      cases e : view m1 v with
      | none => rw [e] at P; exact False.elim P
      | some p =>
        rw [e] at P
        simp only [hg, Option.map, Res.of, Res.bind, truth, view, truD] at P
        rw [hv F' H' u p (view_vr R1 ru e)]
        exact P F' ρ' H' (g p) E1 R1 rfl
  rcases h with ⟨rfl, rfl⟩ | ⟨rfl, rfl⟩
  · refine pt_mono (pt_cmp (pc_isN ha) rfl) fun σ H Q h => ?_
    obtain ⟨F, ρ, m, env, R, E, P⟩ := fin (g := isND) (fun _ => rfl) (fun F H v p w => by rw [if_pos rfl]; exact key w) h
    refine ⟨F, ρ, m, env, R, E, ?_⟩
    cases r : evE cf ea env m with
    | bad => rw [r] at P; exact P
    | ex c fs m' => rw [r] at P; exact P
    | ok v m1 =>
      rw [r] at P
      exact fun F' ρ' H' u E1 R1 ru => ⟨_, rfl, by have := P F' ρ' H' u E1 R1 ru; dsimp only at this; rw [if_pos rfl] at this; exact this⟩
  · refine pt_mono (pt_cmp (pc_notN ha) rfl) fun σ H Q h => ?_
    obtain ⟨F, ρ, m, env, R, E, P⟩ := fin (g := fun p => !isND p) (fun _ => rfl) (fun F H v p w => by rw [if_neg (by decide), key w]) h
    refine ⟨F, ρ, m, env, R, E, ?_⟩
    cases r : evE cf ea env m with
    | bad => rw [r] at P; exact P
    | ex c fs m' => rw [r] at P; exact P
    | ok v m1 =>
      rw [r] at P
      exact fun F' ρ' H' u E1 R1 ru => ⟨_, rfl, by have := P F' ρ' H' u E1 R1 ru; dsimp only at this; rw [if_neg (by decide)] at this; exact this⟩
def cmpO : O2 → Bool
  | .lt => true
  | .le => true
  | .gt => true
  | .ge => true
  | .eq => true
  | .ne => true
  | .inn => true
  | .nin => true
  | _ => false
theorem op2_bool {o : O2} (h : cmpO o = true) {p q d : D} (e : op2 o p q = some d) : ∃ k, d = .bool k := by
  cases o with
  | add => cases h
  | sub => cases h
  | mul => cases h
  | fdiv => cases h
  | mod => cases h
  | pow => cases h
  | lt =>
    dsimp only [op2] at e
    split at e
    · cases e; exact ⟨_, rfl⟩
    · cases e
  | le =>
    dsimp only [op2] at e
    split at e
    · cases e; exact ⟨_, rfl⟩
    · cases e
  | gt =>
    dsimp only [op2] at e
    split at e
    · cases e; exact ⟨_, rfl⟩
    · cases e
  | ge =>
    dsimp only [op2] at e
    split at e
    · cases e; exact ⟨_, rfl⟩
    · cases e
  | eq => obtain ⟨k, _, rfl⟩ := map_some e; exact ⟨_, rfl⟩
  | ne => obtain ⟨k, _, rfl⟩ := map_some e; exact ⟨_, rfl⟩
  | inn => obtain ⟨k, _, rfl⟩ := map_some e; exact ⟨_, rfl⟩
  | nin => obtain ⟨k, _, rfl⟩ := map_some e; exact ⟨_, rfl⟩
theorem s_cmpT {op : CmpOp} {o : O2} (hu : X.A.units + 65 < cLine) (hk : cmpO o = true) (ho : semO o = compareOp op) (hm : behindInMarks op b = false) (ha : PE X a (tE X xa ec cf W ea)) (hb : PE X b (tE X xa ec cf W eb)) : PT X (.Compare a [op] [b] pos) (tT X xa ec cf W (.b2 o ea eb)) := by
  obtain ⟨r, hr, hq⟩ := ok_op2 (xa := xa) hu o
  rw [ho] at hr
  refine s_testB (pt_cmpR hr ha hb hm) (fun σ H Q ⟨F, ρ, m, env, R, E, P⟩ => ?_) fun env m v m1 e => ?_
  · refine ⟨F, ρ, m, env, R, E, Post.bind (rel' := relV X xa) P fun x m1 F1 ρ1 H1 v e1 E1 R1 rv P1 => ?_⟩
    refine ⟨F1, ρ1, m1, env, R1, E.ext E1, Post.bind (rel' := relV X xa) P1 fun y m2 F2 ρ2 H2 u e2 E2 R2 ru P2 => ?_⟩
    exact s_op2r hq R2 (rv.ext E2) ru P2
  · simp only [evE] at e
    cases r1 : evE cf ea env m with
    | bad => rw [r1] at e; cases e
    | ex c fs m' => rw [r1] at e; cases e
    | ok x m2 =>
      rw [r1] at e
      simp only [Res.bind] at e
      cases r2 : evE cf eb env m2 with
      | bad => rw [r2] at e; cases e
      | ex c fs m' => rw [r2] at e; cases e
      | ok y m3 =>
        rw [r2] at e
        simp only [Res.bind] at e
        split at e
        · rename_i p q _ _
          cases hd : op2 o p q with
          | none => rw [hd] at e; cases e
          | some d =>
            rw [hd] at e
            obtain ⟨k, rfl⟩ := op2_bool hk hd
            cases e
            exact ⟨k, rfl⟩
        · cases e
theorem chain_read {o p : O2} {r r' : R2} {σ : L2.St} {H : Hp} {Q : VK}
    (hq : ∀ (F : Hp) (ρ : List Addr) (m : Mem) (H : Hp) (x y : V) (a b : EV) (p q d : D) (Q : VK), Rep X.K xa F ρ m H → RepV X.K xa F ρ x a → RepV X.K xa F ρ y b → view2 o m a = some p → view2 o m b = some q → op2 o p q = some d → Gives X.K xa F ρ m H d Q → r x y H Q)
    (hq' : ∀ (F : Hp) (ρ : List Addr) (m : Mem) (H : Hp) (x y : V) (a b : EV) (p' q d : D) (Q : VK), Rep X.K xa F ρ m H → RepV X.K xa F ρ x a → RepV X.K xa F ρ y b → view2 p m a = some p' → view2 p m b = some q → op2 p p' q = some d → Gives X.K xa F ρ m H d Q → r' x y H Q)
    (h : tE X xa ec cf W (.chain o p ea eb ec') σ H Q) : tChain r r' (tE X xa ec cf W ea) (tE X xa ec cf W eb) (tE X xa ec cf W ec') σ H Q := by
  obtain ⟨F, ρ, m, env, R, E, P⟩ := h
  have vd : ∀ (o : O2) m (p : D), view2 o m (.d p) = some p := fun o m p => by cases o <;> rfl
  refine ⟨F, ρ, m, env, R, E, Post.bind (rel' := relV X xa) P fun x m1 F1 ρ1 H1 v e1 E1 R1 rv P1 => ?_⟩
  refine ⟨F1, ρ1, m1, env, R1, E.ext E1, Post.bind (rel' := relV X xa) P1 fun y m2 F2 ρ2 H2 u e2 E2 R2 ru P2 => ?_⟩
  split at P2
  · rename_i du dw
    have rv2 := rv.ext E2
    split at P2
    · rename_i hop
      refine hq F2 ρ2 m2 H2 v u (.d du) (.d dw) du dw _ _ R2 rv2 ru (vd _ _ _) (vd _ _ _) hop fun F' H' z E3 R3 rz => ?_
      have rz : Df X.K F' z (.bool true) := rz
      cases rz
      refine ⟨true, rfl, iteT ⟨F', ρ2, m2, env, R3, ((E.ext E1).ext E2).ext E3, Post.bind (rel' := relV X xa) (P2.up E3) fun z m3 F3 ρ3 H3 w e3 E4 R4 rw' P3 => ?_⟩⟩
      split at P3
      · rename_i dt
        obtain ⟨y3, e5, P4⟩ := P3.of
        obtain ⟨d, e6, rfl⟩ := map_some e5
        exact hq' F3 ρ3 m3 H3 u w (.d dw) (.d dt) dw dt d Q R4 ((ru.ext E3).ext E4) rw' (vd _ _ _) (vd _ _ _) e6 (gives_of P4)
      · exact False.elim P3
    · rename_i hop
      refine hq F2 ρ2 m2 H2 v u (.d du) (.d dw) du dw _ _ R2 rv2 ru (vd _ _ _) (vd _ _ _) hop fun F' H' z E3 R3 rz => ?_
      have rz : Df X.K F' z (.bool false) := rz
      cases rz
      exact ⟨false, rfl, iteF (P2 F' ρ2 H' _ E3 R3 (show Df X.K F' _ _ from .bl _))⟩
    · exact False.elim P2
  · exact False.elim P2
theorem s_chain {op op' : CmpOp} {o o' : O2} (hu : X.A.units + 65 < cLine) (ho : semO o = compareOp op) (ho' : semO o' = compareOp op') (hm : lastMarks [op, op'] [b, c] = false) (ha : PE X a (tE X xa ec cf W ea)) (hb : PE X b (tE X xa ec cf W eb)) (hc : PE X c (tE X xa ec cf W ec')) :
    PE X (.Compare a [op, op'] [b, c] pos) (tE X xa ec cf W (.chain o o' ea eb ec')) := by
  obtain ⟨r, hr, hq⟩ := ok_op2 (xa := xa) hu o
  obtain ⟨r', hr', hq'⟩ := ok_op2 (xa := xa) hu o'
  rw [ho] at hr
  rw [ho'] at hr'
  exact pe_mono (pe_chain hr hr' ha hb hc hm) fun σ H Q h => chain_read hq hq' h
theorem s_chainT {op op' : CmpOp} {o o' : O2} (hu : X.A.units + 65 < cLine) (hk : cmpO o' = true) (ho : semO o = compareOp op) (ho' : semO o' = compareOp op') (hm : lastMarks [op, op'] [b, c] = false) (ha : PE X a (tE X xa ec cf W ea)) (hb : PE X b (tE X xa ec cf W eb)) (hc : PE X c (tE X xa ec cf W ec')) :
    PT X (.Compare a [op, op'] [b, c] pos) (tT X xa ec cf W (.chain o o' ea eb ec')) := by
  obtain ⟨r, hr, hq⟩ := ok_op2 (xa := xa) hu o
  obtain ⟨r', hr', hq'⟩ := ok_op2 (xa := xa) hu o'
  rw [ho] at hr
  rw [ho'] at hr'
  refine s_testB (pt_chain hr hr' ha hb hc hm) (fun σ H Q h => chain_read hq hq' h) fun env m v m1 e => ?_
  simp only [evE] at e
  cases r1 : evE cf ea env m with
  | bad => rw [r1] at e; cases e
  | ex c fs m' => rw [r1] at e; cases e
  | ok x m2 =>
    rw [r1] at e
    simp only [Res.bind] at e
    cases r2 : evE cf eb env m2 with
    | bad => rw [r2] at e; cases e
    | ex c fs m' => rw [r2] at e; cases e
    | ok y m3 =>
      rw [r2] at e
      simp only [Res.bind] at e
      split at e
      · split at e
        · cases r3 : evE cf ec' env m3 with
          | bad => rw [r3] at e; cases e
          | ex c fs m' => rw [r3] at e; cases e
          | ok z m4 =>
            rw [r3] at e
            simp only [Res.bind] at e
            split at e
            · rename_i t
              cases hd : op2 o' _ t with
              | none => rw [hd] at e; cases e
              | some d =>
                rw [hd] at e
                obtain ⟨k, rfl⟩ := op2_bool hk hd
                cases e
                exact ⟨k, rfl⟩
            · cases e
        · cases e
          exact ⟨false, rfl⟩
        · cases e
      · cases e

/-! ### dicts made -/
def trsOf (X : Cx) (xa : List (Addr × Str)) (ec : Nat → Addr) (cf : CF) (W : WX) : List Str → Exs → List (TE × TE)
  | k :: ks, .cons e r => (tC (.str k), tE X xa ec cf W e) :: trsOf X xa ec cf W ks r
  | _, _ => []
def exsLen : Exs → Nat
  | .nil => 0
  | .cons _ r => exsLen r + 1
theorem evEs_exsLen : ∀ {xs : Exs} {env : Env} {m : Mem} {vs : List EV} {m1 : Mem}, evEs cf xs env m = .ok vs m1 → vs.length = exsLen xs
  | .nil, env, m, vs, m1, h => by
    simp only [evEs, Res.ok.injEq] at h
    rw [← h.1]; rfl
  | .cons e r, env, m, vs, m1, h => by
    simp only [evEs] at h
    cases r1 : evE cf e env m with
    | bad => rw [r1] at h; cases h
    | ex c fs m' => rw [r1] at h; cases h
    | ok x m2 =>
      rw [r1] at h
      simp only [Res.bind] at h
      cases r2 : evEs cf r env m2 with
      | bad => rw [r2] at h; cases h
      | ex c fs m' => rw [r2] at h; cases h
      | ok ys m3 =>
        rw [r2] at h
        simp only [Res.bind, Res.ok.injEq] at h
        rw [← h.1, List.length_cons, evEs_exsLen r2]; rfl
theorem pairs_of {WE : XK} {σ : L2.St} {env : Env} (hW : WE = fun c d H => W c d σ H) : ∀ {ks : List Str} {xs : Exs} {F H : Hp} {ρ : List Addr} {m : Mem} {Q' : List V → Hp → Prop} {Qp : List (V × V) → Hp → Prop}, ks.length = exsLen xs → Rep X.K xa F ρ m H → RepE X.K xa F ρ σ env → Post X.K xa ec (relVs X xa) WE F ρ H (evEs cf xs env m) Q' →
    (∀ vs H2, Q' vs H2 → Qp ((ks.map V.str).zip vs) H2) → tPairs (trsOf X xa ec cf W ks xs) σ H Qp
  | [], .nil, F, H, ρ, m, Q', Qp, _, R, E, P, hQ => hQ [] H (Post.now (rel := relVs X xa) (a := ([] : List EV)) P R .nil)
  | [], .cons _ _, _, _, _, _, _, _, h, _, _, _, _ => by cases h
  | _ :: _, .nil, _, _, _, _, _, _, h, _, _, _, _ => by cases h
  | k :: ks, .cons e r, F, H, ρ, m, Q', Qp, hl, R, E, P, hQ => by
    have hl : ks.length = exsLen r := by simpa [exsLen] using hl
    subst hW
    have P : Post X.K xa ec (relVs X xa) (fun c d H => W c d σ H) F ρ H ((evE cf e env m).bind fun x m1 => (evEs cf r env m1).bind fun xs m2 => .ok (x :: xs) m2) Q' := P
    refine ⟨F, ρ, m, env, R, E, Post.bind (rel' := relVs X xa) P fun x m1 F1 ρ1 H1 v e1 E1 R1 rv P1 => ?_⟩
    exact pairs_of (Q' := fun vs H2 => Q' (v :: vs) H2) rfl hl R1 (E.ext E1) (Post.bind (rel' := relVs X xa) (rel := relVs X xa) P1 fun ys m2 F2 ρ2 H2 us e2 E2 R2 rus P2 => Post.now (rel := relVs X xa) (a := x :: ys) P2 R2 (.cons (rv.ext E2) rus)) fun vs H2 q => hQ (v :: vs) H2 q
theorem merge_nodup : ∀ (more kvs : List (Key × V)), (kvs.map (·.1) ++ more.map (·.1)).Nodup → mergeK kvs more = kvs ++ more
  | [], kvs, _ => by simp [mergeK]
  | p :: r, kvs, h => by
    have hn : (kvs.any fun kv => decide (kv.1 = p.1)) = false := by
      rw [List.any_eq_false]
      intro q hq e
      have e : q.1 = p.1 := of_decide_eq_true e
      have := (List.nodup_append.mp h).2.2 q.1 (List.mem_map.mpr ⟨q, hq, rfl⟩) p.1 (by simp)
      exact this e
    have e1 : putK kvs p.1 p.2 = kvs ++ [p] := by
      unfold putK
      rw [hn]
      rfl
    show mergeK (putK kvs p.1 p.2) r = kvs ++ p :: r
    rw [e1, merge_nodup r (kvs ++ [p]) (by simpa using h)]
    simp
theorem kv_zip {K : PySem.W.Frag} {F : Hp} {ρ : List Addr} : ∀ {ks : List Str} {vs : List V} {ys : List EV}, RepVs K xa F ρ vs ys → vs.length = ks.length →
    KvR K xa F ρ ((ks.map Sum.inr).zip vs) ((ks.map Sum.inr).zip ys) ∧ (ks.map V.str).zip vs = ((ks.map (Sum.inr : Str → Key)).zip vs).map fun kv => (kV kv.1, kv.2)
  | [], _, _, .nil, _ => ⟨.nil, rfl⟩
  | [], _, _, .cons _ _, h => by cases h
  | _ :: _, _, _, .nil, h => by cases h
  | k :: ks, _, _, .cons a b, h => by
    obtain ⟨h1, h2⟩ := kv_zip (ks := ks) b (by simpa using h)
    exact ⟨.cons ⟨rfl, a⟩ h1, by simp [h2, kV]⟩
theorem s_dct {ks : List Str} {xs : Exs} {keys : List (Option Expr)} {values : List Expr} (h : PPs X pos keys values (trsOf X xa ec cf W ks xs)) (hall : keys.all (·.isSome) = true) (hl : keys.length = values.length) (h0 : keys ≠ []) (h15 : keys.length ≤ 15)
    (hk : ks.length = exsLen xs) (hk2 : ks.length ≤ 15) : PE X (.Dict keys values pos) (tE X xa ec cf W (.dis ks xs)) := by
  refine pe_mono (pe_disp h hall hl h0 h15) fun σ H Q ⟨F, ρ, m, env, R, E, P⟩ => fun p hp => ?_
  have fp : F p = none := by
    cases e : F p with
    | none => rfl
    | some u => rw [R.le p u e] at hp; cases hp
  have rp : p ∉ ρ := fun z => R.there z hp
  have R0 : Rep X.K xa F ρ m (upd H p (.dK [])) := (R.grow (Same.refl F) (fun b u h => by rw [upd_ne (ne_of_none (R.le b u h) hp)]; exact R.le b u h) (fun b u h => by rw [upd_ne (ne_of_none h hp)]; exact h) fun b u h n => (by rw [h] at n; cases n)).1
  have E0 : Ext F ρ H F ρ (upd H p (.dK [])) := (R.grow (Same.refl F) (fun b u h => by rw [upd_ne (ne_of_none (R.le b u h) hp)]; exact R.le b u h) (fun b u h => by rw [upd_ne (ne_of_none h hp)]; exact h) fun b u h n => (by rw [h] at n; cases n)).2
  have P : Post X.K xa ec (relV X xa) (fun c d H => W c d σ H) F ρ H ((evEs cf xs env m).bind fun vs m1 => if decide (vs.length = ks.length) && decide (ks.Nodup) && vs.all (inB m1.length) then .ok (.loc m1.length) (m1 ++ [.dK ((ks.map Sum.inr).zip vs)]) else .bad) Q := P
  refine pairs_of rfl hk R0 (E.ext E0) (Q' := fun vs H2 => H2 p = some (.dK []) ∧ ∃ kvs : List (Key × V), (ks.map V.str).zip vs = kvs.map (fun kv => (kV kv.1, kv.2)) ∧ kvs.length ≤ 15 ∧ Q (.ref p) (upd H2 p (.dK (mergeK [] kvs)))) ?_ fun vs H2 q => q
  cases r : evEs cf xs env m with
  | bad => rw [r] at P; exact P
  | ex c fs m' => rw [r] at P; exact fun F' ρ' H' cls d e R' x => P F' ρ' H' cls d (E0.trans e) R' x
  | ok vs m1 =>
    rw [r] at P
    intro F1 ρ1 H1 us E1 R1 rv
    simp only [Res.bind] at P
    split at P
    · rename_i hb
      simp only [Bool.and_eq_true, decide_eq_true_eq, List.all_eq_true] at hb
      obtain ⟨⟨hb1, hb2⟩, hb3⟩ := hb
      have hu : us.length = ks.length := by rw [RepVs.len rv]; exact hb1
      obtain ⟨k1, k2⟩ := kv_zip rv hu
      obtain ⟨d1, d2, d3⟩ := ext_new E1 upd_same fp rp nt_dK
      have hlen : ((ks.map (Sum.inr : Str → Key)).zip us).length = ks.length := by simp [hu]
      refine ⟨d1, (ks.map Sum.inr).zip us, k2, by rw [hlen]; exact hk2, ?_⟩
      rw [merge_nodup _ [] (by
        rw [List.map_nil, List.nil_append, List.map_fst_zip (by simp [hu])]
        exact List.Pairwise.map _ (fun a b h z => h (Sum.inr.inj z)) hb2), List.nil_append]
      have R2 : Rep X.K xa F1 ρ1 m1 (upd H1 p (.dK ((ks.map Sum.inr).zip us))) := by
        refine ⟨fun b w h => ?_, R1.len, fun n a o e1 e2 => (R1.ob n a o e1 e2).mono (Same.refl _) ⟨[], by simp⟩ fun w h => ?_, R1.nf, R1.nd, R1.wf, tabs_upd R1.tab fun u hu => (by rw [d1] at hu; cases hu; exact nt_dK), R1.nft⟩
        · have : b ≠ p := fun z => by rw [z, d2] at h; cases h
          rw [upd_ne this]; exact R1.le b w h
        · have : a ≠ p := fun z => d3 (z ▸ List.mem_of_getElem? e1)
          rw [upd_ne this]; exact h
      have ob : ObR X.K xa F1 (ρ1 ++ [p]) (upd H1 p (.dK ((ks.map Sum.inr).zip us))) p (.dK ((ks.map Sum.inr).zip vs)) := by
        refine ⟨?_, _, upd_same, pair_imp k1 fun _ _ q => ⟨q.1, q.2.mono (Same.refl _) ⟨_, rfl⟩⟩⟩
        rw [← KvR.len k1, hlen]
        exact Nat.le_trans hk2 (by decide)
      have R3 := R2.own d3 d2 ob (fun q hq => hb3 q.2 (List.of_mem_zip hq).2)
      have E01 := E0.trans E1
      obtain ⟨ζ, e1, n1⟩ := E01.pre
      refine P F1 (ρ1 ++ [p]) _ (.ref p) ⟨E01.fle, ⟨ζ ++ [p], by rw [e1, List.append_assoc], fun b hb => ?_⟩, fun b w h n nt => ?_, E01.new, fun b h => ?_, fun b o' w h => (by rw [upd_ne (ne_of_none h hp)]; exact E01.frz b o' w h)⟩ R3 ⟨p, rfl, ?_⟩
      · rcases List.mem_append.mp hb with q | q
        · exact n1 b q
        · rw [List.mem_singleton.mp q]; exact hp
      · rw [upd_ne (ne_of_none h hp)]; exact E01.frm b w h n nt
      · by_cases hb : b = p
        · rw [hb, upd_same]; simp
        · rw [upd_ne hb]; exact E01.kep b h
      · rw [← R1.len, List.getElem?_append_right (Nat.le_refl _)]
        simp
    · exact False.elim P
theorem s_dct0 : PE X (.Dict [] [] pos) (tE X xa ec cf W (.dis [] .nil)) := by
  refine pe_mono pe_dnewK fun σ H Q ⟨F, ρ, m, env, R, E, P⟩ => fun p hp => ?_
  have fp : F p = none := by
    cases e : F p with
    | none => rfl
    | some u => rw [R.le p u e] at hp; cases hp
  have rp : p ∉ ρ := fun z => R.there z hp
  have g := R.grow (F' := F) (H' := upd H p (.dK [])) (Same.refl F) (fun b u h => by rw [upd_ne (ne_of_none (R.le b u h) hp)]; exact R.le b u h) (fun b u h => by rw [upd_ne (ne_of_none h hp)]; exact h) fun b u h n => (by rw [h] at n; cases n)
  have R3 := g.1.own rp fp (o := .dK []) ⟨by decide, [], upd_same, .nil⟩ (fun q hq => by cases hq)
  have P : Post X.K xa ec (relV X xa) (fun c d H => W c d σ H) F ρ H (.ok (.loc m.length) (m ++ [.dK []])) Q := P
  refine P F (ρ ++ [p]) _ (.ref p) ⟨g.2.fle, ⟨[p], rfl, fun b hb => by rw [List.mem_singleton.mp hb]; exact hp⟩, fun b u h n nt => g.2.frm b u h n nt, g.2.new, g.2.kep, g.2.frz⟩ R3 ⟨p, rfl, ?_⟩
  rw [← R.len, List.getElem?_append_right (Nat.le_refl _)]
  simp
/-! ### keywords -/
/-- how a call with keywords fills the parameters -/
def KwOk (K : PySem.W.Frag) (fd : FuncData) (ps ks : List Str) (np : Nat) (pm : List Nat) : Prop :=
  pm.length = ps.length ∧ (∀ i ∈ pm, i < np + ks.length) ∧ ∀ (s : Shared) (us ws : List Value), K.In s.heap → us.length = np → ws.length = ks.length → BindsTo s fd ⟨us, ks.zip ws⟩ (ps.zip (pm.filterMap fun i => (us ++ ws)[i]?))
theorem vals_pm {us : List Value} {vs : List V} (r : Vals vs us) : ∀ (pm : List Nat), Vals (pm.filterMap fun i => vs[i]?) (pm.filterMap fun i => us[i]?)
  | [] => .nil
  | i :: pm => by
    have ih := vals_pm r pm
    cases h : vs[i]? with
    | some v =>
      obtain ⟨u, h1, h2⟩ := r.get h
      rw [List.filterMap_cons_some h, List.filterMap_cons_some h1]
      exact .cons h2 ih
    | none =>
      have hu : us[i]? = none := by
        rw [List.getElem?_eq_none_iff] at h ⊢
        rw [← r.length]; exact h
      rw [List.filterMap_cons_none h, List.filterMap_cons_none hu]
      exact ih
theorem repVs_pm {K : PySem.W.Frag} {F : Hp} {ρ : List Addr} {ys : List EV} {vs : List V} (r : RepVs K xa F ρ vs ys) : ∀ (pm : List Nat), RepVs K xa F ρ (pm.filterMap fun i => vs[i]?) (pm.filterMap fun i => ys[i]?)
  | [] => .nil
  | i :: pm => by
    have ih := repVs_pm r pm
    cases h : ys[i]? with
    | some y =>
      obtain ⟨u, h1, h2⟩ := RepVs.get r h
      rw [List.filterMap_cons_some h, List.filterMap_cons_some h1]
      exact .cons h2 ih
    | none =>
      have hu : vs[i]? = none := by
        rw [List.getElem?_eq_none_iff] at h ⊢
        rw [RepVs.len r]; exact h
      rw [List.filterMap_cons_none h, List.filterMap_cons_none hu]
      exact ih
theorem RepVs.app {K : PySem.W.Frag} {F : Hp} {ρ : List Addr} {vs ws : List V} {ys zs : List EV} (h : RepVs K xa F ρ vs ys) (g : RepVs K xa F ρ ws zs) : RepVs K xa F ρ (vs ++ ws) (ys ++ zs) := by
  induction h with
  | nil => exact g
  | cons a b ih => exact .cons a ih
theorem pm_len {α : Type} (xs : List α) : ∀ (pm : List Nat), (∀ i ∈ pm, i < xs.length) → (pm.filterMap fun i => xs[i]?).length = pm.length
  | [], _ => rfl
  | i :: pm, h => by
    have hi := h i (by simp)
    rw [List.filterMap_cons_some (List.getElem?_eq_getElem hi), List.length_cons, List.length_cons, pm_len xs pm fun j hj => h j (List.mem_cons_of_mem _ hj)]
theorem sk_nil : PK X [] (tEs X xa ec cf W .nil) := by
  refine ⟨fun pos pins s σ H Q I ⟨F, ρ, m, env, R, E, P⟩ => pk_nil.run pos pins s σ H Q I ?_⟩
  exact Post.now (rel := relVs X xa) (a := ([] : List EV)) P R .nil
theorem sk_cons {kws : List Keyword} {xs : Exs} {nm : Option Str} {kpos : Pos} (ha : PE X a (tE X xa ec cf W ea)) (hr : PK X kws (tEs X xa ec cf W xs)) : PK X (⟨nm, a, kpos⟩ :: kws) (tEs X xa ec cf W (.cons ea xs)) := by
  refine ⟨fun pos pins s σ H Q I ⟨F, ρ, m, env, R, E, P⟩ => (pk_cons ha hr).run pos pins s σ H Q I ?_⟩
  have P : Post X.K xa ec (relVs X xa) (fun c d H => W c d σ H) F ρ H ((evE cf ea env m).bind fun x m1 => (evEs cf xs env m1).bind fun xs m2 => .ok (x :: xs) m2) Q := P
  refine ⟨F, ρ, m, env, R, E, Post.bind (rel' := relVs X xa) P fun x m1 F1 ρ1 H1 v e1 E1 R1 rv P1 => ?_⟩
  refine ⟨F1, ρ1, m1, env, R1, E.ext E1, Post.bind (rel' := relVs X xa) (rel := relVs X xa) P1 fun ys m2 F2 ρ2 H2 us e2 E2 R2 rus P2 => Post.now (rel := relVs X xa) (a := x :: ys) P2 R2 (.cons (rv.ext E2) rus)⟩
theorem s_callk {n k np np0 : Nat} {f : Addr} {fd : FuncData} {ps ks : List Str} {pm : List Nat} {x : Str} {p : Pos} {es : List Expr} {kws : List Keyword} {xs ws : Exs} (F : FnG X.prog X.w X.K X.mg X.base n f fd ps (spC X.K xa ec cf k np)) (hr : Room n X.A) (hgd : X.A.guards = some []) (hg : Gl X x) (hm : X.mg x = some (.ref f))
    (hk : PySem.W.keepIn X.K (.ref f) = true) (hb : KwOk X.K fd ps ks np0 pm) (tk : Takes X W) (hbad : ∀ vs m, vs.length ≠ np → cf k vs m = .bad) (hdb : (x == ("__debug__" : Str)) = false)
    (ha : PA X es (tEs X xa ec cf W xs)) (hw : PK X kws (tEs X xa ec cf W ws)) (hls : exsLen xs = np0) (hlk : exsLen ws = ks.length) (hall : (backToKw pos (keywordEach kws X.env)).all (·.1.isSome) = true) (hks : (backToKw pos (keywordEach kws X.env)).filterMap (·.1) = ks)
    (hpl : ((backTo pos (starEach es X.env)).any (·.1) || (backToKw pos (keywordEach kws X.env)).any (·.1.isNone)) = false) (hst : (es = [] ∧ xs = .nil) ∨ ∃ e r, es = e :: r ∧ starEach (e :: r) X.env = (false, eval e X.env) :: starEach r X.env) :
    PE X (.Call (.Name x p) es kws pos) (tE X xa ec cf W (.callk k xs ws pm)) := by
  have run : ∀ (pins : List (Addr × Obj)) (s1 : Shared) (σ : L2.St) (H1 : Hp) (Q : VK) (us uw : List Value) (vs : List V), us.length = np0 → uw.length = ks.length → Inv X pins σ H1 s1 → Vals vs (us ++ uw) → spC X.K xa ec cf k np (pm.filterMap fun i => vs[i]?) H1 Q (WE W σ) → wpAny (model X.prog X.w) X.A (call (.ref f) us (ks.zip uw)) (EP X pins σ Q) X.xe s1 := by
    intro pins s1 σ H1 Q us uw vs l1 l2 I1 r q
    exact end_call (args := ⟨us, ks.zip uw⟩) (passAt tk σ) I1 (F.run X.A X.stack s1 H1 ⟨us, ks.zip uw⟩ (pm.filterMap fun i => (us ++ uw)[i]?) (pm.filterMap fun i => vs[i]?) Q _ hr hgd I1.env0 (hb.2.2 s1 us uw I1.kIn l1 l2) (vals_pm r pm) q)
  refine ⟨fun pins s σ H Q I ⟨F0, ρ, m, env, R, E, P⟩ => ?_⟩
  have P : Post X.K xa ec (relV X xa) (fun c d H => W c d σ H) F0 ρ H ((evEs cf xs env m).bind fun us m1 => (evEs cf ws env m1).bind fun uw m2 => cf k (pm.filterMap fun i => (us ++ uw)[i]?) m2) Q := P
  have args : tEs X xa ec cf W xs σ H (fun vs H1 => vs.length = np0 ∧ tEs X xa ec cf W ws σ H1 fun zs H2 => zs.length = ks.length ∧ spC X.K xa ec cf k np (pm.filterMap fun i => (vs ++ zs)[i]?) H2 Q (WE W σ)) := by
    refine ⟨F0, ρ, m, env, R, E, Post.bind (rel' := relV X xa) P fun vs m1 F1 ρ1 H1 us e1 E1 R1 rv P1 => ⟨by rw [RepVs.len rv, evEs_exsLen e1, hls], ?_⟩⟩
    refine ⟨F1, ρ1, m1, env, R1, E.ext E1, Post.bind (rel' := relV X xa) P1 fun zs m2 F2 ρ2 H2 uz e2 E2 R2 rz P2 => ⟨by rw [RepVs.len rz, evEs_exsLen e2, hlk], ?_⟩⟩
    have rr := repVs_pm (RepVs.app (rv.ext E2) rz) pm
    by_cases hl : (pm.filterMap fun i => (vs ++ zs)[i]?).length = np
    · exact ⟨by rw [← hl]; exact rr.len, F2, ρ2, m2, _, R2, rr, P2⟩
    · rw [hbad _ m2 hl] at P2
      exact False.elim P2
  refine wpAny_Call_Name_kw (ld_glob I hg hm ?_ hdb)
  rcases hst with ⟨rfl, rfl⟩ | ⟨e, r, rfl, he⟩
  · refine PySem.W.callWith_KW0 (h₀ := X.base) I.ok.mod.kin hk hall ?_ hpl
    obtain ⟨F1, ρ1, m1, env1, R1, E1, P1⟩ := args
    obtain ⟨l1, t1⟩ := Post.now (rel := relVs X xa) (a := ([] : List EV)) P1 R1 .nil
    refine thn (hw.run pos pins s σ H _ I t1) fun uw s2 ⟨zs, H2, I2, rz, l2, q2⟩ => ⟨I2.kIn, ?_⟩
    rw [hks]
    exact run pins s2 σ H2 Q [] uw zs l1 (by rw [← rz.length]; exact l2) I2 rz q2
  · refine PySem.W.callWith_KW (h₀ := X.base) I.ok.mod.kin hk hall (thn (ha.run pos pins s σ H _ I args) fun us s1 ⟨vs, H1, I1, r1, l1, q1⟩ => ?_) hpl he
    refine thn (hw.run pos pins s1 σ H1 _ I1 q1) fun uw s2 ⟨zs, H2, I2, rz, l2, q2⟩ => ⟨I2.kIn, ?_⟩
    rw [hks]
    exact run pins s2 σ H2 Q us uw (vs ++ zs) (by rw [← r1.length]; exact l1) (by rw [← rz.length]; exact l2) I2 (r1.append rz) q2
/-! ### constants of the module -/
theorem s_glob {x : Str} {v : V} {u : Value} {d : D} (hg : Gl X x) (hm : X.mg x = some u) (r : RelV v u) (hd : (x == ("__debug__" : Str)) = false) (h : ∀ F, Df X.K F v d) : PE X (.Name x pos) (tE X xa ec cf W (.c d)) := s_cc (pe_glob hg hm r hd) h
end
end PV
end

section
set_option Elab.async false
set_option linter.all false
set_option maxRecDepth 100000
set_option maxHeartbeats 4000000
/-! PVS: sorted of a tuple of ints. -/
namespace PV
open PySem PyProof.Rows Srt SrtO
section
variable {prog : Program} {w : World} {A : Around} {E : Value → Shared → Prop} {s : Shared}
/-- the items of a tuple, laid into a new list -/
theorem collect_tup {l : Addr} {vs : List Value} {Q : List Value → Shared → Prop} (hl : IsTup s.heap l vs.toArray)
    (h : Q vs { s with heap := (s.heap.push (seqObj "list" #[] 0)).update s.heap.objs.size (Obj.mapSeq (· ++ vs.toArray)) }) (hsz : vs.length ≤ sizeLine) :
    wpAny (model prog w) A (collect (.ref l)) Q E s := by
  obtain ⟨o, ho, hc, n, hd⟩ := id hl
  have after : (s.heap.push (seqObj "list" #[] 0)).get? l = some o := Heap.get?_push_of_some _ ho
  unfold collect
  refine wpAny_bind (wpAny_runValue (codeAny_builtin entry_proto_collect' ?_))
  show wpAny _ _ (do again (.builtin "list.__iadd__" ⟨[← newList [], .ref l], []⟩)) _ _ s
  refine wpAny_bind (wpAny_newList (wpAny_pure ⟨Code.quiet_builtin _ (by decide +kernel), codeAny_builtin entry_list_iadd' ?_⟩))
  show wpAny _ _ (Builtin.List.listExtendWith (.ref s.heap.objs.size) (.ref l) (.ref s.heap.objs.size)) _ _ { s with heap := s.heap.push (seqObj "list" #[] 0) }
  unfold Builtin.List.listExtendWith
  refine wpAny_bind (wpAny_typeOf (T := "tuple") ⟨o, after, hc⟩ ?_)
  have same : (Value.type "tuple" == Value.type "tuple") = true := by rfl
  rw [if_pos (by rw [same]; simp)]
  refine wpAny_bind (listItems_at after hd ?_)
  refine wpAny_bind (listItems_at (xs := #[]) (n := 0) (Heap.get?_push_size _ rfl) rfl ?_)
  rw [if_neg (by simp)]
  refine wpAny_bind (listUpdate_at (xs := #[]) (n := 0) (Heap.get?_push_size _ rfl) rfl ?_ (Nat.zero_le _) (by show (#[] ++ vs.toArray).size ≤ sizeLine + 1; simp only [Array.size_append, List.size_toArray, List.length_nil]; omega))
  refine wpAny_pure ?_
  show wpAny (model prog w) A (do
      let o ← load s.heap.objs.size
      match o.data with
      | .seq xs _ => pure xs.toList
      | _ => unsupported "internal:collect") Q E { s with heap := (s.heap.push (seqObj "list" #[] 0)).update s.heap.objs.size (Obj.mapSeq (· ++ vs.toArray)) }
  refine wpAny_bind (wpAny_load (get?_update_seq (Heap.get?_push_size _ rfl) _) ?_)
  show wpAny _ _ (pure ((#[] : Array Value) ++ vs.toArray).toList) Q E _
  rw [show ((#[] : Array Value) ++ vs.toArray).toList = vs by simp]
  exact wpAny_pure h
theorem sorted_tup {l : Addr} {vs : List Value} {ltv : Value → Value → Bool} {Q : Value → Shared → Prop} (O : Swo ltv) (hl : IsTup s.heap l vs.toArray) (hz : vs.length ≤ sizeLine)
    (hS : 2 ≤ vs.length → ∀ (h₁ : Heap) (a : Addr), h₁.get? a = some (seqObj "list" vs.toArray 0) → (∀ b o, s.heap.get? b = some o → b ≠ a ∧ h₁.get? b = some o) → SortableO prog w A.in1.in1 { s with heap := h₁ } a vs ltv)
    (h : ∀ out : List Value, Srtd ltv out → Stb ltv out vs → Q (.ref (s.heap.objs.size + 1)) { s with heap := sortedAll s.heap vs out.toArray }) :
    wpAny (model prog w) A (call (.builtin "sorted") [.ref l]) Q E s := by
  refine Calls.call_function_entry kind_sorted plain_sorted entry_sorted (args_sorted1 _) ?_
  unfold Builtin.«sorted»
  refine wpAny_bind (m := checkCount "sorted" 1 1 _) (wpAny_pure ?_)
  refine wpAny_bind (collect_tup hl ?_ hz)
  refine wpAny_bind (wpAny_newList ?_ hz)
  have size : ((s.heap.push (seqObj "list" #[] 0)).update s.heap.objs.size (Obj.mapSeq (· ++ vs.toArray))).objs.size = s.heap.objs.size + 1 := by
    rw [Heap.size_update, size_push']
  have laid : (((s.heap.push (seqObj "list" #[] 0)).update s.heap.objs.size (Obj.mapSeq (· ++ vs.toArray))).push (seqObj "list" vs.toArray 0)).get? (s.heap.objs.size + 1) = some (seqObj "list" vs.toArray 0) := by
    rw [← size]
    exact Heap.get?_push_size _ rfl
  have keep : ∀ b o, s.heap.get? b = some o → b ≠ s.heap.objs.size + 1 ∧ (((s.heap.push (seqObj "list" #[] 0)).update s.heap.objs.size (Obj.mapSeq (· ++ vs.toArray))).push (seqObj "list" vs.toArray 0)).get? b = some o := fun b o q => by
    have lt : b < s.heap.objs.size := Heap.lt_size q
    refine ⟨Nat.ne_of_lt (Nat.lt_succ_of_lt lt), Heap.get?_push_of_some _ ?_⟩
    rw [Heap.get?_update_ne _ _ _ _ (Nat.ne_of_lt lt)]
    exact Heap.get?_push_of_some _ q
  show wpAny _ _ _ _ _ { s with heap := ((s.heap.push (seqObj "list" #[] 0)).update s.heap.objs.size (Obj.mapSeq (· ++ vs.toArray))).push (seqObj "list" vs.toArray 0) }
  rw [size]
  refine wpAny_bind (wpAny_holding (wpAny_call_entry slot_list_sort ⟨_, laid, rfl⟩ entry_list_sort (list_sort_ord O laid hz (fun h2 => hS h2 _ _ laid keep) fun out hs hb => ⟨_, rfl, ?_⟩) (args_list_sort _)))
  exact wpAny_pure ⟨_, rfl, h out hs hb⟩
end
end PV
namespace PV
open PySem PySem.Spec PyProof.Rows L2
/-- sorted(xs), xs a list or a tuple of ints -/
def rSortedQ (K : PySem.W.Frag) : List V → Hp → VK → Prop := fun vs H Q => ∃ (a : Addr) (ns : List Int), vs = [V.ref a] ∧ (SqL K H a (ns.map V.int) ∨ SqT K H a (ns.map V.int)) ∧
  ∀ (ns' : List Int) (p : Addr), ns'.Perm ns → ns'.Pairwise (· ≤ ·) → H p = none → Q (.ref p) (upd H p (.lst (ns'.map V.int)))
theorem cr_sortedQ {X : Cx} : CallR X (.builtin "sorted") (rSortedQ X.K) := by
  intro pins s σ H vs us Q I r h
  obtain ⟨a, ns, rfl, hs | hs, q⟩ := h
  · exact cr_sortedI pins s σ H _ us Q I r ⟨a, ns, rfl, hs, q⟩
  · obtain ⟨its, rv, hl, hz⟩ := I.tuple hs
    rw [Vals.ref1 r]
    have hi := rv.ints
    refine sorted_tup SrtO.swo_int hl (by rw [← rv.length]; exact hz) (fun h2 h₁ a' _ _ => SrtO.ints_sortable hi h2) fun out h1 h2 => ?_
    obtain ⟨k1, k2, k3⟩ := SrtO.ints_out hi h1 h2
    obtain ⟨ep, he'⟩ := PyProof.Rows.sortedAll_at s.heap its out.toArray
    have hlen : ((out.map SrtO.iv).map V.int).length ≤ sizeLine := by
      rw [List.length_map, k2.length_eq]
      rw [List.length_map] at hz
      exact hz
    exact ⟨.ref _, upd H (s.heap.objs.size + 1) (.lst ((out.map SrtO.iv).map V.int)), I.laid (t' := s.toks) (fun _ _ => PyProof.Rows.sortedAll_old) (Nat.le_succ _) ⟨hlen, out, ep, vals_of_ints k1, he'⟩, rfl, q _ _ k2 k3 (I.hok.fresh (Nat.le_succ _))⟩
end PV
end

section
set_option Elab.async false
set_option linter.all false
set_option maxRecDepth 100000
set_option maxHeartbeats 4000000
/-! PVN: sorted of pairs of an int and a tuple of ints. -/
namespace PV
open PySem PyProof.Rows Srt SrtO
/-! ### the order -/
theorem ll_asym : ∀ {a b : List Int}, HT.lexLt a b = true → HT.lexLt b a = false
  | [], [], h => by cases h
  | [], _ :: _, _ => rfl
  | _ :: _, [], h => by cases h
  | x :: a, y :: b, h => by
    rw [HT.lexLt_cons] at h ⊢
    by_cases e : x = y
    · rw [if_pos e] at h
      rw [if_pos e.symm]
      exact ll_asym h
    · rw [if_neg e] at h
      rw [if_neg fun z => e z.symm]
      have := of_decide_eq_true h
      exact decide_eq_false (by omega)
theorem ll_anti : ∀ {a b : List Int}, HT.lexLt a b = false → HT.lexLt b a = false → a = b
  | [], [], _, _ => rfl
  | [], _ :: _, h, _ => by cases h
  | _ :: _, [], _, h => by cases h
  | x :: a, y :: b, h, h' => by
    rw [HT.lexLt_cons] at h h'
    by_cases e : x = y
    · rw [if_pos e] at h
      rw [if_pos e.symm] at h'
      rw [e, ll_anti h h']
    · rw [if_neg e] at h
      rw [if_neg fun z => e z.symm] at h'
      have h1 := of_decide_eq_false h
      have h2 := of_decide_eq_false h'
      omega
theorem ll_tr : ∀ {a b c : List Int}, HT.lexLt b a = false → HT.lexLt c b = false → HT.lexLt c a = false
  | [], _, [], _, _ => rfl
  | [], [], _ :: _, _, _ => rfl
  | [], _ :: _, _ :: _, _, _ => rfl
  | _ :: _, [], [], h, _ => by cases h
  | _ :: _, _ :: _, [], _, h => by cases h
  | _ :: _, [], _ :: _, h, _ => by cases h
  | x :: a, y :: b, z :: c, h, h' => by
    rw [HT.lexLt_cons] at h h' ⊢
    by_cases e : y = x
    · rw [if_pos e] at h
      by_cases e2 : z = y
      · rw [if_pos e2] at h'
        rw [if_pos (e2.trans e)]
        exact ll_tr h h'
      · rw [if_neg e2] at h'
        have := of_decide_eq_false h'
        rw [if_neg (by omega)]
        exact decide_eq_false (by omega)
    · rw [if_neg e] at h
      have h1 := of_decide_eq_false h
      by_cases e2 : z = y
      · rw [if_neg (by omega)]
        exact decide_eq_false (by omega)
      · rw [if_neg e2] at h'
        have := of_decide_eq_false h'
        rw [if_neg (by omega)]
        exact decide_eq_false (by omega)
abbrev lexP (p q : Int × List Int) : Bool := lexQ p q
theorem lp_asym {p q : Int × List Int} (h : lexP p q = true) : lexP q p = false := by
  unfold lexP lexQ at *
  by_cases e : p.1 = q.1
  · rw [if_pos e] at h
    rw [if_pos e.symm]
    exact ll_asym h
  · rw [if_neg e] at h
    rw [if_neg fun z => e z.symm]
    have := of_decide_eq_true h
    exact decide_eq_false (by omega)
theorem lp_anti {p q : Int × List Int} (h : lexP p q = false) (h' : lexP q p = false) : p = q := by
  unfold lexP lexQ at *
  by_cases e : p.1 = q.1
  · rw [if_pos e] at h
    rw [if_pos e.symm] at h'
    exact Prod.ext e (ll_anti h h')
  · rw [if_neg e] at h
    rw [if_neg fun z => e z.symm] at h'
    have h1 := of_decide_eq_false h
    have h2 := of_decide_eq_false h'
    omega
theorem lp_tr {p q r : Int × List Int} (h : lexP q p = false) (h' : lexP r q = false) : lexP r p = false := by
  unfold lexP lexQ at *
  by_cases e : q.1 = p.1
  · rw [if_pos e] at h
    by_cases e2 : r.1 = q.1
    · rw [if_pos e2] at h'
      rw [if_pos (e2.trans e)]
      exact ll_tr h h'
    · rw [if_neg e2] at h'
      have := of_decide_eq_false h'
      rw [if_neg (by omega)]
      exact decide_eq_false (by omega)
  · rw [if_neg e] at h
    have h1 := of_decide_eq_false h
    by_cases e2 : r.1 = q.1
    · rw [if_neg (by omega)]
      exact decide_eq_false (by omega)
    · rw [if_neg e2] at h'
      have := of_decide_eq_false h'
      rw [if_neg (by omega)]
      exact decide_eq_false (by omega)
/-- two sorted lists of the same things are one -/
theorem lp_uniq : ∀ {l m : List (Int × List Int)}, l.Perm m → l.Pairwise (fun x y => lexP y x = false) → m.Pairwise (fun x y => lexP y x = false) → l = m
  | [], m, h, _, _ => (List.Perm.eq_nil h.symm).symm
  | x :: l, [], h, _, _ => absurd h.length_eq (by simp)
  | x :: l, y :: m, h, hl, hm => by
    have hl' := List.pairwise_cons.mp hl
    have hm' := List.pairwise_cons.mp hm
    have e : x = y := by
      rcases List.mem_cons.mp (h.mem_iff.mp (List.mem_cons_self (a := x) (l := l))) with e | hx
      · exact e
      · rcases List.mem_cons.mp (h.mem_iff.mpr (List.mem_cons_self (a := y) (l := m))) with e | hy
        · exact e.symm
        · exact lp_anti (hm'.1 x hx) (hl'.1 y hy)
    subst e
    rw [lp_uniq h.cons_inv hl'.2 hm'.2]
theorem insP_perm (x : Int × List Int) : ∀ l, (insP x l).Perm (x :: l)
  | [] => List.Perm.refl _
  | y :: r => by
    unfold insP
    split
    · exact ((insP_perm x r).cons y).trans (List.Perm.swap x y r)
    · exact List.Perm.refl _
theorem sortP_perm : ∀ l, (sortP l).Perm l
  | [] => List.Perm.refl _
  | x :: r => (insP_perm x (sortP r)).trans ((sortP_perm r).cons x)
theorem insP_sorted (x : Int × List Int) : ∀ {l : List (Int × List Int)}, l.Pairwise (fun a b => lexP b a = false) → (insP x l).Pairwise fun a b => lexP b a = false
  | [], _ => List.pairwise_singleton _ _
  | y :: r, h => by
    obtain ⟨h1, h2⟩ := List.pairwise_cons.mp h
    unfold insP
    cases hxy : lexQ y x with
    | true =>
      rw [if_pos rfl]
      refine List.pairwise_cons.mpr ⟨fun z hz => ?_, insP_sorted x h2⟩
      rcases List.mem_cons.mp ((insP_perm x r).mem_iff.mp hz) with rfl | hz
      · exact lp_asym hxy
      · exact h1 z hz
    | false =>
      rw [if_neg Bool.false_ne_true]
      refine List.pairwise_cons.mpr ⟨fun z hz => ?_, h⟩
      rcases List.mem_cons.mp hz with rfl | hz
      · exact hxy
      · exact lp_tr hxy (h1 z hz)
theorem sortP_sorted : ∀ l, (sortP l).Pairwise fun a b => lexP b a = false
  | [] => .nil
  | x :: r => insP_sorted x (sortP_sorted r)
/-! ### such things in a heap -/
def IsPL (h : Heap) (v : Value) (p : Int × List Int) : Prop := ∃ a o t b n its, v = .ref a ∧ h.get? a = some o ∧ o.cls = .type "tuple" ∧ o.data = .seq #[.int p.1 t, .ref b] n ∧ IsTup h b its ∧ IntsAre its.toList p.2
theorem IsPL.keeps {h h' : Heap} {v : Value} {p : Int × List Int} (x : IsPL h v p) (k : ∀ b o, h.get? b = some o → o.cls = .type "tuple" → h'.get? b = some o) : IsPL h' v p := by
  obtain ⟨a, o, t, b, n, its, e, ho, hc, hd, ⟨o2, ho2, hc2, r⟩, hi⟩ := x
  exact ⟨a, o, t, b, n, its, e, k _ _ ho hc, hc, hd, ⟨o2, k _ _ ho2 hc2, hc2, r⟩, hi⟩
theorem ints_inj : ∀ {vs : List Value} {a b : List Int}, IntsAre vs a → IntsAre vs b → a = b
  | _, _, _, .nil, .nil => rfl
  | _, _, _, .cons n t h, .cons _ _ h' => by rw [ints_inj h h']
theorem IsPL.inj {h : Heap} {v : Value} {p q : Int × List Int} (x : IsPL h v p) (y : IsPL h v q) : p = q := by
  obtain ⟨a, o, t, b, n, its, e, ho, hc, hd, ⟨o2, ho2, hc2, n2, hd2⟩, hi⟩ := x
  obtain ⟨a', o', t', b', n', its', e', ho', hc', hd', ⟨o2', ho2', hc2', n2', hd2'⟩, hi'⟩ := y
  rw [e] at e'
  cases e'
  rw [ho] at ho'
  cases ho'
  rw [hd] at hd'
  simp only [Data.seq.injEq, Array.mk.injEq, List.cons.injEq, Value.int.injEq, Value.ref.injEq] at hd'
  obtain ⟨⟨⟨e1, _⟩, rfl, _⟩, _⟩ := hd'
  rw [ho2] at ho2'
  cases ho2'
  rw [hd2] at hd2'
  simp only [Data.seq.injEq] at hd2'
  obtain ⟨rfl, _⟩ := hd2'
  exact Prod.ext e1 (ints_inj hi hi')
theorem items_of_ints {prog : Program} {w : World} : ∀ {vs : List Value} {k : List Int}, IntsAre vs k → ItemsAre (PySem.intKind prog w) k vs
  | _, _, .nil => .nil
  | _, _, .cons n t h => .cons (by simp [PySem.intKind, Value.isInt]) (items_of_ints h)
section
variable {prog : Program} {w : World} {A : Around} {E : Value → Shared → Prop} {s : Shared}
theorem pl_cmp {vs : List Value} {k : Value → Int × List Int} (hu : A.units < cLine) (hp : ∀ v ∈ vs, IsPL s.heap v (k v)) : SrtO.Cmp prog w A s (tuples' true) (fun p => p.1 ∈ vs) (lt2 fun v u => lexP (k v) (k u)) := by
  intro p q hm hm'
  have h1 := hp _ hm
  have h2 := hp _ hm'
  show wpAny (model prog w) A (keyLt' (tuples' true) p.1 q.1) (fun r s' => s' = s ∧ r = lexP (k p.1) (k q.1)) (fun _ _ => False) s
  generalize k p.1 = m at h1 ⊢
  generalize k q.1 = n at h2 ⊢
  obtain ⟨a, o, t, b, c, its, e, ho, hc, hd, ht, hi⟩ := h1
  obtain ⟨a', o', t', b', c', its', e', ho', hc', hd', ht', hi'⟩ := h2
  rw [e, e']
  have k1 : IsTupleKey (PySem.intKind prog w) s.heap m.2 b := by
    obtain ⟨o2, h1, h2, n2, h3⟩ := ht
    exact ⟨o2, its, n2, h1, h2, h3, items_of_ints hi⟩
  have k2 : IsTupleKey (PySem.intKind prog w) s.heap n.2 b' := by
    obtain ⟨o2, h1, h2, n2, h3⟩ := ht'
    exact ⟨o2, its', n2, h1, h2, h3, items_of_ints hi'⟩
  refine PySem.W.kat_lt ho hd ho' hd' ?_
  show PySem.W.KatLex prog w A true (decide (2 < 2)) _ [(.int m.1 t, .int n.1 t'), (.ref b, .ref b')] 0 s
  refine PySem.W.kat_cons (SeqAt.EqAt.int_int m.1 t n.1 t' prog w _ _ ?_)
  refine PySem.W.kat_go (fun e1 => ?_) (fun e1 => ?_)
  · have ex : m.1 = n.1 := by simpa using e1
    refine PySem.W.kat_yes (PySem.W.kat_cons (wpAny_eqBool_tuple hu k1 k2 ?_))
    refine PySem.W.kat_go (fun e2 => ?_) (fun e2 => ?_)
    · have ey : m.2 = n.2 := by simpa using e2
      have e3 : lexP m n = false := by
        have : m = n := Prod.ext ex ey
        rw [this]
        cases hh : lexP n n with
        | false => rfl
        | true => rw [lp_asym hh] at hh; cases hh
      exact PySem.W.kat_yes (PySem.W.kat_nil ⟨rfl, e3.symm⟩)
    · have e3 : lexP m n = HT.lexLt m.2 n.2 := if_pos ex
      refine PySem.W.kat_no (PySem.W.kat_one _ _ (HT.lt_tupInts ht ht' hi hi' hu ?_))
      exact (show s = s ∧ HT.lexLt m.2 n.2 = lexP m n from ⟨rfl, e3.symm⟩)
  · have ex : ¬ m.1 = n.1 := by simpa using e1
    have e3 : lexP m n = decide (m.1 < n.1) := if_neg ex
    exact PySem.W.kat_no (oneLt_int ⟨rfl, e3.symm⟩)
theorem pl_swo (k : Value → Int × List Int) : SrtO.Swo fun v u => lexP (k v) (k u) := ⟨fun x y h => lp_asym h, fun x y z h1 h2 => lp_tr h1 h2⟩
theorem pl_firsts {h : Heap} : ∀ {vs : List Value}, (∀ v ∈ vs, ∃ p, IsPL h v p) → ∃ fs : List Value, PySem.W.KatTups h vs fs ∧ fs.length = vs.length ∧ ∀ f ∈ fs, ∃ x t, f = Value.int x t
  | [], _ => ⟨[], PySem.W.KatTups.nil, rfl, fun _ hm => by simp at hm⟩
  | v :: vs, hp => by
    obtain ⟨fs, h1, h2, h3⟩ := pl_firsts (vs := vs) fun v' hm => hp v' (List.mem_cons_of_mem _ hm)
    obtain ⟨p, a, o, t, b, n, its, e, ho, hc, hd, _⟩ := hp v (List.mem_cons_self ..)
    subst e
    refine ⟨.int p.1 t :: fs, PySem.W.KatTups.cons ho hc hd rfl h1, by rw [List.length_cons, List.length_cons, h2], fun f hm => ?_⟩
    rcases List.mem_cons.mp hm with e | hm
    · exact ⟨_, _, e⟩
    · exact h3 f hm
theorem pl_sortable {a : Addr} {vs : List Value} {k : Value → Int × List Int} (hu : A.units < cLine) (h0 : 0 < vs.length) (hp : ∀ v ∈ vs, IsPL s.heap v (k v)) (ha : ∀ o, s.heap.get? a = some o → o.cls ≠ .type "tuple") : SortableO prog w A s a vs fun v u => lexP (k v) (k u) := by
  intro h' keep
  have hp' : ∀ v ∈ vs, IsPL h' v (k v) := fun v hm => (hp v hm).keeps fun b o e c => keep b o (fun z => by subst z; exact ha o e c) e
  obtain ⟨fs, h1, h2, h3⟩ := pl_firsts fun v hm => ⟨_, hp' v hm⟩
  refine ⟨tuples' true, fun Q E hq => ?_, pl_cmp hu hp'⟩
  refine PySem.W.kat_kind (T := .type "int") h1 (by omega) (fun f hm => ?_) (by rfl) ?_
  · obtain ⟨x, t, rfl⟩ := h3 f hm
    exact PySem.W.Looks.now
  · have e : (Value.type "int" != Value.type "tuple") = true := by first | decide +kernel | rfl | decide
    rw [e]
    exact hq
theorem sorted_pl {l : Addr} {vs : List Value} {k : Value → Int × List Int} {Q : Value → Shared → Prop} (hu : A.units + 2 < cLine) (hl : s.heap.IsList l vs.toArray) (hz : vs.length ≤ sizeLine) (hp : ∀ v ∈ vs, IsPL s.heap v (k v))
    (h : ∀ (h' : Heap) (d : Addr) (out : List Value), Srtd (fun v u => lexP (k v) (k u)) out → Stb (fun v u => lexP (k v) (k u)) out vs → (∀ b o, s.heap.get? b = some o → h'.get? b = some o) → s.heap.objs.size ≤ d → (∃ n, h'.get? d = some (seqObj "list" out.toArray n)) → Q (.ref d) { s with heap := h' }) :
    wpAny (model prog w) A (call (.builtin "sorted") [.ref l]) Q E s := by
  refine sorted_ord (pl_swo k) hl hz (fun h2 h₁ a ha kk => ?_) fun out hs hb => ?_
  · refine pl_sortable (s := { s with heap := h₁ }) (by show A.units + 1 + 1 < cLine; omega) (by omega) (fun v hm => (hp v hm).keeps fun b o e _ => (kk b o e).2) fun o e => ?_
    have e' : some o = some (seqObj "list" vs.toArray 0) := e.symm.trans ha
    cases e'
    intro c
    exact absurd (Value.type.inj c) (by decide)
  · exact h _ _ out hs hb (fun b o e => sortedAll_old e) (Nat.le_succ _) (sortedAll_at s.heap vs out.toArray)
end
end PV
namespace PV
open PySem PySem.Spec PyProof.Rows L2
/-- a pair of an int and a tuple of ints -/
def PL (K : PySem.W.Frag) (H : Hp) (x : V) (p : Int × List Int) : Prop := ∃ t b, x = .ref t ∧ SqT K H t [.int p.1, .ref b] ∧ SqT K H b (p.2.map V.int)
def rSortedPL (K : PySem.W.Frag) : List V → Hp → VK → Prop := fun vs H Q => ∃ (a : Addr) (xs : List V), vs = [V.ref a] ∧ SqL K H a xs ∧ (∀ x ∈ xs, ∃ p, PL K H x p) ∧
  ∀ ys p, ys.Perm xs → ys.Pairwise (fun x y => ∀ m n, PL K H x m → PL K H y n → lexP n m = false) → H p = none → Q (.ref p) (upd H p (.lst ys))
theorem ints_of_vals : ∀ {w : List Int} {us : List Value}, Vals (w.map V.int) us → IntsAre us w
  | [], _, h => by cases h; exact .nil
  | i :: w, _, h => by
    cases h with
    | cons r t =>
      obtain ⟨tk, rfl⟩ := r
      exact .cons i tk (ints_of_vals t)
open Classical in
noncomputable def kOf (h : Heap) (v : Value) : Int × List Int := if hp : ∃ p, IsPL h v p then choose hp else (0, [])
theorem kOf_eq {h : Heap} {v : Value} {p : Int × List Int} (x : IsPL h v p) : kOf h v = p := by
  have hp : ∃ p, IsPL h v p := ⟨p, x⟩
  unfold kOf
  rw [dif_pos hp]
  exact (Classical.choose_spec hp).inj x
section
variable {X : Cx}
theorem pl_is {pins : List (Addr × Obj)} {σ : L2.St} {H : Hp} {s : Shared} (I : Inv X pins σ H s) {x : V} {p : Int × List Int} (h : PL X.K H x p) : ∀ u, RelV x u → IsPL s.heap u p := by
  intro u ru
  obtain ⟨t, b, rfl, h1, h2⟩ := h
  obtain rfl : u = Value.ref t := ru
  obtain ⟨its, rv, ⟨o, ho, hc, n, hd⟩, _⟩ := I.tuple h1
  obtain ⟨u1, u2, rfl, r1, r2⟩ := vals2 rv
  obtain ⟨tk, rfl⟩ := r1
  obtain rfl : u2 = Value.ref b := r2
  obtain ⟨its2, rv2, ht, _⟩ := I.tuple h2
  exact ⟨t, o, tk, b, n, its2.toArray, rfl, ho, hc, hd, ht, by simpa using ints_of_vals rv2⟩
theorem cr_sortedPL (hu : X.A.units + 2 < cLine) : CallR X (.builtin "sorted") (rSortedPL X.K) := by
  intro pins s σ H vs us Q I r h
  obtain ⟨a, xs, rfl, hs, hx, q⟩ := h
  obtain ⟨its, rv, hl, hz⟩ := I.list hs
  obtain ⟨u, rfl, ru⟩ := vals1 r
  obtain rfl : u = Value.ref a := ru
  obtain ⟨e1, e2⟩ := refs_back rv fun x m => by
    obtain ⟨p, t, b, e, _⟩ := hx x m
    exact ⟨t, e⟩
  have back : ∀ v ∈ its, V.ref (match v with | .ref a => a | _ => 0) = backV v ∧ RelV (backV v) v := fun v hv => by
    obtain ⟨a, rfl⟩ := e2 v hv
    exact ⟨rfl, rfl⟩
  have hv : ∀ v ∈ its, ∃ p, PL X.K H (backV v) p := fun v hv => hx _ (by rw [e1]; exact List.mem_map.mpr ⟨v, hv, rfl⟩)
  refine sorted_pl (k := kOf s.heap) hu hl.isList (by rw [← rv.length]; exact hz) (fun v hm => ?_) fun h' d out h1 h2 kp hd hn => ?_
  · obtain ⟨p, hp⟩ := hv v hm
    have := pl_is I hp v (back v hm).2
    rw [kOf_eq this]
    exact this
  · have h3 : ∀ u ∈ out, u ∈ its := fun u hu => h2.perm.mem_iff.mp hu
    have h4 : ∀ u ∈ out, ∃ a, u = Value.ref a := fun u hu => e2 u (h3 u hu)
    obtain ⟨n, hn⟩ := hn
    have hp : (out.map backV).Perm xs := by
      rw [e1]
      exact h2.perm.map backV
    refine ⟨.ref d, upd H d (.lst (out.map backV)), I.laid (t' := s.toks) kp hd ⟨?_, out, n, vals_back h4, hn⟩, rfl, q _ d hp ?_ (I.hok.fresh hd)⟩
    · rw [hp.length_eq]
      exact hz
    · rw [List.pairwise_map]
      refine List.Pairwise.imp_of_mem (fun {x y} hx' hy' hlt m n hm hn => ?_) h1
      have i1 := pl_is I hm x (back x (h3 x hx')).2
      have i2 := pl_is I hn y (back y (h3 y hy')).2
      have hlt : lexP (kOf s.heap y) (kOf s.heap x) = false := hlt
      rw [kOf_eq i1, kOf_eq i2] at hlt
      exact hlt
end
end PV
end

section
set_option Elab.async false
set_option linter.all false
set_option maxRecDepth 100000
/-! PV12b: sorted, and what a dict has at a key or else. -/
namespace PV
open PySem PySem.Spec PyProof.Rows L2
theorem ins_perm (x : Int) : ∀ l : List Int, (insI x l).Perm (x :: l)
  | [] => List.Perm.refl _
  | y :: r => by
    unfold insI
    split
    · exact List.Perm.refl _
    · exact ((ins_perm x r).cons y).trans (List.Perm.swap x y r)
theorem sort_perm : ∀ l : List Int, (sortI l).Perm l
  | [] => List.Perm.refl _
  | x :: r => (ins_perm x _).trans ((sort_perm r).cons x)
theorem ins_asc (x : Int) : ∀ l : List Int, l.Pairwise (· ≤ ·) → (insI x l).Pairwise (· ≤ ·)
  | [], _ => List.pairwise_singleton _ _
  | y :: r, h => by
    unfold insI
    have h' := List.pairwise_cons.mp h
    split
    · rename_i q
      refine List.pairwise_cons.mpr ⟨fun z hz => ?_, h⟩
      rcases List.mem_cons.mp hz with rfl | hz
      · exact q
      · exact Int.le_trans q (h'.1 z hz)
    · rename_i q
      refine List.pairwise_cons.mpr ⟨fun z hz => ?_, ins_asc x r h'.2⟩
      rcases List.mem_cons.mp ((ins_perm x r).mem_iff.mp hz) with rfl | hz
      · omega
      · exact h'.1 z hz
theorem sort_asc : ∀ l : List Int, (sortI l).Pairwise (· ≤ ·)
  | [] => List.Pairwise.nil
  | x :: r => ins_asc x _ (sort_asc r)
theorem asc_uniq : ∀ {l l' : List Int}, l.Perm l' → l.Pairwise (· ≤ ·) → l'.Pairwise (· ≤ ·) → l = l'
  | [], l', h, _, _ => (List.nil_perm.mp h).symm
  | x :: r, [], h, _, _ => absurd (List.perm_nil.mp h) (by simp)
  | x :: r, y :: r', h, h1, h2 => by
    have a1 := List.pairwise_cons.mp h1
    have a2 := List.pairwise_cons.mp h2
    have m1 : x ∈ y :: r' := h.mem_iff.mp List.mem_cons_self
    have m2 : y ∈ x :: r := h.mem_iff.mpr List.mem_cons_self
    have e : x = y := by
      rcases List.mem_cons.mp m1 with e | m1
      · exact e
      · rcases List.mem_cons.mp m2 with e | m2
        · exact e.symm
        · exact Int.le_antisymm (a1.1 y m2) (a2.1 x m1)
    subst e
    rw [asc_uniq (List.Perm.cons_inv h) a1.2 a2.2]
theorem sort_uniq {l ns : List Int} (h : ns.Perm l) (ha : ns.Pairwise (· ≤ ·)) : ns = sortI l := asc_uniq (h.trans (sort_perm l).symm) ha (sort_asc l)
section
variable {X : Cx} {xa : List (Addr × Str)} {ec : Nat → Addr} {cf : CF} {W : WX} {a b c : Expr} {pos : Pos} {ea eb ec' : Ex}
theorem keys_of {K : PySem.W.Frag} {F : Hp} {ρ : List Addr} : ∀ {kw : List (Key × V)} {kvs : List (Key × EV)} {ks : List Int}, KvR K xa F ρ kw kvs → keysI kvs = some ks → kw.map (·.1) = ks.map Sum.inl
  | _, _, ks, .nil, e => by cases e; rfl
  | _, _, ks, .cons (a := p) (b := q) h t, e => by
    obtain ⟨q1, q2⟩ := q
    cases q1 with
    | inl i =>
      obtain ⟨l, e1, rfl⟩ := map_some (show (keysI _).map (i :: ·) = some ks from e)
      have h1 : p.1 = .inl i := h.1
      rw [List.map_cons, List.map_cons, h1, keys_of t e1]
    | inr _ => cases e
theorem dfs_of_ints {K : PySem.W.Frag} {F : Hp} : ∀ is : List Int, Dfs K F (is.map V.int) (is.map PyData.int)
  | [] => .nil
  | i :: is => .cons (.int i) (dfs_of_ints is)
theorem dfs_d {K : PySem.W.Frag} {F : Hp} {ρ : List Addr} : ∀ {ds : List D} {vs : List V}, RepVs K xa F ρ vs (ds.map EV.d) → Dfs K F vs ds
  | [], _, h => by cases h; exact .nil
  | d :: ds, _, h => by
    cases h with
    | cons p q => exact .cons p (dfs_d q)
theorem srt_ok (hc : X.calm = true) {F : Hp} {ρ : List Addr} {m : Mem} {H : Hp} {x : V} {y : EV} {is : List Int} {Q : VK} (R : Rep X.K xa F ρ m H) (rv : RepV X.K xa F ρ x y) (e : srtV m y = some is) (g : Gives X.K xa F ρ m H (.list (is.map .int)) Q) :
    rSortedQ X.K [x] H Q ∨ (∃ (a : Addr) (kvs : List (Key × V)) (ks : List Int), [x] = [V.ref a] ∧ Rd H a (.dK kvs) ∧ kvs.map (·.1) = ks.map Sum.inl ∧ ks.length < 64 ∧
      ∀ (ys : List Int) (p : Addr), ys.Perm ks → ys.Pairwise (· ≤ ·) → H p = none → Q (.ref p) (upd H p (.lst (ys.map V.int)))) := by
  have fin : ∀ (l : List Int), sortI l = is → l.length ≤ LIM → ∀ (ns : List Int) (p : Addr), ns.Perm l → ns.Pairwise (· ≤ ·) → H p = none → Q (.ref p) (upd H p (.lst (ns.map V.int))) := by
    intro l hl hz ns p h1 h2 hp
    have e := sort_uniq h1 h2
    rw [hl] at e
    subst e
    exact gives_lst R g (dfs_of_ints _) (by rw [List.length_map, h1.length_eq]; exact hz) p hp
  cases y with
  | d p =>
    cases p with
    | list xs =>
      obtain ⟨l, e1, e2⟩ := map_some (show (intsD xs).map sortI = some is from e)
      have rv : Df X.K F x (.list xs) := rv
      cases rv with
      | lst h1 h2 hz =>
        obtain ⟨rfl, rfl⟩ := dfs_ints h2 e1
        exact .inl ⟨_, l, rfl, .inl (SqL.of (R.le _ _ h1)), fin l e2 (by simpa using hz)⟩
    | tuple xs =>
      obtain ⟨l, e1, e2⟩ := map_some (show (intsD xs).map sortI = some is from e)
      have rv : Df X.K F x (.tuple xs) := rv
      cases rv with
      | tup h1 h2 hz =>
        obtain ⟨rfl, rfl⟩ := dfs_ints h2 e1
        exact .inl ⟨_, l, rfl, .inr (sqT_mono R.le h1.t), fin l e2 (by simpa using hz)⟩
    | _ => cases e
  | loc n =>
    obtain ⟨ad, rfl, hρ⟩ := rv
    have e : (match m[n]? with
      | some (.dK kvs) => match keysI kvs with
        | some ks => if decide (ks.length < 64) then some (sortI ks) else none
        | none => none
      | some (.lst ys) => ((allD ys).bind intsD).map sortI
      | _ => none) = some is := e
    split at e
    · rename_i kvs hm
      obtain ⟨l, kw, g1, g2⟩ := R.ob n ad _ hρ hm
      split at e
      · rename_i ks hks
        split at e
        · rename_i h64
          have h64 := of_decide_eq_true h64
          exact .inr ⟨ad, kw, ks, rfl, Rd.of g1, keys_of g2 hks, h64, fin ks (Option.some.inj e) (by unfold LIM; omega)⟩
        · cases e
      · cases e
    · rename_i ys hm
      obtain ⟨hz, vs, g1, g2⟩ := R.ob n ad _ hρ hm
      obtain ⟨l, e1, e2⟩ := map_some e
      obtain ⟨ds, e3, e4⟩ := bind_some' e1
      have := allD_eq e3
      subst this
      have hd : Dfs X.K F vs ds := dfs_d g2
      obtain ⟨rfl, rfl⟩ := dfs_ints hd e4
      exact .inl ⟨ad, l, rfl, .inl (SqL.of g1), fin l e2 (by simpa using hz)⟩
    · cases e
  | exc _ _ => cases e
  | ro _ => cases e
theorem plD_eq {x : D} {p : Int × List Int} (h : plD x = some p) : x = plE p := by
  unfold plD at h
  split at h
  · obtain ⟨v, e, rfl⟩ := map_some h
    rename_i i w
    have : ∀ {w : List D} {v : List Int}, intsD w = some v → w = v.map .int := by
      intro w
      induction w with
      | nil => intro v e; cases e; rfl
      | cons a w ih =>
        intro v e
        cases a with
        | int k =>
          unfold intsD at e
          split at e
          · rename_i is e2
            cases e
            rw [ih e2]; rfl
          · cases e
        | _ => cases e
    rw [this e]
    rfl
  · cases h
theorem plsD_eq : ∀ {xs : List D} {ps : List (Int × List Int)}, plsD xs = some ps → xs = ps.map plE
  | [], _, h => by cases h; rfl
  | x :: r, ps, h => by
    unfold plsD at h
    split at h
    · rename_i p qs e1 e2
      cases h
      rw [List.map_cons, ← plD_eq e1, ← plsD_eq e2]
    · cases h
theorem pl_of {K : PySem.W.Frag} {F H : Hp} {v : V} {p : Int × List Int} (hs : Same F H) (h : Df K F v (plE p)) : PL K H v p := by
  unfold plE at h
  cases h with
  | tup e r l =>
    cases r with
    | cons r1 r =>
      cases r with
      | cons r2 r =>
        cases r
        cases r1
        cases r2 with
        | tup e2 r3 l2 =>
          have : ∀ {w : List Int} {us : List V}, Dfs K F us (w.map .int) → us = w.map V.int := by
            intro w
            induction w with
            | nil => intro us h; cases h; rfl
            | cons a w ih =>
              intro us h
              cases h with
              | cons q t => cases q; rw [ih t]; rfl
          rw [this r3] at e2
          exact ⟨_, _, rfl, sqT_mono hs e.t, sqT_mono hs e2.t⟩
theorem dfs_mem {K : PySem.W.Frag} {F : Hp} : ∀ {vs : List V} {ps : List (Int × List Int)}, Dfs K F vs (ps.map plE) → ∀ v ∈ vs, ∃ p ∈ ps, Df K F v (plE p)
  | _, [], h, v, hv => by cases h; cases hv
  | _, p :: ps, h, v, hv => by
    cases h with
    | cons a b =>
      rcases List.mem_cons.mp hv with rfl | hv
      · exact ⟨p, by simp, a⟩
      · obtain ⟨q, h1, h2⟩ := dfs_mem b v hv
        exact ⟨q, by simp [h1], h2⟩
/-- rearranged alike -/
theorem dfs_perm {K : PySem.W.Frag} {F : Hp} {ys xs : List V} (h : ys.Perm xs) : ∀ ps : List (Int × List Int), Dfs K F xs (ps.map plE) → ∃ qs : List (Int × List Int), qs.Perm ps ∧ Dfs K F ys (qs.map plE) := by
  induction h with
  | nil =>
    intro ps d
    exact ⟨ps, List.Perm.refl _, d⟩
  | cons x h ih =>
    intro ps d
    cases ps with
    | nil => cases d
    | cons p ps =>
      cases d with
      | cons a b =>
        obtain ⟨qs, h1, h2⟩ := ih ps b
        exact ⟨p :: qs, h1.cons p, .cons a h2⟩
  | swap x y l =>
    intro ps d
    cases ps with
    | nil => cases d
    | cons p ps =>
      cases d with
      | cons a b =>
        cases ps with
        | nil => cases b
        | cons q ps =>
          cases b with
          | cons c e => exact ⟨q :: p :: ps, List.Perm.swap _ _ _, .cons c (.cons a e)⟩
  | trans h1 h2 ih1 ih2 =>
    intro ps d
    obtain ⟨qs, a, b⟩ := ih2 ps d
    obtain ⟨rs, c, e⟩ := ih1 qs b
    exact ⟨rs, c.trans a, e⟩
theorem dfs_sorted {K : PySem.W.Frag} {F H : Hp} (hs : Same F H) : ∀ {ys : List V} {qs : List (Int × List Int)}, Dfs K F ys (qs.map plE) → ys.Pairwise (fun x y => ∀ m n, PL K H x m → PL K H y n → lexP n m = false) → qs.Pairwise fun a b => lexP b a = false
  | _, [], _, _ => .nil
  | _, q :: qs, d, h => by
    cases d with
    | cons a b =>
      obtain ⟨h1, h2⟩ := List.pairwise_cons.mp h
      refine List.pairwise_cons.mpr ⟨fun r hr => ?_, dfs_sorted hs b h2⟩
      have : ∀ {vs : List V} {ps : List (Int × List Int)}, Dfs K F vs (ps.map plE) → ∀ p ∈ ps, ∃ v ∈ vs, Df K F v (plE p) := by
        intro vs ps
        induction ps generalizing vs with
        | nil => intro _ p hp; cases hp
        | cons p0 ps ih =>
          intro d p hp
          cases d with
          | cons a b =>
            rcases List.mem_cons.mp hp with rfl | hp
            · exact ⟨_, List.mem_cons_self, a⟩
            · obtain ⟨v, w1, w2⟩ := ih b p hp
              exact ⟨v, List.mem_cons_of_mem _ w1, w2⟩
      obtain ⟨y, hy, dy⟩ := this b r hr
      exact h1 y hy q r (pl_of hs a) (pl_of hs dy)
theorem s_srt {x : Str} {p : Pos} (hu : X.A.units + 2 < cLine) (hc : X.calm = true) (hg : Gl X x) (hm : X.mg x = none) (hv : bootBuiltins x = some (.builtin "sorted")) (ha : PE X a (tE X xa ec cf W ea)) (hn : x ≠ "__name__") (hdb : (x == ("__debug__" : Str)) = false)
    (hs : starEach [a] X.env = (false, eval a X.env) :: starEach [] X.env) : PE X (.Call (.Name x p) [a] [] pos) (tE X xa ec cf W (.srt ea)) := by
  refine pe_mono (pe_callB (callR_or (callR_or cr_sortedQ (call_sortedDI hc)) (cr_sortedPL hu)) hg hm hv (pa_cons ha pa_nil hs) hn hdb hs rfl) fun σ H Q ⟨F, ρ, m, env, R, E, P⟩ => ?_
  refine ⟨F, ρ, m, env, R, E, Post.bind (rel' := relV X xa) P fun x m1 F1 ρ1 H1 v e1 E1 R1 rv P1 => ?_⟩
  obtain ⟨y, e3, P2⟩ := P1.of
  unfold srtE at e3
  split at e3
  · rename_i is e4
    cases e3
    exact .inl (srt_ok hc R1 rv e4 (gives_of P2))
  · split at e3
    · rename_i xs _
      obtain ⟨ps, e5, rfl⟩ := map_some e3
      have := plsD_eq e5
      subst this
      have rv : Df X.K F1 v (.list (ps.map plE)) := rv
      cases rv with
      | lst h1 h2 hz =>
        refine .inr ⟨_, _, rfl, SqL.of (R1.le _ _ h1), fun x hx => ?_, fun ys p hp hsr hpn => ?_⟩
        · obtain ⟨q, _, h3⟩ := dfs_mem h2 x hx
          exact ⟨q, pl_of R1.le h3⟩
        · obtain ⟨qs, k1, k2⟩ := dfs_perm hp ps h2
          have k3 := dfs_sorted R1.le k2 hsr
          have k4 := lp_uniq (k1.trans (sortP_perm ps).symm) k3 (sortP_sorted ps)
          subst k4
          exact gives_lst R1 (gives_of P2) k2 (by rw [List.length_map, k1.length_eq]; simpa using hz) p hpn
    · cases e3
theorem kv_none {K : PySem.W.Frag} {F : Hp} {ρ : List Addr} {k : Key} : ∀ {kw : List (Key × V)} {kvs : List (Key × EV)}, KvR K xa F ρ kw kvs → kvGet kvs k = none → valV kw k = none
  | _, _, .nil, e => rfl
  | _, _, .cons (a := p) (b := q) (l₂ := r) h t, e => by
    by_cases hk : q.1 = k
    · have e1 : kvGet (q :: r) k = some q.2 := by simp [kvGet, List.find?_cons, hk]
      rw [e1] at e
      cases e
    · have e1 : kvGet (q :: r) k = kvGet r k := by simp [kvGet, List.find?_cons, hk]
      rw [e1] at e
      rw [valV_neg (fun z => hk (h.1.symm.trans z))]
      exact kv_none t e
theorem s_dget {apos : Pos} (hu : X.A.units + 1 < cLine) (ha : PE X a (tE X xa ec cf W ea)) (hb : PE X b (tE X xa ec cf W eb)) (hc : PE X c (tE X xa ec cf W ec')) (mm : M2 X a "get" apos b c pos) : PE X (.Call (.Attribute a "get" apos) [b, c] [] pos) (tE X xa ec cf W (.dget ea eb ec')) := by
  refine pe_mono (pe_dget2 hu ha hb hc mm) fun σ H Q ⟨F, ρ, m, env, R, E, P⟩ => ?_
  refine ⟨F, ρ, m, env, R, E, Post.bind (rel' := relV X xa) P fun x m1 F1 ρ1 H1 v e1 E1 R1 rv P1 => ?_⟩
  split at P1
  · rename_i hd
    cases x with
    | loc n =>
      obtain ⟨ad, rfl, hρ⟩ := rv
      unfold isDct at hd
      simp only at hd
      split at hd
      · rename_i kvs0 hm0
        obtain ⟨l0, kw0, g10, g20⟩ := R1.ob n ad _ hρ hm0
        refine ⟨ad, rfl, .inl ⟨kw0, Rd.of g10⟩, F1, ρ1, m1, env, R1, E.ext E1, Post.bind (rel' := relV X xa) P1 fun y m2 F2 ρ2 H2 u e2 E2 R2 ru P2 => ?_⟩
        refine ⟨F2, ρ2, m2, env, R2, (E.ext E1).ext E2, Post.bind (rel' := relV X xa) P2 fun z m3 F3 ρ3 H3 t e3 E3 R3 rt P3 => ?_⟩
        split at P3
        · rename_i k
          obtain ⟨w, e5, P4⟩ := P3.of
          have ru : Df X.K F3 u k := Df.mono E3.fle ru
          have hρ3 : ρ3[n]? = some ad := by
            obtain ⟨ζ, q1, _⟩ := E2.pre
            obtain ⟨ζ', q2, _⟩ := E3.pre
            have hl := (List.getElem?_eq_some_iff.mp hρ).1
            rw [q2, q1, List.getElem?_append_left (by rw [List.length_append]; omega), List.getElem?_append_left hl]
            exact hρ
          unfold dgetV at e5
          simp only at e5
          split at e5
          · rename_i kvs hm
            obtain ⟨l, kw, g1, g2⟩ := R3.ob n ad _ hρ3 hm
            obtain ⟨kk, e6, rfl⟩ := map_some e5
            have := keyD_df ru e6
            subst this
            refine ⟨valV kw kk, DGet.k g1, ?_⟩
            cases hq : kvGet kvs kk with
            | none =>
              rw [hq] at P4
              rw [kv_none g2 hq]
              exact P4.now R3 rt
            | some y =>
              rw [hq] at P4
              obtain ⟨w, j1, j2⟩ := kv_get g2 hq
              rw [j1]
              exact P4.now R3 j2
          · cases e5
        · exact False.elim P3
      · cases hd
    | d _ => cases hd
    | exc _ _ => cases hd
    | ro _ => cases hd
  · exact False.elim P1
theorem s_asgs {sub : Nat → Nat → Bool} {ts vs : List Expr} {t : Tgs} {xs : Exs} {k k2 : Nat} {pt pt2 : Pos} (hc : X.calm = true) (hp : PA X vs (tEs X xa ec cf W xs)) (hg : PGs X ts (tGs X xa t)) (hn : (assignEach ts X.env).length = tgsLen t) (hst : (assignEach ts X.env).findIdx? (·.1) = none)
    (hs : swapsWithSole [.Tuple ts k pt] (.Tuple vs k2 pt2) pos.line X.env = pure false) (hw : swappedStores [.Tuple ts k pt] (.Tuple vs k2 pt2) X.env = pure none) (hl : vs.length ≤ 1000) (hn2 : ∀ env m us m1, evEs cf xs env m = .ok us m1 → us.length = vs.length) :
    PS X (.Assign [.Tuple ts k pt] (.Tuple vs k2 pt2) pos) (tS X xa ec cf W sub (.asgs t xs)) := by
  refine ps_mono (ps_asg (pe_tup hp) (pg_tup hc hg hn hst) hs hw rfl) fun D σ H ⟨F, ρ, m, env, R, E, P⟩ => ?_
  refine ⟨F, ρ, m, env, R, E, postS_of (rel := relVs X xa) E P fun v m1 F1 ρ1 H1 us e E1 R1 q P1 => ?_⟩
  obtain ⟨env1, e2, P2⟩ := PostS.opt (X := X) (W := W) (ec := ec) P1
  have l1 := hn2 _ _ _ _ e
  have l2 : us.length = v.length := RepVs.len q
  refine ⟨by rw [← lim_eq, l2, l1]; exact Nat.le_trans hl (by decide), fun p hp => ?_⟩
  obtain ⟨R2, E2⟩ := R1.put (o := .tup us) hp
  have P3 := P2.up E2
  exact ⟨p, us, rfl, .inl (.inl upd_same), by rw [l2]; exact asgTs_len e2, _, ρ1, m1, env, v, env1, R2, (E.ext E1).ext E2, RepVs.ext E2 q, e2, fun σ' E' _ _ => P3.now R2 E'⟩
end
end PV
end

section
set_option Elab.async false
set_option linter.all false
set_option maxRecDepth 100000
/-! PV12c: max and min of two, list and tuple of a range. -/
namespace PV
open PySem PySem.Spec PyProof.Rows L2
theorem Res.bind_bind {α β γ : Type} (r : Res α) (f : α → Mem → Res β) (g : β → Mem → Res γ) : (r.bind f).bind g = r.bind fun a m => (f a m).bind g := by cases r <;> rfl
section
variable {X : Cx} {xa : List (Addr × Str)} {ec : Nat → Addr} {cf : CF} {W : WX} {a b c : Expr} {pos : Pos} {ea eb ec' : Ex}
theorem mx_two (i j : Int) : (if j > i then j else i) = max i j := by
  split <;> omega
theorem mn_two (i j : Int) : (if j < i then j else i) = min i j := by
  split <;> omega
theorem s_mm {x : Str} {id : String} {g : Bool} {p : Pos} (hc : X.calm = true) (hid : (g = true ∧ id = "max") ∨ (g = false ∧ id = "min")) (hg : Gl X x) (hm : X.mg x = none) (hv : bootBuiltins x = some (.builtin id)) (ha : PE X a (tE X xa ec cf W ea)) (hb : PE X b (tE X xa ec cf W eb)) (hn : x ≠ "__name__") (hdb : (x == ("__debug__" : Str)) = false)
    (hs : starEach [a, b] X.env = (false, eval a X.env) :: starEach [b] X.env) (hs2 : starEach [b] X.env = (false, eval b X.env) :: starEach [] X.env) (hp : (backTo pos (starEach [b] X.env)).any (·.1) = false) : PE X (.Call (.Name x p) [a, b] [] pos) (tE X xa ec cf W (.mm g ea eb)) := by
  have key : ∀ σ H Q, tE X xa ec cf W (.mm g ea eb) σ H Q → tE X xa ec cf W ea σ H fun v H1 => tE X xa ec cf W eb σ H1 fun u H2 => ∃ i j, v = .int i ∧ u = .int j ∧ Q (.int (if g then max i j else min i j)) H2 := by
    refine fun σ H Q ⟨F, ρ, m, env, R, E, P⟩ => ?_
    refine ⟨F, ρ, m, env, R, E, Post.bind (rel' := relV X xa) P fun x m1 F1 ρ1 H1 v e1 E1 R1 rv P1 => ?_⟩
    refine ⟨F1, ρ1, m1, env, R1, E.ext E1, Post.bind (rel' := relV X xa) P1 fun y m2 F2 ρ2 H2 u e2 E2 R2 ru P2 => ?_⟩
    split at P2
    · rename_i i j
      have rv : Df X.K F1 v (.int i) := rv
      have ru : Df X.K F2 u (.int j) := ru
      cases rv
      cases ru
      exact ⟨i, j, rfl, rfl, Post.now (rel := relV X xa) (a := EV.d (.int (if g then max i j else min i j))) P2 R2 (show Df X.K F2 _ _ from .int _)⟩
    · exact False.elim P2
  rcases hid with ⟨rfl, rfl⟩ | ⟨rfl, rfl⟩
  · refine pe_mono (pe_callB (call_max2 hc) hg hm hv (pa_cons ha (pa_cons hb pa_nil hs2) hs) hn hdb hs hp) fun σ H Q h => ?_
    obtain ⟨F, ρ, m, env, R, E, P⟩ := key σ H Q h
    refine ⟨F, ρ, m, env, R, E, ?_⟩
    refine Post.weak P fun v H1 q => ?_
    obtain ⟨F1, ρ1, m1, env1, R1, E1, P1⟩ := q
    refine ⟨F1, ρ1, m1, env1, R1, E1, Post.weak P1 fun u H2 q => ?_⟩
    obtain ⟨i, j, rfl, rfl, q⟩ := q
    exact ⟨i, j, rfl, by rw [mx_two]; exact q⟩
  · refine pe_mono (pe_callB (call_min2 hc) hg hm hv (pa_cons ha (pa_cons hb pa_nil hs2) hs) hn hdb hs hp) fun σ H Q h => ?_
    obtain ⟨F, ρ, m, env, R, E, P⟩ := key σ H Q h
    refine ⟨F, ρ, m, env, R, E, ?_⟩
    refine Post.weak P fun v H1 q => ?_
    obtain ⟨F1, ρ1, m1, env1, R1, E1, P1⟩ := q
    refine ⟨F1, ρ1, m1, env1, R1, E1, Post.weak P1 fun u H2 q => ?_⟩
    obtain ⟨i, j, rfl, rfl, q⟩ := q
    exact ⟨i, j, rfl, by rw [mn_two]; exact q⟩
theorem dfs_rg {K : PySem.W.Frag} {F : Hp} (i j : Int) : Dfs K F (rgV i j) (rangeL i j) := by
  have h := dfs_of_ints (K := K) (F := F) ((List.range (j - i).toNat).map fun (k : Nat) => i + (k : Int))
  rw [List.map_map, List.map_map] at h
  exact h
theorem rgL_len (i j : Int) : (rangeL i j).length = (j - i).toNat := by unfold rangeL; rw [List.length_map, List.length_range]
theorem s_rg1 {p p' pos' : Pos} (hc : X.calm = true) (hg : Gl X "list") (hm : X.mg "list" = none) (hg' : Gl X "range") (hm' : X.mg "range" = none) (ha : PE X a (tE X xa ec cf W ea)) (hs : starEach [a] X.env = (false, eval a X.env) :: starEach [] X.env) :
    PE X (.Call (.Name "list" p) [.Call (.Name "range" p') [a] [] pos'] [] pos) (tL X xa ec cf W (.rg (.rng1 ea))) := by
  refine pe_mono (pe_listRg hc hg hm (prg_1 hg' hm' ha hs) rfl) fun σ H Q ⟨F, ρ, m, env, R, E, P⟩ => ?_
  simp only [evL, evI, Res.bind_bind] at P
  refine ⟨F, ρ, m, env, R, E, postL_bind (rel := relV X xa) P fun x m1 F1 ρ1 H1 v e1 E1 R1 rv P1 => ?_⟩
  split at P1
  · rename_i j
    split at P1
    · rename_i hb
      simp only [Bool.and_eq_true, decide_eq_true_eq] at hb
      have rv : Df X.K F1 v (.int j) := rv
      cases rv
      have hl : (LIM : Int) < 2 ^ 62 := by decide
      have hl2 : (LIM : Int) = 2 ^ 24 := by decide
      refine ⟨j, rfl, ⟨by omega, by omega, hb.1, by omega, by omega⟩, ?_⟩
      exact postL_new R1 P1 (dfs_rg 0 j) (by rw [rgL_len]; unfold LIM at *; omega)
    · exact False.elim P1
  · exact False.elim P1
theorem s_rg2 {p p' pos' : Pos} (hc : X.calm = true) (hg : Gl X "list") (hm : X.mg "list" = none) (hg' : Gl X "range") (hm' : X.mg "range" = none) (ha : PE X a (tE X xa ec cf W ea)) (hb : PE X b (tE X xa ec cf W eb)) (hs : starEach [a, b] X.env = (false, eval a X.env) :: starEach [b] X.env) (hs2 : starEach [b] X.env = (false, eval b X.env) :: starEach [] X.env) (hp : (backTo pos' (starEach [b] X.env)).any (·.1) = false) :
    PE X (.Call (.Name "list" p) [.Call (.Name "range" p') [a, b] [] pos'] [] pos) (tL X xa ec cf W (.rg (.rng ea eb))) := by
  refine pe_mono (pe_listRg hc hg hm (prg_2 hg' hm' ha hb hs hs2 hp) rfl) fun σ H Q ⟨F, ρ, m, env, R, E, P⟩ => ?_
  simp only [evL, evI, Res.bind_bind] at P
  refine ⟨F, ρ, m, env, R, E, postL_bind (rel := relV X xa) P fun x m1 F1 ρ1 H1 v e1 E1 R1 rv P1 => ?_⟩
  refine ⟨F1, ρ1, m1, env, R1, E.ext E1, postL_bind (rel := relV X xa) P1 fun y m2 F2 ρ2 H2 u e2 E2 R2 ru P2 => ?_⟩
  have rv2 := rv.ext E2; clear rv; have rv := rv2; clear rv2
  split at P2
  · rename_i i j
    split at P2
    · rename_i hb
      simp only [Bool.and_eq_true, decide_eq_true_eq] at hb
      have rv : Df X.K F2 v (.int i) := rv
      have ru : Df X.K F2 u (.int j) := ru
      cases rv
      cases ru
      have hl2 : (LIM : Int) = 2 ^ 24 := by decide
      refine ⟨i, j, rfl, rfl, ⟨by omega, by omega, by omega, by omega, by omega⟩, ?_⟩
      exact postL_new R2 P2 (dfs_rg i j) (by rw [rgL_len]; unfold LIM at *; omega)
    · exact False.elim P2
  · exact False.elim P2
theorem s_trg1 {p p' pos' : Pos} (hc : X.calm = true) (hg : Gl X "tuple") (hm : X.mg "tuple" = none) (hg' : Gl X "range") (hm' : X.mg "range" = none) (ha : PE X a (tE X xa ec cf W ea)) (hs : starEach [a] X.env = (false, eval a X.env) :: starEach [] X.env) :
    PE X (.Call (.Name "tuple" p) [.Call (.Name "range" p') [a] [] pos'] [] pos) (tE X xa ec cf W (.trg (.rng1 ea))) := by
  refine pe_mono (pe_tupRgB hc hg hm (prg_1 hg' hm' ha hs) rfl) fun σ H Q ⟨F, ρ, m, env, R, E, P⟩ => ?_
  simp only [evE, evI, Res.bind_bind] at P
  refine ⟨F, ρ, m, env, R, E, Post.bind (rel' := relV X xa) P fun x m1 F1 ρ1 H1 v e1 E1 R1 rv P1 => ?_⟩
  split at P1
  · rename_i j
    split at P1
    · rename_i hb
      simp only [Bool.and_eq_true, decide_eq_true_eq] at hb
      have rv : Df X.K F1 v (.int j) := rv
      cases rv
      have hl : (LIM : Int) < 2 ^ 62 := by decide
      have hl2 : (LIM : Int) = 2 ^ 24 := by decide
      refine ⟨j, rfl, ⟨by omega, by omega, hb.1, by omega, by omega⟩, ?_⟩
      exact gives_tup R1 (gives_of P1) (dfs_rg 0 j) (by rw [rgL_len]; unfold LIM at *; omega)
    · exact False.elim P1
  · exact False.elim P1
theorem s_trg2 {p p' pos' : Pos} (hc : X.calm = true) (hg : Gl X "tuple") (hm : X.mg "tuple" = none) (hg' : Gl X "range") (hm' : X.mg "range" = none) (ha : PE X a (tE X xa ec cf W ea)) (hb : PE X b (tE X xa ec cf W eb)) (hs : starEach [a, b] X.env = (false, eval a X.env) :: starEach [b] X.env) (hs2 : starEach [b] X.env = (false, eval b X.env) :: starEach [] X.env) (hp : (backTo pos' (starEach [b] X.env)).any (·.1) = false) :
    PE X (.Call (.Name "tuple" p) [.Call (.Name "range" p') [a, b] [] pos'] [] pos) (tE X xa ec cf W (.trg (.rng ea eb))) := by
  refine pe_mono (pe_tupRgB hc hg hm (prg_2 hg' hm' ha hb hs hs2 hp) rfl) fun σ H Q ⟨F, ρ, m, env, R, E, P⟩ => ?_
  simp only [evE, evI, Res.bind_bind] at P
  refine ⟨F, ρ, m, env, R, E, Post.bind (rel' := relV X xa) P fun x m1 F1 ρ1 H1 v e1 E1 R1 rv P1 => ?_⟩
  refine ⟨F1, ρ1, m1, env, R1, E.ext E1, Post.bind (rel' := relV X xa) P1 fun y m2 F2 ρ2 H2 u e2 E2 R2 ru P2 => ?_⟩
  have rv2 := rv.ext E2; clear rv; have rv := rv2; clear rv2
  split at P2
  · rename_i i j
    split at P2
    · rename_i hb
      simp only [Bool.and_eq_true, decide_eq_true_eq] at hb
      have rv : Df X.K F2 v (.int i) := rv
      have ru : Df X.K F2 u (.int j) := ru
      cases rv
      cases ru
      have hl2 : (LIM : Int) = 2 ^ 24 := by decide
      refine ⟨i, j, rfl, rfl, ⟨by omega, by omega, by omega, by omega, by omega⟩, ?_⟩
      exact gives_tup R2 (gives_of P2) (dfs_rg i j) (by rw [rgL_len]; unfold LIM at *; omega)
    · exact False.elim P2
  · exact False.elim P2
end
end PV
end

section
set_option Elab.async false
set_option linter.all false
set_option maxRecDepth 100000
/-! PV12d: dict(pairs), d.update(dict). -/
namespace PV
open PySem PySem.Spec PyProof.Rows L2
/-! ### dict of a list or tuple of pairs -/
/-- a list, or a bare tuple -/
def SqP (K : PySem.W.Frag) (H : Hp) (a : Addr) (xs : List V) : Prop := SqL K H a xs ∨ SqB K H a xs
theorem plain_of {X : Cx} {pins : List (Addr × Obj)} {σ : L2.St} {H : Hp} {s : Shared} {a : Addr} {xs : List V} (I : Inv X pins σ H s) (h : SqP X.K H a xs) :
    ∃ T its, Vals xs its ∧ PlainSeq T s.heap a its.toArray ∧ its.length ≤ sizeLine ∧ (T = "list" ∨ T = "tuple") := by
  rcases h with h | h
  · obtain ⟨its, rv, ⟨o, n, ho, hc, hd, hdat⟩, hz⟩ := I.list h
    exact ⟨"list", its, rv, ⟨o, n, ho, hc, hd, hdat⟩, by rw [← rv.length]; exact hz, .inl rfl⟩
  · rcases h with ⟨o, h, hd⟩ | ⟨o, its, n, h1, h2, h3, h4, h5, h6⟩
    · obtain ⟨e, z, its, rv, o', e', hc, n, hdat⟩ := (show ObjOk X.prog X.w H s.heap a (.frz o (.tup xs)) from I.hok a _ h)
      rw [e] at e'
      cases e'
      exact ⟨"tuple", its, rv, ⟨o, n, e, hc, hd, hdat⟩, by rw [← rv.length]; exact z, .inr rfl⟩
    · refine ⟨"tuple", its.toList, h6, ⟨o, n, I.kIn _ _ h1, h2, h3, by rw [h4, Array.toArray_toList]⟩, by simpa using h5, .inr rfl⟩
theorem pairItems_of {h : Heap} {items : Array Value} {prs : List (Key × Value)} (hsz : items.size = prs.length)
    (hp : ∀ (j : Nat) (q : Key × Value), prs[j]? = some q → ∃ (b : Addr) (u : Value), items[j]? = some (.ref b) ∧ IsTup h b #[u, q.2] ∧ keyIs q.1 u = true) :
    ∃ (Ts : Nat → Addr) (ps : List (Value × Value)), PairItems h items Ts ps ∧ ps.length = prs.length ∧ ∀ (i : Nat) (key v : Value), ps[i]? = some (key, v) → ∃ k, prs[i]? = some (k, v) ∧ keyIs k key = true := by
  have hT : ∀ j : Nat, ∃ b u, ∀ q, prs[j]? = some q → items[j]? = some (.ref b) ∧ IsTup h b #[u, q.2] ∧ keyIs q.1 u = true := fun j => by
    cases e : prs[j]? with
    | none => exact ⟨0, .none, fun q z => nomatch z⟩
    | some q =>
      obtain ⟨b, u, h1, h2, h3⟩ := hp j q e
      exact ⟨b, u, fun q' z => by cases z; exact ⟨h1, h2, h3⟩⟩
  refine ⟨fun j => (hT j).choose, (List.range prs.length).map fun j => ((hT j).choose_spec.choose, ((prs[j]?).map (·.2)).getD .none), ⟨by simp [hsz], fun j k v e => ?_⟩, by simp, fun i key v e => ?_⟩
  · rw [List.getElem?_map] at e
    obtain ⟨j', e1, e2⟩ := map_some e
    have hj : j < prs.length := by
      have := (List.getElem?_eq_some_iff.mp e1).1
      simpa using this
    rw [List.getElem?_range hj] at e1
    cases e1
    have e3 : prs[j]? = some prs[j] := List.getElem?_eq_getElem hj
    have ek : (hT j).choose_spec.choose = k := congrArg Prod.fst e2
    have ev : ((prs[j]?).map (·.2)).getD .none = v := congrArg Prod.snd e2
    rw [e3] at ev
    subst ek
    have ev : prs[j].2 = v := ev
    subst ev
    obtain ⟨h1, h2, _⟩ := (hT j).choose_spec.choose_spec _ e3
    exact ⟨h1, .inl h2⟩
  · rw [List.getElem?_map] at e
    obtain ⟨j', e1, e2⟩ := map_some e
    have hj : i < prs.length := by
      have := (List.getElem?_eq_some_iff.mp e1).1
      simpa using this
    rw [List.getElem?_range hj] at e1
    cases e1
    have e3 : prs[i]? = some prs[i] := List.getElem?_eq_getElem hj
    have ek : (hT i).choose_spec.choose = key := congrArg Prod.fst e2
    have ev : ((prs[i]?).map (·.2)).getD .none = v := congrArg Prod.snd e2
    rw [e3] at ev
    subst ek
    have ev : prs[i].2 = v := ev
    subst ev
    obtain ⟨_, _, h3⟩ := (hT i).choose_spec.choose_spec _ e3
    exact ⟨prs[i].1, e3, h3⟩
theorem call_dictB {X : Cx} (hcalm : X.calm = true) : CallR X (.type "dict") (fun xs H Q => ∃ (a : Addr) (ps : List Addr) (kvs : List (Key × V)), xs = [.ref a] ∧ SqP X.K H a (ps.map V.ref) ∧ Paired (fun p kv => SqT X.K H p [kV kv.1, kv.2]) ps kvs ∧
    ∀ p, H p = none → Q (.ref p) (upd H p (.dK (mergeK [] kvs)))) := by
  intro pins s σ H xs us Q I r q
  obtain ⟨a, ps, kvs, ex, hq, hp, q⟩ := q
  subst ex
  obtain ⟨u, eu, rx⟩ := vals1 r
  subst eu
  cases rx
  obtain ⟨T, its, rv, pl, hz, hT⟩ := plain_of I hq
  have ei := refs_at rv
  subst ei
  rw [List.length_map] at hz
  obtain ⟨prs, rel, hl, hpr⟩ := L2.pairs_of I hp
  obtain ⟨Ts, pp, pi, hpl, hk⟩ := pairItems_of (h := s.heap) (items := (ps.map Value.ref).toArray) (prs := prs) (by simp [hl]) fun j q' e => by
    obtain ⟨b, u, e1, e2, e3⟩ := hpr j q' e
    exact ⟨b, u, by simp [e1], e2, e3⟩
  have hm : (s.heap.objs.size == sysModules) = false := beq_eq_false_iff_ne.mpr (Nat.ne_of_gt I.big)
  have hlen : (mergeK [] kvs).length ≤ sizeLine := by
    refine Nat.le_trans (length_mergeK kvs []) ?_
    rw [List.length_nil, Nat.zero_add, rel.length, hl]
    exact hz
  have fin : ∀ h' tk, h'.DictOf (mixKind X.prog X.w) s.heap.objs.size (merged [] prs) → (∀ b o, b ∉ ([] : List Addr) → s.heap.get? b = some o → h'.get? b = some o) → EP X pins σ Q (.ref s.heap.objs.size) { s with heap := h', toks := tk } := fun h' tk hd' k =>
    ⟨.ref s.heap.objs.size, upd H s.heap.objs.size (.dK (mergeK [] kvs)), I.laid (t' := tk) (fun b o e => k b o (by simp) e) (Nat.le_refl _) (show ObjOk X.prog X.w _ _ _ (.dK (mergeK [] kvs)) from ⟨hlen, hm, merged [] prs, KV.merge rel .nil, hd'⟩), rfl, q _ (I.hok.fresh (Nat.le_refl _))⟩
  have hv : PairsHave (mixKind X.prog X.w) pp.length (PairRel pp) prs := ⟨hpl.symm, fun i key v e => hk i key v e⟩
  rcases hT with rfl | rfl
  · exact PySem.call_dict_pairs (PairArg.list a _ Ts pp) (I.ok.hd hcalm) ⟨pl, pi⟩ hv (by rw [hpl, hl]; exact hz) fin
  · exact PySem.call_dict_pairs (PairArg.tuple a _ Ts pp) (I.ok.hd hcalm) ⟨pl, pi⟩ hv (by rw [hpl, hl]; exact hz) fin
section
variable {K : PySem.W.Frag} {xa : List (Addr × Str)} {F H : Hp} {ρ : List Addr} {m : Mem}
theorem KvR.merge : ∀ {more : List (Key × V)} {more' : List (Key × EV)} {kw : List (Key × V)} {kvs : List (Key × EV)}, KvR K xa F ρ more more' → KvR K xa F ρ kw kvs → KvR K xa F ρ (mergeK kw more) (mergeE kvs more')
  | _, _, _, _, .nil, q => q
  | _, _, kw, kvs, .cons (a := p) (b := r) h t, q => by
    have e : p.1 = r.1 := h.1
    show KvR K xa F ρ (mergeK (putK kw p.1 p.2) _) (mergeE (kvPut kvs r.1 r.2) _)
    rw [← e]
    exact KvR.merge t (KvR.put q h.2)
theorem mergeE_ok {n : Nat} : ∀ {more kvs : List (Key × EV)}, (∀ p ∈ kvs, inB n p.2 = true) → (∀ p ∈ more, inB n p.2 = true) → ∀ p ∈ mergeE kvs more, inB n p.2 = true
  | [], _, h, _ => h
  | q :: more, kvs, h, g => mergeE_ok (more := more) (kvs := kvPut kvs q.1 q.2) (kvPut_ok h (g q List.mem_cons_self)) fun p hp => g p (List.mem_cons_of_mem _ hp)
theorem mergeE_len : ∀ (more kvs : List (Key × EV)), (mergeE kvs more).length ≤ kvs.length + more.length
  | [], kvs => by show kvs.length ≤ _; simp
  | q :: more, kvs => by
    have h1 := mergeE_len more (kvPut kvs q.1 q.2)
    have h2 := kvPut_len kvs q.1 q.2
    show (mergeE (kvPut kvs q.1 q.2) more).length ≤ _
    simp only [List.length_cons]
    omega
theorem pairsD_ok (R : Rep K xa F ρ m H) : ∀ {xs : List D} {vs : List V} {kvs : List (Key × EV)}, Dfs K F vs xs → pairsD xs = some kvs → ∃ (ps : List Addr) (kw : List (Key × V)), vs = ps.map V.ref ∧ Paired (fun p kv => SqT K H p [kV kv.1, kv.2]) ps kw ∧ KvR K xa F ρ kw kvs ∧ kvs.length = xs.length ∧ ∀ p ∈ kvs, ∃ d, p.2 = .d d
  | [], _, _, h, e => by
    have e : some [] = some _ := e
    cases e
    cases h
    exact ⟨[], [], rfl, .nil, .nil, rfl, fun _ h => nomatch h⟩
  | x :: xs, vs, kvs, h, e => by
    unfold pairsD at e
    split at e
    · rename_i heq; cases heq
    · rename_i k v r heq
      cases heq
      split at e
      · rename_i kk rs e1 e2
        cases e
        cases h with
        | cons a b =>
          cases a with
          | tup q1 q2 l =>
            cases q2 with
            | cons c1 t =>
              cases t with
              | cons c2 t =>
                cases t
                obtain ⟨ps, kw, h1, h2, h3, h4, h5⟩ := pairsD_ok R b e2
                have := PV.key_of c1 e1
                subst this
                refine ⟨_ :: ps, (kk, _) :: kw, by rw [h1]; rfl, .cons (sqT_mono R.le q1.t) h2, .cons ⟨rfl, c2⟩ h3, by simp [h4], fun p hp => ?_⟩
                rcases List.mem_cons.mp hp with rfl | hp
                · exact ⟨v, rfl⟩
                · exact h5 p hp
      · cases e
    · cases e
end
section
variable {X : Cx} {xa : List (Addr × Str)} {ec : Nat → Addr} {cf : CF} {W : WX} {a b c : Expr} {pos : Pos} {ea eb ec' : Ex} {sub : Nat → Nat → Bool}
/-- a new dict of its own -/
theorem post_newD {F H : Hp} {ρ : List Addr} {m : Mem} {Q : VK} {kvs : List (Key × EV)} {kw : List (Key × V)} {WE : XK} (R : Rep X.K xa F ρ m H) (P : Post X.K xa ec (relV X xa) WE F ρ H (.ok (.loc m.length) (m ++ [.dK kvs])) Q)
    (k : KvR X.K xa F ρ kw kvs) (l : kvs.length ≤ LIM) (ok : ∀ p ∈ kvs, inB m.length p.2 = true) : ∀ p, H p = none → Q (.ref p) (upd H p (.dK kw)) := fun p hp => by
  have fp : F p = none := by
    cases e : F p with
    | none => rfl
    | some u => rw [R.le p u e] at hp; cases hp
  have rp : p ∉ ρ := fun z => R.there z hp
  have g := R.grow (F' := F) (H' := upd H p (.dK kw)) (Same.refl F) (fun b u h => by rw [upd_ne (ne_of_none (R.le b u h) hp)]; exact R.le b u h) (fun b u h => by rw [upd_ne (ne_of_none h hp)]; exact h) fun b u h n => (by rw [h] at n; cases n)
  have R3 := g.1.own rp fp (o := .dK kvs) ⟨l, kw, upd_same, pair_imp k fun _ _ q => ⟨q.1, q.2.mono (Same.refl _) ⟨_, rfl⟩⟩⟩ ok
  refine P F (ρ ++ [p]) _ (.ref p) ⟨g.2.fle, ⟨[p], rfl, fun b hb => by rw [List.mem_singleton.mp hb]; exact hp⟩, fun b u h n nt => g.2.frm b u h n nt, g.2.new, g.2.kep, g.2.frz⟩ R3 ⟨p, rfl, ?_⟩
  rw [← R.len, List.getElem?_append_right (Nat.le_refl _)]
  simp
theorem s_dctB {p : Pos} {x : Str} (hc : X.calm = true) (hg : Gl X x) (hm : X.mg x = none) (hv : bootBuiltins x = some (.type "dict")) (ha : PE X a (tE X xa ec cf W ea)) (hn : x ≠ "__name__") (hdb : (x == ("__debug__" : Str)) = false) (hs : starEach [a] X.env = (false, eval a X.env) :: starEach [] X.env) : PE X (.Call (.Name x p) [a] [] pos) (tE X xa ec cf W (.dct ea)) := by
  refine pe_mono (pe_callTy (call_dictB hc) hg hm hv (pa_cons ha pa_nil hs) hn hdb hs rfl) fun σ H Q ⟨F, ρ, m, env, R, E, P⟩ => ?_
  refine ⟨F, ρ, m, env, R, E, Post.bind (rel' := relV X xa) P fun x m1 F1 ρ1 H1 v e1 E1 R1 rv P1 => ?_⟩
  split at P1
  · rename_i p e2
    split at P1
    · rename_i kvs e3
      have w := view_vr R1 rv e2
      obtain ⟨ks, e4, rfl⟩ := map_some e3
      obtain ⟨xs, e5, e6⟩ := bind_some' e4
      have key : ∃ ad vs, v = .ref ad ∧ SqP X.K H1 ad vs ∧ Dfs X.K F1 vs xs ∧ xs.length ≤ LIM := by
        cases p with
        | list ys =>
          cases e5
          obtain ⟨l, ad, vs, rfl, h1, h2⟩ := w
          exact ⟨ad, vs, rfl, .inl (SqL.of h1), h2, l⟩
        | tuple ys =>
          cases e5
          have w : Df X.K F1 v (.tuple xs) := w
          cases w with
          | tup h1 h2 l => exact ⟨_, _, rfl, .inr (sqB_mono R1.le h1), h2, l⟩
        | none => cases e5
        | bool _ => cases e5
        | int _ => cases e5
        | str _ => cases e5
        | dict _ => cases e5
      obtain ⟨ad, vs, rfl, h1, h2, l⟩ := key
      obtain ⟨ps, kw, rfl, q2, q3, q4, q5⟩ := pairsD_ok R1 h2 e6
      refine ⟨ad, ps, kw, rfl, h1, q2, post_newD R1 P1 (KvR.merge q3 .nil) ?_ (mergeE_ok (fun _ h => nomatch h) fun p hp => ?_)⟩
      · refine Nat.le_trans (mergeE_len _ _) ?_
        rw [List.length_nil, Nat.zero_add, q4]
        exact l
      · obtain ⟨d, e⟩ := q5 p hp
        rw [e]; rfl
    · exact False.elim P1
  · exact False.elim P1
theorem dkeys_ok {K : PySem.W.Frag} {F H : Hp} {ρ : List Addr} {m : Mem} (R : Rep K xa F ρ m H) {v : V} {y : EV} {xs : List D} (rv : RepV K xa F ρ v y) (e : dkeys m y = some xs) :
    ∃ p kw, v = .ref p ∧ H p = some (.dK kw) ∧ Dfs K F (kw.map fun kv => kV kv.1) xs ∧ xs.length ≤ LIM := by
  cases y with
  | loc n =>
    obtain ⟨ad, rfl, hρ⟩ := rv
    unfold dkeys at e
    simp only at e
    split at e
    · rename_i kvs em
      obtain ⟨ks, e1, rfl⟩ := map_some e
      obtain ⟨l, kw, g1, g2⟩ := R.ob n ad _ hρ em
      have key : ∀ {kw : List (Key × V)} {kvs : List (Key × EV)} {ks : List Int}, KvR K xa F ρ kw kvs → keysI kvs = some ks → (kw.map fun kv => kV kv.1) = ks.map V.int ∧ ks.length = kvs.length := by
        intro kw kvs ks h
        induction h generalizing ks with
        | nil => intro e; have e : some [] = some ks := e; cases e; exact ⟨rfl, rfl⟩
        | @cons p q ps qs h t ih =>
          intro e
          obtain ⟨k, w⟩ := q
          cases k with
          | inl i =>
            have e : (keysI qs).map (i :: ·) = some ks := e
            obtain ⟨is, e1, rfl⟩ := map_some e
            obtain ⟨h1, h2⟩ := ih e1
            have e2 : p.1 = Sum.inl i := h.1
            exact ⟨by rw [List.map_cons, h1, e2]; rfl, by simp [h2]⟩
          | inr x => cases e
      obtain ⟨h1, h2⟩ := key g2 e1
      exact ⟨ad, kw, rfl, g1, by rw [h1]; exact dfs_of_ints ks, by rw [List.length_map, h2]; exact l⟩
    · cases e
  | d _ => cases e
  | exc _ _ => cases e
  | ro _ => cases e
theorem s_lst {p : Pos} (hc : X.calm = true) (hg : Gl X "list") (hm : X.mg "list" = none) (hv : bootBuiltins ("list" : Str) = some (.type "list")) (ha : PE X a (tE X xa ec cf W ea)) (hs : starEach [a] X.env = (false, eval a X.env) :: starEach [] X.env) : PE X (.Call (.Name "list" p) [a] [] pos) (tL X xa ec cf W (.lst ea)) := by
  refine pe_mono (pe_callTy (callR_or call_list_of (call_list_dK hc)) hg hm hv (pa_cons ha pa_nil hs) (by decide) (by decide) hs rfl) fun σ H Q ⟨F, ρ, m, env, R, E, P⟩ => ?_
  refine ⟨F, ρ, m, env, R, E, postL_bind (rel := relV X xa) P fun x m1 F1 ρ1 H1 v e1 E1 R1 rv P1 => ?_⟩
  split at P1
  · rename_i p e2
    cases e3 : seqD p with
    | none => rw [e3] at P1; exact False.elim P1
    | some xs =>
      rw [e3] at P1
      obtain ⟨b, vs, rfl, h1, l, h2⟩ := vs_seq R1 (viewR_vs R1 rv e2) e3
      exact .inl ⟨b, vs, rfl, seq2_of R1 h2, postL_new R1 P1 h1 l⟩
  · cases e3 : dkeys m1 x with
    | none => rw [e3] at P1; exact False.elim P1
    | some xs =>
      rw [e3] at P1
      obtain ⟨p, kw, rfl, h1, h2, l⟩ := dkeys_ok R1 rv e3
      exact .inr ⟨p, kw, rfl, h1, postL_new R1 P1 h2 l⟩
/-! ### d.update -/
def rUpd : V → List V → Hp → VK → Prop := fun x vs H Q => ∃ a b kw more, x = .ref a ∧ vs = [.ref b] ∧ a ≠ b ∧ H a = some (.dK kw) ∧ H b = some (.dK more) ∧ kw.length + more.length ≤ sizeLine ∧ Q .non (upd H a (.dK (mergeK kw more)))
theorem mt_upd : MtR X "dict.update" rUpd := by
  intro pins s σ H x xs v us Q I rx rv h
  obtain ⟨a, b, kw, more, rfl, rfl, hne, hA, hB, hz, q⟩ := h
  cases rx
  obtain ⟨u, rfl, ru⟩ := vals1 rv
  cases ru
  obtain ⟨z, hd, vs, rel, dd⟩ := dk_of I.hok hA
  obtain ⟨z2, hd2, vs2, rel2, dd2⟩ := dk_of I.hok hB
  refine call_meetsIn F.slot_dict_update dd.typeIs F.entry_dict_update (F.args_dict_update_2 _ _) (PySem.meets_dict_update (mixKind X.prog X.w) a b hne hd2) ⟨vs, vs2, dd, dd2, by rw [← rel.length, ← rel2.length]; exact hz, fun h' dd' _ hs => ?_⟩
  refine ⟨.non, _, d_write (t' := s.toks) I (by rw [hA]; trivial) hs ⟨_, dd'.choose_spec.choose_spec.choose_spec.1⟩ (dk_new (Nat.le_trans (length_mergeK more kw) hz) hd (KV.merge rel2 rel) dd'), rfl, q⟩
theorem s_upd {j : Nat} {x : Str} {np apos cpos : Pos} (hx : PE X (.Name x np) (tE X xa ec cf W (.v j))) (ha : PE X a (tE X xa ec cf W ea)) (hs : starEach [a] X.env = (false, eval a X.env) :: starEach [] X.env) (hline : (apos.endLine == cpos.line) = true)
    (hbase : attributeBase (.Name x np) "update" X.env (eval (.Name x np) X.env) = eval (.Name x np) X.env) : PS X (.Expr (.Call (.Attribute (.Name x np) "update" apos) [a] [] cpos) pos) (tS X xa ec cf W sub (.upd j ea)) := by
  refine ps_mono (ps_expr (pe_bm F.plainAttrs_dict F.slot_dict_update F.type_dict_update mt_upd hx (tE_one ha hs) hbase (by rw [hs]; rfl) hline hs rfl) rfl) fun D σ H ⟨F, ρ, m, env, R, E, P⟩ => ?_
  obtain ⟨ov, eo, P1⟩ := PostS.opt (X := X) (W := W) (ec := ec) P
  refine ⟨F, ρ, m, env, R, E, ?_⟩
  show Post X.K xa ec (relV X xa) _ F ρ H (Res.of (getV env j) m) _
  rw [eo]
  intro F1 ρ1 H1 u E1 R1 ru
  have ru : RepV X.K xa F1 ρ1 u ov := ru
  have hL : isDct m ov = true := by
    cases h : isDct m ov with
    | true => rfl
    | false => rw [h] at P1; exact False.elim P1
  rw [hL] at P1
  have P2 := PostS.up (r := S.of env (evE cf ea env m) fun x m1 => S.opt (updIx m1 ov x) fun m2 => .nx env m2) P1 E1
  cases ov with
  | loc n =>
    obtain ⟨l, rfl, hl⟩ := ru
    have Eσ := E.ext E1
    have step : tE X xa ec cf W ea σ H1 (fun v H2 => rUpd (.ref l) [v] H2 fun _ H3 => D.nx σ H3) := by
      refine ⟨F1, ρ1, m, env, R1, Eσ, postS_of (rel := relV X xa) Eσ P2 fun v m1 F2 ρ2 H2 y e1 E2 R2 rv P3 => ?_⟩
      obtain ⟨m2, e2, P4⟩ := PostS.opt (X := X) (W := W) (ec := ec) P3
      cases v with
      | loc k =>
        obtain ⟨lb, rfl, hlb⟩ := rv
        unfold updIx at e2
        dsimp only at e2
        split at e2
        · rename_i kvs more em em2
          split at e2
          · rename_i hb
            simp only [Bool.and_eq_true, decide_eq_true_eq, List.all_eq_true] at hb
            cases e2
            have hl2 : ρ2[n]? = some l := by
              obtain ⟨ζ, e3, _⟩ := E2.pre
              rw [e3, List.getElem?_append_left (List.getElem?_eq_some_iff.mp hl).1]
              exact hl
            obtain ⟨l0, kw, h1, h2⟩ := R2.ob n l _ hl2 em
            obtain ⟨l1, kw2, h3, h4⟩ := R2.ob k lb _ hlb em2
            obtain ⟨R3, E3⟩ := R2.write (o := .dK (mergeE kvs more)) (ho := .dK (mergeK kw kw2)) hl2 ⟨Nat.le_trans (mergeE_len _ _) hb.1.2, _, upd_same, KvR.merge h4 h2⟩ (mergeE_ok (R2.wf n _ em) fun p hp => hb.2 p hp) (fun _ _ z => by rw [h1] at z; cases z)
            refine ⟨l, lb, kw, kw2, rfl, rfl, fun z => ?_, h1, h3, by rw [KvR.len h2, KvR.len h4, ← lim_eq]; exact hb.1.2, P4 F2 ρ2 _ σ E3 R3 (Eσ.ext E2)⟩
            subst z
            obtain ⟨q1, q2⟩ := List.getElem?_eq_some_iff.mp hl2
            obtain ⟨q3, q4⟩ := List.getElem?_eq_some_iff.mp hlb
            exact hb.1.1 ((List.getElem_inj R2.nd).mp (q2.trans q4.symm))
          · cases e2
        · cases e2
      | d _ => cases e2
      | exc _ _ => cases e2
      | ro _ => cases e2
    refine ⟨.inr (.inr (.inl ⟨rfl, .inl ?_⟩)), step⟩
    unfold isDct at hL
    dsimp only at hL
    split at hL
    · rename_i xs em
      obtain ⟨l0, kw, h1, h2⟩ := R1.ob n l _ hl em
      exact ⟨kw, h1⟩
    · cases hL
  | d _ => cases hL
  | exc _ _ => cases hL
  | ro _ => cases hL
end
end PV
end

section
set_option Elab.async false
set_option linter.all false
set_option maxRecDepth 100000
/-! PV12e: list(enumerate(list)). -/
namespace PV
open PySem PySem.Spec PyProof.Rows L2
theorem en_len : typeLookup (.type "enumerate") "__len__" = pure none := by rw [typeLookup_type, builtinLookup_eq_fast]; kernel_rfl
theorem en_hint : typeLookup (.type "enumerate") "__length_hint__" = pure none := by rw [typeLookup_type, builtinLookup_eq_fast]; kernel_rfl
/-- the wish behind the items that are still to come -/
def enQ (Q : VK) (S : Addr) : Nat → List V → List V → Hp → Prop
  | _, [], _, H => Q (.ref S) H
  | i, x :: r, vs, H => ∀ T (ob : Obj), H T = none → ob.dict = none → enQ Q S (i + 1) r (vs ++ [.ref T]) (upd (upd H T (.frz ob (.tup [.int (i : Nat), x]))) S (.lst (vs ++ [.ref T])))
def enSt (h : Heap) (e it S : Addr) (i : Nat) : Prop :=
  (i = 0 ∧ IsEnum h e it ((i : Nat) : Int) .none) ∨ ∃ old T f, IsEnumHeld h e it ((i : Nat) : Int) old T f ∧ (∃ o, h.get? T = some o) ∧ T ≠ e ∧ T ≠ it ∧ T ≠ S
theorem enum_collect {X : Cx} {pins : List (Addr × Obj)} {σ : L2.St} (hc : X.calm = true) {S e it ad : Addr} {its : List Value} {xs : List V} (rv : Vals xs its) {res : Value} {R : Result → Shared → Prop} {Q : VK} (hz : its.length ≤ sizeLine)
    (hei : e ≠ it) (hSe : S ≠ e) (hSi : S ≠ it) (hSa : S ≠ ad) (hae : ad ≠ e) (hai : ad ≠ it) :
    ∀ (k i : Nat) (H : Hp) (s : Shared) (vs : List V), its.length - i = k → i ≤ its.length → Inv X pins σ H s → H S = some (.lst vs) → vs.length = i → enSt s.heap e it S i → s.heap.IsListIter it ad i → s.heap.IsList ad its.toArray →
      (∀ b ∈ [e, it], FpOk X pins H b) → enQ Q S i (xs.drop i) vs H → (∀ H' s', Inv X pins σ H' s' → Q (.ref S) H' → R (.ok (.ret res)) s') →
      codeAny (model X.prog X.w) X.A.in1 (.builtin "list.extend.loop" ⟨[.ref S, .ref e, res], []⟩) R s := by
  have hh : X.A.handled = none → X.A.in1.in1.handled = none := fun h => h
  intro k
  induction k with
  | zero =>
    intro i H s vs hk hi I hS hvs st hit hl hf q fin
    have hin : i = its.length := by omega
    subst hin
    refine codeAny_builtin PySem.F.entry_extend_loop ?_
    rw [Around.under_plainId PySem.F.plain_extend_loop _]
    show wpAny _ X.A.in1.in1 (pyNext (.ref e) >>= _) _ _ s
    have hx : its.toArray[its.length]? = none := Array.getElem?_eq_none (by simp)
    have hq : xs.drop its.length = [] := List.drop_eq_nil_of_le (by rw [rv.length]; exact Nat.le_refl _)
    rw [hq] at q
    obtain ⟨f0, f1, f2, f3, f4, f5⟩ := hf it (by simp)
    have go : ∀ h', Heap.ExtBut it s.heap h' → R (.ok (.ret res)) { s with heap := h' } := fun h' eb => fin H _ (I.turned (t' := s.toks) (fun b o hb q => eb b o hb q) f0 f1 f3 f4 f5) q
    rcases st with ⟨h0, he⟩ | ⟨old, T, f, he, _⟩
    · exact wpAny_bind (wpAny_pyNext_enum_end (A := X.A.in1.in1) (hh (I.ok.hd hc)) he hit hl hx fun h' eb => wpAny_pure (go h' eb))
    · exact wpAny_bind (PySem.wpAny_pyNext_enum_end_held (A := X.A.in1.in1) (hh (I.ok.hd hc)) he hit hl hx fun h' eb => wpAny_pure (go h' eb))
  | succ k ih =>
    intro i H s vs hk hi I hS hvs st hit hl hf q fin
    have hlt : i < its.length := by omega
    refine codeAny_builtin PySem.F.entry_extend_loop ?_
    rw [Around.under_plainId PySem.F.plain_extend_loop _]
    show wpAny _ X.A.in1.in1 (pyNext (.ref e) >>= _) _ _ s
    have hx : its.toArray[i]? = some its[i] := by simp [List.getElem?_eq_getElem hlt]
    have hxl : i < xs.length := by rw [rv.length]; exact hlt
    obtain ⟨u, hu, ru⟩ := rv.get (List.getElem?_eq_getElem hxl)
    have hu2 : its[i] = u := by rw [List.getElem?_eq_getElem hlt] at hu; exact Option.some.inj hu
    have hdrop : xs.drop i = xs[i] :: xs.drop (i + 1) := List.drop_eq_getElem_cons hxl
    rw [hdrop] at q
    -- what one turn leaves
    have turn : ∀ (h' : Heap) (tk : Nat) (old : Value) (T : Addr) (f : Bool), IsEnumHeld h' e it (((i : Nat) : Int) + 1) old T f → (∃ o, h'.get? T = some o) → T ≠ e → T ≠ it → T ≠ S → h'.IsListIter it ad (i + 1) →
        h'.get? s.heap.objs.size = some { cls := .type "tuple", data := .seq #[.int i s.toks, its[i]] } → (∀ b o, b ≠ e → b ≠ it → s.heap.get? b = some o → h'.get? b = some o) →
        wpAny (model X.prog X.w) X.A.in1.in1 (updateSeq S (·.push (.ref s.heap.objs.size)) >>= fun _ => again (.builtin "list.extend.loop" ⟨[.ref S, .ref e, res], []⟩))
          (fun fin s' => match fin with | .done f => R (.ok f) s' | .again c' => c'.quiet = true ∧ codeAny (model X.prog X.w) X.A.in1 c' R s') (fun e s' => R (.error e) s') { s with heap := h', toks := tk } := by
      intro h' tk old T f he hT hTe hTi hTS hit' hnew hk'
      have hlS := I.hok.lt hS
      have new : ObjOk X.prog X.w (upd H s.heap.objs.size (.frz (bT [.int i s.toks, its[i]]) (.tup [.int (i : Nat), xs[i]]))) h' s.heap.objs.size (.frz (bT [.int i s.toks, its[i]]) (.tup [.int (i : Nat), xs[i]])) :=
        ⟨hnew, by show 2 ≤ sizeLine; decide, [.int i s.toks, its[i]], .cons ⟨_, rfl⟩ (.cons (by rw [hu2]; exact ru) .nil), ⟨_, hnew, rfl, _, rfl⟩⟩
      have I1 : Inv X pins σ (upd H s.heap.objs.size (.frz (bT [.int i s.toks, its[i]]) (.tup [.int (i : Nat), xs[i]]))) { s with heap := h', toks := tk } :=
        I.turnedNew (t' := tk) (ch := [e, it]) (fun b ob hb q => hk' b ob (fun z => hb (by simp [z])) (fun z => hb (by simp [z])) q) hf (Nat.le_refl _) new
      have hfr : H s.heap.objs.size = none := I.hok.fresh (Nat.le_refl _)
      have hS1 : upd H s.heap.objs.size (.frz (bT [.int i s.toks, its[i]]) (.tup [.int (i : Nat), xs[i]])) S = some (.lst vs) := by
        rw [upd_ne (Nat.ne_of_lt hlS)]; exact hS
      obtain ⟨z, ws, n, r, hwl, eS⟩ := I1.lstM hS1
      have hws : ws.length = i := by rw [← r.length]; exact hvs
      refine wpAny_bind (wpAny_updateSeq eS rfl (wpAny_pure ⟨plainId_quiet PySem.F.plain_extend_loop _, ?_⟩) (by rw [List.size_toArray, hws]; omega) (by show (ws.toArray.push _).size ≤ sizeLine + 1; rw [Array.size_push, List.size_toArray, hws]; omega))
      have I2 := I1.lset (f := fun a => a.push (.ref s.heap.objs.size)) (its' := ws ++ [.ref s.heap.objs.size]) (ys := vs ++ [.ref s.heap.objs.size]) (t' := tk) hS1 eS (by simp) (r.append (Paired.cons (show L2.RelV (.ref s.heap.objs.size) (.ref s.heap.objs.size) from rfl) .nil)) (by rw [List.length_append, List.length_singleton]; omega)
      have oth : ∀ b o, b ≠ S → h'.get? b = some o → (h'.update S (Obj.mapSeq (·.push (.ref s.heap.objs.size)))).get? b = some o := fun b o hb e => (Heap.get?_update_other _ _ (Ne.symm hb)).trans e
      refine ih (i + 1) _ _ (vs ++ [.ref s.heap.objs.size]) (by omega) hlt I2 upd_same (by simp [hvs]) (.inr ⟨old, T, f, oth _ _ (Ne.symm hSe) he, ?_, hTe, hTi, hTS⟩) (hit'.at fun o q => oth it o (Ne.symm hSi) q) ?_ (fun b hb => ?_) (q _ _ hfr rfl) fin
      · obtain ⟨o, ho⟩ := hT
        exact ⟨o, oth T o hTS ho⟩
      · obtain ⟨o, h1, h2⟩ := hl
        exact ⟨o, oth ad o (Ne.symm hSa) (hk' ad o hae hai h1), h2⟩
      · obtain ⟨g0, g1⟩ := hf b hb
        have hbS : b ≠ S := by
          have : b = e ∨ b = it := by simpa using hb
          rcases this with rfl | rfl
          · exact Ne.symm hSe
          · exact Ne.symm hSi
        have hbn : b ≠ s.heap.objs.size := by
          have hb' : b = e ∨ b = it := by simpa using hb
          rcases hb' with rfl | rfl
          · rcases st with ⟨_, he'⟩ | ⟨_, _, _, he', _⟩
            · exact Nat.ne_of_lt (Heap.lt_size he')
            · exact Nat.ne_of_lt (Heap.lt_size he')
          · obtain ⟨_, e', _⟩ := hit
            exact Nat.ne_of_lt (Heap.lt_size e')
        exact ⟨by rw [upd_ne hbS, upd_ne hbn]; exact g0, g1⟩
    have hlS := I.hok.lt hS
    rcases st with ⟨h0, he⟩ | ⟨old, T, f, he, ⟨oT, hT⟩, h1, h2, h3⟩
    · refine wpAny_bind (wpAny_pyNext_enum_item he hit hl hx hei fun h' ho hit' hT hsz hk' => ?_)
      have hel : e < s.heap.objs.size := Heap.lt_size he
      have hil : it < s.heap.objs.size := by obtain ⟨_, q, _⟩ := hit; exact Heap.lt_size q
      exact turn h' _ _ s.heap.objs.size false ho ⟨_, hT⟩ (Nat.ne_of_gt hel) (Nat.ne_of_gt hil) (Nat.ne_of_gt hlS) hit' hT hk'
    · refine wpAny_bind (PySem.wpAny_pyNext_enum_item_held he hT h1 h2 hit hl hx hei fun h' ho hit' hT' hsz hk' => ?_)
      exact turn h' _ _ T true ho ⟨_, hk' T oT h1 h2 hT⟩ h1 h2 h3 hit' hT' hk'
theorem call_list_en {X : Cx} {pins : List (Addr × Obj)} {σ : L2.St} {H : Hp} {s : Shared} (hc : X.calm = true) {e it ad : Addr} {its : List Value} {xs : List V} {Q : VK} (I : Inv X pins σ H s) (he : IsEnum s.heap e it ((0 : Nat) : Int) .none) (hit : s.heap.IsListIter it ad 0) (hl : s.heap.IsList ad its.toArray)
    (rv : Vals xs its) (hz : its.length ≤ sizeLine) (hei : e ≠ it) (hae : ad ≠ e) (hai : ad ≠ it) (hf : ∀ b ∈ [e, it], FpOk X pins H b) (q : ∀ S, H S = none → enQ Q S 0 xs [] (upd H S (.lst []))) :
    wpAny (model X.prog X.w) X.A (call (.type "list") [.ref e]) (EP X pins σ Q) X.xe s := by
  have hel : e < s.heap.objs.size := Heap.lt_size he
  have hil : it < s.heap.objs.size := by obtain ⟨_, q, _⟩ := hit; exact Heap.lt_size q
  have hal : ad < s.heap.objs.size := by obtain ⟨_, q, _⟩ := hl; exact Heap.lt_size q
  have hSe : s.heap.objs.size ≠ e := Nat.ne_of_gt hel
  have hSi : s.heap.objs.size ≠ it := Nat.ne_of_gt hil
  have hfr : H s.heap.objs.size = none := I.hok.fresh (Nat.le_refl _)
  refine callType_codes (Q₁ := fun obj s₁ => obj = .ref s.heap.objs.size ∧ s₁ = { s with heap := s.heap.push { cls := .type "list", data := .seq #[] } }) PySem.F.called_list (PySem.F.typeCall_list_1 _) PySem.F.entry_list_init
    (code_list_new _ ⟨rfl, rfl⟩) fun obj s₁ h₁ => ?_
  obtain ⟨rfl, rfl⟩ := h₁
  have hS : (s.heap.push { cls := .type "list", data := .seq #[] }).get? s.heap.objs.size = some { cls := .type "list", data := .seq #[] } := Heap.get?_push_size _ rfl
  have k0 : ∀ b o, s.heap.get? b = some o → (s.heap.push { cls := .type "list", data := .seq #[] }).get? b = some o := fun b o e => Heap.get?_push_of_some _ e
  refine ⟨⟨_, hS, rfl⟩, PySem.F.args_list_init_2 _ _, ?_⟩
  have key : ∀ (h : Heap) (c tk : Nat), (∀ b o, s.heap.get? b = some o → h.get? b = some o) → h.get? s.heap.objs.size = some { cls := .type "list", data := .seq #[] c } →
      codeAny (model X.prog X.w) X.A.in1 (.builtin "list.extend.loop" ⟨[.ref s.heap.objs.size, .ref e, .none], []⟩) (wants (fun r s₂ => r = .none ∧ EP X pins σ Q (.ref s.heap.objs.size) s₂) X.xe) { s with heap := h, toks := tk } := by
    intro h c tk kp hS'
    have I' : Inv X pins σ (upd H s.heap.objs.size (.lst [])) { s with heap := h, toks := tk } := I.laid (t' := tk) kp (Nat.le_refl _) (show ObjOk X.prog X.w _ h _ (.lst []) from ⟨Nat.zero_le _, [], c, .nil, hS'⟩)
    refine enum_collect hc (ad := ad) (it := it) (its := its) (xs := xs) (Q := Q) rv hz hei hSe hSi (Nat.ne_of_gt hal) hae hai its.length 0 _ _ [] (by omega) (Nat.zero_le _) I' upd_same rfl (.inl ⟨rfl, kp _ _ he⟩) (hit.at fun o e => kp it o e) ?_ (fun b hb => ?_) (q _ hfr) fun H' s' I'' q' => ⟨rfl, .ref s.heap.objs.size, H', I'', rfl, q'⟩
    · obtain ⟨o, h1, h2⟩ := hl
      exact ⟨o, kp _ _ h1, h2⟩
    · obtain ⟨g0, g1⟩ := hf b hb
      have hbn : b ≠ s.heap.objs.size := by
        have : b = e ∨ b = it := by simpa using hb
        rcases this with rfl | rfl
        · exact Ne.symm hSe
        · exact Ne.symm hSi
      exact ⟨by rw [upd_ne hbn]; exact g0, g1⟩
  show wpAny _ _ (do let old ← Builtin.List.listItems (.ref s.heap.objs.size); Builtin.List.listUpdate (.ref s.heap.objs.size) (fun _ => #[]); letGo old.toList.reverse; Builtin.List.listExtendWith (.ref s.heap.objs.size) (.ref e) .none) _ _ _
  refine wpAny_bind ?_
  unfold Builtin.List.listItems
  refine wpAny_bind (wpAny_seqItems hS rfl (wpAny_pure ?_))
  show wpAny _ _ (updateSeq s.heap.objs.size (fun _ => #[]) >>= fun _ => letGo (#[] : Array Value).toList.reverse >>= fun _ => Builtin.List.listExtendWith (.ref s.heap.objs.size) (.ref e) .none) _ _ _
  refine wpAny_bind (wpAny_updateSeq hS rfl ?_)
  have hS₂ := Heap.get?_update_self (Obj.mapSeq (fun _ => (#[] : Array Value))) hS rfl
  have k2 : ∀ b o, s.heap.get? b = some o → ((s.heap.push { cls := .type "list", data := .seq #[] }).update s.heap.objs.size (Obj.mapSeq (fun _ => (#[] : Array Value)))).get? b = some o :=
    fun b o e => (Heap.get?_update_other _ _ (Nat.ne_of_gt (Heap.lt_size e))).trans (k0 b o e)
  refine wpAny_bind (wpAny_letGo ?_)
  unfold Builtin.List.listExtendWith
  refine wpAny_bind (wpAny_typeOf (T := "enumerate") ⟨_, k2 _ _ he, rfl⟩ ?_)
  have h1 : Builtin.List.listSameRef (.ref s.heap.objs.size) (.ref e) = false := by simp [Builtin.List.listSameRef, hSe]
  have n1 : (Value.type "enumerate" == Value.type "list") = false := by decide
  have n2 : (Value.type "enumerate" == Value.type "tuple") = false := by decide
  simp only [h1, n1, n2, Bool.or_false, Bool.false_eq_true, if_false]
  refine wpAny_bind (wpAny_pyIter_enum (k2 _ _ he) ?_)
  refine wpAny_bind (wpAny_holding ?_)
  unfold Builtin.List.listLengthHint
  refine wpAny_bind (wpAny_specialOf (T := "enumerate") ⟨_, k2 _ _ he, rfl⟩ en_len ?_)
  show wpAny _ _ (specialOf (Value.ref e) (Str.ofString "__length_hint__") >>= _) _ _ _
  refine wpAny_bind (wpAny_specialOf (T := "enumerate") ⟨_, k2 _ _ he, rfl⟩ en_hint ?_)
  refine wpAny_pure ?_
  refine wpAny_ite_split (fun _ => ?_) (fun _ => wpAny_pure ⟨plainId_quiet PySem.F.plain_extend_loop _, key _ _ _ k2 hS₂⟩)
  refine wpAny_bind (wpAny_rule ?_)
  refine wpAny_bind ?_
  show wpAny _ _ (updateSeq s.heap.objs.size (·.push .none) >>= fun _ => updateSeq s.heap.objs.size (·.pop)) _ _ _
  refine wpAny_bind (wpAny_updateSeq hS₂ rfl ?_)
  have hS₃ := Heap.get?_update_self (Obj.mapSeq (·.push Value.none)) hS₂ rfl
  refine wpAny_updateSeq (hz := by seq_fits) hS₃ rfl ?_
  have hS₄ := Heap.get?_update_self (Obj.mapSeq (·.pop)) hS₃ rfl
  refine wpAny_pure ⟨plainId_quiet PySem.F.plain_extend_loop _, key _ _ _ (fun b o e => ?_) hS₄⟩
  have hb : s.heap.objs.size ≠ b := Nat.ne_of_gt (Heap.lt_size e)
  exact (Heap.get?_update_other _ _ hb).trans ((Heap.get?_update_other _ _ hb).trans (k2 b o e))
def tLstEn (K : PySem.W.Frag) (te : TE) : TE := fun σ H Q => te σ H fun x H1 => ∃ a xs, x = .ref a ∧ SqL K H1 a xs ∧ ∀ S, H1 S = none → enQ Q S 0 xs [] (upd H1 S (.lst []))
theorem pe_listEn {X : Cx} {a : Expr} {te : TE} {p p' pos pos' : Pos} (hc : X.calm = true) (hg : Gl X "list") (hm : X.mg "list" = none) (hg' : Gl X "enumerate") (hm' : X.mg "enumerate" = none) (ha : PE X a te)
    (hs : starEach [a] X.env = (false, eval a X.env) :: starEach [] X.env) : PE X (.Call (.Name "list" p) [.Call (.Name "enumerate" p') [a] [] pos'] [] pos) (tLstEn X.K te) := by
  refine ⟨fun pins s σ H Q I h => ?_⟩
  have na : starEach [(.Call (.Name "enumerate" p') [a] [] pos' : Expr)] X.env = (false, eval (.Call (.Name "enumerate" p') [a] [] pos') X.env) :: starEach [] X.env := rfl
  refine Call_ (ld_blt I hg hm PyProof.Rows.boot_list (PyProof.Rows.callWith_type1 (args_cons ?_ na) na))
  refine Call_ (ld_blt I hg' hm' boot_enumerate (PyProof.Rows.callWith_type1 (one_arg ha I h (fun v s2 x H2 I2 r q => ?_) hs) hs))
  obtain ⟨ad, xs, rfl, hq, q⟩ := q
  cases r
  obtain ⟨its, rv, pl, hz⟩ := I2.list hq
  have la : ad < s2.heap.objs.size := pl.lt
  refine call_enumerate_list pl.isList fun h' he hit hsz hk => args_nil ?_
  have I3 : Inv X pins σ H2 { s2 with heap := h' } := I2.kept (t' := s2.toks) hk
  have fresh : ∀ b ∈ [s2.heap.objs.size + 1, s2.heap.objs.size], FpOk X pins H2 b := fun b hb => by
    have e' : b = s2.heap.objs.size + 1 ∨ b = s2.heap.objs.size := by simpa using hb
    have hle : s2.heap.objs.size ≤ b := by
      rcases e' with z | z
      · rw [z]; exact Nat.le_add_right _ _
      · rw [z]; exact Nat.le_refl _
    exact I2.fpOk hle (I2.hok.fresh hle)
  obtain ⟨o, n, ho, hcl, _, hdt⟩ := pl
  exact call_list_en hc I3 he hit ⟨o, hk _ _ ho, hcl, n, hdt⟩ rv (by rw [← rv.length]; exact hz) (Nat.succ_ne_self _) (Nat.ne_of_lt (Nat.lt_succ_of_lt la)) (Nat.ne_of_lt la) fresh q
section
variable {X : Cx} {xa : List (Addr × Str)} {ec : Nat → Addr} {cf : CF} {W : WX} {a : Expr} {pos : Pos} {ea : Ex}
theorem Rep.aside {K : PySem.W.Frag} {F H : Hp} {ρ : List Addr} {m : Mem} (R : Rep K xa F ρ m H) {S : Addr} {o : HO} (fS : F S = none) (rS : S ∉ ρ) (nS : ∀ u, H S = some u → NT u) : Rep K xa F ρ m (upd H S o) := by
  refine ⟨fun b w h => ?_, R.len, fun n a o e1 e2 => (R.ob n a o e1 e2).mono (Same.refl _) ⟨[], by simp⟩ fun w h => ?_, R.nf, R.nd, R.wf, tabs_upd R.tab nS, R.nft⟩
  · have : b ≠ S := fun z => by rw [z, fS] at h; cases h
    rw [upd_ne this]; exact R.le b w h
  · have : a ≠ S := fun z => rS (z ▸ List.mem_of_getElem? e1)
    rw [upd_ne this]; exact h
theorem enQ_ok {WE : XK} {F0 : Hp} {ρ : List Addr} {H0 : Hp} {m : Mem} {Q : VK} {S : Addr} (hS0 : H0 S = none) (rS : S ∉ ρ) {all : List PV.D} (hl : all.length ≤ LIM) (P : PostL X xa ec WE F0 ρ H0 [] (.ok all m) Q) :
    ∀ {rest : List PV.D} {vs ws : List V} {acc : List PV.D} {F H : Hp} (i : Nat), all = acc ++ enumL (i : Int) rest → Ext F0 ρ H0 F ρ H → Rep X.K xa F ρ m H → H S = some (.lst ws) → F S = none → Dfs X.K F vs rest → Dfs X.K F ws acc → enQ Q S i vs ws H := by
  intro rest
  induction rest with
  | nil =>
    intro vs ws acc F H i e E R hS fS d1 d2
    cases d1
    simp only [enumL, List.append_nil] at e
    subst e
    exact P F ρ H S ws E R hS fS rS hS0 (by simpa using d2) (by simpa using hl)
  | cons x rest ih =>
    intro vs ws acc F H i e E R hS fS d1 d2
    cases d1 with
    | @cons v vs _ _ h1 h2 =>
      intro T ob hT hd
      have hTS : T ≠ S := fun z => by rw [z, hS] at hT; cases hT
      obtain ⟨R1, E1⟩ := R.put (o := .frz ob (.tup [.int (i : Nat), v])) hT
      have fS1 : upd F T (.frz ob (.tup [.int (i : Nat), v])) S = none := by rw [upd_ne (Ne.symm hTS)]; exact fS
      have R2 := Rep.aside (o := .lst (ws ++ [.ref T])) R1 fS1 rS fun u hu => (by rw [upd_ne (Ne.symm hTS), hS] at hu; cases hu; exact nt_lst)
      have E01 := E.trans E1
      have nT : Df X.K (upd F T (.frz ob (.tup [.int (i : Nat), v]))) (.ref T) (.tuple [.int (i : Int), x]) := .tup (SqB.of upd_same hd) (.cons (.int _) (.cons (Df.mono E1.fle h1) .nil)) (by show 2 ≤ LIM; decide)
      refine ih (i + 1) (acc := acc ++ [.tuple [.int (i : Int), x]]) ?_ ⟨E01.fle, E01.pre, fun b o h n nt => ?_, E01.new, fun b h => ?_, fun b o' u h => (by rw [upd_ne (fun z => by rw [z, hS0] at h; cases h)]; exact E01.frz b o' u h)⟩ R2 upd_same fS1 (Dfs.mono E1.fle h2) ((Dfs.mono E1.fle d2).append (.cons nT .nil))
      · rw [e]
        simp only [enumL, List.append_assoc, List.cons_append, List.nil_append]
        rfl
      · have : b ≠ S := fun z => by rw [z, hS0] at h; cases h
        rw [upd_ne this]; exact E01.frm b o h n nt
      · by_cases hb : b = S
        · rw [hb, upd_same]; simp
        · rw [upd_ne hb]; exact E01.kep b h
theorem s_enl {p p' pos' : Pos} (hc : X.calm = true) (hg : Gl X "list") (hm : X.mg "list" = none) (hg' : Gl X "enumerate") (hm' : X.mg "enumerate" = none) (ha : PE X a (tE X xa ec cf W ea)) (hs : starEach [a] X.env = (false, eval a X.env) :: starEach [] X.env) :
    PE X (.Call (.Name "list" p) [.Call (.Name "enumerate" p') [a] [] pos'] [] pos) (tL X xa ec cf W (.enl ea)) := by
  refine pe_mono (pe_listEn hc hg hm hg' hm' ha hs) fun σ H Q ⟨F, ρ, m, env, R, E, P⟩ => ?_
  simp only [evL] at P
  refine ⟨F, ρ, m, env, R, E, postL_bind (rel := relV X xa) P fun x m1 F1 ρ1 H1 v e1 E1 R1 rv P1 => ?_⟩
  split at P1
  · rename_i xs e2
    obtain ⟨l, ad, vs, rfl, h1, h2⟩ := view_vr R1 rv e2
    refine ⟨ad, vs, rfl, SqL.of h1, fun S hS => ?_⟩
    have fS : F1 S = none := by
      cases e : F1 S with
      | none => rfl
      | some u => rw [R1.le S u e] at hS; cases hS
    have rS : S ∉ ρ1 := fun z => R1.there z hS
    refine enQ_ok (X := X) hS rS (all := enumL 0 xs) (by rw [enumL_len]; exact l) P1 (rest := xs) (acc := []) 0 (by simp) ⟨Same.refl F1, ⟨[], by simp, by simp⟩, fun b o h n _ => ?_, fun b o h n => (by rw [h] at n; cases n), fun b h => ?_, fun b o' u h => (by rw [upd_ne (ne_of_none h hS)]; exact h)⟩ (Rep.aside R1 fS rS fun u hu => (by rw [hS] at hu; cases hu)) upd_same fS h2 .nil
    · rw [upd_ne (ne_of_none h hS)]; exact h
    · by_cases hb : b = S
      · rw [hb, upd_same]; simp
      · rw [upd_ne hb]; exact h
  · exact False.elim P1
end
end PV
end

section
set_option Elab.async false
set_option linter.all false
set_option maxRecDepth 100000
/-! PV12f: sorted(set(ints)). -/
namespace PV
open PySem PySem.Spec PyProof.Rows
/-- a set just made -/
def so0 (w : World) : Obj := { cls := .type "set", dict := none, data := .set #[] 0 (.fresh 0 0 (!w.params.followText "set-order")) }
section
variable {P : Program} {w : World} {A : Around} {E : Value → Shared → Prop} {s : Shared}
set_option maxHeartbeats 3200000 in
theorem set_ofList {q : Addr} {its : Array Value} (is : List Int) {Q : Value → Shared → Prop} (quiet : A.handled = none) (lst : s.heap.IsList q its) (hin : IntsAre its.toList is) (small : is.length + 1 < scanBound)
    (fin : ∀ (h2 : Heap) (t2 c : Nat), L2.SetR w h2 s.heap.objs.size (fun j => decide (j ∈ is)) c → c ≤ is.length → (∀ b o, s.heap.get? b = some o → h2.get? b = some o) → Q (.ref s.heap.objs.size) { s with heap := h2, toks := t2 }) :
    wpAny (model P w) A (call (.type "set") [.ref q]) Q E s := by
  have same : its.size = is.length := by
    have z := IntsAre.length hin
    rwa [Array.length_toList] at z
  obtain ⟨c0, tl0, mro⟩ := F.called_set.mro
  have made := F.called_set.made
  have sub0 := F.called_set.sub
  refine wpAny_call (codeAny_of_tree ?_)
  show wpAny _ _ (callAny (.type "set") _) _ _ _
  refine wpAny_pure ⟨Code.quiet_builtin _ (by decide +kernel), codeAny_builtin F.entry_type_call ?_⟩
  rw [Around.under_plain (weight_type_call_type "set" [.ref q] []) rfl]
  have z1 := F.called_set.notType
  have z2 := F.called_set.canCreate
  have z3 := F.typeCall_set_1 (.ref q)
  repeat (any_goals (first | assumption | wp_step))
  refine codeAny_mono (L2.code_set_led1 (.ref q) (E := E) (Q₁ := fun v s₁ => v = .ref s.heap.objs.size ∧ s₁ = { s with heap := s.heap.push (so0 w) }) ⟨rfl, rfl⟩) fun r s₁ hr => ?_
  match r, hr with
  | .error e, hr => exact hr
  | .ok (.ret v), hr =>
    obtain ⟨rfl, rfl⟩ := hr
    have new : (s.heap.push (so0 w)).get? s.heap.objs.size = some (so0 w) := Heap.get?_push_size _ rfl
    have typ : Shared.TypeIs { s with heap := s.heap.push (so0 w) } (.ref s.heap.objs.size) "set" := ⟨_, new, rfl⟩
    have lo := F.called_set.init.lookup
    have bi := F.called_set.init.bind (.ref s.heap.objs.size)
    repeat (any_goals (first | assumption | wp_step))
    refine codeAny_mono (codeAny_call_builtin (R := wants (fun r s₂ => r = .none ∧ ∃ h2 t2 c, s₂ = { s with heap := h2, toks := t2 } ∧ L2.SetR w h2 s.heap.objs.size (fun j => decide (j ∈ is)) c ∧ c ≤ is.length ∧ ∀ b o, s.heap.get? b = some o → h2.get? b = some o) E)
      F.called_set.init.plain F.entry_set_init (check_set_init_1 typ ?_)) fun r₂ s₂ hr₂ => ?_
    · obtain ⟨⟨lc, ld, lda, ls⟩, ho, hc, nl, hd⟩ := lst
      simp only at hc hd
      subst hc hd
      have ho' : (s.heap.push (so0 w)).get? q = some { cls := .type "list", dict := ld, data := .seq its nl, slots := ls } := Heap.get?_push_of_some _ ho
      have y1 := F.sub_list_set
      have y2 := F.sub_list_frozenset
      have y3 : (Value.type "list" == Value.type "dict") = false := by decide
      have lst1 : (s.heap.push (so0 w)).IsList q its := ⟨_, ho', rfl, nl, rfl⟩
      unfold Builtin.«set.__init__» noKeywords Builtin.Frozenset.updateFrom
      generalize hPI : pyIter = PI
      wp_walk
      subst hPI
      refine wpAny_pyIter_list lst1 (wpAny_bind (wpAny_runValue ?_))
      have lt : q < s.heap.objs.size := Heap.lt_size ho
      have sz : (s.heap.push (so0 w)).objs.size = s.heap.objs.size + 1 := Heap.size_push ..
      have hq3 : A.in1.in1.in1.handled = none := by simp [quiet]
      have neI : q ≠ (s.heap.push (so0 w)).objs.size := sz ▸ Nat.ne_of_lt (Nat.lt_succ_of_lt lt)
      have away : s.heap.objs.size ∉ [(s.heap.push (so0 w)).objs.size, q] := by
        rw [sz]
        intro m
        rcases List.mem_cons.mp m with e | m
        · exact Nat.ne_of_lt (Nat.lt_succ_self _) e
        · exact Nat.ne_of_gt lt (List.mem_singleton.mp m)
      have vals : ∀ (i : Nat) (v : Value), its[i]? = some v → ∃ k t, is[i]? = some k ∧ v = .int k t := fun i v hv => by
        have lti : i < is.length := by
          rw [← same]
          exact (Array.getElem?_eq_some_iff.mp hv).1
        obtain ⟨t, e⟩ := IntsAre.int_at hin i v (by rwa [Array.getElem?_toList])
        exact ⟨is[i], t, List.getElem?_eq_getElem lti, by rw [e, List.getD_eq_getElem?_getD, List.getElem?_eq_getElem lti]; rfl⟩
      refine L2.set_update_ints ((Walks.list hq3 _ q neI its).toS) s.heap.objs.size away is same small vals (its.size - 0) 0 _ (by omega) (Nat.zero_le _) ⟨⟨_, Heap.get?_push_size _ rfl, rfl, rfl⟩, lst1.push _⟩ ?start ?done
      case start =>
        exact ⟨0, Nat.le_refl 0, L2.setR_new_at (Heap.get?_push_of_some _ new)⟩
      case done =>
        intro s3 c3 mv hc3 R3
        obtain ⟨h3, g3, d3, t3, os3⟩ := s3
        have e1 : g3 = s.gens := mv.gens
        have e2 : d3 = s.drawn := mv.drawn
        have e3 : os3 = s.os := mv.os
        subst e1 e2 e3
        show wpAny _ _ _ _ _ _
        refine wpAny_pure ?_
        show wpAny _ _ (ret Value.none) _ _ _
        rw [same] at hc3
        refine wpAny_pure ⟨rfl, h3, t3, c3, rfl, R3, hc3, fun b o e => ?_⟩
        have b0 : b < s.heap.objs.size := Heap.lt_size e
        refine mv.heap b o (fun m => ?_) (Heap.get?_push_of_some _ (Heap.get?_push_of_some _ e))
        rcases List.mem_cons.mp m with e4 | m
        · exact Nat.ne_of_lt b0 e4
        · exact Nat.ne_of_lt (Nat.lt_succ_of_lt b0) ((List.mem_singleton.mp m).trans sz)
    · match r₂, hr₂ with
      | .error e, hr₂ => exact hr₂
      | .ok (.ret v2), hr₂ =>
        obtain ⟨rfl, h2, t2, c2, rfl, R2, hc2, k2⟩ := hr₂
        repeat (any_goals (first | assumption | wp_step))
        exact fin _ _ _ R2 hc2 k2
end
end PV
namespace PV
open PySem PySem.Spec PyProof.Rows L2
/-- set(ints) -/
def rSetI (K : PySem.W.Frag) (w : World) : List V → Hp → VK → Prop := fun xs H Q => ∃ (a : Addr) (is : List Int), xs = [.ref a] ∧ (SqL K H a (is.map V.int) ∨ SqT K H a (is.map V.int)) ∧ is.length ≤ 4000 ∧
  ∀ (p : Addr) (c : Nat), H p = none → Q (.ref p) (upd H p (SetO w p (fun j => decide (j ∈ is)) c))
theorem setR_size {w : World} {h : Heap} {a : Addr} {is : List Int} {c : Nat} (R : SetR w h a (fun j => decide (j ∈ is)) c) (l : List Int) (hn : l.Nodup) (hl : ∀ k, k ∈ l ↔ k ∈ is) : c = l.length := by
  obtain ⟨o, es, ep, t, _, _, _, _, nd, mem, _, _, sz, _⟩ := R
  have hp : l.Perm (es.toList.map keyOf) := by
    refine (List.perm_ext_iff_of_nodup hn nd).mpr fun k => ?_
    rw [hl k, ← mem k, decide_eq_true_eq]
  rw [hp.length_eq, List.length_map, Array.length_toList, sz]
end PV
namespace PV
open PySem PySem.Spec PyProof.Rows L2
theorem ints_of_v : ∀ {is : List Int} {us : List Value}, Vals (is.map V.int) us → IntsAre us is
  | [], _, .nil => .nil
  | i :: is, _, .cons r t => by
    obtain ⟨k, rfl⟩ := r
    exact .cons i k (ints_of_v t)
theorem insU_mem (x : Int) : ∀ (l : List Int) (k : Int), k ∈ insU x l ↔ k = x ∨ k ∈ l
  | [], k => by simp [insU]
  | y :: r, k => by
    unfold insU
    split
    · simp
    · split
      · rename_i h; subst h; simp
      · rw [List.mem_cons, insU_mem x r k, List.mem_cons]
        constructor
        · rintro (h | h | h)
          · exact .inr (.inl h)
          · exact .inl h
          · exact .inr (.inr h)
        · rintro (h | h | h)
          · exact .inr (.inl h)
          · exact .inl h
          · exact .inr (.inr h)
theorem insU_asc (x : Int) : ∀ l : List Int, l.Pairwise (· < ·) → (insU x l).Pairwise (· < ·)
  | [], _ => List.pairwise_singleton _ _
  | y :: r, h => by
    have h' := List.pairwise_cons.mp h
    unfold insU
    split
    · rename_i q
      refine List.pairwise_cons.mpr ⟨fun z hz => ?_, h⟩
      rcases List.mem_cons.mp hz with rfl | hz
      · exact q
      · exact Int.lt_trans q (h'.1 z hz)
    · rename_i q
      split
      · exact h
      · rename_i q2
        refine List.pairwise_cons.mpr ⟨fun z hz => ?_, insU_asc x r h'.2⟩
        rcases (insU_mem x r z).mp hz with rfl | hz
        · omega
        · exact h'.1 z hz
theorem sortU_mem : ∀ (l : List Int) (k : Int), k ∈ sortU l ↔ k ∈ l
  | [], k => by simp [sortU]
  | x :: r, k => by
    show k ∈ insU x (sortU r) ↔ _
    rw [insU_mem, sortU_mem r k, List.mem_cons]
theorem sortU_asc : ∀ l : List Int, (sortU l).Pairwise (· < ·)
  | [] => List.Pairwise.nil
  | x :: r => insU_asc x _ (sortU_asc r)
theorem nodup_asc {l : List Int} (h : l.Pairwise (· < ·)) : l.Nodup := h.imp fun q e => by omega
theorem sortU_uniq {l ns : List Int} (h : ns.Pairwise (· < ·)) (m : ∀ k, k ∈ ns ↔ k ∈ l) : ns = sortU l :=
  asc_uniq ((List.perm_ext_iff_of_nodup (nodup_asc h) (nodup_asc (sortU_asc l))).mpr fun k => (m k).trans (sortU_mem l k).symm) (h.imp fun q => by omega) ((sortU_asc l).imp fun q => by omega)
section
variable {X : Cx} {xa : List (Addr × Str)} {ec : Nat → Addr} {cf : CF} {W : WX} {a b c : Expr} {pos : Pos} {ea eb ec' : Ex}
/-- set(ints) -/
def rSetU (K : PySem.W.Frag) (w : World) : List V → Hp → VK → Prop := fun xs H Q => ∃ (a : Addr) (is : List Int), xs = [.ref a] ∧ (SqL K H a (is.map V.int) ∨ SqT K H a (is.map V.int)) ∧ is.length ≤ 4000 ∧
  ∀ (p : Addr), H p = none → Q (.ref p) (upd H p (SetO w p (fun j => decide (j ∈ is)) (sortU is).length))
theorem cr_setU (hc : X.calm = true) : CallR X (.type "set") (rSetU X.K X.w) := by
  intro pins s σ H xs us Q I r h
  obtain ⟨a, is, rfl, hq, hl, q⟩ := h
  rw [Vals.ref1 r]
  have fin : ∀ (h2 : Heap) (t2 k : Nat), SetR X.w h2 s.heap.objs.size (fun j => decide (j ∈ is)) k → k ≤ is.length → (∀ b o, s.heap.get? b = some o → h2.get? b = some o) →
      EP X pins σ Q (.ref s.heap.objs.size) { s with heap := h2, toks := t2 } := fun h2 t2 k R hk kp => by
    have e := setR_size R (sortU is) (nodup_asc (sortU_asc is)) (sortU_mem is)
    subst e
    exact ⟨.ref _, upd H s.heap.objs.size (SetO X.w s.heap.objs.size _ _), I.laid (t' := t2) kp (Nat.le_refl _) (setO_new R), rfl, q _ (I.hok.fresh (Nat.le_refl _))⟩
  rcases hq with hq | hq
  · obtain ⟨its, rv, pl, hz⟩ := I.list hq
    exact set_ofList is (I.ok.hd hc) pl.isList (by simpa using ints_of_v rv) (by unfold scanBound; omega) fin
  · obtain ⟨its, rv, pl, hz⟩ := I.tuple hq
    exact call_set_tupI is (I.ok.hd hc) pl (by simpa using ints_of_v rv) (by unfold scanBound; omega) fin
theorem sstV_ok {F : Hp} {ρ : List Addr} {m : Mem} {H : Hp} {x : V} {y : EV} {is : List Int} (R : Rep X.K xa F ρ m H) (rv : RepV X.K xa F ρ x y) (e : sstV m y = some is) :
    ∃ (a : Addr) (l : List Int), x = .ref a ∧ (SqL X.K H a (l.map V.int) ∨ SqT X.K H a (l.map V.int)) ∧ l.length ≤ 4000 ∧ sortU l = is ∧ is.length < 64 := by
  have fin : ∀ {o : Option (List Int)}, sstU o = some is → ∃ l, o = some l ∧ l.length ≤ 4000 ∧ sortU l = is ∧ is.length < 64 := fun {o} h => by
    unfold sstU at h
    split at h
    · rename_i l
      split at h
      · rename_i g
        simp only [Bool.and_eq_true, decide_eq_true_eq] at g
        cases h
        exact ⟨l, rfl, g.1, rfl, g.2⟩
      · cases h
    · cases h
  cases y with
  | d p =>
    cases p with
    | list xs =>
      obtain ⟨l, e1, e2⟩ := fin (show sstU (intsD xs) = some is from e)
      have rv : Df X.K F x (.list xs) := rv
      cases rv with
      | lst h1 h2 hz =>
        obtain ⟨rfl, rfl⟩ := dfs_ints h2 e1
        exact ⟨_, l, rfl, .inl (SqL.of (R.le _ _ h1)), e2⟩
    | tuple xs =>
      obtain ⟨l, e1, e2⟩ := fin (show sstU (intsD xs) = some is from e)
      have rv : Df X.K F x (.tuple xs) := rv
      cases rv with
      | tup h1 h2 hz =>
        obtain ⟨rfl, rfl⟩ := dfs_ints h2 e1
        exact ⟨_, l, rfl, .inr (sqT_mono R.le h1.t), e2⟩
    | _ => cases e
  | loc n =>
    obtain ⟨ad, rfl, hρ⟩ := rv
    have e : (match m[n]? with
      | some (.lst ys) => sstU ((allD ys).bind intsD)
      | _ => none) = some is := e
    split at e
    · rename_i ys hm
      obtain ⟨hz, vs, g1, g2⟩ := R.ob n ad _ hρ hm
      obtain ⟨l, e1, e2⟩ := fin e
      obtain ⟨ds, e3, e4⟩ := bind_some' e1
      have := allD_eq e3
      subst this
      have hd : Dfs X.K F vs ds := dfs_d g2
      obtain ⟨rfl, rfl⟩ := dfs_ints hd e4
      exact ⟨ad, l, rfl, .inl (SqL.of g1), e2⟩
    · cases e
  | exc _ _ => cases e
  | ro _ => cases e
theorem s_sst {x y : Str} {p p2 pos2 : Pos} (hc : X.calm = true) (hg : Gl X x) (hm : X.mg x = none) (hv : bootBuiltins x = some (.builtin "sorted")) (hn : x ≠ "__name__") (hdb : (x == ("__debug__" : Str)) = false)
    (hg2 : Gl X y) (hm2 : X.mg y = none) (hv2 : bootBuiltins y = some (.type "set")) (hn2 : y ≠ "__name__") (hdb2 : (y == ("__debug__" : Str)) = false)
    (ha : PE X a (tE X xa ec cf W ea)) (hs : starEach [a] X.env = (false, eval a X.env) :: starEach [] X.env) : PE X (.Call (.Name x p) [.Call (.Name y p2) [a] [] pos2] [] pos) (tE X xa ec cf W (.sst ea)) := by
  refine pe_mono (pe_callB (cr_sortedSet hc) hg hm hv (pa_cons (pe_callTy (cr_setU hc) hg2 hm2 hv2 (pa_cons ha pa_nil hs) hn2 hdb2 hs rfl) pa_nil) hn hdb) fun σ H Q ⟨F, ρ, m, env, R, E, P⟩ => ?_
  refine ⟨F, ρ, m, env, R, E, Post.bind (rel' := relV X xa) P fun x m1 F1 ρ1 H1 v e1 E1 R1 rv P1 => ?_⟩
  obtain ⟨y, e3, P2⟩ := P1.of
  obtain ⟨is, e4, rfl⟩ := map_some e3
  obtain ⟨ad, l, rfl, hq, hl, rfl, h64⟩ := sstV_ok R1 rv e4
  refine ⟨ad, l, rfl, hq, hl, fun q hq2 => ⟨q, _, _, rfl, upd_same, h64, fun ns p h1 h2 _ hp => ?_⟩⟩
  have e5 := sortU_uniq h1 fun k => (h2 k).trans decide_eq_true_iff
  subst e5
  obtain ⟨R2, E2⟩ := R1.put (o := SetO X.w q (fun j => decide (j ∈ l)) (sortU l).length) hq2
  refine gives_lst R2 (fun F3 H3 v3 E3 R3 d3 => gives_of P2 F3 H3 v3 (E2.trans E3) R3 d3) (dfs_of_ints _) ?_ p hp
  rw [List.length_map]
  unfold LIM
  omega
end
end PV
end

section
set_option Elab.async false
set_option linter.all false
set_option maxRecDepth 100000
set_option maxHeartbeats 2000000
/-! PVX: own exceptions whose __init__ says super().__init__(x); self.x = x. -/
namespace PV
open PySem PySem.W PySem.Calls PyProof.Rows PySem.HandSPX
/-! ### the text of such an __init__ -/
def iA (f : Str) (p1 p2 : Pos) : Arguments := { posonlyargs := [], args := [{ arg := "self", annotation := none, pos := p1 }, { arg := f, annotation := none, pos := p2 }], vararg := none, kwonlyargs := [], kw_defaults := [], kwarg := none, defaults := [] }
def iB1 (f : Str) (q0 q1 q2 q3 q4 q5 : Pos) : Stmt := .Expr (.Call (.Attribute (.Call (.Name "super" q0) [] [] q1) "__init__" q2) [.Name f q3] [] q4) q5
def iB2 (f : Str) (r0 r1 r2 r3 : Pos) : Stmt := .Assign [.Attribute (.Name "self" r0) f r1] (.Name f r2) r3
def iS (f : Str) : Scope := { kind := .function, names := [(PySem.Str.ofString "self", .local), (f, .local), (PySem.Str.ofString "__class__", .free), (PySem.Str.ofString "super", .globalImplicit)], isGenerator := false, isCoroutine := false, more := [] }
/-- what the written part says of the class at C and its __init__ at fI -/
structure Sup (P : Program) (K : Frag) (f : Str) (C fI : Addr) : Prop where
  cls : ∃ nm q N bs bm sn sub ab col dd k0 k1 k2 k3 k5, K.lookup C = some (excClassObj nm q C N bs bm true sn sub ab col dd k0 k1 k2 k3 k5 "ValueError.__new__") ∧ refsVE bm = true
  sa : findIn K (.ref C) "__setattr__" = some (some (.builtin "object.__setattr__"))
  noN : findIn K (.ref C) f = some none
  iC : findIn K (.ref C) "__init__" = some (some (.ref fI))
  tC : typeIn K (.ref fI) = some (.type "function")
  kC : keepIn K (.ref C) = true
  exC : subIn K (.ref C) (.type "BaseException") = some true
  veC : subIn K (.ref C) (.type "ValueError") = some true
  tyC : typeIn K (.ref C) = some (.type "type")
  self : mroIn K C (.ref C) = some true
  sup : ks_superIn K C C "__init__" = some (some (.builtin "ValueError.__init__"))
  opq : nsIn K cStatics "thirdparty.any" = some none
  top : (P.main.scope.names.lookup ("super" : Str)).isSome = false
  fok : f ≠ "self" ∧ f ≠ "__class__" ∧ f ≠ "super" ∧ (f == ("__debug__" : Str)) = false
  fn : ∃ (oc : Value) (od : Option Addr) (q : Str) (doc pm ct : Value) (an : Option Addr) (osl : Array (Option Value)) (p1 p2 q0 q1 q2 q3 q4 q5 r0 r1 r2 r3 : Pos) (cc cda : Addr) (cl : Value) (cld : Option Addr) (csl : Array (Option Value)) (vs : Array Value) (file : Str) (tf : Tok) (ccl : Value) (cdd : Option Addr) (ccs : Array (Option Value)),
    K.lookup fI = some ⟨oc, od, .func (ksFn "__init__" q (iA f p1 p2) [iB1 f q0 q1 q2 q3 q4 q5, iB2 f r0 r1 r2 r3] (iS f) .none .none doc pm an (.ref cda) ct cc), osl⟩ ∧ codeIn K (.ref cda) q = true ∧
    (∀ x v : Value, bindArgs (ksFn "__init__" q (iA f p1 p2) [iB1 f q0 q1 q2 q3 q4 q5, iB2 f r0 r1 r2 r3] (iS f) .none .none doc pm an (.ref cda) ct cc) ⟨[x, v], []⟩ = pure [(("self" : Str), x), (f, v)]) ∧
    (q2.endLine == q4.line) = true ∧ K.lookup cc = some ⟨cl, cld, .cell (some (.ref C)), csl⟩ ∧ K.lookup cda = some ⟨ccl, cdd, .fields vs, ccs⟩ ∧ vs[2]? = some (.str file tf) ∧ ((P.main.file : Str) == file) = true
section
variable {prog : Program} {w : World} {A : Around} {E : Value → Shared → Prop} {R : Result → Shared → Prop} {K : Frag} {mg : Str → Option Value} {C fI : Addr} {f : Str}
theorem one_small (v : Value) : [v].length ≤ sizeLine := by
  rw [sizeLine_eq]
  exact (by decide : 1 ≤ 16777216)
/-- ValueError.__init__, bound, called -/
theorem call_bound {hp : Heap} {g : Array GenState} {d : Drawn} {t : Nat} {os : OsState} {u x t0 : Addr} {v : Value} {nm q : Str} {N : Addr} {bs bm sub : List Value} {sn : List Str} {ab : Bool} {col : Option Bool} {dd : Option Addr} {k0 k1 k2 k3 k5 : Option Value} {Q : Value → Shared → Prop}
    (hC : hp.get? C = some (excClassObj nm q C N bs bm true sn sub ab col dd k0 k1 k2 k3 k5 "ValueError.__new__")) (hu : hp.get? u = some (kxs_mw "ValueError.__init__" x)) (hx : hp.get? x = some (excO C t0))
    (fin : ∀ h2 t2, (∀ b o, b ≠ x → hp.get? b = some o → h2.get? b = some o) → h2.get? x = some (excO C t2) → Q .none ⟨h2, g, d, t, os⟩) : wpAny (model prog w) A (call (.ref u) [v]) Q E ⟨hp, g, d, t, os⟩ := by
  refine wpAny_call (codeAny_of_tree ?_)
  show wpAny _ A.in1 (callAny (.ref u) ⟨[v], []⟩) _ _ _
  simp only [callAny]
  refine wpAny_bind (wpAny_load hu ?_)
  have e1 : (Value.type "method-wrapper" == Value.type "method" || Value.type "method-wrapper" == Value.type "builtin_function_or_method" || Value.type "method-wrapper" == Value.type "method-wrapper") = true := by decide
  simp only [kxs_mw, e1, if_true]
  refine KFB.if_so (by decide) ?_
  refine wpAny_bind (check_bound_init F.excBase_ValueError.toExcCallFacts hC hx rfl ?_)
  refine wpAny_bind (wpAny_pure (wpAny_pure ?_))
  refine ⟨plainId_quiet F.excBase_ValueError.init.plain _, codeAny_builtin F.excBase_ValueError.initEntry ?_⟩
  exact exc_init_tree (cls := .ref C) (t0 := t0) (dv := none) (c2 := .none) (c3 := .none) (b4 := .bool false) hx (one_small v) fun h2 k e2 _ => fin h2 _ k e2
theorem meth_at {c : Code} {o : Expr} {name : Str} {apos pos : Pos} {args : List Expr} {env : PySem.Env} {Q : Value → Shared → Prop} {s : Shared}
    (h : PySem.wpAt (model prog w) A c (attributeBase o name env (eval o env)) (fun ov s₁ => wpAny (model prog w) A (methodCall o name apos pos env ov (args.length + ([] : List Keyword).length) (backTo pos (starEach args env)) (backToKw pos (keywordEach [] env))) Q E s₁) E s) :
    PySem.wpAt (model prog w) A c (eval (.Call (.Attribute o name apos) args [] pos) env) Q E s := by
  rw [arm_eval_Call]
  exact PySem.wpAt_bind (PySem.wpAt_mono h (fun ov s1 h1 => PySem.wpAt_of_wpAny (wpAny_bind (wpAny_standAt h1))) fun _ _ z => z)
/-- what __init__ leaves of a fresh exception at x -/
structure SupEnd (h h' : Heap) (x C dx t1 : Addr) (f : Str) (v : Value) : Prop where
  keep : ∀ b o, b ≠ x → h.get? b = some o → h'.get? b = some o
  obj : h'.get? x = some { cls := .ref C, dict := some dx, data := .fields #[.ref t1, .none, .none, .none, .bool false, .none] }
  dbig : h.objs.size ≤ dx
  dne : dx ≠ x
  ns : h'.Ns1 dx (fun y => if y = f then some v else none)
theorem sup_init (T : Sup prog K f C fI) {s : Shared} {x t0 : Addr} {v : Value} (X : K.In s.heap) (G : s.heap.Ns mainGlobals mg) (msup : mg "super" = none) (Bl : ∃ mb, s.heap.Ns builtinsNs mb ∧ ∀ x : Str, x ≠ "__name__" → mb x = bootBuiltins x)
    (hlim : s.heap.NoLimit) (hx : s.heap.get? x = some (excO C t0)) (hnx : K.lookup x = none) (hroom : A.depth < recursionLimit)
    (hq : ∀ h' tk dx t1, SupEnd s.heap h' x C dx t1 f v → R (.ok (.ret .none)) { s with heap := h', toks := tk }) :
    codeAny (model prog w) A (.call (.ref fI) ⟨[.ref x, v], []⟩) R s := by
  obtain ⟨oc, od, q, doc, pm, ct, an, osl, p1, p2, q0, q1, q2, q3, q4, q5, r0, r1, r2, r3, cc, cda, cl, cld, csl, vs, file, tf, ccl, cdd, ccs, ho, hcd, hbnd, hline, hcell, hcode, hvs, hfile⟩ := T.fn
  obtain ⟨nm, qC, N, bs, bm, sn, sub, ab, col, dd, k0, k1, k2, k3, k5, hC, hbm⟩ := T.cls
  obtain ⟨f1, f2, f3, fd⟩ := T.fok
  obtain ⟨mb, Bn, Bb⟩ := Bl
  have hcl : clsIn K C = some { name := nm, bases := bs, mro := .ref C :: bm, ns := N, qualname := qC, hasDict := true, slotNames := sn, subclasses := sub, abstract := ab, collection := col, hasDel := false } := by unfold clsIn; rw [hC] <;> rfl
  have n1 : (f == ("self" : Str)) = false := by simpa using f1
  have n2 : (f == ("__class__" : Str)) = false := by simpa using f2
  have n3 : (f == ("super" : Str)) = false := by simpa using f3
  have kf : (iS f).names.lookup f = some .local := by
    unfold iS
    simp [List.lookup, n1]
  have kc : (iS f).names.lookup ("__class__" : Str) = some .free := by
    unfold iS
    have z1 : (("__class__" : Str) == f) = false := by simpa using Ne.symm f2
    have z2 : (("__class__" : Str) == ("self" : Str)) = false := by decide
    simp only [List.lookup, z1, z2, beq_self_eq_true]
  have ks : (iS f).names.lookup ("super" : Str) = some .globalImplicit := by
    unfold iS
    have z1 : (("super" : Str) == f) = false := by simpa using Ne.symm f3
    have z2 : (("super" : Str) == ("self" : Str)) = false := by decide
    have z3 : (("super" : Str) == ("__class__" : Str)) = false := by decide
    simp only [List.lookup, z1, z2, z3, beq_self_eq_true]
  have kse : (iS f).names.lookup ("self" : Str) = some .local := by
    unfold iS
    simp only [List.lookup, beq_self_eq_true]
  obtain ⟨hp, g, d, tk, os⟩ := s
  refine ks_codeAny_call_defAt (fd := ksFn "__init__" q (iA f p1 p2) [iB1 f q0 q1 q2 q3 q4 q5, iB2 f r0 r1 r2 r3] (iS f) .none .none doc pm an (.ref cda) ct cc) (body := [iB1 f q0 q1 q2 q3 q4 q5, iB2 f r0 r1 r2 r3]) (binds := [(("self" : Str), .ref x), (f, v)]) hroom (X _ _ ho) rfl hlim (codeRec_of X hcd) rfl (BindsTo.of_eq ?bind) ?cells ?locs (fun h₁ hns hk₁ => ?_)
  case bind =>
    exact hbnd _ _
  case cells =>
    intro y hy
    simp only [iS, List.mem_cons, List.not_mem_nil, or_false] at hy
    rcases hy with rfl | rfl | rfl | rfl <;> exact fun z => by cases z
  case locs =>
    intro y hy
    simp only [List.mem_cons, List.not_mem_nil, or_false] at hy
    rcases hy with rfl | rfl
    · exact kse
    · exact kf
  have X₁ : K.In h₁ := X.keeps hk₁
  have hx₁ := hk₁ _ _ hx
  have hself : ([("self", Value.ref x), (f, v)] : List (Str × Value)).reverse.lookup ("self" : Str) = some (.ref x) := by
    have z1 : (("self" : Str) == f) = false := by simpa using Ne.symm f1
    simp [List.lookup, z1]
  have hval : ([("self", Value.ref x), (f, v)] : List (Str × Value)).reverse.lookup f = some v := by
    simp [List.lookup]
  refine ks_wpAt_execs_cons (ks_wpAt_Expr_any (meth_at ?_))
  obtain ⟨oD, hD1, hD2⟩ : ∃ oD, h₁.get? C = some oD ∧ oD.data = .cls { name := nm, bases := bs, mro := .ref C :: bm, ns := N, qualname := qC, hasDict := true, slotNames := sn, subclasses := sub, abstract := ab, collection := col, hasDel := false } := ⟨_, X₁ _ _ hC, rfl⟩
  refine ks_wpAt_super_base (env := callEnv (ksFn "__init__" q (iA f p1 p2) [iB1 f q0 q1 q2 q3 q4 q5, iB2 f r0 r1 r2 r3] (iS f) .none .none doc pm an (.ref cda) ct cc) hp.objs.size fI) ks kc (by decide) rfl (X₁ _ _ ho) rfl rfl rfl (X₁ _ _ hcode) rfl hvs hfile T.top ?_
  refine ks_loadName_global rfl ks (loadGlobal_builtin (env := callEnv (ksFn "__init__" q (iA f p1 p2) [iB1 f q0 q1 q2 q3 q4 q5, iB2 f r0 r1 r2 r3] (iS f) .none .none doc pm an (.ref cda) ct cc) hp.objs.size fI) (G.keeps hk₁) msup (Bn.keeps hk₁) ((Bb _ (by decide)).trans (by kernel_rfl)) ⟨rfl, ?_⟩)
  refine wpAny_loadName_free rfl kc rfl ⟨_, X₁ _ _ hcell, rfl⟩ ?_
  refine wpAny_loadName_local rfl kse hns hself ?_
  refine ks_wpAny_isType_cls hD1 hD2 ⟨rfl, ?_⟩
  refine ks_wpAny_call_super hD1 hD2 hx₁ rfl (fun c e => by cases e) (looks_mroIn X₁ T.self) (fun h₂ e₂ k₂ => ?_)
  -- super().__init__
  have X₂ : K.In h₂ := X₁.keeps k₂
  have hx₂ := k₂ _ _ hx₁
  have hxC : x ≠ C := fun z => by
    rw [z] at hnx
    rw [hnx] at hC
    cases hC
  have J₂ : InstAt h₂ x (excO C t0) C none := ⟨hx₂, rfl, rfl, trivial⟩
  have hI : Looks (model prog w) h₂ (isInstance (.ref x) (.type "ValueError")) true := J₂.type.andThen (looks_subIn X₂ T.veC)
  have hsup : alongIn K "__init__" (((Value.ref C :: bm).dropWhile (· != .ref C)).drop 1) = some (some (.builtin "ValueError.__init__")) := by
    have z := T.sup
    unfold ks_superIn at z
    rw [hcl] at z
    exact z
  have hkm : Looks (model prog w) h₂ (mroOf (.ref C)) (.ref C :: bm) := fun A Q E s k q => wpAny_bind ((looks_clsIn X₂ hcl) A _ E s k (wpAny_pure q))
  have hform : ∀ env : PySem.Env, methodCallForm ([Expr.Name f q3].length + ([] : List Keyword).length) (backTo q4 (starEach [Expr.Name f q3] env)) (backToKw q4 (keywordEach [] env)) = true := fun env => rfl
  have hpos : ∀ (o : Expr) (env : PySem.Env), methodCallPos true o env q2 q4 = pure q4 := fun o env => by
    unfold methodCallPos
    simp [hline]
  unfold methodCall
  rw [hform]
  show wpAny _ _ (holding _ (getMethod (.ref h₁.objs.size) "__init__" _) >>= _) _ _ _
  refine wpAny_bind (wpAny_holding (kxs_getMethod kxs_ValueError e₂ (looks_opaque X₂ T.opq) hkm rfl X₂ hsup hI hxC (by decide) ?_))
  refine wpAny_bind (wpAny_of_eq (hpos _ _) ?_)
  have k₃ : ∀ b o, hp.get? b = some o → (h₂.push (kxs_mw "ValueError.__init__" x)).get? b = some o := fun b o e => Heap.get?_push_of_some _ (k₂ _ _ (hk₁ _ _ e))
  have hn₃ : (h₂.push (kxs_mw "ValueError.__init__" x)).Ns hp.objs.size (fun y => ([("self", Value.ref x), (f, v)] : List (Str × Value)).reverse.lookup y) := by
    obtain ⟨o, es, ep, e1, r⟩ := hns
    exact ⟨o, es, ep, Heap.get?_push_of_some _ (k₂ _ _ e1), r⟩
  refine kxs_callWith (i := "ValueError.__init__") (x := x) rfl (evalArgs_plain ?_)
  refine Calls.spliced_cons (wpAny_Name (wpAny_loadName_local rfl kf hn₃ hval ?_) fd)
  refine Calls.spliced_nil ⟨Heap.get?_push_size _ rfl, ?_⟩
  refine call_bound ((X.keeps k₃) _ _ hC) (Heap.get?_push_size _ rfl) (k₃ _ _ hx) fun h₄ t2 k₄ hx₄ => ?_
  -- self.f = f
  have ne : ∀ {b : Addr} {o : Obj}, K.lookup b = some o → b ≠ x := fun {b o} e z => by
    rw [z, hnx] at e
    cases e
  have X₄ : K.In h₄ := fun b o e => k₄ b o (ne e) ((X.keeps k₃) b o e)
  have hLx : hp.objs.size ≠ x := Nat.ne_of_gt (Heap.lt_size hx)
  have hn₄ : h₄.Ns hp.objs.size (fun y => ([("self", Value.ref x), (f, v)] : List (Str × Value)).reverse.lookup y) := by
    obtain ⟨o, es, ep, e1, r⟩ := hn₃
    exact ⟨o, es, ep, k₄ _ _ hLx e1, r⟩
  refine PySem.wpAt_of_wpAny (wpAny_execs_cons (plainObj_wpAny_Assign_Attribute ?_))
  refine wpAny_Name (wpAny_loadName_local rfl kf hn₄ hval ?_) fd
  refine wpAny_Name (wpAny_loadName_local rfl kse hn₄ hself ?_) (by decide)
  refine set_plain X₄ (ox := excO C t2) (od := none) ⟨hx₄, rfl, rfl, trivial⟩ T.sa ?_
  refine exc_osa X₄ hx₄ hcl (show refsVE (.ref C :: bm) = true from hbm) rfl T.noN (fun h₅ tk₅ dx k₅ dn dne hx₅ hn₅ => ?_)
  have z1 : hp.objs.size ≤ dx := Nat.le_of_lt (Nat.lt_of_lt_of_le (Heap.lt_size (show h₄.get? hp.objs.size = some _ from hn₄.choose_spec.choose_spec.choose_spec.1)) dn)
  exact wpAny_execs_nil (hq h₅ tk₅ dx t2 ⟨fun b o hb e => k₅ b o hb (k₄ b o hb (k₃ b o e)), hx₅, z1, dne, hn₅⟩)
/-- a made one -/
structure SupMade (h h' : Heap) (e C d : Addr) (f : Str) (v : Value) : Prop where
  keep : ∀ b o, h.get? b = some o → h'.get? b = some o
  new : h.objs.size ≤ e
  obj : ∃ oe vs, h'.get? e = some oe ∧ oe.cls = .ref C ∧ oe.dict = some d ∧ oe.data = .fields vs ∧ vs[1]? = some .none
  dbig : h.objs.size ≤ d
  dne : d ≠ e
  ns : h'.Ns1 d (fun y => if y = f then some v else none)
theorem sup_made (T : Sup prog K f C fI) {s : Shared} {v : Value} (X : K.In s.heap) (G : s.heap.Ns mainGlobals mg) (msup : mg "super" = none) (Bl : ∃ mb, s.heap.Ns builtinsNs mb ∧ ∀ x : Str, x ≠ "__name__" → mb x = bootBuiltins x)
    (hlim : s.heap.NoLimit) (hroom : A.depth + 1 < recursionLimit) (hq : ∀ h' tk e d, SupMade s.heap h' e C d f v → R (.ok (.ret (.ref e))) { s with heap := h', toks := tk }) :
    codeAny (model prog w) A (.call (.ref C) ⟨[v], []⟩) R s := by
  obtain ⟨nm, q, N, bs, bm, sn, sub, ab, col, dd, k0, k1, k2, k3, k5, hC, hbm⟩ := T.cls
  obtain ⟨hp, g, dr, tk, os⟩ := s
  have k : ∀ b o, hp.get? b = some o → ((hp.push (kdv_tup [v])).push (excO C hp.objs.size)).get? b = some o := fun b o e => Heap.get?_push_of_some _ (Heap.get?_push_of_some _ e)
  have hget : ((hp.push (kdv_tup [v])).push (excO C hp.objs.size)).get? (hp.objs.size + 1) = some (excO C hp.objs.size) := by heap_get
  have hnx : K.lookup (hp.objs.size + 1) = none := by
    cases e : K.lookup (hp.objs.size + 1) with
    | none => rfl
    | some o => exact absurd (Nat.lt_of_succ_lt (Heap.lt_size (X _ _ e))) (Nat.lt_irrefl _)
  obtain ⟨mb, B1, B2⟩ := Bl
  refine call_own F.excBase_ValueError (fun X => refsVE_contains X bm hbm) (X _ _ hC) (looks_findIn X T.iC) (fun self => bind_fn X self T.tC) (one_small v) ?_
  refine sup_init (mg := mg) (s := ⟨(hp.push (kdv_tup [v])).push (excO C hp.objs.size), g, dr, tk, os⟩) T (X.keeps k) (G.keeps k) msup ⟨mb, B1.keeps k, B2⟩ (hlim.keeps k) hget hnx hroom fun h' tk' dx t1 ⟨k', hx, dn, dne, hns⟩ => ?_
  have old : ∀ b o, hp.get? b = some o → h'.get? b = some o := fun b o e => k' b o (Nat.ne_of_lt (Nat.lt_succ_of_lt (Heap.lt_size e))) (k b o e)
  have z : hp.objs.size + 1 + 1 ≤ dx := by
    have y := dn
    rw [Heap.size_push, Heap.size_push] at y
    exact y
  exact ⟨rfl, hq h' tk' (hp.objs.size + 1) dx ⟨old, Nat.le_succ _, ⟨_, _, hx, rfl, rfl, rfl, rfl⟩, Nat.le_trans (Nat.le_trans (Nat.le_succ _) (Nat.le_succ _)) z, dne, hns⟩⟩
end
end PV
end

section
set_option Elab.async false
set_option linter.all false
set_option maxRecDepth 100000
/-! PVE: own exceptions, made and caught. -/
namespace PV
open PySem PySem.Spec PyProof.Rows L2
section
variable {X : Cx} {xa : List (Addr × Str)} {ec : Nat → Addr} {cf : CF} {W : WX} {sub : Nat → Nat → Bool}
/-- X() of an own class without an own __init__ -/
theorem pmk_own0 {C : Addr} {bmB : List Value} {B newId initId : String} {x : Str} {p pos : Pos} (F : ExcBaseFacts B newId initId bmB) (q : PySem.W.excIn X.K C bmB newId = true) (gC : X.mg x = some (.ref C)) (kC : PySem.W.keepIn X.K (.ref C) = true) (r : Raises X (.ref C)) (hg : Gl X x)
    (hdb : (x == ("__debug__" : Str)) = false) : PMk X (.Call (.Name x p) [] [] pos) (fun _ H Q => Q (.ref C) none H) := by
  intro pins s σ H Q I h
  refine wpAny_Call_Name_kw (ld_glob I hg gC ?_ hdb)
  refine PySem.W.callWith_K0 I.kIn kC ?_
  show wpAny _ _ (call (.ref C) []) _ _ _
  obtain ⟨bm, N, nm, qn, bs, hdct, sn, sub, ab, col, dd, k0, k1, k2, k3, k5, mN, hC, hN, hni, T⟩ := exc_obj I.kIn q
  refine wpAny_call_exc_subT F T hC hN hni (fun h' e hm => ?_) (Nat.zero_le _)
  exact mk_of I hm r h (I.hok.gone hm.new)
theorem s_rais0 {c : Nat} {bmB : List Value} {B newId initId : String} {x : Str} {p pos pos' : Pos} (hc : X.calm = true) (tk : Takes X W) (F : ExcBaseFacts B newId initId bmB) (q : PySem.W.excIn X.K (ec c) bmB newId = true) (gC : X.mg x = some (.ref (ec c))) (kC : PySem.W.keepIn X.K (.ref (ec c)) = true)
    (r : Raises X (.ref (ec c))) (hg : Gl X x) (hdb : (x == ("__debug__" : Str)) = false) : PS X (.Raise (some (.Call (.Name x p) [] [] pos)) none pos') (tS X xa ec cf W sub (.rais c .nil)) :=
  ps_mono (ps_raise hc tk (pmk_own0 F q gC kC r hg hdb)) fun D σ H ⟨F, ρ, m, env, R, E, P⟩ => P F ρ H σ _ _ (Ext.refl _ _ _) R E ⟨rfl, .inl ⟨rfl, rfl⟩⟩
/-- X(e): super().__init__(x); self.x = x -/
def tMkS (C : Addr) (f : Str) (ta : TA) : L2.St → Hp → XK → Prop := fun σ H Q => ta σ H fun vs H1 => ∃ v, vs = [v] ∧ ∀ d, H1 d = none → Q (.ref C) (some d) (upd H1 d (.xd [(f, v)]))
theorem relO_one {v : V} {v' : Value} {f : Str} (r : RelV v v') (g : Str) : RelO (List.lookup g [(f, v)]) (if g = f then some v' else none) := relO_put (fs := []) (mA := fun _ => none) r (fun _ => True.intro) g
theorem pmk_sup {x f : Str} {C fI : Addr} {a : Expr} {ta : TA} {p pos : Pos} (T : Sup X.prog X.K f C fI) (gC : X.mg x = some (.ref C)) (ms : X.mg "super" = none) (hr : X.A.depth + 1 < recursionLimit) (ha : PA X [a] ta) (hg : Gl X x) (hdb : (x == ("__debug__" : Str)) = false)
    (he : starEach [a] X.env = (false, eval a X.env) :: starEach [] X.env) : PMk X (.Call (.Name x p) [a] [] pos) (tMkS C f ta) := by
  intro pins s σ H Q I h
  refine wpAny_Call_Name_kw (ld_glob I hg gC ?_ hdb)
  refine PySem.W.callWith_K (h₀ := X.base) I.ok.mod.kin T.kC (thn (ha.run pos pins s σ H _ I h) fun us s1 hh => ?_) he rfl
  obtain ⟨vs, H1, I1, r1, v, ev, q1⟩ := hh
  subst ev
  refine ⟨I1.kIn, ?_⟩
  cases r1 with
  | @cons _ v' _ us' rv rn =>
    cases rn
    show wpAny _ _ (call (.ref C) [v']) _ _ _
    have lim := I1.nolimit
    have gl := I1.mod.glob.keeps I1.bk
    obtain ⟨mb, b1, b2⟩ := I1.mod.blt
    have b1 := b1.keeps I1.bk
    obtain ⟨hp, g, dr, tk, os⟩ := s1
    refine wpAny_call (sup_made (mg := X.mg) T I1.kIn gl ms ⟨mb, b1, b2⟩ lim hr fun h' tk' e d M => ?_)
    show MkP X pins σ Q (.ref e) ⟨h', g, dr, tk', os⟩
    obtain ⟨oe, fv, ho, hc, hd, hdat, h1⟩ := M.obj
    obtain ⟨G', g1, g2⟩ := restrict h' fun b => decide (b ≠ e)
    have off : ∀ b, b ≠ e → G'.get? b = h'.get? b := fun b hb => g1 b (decide_eq_true hb)
    have gone : G'.get? e = none := g2 e (by simp)
    have old : ∀ b o, hp.get? b = some o → G'.get? b = some o := fun b o q => (off b (Nat.ne_of_lt (Nat.lt_of_lt_of_le (Heap.lt_size q) M.new))).trans (M.keep b o q)
    have ob : ObjOk X.prog X.w (upd H1 d (.xd [(f, v)])) G' d (.xd [(f, v)]) := ⟨_, M.ns.at (fun o q => (off d M.dne).trans q), fun g => relO_one rv g⟩
    have J : Inv X pins σ (upd H1 d (.xd [(f, v)])) ⟨G', g, dr, tk', os⟩ := I1.laid (t' := tk') old M.dbig ob
    refine ⟨e, oe, fv, ⟨G', g, dr, tk', os⟩, _, .ref C, some d, rfl, J, fun b o q => ?_, gone, ho, ⟨hc, hd⟩, hdat, h1, ?_, rfl, I1.bare, raises_own T.exC T.tyC, q1 d (I1.hok.fresh M.dbig)⟩
    · by_cases hb : b = e
      · have q : G'.get? b = some o := q
        rw [hb, gone] at q
        cases q
      · exact (off b hb).symm.trans q
    · rw [upd_ne (Ne.symm M.dne)]
      exact I1.hok.fresh M.new
theorem s_rais1 {c : Nat} {x f : Str} {fI : Addr} {a : Expr} {ea : Ex} {p pos pos' : Pos} (hc : X.calm = true) (tk : Takes X W) (T : Sup X.prog X.K f (ec c) fI) (gC : X.mg x = some (.ref (ec c))) (ms : X.mg "super" = none) (hr : X.A.depth + 1 < recursionLimit)
    (ha : PE X a (tE X xa ec cf W ea)) (hg : Gl X x) (hdb : (x == ("__debug__" : Str)) = false) (he : starEach [a] X.env = (false, eval a X.env) :: starEach [] X.env) :
    PS X (.Raise (some (.Call (.Name x p) [a] [] pos)) none pos') (tS X xa ec cf W sub (.rais c (.cons (.c (.str f)) (.cons ea .nil)))) := by
  refine ps_mono (ps_raise hc tk (pmk_sup T gC ms hr (pa_cons ha pa_nil he) hg hdb he)) fun D σ H ⟨F, ρ, m, env, R, E, P⟩ => ?_
  refine ⟨F, ρ, m, env, R, E, ?_⟩
  cases r : evE cf ea env m with
  | bad =>
    simp only [evS, evEs, evE, Res.bind, r, S.of] at P
    exact P
  | ex k fs m1 =>
    simp only [evS, evEs, evE, Res.bind, r, S.of] at P
    exact fun F' ρ' H' cls d e R' q => P F' ρ' H' σ cls d e R' (E.ext e) q
  | ok y m1 =>
    simp only [evS, evEs, evE, Res.bind, r, S.of] at P
    intro F' ρ' H' v e R' rv
    refine ⟨v, rfl, fun d hd => ?_⟩
    cases y with
    | d z =>
      simp only [allD, S.opt] at P
      obtain ⟨R2, E2⟩ := R'.put (o := .xd [(f, v)]) hd
      exact P _ ρ' _ σ _ _ (e.trans E2) R2 (E.ext (e.trans E2)) ⟨rfl, .inr ⟨f, z, d, v, rfl, rfl, upd_same, Df.mono E2.fle rv, T.noN⟩⟩
    | loc _ => simp only [allD, S.opt] at P; exact False.elim P
    | exc _ _ => simp only [allD, S.opt] at P; exact False.elim P
    | ro _ => simp only [allD, S.opt] at P; exact False.elim P
/-! ### what a suite makes of it -/
def cV : D → Option V
  | .none => some .non
  | .bool b => some (.bl b)
  | .int i => some (.int i)
  | .str x => if x.length ≤ LIM then some (.str x) else none
  | _ => none
theorem cV_df {K : PySem.W.Frag} {F : Hp} {d : D} {v : V} (h : cV d = some v) : Df K F v d := by
  unfold cV at h
  split at h
  · cases h; exact .non
  · cases h; exact .bl _
  · cases h; exact .int _
  · rename_i x
    split at h
    · rename_i hx; cases h; exact .str x hx
    · cases h
  · cases h
/-- an atom's reading -/
def tHa (K : PySem.W.Frag) (ec : Nat → Addr) (sub : Nat → Nat → Bool) (nm : Nat) (x : HA) (a : Addr) (cls : Value) (d : Option Addr) : TE := fun σ H Q => ∃ (k : Nat) (fs : List PV.D) (y : PV.D) (σ0 : L2.St) (F : Hp), Same F H ∧ ExR K ec F H k fs cls d ∧ σ = σ0.set nm (some (.ref a)) ∧ haV sub k fs x = some y ∧ ∀ v, Df K F v y → Q v H
def tHas (K : PySem.W.Frag) (ec : Nat → Addr) (sub : Nat → Nat → Bool) (nm : Nat) (l : List HA) (a : Addr) (cls : Value) (d : Option Addr) : TA := fun σ H Q => ∃ (k : Nat) (fs ys : List PV.D) (σ0 : L2.St) (F : Hp), Same F H ∧ ExR K ec F H k fs cls d ∧ σ = σ0.set nm (some (.ref a)) ∧ haAll sub k fs l = some ys ∧ ∀ vs, Dfs K F vs ys → Q vs H
def tHv (X : Cx) (xa : List (Addr × Str)) (ec : Nat → Addr) (sub : Nat → Nat → Bool) (nm : Nat) (h : HX) (a : Addr) (cls : Value) (d : Option Addr) : TE := fun σ H Q => ∃ (k : Nat) (fs : List PV.D) (y : PV.D) (σ0 : L2.St) (F : Hp) (ρ : List Addr) (m : Mem), Rep X.K xa F ρ m H ∧ ExR X.K ec F H k fs cls d ∧ σ = σ0.set nm (some (.ref a)) ∧ hv sub k fs h = some y ∧ Gives X.K xa F ρ m H y Q
section
variable {a : Addr} {oe : Obj} {cls : Value} {d : Option Addr} {pn : List (Addr × Obj)} {nm : Nat} {n y : Str} {p1 p2 p3 pos : Pos}
theorem slot_at {σ0 : L2.St} {nm l : Nat} {v : V} (hl : nm < l) (e : (σ0.set nm (some v)).length = l) : (σ0.set nm (some v))[nm]? = some (some v) := by
  rw [List.length_set] at e
  rw [List.getElem?_set_self (by omega)]
theorem h_c {v : V} {x : D} {e : Expr} (he : PE (X.suite a pn) e (tC v)) (hv' : cV x = some v) : PE (X.suite a pn) e (tHa X.K ec sub nm (.c x) a cls d) :=
  pe_mono he fun σ H Q ⟨k, fs, w, σ0, F, h0, _, _, h4, h5⟩ => by
    have h4 : some x = some w := h4
    cases h4
    exact h5 v (cV_df hv')
theorem call_isD {X : Cx} {a D : Addr} {oe : Obj} {d : Option Addr} {pn : List (Addr × Obj)} (C : ExcC X.K D) (hz : Zc (.ref D) d oe) (hf : ∃ vs, oe.data = .fields vs) :
    CallR (X.suite a ((a, oe) :: pn)) (.builtin "isinstance") (fun xs H Q => ∃ (c : V) (cv : Value) (b : Bool), xs = [.ref a, c] ∧ (∀ u, RelV c u → u = cv) ∧ PySem.W.kitOne X.K (.ref D) cv = some b ∧ (d = none ∨ ∃ dd fs, d = some dd ∧ H dd = some (.xd fs)) ∧ Q (.bl b) H) := by
  intro pins s σ H xs us Q I r h
  obtain ⟨c, cv, b, rfl, hcv, e, hd, q⟩ := h
  cases r with
  | cons rx rr =>
    cases rr with
    | cons rt rr =>
      cases rr
      cases rx
      have ec := hcv _ rt
      subst ec
      obtain ⟨got, _⟩ := I.pin (a, oe) (List.mem_append.mpr (.inl List.mem_cons_self))
      obtain ⟨vs, hv⟩ := hf
      have J : ∃ od, PySem.W.InstAt s.heap a oe D od := by
        rcases hd with rfl | ⟨dd, fs, rfl, hH⟩
        · obtain ⟨oc, od, oda, osl⟩ := oe
          obtain ⟨h1, h2⟩ := hz
          dsimp only at h1 h2 hv
          subst h1 h2 hv
          exact ⟨none, got, rfl, rfl, trivial⟩
        · have hx : ObjOk X.prog X.w H s.heap dd (.xd fs) := I.hok dd _ hH
          obtain ⟨mA, hns, hr⟩ := hx
          obtain ⟨od, ho, hl⟩ := lookIn_ns hns
          exact ⟨some od, got, hz.1, by unfold PySem.W.notCls; rw [hv] <;> rfl, by rw [hz.2]; exact ho⟩
      obtain ⟨od, J⟩ := J
      have hcl : (PySem.W.clsIn X.K D).isSome = true := by
        obtain ⟨cd, hc, _⟩ := PySem.W.any_some C.hd
        rw [hc]
        rfl
      exact PySem.W.kia_one (PySem.W.kitx_exc hcl C.hg C.hk C.hs C.ha C.hn C.ht C.hm) I.kIn J e (fun z => nomatch z) fun tk => ⟨.bl b, H, I.kept (t' := tk) fun _ _ z => z, rfl, q⟩
theorem h_is {cv : Value} {c : Expr} {q : V} (x : HA) (r : Nat → Bool) (hx : ∀ k fs, haV sub k fs x = some (.bool (r k)))
    (hN : X.N[nm]? = some n) (hv' : Vis X.env.scope n) (hd : (n == ("__debug__" : Str)) = false) (hcd : (n == ("__classdict__" : Str)) = false) (hg : Gl X "isinstance") (hm : X.mg "isinstance" = none) (hc : PE (X.suite a ((a, oe) :: pn)) c (tC q)) (hq : ∀ u, RelV q u → u = cv)
    (hstar : starEach [c] X.env = (false, eval c X.env) :: starEach [] X.env)
    (C : ∀ k, ExcC X.K (ec k)) (ks : ∀ k, PySem.W.kitOne X.K (.ref (ec k)) cv = some (r k)) (hz : Zc cls d oe) (hf : ∃ vs, oe.data = .fields vs) :
    PE (X.suite a ((a, oe) :: pn)) (.Call (.Name "isinstance" p1) [.Name n p2, c] [] pos) (tHa X.K ec sub nm x a cls d) := by
  refine ⟨fun pins s σ H Q I ⟨k, fs, w, σ0, F, h0, h1, h3, h4, h5⟩ => ?_⟩
  have hlen : nm < σ.length := by rw [I.len]; exact (List.getElem?_eq_some_iff.mp hN).1
  have h3' : σ[nm]? = some (some (.ref a)) := by
    rw [h3] at hlen ⊢
    exact slot_at hlen rfl
  rw [hx] at h4
  cases h4
  have hN' : (X.suite a ((a, oe) :: pn)).N[nm]? = some n := hN
  obtain ⟨rfl, hd0⟩ := h1
  have hz0 : oe.cls = .ref (ec k) := hz.1
  have hdd : d = none ∨ ∃ dd fs, d = some dd ∧ H dd = some (.xd fs) := by
    rcases hd0 with ⟨_, e⟩ | ⟨g, x, dd, v, _, e, hH, _⟩
    · exact .inl e
    · exact .inr ⟨dd, _, e, hH⟩
  refine (pe_callB (X := X.suite a ((a, oe) :: pn)) (call_isD (C k) hz hf) hg hm rfl (pa_cons (pe_var (X := X.suite a ((a, oe) :: pn)) hN' hv' hd hcd) (pa_cons hc pa_nil hstar)) (by decide) (by decide) rfl (by show (backTo pos (starEach [c] X.env)).any (·.1) = false; rw [hstar]; rfl)).run pins s σ H Q I ?_
  exact ⟨_, h3', q, cv, _, rfl, hq, ks k, hdd, h5 _ (.bl _)⟩
theorem h_fld {f : Str} (hN : X.N[nm]? = some n) (hv' : Vis X.env.scope n) (hd : (n == ("__debug__" : Str)) = false) (hcd : (n == ("__classdict__" : Str)) = false) (C : ∀ k, ExcC X.K (ec k)) (hz : Zc cls d oe) (hf : ∃ vs, oe.data = .fields vs)
    (hb : attributeBase (.Name n p2) f X.env (eval (.Name n p2) X.env) = eval (.Name n p2) X.env) :
    PE (X.suite a ((a, oe) :: pn)) (.Attribute (.Name n p2) f pos) (tHa X.K ec sub nm (.fld f) a cls d) := by
  refine ⟨fun pins s σ H Q I ⟨k, fs, w, σ0, F, h0, h1, h3, h4, h5⟩ => ?_⟩
  have hlen : nm < σ.length := by rw [I.len]; exact (List.getElem?_eq_some_iff.mp hN).1
  have h3' : σ[nm]? = some (some (.ref a)) := by
    rw [h3] at hlen ⊢
    exact slot_at hlen rfl
  obtain ⟨rfl, hd0⟩ := h1
  rcases hd0 with ⟨rfl, rfl⟩ | ⟨g, x, dd, v, rfl, rfl, hH, df, hno⟩
  · cases h4
  · have h4 : (if decide (g = f) then some x else none) = some w := h4
    by_cases e : g = f
    · subst e
      rw [if_pos (decide_eq_true rfl)] at h4
      cases h4
      have hN' : (X.suite a ((a, oe) :: pn)).N[nm]? = some n := hN
      have T : XfC X.K (ec k) := ⟨(C k).hg, (C k).hk, (C k).hs, (C k).hd⟩
      refine (pe_xf (X := X) T hno hz hf (pe_var (X := X.suite a ((a, oe) :: pn)) hN' hv' hd hcd) hb).run pins s σ H Q I ?_
      exact ⟨_, h3', rfl, rfl, dd, _, v, rfl, hH, by simp [List.lookup], h5 v df⟩
    · rw [if_neg (by rw [decide_eq_false e]; exact Bool.false_ne_true)] at h4
      cases h4
theorem has_nil : PA (X.suite a pn) [] (tHas X.K ec sub nm [] a cls d) :=
  pa_mono pa_nil fun σ H Q ⟨k, fs, ys, σ0, F, h0, _, _, h4, h5⟩ => by
    have h4 : some [] = some ys := h4
    cases h4
    exact h5 [] .nil
theorem has_cons {e : Expr} {es : List Expr} {x : HA} {l : List HA} (h1 : PE (X.suite a pn) e (tHa X.K ec sub nm x a cls d)) (h2 : PA (X.suite a pn) es (tHas X.K ec sub nm l a cls d)) (hs : starEach (e :: es) X.env = (false, eval e X.env) :: starEach es X.env) :
    PA (X.suite a pn) (e :: es) (tHas X.K ec sub nm (x :: l) a cls d) :=
  pa_mono (pa_cons h1 h2 hs) fun σ H Q ⟨k, fs, ys, σ0, F, h0, h1, h3, h4, h5⟩ => by
    unfold haAll at h4
    split at h4
    · rename_i z zs e1 e2
      cases h4
      exact ⟨k, fs, z, σ0, F, h0, h1, h3, e1, fun v dv => ⟨k, fs, zs, σ0, F, h0, h1, h3, e2, fun vs dvs => h5 _ (.cons dv dvs)⟩⟩
    · cases h4
theorem hx_one {e : Expr} {x : HA} (h : PE (X.suite a pn) e (tHa X.K ec sub nm x a cls d)) : PE (X.suite a pn) e (tHv X xa ec sub nm (.one x) a cls d) :=
  pe_mono h fun σ H Q ⟨k, fs, y, σ0, F, ρ, m, R, h1, h3, h4, g⟩ => ⟨k, fs, y, σ0, F, R.le, h1, h3, h4, fun v dv => gives_flat R g dv⟩
theorem hx_tup {es : List Expr} {l : List HA} {kk : Nat} (h : PA (X.suite a pn) es (tHas X.K ec sub nm l a cls d)) : PE (X.suite a pn) (.Tuple es kk pos) (tHv X xa ec sub nm (.tup l) a cls d) :=
  pe_mono (pe_tupB h) fun σ H Q ⟨k, fs, y, σ0, F, ρ, m, R, h1, h3, h4, g⟩ => by
    have h4 : (if decide (l.length ≤ 1000) then (haAll sub k fs l).map PyData.tuple else none) = some y := h4
    split at h4
    · rename_i hl
      have hl := of_decide_eq_true hl
      obtain ⟨ys, e1, rfl⟩ := map_some h4
      have len : ∀ {l : List HA} {ys : List PV.D}, haAll sub k fs l = some ys → ys.length = l.length := by
        intro l
        induction l with
        | nil => intro ys e; have e : some ([] : List PV.D) = some ys := e; cases e; rfl
        | cons x l ih =>
          intro ys e
          unfold haAll at e
          split at e
          · rename_i z zs e1 e2
            cases e
            simp [ih e2]
          · cases e
      have hy := len e1
      exact ⟨k, fs, ys, σ0, F, R.le, h1, h3, e1, fun vs dv => ⟨by rw [dv.len, hy, ← lim_eq]; exact Nat.le_trans hl (by decide), gives_tup R g dv (by rw [hy]; exact Nat.le_trans hl (by decide))⟩⟩
    · cases h4
theorem hx_lst {es : List Expr} {l : List HA} (h : PA (X.suite a pn) es (tHas X.K ec sub nm l a cls d)) : PE (X.suite a pn) (.List es pos) (tHv X xa ec sub nm (.lst l) a cls d) :=
  pe_mono (pe_lst h) fun σ H Q ⟨k, fs, y, σ0, F, ρ, m, R, h1, h3, h4, g⟩ => by
    have h4 : (if decide (l.length ≤ 1000) then (haAll sub k fs l).map PyData.list else none) = some y := h4
    split at h4
    · rename_i hl
      have hl := of_decide_eq_true hl
      obtain ⟨ys, e1, rfl⟩ := map_some h4
      have len : ∀ {l : List HA} {ys : List PV.D}, haAll sub k fs l = some ys → ys.length = l.length := by
        intro l
        induction l with
        | nil => intro ys e; have e : some ([] : List PV.D) = some ys := e; cases e; rfl
        | cons x l ih =>
          intro ys e
          unfold haAll at e
          split at e
          · rename_i z zs e1 e2
            cases e
            simp [ih e2]
          · cases e
      have hy := len e1
      exact ⟨k, fs, ys, σ0, F, R.le, h1, h3, e1, fun vs dv => ⟨by rw [dv.len, hy, ← lim_eq]; exact Nat.le_trans hl (by decide), gives_lst R g dv (by rw [hy]; exact Nat.le_trans hl (by decide))⟩⟩
    · cases h4
end
theorem h_ite {j : Nat} {u v : D} {t e1 e2 : Expr} {a : Addr} {oe : Obj} {cls : Value} {d : Option Addr} {pn : List (Addr × Obj)} {nm : Nat} {pos : Pos} (ht : PE (X.suite a pn) t (tHa X.K ec sub nm (.isE j) a cls d))
    (hp : ∀ whole, isTrue t X.env whole = (do let v ← whole; standAt t.pos; holding [v] (truthy v))) (h1 : PE (X.suite a pn) e1 (tHa X.K ec sub nm (.c u) a cls d)) (h2 : PE (X.suite a pn) e2 (tHa X.K ec sub nm (.c v) a cls d)) :
    PE (X.suite a pn) (.IfExp t e1 e2 pos) (tHv X xa ec sub nm (.ite j u v) a cls d) := by
  refine pe_mono (pe_ifExp (pt_val ht hp) h1 h2) fun σ H Q ⟨k, fs, x, σ0, F, ρ, m, R, g2, g3, g4, g5⟩ => ?_
  have g4 : some (if sub k j then u else v) = some x := g4
  refine ⟨k, fs, .bool (sub k j), σ0, F, R.le, g2, g3, rfl, fun w dw => ?_⟩
  cases dw
  refine ⟨_, rfl, ?_⟩
  cases hb : sub k j with
  | true =>
    rw [hb] at g4
    cases g4
    exact ⟨k, fs, _, σ0, F, R.le, g2, g3, rfl, fun v dv => gives_flat R g5 dv⟩
  | false =>
    rw [hb] at g4
    cases g4
    exact ⟨k, fs, _, σ0, F, R.le, g2, g3, rfl, fun v dv => gives_flat R g5 dv⟩
theorem repE_caught {K : PySem.W.Frag} {F : Hp} {ρ : List Addr} {σ : L2.St} {env : Env} {i nm : Nat} {v : V} {x : D} {w : Option V} (E : RepE K xa F ρ σ env) (h : Df K F v x) : RepE K xa F ρ (((σ.set nm w).set i (some v)).set nm none) ((env.set i (some (.d x))).set nm none) := by
  refine ⟨by simp [E.1], fun j y hy => ?_⟩
  by_cases hj : j = nm
  · subst hj
    rw [List.getElem?_set] at hy
    split at hy
    · split at hy <;> cases hy
    · rename_i h; exact absurd rfl h
  · rw [List.getElem?_set_ne (Ne.symm hj)] at hy ⊢
    by_cases hi : j = i
    · subst hi
      have hl : j < env.length := by
        have := (List.getElem?_eq_some_iff.mp hy).1
        simpa using this
      rw [List.getElem?_set_self hl] at hy
      cases hy
      refine ⟨v, ?_, h⟩
      rw [List.getElem?_set_self (by simpa [E.1] using hl)]
    · rw [List.getElem?_set_ne (Ne.symm hi)] at hy ⊢
      rw [List.getElem?_set_ne (Ne.symm hj)]
      exact E.2 j y hy
theorem s_try {body : List Stmt} {b : Sts} {c nm i : Nat} {h : HX} {x n y : Str} {e : Expr} {np py pa pos pos' : Pos} (hs : X.stack = X.env :: X.outer) (hf : X.env.frame = some X.env.locals) (hN : X.N.Nodup) (hi : X.N[nm]? = some n) (hln : X.env.kindOf n = some .local) (hc : Names X x (.ref (ec c))) (tk : Takes X W)
    (hb : ∀ (W : WX) (pn : List (Addr × Obj)) (xe : Value → Shared → Prop), Takes (X.tr pn xe) W → PassesOwn (model X.prog X.w) X.A X.env xe → PSs (X.tr pn xe) body (tSs X xa ec cf W sub b))
    (hj : X.N[i]? = some y) (hly : L2.Loc X.env.scope y) (hfy : X.fn y = true ∨ X.env.scope.names.lookup y = some .local)
    (hh : ∀ (a : Addr) (oe : Obj) (cls : Value) (d : Option Addr) (pn : List (Addr × Obj)), Zc cls d oe → (∃ vs, oe.data = .fields vs) → PE (X.suite a ((a, oe) :: pn)) e (tHv X xa ec sub nm h a cls d))
    (ex : ∀ k c, PySem.W.exmOne X.K (.ref (ec k)) (.ref (ec c)) = some (sub k c))
    (hsw : swapsWithSole [.Name y py] e pa.line X.env = pure false) (hw : swappedStores [.Name y py] e X.env = pure none) (h1 : (assignEach [.Name y py] X.env).map (·.2) = [assign (.Name y py) X.env]) :
    PS X (.Try body [.ExceptHandler (some (.Name x np)) (some n) [.Assign [.Name y py] e pa] pos'] [] [] pos) (tS X xa ec cf W sub (.trye b [⟨c, nm, i, h⟩])) := by
  refine ps_mono (ps_try_as (ts := fun a cls d => tAsg (tHv X xa ec sub nm h a cls d) (gName i)) (tb := fun W => tSs X xa ec cf W sub b) hs hf hN hi hln hc tk hb fun a oe cls d pn z f => pss_one (ps_asg (hh a oe cls d pn z f) (pg_name (X := X.suite a ((a, oe) :: pn)) hN hj hly hfy) hsw hw h1)) fun D σ H ⟨F, ρ, m, env, R, E, P⟩ => ?_
  refine ⟨F, ρ, m, env, R, E, ?_⟩
  have P : PostS X xa ec W F ρ H (match evSs cf sub b env m with
    | .ex k fs env1 m1 => catchE sub k fs env1 m1 [⟨c, nm, i, h⟩]
    | r => r) D := P
  cases r : evSs cf sub b env m with
  | nx env1 m1 => rw [r] at P; exact P
  | rt v m1 => rw [r] at P; exact P
  | bk env1 m1 => rw [r] at P; exact P
  | ct env1 m1 => rw [r] at P; exact P
  | bad => rw [r] at P; exact P
  | ex k fs env1 m1 =>
    rw [r] at P
    intro F' ρ' H' σ' cls d e' R' E' q
    have q0 : cls = .ref (ec k) := q.1
    subst q0
    unfold catchE at P
    dsimp only at P
    refine ⟨sub k c, ex k c, fun hs a na => ?_, fun hs => ?_⟩
    · rw [if_pos hs] at P
      cases hv1 : hv sub k fs h with
      | none => rw [hv1] at P; exact False.elim P
      | some v =>
        rw [hv1] at P
        exact ⟨k, fs, v, σ', F', ρ', m1, R', q, rfl, hv1, fun F2 H2 w E2 R2 dw => P F2 ρ' H2 _ (e'.trans E2) R2 (repE_caught (E'.ext E2) dw)⟩
    · rw [if_neg (by rw [hs]; exact Bool.false_ne_true)] at P
      exact P F' ρ' H' σ' _ _ e' R' E' q
end
end PV
end

section
set_option Elab.async false
set_option linter.all false
set_option maxRecDepth 100000
/-! PVT: several except clauses, each with a name for what it caught. -/
namespace PV
open PySem PySem.Spec PyProof.Rows L2
/-- a clause: its class, the slot of its name, its suite's reading -/
abbrev Cls3 := Value × Nat × (Addr → Value → Option Addr → TS)
/-- where a suite ends, its name gone again -/
def dGone (i : Nat) (D : Ends) : Ends := { nx := fun σ' H' => D.nx (σ'.set i none) H', rt := D.rt, bk := fun σ' H' => D.bk (σ'.set i none) H', ct := fun σ' H' => D.ct (σ'.set i none) H' }
/-- one clause after the other -/
def wClauses (K : PySem.W.Frag) (Wout : WX) (D : Ends) : List Cls3 → WX
  | [] => Wout
  | p :: r => fun cls d σ H => ∃ b, PySem.W.exmOne K cls p.1 = some b ∧ (b = true → ∀ a, H a = none → p.2.2 a cls d (dGone p.2.1 D) (σ.set p.2.1 (some (.ref a))) H) ∧ (b = false → wClauses K Wout D r cls d σ H)
inductive ClsAre (X : Cx) : List ExceptHandler → List Cls3 → Prop
  | nil : ClsAre X [] []
  | cons {x n : Str} {c : Value} {i : Nat} {ts : Addr → Value → Option Addr → TS} {b₀ : Stmt} {suite : List Stmt} {np pos' : Pos} {hds : List ExceptHandler} {l : List Cls3} (hc : Names X x c) (hi : X.N[i]? = some n) (hln : X.env.kindOf n = some .local)
      (su : ∀ (a : Addr) (oe : Obj) (cls : Value) (d : Option Addr) (pn : List (Addr × Obj)), Zc cls d oe → (∃ vs, oe.data = .fields vs) → PSs (X.suite a ((a, oe) :: pn)) (b₀ :: suite) (ts a cls d)) (r : ClsAre X hds l) :
      ClsAre X (.ExceptHandler (some (.Name x np)) (some n) (b₀ :: suite) pos' :: hds) ((c, i, ts) :: l)
section
variable {X : Cx} {body : List Stmt} {h₀ : ExceptHandler} {hds : List ExceptHandler} {l : List Cls3} {pos : Pos} {tb : WX → TS} {Wout : WX}
theorem ps_clauses (hs : X.stack = X.env :: X.outer) (hf : X.env.frame = some X.env.locals) (hN : X.N.Nodup) (tk : Takes X Wout)
    (hb : ∀ (W : WX) (pn : List (Addr × Obj)) (xe : Value → Shared → Prop), Takes (X.tr pn xe) W → PassesOwn (model X.prog X.w) X.A X.env xe → PSs (X.tr pn xe) body (tb W))
    (hh : ClsAre X (h₀ :: hds) l) : PS X (.Try body (h₀ :: hds) [] [] pos) (fun D σ H => tb (wClauses X.K Wout D l) D σ H) := by
  refine ⟨fun pins s σ H D I h => ?_⟩
  have ok := I.ok
  refine wpAny_Try_except ?_
  refine wpAny_mono ((hb (wClauses X.K Wout D l) (X.pn ++ pins) (fun e s₁ => wpAny (model X.prog X.w) X.A (noteFrame e X.env) (fun _ s₂ => wpAny (model X.prog X.w) X.A (setFlight e none) (fun _ s₃ =>
    wpAny (model X.prog X.w) X.A (handleBy e X.env (h₀ :: hds)) (SP X pins D) X.xe s₃) X.xe s₂) X.xe s₁) (fun u s' xx => ?_) PassesOwn.looking).run [] s σ H D (I.toTry _) h) (fun f s1 hsp => ?_) (fun e s1 he => he)
  · obtain ⟨a, B, sI, pins', σ', H', cls, d, rfl, J', nb, up, sky, na, os, ag, told⟩ := xx
    have J : Inv X pins σ' H' sI := J'.ofTry ok
    have frames : X.A.frames = some (X.env :: X.outer) := by rw [ok.frames, hs]
    have over : Sky B (X.env :: X.outer) a (Zc cls d) X.env.locals s'.heap := by rw [← hs]; exact sky
    refine Sky.land Zc.steady frames hf over fun h3 fl3 up3 => ?_
    have J3 : Inv X pins σ' H' { s' with heap := h3 } := J.landed nb fl3.1 (up.trans up3) os ag
    obtain ⟨oe3, vs3, he3, hz3, hd3⟩ := fl3.there
    have off : a ∉ frs (X.env :: X.outer) := fun hm => by
      obtain ⟨_, o', e', hnf⟩ := fl3.2.2.1.mem hm
      rw [he3] at e'
      cases e'
      exact hnf _ hd3
    have nL : a ≠ X.env.locals := fun z => off (List.mem_filterMap.mpr ⟨X.env, List.mem_cons_self, by rw [hf, z]⟩)
    have nF : a ∉ X.fs := fun hm => by
      obtain ⟨e, he, q⟩ := List.mem_filterMap.mp hm
      exact off (List.mem_filterMap.mpr ⟨e, List.mem_cons_of_mem _ he, q⟩)
    have S3 := J3.suite he3 hd3 na nL nF
    have looks : PySem.W.Looks (model X.prog X.w) h3 (typeOf (.ref a)) cls := fun A Q E s k q => wpAny_typeOf_ref (k _ _ he3) (by rw [hz3.1]; exact q)
    suffices go : ∀ {cs : List ExceptHandler} {ls : List Cls3}, ClsAre X cs ls → wClauses X.K Wout D ls cls d σ' H' → wpAny (model X.prog X.w) X.A (handleBy (.ref a) X.env cs) (SP X pins D) X.xe { s' with heap := h3 } from go hh told
    intro cs ls are
    induction are with
    | nil =>
      intro told
      refine wpAny_handleBy_nil ?_
      obtain ⟨k1, k2, k3, oe, vs, T, oT, ts', he, hz, hd, h1, hr⟩ := id fl3
      unfold PySem.passOn
      refine wpAny_bind (wpAny_field he hd h1 ?_)
      rw [if_neg (show ¬ ((Value.ref T == Value.none) = true) from by simp)]
      have fin : wpAny (model X.prog X.w) X.A (setFlight (.ref a) X.env.frame) (fun _ s4 => wpAny (model X.prog X.w) X.A (throw (.ref a) : Sem Flow) (SP X pins D) X.xe s4) X.xe { s' with heap := h3 } := by
        rw [hf]
        refine HandSPX.setFlight_upZ fl3 fun h4 hh4 up4 => wpAny_throw (tk _ _ ?_)
        exact ⟨a, B, sI, pins, σ', H', cls, d, rfl, J, nb, (up.trans up3).trans up4, .inr (.inr (by rw [hs]; exact hh4)), na, os, ag, told⟩
      first
        | exact wpAny_bind (wpAny_pure (wpAny_bind fin))
        | exact wpAny_bind fin
    | @cons x n c i ts b₀ suite np pos' cs2 ls2 hc hi hln su r ih =>
      intro told
      obtain ⟨b, isSo, yes, no⟩ := told
      refine wpAny_handleBy_cons (codeAny_handlers_test ?_) (by intro q; cases q)
      have LM := PySem.W.exm_one (M := model X.prog X.w) (J3.kIn) looks isSo
      have named : ∀ {Q : Value → Shared → Prop} {E : Value → Shared → Prop}, Q c { s' with heap := h3 } → wpAny (model X.prog X.w) (X.A.mark (some (.ref a))) (eval (.Name x np) X.env) Q E { s' with heap := h3 } := fun {Q E} q => by
        obtain ⟨hg, hdbg, hm | ⟨hm, hv, hnn⟩⟩ := hc
        · exact ld_glob (X := X.suite a ((a, oe3) :: (X.pn ++ pins))) S3 hg hm q hdbg
        · exact ld_blt (X := X.suite a ((a, oe3) :: (X.pn ++ pins))) S3 hg hm hv q hnn hdbg
      refine named (LM.here ?_)
      cases b with
      | false => exact ih (no rfl)
      | true =>
        refine codeAny_handlers_suite_as ?_
        refine HandSPX.lands_againZ fl3 fun h4 fl4 up4 => ?_
        have J4 : Inv X pins σ' H' { s' with heap := h4 } := J.landed nb fl4.1 ((up.trans up3).trans up4) os ag
        obtain ⟨oe4, vs4, he4, hz4, hd4⟩ := fl4.there
        refine store_ok (X := X.suite a ((a, oe4) :: (X.pn ++ pins))) (v := .ref a) (J4.suite he4 hd4 na nL nF) hN hi (.inl hln) rfl (fun s5 S5 => ?_) (.inr hln)
        refine wpAny_mono ((su a oe4 cls d (X.pn ++ pins) hz4 ⟨_, hd4⟩).run [] s5 _ H' _ S5 (yes rfl a na)) (fun f s6 hsp => ?_) (fun _ _ z => False.elim z)
        have gone : ∀ {σ6 : L2.St} {H6 : Hp} {Q : Shared → Prop}, Inv (X.suite a ((a, oe4) :: (X.pn ++ pins))) [] σ6 H6 s6 → (∀ s7, Inv X pins (σ6.set i none) H6 s7 → Q s7) →
            wpAny (model X.prog X.w) X.A (do bindName X.env n .none; unbindBehindTheSuite X.env n pos') (fun _ s7 => Q s7) X.xe s6 := fun {σ6 H6 Q} S6 hq => gone_ok (S6.unsuite ok) hN hi hln hq
        match f, hsp with
        | .next, ⟨σ6, H6, S6, q6⟩ => exact gone S6 fun s7 J7 => ⟨_, _, J7, q6⟩
        | .brk, ⟨σ6, H6, S6, q6⟩ => exact gone S6 fun s7 J7 => ⟨_, _, J7, q6⟩
        | .cont, ⟨σ6, H6, S6, q6⟩ => exact gone S6 fun s7 J7 => ⟨_, _, J7, q6⟩
        | .ret u, ⟨v6, σ6, H6, S6, r6, q6⟩ => exact gone S6 fun s7 J7 => ⟨_, _, _, J7, r6, q6⟩
  · match f, hsp with
    | .next, ⟨σ', H', J', q⟩ => exact wpAny_execs_nil ⟨σ', H', J'.ofTry ok, q⟩
    | .brk, ⟨σ', H', J', q⟩ => exact ⟨σ', H', J'.ofTry ok, q⟩
    | .cont, ⟨σ', H', J', q⟩ => exact ⟨σ', H', J'.ofTry ok, q⟩
    | .ret u, ⟨v, σ', H', J', r, q⟩ => exact ⟨v, σ', H', J'.ofTry ok, r, q⟩
end
end PV
end

section
set_option Elab.async false
set_option linter.all false
set_option maxRecDepth 100000
set_option maxHeartbeats 1000000
/-! PVC: tuple.count of ints; `is` with True, False (rules, not yet compiled). -/
namespace PV
open PySem PySem.Spec PyProof.Rows L2
section
variable {X : Cx}
/-- xs.count(k), xs a tuple of ints -/
def rCntT (K : PySem.W.Frag) : V → List V → Hp → VK → Prop := fun x xs H Q => ∃ (p : Addr) (ns : List Int) (k : Int), x = .ref p ∧ xs = [.int k] ∧ SqT K H p (ns.map V.int) ∧ Q (.int (ns.count k : Nat)) H
theorem mt_tcount : MtR X "tuple.count" (rCntT X.K) := by
  intro pins s σ H x xs v us Q I rx rxs h
  obtain ⟨p, ns, k, rfl, rfl, hs, q⟩ := h
  cases rx
  obtain ⟨u, rfl, ru⟩ := rxs.one
  obtain ⟨t, rfl⟩ := ru
  obtain ⟨its, rv, ⟨⟨cls, dd, data, sl⟩, ho, hc, n, hd⟩, hlen⟩ := I.tuple hs
  simp only at hc hd
  subst hc hd
  have hi := ints_of_vals rv
  refine call_meets PySem.F.slot_tuple_count ⟨_, ho, rfl⟩ PySem.F.entry_tuple_count (PySem.F.args_tuple_count_2 _ _)
    (SeqAt.tuple_countAt p its.toArray n dd sl (.int k t) (eqk k)) ⟨ho, fun y hy => (eqk_gives hi y (by simpa using hy)).at _ _, ?_⟩
  have ec : its.toArray.toList.countP (eqk k) = ns.count k := eqk_count hi
  refine ⟨.int (ns.count k : Nat), H, I.tok _, ⟨s.toks, ?_⟩, q⟩
  show Value.int ((its.toArray.toList.countP (eqk k) : Nat) : Int) s.toks = Value.int ((ns.count k : Nat) : Int) s.toks
  rw [ec]
/-! ### `is` with True, False -/
variable {M : Model} {A : Around} {E : Value → Shared → Prop} {s : Shared} {Q : Value → Shared → Prop}
def noBi : Value → Prop
  | .none => True
  | .bool _ => True
  | .int _ _ => True
  | .str _ _ => True
  | .ref _ => True
  | _ => False
theorem is_bl {v : Value} {d : Bool} (n : noBi v) (h : Q (.bool (v == .bool d)) s) : wpAny M A (compareOp .Is v (.bool d)) Q E s := by
  cases v <;> first | exact wpAny_pure h | exact n.elim
theorem isnot_bl {v : Value} {d : Bool} (n : noBi v) (h : Q (.bool (!(v == .bool d))) s) : wpAny M A (compareOp .IsNot v (.bool d)) Q E s := by
  cases v <;> first | exact wpAny_pure h | exact n.elim
def vBi : V → Prop
  | .non => True
  | .bl _ => True
  | .int _ => True
  | .str _ => True
  | .ref _ => True
  | _ => False
theorem rel_bi {x : V} {v : Value} {d : Bool} (r : RelV x v) (n : vBi x) : noBi v ∧ (v == Value.bool d) = decide (x = .bl d) := by
  cases x with
  | non => cases r; exact ⟨trivial, by simp⟩
  | bl b => cases r; exact ⟨trivial, by cases b <;> cases d <;> rfl⟩
  | int i => obtain ⟨t, rfl⟩ := r; exact ⟨trivial, by simp⟩
  | str a => obtain ⟨t, rfl⟩ := r; exact ⟨trivial, by simp⟩
  | ref a => cases r; exact ⟨trivial, by simp⟩
  | _ => exact n.elim
end
section
variable {X : Cx} {a : Expr} {ta : TE}
theorem pc_isBl {d : Bool} {j : Nat} {pos' : Pos} (ha : PE X a ta) : PC X .Is a (.Constant (.bool d) j pos') (fun σ H Q => ta σ H fun x H1 => vBi x ∧ Q (.bl (decide (x = .bl d))) H1) := by
  refine ⟨fun pins s σ H Q I h => ?_⟩
  refine thn (ha.run pins s σ H _ I h) fun v s1 ⟨x, H1, I1, r1, n, q1⟩ => ?_
  obtain ⟨nb, e⟩ := rel_bi (d := d) r1 n
  exact Constant_bool (is_bl nb ⟨.bl _, H1, I1, by rw [e]; rfl, q1⟩)
theorem pc_notBl {d : Bool} {j : Nat} {pos' : Pos} (ha : PE X a ta) : PC X .IsNot a (.Constant (.bool d) j pos') (fun σ H Q => ta σ H fun x H1 => vBi x ∧ Q (.bl (!decide (x = .bl d))) H1) := by
  refine ⟨fun pins s σ H Q I h => ?_⟩
  refine thn (ha.run pins s σ H _ I h) fun v s1 ⟨x, H1, I1, r1, n, q1⟩ => ?_
  obtain ⟨nb, e⟩ := rel_bi (d := d) r1 n
  exact Constant_bool (isnot_bl nb ⟨.bl _, H1, I1, by rw [e]; rfl, q1⟩)
end
end PV
end

section
set_option Elab.async false
set_option linter.all false
set_option maxRecDepth 100000
/-! PVB: `is` with True or False. -/
namespace PV
open PySem PySem.Spec PyProof.Rows L2
section
variable {X : Cx} {xa : List (Addr × Str)} {ec : Nat → Addr} {cf : CF} {W : WX} {a : Expr} {pos : Pos} {ea : Ex}
theorem bl_of {K : PySem.W.Frag} {F H : Hp} {v : V} {p : D} {d : Bool} (w : VR K F H v p) : vBi v ∧ decide (v = V.bl d) = isBD d p := by
  cases p with
  | list xs =>
    obtain ⟨l, a, vs, rfl, h1, h2⟩ := w
    exact ⟨trivial, rfl⟩
  | none =>
    have w : Df K F v .none := w
    cases w; exact ⟨trivial, rfl⟩
  | bool b =>
    have w : Df K F v (.bool b) := w
    cases w; exact ⟨trivial, by cases b <;> cases d <;> rfl⟩
  | int b =>
    have w : Df K F v (.int b) := w
    cases w; exact ⟨trivial, rfl⟩
  | str b =>
    have w : Df K F v (.str b) := w
    cases w; exact ⟨trivial, rfl⟩
  | tuple b =>
    have w : Df K F v (.tuple b) := w
    cases w; exact ⟨trivial, rfl⟩
  | dict b =>
    have w : Df K F v (.dict b) := w
    cases w
theorem isB_in {σ : L2.St} {H : Hp} {neg d : Bool} {Q : VK} (h : tE X xa ec cf W (.isB neg d ea) σ H Q) : tE X xa ec cf W ea σ H fun x H1 => vBi x ∧ Q (.bl (if neg then !decide (x = .bl d) else decide (x = .bl d))) H1 := by
  obtain ⟨F, ρ, m, env, R, E, P⟩ := h
  refine ⟨F, ρ, m, env, R, E, Post.bind (rel' := relV X xa) P fun x m1 F1 ρ1 H1 v e1 E1 R1 rv P1 => ?_⟩
  split at P1
  · rename_i p e2
    obtain ⟨n, e3⟩ := bl_of (d := d) (view_vr R1 rv e2)
    rw [e3]
    exact ⟨n, P1.now R1 (show Df X.K F1 _ _ from .bl _)⟩
  · exact False.elim P1
theorem s_isB {neg d : Bool} {op : CmpOp} {k : Nat} {p2 : Pos} (h : op = if neg then .IsNot else .Is) (ha : PE X a (tE X xa ec cf W ea)) : PE X (.Compare a [op] [.Constant (.bool d) k p2] pos) (tE X xa ec cf W (.isB neg d ea)) := by
  cases neg with
  | false =>
    have h : op = .Is := h
    subst h
    exact pe_mono (pe_cmp (pc_isBl ha) rfl) fun σ H Q h => isB_in h
  | true =>
    have h : op = .IsNot := h
    subst h
    exact pe_mono (pe_cmp (pc_notBl ha) rfl) fun σ H Q h => isB_in h
theorem isB_inT {σ : L2.St} {H : Hp} {neg d : Bool} {Q : Bool → Hp → Prop} (h : tT X xa ec cf W (.isB neg d ea) σ H Q) : tE X xa ec cf W ea σ H fun x H1 => vBi x ∧ ∃ c, V.bl (if neg then !decide (x = .bl d) else decide (x = .bl d)) = .bl c ∧ Q c H1 := by
  obtain ⟨F, ρ, m, env, R, E, P⟩ := h
  refine ⟨F, ρ, m, env, R, E, ?_⟩
  have P : Post X.K xa ec (fun _ _ (b b' : Bool) => b = b') (fun c d H => W c d σ H) F ρ H ((evE cf (.isB neg d ea) env m).bind fun x m1 => Res.of (truth m1 x) m1) Q := P
  simp only [evE] at P
  cases r : evE cf ea env m with
  | bad => rw [r] at P; exact P
  | ex c fs m' => rw [r] at P; exact P
  | ok v m1 =>
    rw [r] at P
    simp only [Res.bind] at P
    intro F' ρ' H' u E1 R1 ru
    cases e : view m1 v with
    | none => rw [e] at P; exact False.elim P
    | some p =>
      rw [e] at P
      obtain ⟨n, e3⟩ := bl_of (d := d) (view_vr R1 ru e)
      simp only [Res.of, Res.bind, truth, view, truD, Option.map] at P
      refine ⟨n, _, rfl, ?_⟩
      rw [e3]
      exact P F' ρ' H' _ E1 R1 rfl
theorem s_isBT {neg d : Bool} {op : CmpOp} {k : Nat} {p2 : Pos} (h : op = if neg then .IsNot else .Is) (ha : PE X a (tE X xa ec cf W ea)) : PT X (.Compare a [op] [.Constant (.bool d) k p2] pos) (tT X xa ec cf W (.isB neg d ea)) := by
  cases neg with
  | false =>
    have h : op = .Is := h
    subst h
    exact pt_mono (pt_cmp (pc_isBl ha) rfl) fun σ H Q h => isB_inT h
  | true =>
    have h : op = .IsNot := h
    subst h
    exact pt_mono (pt_cmp (pc_notBl ha) rfl) fun σ H Q h => isB_inT h
end
end PV
end

section
set_option Elab.async false
set_option linter.all false
set_option maxRecDepth 100000
/-! PVD: tuple.count as an expression. -/
namespace PV
open PySem PySem.Spec PyProof.Rows L2
section
variable {X : Cx}
def tyTup (K : PySem.W.Frag) (x : V) (H : Hp) : Prop := ∃ a xs, x = .ref a ∧ SqB K H a xs
theorem ty_tup : TyOk X "tuple" (tyTup X.K) := by
  intro pins σ H s x v I r ty
  obtain ⟨a, xs, rfl, h⟩ := ty
  cases r
  obtain ⟨its, rv, ⟨o, e, c, n, hd⟩, _⟩ := I.tuple h.t
  refine ⟨⟨o, e, c⟩, fun b eb => ?_⟩
  cases eb
  rcases h with ⟨o2, h2, d2⟩ | ⟨o2, _, _, h2, _, d2, _⟩
  · have := (I.hok _ _ h2).1
    rw [e] at this
    cases this
    exact ⟨o, e, d2⟩
  · have := I.kIn _ o2 h2
    rw [e] at this
    cases this
    exact ⟨o, e, d2⟩
/-- a method by what its object is: of one type, or of another -/
def tMG2 (ty ty' : V → Hp → Prop) (r r' : V → List V → Hp → VK → Prop) (to : TE) (t : TA) : TE := fun σ H Q => to σ H fun x H1 => (ty x H1 ∧ t σ H1 fun xs H2 => r x xs H2 Q) ∨ (ty' x H1 ∧ t σ H1 fun xs H2 => r' x xs H2 Q)
theorem pe_mG2 {o e : Expr} {es : List Expr} {to : TE} {t : TA} {name : Str} {apos cpos : Pos} {T id T' id' : String} {r r' : V → List V → Hp → VK → Prop} {ty ty' : V → Hp → Prop} (ht : TyOk X T ty) (pa : PlainAttrs T) (slot : Slot T name id) (hty : typeOf (.builtin id) = pure (.type "method_descriptor")) (hm : MtR X id r)
    (ht' : TyOk X T' ty') (pa' : PlainAttrs T') (slot' : Slot T' name id') (hty' : typeOf (.builtin id') = pure (.type "method_descriptor")) (hm' : MtR X id' r') (ho : PE X o to) (ha : PA X (e :: es) t)
    (hbase : attributeBase o name X.env (eval o X.env) = eval o X.env)
    (hfew : ((backTo cpos (starEach (e :: es) X.env)).all (fun x => !x.1) && (backToKw cpos (keywordEach [] X.env)).all (fun x => x.1.isSome)
      && decide ((e :: es).length + ([] : List Keyword).length + (if ([] : List Keyword).isEmpty then 0 else 1) < 30)) = true)
    (hline : (apos.endLine == cpos.line) = true) (hs : starEach (e :: es) X.env = (false, eval e X.env) :: starEach es X.env) (hplain : (backTo cpos (starEach es X.env)).any (·.1) = false) :
    PE X (.Call (.Attribute o name apos) (e :: es) [] cpos) (tMG2 ty ty' r r' to t) := by
  refine ⟨fun pins s σ H Q I h => ?_⟩
  refine wpAny_Call_method_late hbase hfew hline rfl (thn (ho.run pins s σ H _ I h) fun v s1 ⟨x, H1, I1, r1, q⟩ => ?_)
  rcases q with ⟨ty1, q1⟩ | ⟨ty1, q1⟩
  · obtain ⟨h1, h2⟩ := ht _ _ _ _ _ _ I1 r1 ty1
    refine ⟨T, id, pa, slot, hty, h1, h2, ?_⟩
    have hA := ha.run cpos pins s1 σ H1 _ I1 q1
    rw [hs] at hA ⊢
    refine Calls.callWith_builtin (by show (false || (backTo cpos (starEach es X.env)).any (·.1)) = false; rw [hplain] <;> rfl) (Calls.evalArgs_plain ?_)
    exact thn hA fun us s2 ⟨vs, H2, I2, r2, q2⟩ => hm pins s2 σ H2 x vs v us Q I2 r1 r2 q2
  · obtain ⟨h1, h2⟩ := ht' _ _ _ _ _ _ I1 r1 ty1
    refine ⟨T', id', pa', slot', hty', h1, h2, ?_⟩
    have hA := ha.run cpos pins s1 σ H1 _ I1 q1
    rw [hs] at hA ⊢
    refine Calls.callWith_builtin (by show (false || (backTo cpos (starEach es X.env)).any (·.1)) = false; rw [hplain] <;> rfl) (Calls.evalArgs_plain ?_)
    exact thn hA fun us s2 ⟨vs, H2, I2, r2, q2⟩ => hm' pins s2 σ H2 x vs v us Q I2 r1 r2 q2
theorem ty_list : TyOk X "list" (tyV X.K "list") := fun pins σ H s x v I r ty => tyV_is I r ty
variable {xa : List (Addr × Str)} {ec : Nat → Addr} {cf : CF} {W : WX} {a b : Expr} {pos : Pos} {ea eb : Ex}
theorem s_cnt {apos : Pos} (ha : PE X a (tE X xa ec cf W ea)) (hb : PE X b (tE X xa ec cf W eb)) (hbase : attributeBase a "count" X.env (eval a X.env) = eval a X.env) (hline : (apos.endLine == pos.line) = true)
    (hs : starEach [b] X.env = (false, eval b X.env) :: starEach [] X.env) (hfew : ((backTo pos (starEach [b] X.env)).all (fun x => !x.1)) = true) : PE X (.Call (.Attribute a "count" apos) [b] [] pos) (tE X xa ec cf W (.cnt ea eb)) := by
  refine pe_mono (pe_mG2 (name := "count") ty_tup PySem.F.plainAttrs_tuple PySem.F.slot_tuple_count PySem.F.type_tuple_count mt_tcount ty_list PySem.F.plainAttrs_list PySem.F.slot_list_count PySem.F.type_list_count mt_lcount ha (pa_cons hb pa_nil hs) hbase (by rw [hfew]; rfl) hline hs rfl) fun σ H Q ⟨F, ρ, m, env, R, E, P⟩ => ?_
  refine ⟨F, ρ, m, env, R, E, Post.bind (rel' := relV X xa) P fun x m1 F1 ρ1 H1 v e1 E1 R1 rv P1 => ?_⟩
  split at P1
  · rename_i xs
    have rv : Df X.K F1 v (.tuple xs) := rv
    cases rv with
    | tup h1 h2 hz =>
      refine .inl ⟨⟨_, _, rfl, sqB_mono R1.le h1⟩, F1, ρ1, m1, env, R1, E.ext E1, Post.bind (rel' := relV X xa) P1 fun y m2 F2 ρ2 H2 u e2 E2 R2 ru P2 => ?_⟩
      split at P2
      · rename_i is k hi
        obtain ⟨rfl, rfl⟩ := dfs_ints h2 hi
        have ru : Df X.K F2 u (.int k) := ru
        cases ru
        exact ⟨_, is, k, rfl, rfl, sqT_mono R2.le (sqT_mono E2.fle h1.t), P2.now R2 (show Df X.K F2 _ _ from .int _)⟩
      · exact False.elim P2
  · rename_i xs
    have rv : Df X.K F1 v (.list xs) := rv
    cases rv with
    | lst h1 h2 hz =>
      refine .inr ⟨.inl ⟨rfl, _, SqL.of (R1.le _ _ h1)⟩, F1, ρ1, m1, env, R1, E.ext E1, Post.bind (rel' := relV X xa) P1 fun y m2 F2 ρ2 H2 u e2 E2 R2 ru P2 => ?_⟩
      split at P2
      · rename_i is k hi
        obtain ⟨rfl, rfl⟩ := dfs_ints h2 hi
        have ru : Df X.K F2 u (.int k) := ru
        cases ru
        exact ⟨_, is, k, rfl, rfl, SqL.of (R2.le _ _ (E2.fle _ _ h1)), P2.now R2 (show Df X.K F2 _ _ from .int _)⟩
      · exact False.elim P2
  · exact False.elim P1
end
end PV
end

section
set_option Elab.async false
set_option linter.all false
set_option maxRecDepth 100000
/-! PVF: a def taken as a value, and called by a name that bears it. -/
namespace PV
open PySem PySem.Spec PyProof.Rows L2
section
variable {X : Cx} {xa : List (Addr × Str)} {ec : Nat → Addr} {cf : CF} {W : WX} {a : Expr} {pos : Pos} {ea : Ex}
theorem s_fv {x : Str} {f : Addr} (hg : Gl X x) (hm : X.mg x = some (.ref f)) (hn : PySem.W.nsIn X.K mainGlobals x = some (some (.ref f))) (hd : (x == ("__debug__" : Str)) = false) : PE X (.Name x pos) (tE X xa ec cf W (.fv x)) := by
  refine pe_mono (pe_glob (v := .ref f) hg hm rfl hd) fun σ H Q ⟨F, ρ, m, env, R, E, P⟩ => ?_
  exact Post.now (rel := relV X xa) (a := EV.exc 0 [.str x]) P R ⟨rfl, x, f, rfl, rfl, hn⟩
/-- what is known of the defs of the table -/
def TabOk (X : Cx) (xa : List (Addr × Str)) (ec : Nat → Addr) (cf : CF) (n : Nat) (tab : List (Str × Nat)) : Prop := ∀ x k, tab.lookup x = some k → ∃ f fd ps np, PySem.W.nsIn X.K mainGlobals x = some (some (.ref f)) ∧ PySem.W.keepIn X.K (.ref f) = true ∧ Binds X.K fd ps [] ∧
  FnG X.prog X.w X.K X.mg X.base n f fd ps (spC X.K xa ec cf k np) ∧ ∀ vs m, vs.length ≠ np → cf k vs m = .bad
theorem calT_ok {tab : List (Str × Nat)} {F : Hp} {ρ : List Addr} {v : V} {y : EV} {k : Nat} (h : calT tab y = some k) (r : RepV X.K xa F ρ v y) : ∃ x f, tab.lookup x = some k ∧ v = .ref f ∧ PySem.W.nsIn X.K mainGlobals x = some (some (.ref f)) := by
  unfold calT at h
  split at h
  · obtain ⟨_, x, f, e1, e2, e3⟩ := r
    cases e1
    exact ⟨_, f, h, e2, e3⟩
  · cases h
theorem s_callv {n : Nat} {tab : List (Str × Nat)} {x : Str} {p : Pos} {es : List Expr} {xs : Exs} (tb : TabOk X xa ec cf n tab) (hr : Room n X.A) (hgd : X.A.guards = some []) (hx : PE X (.Name x p) (tE X xa ec cf W ea)) (tk : Takes X W) (ha : PA X es (tEs X xa ec cf W xs))
    (hst : (es = [] ∧ xs = .nil) ∨ ∃ e r, es = e :: r ∧ starEach (e :: r) X.env = (false, eval e X.env) :: starEach r X.env ∧ (backTo pos (starEach r X.env)).any (·.1) = false) :
    PE X (.Call (.Name x p) es [] pos) (tE X xa ec cf W (.callv tab ea xs)) := by
  refine ⟨fun pins s σ H Q I ⟨F0, ρ, m, env, R, E, P⟩ => ?_⟩
  have P : Post X.K xa ec (relV X xa) (fun c d H => W c d σ H) F0 ρ H ((evE cf ea env m).bind fun v m1 => match calT tab v with
      | some k => (evEs cf xs env m1).bind fun vs m2 => cf k vs m2
      | none => .bad) Q := P
  have head : tE X xa ec cf W ea σ H (fun v H1 => ∃ f fd ps k np, v = .ref f ∧ PySem.W.keepIn X.K (.ref f) = true ∧ Binds X.K fd ps [] ∧ FnG X.prog X.w X.K X.mg X.base n f fd ps (spC X.K xa ec cf k np) ∧
      tEs X xa ec cf W xs σ H1 (fun vs H2 => spC X.K xa ec cf k np vs H2 Q (WE W σ))) := by
    refine ⟨F0, ρ, m, env, R, E, Post.bind (rel' := relV X xa) P fun v m1 F1 ρ1 H1 u e1 E1 R1 rv P1 => ?_⟩
    cases hc : calT tab v with
    | none => rw [hc] at P1; exact False.elim P1
    | some k =>
      rw [hc] at P1
      obtain ⟨y, f, h1, h2, h3⟩ := calT_ok hc rv
      obtain ⟨f', fd, ps, np, g1, g2, g3, g4, g5⟩ := tb y k h1
      rw [h3] at g1
      cases g1
      refine ⟨f, fd, ps, k, np, h2, g2, g3, g4, F1, ρ1, m1, env, R1, E.ext E1, Post.bind (rel' := relV X xa) P1 fun vs m2 F2 ρ2 H2 us e2 E2 R2 rv2 P2 => ?_⟩
      by_cases hl : vs.length = np
      · exact ⟨by rw [← hl]; exact rv2.len, F2, ρ2, m2, vs, R2, rv2, P2⟩
      · rw [g5 vs m2 hl] at P2
        exact False.elim P2
  refine wpAny_Call_Name_kw (thn (hx.run pins s σ H _ I head) fun u0 s0 ⟨v0, H0, I0, r0, f, fd, ps, k, np, ev, hk, hb, F, args⟩ => ?_)
  subst ev
  obtain rfl : u0 = Value.ref f := r0
  have run : ∀ (pins : List (Addr × Obj)) (s1 : Shared) (σ : L2.St) (H1 : Hp) (Q : VK) (us : List Value) (vs : List V), Inv X pins σ H1 s1 → Vals vs us → spC X.K xa ec cf k np vs H1 Q (WE W σ) → wpAny (model X.prog X.w) X.A (call (.ref f) us) (EP X pins σ Q) X.xe s1 := by
    intro pins s1 σ H1 Q us vs I1 r q
    have hl : us.length = ps.length := by rw [← r.length]; exact F.len _ _ _ _ q
    have b := hb s1 us I1.kIn (by rw [List.append_nil]; exact hl)
    rw [List.append_nil] at b
    exact end_call (args := ⟨us, []⟩) (passAt tk σ) I1 (F.run X.A X.stack s1 H1 ⟨us, []⟩ us vs Q _ hr hgd I1.env0 b r q)
  rcases hst with ⟨rfl, rfl⟩ | ⟨e, r, rfl, he, hpl⟩
  · refine PySem.W.callWith_K0 I0.kIn hk ?_
    obtain ⟨F1, ρ1, m1, env1, R1, E1, P1⟩ := args
    exact run pins s0 σ H0 Q [] [] I0 .nil (Post.now (rel := relVs X xa) (a := ([] : List EV)) P1 R1 .nil)
  · exact PySem.W.callWith_K (h₀ := X.base) I0.ok.mod.kin hk (thn (ha.run pos pins s0 σ H0 _ I0 args) fun us s1 ⟨vs, H1, I1, r1, q⟩ => ⟨I1.kIn, run pins s1 σ H1 Q us vs I1 r1 q⟩) he hpl
end
end PV
end

section
set_option Elab.async false
set_option linter.all false
set_option maxRecDepth 100000
/-! PVK: o[i] op= e on a list that lives. -/
namespace PV
open PySem PySem.Spec PyProof.Rows L2
section
variable {X : Cx} {xa : List (Addr × Str)} {ec : Nat → Addr} {cf : CF} {W : WX} {a o i : Expr} {pos : Pos} {ea eo ei : Ex} {sub : Nat → Nat → Bool}
def rGetL : V → V → Hp → VK → Prop := fun o i H Q => ∃ (p : Addr) (xs : List V) (k : Int) (v : V), o = .ref p ∧ i = .int k ∧ H p = some (.lst xs) ∧ 0 ≤ k ∧ k < 2 ^ 62 ∧ atI xs k = some v ∧ Q v H
theorem get_lst : PGet X rGetL := by
  intro pins s σ H x y v u Q I rx ry h
  obtain ⟨p, xs, k, z, rfl, rfl, hq, h0, h62, he, q⟩ := h
  cases rx
  obtain ⟨t, rfl⟩ := ry
  obtain ⟨its, r, pl, hz⟩ := I.list (SqL.of hq)
  obtain ⟨j, h1, h2, h3, h4, h5⟩ := atI_get he
  obtain ⟨w, ew, rw'⟩ := r.get h2
  have hj : k.toNat = j := by
    rw [seqIndex_of h0 h5] at h1
    exact Option.some.inj h1
  exact wpAny_getItem_list pl.isList h0 (by omega) (by rw [hj]; simpa using ew) ⟨z, H, I, rw', q⟩
theorem aug_plain {i : Expr} (h : (match i with | .Slice .. => false | _ => true) = true) : ∀ ov iv new, augStore i ov iv new = (do holding [new, ov, iv] (setItem ov iv new); release [new, ov, iv] []; pure .next) := by
  intro ov iv new
  cases i <;> first | rfl | cases h
theorem s_augs {tp : Pos} {op : Operator} {o2 : O2} {f : Int → Int → Int} (hu : X.A.units + 1 < cLine) (ho : PE X o (tE X xa ec cf W eo)) (hi : PE X i (tE X xa ec cf W ei)) (ha : PE X a (tE X xa ec cf W ea)) (hs : ∀ ov iv new, augStore i ov iv new = (do holding [new, ov, iv] (setItem ov iv new); release [new, ov, iv] []; pure .next))
    (hp : PIp X op (ipI f)) (hf : ∀ (m3 : Mem) (y x w : EV) (k : Int) (env : Env) (r : S), r = (match o2, x, w with
          | .add, .d (.int p), .d (.int q) => S.opt (setIx m3 y (.int k) (.d (.int (p + q)))) fun m4 => .nx env m4
          | .sub, .d (.int p), .d (.int q) => S.opt (setIx m3 y (.int k) (.d (.int (p - q)))) fun m4 => .nx env m4
          | _, _, _ => .bad) → r = .bad ∨ ∃ p q, x = .d (.int p) ∧ w = .d (.int q) ∧ r = S.opt (setIx m3 y (.int k) (.d (.int (f p q)))) fun m4 => .nx env m4) :
    PS X (.AugAssign (.Subscript o i tp) op a pos) (tS X xa ec cf W sub (.augs eo o2 ei ea)) := by
  refine ps_mono (ps_augS ho hi get_lst ha hp (set_any hu) hs) fun D σ H ⟨F, ρ, m, env, R, E, P⟩ => ?_
  refine ⟨F, ρ, m, env, R, E, postS_of (rel := relV X xa) E P fun u m1 F1 ρ1 H1 y e1 E1 R1 ru P1 => ?_⟩
  refine ⟨F1, ρ1, m1, env, R1, E.ext E1, postS_of (rel := relV X xa) (E.ext E1) P1 fun k m2 F2 ρ2 H2 z e2 E2 R2 rk P2 => ?_⟩
  have Eb := (E.ext E1).ext E2
  have ru2 := ru.ext E2
  cases hL : isLst m2 u with
  | false =>
    rw [hL] at P2
    split at P2
    · rename_i h; cases h
    · exact False.elim P2
  | true =>
  rw [hL] at P2
  split at P2
  case h_2 => exact False.elim P2
  rename_i k _
  split at P2
  case isFalse => exact False.elim P2
  rename_i hk
  simp only [Bool.and_eq_true, decide_eq_true_eq] at hk
  obtain ⟨x, ex, P3⟩ := PostS.opt (X := X) (W := W) (ec := ec) P2
  have rk : Df X.K F2 z (.int k) := rk
  cases rk
  cases u with
  | d _ => cases hL
  | exc _ _ => cases hL
  | ro _ => cases hL
  | loc n =>
  obtain ⟨ad, rfl, hρ⟩ := ru2
  unfold isLst at hL
  dsimp only at hL
  split at hL
  case h_2 => cases hL
  rename_i xs em
  obtain ⟨l, vs, h1, h2⟩ := R2.ob n ad _ hρ em
  have ex : ((idx k xs.length).bind fun j => xs[j]?) = some x := by
    simp only [getIx, em] at ex
    exact ex
  obtain ⟨v, g1, g2⟩ := h2.at ex
  refine ⟨ad, vs, k, v, rfl, rfl, h1, hk.1, hk.2, g1, ?_⟩
  refine ⟨F2, ρ2, m2, env, R2, Eb, postS_of (rel := relV X xa) Eb P3 fun w m3 F3 ρ3 H3 yw e3 E3 R3 rw3 P4 => ?_⟩
  obtain ⟨r, hr0⟩ : ∃ r, r = (match o2, x, w with
          | .add, .d (.int p), .d (.int q) => S.opt (setIx m3 (.loc n) (.int k) (.d (.int (p + q)))) fun m4 => .nx env m4
          | .sub, .d (.int p), .d (.int q) => S.opt (setIx m3 (.loc n) (.int k) (.d (.int (p - q)))) fun m4 => .nx env m4
          | _, _, _ => .bad) := ⟨_, rfl⟩
  have P6 : PostS X xa ec W F3 ρ3 H3 r D := by rw [hr0]; exact P4
  clear P4
  rcases hf m3 (.loc n) x w k env r hr0 with hb | ⟨p, q, ex2, ew2, hr⟩
  · rw [hb] at P6; exact False.elim P6
  · rw [hr] at P6
    clear hr0 hr
    subst ex2 ew2
    obtain ⟨m4, e4, P5⟩ := PostS.opt (X := X) (W := W) (ec := ec) P6
    have g2 : Df X.K F3 v (.int p) := g2.ext E3
    have rw3 : Df X.K F3 yw (.int q) := rw3
    cases g2
    cases rw3
    refine ⟨p, q, rfl, rfl, ?_⟩
    have ru3 : RepV X.K xa F3 ρ3 (.ref ad) (.loc n) := (show RepV X.K xa F2 ρ2 (.ref ad) (.loc n) from ⟨ad, rfl, hρ⟩).ext E3
    exact set_of (v := .d (.int (f p q))) (y := .ref ad) (z := .int k) (x := .int (f p q)) R3 (Eb.ext E3) ru3 (show Df X.K F3 _ _ from .int k) (show Df X.K F3 _ _ from .int _) e4 P5
theorem s_augsAdd {tp : Pos} (hu : X.A.units + 1 < cLine) (ho : PE X o (tE X xa ec cf W eo)) (hi : PE X i (tE X xa ec cf W ei)) (ha : PE X a (tE X xa ec cf W ea)) (hs : ∀ ov iv new, augStore i ov iv new = (do holding [new, ov, iv] (setItem ov iv new); release [new, ov, iv] []; pure .next)) :
    PS X (.AugAssign (.Subscript o i tp) .Add a pos) (tS X xa ec cf W sub (.augs eo .add ei ea)) :=
  s_augs hu ho hi ha hs ip_add fun m3 y x w k env r h => by
    split at h <;> first | exact .inr ⟨_, _, rfl, rfl, h⟩ | exact .inl h | contradiction
theorem s_augsSub {tp : Pos} (hu : X.A.units + 1 < cLine) (ho : PE X o (tE X xa ec cf W eo)) (hi : PE X i (tE X xa ec cf W ei)) (ha : PE X a (tE X xa ec cf W ea)) (hs : ∀ ov iv new, augStore i ov iv new = (do holding [new, ov, iv] (setItem ov iv new); release [new, ov, iv] []; pure .next)) :
    PS X (.AugAssign (.Subscript o i tp) .Sub a pos) (tS X xa ec cf W sub (.augs eo .sub ei ea)) :=
  s_augs hu ho hi ha hs ip_sub fun m3 y x w k env r h => by
    split at h <;> first | exact .inr ⟨_, _, rfl, rfl, h⟩ | exact .inl h | contradiction
end
end PV
end

section
set_option Elab.async false
set_option linter.all false
set_option maxRecDepth 100000
set_option maxHeartbeats 4000000
/-! PVI: sorted(d.items()), int keys, tuples of ints. -/
namespace PV
open PySem PyProof.Rows Srt SrtO
section
variable {prog : Program} {w : World} {A : Around} {E : Value → Shared → Prop} {s : Shared} {K : Type} [DecidableEq K] {knd : KeyKind prog w K}
theorem sorted_view {r d : Addr} {kvs : List (K × Value)} {ep : Nat} {ltv : Heap → Value → Value → Bool} {Q : Value → Shared → Prop} (hh : A.handled = none) (hv : s.heap.IsItemsView r d) (hm : s.heap.DictAt knd d kvs ep) (hn : kvs.length ≤ sizeLine) (O : ∀ h, Swo (ltv h))
    (hS : ∀ (h' : Heap) (tk : Nat) (as : List Addr), (∀ b o, s.heap.get? b = some o → h'.get? b = some o) → as.length = kvs.length → PySem.W.KdxG knd kvs s.heap.objs.size h' as → 2 ≤ as.length → ∀ (h₁ : Heap) (a : Addr), h₁.get? a = some (seqObj "list" (as.map Value.ref).toArray 0) → (∀ b o, h'.get? b = some o → b ≠ a ∧ h₁.get? b = some o) →
      SortableO prog w A.in1.in1 { s with heap := h₁, toks := tk } a (as.map Value.ref) (ltv h'))
    (h : ∀ (h' : Heap) (tk : Nat) (as : List Addr) (out : List Value), (∀ b o, s.heap.get? b = some o → h'.get? b = some o) → as.length = kvs.length → PySem.W.KdxG knd kvs s.heap.objs.size h' as → Srtd (ltv h') out → Stb (ltv h') out (as.map Value.ref) →
      Q (.ref h'.objs.size) { s with heap := sortedHeap (h'.push (seqObj "list" (as.map Value.ref).toArray 0)) h'.objs.size (as.map Value.ref) out.toArray, toks := tk }) :
    wpAny (model prog w) A (call (.builtin "sorted") [.ref r]) Q E s := by
  refine Calls.call_function_entry kind_sorted plain_sorted entry_sorted (args_sorted1 _) ?_
  unfold Builtin.«sorted»
  refine wpAny_bind (m := checkCount "sorted" 1 1 _) (wpAny_pure ?_)
  refine wpAny_bind (PySem.W.kdx_collect (A := A.in1) (knd := knd) (kvs := kvs) (ep := ep) hh hv hm hn fun h' tk as hk hl hG => ?_)
  have hz : (as.map Value.ref).length ≤ sizeLine := by rw [List.length_map, hl]; exact hn
  refine wpAny_bind (wpAny_newList ?_ hz)
  have laid : (h'.push (seqObj "list" (as.map Value.ref).toArray 0)).get? h'.objs.size = some (seqObj "list" (as.map Value.ref).toArray 0) := Heap.get?_push_size _ rfl
  refine wpAny_bind (wpAny_holding (wpAny_call_entry slot_list_sort ⟨_, laid, rfl⟩ entry_list_sort (list_sort_ord (O h') laid hz (fun h2 => hS h' tk as hk hl hG (by simpa using h2) _ _ laid fun b o q => ⟨Nat.ne_of_lt (Heap.lt_size q), Heap.get?_push_of_some _ q⟩) fun out hs hb => ⟨_, rfl, ?_⟩) (args_list_sort _)))
  exact wpAny_pure ⟨_, rfl, h h' tk as out hk hl hG hs hb⟩
end
end PV
namespace PV
open PySem PySem.Spec PyProof.Rows L2 LiI
def putF (ob : Addr → Obj) : Hp → List Addr → List (Key × V) → Hp
  | H, a :: as, p :: kvs => putF ob (upd H a (.frz (ob a) (.tup [kV p.1, p.2]))) as kvs
  | H, _, _ => H
theorem putF_off {ob : Addr → Obj} {b : Addr} : ∀ (as : List Addr) (kvs : List (Key × V)) (H : Hp), b ∉ as → putF ob H as kvs b = H b
  | [], _, _, _ => rfl
  | _ :: _, [], _, _ => rfl
  | a :: as, p :: kvs, H, h => by
    show putF ob (upd H a _) as kvs b = H b
    rw [putF_off as kvs _ (fun z => h (List.mem_cons_of_mem _ z)), upd_ne (fun z => h (by rw [z]; exact List.mem_cons_self))]
theorem putF_at {ob : Addr → Obj} : ∀ (as : List Addr) (kvs : List (Key × V)) (H : Hp), as.length = kvs.length → as.Nodup → Paired (fun (t : Addr) (p : Key × V) => putF ob H as kvs t = some (.frz (ob t) (.tup [kV p.1, p.2]))) as kvs
  | [], [], _, _, _ => .nil
  | [], _ :: _, _, h, _ => by cases h
  | _ :: _, [], _, h, _ => by cases h
  | a :: as, p :: kvs, H, h, hn => by
    have hn' := List.nodup_cons.mp hn
    refine .cons ?_ (putF_at as kvs (upd H a _) (Nat.succ.inj h) hn'.2)
    show putF ob (upd H a _) as kvs a = _
    rw [putF_off as kvs _ hn'.1, upd_same]
/-- the items, one tuple after another -/
def tupsQ (k : Hp → List Addr → Prop) : List (Key × V) → List Addr → Hp → Prop
  | [], acc, H => k H acc
  | q :: r, acc, H => ∀ T (ob : Obj), H T = none → ob.dict = none → tupsQ k r (acc ++ [T]) (upd H T (.frz ob (.tup [kV q.1, q.2])))
theorem tupsQ_at {k : Hp → List Addr → Prop} {ob : Addr → Obj} : ∀ (kvs : List (Key × V)) (as acc : List Addr) (H : Hp), tupsQ k kvs acc H → as.length = kvs.length → as.Nodup → (∀ a ∈ as, H a = none) → (∀ a ∈ as, (ob a).dict = none) → k (putF ob H as kvs) (acc ++ as)
  | [], [], acc, H, h, _, _, _, _ => by
    show k H (acc ++ [])
    rw [List.append_nil]; exact h
  | [], _ :: _, _, _, _, e, _, _, _ => by cases e
  | _ :: _, [], _, _, _, e, _, _, _ => by cases e
  | q :: kvs, a :: as, acc, H, h, e, hn, hf, hd => by
    have hn' := List.nodup_cons.mp hn
    have := tupsQ_at (ob := ob) kvs as (acc ++ [a]) _ (h a (ob a) (hf a List.mem_cons_self) (hd a List.mem_cons_self)) (Nat.succ.inj e) hn'.2 (fun b hb => by rw [upd_ne (fun z => by rw [z] at hb; exact hn'.1 hb)]; exact hf b (List.mem_cons_of_mem _ hb)) fun b hb => hd b (List.mem_cons_of_mem _ hb)
    rw [List.append_assoc] at this
    exact this
def rSortItems (K : PySem.W.Frag) (x : V) (H : Hp) (Q : VK) : Prop := ∃ (d : Addr) (kvs : List (Key × V)), x = .ref d ∧ H d = some (.dK kvs) ∧ (∀ q ∈ kvs, ∃ (i : Int) (b : Addr) (w : List Int), q = (.inl i, .ref b) ∧ SqT K H b (w.map V.int)) ∧
  tupsQ (fun H' as => ∀ S out, H' S = none → List.Perm out as → out.Pairwise (fun a b => ∀ m n, PL K H' (.ref a) m → PL K H' (.ref b) n → lexP n m = false) → Q (.ref S) (upd H' S (.lst (out.map V.ref)))) kvs [] H
def tSortItems (K : PySem.W.Frag) (te : TE) : TE := fun σ H Q => te σ H fun x H1 => rSortItems K x H1 Q
section
variable {X : Cx} {e : Expr} {te : TE} {p apos cpos pos : Pos}
theorem tups_laid {pins : List (Addr × Obj)} {σ : L2.St} {H : Hp} {s : Shared} (I : Inv X pins σ H s) {h4 : Heap} {tk : Nat} {as out : List Addr} {kvs : List (Key × V)} {ob : Addr → Obj} {S : Addr}
    (hk : ∀ b o, s.heap.get? b = some o → h4.get? b = some o) (new : ∀ t ∈ as, s.heap.objs.size ≤ t) (nS : s.heap.objs.size ≤ S) (hSn : S ∉ as) (nd : as.Nodup) (hl : as.length = kvs.length)
    (hS : ∃ n, h4.get? S = some { cls := .type "list", data := .seq (out.map Value.ref).toArray n }) (hz : out.length ≤ sizeLine)
    (hT : Paired (fun (t : Addr) (q : Key × V) => ∃ key x, RelV (kV q.1) key ∧ RelV q.2 x ∧ ob t = { cls := .type "tuple", data := .seq #[key, x] } ∧ h4.get? t = some (ob t)) as kvs) :
    Inv X pins σ (upd (putF ob H as kvs) S (.lst (out.map V.ref))) { s with heap := h4, toks := tk } := by
  have fr : ∀ b, s.heap.objs.size ≤ b → H b = none := fun b hb => I.hok.fresh hb
  have atP := putF_at (ob := ob) as kvs H hl nd
  have off : ∀ b, b ∉ as → b ≠ S → (upd (putF ob H as kvs) S (.lst (out.map V.ref))) b = H b := fun b h1 h2 => by rw [upd_ne h2, putF_off as kvs _ h1]
  have low : ∀ b o, s.heap.get? b = some o → b ∉ as ∧ b ≠ S := fun b o e => ⟨fun z => absurd (Heap.lt_size e) (Nat.not_lt.mpr (new b z)), fun z => absurd (Heap.lt_size e) (Nat.not_lt.mpr (z ▸ nS))⟩
  have kp : ∀ b u, H b = some u → (upd (putF ob H as kvs) S (.lst (out.map V.ref))) b = some u := fun b u e => by
    rw [off b (fun z => by rw [fr b (new b z)] at e; cases e) (fun z => by rw [z, fr S nS] at e; cases e)]
    exact e
  refine I.call' (ch := []) rfl ⟨fun b o q _ _ _ => hk b o q, fun b o q _ _ _ => ⟨o.slots, hk b o q⟩, fun b o q n _ => ?_, fun b o q _ => ⟨o, hk b o q⟩, fun b xs q => kp b _ q, fun b o u q => kp b _ q, fun b ps q => ⟨#[], by rw [kp b _ q]; simp⟩⟩ (fun b u q => ?_) I.bare fun b z => by simp at z
  · obtain ⟨z1, z2⟩ := low b o q
    rw [off b z1 z2]
    exact n
  · by_cases hb2 : b = S
    · rw [hb2] at q ⊢
      rw [upd_same] at q
      cases q
      obtain ⟨n, hS⟩ := hS
      exact ⟨by rw [List.length_map]; exact hz, out.map Value.ref, n, LiI.vals_refs out, hS⟩
    · by_cases hb : b ∈ as
      · obtain ⟨j, pk, e1, e2, e3⟩ := paired_ix atP hb
        rw [upd_ne hb2, e3] at q
        cases q
        obtain ⟨q2, g1, key, x, g2, g3, g4, g5⟩ := LiI.paired_get hT e1
        rw [e2] at g1
        cases g1
        refine ⟨g5, by show 2 ≤ sizeLine; decide, [key, x], .cons g2 (.cons g3 .nil), ⟨_, g5, ?_, 0, ?_⟩⟩
        · rw [g4]
        · rw [g4]
      · rw [off b hb hb2] at q
        exact (I.hok b u q).stay (fun d v _ y => hk d v y) (fun d y => kp d _ y) fun d xs y => kp d _ y
theorem paired_of_get {α β : Type} {F : α → β → Prop} : ∀ {xs : List α} {ys : List β}, xs.length = ys.length → (∀ (j : Nat) x y, xs[j]? = some x → ys[j]? = some y → F x y) → Paired F xs ys
  | [], [], _, _ => .nil
  | [], _ :: _, e, _ => by cases e
  | _ :: _, [], e, _ => by cases e
  | _ :: _, _ :: _, e, h => .cons (h 0 _ _ rfl rfl) (paired_of_get (Nat.succ.inj e) fun j x y e1 e2 => h (j + 1) x y e1 e2)
theorem pl_key {h : Heap} {a b : Addr} {i : Int} {w : List Int} {key : Value} (hk : keyIs (.inl i) key = true) (e : h.get? a = some { cls := .type "tuple", data := .seq #[key, .ref b] }) (t : ∃ its, IsTup h b its ∧ IntsAre its.toList w) : IsPL h (.ref a) (i, w) := by
  obtain ⟨tk, rfl⟩ : RelV (kV (.inl i)) key := relV_key hk
  obtain ⟨its, h1, h2⟩ := t
  exact ⟨a, _, tk, b, 0, its, rfl, e, rfl, rfl, h1, h2⟩
/-- sorted(e.items()) -/
theorem pe_sortItems {x : Str} (hu : X.A.units + 2 < cLine) (hc : X.calm = true) (he : PE X e te) (hg : Gl X x) (hm : X.mg x = none) (hv : bootBuiltins x = some (.builtin "sorted")) (hn : x ≠ "__name__") (hdb : (x == ("__debug__" : Str)) = false) (hbase : attributeBase e "items" X.env (eval e X.env) = eval e X.env) (hline : (apos.endLine == cpos.line) = true)
    (hs : starEach [.Call (.Attribute e "items" apos) [] [] cpos] X.env = (false, eval (.Call (.Attribute e "items" apos) [] [] cpos) X.env) :: starEach [] X.env) :
    PE X (.Call (.Name x p) [.Call (.Attribute e "items" apos) [] [] cpos] [] pos) (tSortItems X.K te) := by
  refine ⟨fun pins s σ H Q I hq => ?_⟩
  refine wpAny_Call_Name_kw (ld_blt I hg hm hv ?_ hn hdb)
  refine PyProof.Rows.callWith_builtin1 ?_ hs rfl
  rw [hs]
  show wpAny _ _ (spliced ((false, eval (.Call (.Attribute e "items" apos) [] [] cpos) X.env) :: backTo pos (starEach [] X.env))) _ _ s
  refine Calls.spliced_cons ?_
  refine wpAny_Call_method (T := "dict") (id := "dict.items") hbase rfl hline F.plainAttrs_dict F.slot_dict_items F.type_dict_items (thn (he.run pins s σ H _ I hq) fun u s1 ⟨x, H1, I1, rx, d, kvs, ex, hd, hkv, q⟩ => ?_)
  subst ex
  obtain rfl : u = Value.ref d := rx
  obtain ⟨hz, hs0, vs, kv, hdo⟩ := I1.hok d _ hd
  obtain ⟨ep, hat⟩ := hdo.dictAt
  have lk : kvs.length = vs.length := Paired.length kv
  have k1 : ∀ b ob, s1.heap.get? b = some ob → (s1.heap.push { cls := .type "dict_items", data := .fields #[.ref d] }).get? b = some ob := fun b ob q => Heap.get?_push_of_some _ q
  have I2 : Inv X pins σ H1 { s1 with heap := s1.heap.push { cls := .type "dict_items", data := .fields #[.ref d] } } := I1.kept (t' := s1.toks) k1
  refine ⟨hdo.typeIs, hdo.mapOf.noDict, ?_⟩
  show wpAny _ _ (callWith cpos (.builtin "dict.items") [.ref d] [] []) _ X.xe s1
  refine method_meetsIn F.slot_dict_items F.entry_dict_items rfl (PySem.evalArgs_none ⟨rfl, hdo.typeIs, F.args_dict_items_1 _, _, meets_dict_items (mixKind X.prog X.w) d hs0, ⟨vs, hdo⟩, ?_⟩)
  refine Calls.spliced_nil ?_
  have items : ∀ (h' : Heap) (as : List Addr), (∀ b o, (s1.heap.push { cls := .type "dict_items", data := .fields #[.ref d] }).get? b = some o → h'.get? b = some o) → PySem.W.KdxG (mixKind X.prog X.w) vs (s1.heap.push { cls := .type "dict_items", data := .fields #[.ref d] }).objs.size h' as →
      ∀ a ∈ as, ∃ p, IsPL h' (.ref a) p := fun h' as hk hG a ha => by
    obtain ⟨j, hj⟩ := List.mem_iff_getElem?.mp ha
    obtain ⟨key, k, x, f1, f2, f3⟩ := hG.pairs j a hj
    have hj2 : j < kvs.length := by rw [lk]; exact (List.getElem?_eq_some_iff.mp f1).1
    obtain ⟨qv, g1, g2, g3⟩ := LiI.paired_get kv (List.getElem?_eq_getElem hj2)
    rw [f1] at g1
    cases g1
    obtain ⟨i, b, w, e1, e2⟩ := hkv _ (List.getElem_mem hj2)
    rw [e1] at g2 g3
    obtain rfl : k = Sum.inl i := g2.symm
    obtain rfl : x = Value.ref b := g3
    obtain ⟨its, rv, ht, _⟩ := I2.tuple e2
    exact ⟨(i, w), pl_key f2 f3 ⟨its.toArray, ht.keeps hk, by simpa using ints_of_vals rv⟩⟩
  refine sorted_view (A := X.A) (knd := mixKind X.prog X.w) (kvs := vs) (ep := ep) (ltv := fun h v u => lexP (kOf h v) (kOf h u)) (I1.ok.hd hc) ⟨_, Heap.get?_push_size _ rfl, rfl, rfl⟩ (hat.push _) (by omega) (fun h => pl_swo _) (fun h' tk as hk hl hG h2 h₁ a ha kk => ?_) fun h' tk as out hk hl hG h1 h2 => ?_
  · refine pl_sortable (by show X.A.units + 1 + 1 < cLine; omega) (by simp; omega) (fun v hm => ?_) fun o e c => ?_
    · obtain ⟨t, ht, rfl⟩ := List.mem_map.mp hm
      obtain ⟨p, hp⟩ := items h' as hk hG t ht
      rw [kOf_eq hp]
      exact hp.keeps fun b o e _ => (kk b o e).2
    · have e' : some o = some (seqObj "list" (as.map Value.ref).toArray 0) := e.symm.trans ha
      cases e'
      exact absurd (Value.type.inj c) (by decide)
  · have nd : as.Nodup := List.Pairwise.imp (fun {a b} (h : a < b) => Nat.ne_of_lt h) hG.rise
    have lo : ∀ t ∈ as, s1.heap.objs.size ≤ t := fun t ht => by
      have h0 := hG.above t ht
      have h1 : (s1.heap.push { cls := .type "dict_items", data := .fields #[.ref d] }).objs.size = s1.heap.objs.size + 1 := size_push' ..
      rw [h1] at h0
      exact Nat.le_of_lt (Nat.lt_of_succ_lt h0)
    have h3 : ∃ outs : List Addr, out = outs.map Value.ref ∧ outs.Perm as := by
      have hp := h2.perm
      obtain ⟨outs, e⟩ : ∃ outs : List Addr, out = outs.map Value.ref := by
        have : ∀ u ∈ out, ∃ a, u = Value.ref a := fun u hu => by
          obtain ⟨t, _, e⟩ := List.mem_map.mp (hp.mem_iff.mp hu)
          exact ⟨t, e.symm⟩
        clear hp h1 h2
        induction out with
        | nil => exact ⟨[], rfl⟩
        | cons u out ih =>
          obtain ⟨a, rfl⟩ := this u List.mem_cons_self
          obtain ⟨outs, rfl⟩ := ih fun u hu => this u (List.mem_cons_of_mem _ hu)
          exact ⟨a :: outs, rfl⟩
      subst e
      refine ⟨outs, rfl, ?_⟩
      have h4 := hp.map (fun v => match v with | Value.ref a => a | _ => 0)
      rw [List.map_map, List.map_map] at h4
      have h5 : ∀ l : List Addr, l.map ((fun v => match v with | Value.ref a => a | _ => 0) ∘ Value.ref) = l := fun l => by
        induction l with
        | nil => rfl
        | cons a l ih => rw [List.map_cons, ih]; rfl
      rw [h5, h5] at h4
      exact h4
    obtain ⟨outs, rfl, hp⟩ := h3
    have hB : ∀ b o, h'.get? b = some o → b ≠ h'.objs.size ∧ (sortedHeap (h'.push (seqObj "list" (as.map Value.ref).toArray 0)) h'.objs.size (as.map Value.ref) (outs.map Value.ref).toArray).get? b = some o := fun b o e => by
      have lt := Heap.lt_size e
      refine ⟨Nat.ne_of_lt lt, ?_⟩
      rw [sortedHeap_old (Nat.ne_of_lt lt) (by rw [size_push']; exact Nat.lt_succ_of_lt lt)]
      exact Heap.get?_push_of_some _ e
    have hS4 : ∃ n, (sortedHeap (h'.push (seqObj "list" (as.map Value.ref).toArray 0)) h'.objs.size (as.map Value.ref) (outs.map Value.ref).toArray).get? h'.objs.size = some (seqObj "list" (outs.map Value.ref).toArray n) := sortedHeap_at (n := 0) (Heap.get?_push_size _ rfl)
    have hsz : s1.heap.objs.size ≤ h'.objs.size := by
      have e := hk s1.heap.objs.size _ (Heap.get?_push_size _ rfl)
      exact Nat.le_of_lt (Heap.lt_size e)
    have nS : h'.objs.size ∉ as := fun z => Nat.lt_irrefl _ (hG.there z)
    have hTT : Paired (fun (t : Addr) (q : Key × V) => ∃ key x, RelV (kV q.1) key ∧ RelV q.2 x ∧ ((h'.get? t).getD (bT [])) = { cls := .type "tuple", data := .seq #[key, x] } ∧ (sortedHeap (h'.push (seqObj "list" (as.map Value.ref).toArray 0)) h'.objs.size (as.map Value.ref) (outs.map Value.ref).toArray).get? t = some ((h'.get? t).getD (bT []))) as kvs := by
      refine paired_of_get (by rw [hl, lk]) fun j t q e1 e2 => ?_
      obtain ⟨key, k, x, f1, f2, f3⟩ := hG.pairs j t e1
      obtain ⟨qv, g1, g2, g3⟩ := LiI.paired_get kv e2
      rw [f1] at g1
      cases g1
      refine ⟨key, x, ?_, g3, by rw [f3]; rfl, ?_⟩
      · rw [g2]
        exact relV_key (show keyIs k key = true from f2)
      · rw [f3]
        exact (hB _ _ f3).2
    have J := tups_laid (h4 := sortedHeap (h'.push (seqObj "list" (as.map Value.ref).toArray 0)) h'.objs.size (as.map Value.ref) (outs.map Value.ref).toArray) (tk := tk) (out := outs) (S := h'.objs.size) I1 (fun b o e => (hB _ _ (hk _ _ (k1 _ _ e))).2) lo hsz nS nd (by rw [hl, lk]) hS4 (by rw [hp.length_eq, hl]; omega) hTT
    have hq := tupsQ_at (ob := fun t => (h'.get? t).getD (bT [])) kvs as [] H1 q (by rw [hl, lk]) nd (fun a ha => I1.hok.fresh (lo a ha)) fun a ha => by
      obtain ⟨j, hj⟩ := List.mem_iff_getElem?.mp ha
      obtain ⟨key, k, x, f1, f2, f3⟩ := hG.pairs j a hj
      show ((h'.get? a).getD (bT [])).dict = none
      rw [f3]; rfl
    rw [List.nil_append] at hq
    refine ⟨.ref _, _, J, rfl, hq h'.objs.size outs (by rw [putF_off as kvs _ nS]; exact I1.hok.fresh hsz) hp ?_⟩
    have h1 := List.pairwise_map.mp h1
    refine List.Pairwise.imp_of_mem (fun {x y} hx' hy' hlt m n hm hn => ?_) h1
    have hval : ∀ t ∈ outs, ∀ p, PL X.K (putF (fun t => (h'.get? t).getD (bT [])) H1 as kvs) (.ref t) p → kOf h' (.ref t) = p := fun t ht p hpl => by
      obtain ⟨p2, hp2⟩ := items h' as hk hG t (hp.mem_iff.mp ht)
      have hp4 : IsPL (sortedHeap (h'.push (seqObj "list" (as.map Value.ref).toArray 0)) h'.objs.size (as.map Value.ref) (outs.map Value.ref).toArray) (.ref t) p2 := hp2.keeps fun b o e _ => (hB b o e).2
      have hpl2 : PL X.K (upd (putF (fun t => (h'.get? t).getD (bT [])) H1 as kvs) h'.objs.size (.lst (outs.map V.ref))) (.ref t) p := by
        obtain ⟨t2, b, e, u1, u2⟩ := hpl
        have sm : Same (putF (fun t => (h'.get? t).getD (bT [])) H1 as kvs) (upd (putF (fun t => (h'.get? t).getD (bT [])) H1 as kvs) h'.objs.size (.lst (outs.map V.ref))) := fun b u e => by
          rw [upd_ne (fun z => by rw [z, putF_off as kvs _ nS, I1.hok.fresh hsz] at e; cases e)]
          exact e
        exact ⟨t2, b, e, sqT_mono sm u1, sqT_mono sm u2⟩
      have := pl_is J hpl2 (.ref t) rfl
      rw [kOf_eq hp2]
      exact hp4.inj this
    have hlt : lexP (kOf h' (.ref y)) (kOf h' (.ref x)) = false := hlt
    rw [hval x hx' m hm, hval y hy' n hn] at hlt
    exact hlt
end
end PV
end

section
set_option Elab.async false
set_option linter.all false
set_option maxRecDepth 100000
/-! PVJ: sorted(d.items()), xs.index(y), xs.extend(ys) as compiled. -/
namespace PV
open PySem PySem.Spec PyProof.Rows L2
section
variable {X : Cx} {xa : List (Addr × Str)} {ec : Nat → Addr} {cf : CF} {W : WX} {a b : Expr} {pos : Pos} {ea eb : Ex}
/-! ### sorted(d.items()) -/
theorem intsD_eq : ∀ {w : List D} {v : List Int}, intsD w = some v → w = v.map .int
  | [], _, e => by cases e; rfl
  | .int k :: w, v, e => by
    unfold intsD at e
    split at e
    · rename_i is e2
      cases e
      rw [intsD_eq e2]; rfl
    · cases e
  | .none :: _, _, e => by cases e
  | .bool _ :: _, _, e => by cases e
  | .str _ :: _, _, e => by cases e
  | .list _ :: _, _, e => by cases e
  | .tuple _ :: _, _, e => by cases e
  | .dict _ :: _, _, e => by cases e
theorem dfs_rep {K : PySem.W.Frag} {F : Hp} {ρ : List Addr} : ∀ {ds : List D} {vs : List V}, Dfs K F vs ds → RepVs K xa F ρ vs (ds.map EV.d)
  | [], _, h => by cases h; exact .nil
  | _ :: _, _, h => by
    cases h with
    | cons a b => exact .cons a (dfs_rep b)
theorem pairedMono {α β : Type} {G G' : α → β → Prop} : ∀ {xs : List α} {ys : List β}, Paired G xs ys → (∀ x y, G x y → G' x y) → Paired G' xs ys
  | _, _, .nil, _ => .nil
  | _, _, .cons h t, k => .cons (k _ _ h) (pairedMono t k)
def KvP (K : PySem.W.Frag) (F : Hp) (q : Key × V) (p : Int × List Int) : Prop := q.1 = .inl p.1 ∧ Df K F q.2 (.tuple (p.2.map .int))
theorem plsK_ok {K : PySem.W.Frag} {F : Hp} {ρ : List Addr} : ∀ {kw : List (Key × V)} {kvs : List (Key × EV)} {ps : List (Int × List Int)}, plsK kvs = some ps → Paired (fun (p : Key × V) (q : Key × EV) => p.1 = q.1 ∧ RepV K xa F ρ p.2 q.2) kw kvs → Paired (KvP K F) kw ps
  | _, [], ps, e, h => by cases h; cases e; exact .nil
  | _, q :: kvs, ps, e, h => by
    cases h with
    | @cons p _ kw _ h t =>
      unfold plsK at e
      split at e
      · rename_i e1; cases e1
      · rename_i i w r e1
        cases e1
        split at e
        · rename_i v qs e2 e3
          cases e
          refine .cons ⟨h.1, ?_⟩ (plsK_ok e3 t)
          have h2 : Df K F p.2 (.tuple w) := h.2
          rw [intsD_eq e2] at h2
          exact h2
        · cases e
      · cases e
theorem intsV {K : PySem.W.Frag} {F : Hp} : ∀ {w : List Int} {us : List V}, Dfs K F us (w.map .int) → us = w.map V.int
  | [], _, h => by cases h; rfl
  | a :: w, _, h => by
    cases h with
    | cons q t => cases q; rw [intsV t]; rfl
theorem kvP_sq {K : PySem.W.Frag} {F H : Hp} (hs : Same F H) {q : Key × V} {p : Int × List Int} (h : KvP K F q p) : ∃ (i : Int) (b : Addr) (w : List Int), q = (.inl i, .ref b) ∧ SqT K H b (w.map V.int) := by
  obtain ⟨k, v⟩ := q
  obtain ⟨h1, h2⟩ := h
  simp only at h1 h2
  subst h1
  cases h2 with
  | tup e r l =>
    rw [intsV r] at e
    exact ⟨_, _, _, rfl, sqT_mono hs e.t⟩
theorem paired_mem {α β : Type} {G : α → β → Prop} : ∀ {xs : List α} {ys : List β}, Paired G xs ys → ∀ x ∈ xs, ∃ y ∈ ys, G x y
  | _, _, .nil, _, h => by cases h
  | _, _, .cons h t, x, hx => by
    rcases List.mem_cons.mp hx with rfl | hx
    · exact ⟨_, List.mem_cons_self, h⟩
    · obtain ⟨y, h1, h2⟩ := paired_mem t x hx
      exact ⟨y, List.mem_cons_of_mem _ h1, h2⟩
theorem tupsQ_ok {K : PySem.W.Frag} {F0 : Hp} {ρ : List Addr} {H0 : Hp} {m : Mem} {Q : VK} {all : List (Int × List Int)} (g : Gives K xa F0 ρ m H0 (.list ((sortP all).map plE)) Q) (hl : all.length ≤ LIM) :
    ∀ {rest : List (Int × List Int)} {kw : List (Key × V)} {acc : List Addr} {pa : List (Int × List Int)} {F H : Hp}, all = pa ++ rest → Ext F0 ρ H0 F ρ H → Rep K xa F ρ m H → Paired (KvP K F) kw rest → Dfs K F (acc.map V.ref) (pa.map plE) →
      tupsQ (fun H' as => ∀ S out, H' S = none → List.Perm out as → out.Pairwise (fun a b => ∀ m n, PL K H' (.ref a) m → PL K H' (.ref b) n → lexP n m = false) → Q (.ref S) (upd H' S (.lst (out.map V.ref)))) kw acc H := by
  intro rest
  induction rest with
  | nil =>
    intro kw acc pa F H e E R hp hd
    cases hp
    simp only [List.append_nil] at e
    subst e
    show ∀ S out, _ → _ → _ → _
    intro S out hS hperm hsr
    obtain ⟨qs, k1, k2⟩ := dfs_perm (hperm.map V.ref) all hd
    have k3 := dfs_sorted R.le k2 (List.pairwise_map.mpr hsr)
    have k4 := lp_uniq (k1.trans (sortP_perm all).symm) k3 (sortP_sorted all)
    subst k4
    obtain ⟨R', E'⟩ := R.put (o := .lst (out.map V.ref)) hS
    exact g _ _ _ (E.trans E') R' (.lst upd_same (Dfs.mono E'.fle k2) (by rw [List.length_map, k1.length_eq]; exact hl))
  | cons p rest ih =>
    intro kw acc pa F H e E R hp hd
    cases hp with
    | @cons q _ kw _ h t =>
      intro T ob hT hdn
      obtain ⟨R1, E1⟩ := R.put (o := .frz ob (.tup [kV q.1, q.2])) hT
      have nT : Df K (upd F T (.frz ob (.tup [kV q.1, q.2]))) (.ref T) (plE p) := by
        obtain ⟨h1, h2⟩ := h
        refine .tup (SqB.of upd_same hdn) (.cons ?_ (.cons (Df.mono E1.fle h2) .nil)) (by show 2 ≤ LIM; decide)
        rw [h1]
        exact .int _
      refine ih (pa := pa ++ [p]) (by rw [e, List.append_assoc]; rfl) (E.trans E1) R1 (pairedMono t fun x y h => ⟨h.1, Df.mono E1.fle h.2⟩) ?_
      rw [List.map_append, List.map_append]
      exact (Dfs.mono E1.fle hd).append (.cons nT .nil)
theorem s_sit {x : Str} {p apos cpos : Pos} (hu : X.A.units + 2 < cLine) (hc : X.calm = true) (hg : Gl X x) (hm : X.mg x = none) (hv : bootBuiltins x = some (.builtin "sorted")) (ha : PE X a (tE X xa ec cf W ea)) (hn : x ≠ "__name__") (hdb : (x == ("__debug__" : Str)) = false)
    (hbase : attributeBase a "items" X.env (eval a X.env) = eval a X.env) (hline : (apos.endLine == cpos.line) = true)
    (hs : starEach [.Call (.Attribute a "items" apos) [] [] cpos] X.env = (false, eval (.Call (.Attribute a "items" apos) [] [] cpos) X.env) :: starEach [] X.env) :
    PE X (.Call (.Name x p) [.Call (.Attribute a "items" apos) [] [] cpos] [] pos) (tE X xa ec cf W (.sit ea)) := by
  refine pe_mono (pe_sortItems hu hc ha hg hm hv hn hdb hbase hline hs) fun σ H Q ⟨F, ρ, m, env, R, E, P⟩ => ?_
  refine ⟨F, ρ, m, env, R, E, Post.bind (rel' := relV X xa) P fun x m1 F1 ρ1 H1 v e1 E1 R1 rv P1 => ?_⟩
  obtain ⟨y, e3, P2⟩ := P1.of
  obtain ⟨ps, e4, rfl⟩ := map_some e3
  unfold sitV at e4
  split at e4
  · rename_i n
    obtain ⟨ad, rfl, hρ⟩ := rv
    split at e4
    · rename_i kvs hm0
      obtain ⟨l0, kw0, g10, g20⟩ := R1.ob n ad _ hρ hm0
      have g3 := plsK_ok e4 g20
      refine ⟨ad, kw0, rfl, g10, fun q hq => ?_, ?_⟩
      · obtain ⟨p, _, h⟩ := paired_mem g3 q hq
        exact kvP_sq R1.le h
      · refine tupsQ_ok (gives_of P2) ?_ (pa := []) rfl (Ext.refl _ _ _) R1 g3 .nil
        have e5 := Paired.length g20
        have e6 := Paired.length g3
        omega
    · cases e4
  · cases e4
/-! ### xs.index(y) -/
theorem ty_lst : TyOk X "list" (tyV X.K "list") := fun pins σ H s x v I r ty => tyV_is I r ty
theorem s_lix {apos : Pos} (hu : X.A.units + 65 < cLine) (ha : PE X a (tE X xa ec cf W ea)) (hb : PE X b (tE X xa ec cf W eb)) (hbase : attributeBase a "index" X.env (eval a X.env) = eval a X.env) (hline : (apos.endLine == pos.line) = true)
    (hs : starEach [b] X.env = (false, eval b X.env) :: starEach [] X.env) (hfew : ((backTo pos (starEach [b] X.env)).all (fun x => !x.1)) = true) : PE X (.Call (.Attribute a "index" apos) [b] [] pos) (tE X xa ec cf W (.lix ea eb)) := by
  refine pe_mono (pe_mG (name := "index") ty_lst PySem.F.plainAttrs_list PySem.F.slot_list_index PySem.F.type_list_index (mt_indexD hu) ha (pa_cons hb pa_nil hs) hbase (by rw [hfew]; rfl) hline hs rfl) fun σ H Q ⟨F, ρ, m, env, R, E, P⟩ => ?_
  refine ⟨F, ρ, m, env, R, E, Post.bind (rel' := relV X xa) P fun x m1 F1 ρ1 H1 v e1 E1 R1 rv P1 => ?_⟩
  split at P1
  · rename_i xs
    have rv : Df X.K F1 v (.list xs) := rv
    cases rv with
    | @lst ad vs _ h1 h2 hz =>
      refine ⟨.inl ⟨rfl, vs, SqL.of (R1.le _ _ h1)⟩, F1, ρ1, m1, env, R1, E.ext E1, Post.bind (rel' := relV X xa) P1 fun y m2 F2 ρ2 H2 u e2 E2 R2 ru P2 => ?_⟩
      split at P2
      · rename_i k
        have ru : Df X.K F2 u k := ru
        obtain ⟨y, e3, P3⟩ := P2.of
        obtain ⟨j, e4, rfl⟩ := map_some e3
        unfold lixD at e4
        split at e4
        · rename_i hsh
          simp only [Bool.and_eq_true] at hsh
          obtain ⟨hj, e5, e6⟩ := List.findIdx?_eq_some_iff_getElem.mp e4
          refine ⟨ad, u, k, xs, j, xs[j], rfl, rfl, ?_, ?_, hsh.1, hsh.2, List.getElem?_eq_getElem hj, e5, fun i z' hi hz' => ?_, P3.now R2 (show Df X.K F2 _ _ from .int _)⟩
          · exact .lst (SqL.of (R2.le _ _ (E2.fle _ _ h1))) (Dfs.dps (Dfs.mono R2.le (Dfs.mono E2.fle h2)))
          · exact (Df.mono R2.le ru).dp
          · have := e6 i hi
            obtain ⟨hl, rfl⟩ := List.getElem?_eq_some_iff.mp hz'
            simpa using this
        · cases e4
      · exact False.elim P2
  · exact False.elim P1
end
end PV
namespace PV
open PySem PySem.Spec PyProof.Rows L2
section
variable {X : Cx} {xa : List (Addr × Str)} {ec : Nat → Addr} {cf : CF} {W : WX} {sub : Nat → Nat → Bool} {a b : Expr} {pos : Pos} {ea eb : Ex}
/-! ### xs.extend(ys) -/
theorem s_ext {j : Nat} {x : Str} {np apos cpos : Pos} (hx : PE X (.Name x np) (tE X xa ec cf W (.v j))) (ha : PE X a (tE X xa ec cf W ea)) (hs : starEach [a] X.env = (false, eval a X.env) :: starEach [] X.env) (hline : (apos.endLine == cpos.line) = true)
    (hbase : attributeBase (.Name x np) "extend" X.env (eval (.Name x np) X.env) = eval (.Name x np) X.env) : PS X (.Expr (.Call (.Attribute (.Name x np) "extend" apos) [a] [] cpos) pos) (tS X xa ec cf W sub (.ext j ea)) := by
  refine ps_mono (ps_expr (pe_bm F.plainAttrs_list F.slot_list_extend F.type_list_extend mt_extend hx (tE_one ha hs) hbase (by rw [hs]; rfl) hline hs rfl) rfl) fun D σ H ⟨F, ρ, m, env, R, E, P⟩ => ?_
  obtain ⟨ov, eo, P1⟩ := PostS.opt (X := X) (W := W) (ec := ec) P
  refine ⟨F, ρ, m, env, R, E, ?_⟩
  show Post X.K xa ec (relV X xa) _ F ρ H (Res.of (getV env j) m) _
  rw [eo]
  intro F1 ρ1 H1 u E1 R1 ru
  have ru : RepV X.K xa F1 ρ1 u ov := ru
  have hL : isLst m ov = true := by
    cases h : isLst m ov with
    | true => rfl
    | false => rw [h] at P1; exact False.elim P1
  rw [hL] at P1
  have P2 := PostS.up (r := S.of env (evE cf ea env m) fun x m1 => S.opt (extIx m1 ov x) fun m2 => .nx env m2) P1 E1
  cases ov with
  | loc n =>
    obtain ⟨l, rfl, hl⟩ := ru
    have Eσ := E.ext E1
    -- what is appended to is a list that lives: it is known behind the argument
    have step : tE X xa ec cf W ea σ H1 (fun v H2 => rExtend (.ref l) [v] H2 fun _ H3 => D.nx σ H3) := by
      refine ⟨F1, ρ1, m, env, R1, Eσ, postS_of (rel := relV X xa) Eσ P2 fun v m1 F2 ρ2 H2 y e1 E2 R2 rv P3 => ?_⟩
      obtain ⟨m2, e2, P4⟩ := PostS.opt (X := X) (W := W) (ec := ec) P3
      unfold extIx at e2
      split at e2
      · rename_i nn ys eqn
        cases eqn
        split at e2
        · rename_i xs em
          split at e2
          · rename_i hb
            simp only [decide_eq_true_eq] at hb
            cases e2
            have hl2 : ρ2[n]? = some l := by
              obtain ⟨ζ, e3, _⟩ := E2.pre
              rw [e3, List.getElem?_append_left (List.getElem?_eq_some_iff.mp hl).1]
              exact hl
            obtain ⟨l0, vs, h1, h2⟩ := R2.ob n l _ hl2 em
            have rv : Df X.K F2 y (.list ys) := rv
            cases rv with
            | @lst b zs _ hb1 hb2 hb3 =>
              have h3 : RepVs X.K xa F2 ρ2 zs (ys.map .d) := dfs_rep hb2
              obtain ⟨R3, E3⟩ := R2.write (o := .lst (xs ++ ys.map .d)) (ho := .lst (vs ++ zs)) hl2 ⟨by simpa using hb, _, upd_same, RepVs.app h2 h3⟩ (fun w hw => by
                have hw' : w ∈ xs ++ ys.map .d := hw
                rcases List.mem_append.mp hw' with z | z
                · exact R2.wf n _ em w z
                · obtain ⟨q, _, rfl⟩ := List.mem_map.mp z
                  rfl) (fun _ _ z => by rw [h1] at z; cases z)
              refine ⟨l, b, vs, zs, rfl, rfl, h1, R2.le _ _ hb1, by rw [RepVs.len h2, Dfs.len hb2, ← lim_eq]; exact hb, P4 F2 ρ2 _ σ E3 R3 (Eσ.ext E2)⟩
          · cases e2
        · cases e2
      · cases e2
    refine ⟨.inl ⟨rfl, ?_⟩, step⟩
    unfold isLst at hL
    dsimp only at hL
    split at hL
    · rename_i xs em
      obtain ⟨l0, vs, h1, h2⟩ := R1.ob n l _ hl em
      exact ⟨vs, SqL.of h1⟩
    · cases hL
  | d _ => cases hL
  | exc _ _ => cases hL
  | ro _ => cases hL
end
end PV
end

section
set_option Elab.async false
set_option linter.all false
set_option maxRecDepth 100000
/-! PVW: walks over a dict, which is locked meanwhile. -/
namespace PV
open PySem PySem.Spec PyProof.Rows L2
section
variable {K : PySem.W.Frag} {xa : List (Addr × Str)}
/-- the dict of a slot -/
theorem lockV_at {m m1 : Mem} {o : Option EV} {v : EV} {xs : List D} (h : lockV m o = some (v, xs, m1)) : o = some v ∧ ∃ n kvs, v = .loc n ∧ m[n]? = some (.dK kvs) ∧ m1 = m.set n (.dF kvs) ∧ keysF m1 v = some xs := by
  unfold lockV at h
  split at h
  · split at h
    · rename_i v2 m2 e1
      split at h
      · rename_i xs2 e2
        cases h
        unfold lockM at e1
        split at e1
        · rename_i n
          split at e1
          · rename_i kvs em
            cases e1
            exact ⟨rfl, n, kvs, rfl, em, rfl, e2⟩
          · cases e1
        · cases e1
      · cases h
    · cases h
  · cases h
/-- the keys -/
theorem keys_at : ∀ {kvs : List (Key × EV)} {xs : List D}, keysK kvs = some xs → xs.length = kvs.length ∧ ∀ (j : Nat) k y, kvs[j]? = some (k, y) → ∃ i : Int, k = .inl i ∧ xs[j]? = some (.int i)
  | [], xs, h => by
    cases h
    exact ⟨rfl, fun j k y e => by cases e⟩
  | (.inl i, y0) :: kvs, xs, h => by
    unfold keysK at h
    split at h
    · rename_i ys e2
      cases h
      obtain ⟨h1, h2⟩ := keys_at e2
      refine ⟨by simp [h1], fun j k y e => ?_⟩
      cases j with
      | zero =>
        cases e
        exact ⟨i, rfl, rfl⟩
      | succ j => exact h2 j k y (by simpa using e)
    · cases h
  | (.inr i, y0) :: kvs, xs, h => by cases h
theorem Rep.lock {F : Hp} {ρ : List Addr} {m : Mem} {H : Hp} (R : Rep K xa F ρ m H) {n : Nat} {a : Addr} {kvs : List (Key × EV)} (hr : ρ[n]? = some a) (hm : m[n]? = some (.dK kvs)) : ∃ kw, H a = some (.dK kw) ∧ Paired (fun (p : Key × V) (q : Key × EV) => p.1 = q.1 ∧ RepV K xa F ρ p.2 q.2) kw kvs ∧
    ∀ od, Rep K xa F ρ (m.set n (.dF kvs)) (upd H a (.frz od (.dK kw))) ∧ Ext F ρ H F ρ (upd H a (.frz od (.dK kw))) := by
  obtain ⟨l, kw, h1, h2⟩ := R.ob n a _ hr hm
  refine ⟨kw, h1, h2, fun od => R.write (o := .dF kvs) (ho := .frz od (.dK kw)) hr ⟨l, od, kw, upd_same, h2⟩ (by have w := R.wf n (.dK kvs) hm; exact w) (fun _ _ z => by rw [h1] at z; cases z)⟩
/-- unlocked behind -/
theorem Rep.unlock {F : Hp} {ρ : List Addr} {m : Mem} {H : Hp} (R : Rep K xa F ρ m H) {n : Nat} {a : Addr} {kvs : List (Key × EV)} {od : Obj} {kw : List (Key × V)} (hr : ρ[n]? = some a) (hm : m[n]? = some (.dF kvs)) (hf : H a = some (.frz od (.dK kw))) : Rep K xa F ρ (m.set n (.dK kvs)) (upd H a (.dK kw)) := by
  obtain ⟨l, o2, kw2, h1, h2⟩ := R.ob n a _ hr hm
  rw [hf] at h1
  cases h1
  -- a dict that may be written stands for the locked one: as if written
  have hin : a ∈ ρ := List.mem_of_getElem? hr
  refine ⟨fun b u e => ?_, by simp [R.len], fun k b q e1 e2 => ?_, R.nf, R.nd, fun k q e => ?_, tabs_upd R.tab (R.nt hr), R.nft⟩
  · have : b ≠ a := fun z => by rw [z, R.nf a hin] at e; cases e
    rw [upd_ne this]; exact R.le b u e
  · by_cases hk : n = k
    · subst hk
      rw [hr] at e1
      cases e1
      have hl : n < m.length := by rw [← R.len]; exact (List.getElem?_eq_some_iff.mp hr).1
      rw [List.getElem?_set_self hl] at e2
      cases e2
      exact ⟨l, kw, upd_same, h2⟩
    · rw [List.getElem?_set_ne hk] at e2
      have hb : b ≠ a := fun z => by
        subst z
        obtain ⟨h1, e3⟩ := List.getElem?_eq_some_iff.mp e1
        obtain ⟨h2, e4⟩ := List.getElem?_eq_some_iff.mp hr
        exact hk ((List.getElem_inj R.nd).mp (e4.trans e3.symm))
      exact (R.ob k b q e1 e2).mono (Same.refl F) ⟨[], by simp⟩ fun u h => by rw [upd_ne hb]; exact h
  · by_cases hk : n = k
    · subst hk
      have hl : n < m.length := by rw [← R.len]; exact (List.getElem?_eq_some_iff.mp hr).1
      rw [List.getElem?_set_self hl] at e
      cases e
      have w := R.wf n (.dF kvs) hm
      exact w
    · rw [List.getElem?_set_ne hk] at e
      exact R.wf k q e
theorem Ext.unlock {F F' : Hp} {ρ ρ' : List Addr} {H H' : Hp} {a : Addr} {od : Obj} {kw : List (Key × V)} (ha : a ∈ ρ) (h1 : H a = some (.dK kw)) (E : Ext F ρ (upd H a (.frz od (.dK kw))) F' ρ' H') : Ext F ρ H F' ρ' (upd H' a (.dK kw)) := by
  have hne : ∀ b, H b = none → b ≠ a := fun b hb z => by rw [z, h1] at hb; cases hb
  obtain ⟨ζ, e1, n1⟩ := E.pre
  refine ⟨E.fle, ⟨ζ, e1, fun b hb => ?_⟩, fun b o hb hn nt => ?_, fun b o e2 e3 => ?_, fun b hb => ?_, fun b o u hb => ?_⟩
  · have := n1 b hb
    by_cases z : b = a
    · rw [z, upd_same] at this; cases this
    · rw [upd_ne z] at this; exact this
  · have z : b ≠ a := fun z => hn (z ▸ ha)
    rw [upd_ne z]
    exact E.frm b o (by rw [upd_ne z]; exact hb) hn nt
  · have := E.new b o e2 e3
    by_cases z : b = a
    · rw [z, upd_same] at this; cases this
    · rw [upd_ne z] at this; exact this
  · by_cases z : b = a
    · rw [z, upd_same]; simp
    · rw [upd_ne z]
      exact E.kep b (by rw [upd_ne z]; exact hb)
  · have z : b ≠ a := fun z => by rw [z, h1] at hb; cases hb
    rw [upd_ne z]
    exact E.frz b o u (by rw [upd_ne z]; exact hb)
/-- the walk itself -/
theorem walk_dk {F1 : Hp} {ρ1 : List Addr} {H1 : Hp} {a : Addr} {od : Obj} {kw : List (Key × V)} {kvs : List (Key × EV)} {xs : List D} (hf : H1 a = some (.frz od (.dK kw))) (hp : Paired (fun (p : Key × V) (q : Key × EV) => p.1 = q.1 ∧ RepV K xa F1 ρ1 p.2 q.2) kw kvs) (hl : kvs.length ≤ LIM)
    (hk : keysK kvs = some xs) : WalkE K xa F1 ρ1 H1 (Itk a od kw) (.fx xs) := by
  obtain ⟨k1, k2⟩ := keys_at hk
  have lw := Paired.length hp
  refine ⟨by show xs.length ≤ LIM; omega, fun i F ρ m H y hi R E e => ?_, fun F ρ m H R E e => ?_⟩
  · have hi : i < xs.length := hi
    obtain ⟨x, e1, rfl⟩ := map_some (show (xs[i]?).map EV.d = some y from e)
    refine ⟨⟨E.frz _ _ _ hf, by omega⟩, fun x' H' ⟨eH, k, v, g1, g2⟩ => ?_⟩
    subst eH
    obtain ⟨q, g3, g4, _⟩ := paired_get hp g1
    obtain ⟨j, g5, g6⟩ := k2 i q.1 q.2 g3
    rw [g6] at e1
    cases e1
    have : x' = .int j := by
      rw [g2]
      have g4 : k = q.1 := g4
      rw [g4, g5]
      rfl
    subst this
    exact ⟨F, Ext.refl _ _ _, R, show Df K F _ _ from .int j⟩
  · exact ⟨E.frz _ _ _ hf, by show kw.length ≤ xs.length; omega⟩
end
end PV
namespace PV
open PySem PySem.Spec PyProof.Rows L2
section
variable {X : Cx} {xa : List (Addr × Str)} {ec : Nat → Addr} {cf : CF} {W : WX} {pos : Pos} {sub : Nat → Nat → Bool}
theorem getV_at {env : Env} {i : Nat} {v : EV} (h : getV env i = some v) : env[i]? = some (some v) := by
  unfold getV at h
  split at h
  · rename_i v2 e
    cases h
    exact e
  · cases h
theorem keysF_at {m : Mem} {n : Nat} {kvs : List (Key × EV)} {xs : List D} (hm : m[n]? = some (.dK kvs)) (h : keysF (m.set n (.dF kvs)) (.loc n) = some xs) : keysK kvs = some xs := by
  have hl := (List.getElem?_eq_some_iff.mp hm).1
  unfold keysF at h
  simp only [List.getElem?_set_self hl] at h
  exact h
theorem unlkM_at {m m1 : Mem} {n : Nat} (h : unlkM m (.loc n) = some m1) : ∃ kvs, m[n]? = some (.dF kvs) ∧ m1 = m.set n (.dK kvs) := by
  unfold unlkM at h
  simp only at h
  split at h
  · rename_i kvs em
    cases h
    exact ⟨kvs, em, rfl⟩
  · cases h
theorem pre_at {F F' : Hp} {ρ ρ' : List Addr} {H H' : Hp} {n : Nat} {a : Addr} (E : Ext F ρ H F' ρ' H') (h : ρ[n]? = some a) : ρ'[n]? = some a := by
  obtain ⟨ζ, e, _⟩ := E.pre
  rw [e, List.getElem?_append_left (List.getElem?_eq_some_iff.mp h).1]
  exact h
theorem s_compk {tg iter elt : Expr} {ifs : List Expr} {scope : Scope} {own : List (Str × Nat)} {t : Tg} {i : Nat} {q e : Ex} (hc : X.calm = true) (hN : X.N.Nodup) (hx : PE X iter (tE X xa ec cf W (.v i))) (ok : BlkOk X.N X.env.scope scope own)
    (hg : ∀ (s : Shared) (H : Hp) (C : Addr) (cl : List (Str × Addr)) (fp : List Addr), PG (X.blk s H scope (compEnvC scope cl C X.env) fp) tg (tG X xa t))
    (ht : ∀ (s : Shared) (H : Hp) (C : Addr) (cl : List (Str × Addr)) (fp : List Addr), PTs (X.blk s H scope (compEnvC scope cl C X.env) fp) ifs (tT X xa ec cf W0 q))
    (he : ∀ (s : Shared) (H : Hp) (C : Addr) (cl : List (Str × Addr)) (fp : List Addr), PE (X.blk s H scope (compEnvC scope cl C X.env) fp) elt (tE X xa ec cf W0 e))
    (hs : ∀ x, foldedSetIterable iter X.env x = pure x) (hsl : ∀ j ∈ tgSl t, j ∈ own.map (·.2)) :
    PE X (.ListComp elt [⟨tg, iter, ifs, 0⟩] scope pos) (tL X xa ec cf W (.compk t i (own.map (·.2)) q e)) := by
  refine pe_mono (pe_lock (pe_lc hc hN (pi_keys hx) ok hg ht he hs)) fun σ H Q ⟨F, ρ, m, env, R, E, P⟩ => ?_
  simp only [evL] at P
  cases hL : lockV m (getV env i) with
  | none => rw [hL] at P; exact False.elim P
  | some z =>
    obtain ⟨v, xs, m1⟩ := z
    rw [hL] at P
    dsimp only at P
    obtain ⟨hg0, n, kvs, rfl, hm, rfl, hk⟩ := lockV_at hL
    obtain ⟨x, hx1, a, rfl, hr⟩ := E.2 i _ (getV_at hg0)
    obtain ⟨l, _⟩ := R.ob n a _ hr hm
    obtain ⟨kw, h1, h2, lk⟩ := R.lock hr hm
    refine ⟨a, .dK kw, h1, trivial, fun od => ?_⟩
    obtain ⟨R1, E1⟩ := lk od
    refine ⟨F, ρ, m.set n (.dF kvs), env, R1, E.ext E1, ?_⟩
    show Post X.K xa ec (relV X xa) _ F ρ (upd H a (.frz od (.dK kw))) (Res.of (getV env i) (m.set n (.dF kvs))) _
    rw [hg0]
    intro F2 ρ2 H2 u E2 R2 ru
    have ru : RepV X.K xa F2 ρ2 u (.loc n) := ru
    obtain ⟨a2, rfl, hr2⟩ := ru
    have ea : a2 = a := by
      have := pre_at E2 hr
      rw [hr2] at this
      exact Option.some.inj this
    subst ea
    have hf2 : H2 a2 = some (.frz od (.dK kw)) := E2.frz _ _ _ upd_same
    refine ⟨a2, od, rfl, .inl ⟨kw, hf2, fun D hD => ?_⟩⟩
    refine comp_core (ec := ec) (cf := cf) (q := q) (e := e) (Q := fun v H' => H' a2 = some (HO.frz od (HO.dK kw)) ∧ Q v (upd H' a2 (HO.dK kw))) (WE := fun _ _ _ => False) hsl R2 ((E.ext E1).ext E2) (walk_dk hf2 (pair_imp h2 fun _ _ q => ⟨q.1, q.2.mono E2.fle E2.pre'⟩) l (keysF_at hm hk)) ?_ D hD
    show PostL X xa ec _ F2 ρ2 H2 [] (compL (.fx xs) _ xs.length 0 (m.set n (.dF kvs))) _
    cases r : compL (.fx xs) (turnB t (wipeE env (own.map (·.2))) (fun e2 m2 => evE cf q e2 m2) (fun e2 m2 => evE cf e e2 m2)) xs.length 0 (m.set n (.dF kvs)) with
    | bad => rw [r] at P; exact False.elim P
    | ex c fs m' => rw [r] at P; exact False.elim P
    | ok ds m2 =>
      rw [r] at P
      simp only [Res.noex, Res.bind] at P
      cases hu : unlkM m2 (.loc n) with
      | none => rw [hu] at P; exact False.elim P
      | some m3 =>
        rw [hu] at P
        obtain ⟨kvs3, hm3, rfl⟩ := unlkM_at hu
        intro F' ρ' H' p vs E' R' hp fp hr' hp0 dd ll
        have hf' := E'.frz _ _ _ hf2
        have E3 := E2.trans E'
        have hr3 := pre_at E3 hr
        have hpa : p ≠ a2 := fun z => hr' (z ▸ List.mem_of_getElem? hr3)
        exact ⟨hf', P F' ρ' (upd H' a2 (.dK kw)) p vs (Ext.unlock (List.mem_of_getElem? hr) h1 E3) (R'.unlock hr3 hm3 hf') (by rw [upd_ne hpa]; exact hp) fp hr' (none_of_kep (fun b hb => E2.kep b (E1.kep b hb)) hp0) dd ll⟩
theorem s_fork {tg iter : Expr} {t : Tg} {i : Nat} {body : List Stmt} {bs : Sts} (hp : PassesOwn (model X.prog X.w) X.A X.env X.xe) (hc : X.calm = true) (hx : PE X iter (tE X xa ec cf W (.v i))) (hg : PG X tg (tG X xa t)) (hb : PSs X body (tSs X xa ec cf W0 sub bs))
    (hs : ∀ x, foldedSetIterable iter X.env x = pure x) : PS X (.For tg iter body [] pos) (tS X xa ec cf W sub (.fork t i bs)) := by
  refine ps_mono (ps_lock (ps_for hp hc (pi_keys hx) hg hb hs)) fun D σ H ⟨F, ρ, m, env, R, E, P⟩ => ?_
  have P : PostS X xa ec W F ρ H (match lockV m (getV env i) with
      | some (v, xs, m1) => unlkS v (forL (.fx xs) t (fun e2 m2 => evSs cf sub bs e2 m2) xs.length 0 env m1)
      | none => .bad) D := P
  cases hL : lockV m (getV env i) with
  | none => rw [hL] at P; exact False.elim P
  | some z =>
    obtain ⟨v, xs, m1⟩ := z
    rw [hL] at P
    dsimp only at P
    obtain ⟨hg0, n, kvs, rfl, hm, rfl, hk⟩ := lockV_at hL
    obtain ⟨x, hx1, a, rfl, hr⟩ := E.2 i _ (getV_at hg0)
    obtain ⟨l, _⟩ := R.ob n a _ hr hm
    obtain ⟨kw, h1, h2, lk⟩ := R.lock hr hm
    refine ⟨a, .dK kw, h1, trivial, fun od => ?_⟩
    obtain ⟨R1, E1⟩ := lk od
    refine ⟨F, ρ, m.set n (.dF kvs), env, R1, E.ext E1, ?_⟩
    show Post X.K xa ec (relV X xa) _ F ρ (upd H a (.frz od (.dK kw))) (Res.of (getV env i) (m.set n (.dF kvs))) _
    rw [hg0]
    intro F2 ρ2 H2 u E2 R2 ru
    have ru : RepV X.K xa F2 ρ2 u (.loc n) := ru
    obtain ⟨a2, rfl, hr2⟩ := ru
    have ea : a2 = a := by
      have := pre_at E2 hr
      rw [hr2] at this
      exact Option.some.inj this
    subst ea
    have hf2 : H2 a2 = some (.frz od (.dK kw)) := E2.frz _ _ _ upd_same
    refine ⟨a2, od, rfl, .inl ⟨kw, hf2, ?_⟩⟩
    refine for_core (W := W0) R2 ((E.ext E1).ext E2) (walk_dk hf2 (pair_imp h2 fun _ _ q => ⟨q.1, q.2.mono E2.fle E2.pre'⟩) l (keysF_at hm hk)) ?_
    show PostS X xa ec W0 F2 ρ2 H2 (forL (.fx xs) t (fun e2 m2 => evSs cf sub bs e2 m2) xs.length 0 env (m.set n (.dF kvs))) _
    cases r : forL (.fx xs) t (fun e2 m2 => evSs cf sub bs e2 m2) xs.length 0 env (m.set n (.dF kvs)) with
    | bad => rw [r] at P; exact False.elim P
    | ex c fs env2 m' => rw [r] at P; exact False.elim P
    | bk env2 m' => rw [r] at P; exact False.elim P
    | ct env2 m' => rw [r] at P; exact False.elim P
    | nx env2 m2 =>
      rw [r] at P
      have P : PostS X xa ec W F ρ H (S.opt (unlkM m2 (.loc n)) fun m1 => .nx env2 m1) D := P
      cases hu : unlkM m2 (.loc n) with
      | none => rw [hu] at P; exact False.elim P
      | some m3 =>
        rw [hu] at P
        obtain ⟨kvs3, hm3, rfl⟩ := unlkM_at hu
        intro F' ρ' H' σ' E' R' Eσ'
        have hf' := E'.frz _ _ _ hf2
        have E3 := E2.trans E'
        have hr3 := pre_at E3 hr
        exact ⟨hf', P F' ρ' (upd H' a2 (.dK kw)) σ' (Ext.unlock (List.mem_of_getElem? hr) h1 E3) (R'.unlock hr3 hm3 hf') Eσ'⟩
    | rt y m2 =>
      rw [r] at P
      have P : PostS X xa ec W F ρ H (S.opt (unlkM m2 (.loc n)) fun m1 => .rt y m1) D := P
      cases hu : unlkM m2 (.loc n) with
      | none => rw [hu] at P; exact False.elim P
      | some m3 =>
        rw [hu] at P
        obtain ⟨kvs3, hm3, rfl⟩ := unlkM_at hu
        intro F' ρ' H' x E' R' rx
        have hf' := E'.frz _ _ _ hf2
        have E3 := E2.trans E'
        have hr3 := pre_at E3 hr
        exact ⟨hf', P F' ρ' (upd H' a2 (.dK kw)) x (Ext.unlock (List.mem_of_getElem? hr) h1 E3) (R'.unlock hr3 hm3 hf') rx⟩
end
end PV
end

section
set_option Elab.async false
set_option linter.all false
set_option maxRecDepth 100000
set_option maxHeartbeats 2000000
/-! PVR: xs[::-1] of a tuple. -/
namespace PV
open PySem PySem.Spec PyProof.Rows HT
section
variable {prog : Program} {w : World} {A : Around} {E : Value → Shared → Prop} {s : Shared}
theorem fm_congr {α β : Type} {f g : α → Option β} : ∀ {l : List α}, (∀ x ∈ l, f x = g x) → l.filterMap f = l.filterMap g
  | [], _ => rfl
  | a :: l, h => by
    rw [List.filterMap_cons, List.filterMap_cons, h a (by simp), fm_congr fun x hx => h x (by simp [hx])]
theorem pick_rev (xs : Array Value) : ((List.range xs.size).filterMap fun (m : Nat) => xs[(((xs.size : Int) - 1) + (m : Int) * (-1)).toNat]?).toArray = xs.toList.reverse.toArray := by
  have e : (List.range xs.size).filterMap (fun (m : Nat) => xs[(((xs.size : Int) - 1) + (m : Int) * (-1)).toNat]?) = ((List.range xs.size).map fun k => xs.size - 1 - k).filterMap (xs[·]?) := by
    rw [List.filterMap_map]
    refine fm_congr fun m hm => ?_
    have := List.mem_range.mp hm
    have e2 : (((xs.size : Int) - 1) + (m : Int) * (-1)).toNat = xs.size - 1 - m := by omega
    show xs[(((xs.size : Int) - 1) + (m : Int) * (-1)).toNat]? = xs[xs.size - 1 - m]?
    rw [e2]
  rw [e, PySem.W.krv_range, List.filterMap_reverse, PySem.W.krv_all]
theorem sliceApplied_rev {sl : Addr} {vl vu vs : Value} {n : Nat} {Q : Int × Int × Nat → Shared → Prop} (hs : s.heap.IsSliceOf sl vl vu vs) (pl : IsPart vl none) (pu : IsPart vu none) (ps : IsPart vs (some (-1)))
    (h : Q (((n : Int) - 1), -1, n) s) : wpAny (model prog w) A (Builtin.Slice.sliceApplied (.ref sl) (pure (n : Int))) Q E s := by
  obtain ⟨os, hos, hcs, hds⟩ := id hs
  unfold Builtin.Slice.sliceApplied Builtin.Slice.sliceFields
  refine wpAny_bind (wpAny_bind (wpAny_field hos hds (x := vl) rfl (wpAny_bind (wpAny_field hos hds (x := vu) rfl (wpAny_bind (wpAny_field hos hds (x := vs) rfl (wpAny_pure ?_)))))))
  refine wpAny_bind (slicePart_ ps ?_)
  show wpAny _ _ (if ((-1 : Int) == 0) = true then _ else _) _ _ s
  rw [if_neg (by decide)]
  refine wpAny_bind (slicePart_ pl (wpAny_bind (slicePart_ pu (wpAny_bind (wpAny_pure ?_)))))
  have e1 : Builtin.Slice.sliceAdjust none none (-1) (n : Int) = (((n : Int) - 1), -1) := by
    unfold Builtin.Slice.sliceAdjust
    rfl
  have e2 : Builtin.Slice.slicePlaces ((n : Int) - 1) (-1) (-1) = n := by
    unfold Builtin.Slice.slicePlaces
    have h1 : ¬ ((-1 : Int) > 0) := by omega
    simp only [h1, if_false]
    have e3 : ((n : Int) - 1 - -1 - 1) / - -1 = (n : Int) - 1 := by
      rw [show (- -1 : Int) = 1 by decide, Int.ediv_one]
      omega
    split <;> omega
  show wpAny _ _ (match Builtin.Slice.sliceAdjust none none (-1) (n : Int) with | (lo, hi) => pure (lo, (-1 : Int), Builtin.Slice.slicePlaces lo hi (-1))) _ _ s
  rw [e1]
  show wpAny _ _ (pure (((n : Int) - 1), (-1 : Int), Builtin.Slice.slicePlaces ((n : Int) - 1) (-1) (-1))) _ _ s
  rw [e2]
  exact wpAny_pure h
theorem getItem_tuple_rev {t sl : Addr} {items : Array Value} {vl vu vs : Value} {Q : Value → Shared → Prop} (ht : IsTup s.heap t items) (hs : s.heap.IsSliceOf sl vl vu vs) (pl : IsPart vl none) (pu : IsPart vu none) (ps : IsPart vs (some (-1)))
    (h : Q (.ref s.heap.objs.size) { s with heap := s.heap.push { cls := .type "tuple", data := .seq items.toList.reverse.toArray } })
    (hsz : items.size ≤ sizeLine) : wpAny (model prog w) A (getItem (.ref t) (.ref sl)) Q E s := by
  have htake : sizeOk (.seq items.toList.reverse.toArray) := by
    show items.toList.reverse.toArray.size ≤ sizeLine
    rw [List.size_toArray, List.length_reverse, Array.length_toList]
    exact hsz
  obtain ⟨os, hos, hcs, hds⟩ := id hs
  have hTs : s.TypeIs (.ref sl) "slice" := ⟨os, hos, hcs⟩
  unfold getItem
  try with_reducible refine wpAny_holding ?_
  first | refine wpAny_bind (wpAny_pure ?_) | skip
  refine wpAny_bind (wpAny_sequenceKey ht.typeIs (by decide) ?_)
  refine wpAny_bind (wpAny_callSpecial?_slot (name := Str.ofString "__getitem__") ht.typeIs PyProof.Rows.slot_tuple_getitem
    (wpAny_call_entry PyProof.Rows.slot_tuple_getitem ht.typeIs entry_tuple_getitem ?_ (args_tuple_getitem _ _)))
  show wpAny _ _ (Builtin.Tuple.tupleItemsOf (.ref t) >>= _) _ _ s
  refine wpAny_bind (tupleItemsOf_ ht ?_)
  refine wpAny_bind (wpAny_typeOf hTs ?_)
  rw [if_pos (by decide)]
  refine wpAny_bind (sliceApplied_rev hs pl pu ps ?_)
  show wpAny _ _ (if (((items.size : Int) - 1) == 0 && (-1 : Int) == 1 && items.size == items.size) = true then _ else _) _ _ s
  have hno : ¬ ((((items.size : Int) - 1) == 0 && (-1 : Int) == 1 && items.size == items.size) = true) := by
    intro q
    rw [Bool.and_eq_true, Bool.and_eq_true] at q
    exact absurd (eq_of_beq q.1.2) (by decide)
  rw [if_neg hno, pick_rev]
  first
    | exact wpAny_bind (m := Builtin.Tuple.tupleExact _) (wpAny_newObj_type (wpAny_pure ⟨_, rfl, wpAny_pure h⟩) htake)
    | exact wpAny_bind (m := Builtin.Tuple.tupleExact _) (wpAny_newObj_type (wpAny_bind (wpAny_pure (wpAny_pure ⟨_, rfl, wpAny_pure h⟩))) htake)
    | exact wpAny_bind (wpAny_bind (m := Builtin.Tuple.tupleExact _) (wpAny_newObj_type (wpAny_pure (wpAny_pure ⟨_, rfl, wpAny_pure h⟩)) htake))
    | exact wpAny_bind (wpAny_bind (m := Builtin.Tuple.tupleExact _) (wpAny_newObj_type (wpAny_pure ⟨_, rfl, wpAny_pure h⟩) htake))
end
end PV
namespace PV
open PySem PySem.Spec PyProof.Rows L2
def tRevT (K : PySem.W.Frag) (te : TE) : TE := fun σ H Q => te σ H fun x H1 => ∃ a xs, x = .ref a ∧ SqT K H1 a xs ∧ NewT Q H1 xs.reverse
section
variable {X : Cx} {xa : List (Addr × Str)} {ec : Nat → Addr} {cf : CF} {W : WX} {a : Expr} {ea : Ex}
theorem pe_revT {e : Expr} {te : TE} {k : Nat} {p1 p2 p3 pos : Pos} (he : PE X e te) : PE X (.Subscript e (.Slice none none (some (.UnaryOp .USub (.Constant (.int 1) k p1) p2)) p3) pos) (tRevT X.K te) := by
  refine ⟨fun pins s σ H Q I h => ?_⟩
  refine Subscript_ (thn (he.run pins s σ H _ I h) fun v s1 ⟨x, H1, I1, r1, q1⟩ => ?_)
  obtain ⟨a, xs, ex, hx, q⟩ := q1
  subst ex
  cases r1
  have hst : PO X (some (.UnaryOp .USub (.Constant (.int 1) k p1) p2)) (tPart (tUn (rU fun i => .int (-i)) (tC (.int 1)))) := po_some (pe_un un_neg pe_int)
  refine wpAny_Slice (thn (po_none.run pins s1 σ H1 (fun o H2 => o = none ∧ H2 = H1) I1 ⟨rfl, rfl⟩) fun vl s2 ⟨l, H2, I2, pl, el, e2⟩ => ?_)
  subst el e2
  refine thn (po_none.run pins s2 σ H2 (fun o H3 => o = none ∧ H3 = H2) I2 ⟨rfl, rfl⟩) fun vu s3 ⟨u, H3, I3, pu, eu, e3⟩ => ?_
  subst eu e3
  refine thn (hst.run pins s3 σ H3 (fun o H4 => o = some (-1) ∧ H4 = H3) I3 ⟨1, rfl, -1, rfl, rfl, rfl⟩) fun vs s4 ⟨o, H4, I4, ps, eo, e4⟩ => ?_
  subst eo e4
  have I5 : Inv X pins σ H4 { s4 with heap := s4.heap.push { cls := .type "slice", data := .fields #[vl, vu, vs] } } := I4.kept (t' := s4.toks) fun b ob q => Heap.get?_push_of_some _ q
  obtain ⟨its, r, ht, hz⟩ := I5.tuple hx
  have hlen := r.length
  show wpAny (model X.prog X.w) X.A (subscriptTail e (.Slice none none (some (.UnaryOp .USub (.Constant (.int 1) k p1) p2)) p3) (.ref a) (.ref s4.heap.objs.size)) (EP X pins σ Q) X.xe { s4 with heap := s4.heap.push { cls := .type "slice", data := .fields #[vl, vu, vs] } }
  refine tail_any (ops := [.ref a, .ref s4.heap.objs.size]) ht.typeIs (PyProof.Rows.slot_tuple_getitem.lookup) ?_ (by with_unfolding_all rfl)
  refine getItem_tuple_rev ht (Heap.IsSliceOf.new _ vl vu vs) pl pu ps ?_ (by rw [List.size_toArray]; omega)
  have := newT_at (t' := s4.toks) I5 r.reverse (by rw [List.length_reverse]; exact hz) q
  exact this
theorem Dfs.reverse {K : PySem.W.Frag} {F : Hp} : ∀ {ds : List PV.D} {vs : List V}, Dfs K F vs ds → Dfs K F vs.reverse ds.reverse
  | [], _, h => by cases h; exact .nil
  | _ :: _, _, h => by
    cases h with
    | cons a b =>
      rw [List.reverse_cons, List.reverse_cons]
      exact (Dfs.reverse b).append (.cons a .nil)
theorem s_rev {k : Nat} {p1 p2 p3 pos : Pos} (ha : PE X a (tE X xa ec cf W ea)) : PE X (.Subscript a (.Slice none none (some (.UnaryOp .USub (.Constant (.int 1) k p1) p2)) p3) pos) (tE X xa ec cf W (.rev ea)) := by
  refine pe_mono (pe_revT ha) fun σ H Q ⟨F, ρ, m, env, R, E, P⟩ => ?_
  refine ⟨F, ρ, m, env, R, E, Post.bind (rel' := relV X xa) P fun x m1 F1 ρ1 H1 v e1 E1 R1 rv P1 => ?_⟩
  split at P1
  · rename_i xs
    have rv : Df X.K F1 v (.tuple xs) := rv
    cases rv with
    | tup h1 h2 hz =>
      exact ⟨_, _, rfl, sqT_mono R1.le h1.t, gives_tup R1 (gives_of P1) (Dfs.reverse h2) (by rw [List.length_reverse]; exact hz)⟩
  · exact False.elim P1
end
end PV
end

section
set_option Elab.async false
set_option linter.all false
set_option maxRecDepth 100000
/-! PVY: len(set(ints)). -/
namespace PV
open PySem PySem.Spec PyProof.Rows L2
def rLenS (w : World) : List V → Hp → VK → Prop := fun vs H Q => ∃ (a : Addr) (S : Int → Bool) (n : Nat), vs = [V.ref a] ∧ H a = some (SetO w a S n) ∧ Q (.int (n : Nat)) H
theorem cr_lenS {X : Cx} : CallR X (.builtin "len") (rLenS X.w) := by
  intro pins s σ H xs us Q I r h
  obtain ⟨a, S, n, rfl, ha, q⟩ := h
  rw [Vals.ref1 r]
  obtain ⟨o, es, ep, t, ho, hex, hd, _, _, _, hb, hf, hn, _⟩ := setO_get I ha
  refine call_len_set ho hex hd hf (by unfold scanBound at hb; omega) ⟨.int (n : Nat), H, I.tok _, ⟨_, by rw [hn]⟩, q⟩
section
variable {X : Cx} {xa : List (Addr × Str)} {ec : Nat → Addr} {cf : CF} {W : WX} {a b c : Expr} {pos : Pos} {ea eb ec' : Ex}
theorem s_lns {x y : Str} {p p2 pos2 : Pos} (hc : X.calm = true) (hg : Gl X x) (hm : X.mg x = none) (hv : bootBuiltins x = some (.builtin "len")) (hn : x ≠ "__name__") (hdb : (x == ("__debug__" : Str)) = false)
    (hg2 : Gl X y) (hm2 : X.mg y = none) (hv2 : bootBuiltins y = some (.type "set")) (hn2 : y ≠ "__name__") (hdb2 : (y == ("__debug__" : Str)) = false)
    (ha : PE X a (tE X xa ec cf W ea)) (hs : starEach [a] X.env = (false, eval a X.env) :: starEach [] X.env) : PE X (.Call (.Name x p) [.Call (.Name y p2) [a] [] pos2] [] pos) (tE X xa ec cf W (.lns ea)) := by
  refine pe_mono (pe_callB cr_lenS hg hm hv (pa_cons (pe_callTy (cr_setU hc) hg2 hm2 hv2 (pa_cons ha pa_nil hs) hn2 hdb2 hs rfl) pa_nil) hn hdb) fun σ H Q ⟨F, ρ, m, env, R, E, P⟩ => ?_
  refine ⟨F, ρ, m, env, R, E, Post.bind (rel' := relV X xa) P fun x m1 F1 ρ1 H1 v e1 E1 R1 rv P1 => ?_⟩
  obtain ⟨y, e3, P2⟩ := P1.of
  obtain ⟨is, e4, rfl⟩ := map_some e3
  obtain ⟨ad, l, rfl, hq, hl, rfl, h64⟩ := sstV_ok R1 rv e4
  refine ⟨ad, l, rfl, hq, hl, fun q hq2 => ⟨q, _, _, rfl, upd_same, ?_⟩⟩
  obtain ⟨R2, E2⟩ := R1.put (o := SetO X.w q (fun j => decide (j ∈ l)) (sortU l).length) hq2
  exact gives_of P2 _ _ _ E2 R2 (.int _)
end
end PV
end

section
set_option Elab.async false
set_option linter.all false
set_option maxRecDepth 100000
/-! PV13: expressions turned into the evaluator's, with their soundness. -/
namespace PV
open PySem PySem.Spec PyProof.Rows L2

/-! ### plain facts of forms -/
def noStar : Expr → Bool
  | .Starred .. => false
  | _ => true
def noSlice : Expr → Bool
  | .Slice .. => false
  | _ => true
def noSet : Expr → Bool
  | .Set .. => false
  | _ => true
theorem star_cons {a : Expr} {es : List Expr} {env : PySem.Env} (h : noStar a = true) : starEach (a :: es) env = (false, eval a env) :: starEach es env := by
  cases a <;> first | rfl | cases h
theorem asg_cons {a : Expr} {es : List Expr} {env : PySem.Env} (h : noStar a = true) : assignEach (a :: es) env = (false, assign a env) :: assignEach es env := by
  cases a <;> first | rfl | cases h
theorem star_any {env : PySem.Env} : ∀ {es : List Expr}, es.all noStar = true → (starEach es env).any (·.1) = false
  | [], _ => rfl
  | a :: es, h => by
    simp only [List.all_cons, Bool.and_eq_true] at h
    rw [star_cons h.1, List.any_cons, star_any h.2]
    rfl
theorem back_any (pos : Pos) : ∀ (l : List (Bool × Sem Value)), (backTo pos l).any (·.1) = l.any (·.1)
  | [] => rfl
  | p :: l => by
    have ih := back_any pos l
    unfold backTo at ih ⊢
    rw [List.map_cons, List.any_cons, List.any_cons, ih]
theorem plain_ix {b : Expr} (h : noSlice b = true) : PlainIx b := by
  intro o i
  cases b <;> first | rfl | cases h
theorem folded {e : Expr} {env : PySem.Env} (h : noSet e = true) : ∀ x, foldedSetIterable e env x = pure x := by
  intro x
  cases e <;> first | rfl | cases h
def isComp : Expr → Bool
  | .ListComp .. => true
  | .SetComp .. => true
  | .DictComp .. => true
  | _ => false
theorem swaps_no {e : Expr} {t : Option Expr} {l : Nat} {env : PySem.Env} (h : isComp e = false) : swapsWith e t l env = pure false := by
  cases e <;> first | rfl | cases h
def plainT : Expr → Bool
  | .UnaryOp .. => false
  | .BoolOp .. => false
  | .IfExp .. => false
  | .Compare .. => false
  | _ => true
def noBool : Expr → Bool
  | .BoolOp .. => false
  | _ => true
theorem truth_of {e : Expr} {env : PySem.Env} (h : plainT e = true) : ∀ whole, isTrue e env whole = (do let v ← whole; standAt e.pos; holding [v] (truthy v)) := by
  intro whole
  cases e <;> first | rfl | cases h

/-! ### what the names of the module are -/
structure GC where
  fns : List (Str × Nat × Nat × List (List Str × Nat × List Nat))
  con : List (Str × D)
  blt : List Str
  fz : List Str
  cls : List (Str × Nat)
  raz : List (Str × Nat)
  ras : List (Str × Nat × Str)
  hrd : List (Str × HW × List (Nat × HX))
  fvs : List Str
  dks : List Str
/-- the defs that are taken as values, those of so many parameters -/
def GC.tab (G : GC) (n : Nat) : List (Str × Nat) := G.fvs.filterMap fun x => match G.fns.lookup x with
  | some (k, np, _) => if np = n then some (x, k) else none
  | none => none
/-- two levels below -/
def GC.low (G : GC) : GC := { G with fns := G.fns.map fun p => (p.1, p.2.1 + (BIG + BIG), p.2.2), hrd := [] }
structure SC where
  sc : Scope
  fc : List Str
  lm : Bool
def vis (sc : Scope) (x : Str) : Bool := match sc.names.lookup x with
  | some .local => true
  | some .cell => true
  | some .free => true
  | _ => false
def glb (sc : Scope) (x : Str) : Bool := match sc.names.lookup x with
  | some .globalImplicit => true
  | _ => false
def sto (S : SC) (x : Str) : Bool := match S.sc.names.lookup x with
  | some .local => true
  | some .cell => decide (x ∈ S.fc)
  | _ => false
def okNm (x : Str) : Bool := !(x == ("__debug__" : Str)) && !(x == ("__classdict__" : Str)) && !(decide (x = ("__name__" : Str)))
def ixOf : List Str → Str → Option Nat
  | [], _ => none
  | y :: r, x => if decide (y = x) then some 0 else (ixOf r x).map (· + 1)
theorem ixOf_get : ∀ {N : List Str} {x : Str} {i : Nat}, ixOf N x = some i → N[i]? = some x
  | [], _, _, h => by cases h
  | y :: r, x, i, h => by
    unfold ixOf at h
    split at h
    · rename_i e
      cases h
      rw [of_decide_eq_true e]; rfl
    · obtain ⟨j, e, rfl⟩ := map_some h
      simpa using ixOf_get e
/-- a comprehension's block -/
def blkS (S : SC) (scope : Scope) : SC := ⟨relS scope S.sc, (scope.names.filter fun p => match p.2 with | .cell => true | _ => false).map (·.1), false⟩
/-! ### the turning -/
def exsOf : List Ex → Exs
  | [] => .nil
  | e :: r => .cons e (exsOf r)
theorem exsOf_len : ∀ l : List Ex, exsLen (exsOf l) = l.length
  | [] => rfl
  | _ :: r => by simp [exsOf, exsLen, exsOf_len r]
def bop : Operator → Option O2
  | .Add => some .add
  | .Sub => some .sub
  | .Mult => some .mul
  | .FloorDiv => some .fdiv
  | .Mod => some .mod
  | .Pow => some .pow
  | _ => none
def cop : CmpOp → Option O2
  | .Lt => some .lt
  | .LtE => some .le
  | .Gt => some .gt
  | .GtE => some .ge
  | .Eq => some .eq
  | .NotEq => some .ne
  | .In => some .inn
  | .NotIn => some .nin
  | _ => none
theorem bop_sem {op : Operator} {o : O2} (h : bop op = some o) : semO o = binaryOp op := by
  cases op <;> first | (cases h; rfl) | cases h
theorem cop_sem {op : CmpOp} {o : O2} (h : cop op = some o) : semO o = compareOp op ∧ cmpO o = true := by
  cases op <;> first | (cases h; exact ⟨rfl, rfl⟩) | cases h
def isBl : Expr → Option Bool
  | .Constant (.bool d) _ _ => some d
  | _ => none
theorem isBl_ok {e : Expr} {d : Bool} (h : isBl e = some d) : ∃ k p, e = .Constant (.bool d) k p := by
  unfold isBl at h
  split at h
  · cases h; exact ⟨_, _, rfl⟩
  · cases h
def isNone : Expr → Bool
  | .Constant .none _ _ => true
  | _ => false
/-- the built-ins of one argument -/
def u1Of (x : Str) : Option O1 :=
  if x == ("len" : Str) then some .len else if x == ("tuple" : Str) then some .tuple else if x == ("sum" : Str) then some .sum else if x == ("max" : Str) then some .max
  else if x == ("min" : Str) then some .min else if x == ("int" : Str) then some .int else if x == ("repr" : Str) then some .repr else none
def tyOf (x : Str) : Option Nat :=
  if x == ("int" : Str) then some 0 else if x == ("bool" : Str) then some 1 else if x == ("tuple" : Str) then some 2 else if x == ("str" : Str) then some 3 else if x == ("list" : Str) then some 4 else none
def isLx : Expr → Bool
  | .List .. => true
  | .ListComp .. => true
  | .Call (.Name x _) [_] [] _ => x == ("list" : Str)
  | _ => false
def strKey : Option Expr → Option Str
  | some (.Constant (.str x) _ _) => some x
  | _ => none
def kwName (k : Keyword) : Option Str := k.arg
def kwVal (k : Keyword) : Expr := k.value
def allSome {α : Type} : List (Option α) → Option (List α)
  | [] => some []
  | some x :: r => (allSome r).map (x :: ·)
  | none :: _ => none
/-- a lambda without parameters -/
def noPar : Arguments → Bool
  | ⟨[], [], none, [], [], none, []⟩ => true
  | _ => false
def lamOk (sc : Scope) (ps : Arguments) (scope : Scope) : Bool := noPar ps && LamX.lamSB sc scope
section
variable (G : GC) (N : List Str) (r : SC → Expr → Ex)
def isG (S : SC) (x : Str) : Bool := glb S.sc x && decide (x ∈ G.blt) && okNm x
def cNm (S : SC) (x : Str) : Ex := if okNm x then
    (if vis S.sc x then match ixOf N x with
      | some i => .v i
      | none => .stuck
    else if glb S.sc x then match G.con.lookup x with
      | some d => .c d
      | none => match G.fns.lookup x with
        | some _ => .fv x
        | none => .stuck
    else .stuck) else .stuck
def cCon : Const → Ex
  | .none => .c .none
  | .bool b => .c (.bool b)
  | .int i => .c (.int i)
  | .str x => if decide (x.length ≤ LIM) then .c (.str x) else .stuck
  | _ => .stuck
def cTg (S : SC) : Nat → Expr → Option Tg
  | 0, _ => none
  | n + 1, .Name x _ => if sto S x then (ixOf N x).map .nm else none
  | n + 1, .Tuple es _ _ => if es.all noStar then (allSome (es.map (cTg S n))).map fun ts => .tup (ts.foldr .cons .nil) else none
  | _, _ => none
def isTup : Expr → Bool
  | .Tuple .. => true
  | _ => false
/-- what a call of the program's gave, taken as data where it is a new list -/
def rz (S : SC) (e : Expr) : Ex := match e with
  | .Call (.Name x p) args kws q => if decide (x ∈ G.fz) then .fz (r S (.Call (.Name x p) args kws q)) else r S (.Call (.Name x p) args kws q)
  | e => r S e
def cIt (S : SC) (tg : Expr) (e : Expr) : PV.It := match e with
  | .Call (.Name x _) args [] _ =>
    if isG G S x && args.all noStar then
      (if x == ("range" : Str) then match args with
        | [a] => .rng1 (r S a)
        | [a, b] => .rng (r S a) (r S b)
        | _ => .sq .stuck
      else if (x == ("enumerate" : Str)) && isTup tg then match args with
        | [a] => .en (rz G r S a)
        | _ => .sq .stuck
      else if (x == ("zip" : Str)) && isTup tg then match args with
        | [a, b] => .zp (rz G r S a) (rz G r S b)
        | _ => .sq .stuck
      else .sq (r S e))
    else .sq (r S e)
  | e => .sq (r S e)
def ownOf (scope : Scope) : List (Str × Nat) := scope.names.filterMap fun p => match p.2 with
  | .local => (ixOf N p.1).map fun i => (p.1, i)
  | .cell => (ixOf N p.1).map fun i => (p.1, i)
  | _ => none
def cIfs (S : SC) : List Expr → Ex
  | [] => .c (.bool true)
  | [c] => r S c
  | _ => .stuck
def cLx (S : SC) (e : Expr) : Lx := match e with
  | .List es _ => if es.all noStar && decide (es.length ≤ 1000) then .dis (exsOf (es.map (rz G r S))) else .lst .stuck
  | .ListComp elt [⟨tg, iter, ifs, 0⟩] scope _ =>
    if blkC N S.sc scope (ownOf N scope) && noSet iter then match cTg N (blkS S scope) 8 tg with
      | some t => if (tgSl t).all (fun j => decide (j ∈ (ownOf N scope).map (·.2))) then
          .comp t (cIt G r S tg iter) ((ownOf N scope).map (·.2)) (cIfs r (blkS S scope) ifs) (r (blkS S scope) elt) else .lst .stuck
      | none => .lst .stuck
    else .lst .stuck
  | .ListComp elt [⟨tg, iter, ifs, 0⟩, ⟨tg1, iter1, ifs1, 0⟩] scope _ =>
    if blkC N S.sc scope (ownOf N scope) && noSet iter && noSet iter1 then match cTg N (blkS S scope) 8 tg, cTg N (blkS S scope) 8 tg1 with
      | some t, some t1 => if (tgSl t).all (fun j => decide (j ∈ (ownOf N scope).map (·.2))) && (tgSl t1).all (fun j => decide (j ∈ (ownOf N scope).map (·.2))) then
          .comp2 t (cIt G r S tg iter) ((ownOf N scope).map (·.2)) (cIfs r (blkS S scope) ifs) t1 (cIt G r (blkS S scope) tg1 iter1) (tgSl t1) (cIfs r (blkS S scope) ifs1) (r (blkS S scope) elt) else .lst .stuck
      | _, _ => .lst .stuck
    else .lst .stuck
  | .Call (.Name x _) [.Call (.Name y p) args [] q] [] _ => if isG G S x && (x == ("list" : Str)) then (if isG G S y && (y == ("range" : Str)) && args.all noStar then match args with
      | [a] => .rg (.rng1 (r S a))
      | [a, b] => .rg (.rng (r S a) (r S b))
      | _ => .lst .stuck
    else if isG G S y && (y == ("enumerate" : Str)) && args.all noStar then match args with
      | [a] => .enl (r S a)
      | _ => .lst .stuck
    else .lst (r S (.Call (.Name y p) args [] q))) else .lst .stuck
  | .Call (.Name x _) [a] [] _ => if isG G S x && noStar a && (x == ("list" : Str)) then .lst (r S a) else .lst .stuck
  | _ => .lst .stuck
/-- a name of a dict that is walked -/
def cDk (S : SC) : Expr → Option Nat
  | .Name x _ => if decide (x ∈ G.dks) && okNm x && vis S.sc x then ixOf N x else none
  | _ => none
/-- a comprehension over a dict -/
def cLk (S : SC) (e : Expr) : Option Lx := match e with
  | .ListComp elt [⟨tg, iter, ifs, 0⟩] scope _ => if blkC N S.sc scope (ownOf N scope) && noSet iter then match cDk G N S iter, cTg N (blkS S scope) 8 tg with
      | some i, some t => if (tgSl t).all (fun j => decide (j ∈ (ownOf N scope).map (·.2))) then
          some (.compk t i ((ownOf N scope).map (·.2)) (cIfs r (blkS S scope) ifs) (r (blkS S scope) elt)) else none
      | _, _ => none
    else none
  | _ => none
/-- max, min of two; tuple(range(..)) -/
def cTwo (S : SC) (x : Str) (args : List Expr) : Ex := match args with
  | [a, b] => if x == ("max" : Str) then .mm true (r S a) (r S b) else if x == ("min" : Str) then .mm false (r S a) (r S b) else .stuck
  | _ => .stuck
def cTrg (S : SC) (x : Str) (args : List Expr) : Option Ex := match args with
  | [.Call (.Name y _) as [] _] => if (x == ("tuple" : Str)) && isG G S y && (y == ("range" : Str)) && as.all noStar then match as with
      | [a] => some (.trg (.rng1 (r S a)))
      | [a, b] => some (.trg (.rng (r S a) (r S b)))
      | _ => none
    else none
  | _ => none
/-- set(b) -/
def cSet (S : SC) : Expr → Option Expr
  | .Call (.Name y _) [b] [] _ => if isG G S y && (y == ("set" : Str)) && noStar b then some b else none
  | _ => none
/-- len(set(b)) -/
def cLns (S : SC) (x : Str) : List Expr → Option Expr
  | [a] => if x == ("len" : Str) then cSet G S a else none
  | _ => none
/-- d.items() -/
def cItems : Expr → Option Expr
  | .Call (.Attribute (.Name y np) m apos) [] [] cpos => if (m == ("items" : Str)) && okNm y && (apos.endLine == cpos.line) then some (.Name y np) else none
  | _ => none
def cCall (S : SC) (x : Str) (args : List Expr) (e : Expr) : Ex :=
  if glb S.sc x && okNm x && args.all noStar then match G.fns.lookup x with
    | some (k, _) => .call k (exsOf (args.map (r S)))
    | none => if decide (x ∈ G.blt) then
        (if x == ("isinstance" : Str) then match args with
          | [a, .Name y _] => match tyOf y with
            | some t => if isG G S y then .isi t (r S a) else .stuck
            | none => .stuck
          | _ => .stuck
        else if x == ("list" : Str) then .fl (cLx G N r S e)
        else if x == ("sorted" : Str) then match args with
          | [a] => match cSet G S a with
            | some b => .sst (r S b)
            | none => match cItems a with
              | some b => .sit (r S b)
              | none => .srt (r S a)
          | _ => .stuck
        else if x == ("dict" : Str) then match args with
          | [a] => .dct (r S a)
          | _ => .stuck
        else match cTrg G r S x args with
          | some e => e
          | none => match cLns G S x args with
            | some b => .lns (r S b)
            | none => match args, u1Of x with
              | [a], some o => .u1 o (r S a)
              | _, _ => cTwo r S x args)
      else .stuck
  else if vis S.sc x && okNm x && args.all noStar then .callv (G.tab args.length) (cNm G N S x) (exsOf (args.map (r S)))
  else .stuck
def cKw (S : SC) (x : Str) (args : List Expr) (kws : List Keyword) : Ex :=
  if glb S.sc x && okNm x && args.all noStar then match G.fns.lookup x, allSome (kws.map kwName) with
    | some (k, _, kw), some ks => match kw.find? (fun p => decide (p.1 = ks) && decide (p.2.1 = args.length)) with
      | some p => .callk k (exsOf (args.map (r S))) (exsOf (kws.map fun q => r S (kwVal q))) p.2.2
      | none => .stuck
    | _, _ => .stuck
  else .stuck
/-- what goes into a dict is a list of its own -/
def cIn (S : SC) (e : Expr) : Ex := if isLx e then .ml (cLx G N r S e) else r S e
variable (rl : SC → Expr → Ex)
def cStep (S : SC) (e : Expr) : Ex := match e with
  | .Name x _ => cNm G N S x
  | .Constant c _ _ => cCon c
  | .Tuple es _ _ => if es.all noStar && decide (es.length ≤ 1000) then .tup (exsOf (es.map (rz G r S))) else .stuck
  | .List es p => .fl (cLx G N r S (.List es p))
  | .ListComp a b c d => match cLk G N r S (.ListComp a b c d) with
    | some l => .fl l
    | none => .fl (cLx G N r S (.ListComp a b c d))
  | .Dict keys vals _ => match allSome (keys.map strKey) with
    | some ks => if decide (keys.length = vals.length) && decide (keys.length ≤ 15) then .dis ks (exsOf (vals.map (cIn G N r S))) else .stuck
    | none => .stuck
  | .BinOp a op b _ => match bop op with
    | some o => .b2 o (r S a) (r S b)
    | none => .stuck
  | .UnaryOp .USub a _ => .u1 .neg (r S a)
  | .UnaryOp .Not a _ => .u1 .not (r S a)
  | .BoolOp .And [a] _ => r S a
  | .BoolOp .Or [a] _ => r S a
  | .BoolOp .And (a :: b :: l) p => .and (r S a) (r S (.BoolOp .And (b :: l) p))
  | .BoolOp .Or (a :: b :: l) p => .or (r S a) (r S (.BoolOp .Or (b :: l) p))
  | .IfExp c a b _ => .ite (r S c) (r S a) (r S b)
  | .Compare a [.Is] [b] _ => if isNone b then .u1 .isN (r S a) else match isBl b with
      | some d => .isB false d (r S a)
      | none => .stuck
  | .Compare a [.IsNot] [b] _ => if isNone b then .u1 .notN (r S a) else match isBl b with
      | some d => .isB true d (r S a)
      | none => .stuck
  | .Compare a [op] [b] _ => match cop op with
    | some o => if behindInMarks op b then .stuck else .b2 o (r S a) (r S b)
    | none => .stuck
  | .Compare a [op, op'] [b, c] _ => match cop op, cop op' with
    | some o, some o' => if lastMarks [op, op'] [b, c] then .stuck else .chain o o' (r S a) (r S b) (r S c)
    | _, _ => .stuck
  | .Subscript a (.Slice (some l) none none _) _ => .sl1 (r S a) (r S l)
  | .Subscript a (.Slice none (some h) none _) _ => .sl2 (r S a) (r S h)
  | .Subscript a (.Slice (some l) (some h) none _) _ => .sl3 (r S a) (r S l) (r S h)
  | .Subscript a (.Slice none none (some (.UnaryOp .USub (.Constant (.int 1) _ _) _)) _) _ => .rev (r S a)
  | .Subscript a i _ => if noSlice i then .ix (r S a) (r S i) else .stuck
  | .Call (.Name x _) [.Lambda ps body scope _] [] _ => match G.hrd.lookup x with
    | some k => if S.lm && glb S.sc x && okNm x && lamOk S.sc ps scope then .heard k.1 k.2 (rl ⟨scope, [], false⟩ body) else .stuck
    | none => .stuck
  | .Call (.Name x p) args [] q => cCall G N r S x args (.Call (.Name x p) args [] q)
  | .Call (.Name x _) args kws _ => cKw G r S x args kws
  | .Call (.Attribute (.Name y np) m apos) [i, d] [] cpos => if (m == ("get" : Str)) && okNm y && noStar i && noStar d && (apos.endLine == cpos.line) then .dget (r S (.Name y np)) (r S i) (r S d) else .stuck
  | .Call (.Attribute (.Name y np) m apos) [i] [] cpos => if (m == ("count" : Str)) && okNm y && noStar i && (apos.endLine == cpos.line) then .cnt (r S (.Name y np)) (r S i) else if (m == ("index" : Str)) && okNm y && noStar i && (apos.endLine == cpos.line) then .lix (r S (.Name y np)) (r S i) else .stuck
  | _ => .stuck
end
/-- no lambdas within -/
def cE0 (G : GC) (N : List Str) : Nat → SC → Expr → Ex
  | 0, _, _ => .stuck
  | n + 1, S, e => cStep G N (cE0 G N n) (fun _ _ => .stuck) S e
def cE (G : GC) (N : List Str) : Nat → SC → Expr → Ex
  | 0, _, _ => .stuck
  | n + 1, S, e => cStep G N (cE G N n) (cE0 G.low N n) S e
structure CtxOk (T : List (Addr × Str)) (ec : Nat → Addr) (cf : CF) (G : GC) (N : List Str) (n : Nat) (X : Cx) (S : SC) : Prop where
  scope : X.env.scope = S.sc
  names : X.N = N
  nodup : N.Nodup
  fc : ∀ x ∈ S.fc, X.fn x = true
  calm : X.calm = true
  hu : X.A.units + 65 < cLine
  gd : X.A.guards = some []
  room : Room n X.A
  fns : ∀ x k np kw, G.fns.lookup x = some (k, np, kw) → ∃ f fd ps, X.mg x = some (.ref f) ∧ PySem.W.keepIn X.K (.ref f) = true ∧ Binds X.K fd ps [] ∧ FnG X.prog X.w X.K X.mg X.base n f fd ps (spC X.K T ec cf k np) ∧ (∀ ks np0 pm, (ks, np0, pm) ∈ kw → KwOk X.K fd ps ks np0 pm) ∧ PySem.W.nsIn X.K mainGlobals x = some (some (.ref f))
  bad : ∀ x k np kw, G.fns.lookup x = some (k, np, kw) → ∀ vs m, vs.length ≠ np → cf k vs m = .bad
  con : ∀ x d, G.con.lookup x = some d → ∃ u v, X.mg x = some u ∧ RelV v u ∧ ∀ F, Df X.K F v d
  blt : ∀ x ∈ G.blt, X.mg x = none
  hrd : S.lm = true → ∀ (pn : List (Addr × Obj)) (xe : Value → Shared → Prop) (W : WX) (x : Str) (k : HW × List (Nat × HX)) (j : Nat) (ps : Arguments) (body : Expr) (scope : Scope) (p lp q : Pos), G.hrd.lookup x = some k → glb S.sc x = true → okNm x = true → lamOk S.sc ps scope = true → Takes (X.tr pn xe) W →
    PE (X.tr pn xe) (.Call (.Name x p) [.Lambda ps body scope lp] [] q) (tE (X.tr pn xe) T ec cf W (.heard k.1 k.2 (cE0 G.low N j ⟨scope, [], false⟩ body)))
section
variable {T : List (Addr × Str)} {ec : Nat → Addr} {cf : CF} {G : GC} {N : List Str} {n : Nat} {X : Cx} {S : SC}
theorem CtxOk.tr (h : CtxOk T ec cf G N n X S) (pn : List (Addr × Obj)) (xe : Value → Shared → Prop) : CtxOk T ec cf G N n (X.tr pn xe) S := ⟨h.scope, h.names, h.nodup, h.fc, h.calm, h.hu, h.gd, h.room, h.fns, h.bad, h.con, h.blt, h.hrd⟩
theorem CtxOk.gl (h : CtxOk T ec cf G N n X S) {x : Str} (e : glb S.sc x = true) : Gl X x := by
  unfold glb at e
  unfold Gl Env.kindOf
  rw [h.scope]
  split at e
  · assumption
  · cases e
theorem CtxOk.vs (h : CtxOk T ec cf G N n X S) {x : Str} (e : vis S.sc x = true) : Vis X.env.scope x := by
  unfold vis at e
  unfold Vis
  rw [h.scope]
  split at e
  · exact .inl (by assumption)
  · exact .inr (.inl (by assumption))
  · exact .inr (.inr (by assumption))
  · cases e
theorem CtxOk.st (h : CtxOk T ec cf G N n X S) {x : Str} (e : sto S x = true) : L2.Loc X.env.scope x ∧ (X.fn x = true ∨ X.env.scope.names.lookup x = some .local) := by
  unfold sto at e
  unfold L2.Loc
  rw [h.scope]
  split at e
  · rename_i q; exact ⟨.inl q, .inr q⟩
  · rename_i q; exact ⟨.inr q, .inl (h.fc x (of_decide_eq_true e))⟩
  · cases e
theorem CtxOk.blk (h : CtxOk T ec cf G N n X S) {scope : Scope} {own : List (Str × Nat)} (hb : blkC N S.sc scope own = true) (s : Shared) (H : Hp) (C : Addr) (cl : List (Str × Addr)) (fp : List Addr) : CtxOk T ec cf G N n (X.blk s H scope (compEnvC scope cl C X.env) fp) (blkS S scope) where
  scope := by
    show relS scope X.env.scope = _
    rw [h.scope]; rfl
  names := h.names
  nodup := h.nodup
  fc := fun x hx => by
    obtain ⟨p, hp, e⟩ := List.mem_map.mp hx
    obtain ⟨h1, h2⟩ := List.mem_filter.mp hp
    have ok := blkOk_by hb
    have e1 := ok.uniq p h1
    have e2 : p.2 = .cell := by
      split at h2
      · assumption
      · cases h2
    show (scope.names.lookup x == some .cell) = true
    rw [← e, e1, e2]
    rfl
  calm := h.calm
  hu := h.hu
  gd := h.gd
  room := h.room
  fns := h.fns
  bad := h.bad
  con := h.con
  blt := h.blt
  hrd := fun z => by cases z
end

end PV
end

section
set_option Elab.async false
set_option linter.all false
set_option maxRecDepth 100000
/-! PV14: the turning of expressions is sound. -/
namespace PV
open PySem PySem.Spec PyProof.Rows L2

section
variable {X : Cx} {xa : List (Addr × Str)} {T : List (Addr × Str)} {ec : Nat → Addr} {cf : CF} {W : WX} {a b c : Expr} {pos : Pos} {ea eb ec' : Ex}
theorem s_iteT (hc : PT X c (tT X xa ec cf W ec')) (ha : PT X a (tT X xa ec cf W ea)) (hb : PT X b (tT X xa ec cf W eb)) : PT X (.IfExp c a b pos) (tT X xa ec cf W (.ite ec' ea eb)) := by
  refine ⟨fun pins s σ H Q I ⟨F, ρ, m, env, R, E, P⟩ => ?_⟩
  have P : Post X.K xa ec (fun _ _ (b b' : Bool) => b = b') (fun c d H => W c d σ H) F ρ H (((evE cf ec' env m).bind fun x m1 => match truth m1 x with
      | some true => evE cf ea env m1
      | some false => evE cf eb env m1
      | none => .bad).bind fun x m1 => Res.of (truth m1 x) m1) Q := P
  have hcond : tT X xa ec cf W ec' σ H (fun k H1 => if k = true then tT X xa ec cf W ea σ H1 Q else tT X xa ec cf W eb σ H1 Q) := by
    refine ⟨F, ρ, m, env, R, E, ?_⟩
    show Post X.K xa ec (fun _ _ (b b' : Bool) => b = b') (fun c d H => W c d σ H) F ρ H ((evE cf ec' env m).bind fun x m1 => Res.of (truth m1 x) m1) _
    cases r : evE cf ec' env m with
    | bad => rw [r] at P; exact P
    | ex c fs m' => rw [r] at P; exact P
    | ok v m1 =>
      rw [r] at P
      simp only [Res.bind] at P ⊢
      cases e : truth m1 v with
      | none => rw [e] at P; exact P
      | some k =>
        rw [e] at P
        intro F' ρ' H' k' E1 R1 h
        have h : k' = k := h
        subst h
        cases k' with
        | true => exact iteT ⟨F', ρ', m1, env, R1, E.ext E1, Post.up (r := (evE cf ea env m1).bind fun x m1 => Res.of (truth m1 x) m1) P E1⟩
        | false => exact iteF ⟨F', ρ', m1, env, R1, E.ext E1, Post.up (r := (evE cf eb env m1).bind fun x m1 => Res.of (truth m1 x) m1) P E1⟩
  show wpAny _ _ (do if ← isTrue c X.env (eval c X.env) then isTrue a X.env (eval a X.env) else isTrue b X.env (eval b X.env)) _ _ _
  refine wpAny_bind (thn (hc.run pins s σ H _ I hcond) fun k s1 ⟨H1, I1, q1⟩ => ?_)
  cases k with
  | true => exact ha.run pins s1 σ H1 Q I1 q1
  | false => exact hb.run pins s1 σ H1 Q I1 q1
end

section
variable {T : List (Addr × Str)} {ec : Nat → Addr} {cf : CF} {G : GC} {N : List Str} {n : Nat}
def GoodR (T : List (Addr × Str)) (ec : Nat → Addr) (cf : CF) (G : GC) (N : List Str) (n : Nat) (r : SC → Expr → Ex) : Prop :=
  ∀ (X : Cx) (S : SC), CtxOk T ec cf G N n X S → ∀ W, Takes X W → ∀ e, PE X e (tE X T ec cf W (r S e)) ∧ PT X e (tT X T ec cf W (r S e)) ∧ (∀ op vs p, e = .BoolOp op vs p → PW X e (tT X T ec cf W (r S e)))
variable {r : SC → Expr → Ex} {X : Cx} {S : SC} {W : WX}
theorem pa_of (hr : GoodR T ec cf G N n r) (C : CtxOk T ec cf G N n X S) (tk : Takes X W) : ∀ {es : List Expr}, es.all noStar = true → PA X es (tEs X T ec cf W (exsOf (es.map (r S))))
  | [], _ => s_nil
  | a :: es, h => by
    simp only [List.all_cons, Bool.and_eq_true] at h
    exact s_cons (hr X S C W tk a).1 (pa_of hr C tk h.2) (star_cons h.1)
theorem rz_ok (hr : GoodR T ec cf G N n r) (C : CtxOk T ec cf G N n X S) (tk : Takes X W) (e : Expr) : PE X e (tE X T ec cf W (rz G r S e)) := by
  unfold rz
  split
  · split
    · exact s_fz (hr X S C W tk _).1
    · exact (hr X S C W tk _).1
  · exact (hr X S C W tk _).1
theorem pz_of (hr : GoodR T ec cf G N n r) (C : CtxOk T ec cf G N n X S) (tk : Takes X W) : ∀ {es : List Expr}, es.all noStar = true → PA X es (tEs X T ec cf W (exsOf (es.map (rz G r S))))
  | [], _ => s_nil
  | a :: es, h => by
    simp only [List.all_cons, Bool.and_eq_true] at h
    exact s_cons (rz_ok hr C tk a) (pz_of hr C tk h.2) (star_cons h.1)
theorem len_of {es : List Expr} {f : Expr → Ex} : ∀ env m vs m1, evEs cf (exsOf (es.map f)) env m = .ok vs m1 → vs.length = es.length := fun env m vs m1 h => by
  rw [evEs_exsLen h, exsOf_len, List.length_map]
theorem isG_ok (C : CtxOk T ec cf G N n X S) {x : Str} (h : isG G S x = true) : Gl X x ∧ X.mg x = none ∧ okNm x = true := by
  unfold isG at h
  simp only [Bool.and_eq_true, decide_eq_true_eq] at h
  exact ⟨C.gl h.1.1, C.blt x h.1.2, h.2⟩
theorem okNm_ok {x : Str} (h : okNm x = true) : (x == ("__debug__" : Str)) = false ∧ (x == ("__classdict__" : Str)) = false ∧ x ≠ "__name__" := by
  unfold okNm at h
  simp only [Bool.and_eq_true, Bool.not_eq_true', decide_eq_false_iff_not] at h
  exact ⟨h.1.1, h.1.2, h.2⟩
theorem nm_ok (C : CtxOk T ec cf G N n X S) {x : Str} {p : Pos} : PE X (.Name x p) (tE X T ec cf W (cNm G N S x)) := by
  unfold cNm
  split
  · rename_i h
    obtain ⟨h1, h2, h3⟩ := okNm_ok h
    split
    · rename_i hv
      split
      · rename_i i e
        exact s_v (by rw [C.names]; exact ixOf_get e) (C.vs hv) h1 h2
      · exact s_stuck
    · split
      · rename_i hg
        split
        · rename_i d e
          obtain ⟨u, v, q1, q2, q3⟩ := C.con x d e
          exact s_glob (C.gl hg) q1 q2 h1 q3
        · split
          · rename_i y e
            obtain ⟨k, np, kw⟩ := y
            obtain ⟨f, fd, ps, m1, m2, m3, m4, m5, m6⟩ := C.fns x k np kw e
            exact s_fv (C.gl hg) m1 m6 h1
          · exact s_stuck
      · exact s_stuck
  · exact s_stuck
theorem con_ok {k : Const} {j : Nat} {p : Pos} : PE X (.Constant k j p) (tE X T ec cf W (cCon k)) := by
  unfold cCon
  split
  · exact s_cc pe_non fun F => .non
  · exact s_cc pe_bl fun F => .bl _
  · exact s_cc pe_int fun F => .int _
  · split
    · rename_i h
      exact s_cc pe_str fun F => .str _ (of_decide_eq_true h)
    · exact s_stuck
  · exact s_stuck
theorem allSome_nil {α : Type} {l : List α} (h : allSome ([] : List (Option α)) = some l) : l = [] := by
  have h : some [] = some l := h
  cases h; rfl
theorem allSome_cons {α : Type} {o : Option α} {os : List (Option α)} {l : List α} (h : allSome (o :: os) = some l) : ∃ x r, o = some x ∧ allSome os = some r ∧ l = x :: r := by
  cases o with
  | none => cases h
  | some x =>
    obtain ⟨r, e, rfl⟩ := map_some (show (allSome os).map (x :: ·) = some l from h)
    exact ⟨x, r, rfl, e, rfl⟩
theorem tgsLen_foldr : ∀ ts : List Tg, tgsLen (ts.foldr .cons .nil) = ts.length
  | [] => rfl
  | t :: ts => by simp [tgsLen, tgsLen_foldr ts]
theorem tgs_ok {f : Expr → Option Tg} (hf : ∀ e t, f e = some t → PG X e (tG X T t)) : ∀ {es : List Expr} {ts : List Tg}, es.all noStar = true → allSome (es.map f) = some ts → PGs X es (tGs X T (ts.foldr .cons .nil)) ∧ (assignEach es X.env).length = ts.length ∧ (assignEach es X.env).findIdx? (·.1) = none
  | [], ts, _, h => by
    rw [allSome_nil h]
    exact ⟨gs_nil, rfl, rfl⟩
  | e :: es, ts, hn, h => by
    simp only [List.all_cons, Bool.and_eq_true] at hn
    obtain ⟨t, rs, e1, e2, rfl⟩ := allSome_cons h
    obtain ⟨h1, h2, h3⟩ := tgs_ok hf hn.2 e2
    refine ⟨gs_cons (hf e t e1) h1 (by rw [asg_cons hn.1]; rfl), by rw [asg_cons hn.1, List.length_cons, h2]; rfl, ?_⟩
    rw [asg_cons hn.1, List.findIdx?_cons, h3]
    rfl
theorem tg_ok (C : CtxOk T ec cf G N n X S) : ∀ (k : Nat) (e : Expr) (t : Tg), cTg N S k e = some t → PG X e (tG X T t) := by
  intro k
  induction k with
  | zero => intro e t h; cases h
  | succ k ih =>
    intro e t h
    cases e with
    | Name x p =>
      have h : (if sto S x then (ixOf N x).map Tg.nm else none) = some t := h
      split at h
      · rename_i hs
        obtain ⟨i, e1, rfl⟩ := map_some h
        obtain ⟨h1, h2⟩ := C.st hs
        exact g_name (by rw [C.names]; exact C.nodup) (by rw [C.names]; exact ixOf_get e1) h1 h2
      · cases h
    | Tuple es j p =>
      have h : (if es.all noStar then (allSome (es.map (cTg N S k))).map fun ts => Tg.tup (ts.foldr .cons .nil) else none) = some t := h
      split at h
      · rename_i hn
        obtain ⟨ts, e1, rfl⟩ := map_some h
        obtain ⟨h1, h2, h3⟩ := tgs_ok ih hn e1
        exact g_tup C.calm h1 (by rw [h2, tgsLen_foldr]) h3
      · cases h
    | _ => cases h
theorem takesW0 : Takes X W0 := takes0
theorem ifs_ok (hr : GoodR T ec cf G N n r) (C : CtxOk T ec cf G N n X S) (tk : Takes X W) (ifs : List Expr) : PTs X ifs (tT X T ec cf W (cIfs r S ifs)) := by
  unfold cIfs
  split
  · refine ⟨fun pins s σ H Q I ⟨F, ρ, m, env, R, E, P⟩ => pts_nil.run pins s σ H Q I ?_⟩
    exact Post.now (rel := fun _ _ (b b' : Bool) => b = b') (a := true) P R rfl
  · exact pts_one (hr X S C W tk _).2.1
  · exact ⟨fun pins s σ H Q I ⟨F, ρ, m, env, R, E, P⟩ => False.elim P⟩
theorem sq_ok (hr : GoodR T ec cf G N n r) (C : CtxOk T ec cf G N n X S) (tk : Takes X W) {tg e : Expr} : PI X tg e (tI X T ec cf W (.sq (r S e))) := i_sq (hr X S C W tk e).1
theorem stuckI {tg e : Expr} : PI X tg e (tI X T ec cf W (.sq .stuck)) := ⟨fun _ _ _ _ _ _ ⟨_, _, _, _, _, _, P⟩ => False.elim P⟩
theorem it_ok (hr : GoodR T ec cf G N n r) (C : CtxOk T ec cf G N n X S) (tk : Takes X W) (tg e : Expr) : PI X tg e (tI X T ec cf W (cIt G r S tg e)) := by
  unfold cIt
  split
  · rename_i x p args pos
    split
    · rename_i h
      simp only [Bool.and_eq_true] at h
      obtain ⟨h1, h2, h3⟩ := isG_ok C h.1
      have hst := h.2
      split
      · rename_i hx
        have hx := eq_of_beq hx
        subst hx
        split
        · rename_i a
          simp only [List.all_cons, Bool.and_eq_true] at hst
          exact i_rng1 h1 h2 (hr X S C W tk a).1 (star_cons hst.1)
        · rename_i a b
          simp only [List.all_cons, Bool.and_eq_true] at hst
          exact i_rng h1 h2 (hr X S C W tk a).1 (hr X S C W tk b).1 (by rw [star_cons hst.1, star_cons hst.2.1]; rfl) (by rw [star_cons hst.2.1]; rfl)
        · exact stuckI
      · split
        · rename_i hx
          simp only [Bool.and_eq_true] at hx
          have hx1 := eq_of_beq hx.1
          subst hx1
          have ht := hx.2
          split
          · rename_i a
            simp only [List.all_cons, Bool.and_eq_true] at hst
            cases tg with
            | Tuple es k q => exact i_en h1 h2 (rz_ok hr C tk a) (star_cons hst.1)
            | _ => cases ht
          · exact stuckI
        · split
          · rename_i hx
            simp only [Bool.and_eq_true] at hx
            have hx1 := eq_of_beq hx.1
            subst hx1
            have ht := hx.2
            split
            · rename_i a b
              simp only [List.all_cons, Bool.and_eq_true] at hst
              cases tg with
              | Tuple es k q => exact i_zp h1 h2 (rz_ok hr C tk a) (rz_ok hr C tk b) (star_cons hst.1) (star_cons hst.2.1) (by rw [back_any, star_cons hst.2.1]; rfl)
              | _ => cases ht
            · exact stuckI
          · exact sq_ok hr C tk
    · exact sq_ok hr C tk
  · exact sq_ok hr C tk
theorem stuckL {e : Expr} : PE X e (tL X T ec cf W (.lst .stuck)) := ⟨fun _ _ _ _ _ _ ⟨_, _, _, _, _, _, P⟩ => False.elim P⟩
theorem dk_ok (C : CtxOk T ec cf G N n X S) {e : Expr} {i : Nat} (h : cDk G N S e = some i) : PE X e (tE X T ec cf W (.v i)) := by
  unfold cDk at h
  split at h
  · split at h
    · rename_i hq
      simp only [Bool.and_eq_true] at hq
      obtain ⟨⟨_, h2⟩, h3⟩ := hq
      obtain ⟨k1, k2, k3⟩ := okNm_ok h2
      exact s_v (by rw [C.names]; exact ixOf_get h) (C.vs h3) k1 k2
    · cases h
  · cases h
theorem lk_ok (hr : GoodR T ec cf G N n r) (C : CtxOk T ec cf G N n X S) (tk : Takes X W) {e : Expr} {l : Lx} (hl : cLk G N r S e = some l) : PE X e (tL X T ec cf W l) := by
  unfold cLk at hl
  split at hl
  · rename_i elt tg iter ifs scope p
    split at hl
    · rename_i h
      simp only [Bool.and_eq_true] at h
      split at hl
      · rename_i i t hi ht
        split at hl
        · rename_i hsl
          cases hl
          have hN : X.N.Nodup := by rw [C.names]; exact C.nodup
          have ok : BlkOk X.N X.env.scope scope (ownOf N scope) := by rw [C.names, C.scope]; exact blkOk_by h.1
          refine s_compk C.calm hN (dk_ok C hi) ok (fun s H C' cl fp => ?_) (fun s H C' cl fp => ?_) (fun s H C' cl fp => ?_) (folded h.2) fun j hj => ?_
          · exact tg_ok (C.blk h.1 s H C' cl fp) 8 tg t ht
          · exact ifs_ok hr (C.blk h.1 s H C' cl fp) takesW0 ifs
          · exact (hr _ _ (C.blk h.1 s H C' cl fp) W0 takesW0 elt).1
          · exact of_decide_eq_true (List.all_eq_true.mp hsl j hj)
        · cases hl
      · cases hl
    · cases hl
  · cases hl
theorem lx_ok (hr : GoodR T ec cf G N n r) (C : CtxOk T ec cf G N n X S) (tk : Takes X W) (e : Expr) : PE X e (tL X T ec cf W (cLx G N r S e)) := by
  unfold cLx
  split
  · rename_i es p
    split
    · rename_i h
      simp only [Bool.and_eq_true, decide_eq_true_eq] at h
      exact s_dis (pz_of hr C tk h.1) h.2 len_of
    · exact stuckL
  · rename_i elt tg iter ifs scope p
    split
    · rename_i h
      simp only [Bool.and_eq_true] at h
      split
      · rename_i t ht
        split
        · rename_i hsl
          have hN : X.N.Nodup := by rw [C.names]; exact C.nodup
          have ok : BlkOk X.N X.env.scope scope (ownOf N scope) := by rw [C.names, C.scope]; exact blkOk_by h.1
          refine s_lc C.calm hN (it_ok hr C tk tg iter) ok (fun s H C' cl fp => ?_) (fun s H C' cl fp => ?_) (fun s H C' cl fp => ?_) (folded h.2) fun j hj => ?_
          · exact tg_ok (C.blk h.1 s H C' cl fp) 8 tg t ht
          · exact ifs_ok hr (C.blk h.1 s H C' cl fp) takesW0 ifs
          · exact (hr _ _ (C.blk h.1 s H C' cl fp) W0 takesW0 elt).1
          · exact of_decide_eq_true (List.all_eq_true.mp hsl j hj)
        · exact stuckL
      · exact stuckL
    · exact stuckL
  · rename_i elt tg iter ifs tg1 iter1 ifs1 scope p
    split
    · rename_i h
      simp only [Bool.and_eq_true] at h
      split
      · rename_i t t1 ht ht1
        split
        · rename_i hsl
          simp only [Bool.and_eq_true] at hsl
          have hN : X.N.Nodup := by rw [C.names]; exact C.nodup
          have ok : BlkOk X.N X.env.scope scope (ownOf N scope) := by rw [C.names, C.scope]; exact blkOk_by h.1.1
          refine s_lc2 C.calm hN (it_ok hr C tk tg iter) ok (fun j hj => of_decide_eq_true (List.all_eq_true.mp hsl.2 j hj)) (fun s H C' cl fp => ?_) (fun s H C' cl fp => ?_) (fun s H C' cl fp => ?_) (fun s H C' cl fp => ?_) (fun s H C' cl fp => ?_) (fun s H C' cl fp => ?_) (folded h.1.2) (fun env => folded h.2) (fun j hj => ?_) (fun j hj => hj)
          · exact tg_ok (C.blk h.1.1 s H C' cl fp) 8 tg t ht
          · exact ifs_ok hr (C.blk h.1.1 s H C' cl fp) takesW0 ifs
          · exact it_ok hr (C.blk h.1.1 s H C' cl fp) takesW0 tg1 iter1
          · exact tg_ok (C.blk h.1.1 s H C' cl fp) 8 tg1 t1 ht1
          · exact ifs_ok hr (C.blk h.1.1 s H C' cl fp) takesW0 ifs1
          · exact (hr _ _ (C.blk h.1.1 s H C' cl fp) W0 takesW0 elt).1
          · exact of_decide_eq_true (List.all_eq_true.mp hsl.1 j hj)
        · exact stuckL
      · exact stuckL
    · exact stuckL
  · rename_i x p y p' args q q2
    split
    · rename_i h
      simp only [Bool.and_eq_true] at h
      obtain ⟨h1, h2, h3⟩ := isG_ok C h.1
      have hx := eq_of_beq h.2
      subst hx
      split
      · rename_i h
        simp only [Bool.and_eq_true] at h
        obtain ⟨⟨g0, g1⟩, g2⟩ := h
        obtain ⟨j1, j2, j3⟩ := isG_ok C g0
        have hy := eq_of_beq g1
        subst hy
        split
        · rename_i a
          simp only [List.all_cons, Bool.and_eq_true] at g2
          exact s_rg1 C.calm h1 h2 j1 j2 (hr X S C W tk a).1 (star_cons g2.1)
        · rename_i a b
          simp only [List.all_cons, Bool.and_eq_true] at g2
          exact s_rg2 C.calm h1 h2 j1 j2 (hr X S C W tk a).1 (hr X S C W tk b).1 (star_cons g2.1) (star_cons g2.2.1) (by rw [back_any, star_cons g2.2.1]; rfl)
        · exact stuckL
      split
      · rename_i g
        simp only [Bool.and_eq_true] at g
        obtain ⟨⟨g0, g1⟩, g2⟩ := g
        obtain ⟨j1, j2, j3⟩ := isG_ok C g0
        have hy := eq_of_beq g1
        subst hy
        split
        · rename_i a _
          simp only [List.all_cons, Bool.and_eq_true] at g2
          exact s_enl C.calm h1 h2 j1 j2 (hr X S C W tk a).1 (star_cons g2.1)
        · exact stuckL
      · exact s_lst C.calm h1 h2 (by rfl) (hr X S C W tk _).1 rfl
    · exact stuckL
  · rename_i x p a q _
    split
    · rename_i h
      simp only [Bool.and_eq_true] at h
      obtain ⟨h1, h2, h3⟩ := isG_ok C h.1.1
      have hx := eq_of_beq h.2
      subst hx
      exact s_lst C.calm h1 h2 (by rfl) (hr X S C W tk a).1 (star_cons h.1.2)
    · exact stuckL
  · exact stuckL
theorem both {e : Expr} {x : Ex} (h : PE X e (tE X T ec cf W x)) (ht : plainT e = true) :
    PE X e (tE X T ec cf W x) ∧ PT X e (tT X T ec cf W x) ∧ (∀ op vs p, e = .BoolOp op vs p → PW X e (tT X T ec cf W x)) :=
  ⟨h, s_test h (truth_of ht), fun op vs p q => by subst q; cases ht⟩
theorem both2 {e : Expr} {x : Ex} (h : PE X e (tE X T ec cf W x)) (h2 : PT X e (tT X T ec cf W x)) (ht : noBool e = true) :
    PE X e (tE X T ec cf W x) ∧ PT X e (tT X T ec cf W x) ∧ (∀ op vs p, e = .BoolOp op vs p → PW X e (tT X T ec cf W x)) :=
  ⟨h, h2, fun op vs p q => by subst q; cases ht⟩
theorem bothS {e : Expr} : PE X e (tE X T ec cf W .stuck) ∧ PT X e (tT X T ec cf W .stuck) ∧ (∀ op vs p, e = .BoolOp op vs p → PW X e (tT X T ec cf W .stuck)) :=
  ⟨s_stuck, t_stuck, fun _ _ _ _ => ⟨fun _ _ _ _ _ _ _ ⟨_, _, _, _, _, _, P⟩ => False.elim P⟩⟩
theorem ty_ok {y : Str} {t : Nat} (h : tyOf y = some t) : t ≤ 4 ∧ bootBuiltins y = some (.type (tyN t)) := by
  unfold tyOf at h
  split at h
  · rename_i e; cases h; rw [eq_of_beq e]; exact ⟨by decide, by rfl⟩
  · split at h
    · rename_i e; cases h; rw [eq_of_beq e]; exact ⟨by decide, by rfl⟩
    · split at h
      · rename_i e; cases h; rw [eq_of_beq e]; exact ⟨by decide, by rfl⟩
      · split at h
        · rename_i e; cases h; rw [eq_of_beq e]; exact ⟨by decide, by rfl⟩
        · split at h
          · rename_i e; cases h; rw [eq_of_beq e]; exact ⟨by decide, by rfl⟩
          · cases h
theorem u1_ok (C : CtxOk T ec cf G N n X S) {x : Str} {o : O1} {a : Expr} {ea : Ex} {p pos : Pos} (h : u1Of x = some o) (hg : Gl X x) (hm : X.mg x = none) (hk : okNm x = true) (ha : PE X a (tE X T ec cf W ea)) (hs : noStar a = true) : PE X (.Call (.Name x p) [a] [] pos) (tE X T ec cf W (.u1 o ea)) := by
  have hu := C.hu
  obtain ⟨k1, k2, k3⟩ := okNm_ok hk
  unfold u1Of at h
  split at h
  · rename_i e; cases h; exact s_u1B c_len hg hm (by rw [eq_of_beq e]; rfl) ha k3 k1 (star_cons hs)
  · split at h
    · rename_i e; cases h; exact s_u1T c_tuple hg hm (by rw [eq_of_beq e]; rfl) ha k3 k1 (star_cons hs)
    · split at h
      · rename_i e; cases h; exact s_u1B (c_sum C.calm) hg hm (by rw [eq_of_beq e]; rfl) ha k3 k1 (star_cons hs)
      · split at h
        · rename_i e; cases h; exact s_u1B (c_max C.calm (by omega)) hg hm (by rw [eq_of_beq e]; rfl) ha k3 k1 (star_cons hs)
        · split at h
          · rename_i e; cases h; exact s_u1B (c_min C.calm (by omega)) hg hm (by rw [eq_of_beq e]; rfl) ha k3 k1 (star_cons hs)
          · split at h
            · rename_i e; cases h; exact s_u1T c_int hg hm (by rw [eq_of_beq e]; rfl) ha k3 k1 (star_cons hs)
            · split at h
              · rename_i e; cases h; exact s_u1B (c_repr C.gd (by omega)) hg hm (by rw [eq_of_beq e]; rfl) ha k3 k1 (star_cons hs)
              · cases h
theorem star_args {es : List Expr} (h : es.all noStar = true) (f : Expr → Ex) {env : PySem.Env} {pos : Pos} : (es = [] ∧ exsOf (es.map f) = .nil) ∨ ∃ e r, es = e :: r ∧ starEach (e :: r) env = (false, eval e env) :: starEach r env ∧ (backTo pos (starEach r env)).any (·.1) = false := by
  cases es with
  | nil => exact .inl ⟨rfl, rfl⟩
  | cons e r =>
    simp only [List.all_cons, Bool.and_eq_true] at h
    exact .inr ⟨e, r, rfl, star_cons h.1, by rw [back_any, star_any h.2]⟩
theorem two_ok (hr : GoodR T ec cf G N n r) (C : CtxOk T ec cf G N n X S) (tk : Takes X W) {x : Str} {p q : Pos} {args : List Expr} (hg : Gl X x) (hm : X.mg x = none) (hk : okNm x = true) (hst : args.all noStar = true) : PE X (.Call (.Name x p) args [] q) (tE X T ec cf W (cTwo r S x args)) := by
  obtain ⟨k1, k2, k3⟩ := okNm_ok hk
  unfold cTwo
  split
  · rename_i a b
    simp only [List.all_cons, Bool.and_eq_true] at hst
    split
    · rename_i hx
      have hx := eq_of_beq hx
      subst hx
      exact s_mm C.calm (.inl ⟨rfl, rfl⟩) hg hm (by rfl) (hr X S C W tk a).1 (hr X S C W tk b).1 k3 k1 (star_cons hst.1) (star_cons hst.2.1) (by rw [back_any, star_cons hst.2.1]; rfl)
    · split
      · rename_i hx
        have hx := eq_of_beq hx
        subst hx
        exact s_mm C.calm (.inr ⟨rfl, rfl⟩) hg hm (by rfl) (hr X S C W tk a).1 (hr X S C W tk b).1 k3 k1 (star_cons hst.1) (star_cons hst.2.1) (by rw [back_any, star_cons hst.2.1]; rfl)
      · exact s_stuck
  · exact s_stuck
theorem trg_ok (hr : GoodR T ec cf G N n r) (C : CtxOk T ec cf G N n X S) (tk : Takes X W) {x : Str} {p q : Pos} {args : List Expr} {e : Ex} (h : cTrg G r S x args = some e) (hg : Gl X x) (hm : X.mg x = none) : PE X (.Call (.Name x p) args [] q) (tE X T ec cf W e) := by
  unfold cTrg at h
  split at h
  · rename_i y py as qy
    split at h
    · rename_i hc
      simp only [Bool.and_eq_true] at hc
      obtain ⟨⟨⟨h1, h2⟩, h3⟩, h4⟩ := hc
      have hx := eq_of_beq h1
      subst hx
      obtain ⟨g1, g2, g3⟩ := isG_ok C h2
      have hy := eq_of_beq h3
      subst hy
      split at h
      · rename_i a
        cases h
        simp only [List.all_cons, Bool.and_eq_true] at h4
        exact s_trg1 C.calm hg hm g1 g2 (hr X S C W tk a).1 (star_cons h4.1)
      · rename_i a b
        cases h
        simp only [List.all_cons, Bool.and_eq_true] at h4
        exact s_trg2 C.calm hg hm g1 g2 (hr X S C W tk a).1 (hr X S C W tk b).1 (star_cons h4.1) (star_cons h4.2.1) (by rw [back_any, star_cons h4.2.1]; rfl)
      · cases h
    · cases h
  · cases h
theorem tab_ok (C : CtxOk T ec cf G N n X S) (j : Nat) : TabOk X T ec cf n (G.tab j) := by
  intro x k h
  have hm := PySem.mem_of_lookup h
  obtain ⟨y, _, e⟩ := List.mem_filterMap.mp hm
  split at e
  · rename_i k' np kw hl
    split at e
    · cases e
      obtain ⟨f, fd, ps, m1, m2, m3, m4, m5, m6⟩ := C.fns _ _ _ _ hl
      exact ⟨f, fd, ps, np, m6, m2, m3, m4, C.bad _ _ _ _ hl⟩
    · cases e
  · cases e
theorem call_ok (hr : GoodR T ec cf G N n r) (C : CtxOk T ec cf G N n X S) (tk : Takes X W) {x : Str} {p q : Pos} {args : List Expr} : PE X (.Call (.Name x p) args [] q) (tE X T ec cf W (cCall G N r S x args (.Call (.Name x p) args [] q))) := by
  unfold cCall
  split
  · rename_i h
    simp only [Bool.and_eq_true] at h
    obtain ⟨⟨hg, hk⟩, hst⟩ := h
    have hgl := C.gl hg
    obtain ⟨k1, k2, k3⟩ := okNm_ok hk
    split
    · rename_i k y e
      obtain ⟨np, kw⟩ := y
      obtain ⟨f, fd, ps, m1, m2, m3, m4, _⟩ := C.fns x k np kw e
      exact s_call m4 C.room C.gd hgl m1 m2 m3 tk (C.bad x k np kw e) (pa_of hr C tk hst) k1 (star_args hst _)
    · split
      · rename_i hb
        have hm := C.blt x (of_decide_eq_true hb)
        split
        · rename_i hx
          have hx := eq_of_beq hx
          subst hx
          split
          · rename_i a y py
            simp only [List.all_cons, Bool.and_eq_true] at hst
            split
            · rename_i t e
              split
              · rename_i hy
                obtain ⟨g1, g2, g3⟩ := isG_ok C hy
                obtain ⟨t1, t2⟩ := ty_ok e
                obtain ⟨j1, j2, j3⟩ := okNm_ok g3
                exact s_isi t1 hgl hm (by rfl) g1 g2 t2 j3 j1 (hr X S C W tk a).1 (star_cons hst.1)
              · exact s_stuck
            · exact s_stuck
          · exact s_stuck
        · split
          · exact s_fl (lx_ok hr C tk _)
          · split
            · rename_i hx
              have hx := eq_of_beq hx
              subst hx
              split
              · rename_i a
                simp only [List.all_cons, Bool.and_eq_true] at hst
                split
                · rename_i b hb
                  unfold cSet at hb
                  split at hb
                  · split at hb
                    · rename_i hq
                      simp only [Bool.and_eq_true] at hq
                      obtain ⟨⟨h1, h2⟩, h3⟩ := hq
                      cases hb
                      have h2 := eq_of_beq h2
                      subst h2
                      obtain ⟨g1, g2, g3⟩ := isG_ok C h1
                      obtain ⟨j1, j2, j3⟩ := okNm_ok g3
                      exact s_sst C.calm hgl hm rfl k3 k1 g1 g2 rfl j3 j1 (hr X S C W tk _).1 (star_cons h3)
                    · cases hb
                  · cases hb
                · split
                  · rename_i b hb
                    unfold cItems at hb
                    split at hb
                    · split at hb
                      · rename_i hq
                        simp only [Bool.and_eq_true] at hq
                        obtain ⟨⟨h1, h2⟩, h3⟩ := hq
                        have h1 := eq_of_beq h1
                        subst h1
                        cases hb
                        exact s_sit (by have := C.hu; omega) C.calm hgl hm rfl (hr X S C W tk _).1 k3 k1 rfl h3 (star_cons hst.1)
                      · cases hb
                    · cases hb
                  · exact s_srt (by have := C.hu; omega) C.calm hgl hm rfl (hr X S C W tk a).1 k3 k1 (star_cons hst.1)
              · exact s_stuck
            split
            · rename_i hx
              have hx := eq_of_beq hx
              subst hx
              split
              · rename_i a
                simp only [List.all_cons, Bool.and_eq_true] at hst
                exact s_dctB C.calm hgl hm rfl (hr X S C W tk a).1 k3 k1 (star_cons hst.1)
              · exact s_stuck
            split
            · rename_i e he
              exact trg_ok hr C tk he hgl hm
            split
            · rename_i b hb2
              unfold cLns at hb2
              split at hb2
              · rename_i a
                simp only [List.all_cons, Bool.and_eq_true] at hst
                split at hb2
                · rename_i hx
                  have hx := eq_of_beq hx
                  subst hx
                  unfold cSet at hb2
                  split at hb2
                  · split at hb2
                    · rename_i hq
                      simp only [Bool.and_eq_true] at hq
                      obtain ⟨⟨h1, h2⟩, h3⟩ := hq
                      cases hb2
                      have h2 := eq_of_beq h2
                      subst h2
                      obtain ⟨g1, g2, g3⟩ := isG_ok C h1
                      obtain ⟨j1, j2, j3⟩ := okNm_ok g3
                      exact s_lns C.calm hgl hm rfl k3 k1 g1 g2 rfl j3 j1 (hr X S C W tk _).1 (star_cons h3)
                    · cases hb2
                  · cases hb2
                · cases hb2
              · cases hb2
            split
            · rename_i a o hx _ _
              simp only [List.all_cons, Bool.and_eq_true] at hst
              exact u1_ok C hx hgl hm hk (hr X S C W tk a).1 hst.1
            · exact two_ok hr C tk hgl hm hk hst
      · exact s_stuck
  · split
    · rename_i h
      simp only [Bool.and_eq_true] at h
      exact s_callv (tab_ok C _) C.room C.gd (nm_ok C) tk (pa_of hr C tk h.2) (star_args h.2 _)
    · exact s_stuck
theorem kws_ok (hr : GoodR T ec cf G N n r) (C : CtxOk T ec cf G N n X S) (tk : Takes X W) : ∀ {kws : List Keyword}, PK X kws (tEs X T ec cf W (exsOf (kws.map fun q => r S (kwVal q))))
  | [] => sk_nil
  | ⟨nm, v, kp⟩ :: kws => sk_cons (hr X S C W tk v).1 (kws_ok hr C tk)
theorem kwn_ok {env : PySem.Env} {pos : Pos} : ∀ {kws : List Keyword} {ks : List Str}, allSome (kws.map kwName) = some ks → (backToKw pos (keywordEach kws env)).all (·.1.isSome) = true ∧ (backToKw pos (keywordEach kws env)).filterMap (·.1) = ks ∧ (backToKw pos (keywordEach kws env)).any (·.1.isNone) = false
  | [], ks, h => by
    rw [allSome_nil h]
    exact ⟨rfl, rfl, rfl⟩
  | ⟨nm, v, kp⟩ :: kws, ks, h => by
    obtain ⟨x, l, e1, e2, rfl⟩ := allSome_cons h
    obtain ⟨h1, h2, h3⟩ := kwn_ok (env := env) (pos := pos) e2
    have e1 : nm = some x := e1
    subst e1
    unfold backToKw at h1 h2 h3 ⊢
    unfold keywordEach
    exact ⟨by rw [List.map_cons, List.all_cons, h1]; rfl, by rw [List.map_cons, List.filterMap_cons, h2], by rw [List.map_cons, List.any_cons, h3]; rfl⟩
theorem kw_ok (hr : GoodR T ec cf G N n r) (C : CtxOk T ec cf G N n X S) (tk : Takes X W) {x : Str} {p q : Pos} {args : List Expr} {kws : List Keyword} : PE X (.Call (.Name x p) args kws q) (tE X T ec cf W (cKw G r S x args kws)) := by
  unfold cKw
  split
  · rename_i h
    simp only [Bool.and_eq_true] at h
    obtain ⟨⟨hg, hk⟩, hst⟩ := h
    have hgl := C.gl hg
    obtain ⟨k1, k2, k3⟩ := okNm_ok hk
    split
    · rename_i k np kw ks e1 e2
      split
      · rename_i w e3
        have hmem := List.mem_of_find?_eq_some e3
        have hp := List.find?_some e3
        simp only [Bool.and_eq_true, decide_eq_true_eq] at hp
        obtain ⟨p2, p3⟩ := hp
        obtain ⟨wk, wn, wp⟩ := w
        have p2 : wk = ks := p2
        have p3 : wn = args.length := p3
        subst p2 p3
        obtain ⟨f, fd, ps, m1, m2, _, m4, m5⟩ := C.fns x k np kw e1
        have m3 := m5.1 _ _ _ hmem
        obtain ⟨j1, j2, j3⟩ := kwn_ok (env := X.env) (pos := q) e2
        refine s_callk m4 C.room C.gd hgl m1 m2 m3 tk (C.bad _ k np kw e1) k1 (pa_of hr C tk hst) (kws_ok hr C tk) (by rw [exsOf_len, List.length_map]) ?_ j1 j2 (by rw [back_any, star_any hst, j3]; rfl) ?_
        · rw [exsOf_len, List.length_map]
          have : ∀ {kws : List Keyword} {ks : List Str}, allSome (kws.map kwName) = some ks → kws.length = ks.length := by
            intro kws
            induction kws with
            | nil =>
              intro ks h
              have := allSome_nil h
              subst this
              rfl
            | cons a l ih =>
              intro ks h
              obtain ⟨x, l', e1, e2, rfl⟩ := allSome_cons h
              simp [ih e2]
          exact this e2
        · rcases star_args (pos := q) (env := X.env) hst (r S) with h | ⟨e, l, h1, h2, _⟩
          · exact .inl h
          · exact .inr ⟨e, l, h1, h2⟩
      · exact s_stuck
    · exact s_stuck
  · exact s_stuck
theorem in_ok (hr : GoodR T ec cf G N n r) (C : CtxOk T ec cf G N n X S) (tk : Takes X W) (e : Expr) : PE X e (tE X T ec cf W (cIn G N r S e)) := by
  unfold cIn
  split
  · exact s_ml (lx_ok hr C tk e)
  · exact (hr X S C W tk e).1
theorem dict_ok (hr : GoodR T ec cf G N n r) (C : CtxOk T ec cf G N n X S) (tk : Takes X W) {pos : Pos} : ∀ {keys : List (Option Expr)} {vals : List Expr} {ks : List Str}, allSome (keys.map strKey) = some ks → keys.length = vals.length →
    PPs X pos keys vals (trsOf X T ec cf W ks (exsOf (vals.map (cIn G N r S)))) ∧ keys.all (·.isSome) = true ∧ ks.length = keys.length
  | [], [], ks, h, _ => by rw [allSome_nil h]; exact ⟨pps_nil, rfl, rfl⟩
  | [], _ :: _, _, _, h => by cases h
  | _ :: _, [], _, _, h => by cases h
  | k :: keys, v :: vals, ks, h, hl => by
    obtain ⟨x, l, e1, e2, rfl⟩ := allSome_cons h
    obtain ⟨h1, h2, h3⟩ := dict_ok hr C tk (pos := pos) e2 (by simpa using hl)
    unfold strKey at e1
    split at e1
    · cases e1
      exact ⟨pps_cons pe_str (in_ok hr C tk v) h1, by simp [h2], by simp [h3]⟩
    · cases e1
theorem isNone_ok {b : Expr} (h : isNone b = true) : ∃ k p, b = .Constant .none k p := by
  unfold isNone at h
  split at h
  · exact ⟨_, _, rfl⟩
  · cases h
theorem step_ok {rl : SC → Expr → Ex} (hr : GoodR T ec cf G N n r) (hl : ∃ j, rl = cE0 G.low N j) : GoodR T ec cf G N n (cStep G N r rl) := by
  intro X S C W tk e
  have R := fun e => hr X S C W tk e
  unfold cStep
  split
  · exact both (nm_ok C) rfl
  · exact both con_ok rfl
  · split
    · rename_i h
      simp only [Bool.and_eq_true, decide_eq_true_eq] at h
      exact both (s_tup (pz_of hr C tk h.1) h.2 len_of) rfl
    · exact bothS
  · exact both (s_fl (lx_ok hr C tk _)) rfl
  · split
    · rename_i l hl
      exact both (s_fl (lk_ok hr C tk hl)) rfl
    · exact both (s_fl (lx_ok hr C tk _)) rfl
  · split
    · rename_i keys vals p _ ks hk
      split
      · rename_i h
        simp only [Bool.and_eq_true, decide_eq_true_eq] at h
        obtain ⟨d1, d2, d3⟩ := dict_ok hr C tk (pos := p) hk h.1
        by_cases h0 : keys = []
        · subst h0
          have hv : vals = [] := by cases vals with | nil => rfl | cons _ _ => exact absurd h.1 (by simp)
          subst hv
          have : ks = [] := by cases ks with | nil => rfl | cons _ _ => exact absurd d3 (by simp)
          subst this
          exact both s_dct0 rfl
        · exact both (s_dct d1 d2 h.1 h0 h.2 (by rw [exsOf_len, List.length_map, d3, h.1]) (by rw [d3]; exact h.2)) rfl
      · exact bothS
    · exact bothS
  · split
    · rename_i o h
      exact both (s_bin C.hu (bop_sem h) (R _).1 (R _).1) rfl
    · exact bothS
  · exact both2 (s_neg (R _).1) (s_test (s_neg (R _).1) fun _ => rfl) rfl
  · exact both2 (s_not (R _).1) (t_not (R _).2.1) rfl
  · exact ⟨pe_one (R _).1, (pw_and1 (R _).2.1).pt, fun _ _ _ h => by cases h; exact pw_and1 (R _).2.1⟩
  · exact ⟨pe_one (R _).1, (pw_or1 (R _).2.1).pt, fun _ _ _ h => by cases h; exact pw_or1 (R _).2.1⟩
  · rename_i a b l p
    have hw := w_and (pos := p) (R a).2.1 ((R (.BoolOp .And (b :: l) p)).2.2 _ _ _ rfl)
    exact ⟨s_and (R _).1 (R _).1, hw.pt, fun _ _ _ h => by cases h; exact hw⟩
  · rename_i a b l p
    have hw := w_or (pos := p) (R a).2.1 ((R (.BoolOp .Or (b :: l) p)).2.2 _ _ _ rfl)
    exact ⟨s_or (R _).1 (R _).1, hw.pt, fun _ _ _ h => by cases h; exact hw⟩
  · exact both2 (s_ite (R _).2.1 (R _).1 (R _).1) (s_iteT (R _).2.1 (R _).2.1 (R _).2.1) rfl
  · split
    · rename_i h
      obtain ⟨k, p2, rfl⟩ := isNone_ok h
      exact both2 (s_isN (.inl ⟨rfl, rfl⟩) (R _).1) (s_isNT (.inl ⟨rfl, rfl⟩) (R _).1) rfl
    · split
      · rename_i d h
        obtain ⟨k, p2, rfl⟩ := isBl_ok h
        exact both2 (s_isB (neg := false) rfl (R _).1) (s_isBT (neg := false) rfl (R _).1) rfl
      · exact bothS
  · split
    · rename_i h
      obtain ⟨k, p2, rfl⟩ := isNone_ok h
      exact both2 (s_isN (.inr ⟨rfl, rfl⟩) (R _).1) (s_isNT (.inr ⟨rfl, rfl⟩) (R _).1) rfl
    · split
      · rename_i d h
        obtain ⟨k, p2, rfl⟩ := isBl_ok h
        exact both2 (s_isB (neg := true) rfl (R _).1) (s_isBT (neg := true) rfl (R _).1) rfl
      · exact bothS
  · split
    · rename_i o h
      split
      · exact bothS
      · rename_i hm
        have hm := eq_false_of_ne_true hm
        obtain ⟨h1, h2⟩ := cop_sem h
        exact both2 (s_cmp C.hu h1 hm (R _).1 (R _).1) (s_cmpT C.hu h2 h1 hm (R _).1 (R _).1) rfl
    · exact bothS
  · split
    · rename_i o o' h h'
      split
      · exact bothS
      · rename_i hm
        have hm := eq_false_of_ne_true hm
        obtain ⟨h1, h2⟩ := cop_sem h
        obtain ⟨h3, h4⟩ := cop_sem h'
        exact both2 (s_chain C.hu h1 h3 hm (R _).1 (R _).1 (R _).1) (s_chainT C.hu h4 h1 h3 hm (R _).1 (R _).1 (R _).1) rfl
    · exact bothS
  · exact both (s_sl1 (R _).1 (R _).1) rfl
  · exact both (s_sl2 (R _).1 (R _).1) rfl
  · exact both (s_sl3 (R _).1 (R _).1 (R _).1) rfl
  · exact both (s_rev (R _).1) rfl
  · split
    · rename_i h
      exact both (s_ix C.hu (plain_ix h) (R _).1 (R _).1) rfl
    · exact bothS
  · split
    · rename_i k hk
      split
      · rename_i h
        simp only [Bool.and_eq_true] at h
        obtain ⟨⟨⟨h1, h2⟩, h3⟩, h4⟩ := h
        obtain ⟨j, rfl⟩ := hl
        exact both (C.hrd h1 X.pn X.xe W _ k j _ _ _ _ _ _ hk h2 h3 h4 tk) rfl
      · exact bothS
    · exact bothS
  · exact both (call_ok hr C tk) rfl
  · exact both (kw_ok hr C tk) rfl
  · split
    · rename_i y np m apos i d cpos h
      simp only [Bool.and_eq_true] at h
      obtain ⟨⟨⟨⟨h1, h2⟩, h3⟩, h4⟩, h5⟩ := h
      have h1 := eq_of_beq h1
      subst h1
      refine both (s_dget (by have := C.hu; omega) (R _).1 (R _).1 (R _).1 ⟨rfl, ?_, h5, ?_⟩) rfl
      · rw [star_cons h3, star_cons h4]; rfl
      · rw [star_cons h3, star_cons h4]; rfl
    · exact bothS
  · split
    · rename_i y np m apos i cpos h
      simp only [Bool.and_eq_true] at h
      obtain ⟨⟨⟨h1, h2⟩, h3⟩, h5⟩ := h
      have h1 := eq_of_beq h1
      subst h1
      refine both (s_cnt (R _).1 (R _).1 rfl h5 (star_cons h3) ?_) rfl
      rw [star_cons h3]; rfl
    · split
      · rename_i h
        simp only [Bool.and_eq_true] at h
        obtain ⟨⟨⟨h1, h2⟩, h3⟩, h5⟩ := h
        have h1 := eq_of_beq h1
        subst h1
        refine both (s_lix C.hu (R _).1 (R _).1 rfl h5 (star_cons h3) ?_) rfl
        rw [star_cons h3]; rfl
      · exact bothS
  · exact bothS
theorem cE0_ok : ∀ k, GoodR T ec cf G N n (cE0 G N k)
  | 0 => fun X S C W tk e => bothS
  | k + 1 => step_ok (cE0_ok k) ⟨0, rfl⟩
theorem cE_ok : ∀ k, GoodR T ec cf G N n (cE G N k)
  | 0 => fun X S C W tk e => bothS
  | k + 1 => step_ok (cE_ok k) ⟨k, rfl⟩
end
end PV
end

section
set_option Elab.async false
set_option linter.all false
set_option maxRecDepth 100000
/-! PV15: statements turned, soundly. -/
namespace PV
open PySem PySem.Spec PyProof.Rows L2

def isStar : Expr → Bool
  | .Starred .. => true
  | _ => false
def swNm (sc : Scope) (ts : List Expr) : List Str := ts.filterMap fun
    | .Name id pos => if sc.names.lookup id == some .local && pos.line == (ts.head?.map (·.pos.line)).getD 0 then some id else none
    | _ => none
/-- what the model does with a, b = x, y: none where it does not tell -/
def swN (sc : Scope) (ts vs : List Expr) : Option (Option (List Str)) :=
  if !(ts.length == 2 || ts.length == 3) || vs.length != ts.length then some none
  else if (vs.any fun | .Starred .. => true | _ => false) then some none
  else if (swNm sc ts).length != ts.length || (swNm sc ts).eraseDups.length != (swNm sc ts).length then some none
  else if vs.all (foldedForSure 8) then some none
  else if vs.all (constantsAlone 8) then none
  else some (some (swNm sc ts))
theorem sw_eq {sc : Scope} {env : PySem.Env} {ts vs : List Expr} {k k2 : Nat} {p p2 : Pos} (h : env.scope = sc) (hk : sc.kind = .function) {o : Option (List Str)} (e : swN sc ts vs = some o) : swappedStores [.Tuple ts k p] (.Tuple vs k2 p2) env = pure o := by
  have hb : env.blockKind = .function := by unfold Env.blockKind; rw [h, hk]; rfl
  unfold swN at e
  unfold swappedStores
  simp only [hb, Env.kindOf, h]
  split at e
  · rename_i c
    cases e
    exact if_pos (by simp only [Bool.or_eq_true] at c ⊢; exact .inl c)
  · rename_i c
    refine (if_neg (by simp only [Bool.or_eq_true] at c ⊢; rintro (z | z); exact c z; cases z)).trans ?_
    split at e
    · rename_i c; cases e; exact if_pos c
    · rename_i c
      refine (if_neg c).trans ?_
      split at e
      · rename_i c; cases e; exact if_pos c
      · rename_i c
        refine (if_neg c).trans ?_
        split at e
        · rename_i c; cases e; exact if_pos c
        · rename_i c
          refine (if_neg c).trans ?_
          split at e
          · cases e
          · rename_i c
            cases e
            exact (if_neg c)

/-! ### the turning of statements -/
/-! ### own exceptions -/
structure ClsOk (P : Program) (ec : Nat → Addr) (sub : Nat → Nat → Bool) (G : GC) (K : PySem.W.Frag) (mg : Str → Option Value) : Prop where
  all : G.cls ≠ [] → (∀ k c, PySem.W.exmOne K (.ref (ec k)) (.ref (ec c)) = some (sub k c)) ∧ (∀ k j, PySem.W.kitOne K (.ref (ec k)) (.ref (ec j)) = some (sub k j)) ∧ (∀ k, PySem.W.kitOne K (.ref (ec k)) (.type "ValueError") = some true) ∧ ∀ k, ExcC K (ec k)
  at_ : ∀ x j, G.cls.lookup x = some j → mg x = some (.ref (ec j))
  rz_ : ∀ x j, G.raz.lookup x = some j → mg x = some (.ref (ec j)) ∧ PySem.W.keepIn K (.ref (ec j)) = true ∧ (∃ (bmB : List Value) (B newId initId : String), ExcBaseFacts B newId initId bmB ∧ PySem.W.excIn K (ec j) bmB newId = true) ∧
    PySem.W.subIn K (.ref (ec j)) (.type "BaseException") = some true ∧ PySem.W.typeIn K (.ref (ec j)) = some (.type "type")
  rs_ : ∀ x j f, G.ras.lookup x = some (j, f) → mg x = some (.ref (ec j)) ∧ mg "super" = none ∧ ∃ fI, Sup P K f (ec j) fI
theorem cls_none {P : Program} {ec : Nat → Addr} {sub : Nat → Nat → Bool} {G : GC} {K : PySem.W.Frag} {mg : Str → Option Value} (h1 : G.cls = []) (h2 : G.raz = []) (h3 : G.ras = []) : ClsOk P ec sub G K mg :=
  ⟨fun h => absurd h1 h, fun x j h => (by rw [h1] at h; cases h), fun x j h => (by rw [h2] at h; cases h), fun x j f h => (by rw [h3] at h; cases h)⟩
def cDat : Expr → Option PV.D
  | .Constant .none _ _ => some .none
  | .Constant (.bool b) _ _ => some (.bool b)
  | .Constant (.int i) _ _ => some (.int i)
  | .Constant (.str x) _ _ => if x.length ≤ LIM then some (.str x) else none
  | _ => none
theorem cDat_ok {e : Expr} {x : PV.D} (h : cDat e = some x) : isComp e = false ∧ noStar e = true ∧ ∃ v, cV x = some v ∧ ∀ X, PE X e (tC v) := by
  unfold cDat at h
  split at h
  · cases h; exact ⟨rfl, rfl, _, rfl, fun X => pe_non⟩
  · cases h; exact ⟨rfl, rfl, _, rfl, fun X => pe_bl⟩
  · cases h; exact ⟨rfl, rfl, _, rfl, fun X => pe_int⟩
  · split at h
    · rename_i hl
      cases h
      refine ⟨rfl, rfl, .str _, ?_, fun X => pe_str⟩
      show (if _ then _ else _) = _
      rw [if_pos hl]
    · cases h
  · cases h
def cIsE (G : GC) (S : SC) (n : Str) : Expr → Option Nat
  | .Call (.Name f _) [.Name m _, .Name y _] [] _ => if (f == ("isinstance" : Str)) && isG G S f && decide (m = n) && okNm n && vis S.sc n && glb S.sc y && okNm y then G.cls.lookup y else none
  | _ => none
def cIsV (G : GC) (S : SC) (n : Str) : Expr → Bool
  | .Call (.Name f _) [.Name m _, .Name y _] [] _ => (f == ("isinstance" : Str)) && isG G S f && decide (m = n) && okNm n && vis S.sc n && isG G S y && (y == ("ValueError" : Str)) && !G.cls.isEmpty
  | _ => false
def cFld (G : GC) (S : SC) (n : Str) : Expr → Option Str
  | .Attribute (.Name m _) f _ => if decide (m = n) && okNm n && vis S.sc n && !G.cls.isEmpty then some f else none
  | _ => none
def cHA (G : GC) (S : SC) (n : Str) (e : Expr) : Option HA := match cDat e with
  | some x => some (.c x)
  | none => match cIsE G S n e with
    | some j => some (.isE j)
    | none => if cIsV G S n e then some .isV else (cFld G S n e).map .fld
def cHX (G : GC) (S : SC) (n : Str) : Expr → Option HX
  | .IfExp t a b _ => match cIsE G S n t, cDat a, cDat b with
    | some j, some x, some y => some (.ite j x y)
    | _, _, _ => none
  | .Tuple es _ _ => (allSome (es.map (cHA G S n))).map .tup
  | .List es _ => (allSome (es.map (cHA G S n))).map .lst
  | e => (cHA G S n e).map .one
section
variable {T : List (Addr × Str)} {ec : Nat → Addr} {cf : CF} {G : GC} {N : List Str} {n : Nat} {X : Cx} {S : SC} {sub : Nat → Nat → Bool}
theorem lk_ne {α : Type} {l : List (Str × α)} {x : Str} {a : α} (h : l.lookup x = some a) : l ≠ [] := by
  rintro rfl
  cases h
theorem ne_of_emp {α : Type} {l : List α} (h : (!l.isEmpty) = true) : l ≠ [] := by
  rintro rfl
  cases h
theorem isE_ok (C : CtxOk T ec cf G N n X S) (Cl : ClsOk X.prog ec sub G X.K X.mg) {m : Str} {nm j : Nat} {e : Expr} (hi : ixOf N m = some nm) (h : cIsE G S m e = some j) :
    isComp e = false ∧ plainT e = true ∧ noStar e = true ∧ ∀ (a : Addr) (oe : Obj) (cls : Value) (d : Option Addr) (pn : List (Addr × Obj)), Zc cls d oe → (∃ vs, oe.data = .fields vs) → PE (X.suite a ((a, oe) :: pn)) e (tHa X.K ec sub nm (.isE j) a cls d) := by
  unfold cIsE at h
  split at h
  · split at h
    · rename_i hh
      simp only [Bool.and_eq_true, decide_eq_true_eq] at hh
      obtain ⟨⟨⟨⟨⟨⟨h1, h2⟩, h3⟩, h4⟩, h5⟩, h6⟩, h7⟩ := hh
      have h1 := eq_of_beq h1
      subst h1 h3
      obtain ⟨g1, g2, g3⟩ := isG_ok C h2
      obtain ⟨j1, j2, j3⟩ := okNm_ok h4
      obtain ⟨k1, k2, k3⟩ := okNm_ok h7
      obtain ⟨a1, a2, a4, a3⟩ := Cl.all (lk_ne h)
      refine ⟨rfl, rfl, rfl, fun a oe cls d pn z f => h_is (.isE j) (fun k => sub k j) (fun k fs => rfl) (by rw [C.names]; exact ixOf_get hi) (C.vs h5) j1 j2 g1 g2 (pe_glob (X := X.suite a ((a, oe) :: pn)) (v := .ref (ec j)) (C.gl h6) (Cl.at_ _ _ h) rfl k1) (fun u r => r) rfl a3 (fun k => a2 k j) z f⟩
    · cases h
  · cases h
theorem isV_ok (C : CtxOk T ec cf G N n X S) (Cl : ClsOk X.prog ec sub G X.K X.mg) {m : Str} {nm : Nat} {e : Expr} (hi : ixOf N m = some nm) (h : cIsV G S m e = true) :
    isComp e = false ∧ noStar e = true ∧ ∀ (a : Addr) (oe : Obj) (cls : Value) (d : Option Addr) (pn : List (Addr × Obj)), Zc cls d oe → (∃ vs, oe.data = .fields vs) → PE (X.suite a ((a, oe) :: pn)) e (tHa X.K ec sub nm .isV a cls d) := by
  unfold cIsV at h
  split at h
  · simp only [Bool.and_eq_true, decide_eq_true_eq] at h
    obtain ⟨⟨⟨⟨⟨⟨⟨h1, h2⟩, h3⟩, h4⟩, h5⟩, h6⟩, h7⟩, h8⟩ := h
    have h1 := eq_of_beq h1
    have h7 := eq_of_beq h7
    subst h1 h3 h7
    obtain ⟨g1, g2, g3⟩ := isG_ok C h2
    obtain ⟨j1, j2, j3⟩ := okNm_ok h4
    obtain ⟨k1, k2, k3⟩ := isG_ok C h6
    obtain ⟨a1, a2, a4, a3⟩ := Cl.all (ne_of_emp h8)
    exact ⟨rfl, rfl, fun a oe cls d pn z f => h_is .isV (fun _ => true) (fun k fs => rfl) (by rw [C.names]; exact ixOf_get hi) (C.vs h5) j1 j2 g1 g2 (pe_bltn (X := X.suite a ((a, oe) :: pn)) (v := .ty "ValueError") k1 k2 (by first | rfl | kernel_rfl) rfl) (fun u r => r) rfl a3 (fun k => a4 k) z f⟩
  · cases h
theorem fld_ok (C : CtxOk T ec cf G N n X S) (Cl : ClsOk X.prog ec sub G X.K X.mg) {m f : Str} {nm : Nat} {e : Expr} (hi : ixOf N m = some nm) (h : cFld G S m e = some f) :
    isComp e = false ∧ noStar e = true ∧ ∀ (a : Addr) (oe : Obj) (cls : Value) (d : Option Addr) (pn : List (Addr × Obj)), Zc cls d oe → (∃ vs, oe.data = .fields vs) → PE (X.suite a ((a, oe) :: pn)) e (tHa X.K ec sub nm (.fld f) a cls d) := by
  unfold cFld at h
  split at h
  · split at h
    · rename_i hh
      simp only [Bool.and_eq_true, decide_eq_true_eq] at hh
      obtain ⟨⟨⟨h3, h4⟩, h5⟩, h8⟩ := hh
      subst h3
      cases h
      obtain ⟨j1, j2, j3⟩ := okNm_ok h4
      obtain ⟨a1, a2, a4, a3⟩ := Cl.all (ne_of_emp h8)
      exact ⟨rfl, rfl, fun a oe cls d pn z f => h_fld (by rw [C.names]; exact ixOf_get hi) (C.vs h5) j1 j2 a3 z f rfl⟩
    · cases h
  · cases h
theorem ha_ok (C : CtxOk T ec cf G N n X S) (Cl : ClsOk X.prog ec sub G X.K X.mg) {m : Str} {nm : Nat} {e : Expr} {x : HA} (hi : ixOf N m = some nm) (hh : cHA G S m e = some x) :
    isComp e = false ∧ noStar e = true ∧ ∀ (a : Addr) (oe : Obj) (cls : Value) (d : Option Addr) (pn : List (Addr × Obj)), Zc cls d oe → (∃ vs, oe.data = .fields vs) → PE (X.suite a ((a, oe) :: pn)) e (tHa X.K ec sub nm x a cls d) := by
  unfold cHA at hh
  split at hh
  · rename_i y hx
    cases hh
    obtain ⟨c1, c0, v, c2, c3⟩ := cDat_ok hx
    exact ⟨c1, c0, fun a oe cls d pn _ _ => h_c (c3 _) c2⟩
  · split at hh
    · rename_i j e1
      cases hh
      obtain ⟨d1, d2, d3, d4⟩ := isE_ok C Cl hi e1
      exact ⟨d1, d3, d4⟩
    · split at hh
      · rename_i e1
        cases hh
        exact isV_ok C Cl hi e1
      · obtain ⟨f, e1, rfl⟩ := map_some hh
        exact fld_ok C Cl hi e1
theorem has_ok (C : CtxOk T ec cf G N n X S) (Cl : ClsOk X.prog ec sub G X.K X.mg) {m : Str} {nm : Nat} (hi : ixOf N m = some nm) : ∀ {es : List Expr} {l : List HA}, allSome (es.map (cHA G S m)) = some l →
    ∀ (a : Addr) (oe : Obj) (cls : Value) (d : Option Addr) (pn : List (Addr × Obj)), Zc cls d oe → (∃ vs, oe.data = .fields vs) → PA (X.suite a ((a, oe) :: pn)) es (tHas X.K ec sub nm l a cls d)
  | [], l, h, a, oe, cls, d, pn, z, f => by
    have h : some [] = some l := h
    cases h
    exact has_nil
  | e :: es, l, h, a, oe, cls, d, pn, z, f => by
    rw [List.map_cons] at h
    cases he : cHA G S m e with
    | none => rw [he] at h; cases h
    | some x =>
      rw [he] at h
      obtain ⟨l', e1, rfl⟩ := map_some (show (allSome (es.map (cHA G S m))).map (x :: ·) = some l from h)
      obtain ⟨c1, c2, c3⟩ := ha_ok C Cl hi he
      exact has_cons (c3 a oe cls d pn z f) (has_ok C Cl hi e1 a oe cls d pn z f) (star_cons c2)
theorem hx_ok (C : CtxOk T ec cf G N n X S) (Cl : ClsOk X.prog ec sub G X.K X.mg) {m : Str} {nm : Nat} {e : Expr} {h : HX} (hi : ixOf N m = some nm) (hh : cHX G S m e = some h) :
    isComp e = false ∧ (∀ (a : Addr) (oe : Obj) (cls : Value) (d : Option Addr) (pn : List (Addr × Obj)), Zc cls d oe → (∃ vs, oe.data = .fields vs) → PE (X.suite a ((a, oe) :: pn)) e (tHv X T ec sub nm h a cls d)) := by
  unfold cHX at hh
  split at hh
  · split at hh
    · rename_i j x y e1 e2 e3
      cases hh
      obtain ⟨d1, d2, _, d3⟩ := isE_ok C Cl hi e1
      obtain ⟨_, _, v, c2, c3⟩ := cDat_ok e2
      obtain ⟨_, _, w, c5, c6⟩ := cDat_ok e3
      exact ⟨rfl, fun a oe cls d pn z f => h_ite (oe := oe) (d3 a oe cls d pn z f) (truth_of d2) (h_c (c3 _) c2) (h_c (c6 _) c5)⟩
    · cases hh
  · obtain ⟨l, e1, rfl⟩ := map_some hh
    exact ⟨rfl, fun a oe cls d pn z f => hx_tup (has_ok C Cl hi e1 a oe cls d pn z f)⟩
  · obtain ⟨l, e1, rfl⟩ := map_some hh
    exact ⟨rfl, fun a oe cls d pn z f => hx_lst (has_ok C Cl hi e1 a oe cls d pn z f)⟩
  · obtain ⟨x, e1, rfl⟩ := map_some hh
    obtain ⟨c1, c2, c3⟩ := ha_ok C Cl hi e1
    exact ⟨c1, fun a oe cls d pn z f => hx_one (c3 a oe cls d pn z f)⟩
end
section
variable (G : GC) (N : List Str) (mus : List Nat)
/-- what goes into slot i -/
def cVal (S : SC) (i : Nat) (e : Expr) : Ex := if decide (i ∈ mus) then (if isLx e then .ml (cLx G N (cE G N 60) S e) else cE G N 60 S e) else rz G (cE G N 60) S e
def locSl (S : SC) : Expr → Option Nat
  | .Name x _ => if decide (S.sc.names.lookup x = some .local) then ixOf N x else none
  | _ => none
def cPar (S : SC) (ts vs : List Expr) : Stt := match ts, vs with
  | [s, t], [a, b] => match locSl N S s, locSl N S t with
    | some i, some j => if decide (i ≠ j) && noStar a && noStar b && decide (swNm S.sc [s, t] = [s, t].filterMap fun | .Name x _ => some x | _ => none) then .par [i, j] (.cons (cVal G N mus S i a) (.cons (cVal G N mus S j b) .nil)) else .stuck
    | _, _ => .stuck
  | [s, t, u], [a, b, c] => match locSl N S s, locSl N S t, locSl N S u with
    | some i, some j, some l => if decide (i ≠ j) && decide (i ≠ l) && decide (j ≠ l) && noStar a && noStar b && noStar c && decide (swNm S.sc [s, t, u] = [s, t, u].filterMap fun | .Name x _ => some x | _ => none) then
        .par [i, j, l] (.cons (cVal G N mus S i a) (.cons (cVal G N mus S j b) (.cons (cVal G N mus S l c) .nil))) else .stuck
    | _, _, _ => .stuck
  | _, _ => .stuck
/-- what lives on in a tuple that is taken apart at once -/
def livT (t e : Expr) : Bool := match e with
  | .Dict .. => true
  | e => isLx e && (match t with
    | .Name x _ => match ixOf N x with
      | some i => decide (i ∈ mus)
      | none => false
    | _ => false)
def cAt (S : SC) (t e : Expr) : Ex := match t with
  | .Name x _ => match ixOf N x with
    | some i => cVal G N mus S i e
    | none => cE G N 60 S e
  | _ => cE G N 60 S e
def cAts (S : SC) : List Expr → List Expr → List Ex
  | t :: ts, e :: es => cAt G N mus S t e :: cAts S ts es
  | [], e :: es => cE G N 60 S e :: cAts S [] es
  | _, [] => []
def cTup (S : SC) (ts vs : List Expr) (k2 : Nat) (p2 : Pos) : Tg → Stt
  | .tup t => if ((ts.zip vs).any fun q => livT N mus q.1 q.2) && ts.all noStar && vs.all noStar && decide (vs.length ≤ 1000) then .asgs t (exsOf (cAts G N mus S ts vs)) else .asg (.tup t) (cE G N 60 S (.Tuple vs k2 p2))
  | t => .asg t (cE G N 60 S (.Tuple vs k2 p2))
def cAsg (S : SC) (t e : Expr) : Stt := match t with
  | .Name x px => if isComp e then
      (if sto S x then match ixOf N x with
        | some i => if decide (S.sc.names.lookup x = some .local) then match e with
            | .ListComp elt gs scope p => if (px.line == p.line) && !(scope.names.any fun (n, k) => n == x && (k == .local || k == .cell)) then
                .asg (.nm i) (if decide (i ∈ mus) then .ml (cLx G N (cE G N 60) S (.ListComp elt gs scope p)) else .fl (cLx G N (cE G N 60) S (.ListComp elt gs scope p))) else .stuck
            | _ => .stuck
          else if decide (S.sc.names.lookup x = some .cell) then match e with
            | .ListComp elt gs scope p => .asg (.nm i) (cVal G N mus S i (.ListComp elt gs scope p))
            | _ => .stuck
          else .stuck
        | none => .stuck
      else .stuck)
    else if sto S x then match ixOf N x with
      | some i => .asg (.nm i) (cVal G N mus S i e)
      | none => .stuck
    else .stuck
  | .Tuple ts k p => match e with
    | .Tuple vs k2 p2 => match swN S.sc ts vs with
      | some none => match cTg N S 8 (.Tuple ts k p) with
        | some t => cTup G N mus S ts vs k2 p2 t
        | none => .stuck
      | some (some _) => cPar G N mus S ts vs
      | none => .stuck
    | e => if isComp e then .stuck else match cTg N S 8 (.Tuple ts k p) with
        | some t => .asg t (cE G N 60 S e)
        | none => .stuck
  | .Subscript o i _ => if noSlice i then .sto (cE G N 60 S o) (cE G N 60 S i) (cE G N 60 S e) else .stuck
  | _ => .stuck
/-- what a def gives back: a list that lives on where the mark 1000000 stands -/
def cRet (S : SC) (e : Expr) : Ex := if decide (1000000 ∈ mus) && isLx e then .ml (cLx G N (cE G N 60) S e) else cE G N 60 S e
def cExp (S : SC) (e : Expr) : Stt := match e with
  | .Call (.Attribute (.Name x np) m apos) [a] [] cpos => if (m == ("append" : Str)) && okNm x && vis S.sc x && noStar a && (apos.endLine == cpos.line) then match ixOf N x with
      | some i => .app i (rz G (cE G N 60) S a)
      | none => .stuck
    else if (m == ("extend" : Str)) && okNm x && vis S.sc x && noStar a && (apos.endLine == cpos.line) then match ixOf N x with
      | some i => .ext i (rz G (cE G N 60) S a)
      | none => .stuck
    else if (m == ("update" : Str)) && okNm x && vis S.sc x && noStar a && (apos.endLine == cpos.line) then match ixOf N x with
      | some i => .upd i (cE G N 60 S a)
      | none => .stuck
    else .stuck
  | e => if isComp e then .stuck else .ex (cE G N 60 S e)
def augO : Operator → Option O2
  | .Add => some .add
  | .Sub => some .sub
  | _ => none
def cS (S : SC) : Nat → Stmt → Stt
  | 0, _ => .stuck
  | n + 1, st => match st with
    | .Expr e _ => cExp G N S e
    | .Assign [t] e _ => cAsg G N mus S t e
    | .AugAssign (.Name x _) op e _ => match augO op, ixOf N x with
      | some o, some i => if sto S x then .aug i o (cE G N 60 S e) else .stuck
      | _, _ => .stuck
    | .AugAssign (.Subscript o i _) op e _ => match augO op with
      | some p => if noSlice i then .augs (cE G N 60 S o) p (cE G N 60 S i) (cE G N 60 S e) else .stuck
      | none => .stuck
    | .If c a b _ => .ite (cE G N 60 S c) ((a.map (cS S n)).foldr .cons .nil) ((b.map (cS S n)).foldr .cons .nil)
    | .While c a [] _ => .whl (cE G N 60 S c) ((a.map (cS S n)).foldr .cons .nil)
    | .For tg it a [] _ => if noSet it then match cTg N S 8 tg with
        | some t => match cDk G N S it with
          | some i => .fork t i ((a.map (cS S n)).foldr .cons .nil)
          | none => .for t (cIt G (cE G N 60) S tg it) ((a.map (cS S n)).foldr .cons .nil)
        | none => .stuck
      else .stuck
    | .Return (some e) _ => .ret (cRet G N mus S e)
    | .Return none _ => .ret (.c .none)
    | .Pass _ => .pass
    | .Break _ => .brk
    | .Continue _ => .cont
    | .Raise (some (.Call (.Name x _) [] [] _)) none _ => match G.raz.lookup x with
      | some j => if glb S.sc x && okNm x then .rais j .nil else .stuck
      | none => .stuck
    | .Raise (some (.Call (.Name x _) [a] [] _)) none _ => match G.ras.lookup x with
      | some (j, f) => if glb S.sc x && okNm x && noStar a then .rais j (.cons (.c (.str f)) (.cons (cE G N 60 S a) .nil)) else .stuck
      | none => .stuck
    | .Try b [.ExceptHandler (some (.Name x _)) (some m) [.Assign [.Name y _] e _] _] [] [] _ => match G.cls.lookup x, ixOf N m, ixOf N y, cHX G S m e with
      | some c, some nm, some i, some h => if glb S.sc x && okNm x && decide (S.sc.names.lookup m = some .local) && sto S y then .trye ((b.map (cS S n)).foldr .cons .nil) [⟨c, nm, i, h⟩] else .stuck
      | _, _, _, _ => .stuck
    | _ => .stuck
def cSs (S : SC) (b : List Stmt) : Sts := (b.map (cS G N mus S 40)).foldr .cons .nil
end
section
variable {T : List (Addr × Str)} {ec : Nat → Addr} {cf : CF} {G : GC} {N : List Str} {n : Nat} {X : Cx} {S : SC} {W : WX} {sub : Nat → Nat → Bool} {mus : List Nat}
theorem swapsS {t e : Expr} {l : Nat} {env : PySem.Env} (h : isComp e = false) : swapsWithSole [t] e l env = pure false := swaps_no (t := some t) (l := l) (env := env) h
theorem swapsSub {o i e : Expr} {q : Pos} {l : Nat} {env : PySem.Env} : swapsWithSole [.Subscript o i q] e l env = pure false := by cases e <;> rfl
theorem val_ok (C : CtxOk T ec cf G N n X S) (tk : Takes X W) (i : Nat) (e : Expr) : PE X e (tE X T ec cf W (cVal G N mus S i e)) := by
  unfold cVal
  split
  · split
    · exact s_ml (lx_ok (cE_ok 60) C tk e)
    · exact (cE_ok 60 X S C W tk e).1
  · exact rz_ok (cE_ok 60) C tk e
theorem ret_ok (C : CtxOk T ec cf G N n X S) (tk : Takes X W) (e : Expr) : PE X e (tE X T ec cf W (cRet G N mus S e)) := by
  unfold cRet
  split
  · exact s_ml (lx_ok (cE_ok 60) C tk e)
  · exact (cE_ok 60 X S C W tk e).1
theorem locSl_ok (C : CtxOk T ec cf G N n X S) {e : Expr} {i : Nat} (h : locSl N S e = some i) : ∃ x p, e = .Name x p ∧ X.N[i]? = some x ∧ X.env.scope.names.lookup x = some .local := by
  unfold locSl at h
  split at h
  · rename_i x p
    split at h
    · rename_i hl
      exact ⟨x, p, rfl, by rw [C.names]; exact ixOf_get h, by rw [C.scope]; exact of_decide_eq_true hl⟩
    · cases h
  · cases h
theorem par_ok (C : CtxOk T ec cf G N n X S) (tk : Takes X W) (hk : S.sc.kind = .function) {ts vs : List Expr} {k k2 : Nat} {pt pt2 pos : Pos} {nm : List Str} (e : swN S.sc ts vs = some (some nm)) :
    PS X (.Assign [.Tuple ts k pt] (.Tuple vs k2 pt2) pos) (tS X T ec cf W sub (cPar G N mus S ts vs)) := by
  have hnm : nm = swNm S.sc ts := by
    unfold swN at e
    split at e
    · cases e
    · split at e
      · cases e
      · split at e
        · cases e
        · split at e
          · cases e
          · split at e
            · cases e
            · cases e; rfl
  have hw := sw_eq (k := k) (k2 := k2) (p := pt) (p2 := pt2) C.scope hk e
  rw [hnm] at hw
  have hN : X.N.Nodup := by rw [C.names]; exact C.nodup
  unfold cPar
  split
  · split
    · rename_i s t a b _ _ i j e1 e2
      split
      · rename_i h
        simp only [Bool.and_eq_true, decide_eq_true_eq] at h
        obtain ⟨⟨⟨h1, h2⟩, h3⟩, h4⟩ := h
        obtain ⟨x, px, rfl, hi, hx⟩ := locSl_ok C e1
        obtain ⟨y, py, rfl, hj, hy⟩ := locSl_ok C e2
        rw [h4] at hw
        exact s_par2 C.calm hN hi hj h1 hx hy (s_cons (val_ok C tk i a) (s_cons (val_ok C tk j b) s_nil (star_cons h3)) (star_cons h2)) hw fun env m vs m1 h => by rw [evEs_exsLen h]; rfl
      · exact ss_stuck
    · exact ss_stuck
  · split
    · rename_i s t u a b c _ _ _ i j l e1 e2 e3
      split
      · rename_i h
        simp only [Bool.and_eq_true, decide_eq_true_eq] at h
        obtain ⟨⟨⟨⟨⟨⟨h1, h2⟩, h3⟩, h4⟩, h5⟩, h6⟩, h7⟩ := h
        obtain ⟨x, px, rfl, hi, hx⟩ := locSl_ok C e1
        obtain ⟨y, py, rfl, hj, hy⟩ := locSl_ok C e2
        obtain ⟨z, pz, rfl, hl, hz⟩ := locSl_ok C e3
        rw [h7] at hw
        exact s_par3 C.calm hN hi hj hl h1 h2 h3 hx hy hz (s_cons (val_ok C tk i a) (s_cons (val_ok C tk j b) (s_cons (val_ok C tk l c) s_nil (star_cons h6)) (star_cons h5)) (star_cons h4)) hw fun env m vs m1 h => by rw [evEs_exsLen h]; rfl
      · exact ss_stuck
    · exact ss_stuck
  · exact ss_stuck
theorem tuple_asg_ok (C : CtxOk T ec cf G N n X S) (tk : Takes X W) {ts : List Expr} {k : Nat} {pt pos : Pos} {e : Expr} {t : Tg} (ht : cTg N S 8 (.Tuple ts k pt) = some t) (hc : isComp e = false) (hw : swappedStores [.Tuple ts k pt] e X.env = pure none) :
    PS X (.Assign [.Tuple ts k pt] e pos) (tS X T ec cf W sub (.asg t (cE G N 60 S e))) :=
  s_asg (cE_ok 60 X S C W tk e).1 (tg_ok C 8 _ t ht) (swapsS hc) hw rfl
theorem cAt_ok (C : CtxOk T ec cf G N n X S) (tk : Takes X W) (t e : Expr) : PE X e (tE X T ec cf W (cAt G N mus S t e)) := by
  unfold cAt
  split
  · split
    · exact val_ok C tk _ e
    · exact (cE_ok 60 X S C W tk e).1
  · exact (cE_ok 60 X S C W tk e).1
theorem cAts_ok (C : CtxOk T ec cf G N n X S) (tk : Takes X W) : ∀ (vs ts : List Expr), vs.all noStar = true → PA X vs (tEs X T ec cf W (exsOf (cAts G N mus S ts vs))) ∧ (cAts G N mus S ts vs).length = vs.length
  | [], ts, _ => by
    have : cAts G N mus S ts [] = [] := by cases ts <;> rfl
    rw [this]
    exact ⟨s_nil, rfl⟩
  | e :: vs, [], h => by
    simp only [List.all_cons, Bool.and_eq_true] at h
    obtain ⟨h1, h2⟩ := cAts_ok C tk vs [] h.2
    exact ⟨s_cons (cE_ok 60 X S C W tk e).1 h1 (star_cons h.1), by simp [cAts, h2]⟩
  | e :: vs, t :: ts, h => by
    simp only [List.all_cons, Bool.and_eq_true] at h
    obtain ⟨h1, h2⟩ := cAts_ok C tk vs ts h.2
    exact ⟨s_cons (cAt_ok C tk t e) h1 (star_cons h.1), by simp [cAts, h2]⟩
theorem cTup_ok (C : CtxOk T ec cf G N n X S) (tk : Takes X W) {ts vs : List Expr} {k k2 : Nat} {pt p2 pos : Pos} {t : Tg} (ht : cTg N S 8 (.Tuple ts k pt) = some t) (hw : swappedStores [.Tuple ts k pt] (.Tuple vs k2 p2) X.env = pure none) :
    PS X (.Assign [.Tuple ts k pt] (.Tuple vs k2 p2) pos) (tS X T ec cf W sub (cTup G N mus S ts vs k2 p2 t)) := by
  unfold cTup
  split
  · rename_i t
    split
    · rename_i h
      simp only [Bool.and_eq_true, decide_eq_true_eq] at h
      obtain ⟨⟨⟨_, h2⟩, h3⟩, h4⟩ := h
      obtain ⟨q1, q2⟩ := cAts_ok (mus := mus) C tk vs ts h3
      have ht2 : (allSome (ts.map (cTg N S 7))).map (fun us => Tg.tup (us.foldr .cons .nil)) = some (.tup t) := by
        have e : cTg N S 8 (.Tuple ts k pt) = if ts.all noStar then (allSome (ts.map (cTg N S 7))).map fun us => .tup (us.foldr .cons .nil) else none := rfl
        rw [e, if_pos h2] at ht
        exact ht
      obtain ⟨us, e1, e2⟩ := map_some ht2
      cases e2
      obtain ⟨g1, g2, g3⟩ := tgs_ok (X := X) (fun e t he => tg_ok C 7 e t he) h2 e1
      exact s_asgs C.calm q1 g1 (by rw [g2, tgsLen_foldr]) g3 (swapsS rfl) hw h4 fun env m us m1 he => by rw [evEs_exsLen he, exsOf_len, q2]
    · exact tuple_asg_ok C tk ht rfl hw
  · exact tuple_asg_ok C tk ht rfl hw
theorem sw_cell {elt : Expr} {gs : List Comprehension} {scope : Scope} {p py : Pos} {y : Str} {l : Nat} {env : PySem.Env} (hk : env.kindOf y = some .cell) : swapsWithSole [.Name y py] (.ListComp elt gs scope p) l env = pure false := by
  show swapsWith (.ListComp elt gs scope p) (some (.Name y py)) l env = pure false
  unfold swapsWith
  simp only [hk]
  cases (env.blockKind == ScopeKind.function) <;> rfl
theorem asg_ok (C : CtxOk T ec cf G N n X S) (tk : Takes X W) (hk : S.sc.kind = .function) {t e : Expr} {pos : Pos} : PS X (.Assign [t] e pos) (tS X T ec cf W sub (cAsg G N mus S t e)) := by
  have hN : X.N.Nodup := by rw [C.names]; exact C.nodup
  unfold cAsg
  split
  · rename_i x px
    split
    · split
      · rename_i hsto
        split
        · rename_i i hi
          split
          · rename_i hl
            have hl := of_decide_eq_true hl
            split
            · rename_i elt gs scope p hcc
              split
              · rename_i h
                simp only [Bool.and_eq_true, Bool.not_eq_true'] at h
                obtain ⟨h1, h2⟩ := h
                have hkx : X.env.scope.kind = .function := by rw [C.scope]; exact hk
                have hlx : X.env.scope.names.lookup x = some .local := by rw [C.scope]; exact hl
                have hsw : ∀ l, swapsWith (.ListComp elt gs scope p) (some (.Name x px)) l X.env = pure true := fun l => sw_true hkx hlx h1 h2
                -- what the list is made of
                have hte : ∀ lx σ H Q, tE X T ec cf W (if decide (i ∈ mus) then .ml lx else .fl lx) σ H Q → tL X T ec cf W lx σ H Q := by
                  intro lx σ H Q h
                  split at h
                  · exact ml_of σ H Q h
                  · exact fl_of σ H Q h
                have fin : ∀ te, (∀ σ H Q, tE X T ec cf W te σ H Q → tL X T ec cf W (.lst .stuck) σ H Q) → PS X (.Assign [.Name x px] (.ListComp elt gs scope p) pos) (tS X T ec cf W sub (.asg (.nm i) te)) := by
                  intro te ht
                  refine ⟨fun pins s σ H D I ⟨F, ρ, m, env, R, E, P⟩ => ?_⟩
                  obtain ⟨_, _, _, _, _, _, P2⟩ := ht σ H (fun _ _ => True) ⟨F, ρ, m, env, R, E, postS_of (rel := relV X T) E P fun _ _ _ _ _ _ _ _ _ _ _ => trivial⟩
                  exact False.elim P2
                have key : ∀ te, (∀ σ H Q, tE X T ec cf W te σ H Q → tL X T ec cf W (cLx G N (cE G N 60) S (.ListComp elt gs scope p)) σ H Q) → PS X (.Assign [.Name x px] (.ListComp elt gs scope p) pos) (tS X T ec cf W sub (.asg (.nm i) te)) := by
                  intro te hte
                  revert hte
                  unfold cLx
                  split
                  · rename_i heq; cases heq
                  · rename_i elt' tg iter ifs scope' p' heq
                    cases heq
                    split
                    · rename_i h
                      simp only [Bool.and_eq_true] at h
                      split
                      · rename_i t ht
                        split
                        · rename_i hsl
                          intro hte
                          have ok : BlkOk X.N X.env.scope scope (ownOf N scope) := by rw [C.names, C.scope]; exact blkOk_by h.1
                          refine s_asgL C.calm hN (by rw [C.names]; exact ixOf_get hi) hlx (hsw _) (it_ok (cE_ok 60) C tk tg iter) ok (fun s H C' cl fp => ?_) (fun s H C' cl fp => ?_) (fun s H C' cl fp => ?_) (folded h.2) (fun j hj => ?_) hte
                          · exact tg_ok (C.blk h.1 s H C' cl fp) 8 tg t ht
                          · exact ifs_ok (cE_ok 60) (C.blk h.1 s H C' cl fp) takesW0 ifs
                          · exact (cE_ok 60 _ _ (C.blk h.1 s H C' cl fp) W0 takesW0 elt).1
                          · exact of_decide_eq_true (List.all_eq_true.mp hsl j hj)
                        · exact fin te
                      · exact fin te
                    · exact fin te
                  · rename_i elt' tg iter ifs tg1 iter1 ifs1 scope' p' heq
                    cases heq
                    split
                    · rename_i h
                      simp only [Bool.and_eq_true] at h
                      split
                      · rename_i t t1 ht ht1
                        split
                        · rename_i hsl
                          simp only [Bool.and_eq_true] at hsl
                          intro hte
                          have ok : BlkOk X.N X.env.scope scope (ownOf N scope) := by rw [C.names, C.scope]; exact blkOk_by h.1.1
                          refine s_asgL2 C.calm hN (by rw [C.names]; exact ixOf_get hi) hlx (hsw _) (it_ok (cE_ok 60) C tk tg iter) ok (fun j hj => of_decide_eq_true (List.all_eq_true.mp hsl.2 j hj)) (fun s H C' cl fp => ?_) (fun s H C' cl fp => ?_) (fun s H C' cl fp => ?_) (fun s H C' cl fp => ?_) (fun s H C' cl fp => ?_) (fun s H C' cl fp => ?_) (folded h.1.2) (fun env => folded h.2) (fun j hj => ?_) (fun j hj => hj) hte
                          · exact tg_ok (C.blk h.1.1 s H C' cl fp) 8 tg t ht
                          · exact ifs_ok (cE_ok 60) (C.blk h.1.1 s H C' cl fp) takesW0 ifs
                          · exact it_ok (cE_ok 60) (C.blk h.1.1 s H C' cl fp) takesW0 tg1 iter1
                          · exact tg_ok (C.blk h.1.1 s H C' cl fp) 8 tg1 t1 ht1
                          · exact ifs_ok (cE_ok 60) (C.blk h.1.1 s H C' cl fp) takesW0 ifs1
                          · exact (cE_ok 60 _ _ (C.blk h.1.1 s H C' cl fp) W0 takesW0 elt).1
                          · exact of_decide_eq_true (List.all_eq_true.mp hsl.1 j hj)
                        · exact fin te
                      · exact fin te
                    · exact fin te
                  · rename_i heq; cases heq
                  · rename_i heq; cases heq
                  · exact fin te
                exact key _ (hte _)
              · exact ss_stuck
            · exact ss_stuck
          · split
            · rename_i hl
              have hl := of_decide_eq_true hl
              split
              · rename_i elt gs scope p hcc
                obtain ⟨h1, h2⟩ := C.st hsto
                exact s_asg (val_ok C tk i _) (g_name hN (by rw [C.names]; exact ixOf_get hi) h1 h2) (sw_cell (by show X.env.scope.names.lookup x = _; rw [C.scope]; exact hl)) rfl rfl
              · exact ss_stuck
            · exact ss_stuck
        · exact ss_stuck
      · exact ss_stuck
    · rename_i hc
      have hc := eq_false_of_ne_true hc
      split
      · rename_i hs
        split
        · rename_i i hi
          obtain ⟨h1, h2⟩ := C.st hs
          exact s_asg (val_ok C tk i e) (g_name hN (by rw [C.names]; exact ixOf_get hi) h1 h2) (swapsS hc) rfl rfl
        · exact ss_stuck
      · exact ss_stuck
  · rename_i ts k p
    split
    · rename_i vs k2 p2
      split
      · rename_i e1
        split
        · rename_i t ht
          exact cTup_ok C tk ht (sw_eq C.scope hk e1)
        · exact ss_stuck
      · rename_i nm e1
        exact par_ok C tk hk e1
      · exact ss_stuck
    · split
      · exact ss_stuck
      · rename_i h0 hc
        split
        · rename_i t ht
          refine tuple_asg_ok C tk ht (eq_false_of_ne_true hc) ?_
          cases e <;> first | rfl | exact absurd rfl (h0 _ _ _)
        · exact ss_stuck
  · rename_i o i p
    split
    · rename_i h
      refine s_sto (by have := C.hu; omega) (cE_ok 60 X S C W tk o).1 (cE_ok 60 X S C W tk i).1 (cE_ok 60 X S C W tk e).1 swapsSub fun v => ?_
      cases i <;> first | rfl | cases h
    · exact ss_stuck
  · exact ss_stuck
theorem exp_ok (C : CtxOk T ec cf G N n X S) (tk : Takes X W) {e : Expr} {pos : Pos} : PS X (.Expr e pos) (tS X T ec cf W sub (cExp G N S e)) := by
  unfold cExp
  split
  · rename_i x np m apos a cpos
    split
    · rename_i h
      simp only [Bool.and_eq_true] at h
      obtain ⟨⟨⟨⟨h1, h2⟩, h3⟩, h4⟩, h5⟩ := h
      have h1 := eq_of_beq h1
      subst h1
      obtain ⟨k1, k2, k3⟩ := okNm_ok h2
      split
      · rename_i i hi
        exact s_app (s_v (by rw [C.names]; exact ixOf_get hi) (C.vs h3) k1 k2) (rz_ok (cE_ok 60) C tk a) (star_cons h4) h5 rfl
      · exact ss_stuck
    split
    · rename_i h
      simp only [Bool.and_eq_true] at h
      obtain ⟨⟨⟨⟨h1, h2⟩, h3⟩, h4⟩, h5⟩ := h
      have h1 := eq_of_beq h1
      subst h1
      obtain ⟨k1, k2, k3⟩ := okNm_ok h2
      split
      · rename_i i hi
        exact s_ext (s_v (by rw [C.names]; exact ixOf_get hi) (C.vs h3) k1 k2) (rz_ok (cE_ok 60) C tk a) (star_cons h4) h5 rfl
      · exact ss_stuck
    split
    · rename_i h
      simp only [Bool.and_eq_true] at h
      obtain ⟨⟨⟨⟨h1, h2⟩, h3⟩, h4⟩, h5⟩ := h
      have h1 := eq_of_beq h1
      subst h1
      obtain ⟨k1, k2, k3⟩ := okNm_ok h2
      split
      · rename_i i hi
        exact s_upd (s_v (by rw [C.names]; exact ixOf_get hi) (C.vs h3) k1 k2) (cE_ok 60 X S C W tk a).1 (star_cons h4) h5 rfl
      · exact ss_stuck
    · exact ss_stuck
  · split
    · exact ss_stuck
    · rename_i hc
      exact s_exp (cE_ok 60 X S C W tk e).1 (swaps_no (eq_false_of_ne_true hc))
theorem stuckSs {b : List Stmt} : True := trivial
theorem suite_ok {f : Stmt → Stt} (hf : ∀ st, PS X st (tS X T ec cf W sub (f st))) : ∀ (b : List Stmt), PSs X b (tSs X T ec cf W sub ((b.map f).foldr .cons .nil))
  | [] => ss_nil
  | st :: b => ss_cons (hf st) (suite_ok hf b)
theorem cS_ok (hk : S.sc.kind = .function) : ∀ (k : Nat) (X : Cx) (W : WX) (C : CtxOk T ec cf G N n X S) (Cl : ClsOk X.prog ec sub G X.K X.mg) (tk : Takes X W) (hp : PassesOwn (model X.prog X.w) X.A X.env X.xe) (hst : X.stack = X.env :: X.outer) (hf : X.env.frame = some X.env.locals) (st : Stmt), PS X st (tS X T ec cf W sub (cS G N mus S k st))
  | 0, _, _, _, _, _, _, _, _, _ => ss_stuck
  | k + 1, X, W, C, Cl, tk, hp, hst, hf, st => by
    have ih : ∀ st, PS X st (tS X T ec cf W sub (cS G N mus S k st)) := cS_ok hk k X W C Cl tk hp hst hf
    unfold cS
    split
    · exact exp_ok C tk
    · exact asg_ok C tk hk
    · split
      · rename_i o i h1 h2
        split
        · rename_i hs
          obtain ⟨l1, l2⟩ := C.st hs
          refine s_aug (by rw [C.names]; exact C.nodup) (by rw [C.names]; exact ixOf_get h2) l1 (cE_ok 60 X S C W tk _).1 ?_ l2
          unfold augO at h1
          split at h1
          · cases h1; exact .inl ⟨rfl, rfl⟩
          · cases h1; exact .inr ⟨rfl, rfl⟩
          · cases h1
        · exact ss_stuck
      · exact ss_stuck
    · split
      · rename_i op _ p h1
        split
        · rename_i hs
          have pl := aug_plain (i := _) (show _ = true from hs)
          unfold augO at h1
          split at h1
          · cases h1; exact s_augsAdd (by have := C.hu; omega) (cE_ok 60 X S C W tk _).1 (cE_ok 60 X S C W tk _).1 (cE_ok 60 X S C W tk _).1 pl
          · cases h1; exact s_augsSub (by have := C.hu; omega) (cE_ok 60 X S C W tk _).1 (cE_ok 60 X S C W tk _).1 (cE_ok 60 X S C W tk _).1 pl
          · cases h1
        · exact ss_stuck
      · exact ss_stuck
    · exact s_if (cE_ok 60 X S C W tk _).2.1 (suite_ok ih _) (suite_ok ih _)
    · exact s_whl hp (cE_ok 60 X S C W tk _).2.1 (suite_ok ih _)
    · split
      · rename_i hn
        split
        · rename_i t ht
          split
          · rename_i i hi
            have ih0 : ∀ st, PS X st (tS X T ec cf W0 sub (cS G N mus S k st)) := cS_ok hk k X W0 C Cl takesW0 hp hst hf
            exact s_fork hp C.calm (dk_ok C hi) (tg_ok C 8 _ t ht) (suite_ok ih0 _) (folded hn)
          · exact s_for hp C.calm (it_ok (cE_ok 60) C tk _ _) (tg_ok C 8 _ t ht) (suite_ok ih _) (folded hn)
        · exact ss_stuck
      · exact ss_stuck
    · exact s_ret (ret_ok C tk _)
    · refine ps_mono ps_retN fun D σ H ⟨F, ρ, m, env, R, E, P⟩ => ?_
      exact P F ρ H .non (Ext.refl _ _ _) R (show Df X.K F _ _ from .non)
    · exact s_pass
    · exact s_brk
    · exact s_cont
    · split
      · rename_i j hj
        split
        · rename_i h
          simp only [Bool.and_eq_true] at h
          obtain ⟨m1, m2, ⟨bmB, B, newId, initId, m3, m4⟩, m5, m6⟩ := Cl.rz_ _ _ hj
          exact s_rais0 C.calm tk m3 m4 m1 m2 (raises_own m5 m6) (C.gl h.1) (okNm_ok h.2).1
        · exact ss_stuck
      · exact ss_stuck
    · split
      · rename_i j f hj
        split
        · rename_i h
          simp only [Bool.and_eq_true] at h
          obtain ⟨m1, ms, fI, m2⟩ := Cl.rs_ _ _ _ hj
          exact s_rais1 C.calm tk m2 m1 ms (by have := C.room.dp; omega) (cE_ok 60 X S C W tk _).1 (C.gl h.1.1) (okNm_ok h.1.2).1 (star_cons h.2)
        · exact ss_stuck
      · exact ss_stuck
    · split
      · rename_i c nm i h e1 e2 e3 e4
        split
        · rename_i hh
          simp only [Bool.and_eq_true, decide_eq_true_eq] at hh
          obtain ⟨⟨⟨h1, h2⟩, h3⟩, h4⟩ := hh
          obtain ⟨a1, a2, a4, a3⟩ := Cl.all (lk_ne e1)
          obtain ⟨b1, b2⟩ := hx_ok C Cl e2 e4
          obtain ⟨l1, l2⟩ := C.st h4
          exact s_try hst hf (by rw [C.names]; exact C.nodup) (by rw [C.names]; exact ixOf_get e2) (by unfold Env.kindOf; rw [C.scope]; exact h3) ⟨C.gl h1, (okNm_ok h2).1, .inl (Cl.at_ _ _ e1)⟩ tk
            (fun W' pn xe tk' hp' => suite_ok (cS_ok hk k (X.tr pn xe) W' (C.tr pn xe) Cl tk' hp' hst hf) _) (by rw [C.names]; exact ixOf_get e3) l1 l2 b2 a1 (swapsS b1) rfl rfl
        · exact ss_stuck
      · exact ss_stuck
    · exact ss_stuck
theorem cSs_ok (C : CtxOk T ec cf G N n X S) (Cl : ClsOk X.prog ec sub G X.K X.mg) (tk : Takes X W) (hp : PassesOwn (model X.prog X.w) X.A X.env X.xe) (hst : X.stack = X.env :: X.outer) (hf : X.env.frame = some X.env.locals) (hk : S.sc.kind = .function) (b : List Stmt) : PSs X b (tSs X T ec cf W sub (cSs G N mus S b)) := suite_ok (cS_ok hk 40 X W C Cl tk hp hst hf) b
end
end PV
end

section
set_option Elab.async false
set_option linter.all false
set_option maxRecDepth 100000
set_option maxHeartbeats 1000000
/-! PVH: a lambda handed to a def that calls it within a try. -/
namespace PV
open PySem PySem.Spec PyProof.Rows L2
section
variable {K : PySem.W.Frag} {xa : List (Addr × Str)} {F0 F H0 H : Hp} {ρ0 ρ : List Addr} {m : Mem}
/-- one of the things made since, taken as frozen -/
theorem frz_one {F1 : Hp} {n : Nat} {a : Addr} {o : HO} (E : Ext F0 ρ0 H0 F1 (ρ.take n) H) (R : Rep K xa F1 (ρ.take n) (m.take n) H) (ha : H a = some o) (hr : a ∉ ρ.take n) (hn : H0 a = none) (ho : ∀ ps, o ≠ .tbl ps := by intro ps z; cases z) :
    ∃ F2, F2 a = some o ∧ Same F1 F2 ∧ Ext F0 ρ0 H0 F2 (ρ.take n) H ∧ Rep K xa F2 (ρ.take n) (m.take n) H := by
  cases e : F1 a with
  | some u =>
    have := R.le a u e
    rw [ha] at this
    cases this
    exact ⟨F1, e, Same.refl F1, E, R⟩
  | none =>
    refine ⟨upd F1 a o, upd_same, fun b u h => ?_, ⟨fun b u h => ?_, E.pre, E.frm, fun b u h1 h2 => ?_, E.kep, E.frz⟩, R.freeze ha e hr ho⟩
    · rw [upd_ne (ne_of_none h e)]; exact h
    · have := E.fle b u h
      rw [upd_ne (ne_of_none this e)]; exact this
    · by_cases hb : b = a
      · subst hb; exact hn
      · rw [upd_ne hb] at h1; exact E.new b u h1 h2
theorem frz_at {n j : Nat} {a : Addr} (E : Ext F0 ρ0 H0 F ρ H) (nd : ρ.Nodup) (hl : ρ0.length = n) (hj : n ≤ j) (ha : ρ[j]? = some a) : a ∉ ρ.take n ∧ H0 a = none := by
  obtain ⟨ζ, e, hz⟩ := E.pre
  have ht : ρ.take n = ρ0 := by rw [e, ← hl, List.take_left]
  have hz2 : a ∈ ζ := by
    rw [e, List.getElem?_append_right (by omega)] at ha
    exact List.mem_of_getElem? ha
  refine ⟨fun h => ?_, hz a hz2⟩
  rw [ht] at h
  rw [e, List.nodup_append] at nd
  exact nd.2.2 a h a hz2 rfl
theorem frz_all {n : Nat} (E : Ext F0 ρ0 H0 F ρ H) (R : Rep K xa F ρ m H) (hl : ρ0.length = n) : ∀ {xs : List EV} {vs : List V} {ds : List PV.D} {F1 : Hp}, Ext F0 ρ0 H0 F1 (ρ.take n) H → Rep K xa F1 (ρ.take n) (m.take n) H → Same F F1 → RepVs K xa F ρ vs xs → frzAll m n xs = some ds →
    ∃ F2, Same F1 F2 ∧ Ext F0 ρ0 H0 F2 (ρ.take n) H ∧ Rep K xa F2 (ρ.take n) (m.take n) H ∧ Dfs K F2 vs ds
  | [], vs, ds, F1, E1, R1, s1, rv, e => by
    have e : some [] = some ds := e
    cases e
    cases rv
    exact ⟨F1, Same.refl F1, E1, R1, .nil⟩
  | x :: xs, vs, ds, F1, E1, R1, s1, rv, e => by
    unfold frzAll at e
    split at e
    · rename_i d ds' e1 e2
      cases e
      cases rv with
      | @cons v0 vs0 _ _ r1 r2 =>
        have one : ∃ F2, Same F1 F2 ∧ Ext F0 ρ0 H0 F2 (ρ.take n) H ∧ Rep K xa F2 (ρ.take n) (m.take n) H ∧ Df K F2 v0 d := by
          cases x with
          | d y =>
            have e1 : some y = some d := e1
            cases e1
            exact ⟨F1, Same.refl F1, E1, R1, Df.mono s1 r1⟩
          | loc j =>
            obtain ⟨a, rfl, ha⟩ := r1
            have e1 : frz m n (.loc j) = some d := e1
            unfold frz at e1
            simp only at e1
            split at e1
            · rename_i hj
              split at e1
              · rename_i ys em
                obtain ⟨es, e3, rfl⟩ := map_some e1
                rw [allD_eq e3] at em
                obtain ⟨l, ws, g1, g2⟩ := R.ob j a _ ha em
                obtain ⟨hr, hn⟩ := frz_at E R.nd hl hj ha
                obtain ⟨F2, h1, h2, h3, h4⟩ := frz_one E1 R1 g1 hr hn
                exact ⟨F2, h2, h3, h4, .lst h1 (Dfs.mono (Same.trans s1 h2) (dfs_of g2)) (by simpa using l)⟩
              · cases e1
            · cases e1
          | exc c fs => cases e1
          | ro ys => cases e1
        obtain ⟨F2, q1, q2, q3, q4⟩ := one
        obtain ⟨F3, w1, w2, w3, w4⟩ := frz_all E R hl q2 q3 (Same.trans s1 q1) r2 e2
        exact ⟨F3, Same.trans q1 w1, w2, w3, .cons (Df.mono w1 q4) w4⟩
    · cases e
end
/-! ### the lambda is made -/
section
variable {X : Cx} {pins : List (Addr × Obj)} {σ : L2.St} {H : Hp} {s : Shared}
/-- what the making leaves -/
def Grown (H H1 : Hp) (P c' : Addr) (ps : Array Value) (q : Str) : Prop :=
  H1 = H ∨ ∃ more : Array Value, TriplesOk (ps ++ more).toList ∧ (∀ (pos : Pos) (cv : Value), codeAmong pos (ps ++ more).toList = some cv → codeAmong pos ps.toList = some cv ∨ cv = .ref c') ∧ H c' = none ∧ H1 = upd (upd H P (.tbl (ps ++ more))) c' (LamX.CodeO c' q)
theorem lam_made {c P : Addr} {ps : Array Value} {params : Arguments} {body : Expr} {scope : Scope} {pos : Pos} {E : Value → Shared → Prop} {Q : Value → Shared → Prop} (I : Inv X pins σ H s) (TB : LamX.TabB X.base X.mg c P) (hcode : X.env.code = .ref c)
    (hP : H P = some (.tbl ps)) (ht : TriplesOk ps.toList) (ha : ∀ (pos : Pos) (cv : Value), codeAmong pos ps.toList = some cv → ∃ c', cv = .ref c' ∧ H c' = some (LamX.CodeO c' (X.env.qual ++ "<lambda>")))
    (hdef : defaultsOf params X.env = ([], [])) (hfree : ∀ y ∈ scope.names, y.2 = .free → ∃ c, X.env.cells.lookup y.1 = some c)
    (h : ∀ (f c' : Addr) (pm ctv : Value) (H1 : Hp) (s' : Shared), Inv X pins σ H1 s' → Grown H H1 P c' ps (X.env.qual ++ "<lambda>") →
      s'.heap.get? f = some (PySem.W.kla_obj "<lambda>" (X.env.qual ++ "<lambda>") params body scope (cloFrom X.env.cells scope.names []) pm c' ctv) → H1 f = none → f ∉ frs X.stack → H1 c' = some (LamX.CodeO c' (X.env.qual ++ "<lambda>")) → Q (.ref f) s') :
    wpAny (model X.prog X.w) X.A (eval (.Lambda params body scope pos) X.env) Q E s := by
  refine PySem.W.kla_eval hdef ?_
  have blt := TB.bm.keeps I.bk
  have tab := I.hok P _ hP
  have away : ∀ f, s.heap.objs.size ≤ f → f ∉ frs X.stack := fun f hf z => by
    rcases List.mem_cons.mp (I.stkSub _ z) with e | e
    · have l := I.lt
      rw [← e] at l
      exact absurd (Nat.lt_of_lt_of_le l hf) (Nat.lt_irrefl _)
    · exact I.nofs hf e
  cases known : codeAmong pos ps.toList with
  | some cv =>
    obtain ⟨c', rfl, hco⟩ := ha pos cv known
    refine PySem.W.kla_makeFunctionHit (mg := X.mg) (c := c) (P := P) (ps := ps) (closure_ok hfree) I.ok.glob (I.mod.glob.keeps I.bk) hcode (TB.code.keeps I.bk) tab ht known blt fun ctv h' tk old size => ?_
    exact h h'.objs.size c' ((X.mg "__name__").getD .none) ctv H _ (I.kept fun b o e => Heap.get?_push_of_some _ (old b o e)) (.inl rfl) (Heap.get?_push_size _ rfl) (I.hok.fresh size) (away _ size) hco
  | none =>
    refine PySem.W.kla_makeFunction (mg := X.mg) (c := c) (P := P) (ps := ps) (closure_ok hfree) I.ok.glob (I.mod.glob.keeps I.bk) hcode (TB.code.keeps I.bk) tab ht known TB.gP blt fun c' ctv h' tk old ge lt rec_ now => ?_
    obtain ⟨c2, oc, vs, t, e2, hoc, hd, hv⟩ := rec_
    cases e2
    have size : s.heap.objs.size ≤ h'.objs.size := Nat.le_trans ge (Nat.le_of_lt lt)
    have nC : H c' = none := I.hok.fresh ge
    have I1 := LamX.inv_table (q := X.env.qual ++ "<lambda>") (t' := tk) (more := #[rawInt pos.line, rawInt pos.col, .ref c']) (h' := h'.push (PySem.W.kla_obj "<lambda>" (X.env.qual ++ "<lambda>") params body scope (cloFrom X.env.cells scope.names []) ((X.mg "__name__").getD .none) c' ctv)) I hP
      (fun b o hb e => Heap.get?_push_of_some _ (old b o hb e)) (Heap.get?_push_of_some _ now) ge ⟨oc, vs, t, Heap.get?_push_of_some _ hoc, hd, hv⟩
    have list : (ps ++ #[rawInt pos.line, rawInt pos.col, .ref c']).toList = ps.toList ++ [rawInt pos.line, rawInt pos.col, .ref c'] := by simp
    refine h h'.objs.size c' ((X.mg "__name__").getD .none) ctv _ _ I1 (.inr ⟨_, by rw [list]; exact PySem.TriplesOk_snoc _ _ _ _ ht, fun p' cv hcv => ?_, nC, rfl⟩) (Heap.get?_push_size _ rfl) ?_ (away _ size) upd_same
    · rw [list] at hcv
      exact LamX.among_app _ ht hcv
    · have n1 : h'.objs.size ≠ c' := Nat.ne_of_gt lt
      have n2 : h'.objs.size ≠ P := Nat.ne_of_gt (Nat.lt_of_lt_of_le (Heap.lt_size (show s.heap.get? P = some _ from tab)) size)
      rw [upd_ne n1, upd_ne n2]
      exact I.hok.fresh size
end
section
variable {K : PySem.W.Frag} {T : List (Addr × Str)} {F H H1 : Hp} {ρ : List Addr} {m : Mem}
/-- what stands for the memory stands for it then -/
theorem rep_grown {P c' : Addr} {ps : Array Value} {q : Str} (R : Rep K T F ρ m H) (hP : H P = some (.tbl ps)) (hu : ∀ p ∈ T, p.1 = P → p.2 = q) (ha : ∀ (pos : Pos) (cv : Value), codeAmong pos ps.toList = some cv → ∃ c', cv = .ref c' ∧ H c' = some (LamX.CodeO c' q)) (g : Grown H H1 P c' ps q) :
    Rep K T F ρ m H1 ∧ Ext F ρ H F ρ H1 := by
  rcases g with rfl | ⟨more, tr, am, nC, rfl⟩
  · exact ⟨R, Ext.refl _ _ _⟩
  have keep : ∀ b u, H b = some u → (∀ ps, u ≠ .tbl ps) → upd (upd H P (.tbl (ps ++ more))) c' (LamX.CodeO c' q) b = some u := fun b u e n => by
    rw [upd_ne (ne_of_none e nC), upd_ne fun z => n ps (by rw [z, hP] at e; exact (Option.some.inj e).symm)]
    exact e
  have kep : ∀ b, H b ≠ none → upd (upd H P (.tbl (ps ++ more))) c' (LamX.CodeO c' q) b ≠ none := fun b e => by
    by_cases h1 : b = c'
    · rw [h1, upd_same]; simp
    · rw [upd_ne h1]
      by_cases h2 : b = P
      · rw [h2, upd_same]; simp
      · rw [upd_ne h2]; exact e
  refine ⟨⟨fun b u e => keep b u (R.le b u e) fun ps z => R.nft b ps (by rw [e, z]), R.len, fun n a o e1 e2 => (R.ob n a o e1 e2).mono (Same.refl _) ⟨[], by simp⟩ fun u hu => keep a u hu (R.nt e1 u hu).1, R.nf, R.nd, R.wf, fun p hp => ?_, R.nft⟩,
    ⟨Same.refl _, ⟨[], by simp, by simp⟩, fun a o h _ nt => keep a o h nt, fun a o h1 h2 => (by rw [h1] at h2; cases h2), kep, fun a o u h => keep a _ h fun ps z => by cases z⟩⟩
  by_cases hb : p.1 = P
  · rw [hu p hp hb, hb]
    refine ⟨_, by rw [upd_ne (ne_of_none hP nC), upd_same], tr, fun pos cv hcv => ?_⟩
    rcases am pos cv hcv with z | z
    · obtain ⟨c0, e1, e2⟩ := ha pos cv z
      exact ⟨c0, e1, keep _ _ e2 fun ps z => LamX.codeO_ne ps z⟩
    · exact ⟨c', z, upd_same⟩
  · obtain ⟨ps', a1, a2, a3⟩ := R.tab p hp
    refine ⟨ps', by rw [upd_ne (ne_of_none a1 nC), upd_ne hb]; exact a1, a2, fun pos cv hcv => ?_⟩
    obtain ⟨c0, e1, e2⟩ := a3 pos cv hcv
    exact ⟨c0, e1, keep _ _ e2 fun ps z => LamX.codeO_ne ps z⟩
end
/-! ### the handed lambda is called -/
section
variable {X : Cx} {pins : List (Addr × Obj)} {σ : L2.St} {H : Hp} {s : Shared}
theorem act_at {Eg : XK} {Ng : List Str} {qg : Str} {sg : Scope} {g f c' : Addr} {cdg pm ctv : Value} {params : Arguments} {body : Expr} {scope : Scope} {k i : Nat} {a : Str} {pn : List (Addr × Obj)} {xe : Value → Shared → Prop} {W : WX} {E : XK} {tb : TE} {p1 p2 : Pos}
    (I : Inv X pins σ H s) (lam : LamX.LamS X.env.scope scope) (at_ : s.heap.get? f = some (PySem.W.kla_obj "<lambda>" (X.env.qual ++ "<lambda>") params body scope (cloFrom X.env.cells scope.names []) pm c' ctv)) (new : H f = none) (off : f ∉ frs X.stack)
    (bnd : bindArgs (PySem.W.kla_fn "<lambda>" (X.env.qual ++ "<lambda>") params body scope (cloFrom X.env.cells scope.names []) pm (.ref c') ctv) ⟨[], []⟩ = pure [])
    (tk : Takes ((cxOf (L2.CX X.prog X.w) X.prog X.w X.K X.mg X.base Ng qg sg g cdg X.A X.stack s H Eg).tr pn xe) W) (out : ∀ cls d (σ' : L2.St) H', σ'.length = Ng.length → E cls d H' → W cls d σ' H') (room : Room (k + 1) (X.A.deeper (envOfC qg sg s.heap.objs.size g cdg))) (gd : X.A.guards = some [])
    (inner : ∀ (A : Around) (outer : List PySem.Env) (s : Shared) (H : Hp), A.guards = some [] → Room k (A.deeper (LamX.lamEnv X scope s.heap.objs.size f c')) → PE (LamX.lamCx X A outer s H E scope f c') body tb)
    (slot : Ng[i]? = some a) (vis : Vis sg a) (hd : (a == ("__debug__" : Str)) = false) (hcd : (a == ("__classdict__" : Str)) = false) :
    PE ((cxOf (L2.CX X.prog X.w) X.prog X.w X.K X.mg X.base Ng qg sg g cdg X.A X.stack s H Eg).tr pn xe) (.Call (.Name a p1) [] [] p2)
      (fun σZ HZ Q => σZ[i]? = some (some (.ref f)) ∧ HZ c' = some (LamX.CodeO c' (X.env.qual ++ "<lambda>")) ∧ tb σ HZ Q) := by
  refine ⟨fun pinsZ sZ σZ HZ Q IZ ⟨at0, code, told⟩ => ?_⟩
  refine wpAny_Call_Name_kw (thn ((pe_var (pos := p1) (i := i) slot vis hd hcd).run pinsZ sZ σZ HZ (fun v H1 => v = .ref f ∧ H1 = HZ) IZ ⟨.ref f, at0, rfl, rfl⟩) fun u s1 ⟨v, H1, I1, r1, ev, eH⟩ => ?_)
  subst ev
  rw [eH] at I1
  obtain rfl : u = Value.ref f := r1
  have still : s1.heap.get? f = some (PySem.W.kla_obj "<lambda>" (X.env.qual ++ "<lambda>") params body scope (cloFrom X.env.cells scope.names []) pm c' ctv) := I1.base.keep f _ at_ new off fun z => by cases z
  refine PySem.W.callWith_F0 ⟨_, _, _, _, still⟩ ?_
  obtain ⟨⟨oc, vs, t, co1, co2, co3⟩, _, _⟩ := I1.hok c' _ code
  have run : codeAny (model X.prog X.w) (X.A.deeper (envOfC qg sg s.heap.objs.size g cdg)) (.call (.ref f) ⟨[], []⟩) (CR (L2.CX X.prog X.w) (envOfC qg sg s.heap.objs.size g cdg :: X.stack) X.prog X.w HZ s1 Q E) s1 := by
    refine PySem.W.kla_callFunE room.depth still rfl lam.co lam.gen rfl ⟨c', oc, vs, t, rfl, co1, co2, co3⟩ ?_
    rw [bnd]
    refine wpAny_pure (wpAny_newFunctionEnv (fun y hy => (lam.own y hy).2) (fun y hy => by cases hy) (fun h₁ hns hsb => ⟨I1.nolimit.fresh _ hsb, ?_⟩) lam.kind)
    show codeAny _ _ (.expr body (LamX.lamEnv X scope s1.heap.objs.size f c')) _ _
    have J := LamX.lam_start2 (E := E) (A := X.A.deeper (envOfC qg sg s.heap.objs.size g cdg)) (outer := envOfC qg sg s.heap.objs.size g cdg :: X.stack) (f := f) (c' := c') (tk := s1.toks + ([] : List (Str × Value)).length) I lam I1.env0 room.hd I1.base hns
      fun b o e => hsb.extBut b o (Nat.ne_of_lt (Heap.lt_size e)) (Heap.get?_push_of_some _ e)
    refine PySem.W.kla_codeExpr (wpAny_mono ((inner (X.A.deeper (envOfC qg sg s.heap.objs.size g cdg)) (envOfC qg sg s.heap.objs.size g cdg :: X.stack) s1 HZ gd (room.deeper _)).run [] _ _ HZ Q J told) (fun v s' ⟨w', H', J', rv, q⟩ => ?_) fun e s' hq => hq)
    exact ⟨w', H', J'.os, J'.bare, J'.base, J'.hok, rv, q⟩
  refine wpAny_call (codeAny_mono run fun r s' hq => ?_)
  match r, hq with
  | .error e, hq => exact tk e s' (XE.of_call I1 (fun cls d H' h => out cls d σZ H' I1.len h) hq)
  | .ok (.ret u), hq => exact I1.after hq
end
/-! ### what a call's answer is put into -/
section
variable {X : Cx} {es : List Expr}
def WQ (w : HW) (v : V) (H : Hp) (Q : VK) : Prop := match w with
  | .one => Q v H
  | .two y => match cV y with
    | some u => [u, v].length ≤ sizeLine ∧ NewT Q H [u, v]
    | none => False
  | .twoL y => match cV y with
    | some u => [u, v].length ≤ sizeLine ∧ ∀ p, H p = none → Q (.ref p) (upd H p (.lst [u, v]))
    | none => False
/-- the text that does so -/
def isW (a : Str) : HW → Expr → Prop
  | .one, e => ∃ p1 p2, e = .Call (.Name a p1) [] [] p2
  | .two y, e => ∃ c u p1 p2 k p, e = .Tuple [c, .Call (.Name a p1) [] [] p2] k p ∧ cV y = some u ∧ (∀ X, PE X c (tC u)) ∧ ∀ env, starEach [c, .Call (.Name a p1) [] [] p2] env = (false, eval c env) :: starEach [.Call (.Name a p1) [] [] p2] env
  | .twoL y, e => ∃ c u p1 p2 p, e = .List [c, .Call (.Name a p1) [] [] p2] p ∧ cV y = some u ∧ (∀ X, PE X c (tC u)) ∧ ∀ env, starEach [c, .Call (.Name a p1) [] [] p2] env = (false, eval c env) :: starEach [.Call (.Name a p1) [] [] p2] env
theorem pe_w {a : Str} {w : HW} {e : Expr} {A : L2.St → Hp → Prop} {tb : TE} (h : isW a w e) (call : ∀ p1 p2, PE X (.Call (.Name a p1) [] [] p2) (fun σZ HZ Q => A σZ HZ ∧ tb σZ HZ Q)) : PE X e (fun σZ HZ Q => A σZ HZ ∧ tb σZ HZ fun v H2 => WQ w v H2 Q) := by
  cases w with
  | one =>
    obtain ⟨p1, p2, rfl⟩ := h
    exact call p1 p2
  | two y =>
    obtain ⟨c, u, p1, p2, k, p, rfl, hy, hc, hs⟩ := h
    refine pe_mono (pe_tupB (pa_cons (hc X) (pa_cons (call p1 p2) pa_nil) (hs _))) fun σ H Q ⟨h1, h2⟩ => ⟨h1, ?_⟩
    have e : (fun v H2 => WQ (.two y) v H2 Q) = fun v H2 => [u, v].length ≤ sizeLine ∧ NewT Q H2 [u, v] := by
      funext v H2
      simp only [WQ, hy]
    rw [e] at h2
    exact h2
  | twoL y =>
    obtain ⟨c, u, p1, p2, p, rfl, hy, hc, hs⟩ := h
    refine pe_mono (pe_lst (pa_cons (hc X) (pa_cons (call p1 p2) pa_nil) (hs _))) fun σ H Q ⟨h1, h2⟩ => ⟨h1, ?_⟩
    have e : (fun v H2 => WQ (.twoL y) v H2 Q) = fun v H2 => [u, v].length ≤ sizeLine ∧ ∀ p, H2 p = none → Q (.ref p) (upd H2 p (.lst [u, v])) := by
      funext v H2
      simp only [WQ, hy]
    rw [e] at h2
    exact h2
def hwU (w : HW) (u : V) : Prop := match w with
  | .one => True
  | .two y => cV y = some u
  | .twoL y => cV y = some u
/-- from the answer's value to the wrapped one -/
theorem wq_ok {K : PySem.W.Frag} {T : List (Addr × Str)} {F H : Hp} {ρ : List Addr} {m : Mem} {w : HW} {u v : V} {x : PV.D} {Q : VK} (R : Rep K T F ρ m H) (dv : Df K F v x) (hy : hwU w u)
    (g : ∀ F' H' b, Ext F ρ H F' ρ H' → Rep K T F' ρ m H' → Df K F' b (hwV w x) → Q b H') : WQ w v H Q := by
  have two : [u, v].length ≤ sizeLine := by rw [sizeLine_eq]; exact (by decide : 2 ≤ 16777216)
  cases w with
  | one => exact gives_flat R g dv
  | two y =>
    have hy : cV y = some u := hy
    show (match cV y with | some u => [u, v].length ≤ sizeLine ∧ NewT Q H [u, v] | none => False)
    rw [hy]
    exact ⟨two, gives_tup R g (.cons (cV_df hy) (.cons dv .nil)) (by show 2 ≤ LIM; decide)⟩
  | twoL y =>
    have hy : cV y = some u := hy
    show (match cV y with | some u => [u, v].length ≤ sizeLine ∧ ∀ p, H p = none → Q (.ref p) (upd H p (.lst [u, v])) | none => False)
    rw [hy]
    exact ⟨two, gives_lst R g (.cons (cV_df hy) (.cons dv .nil)) (by show 2 ≤ LIM; decide)⟩
end
/-! ### the def that is handed a lambda -/
section
variable {X : Cx} {T : List (Addr × Str)} {ec : Nat → Addr} {cf : CF} {W : WX} {sub : Nat → Nat → Bool}
/-- a clause of that def: the class, the slot of its name, what it tells -/
abbrev HC3 := Nat × Nat × HX
def hc2 (p : HC3) : Nat × HX := (p.1, p.2.2)
def hc3 (X : Cx) (T : List (Addr × Str)) (ec : Nat → Addr) (sub : Nat → Nat → Bool) (it : Nat) (p : HC3) : Cls3 := (.ref (ec p.1), p.2.1, fun ad cls d => tAsg (tHv X T ec sub p.2.1 p.2.2 ad cls d) (gName it))
/-- the clauses as the text has them; PP: what holds of what a clause tells -/
inductive HdsAre (mg : Str → Option Value) (ec : Nat → Addr) (Ng : List Str) (sg : Scope) (told : Str) (it : Nat) (PP : Nat → HX → Expr → Prop) : List ExceptHandler → List HC3 → Prop
  | nil : HdsAre mg ec Ng sg told it PP [] []
  | cons {cx en : Str} {ie j : Nat} {hx : HX} {he : Expr} {q6 q7 q8 q9 : Pos} {hds : List ExceptHandler} {l : List HC3} (Ne : Ng[ie]? = some en) (le : sg.names.lookup en = some .local) (te : it ≠ ie)
      (lcx : sg.names.lookup cx = some .globalImplicit) (dcx : (cx == ("__debug__" : Str)) = false) (mcx : mg cx = some (.ref (ec j))) (hhx : PP ie hx he)
      (hsw : ∀ env : PySem.Env, swapsWithSole [.Name told q7] he q8.line env = pure false) (hst : ∀ env : PySem.Env, swappedStores [.Name told q7] he env = pure none) (r : HdsAre mg ec Ng sg told it PP hds l) :
      HdsAre mg ec Ng sg told it PP (.ExceptHandler (some (.Name cx q6)) (some en) [.Assign [.Name told q7] he q8] q9 :: hds) ((j, ie, hx) :: l)
theorem told_clauses {Wd : Value → Option Addr → Hp → Prop} {F F' H1 H' : Hp} {ρ ρ' : List Addr} {m m1 : Mem} {k : Nat} {fs : List PV.D} {cls : Value} {d : Option Addr} {σ' : L2.St} {it : Nat} {Q : VK} {D : Ends} (hl : it < σ'.length)
    (ex : ∀ k c, PySem.W.exmOne X.K (.ref (ec k)) (.ref (ec c)) = some (sub k c)) (X2 : Ext F ρ H1 F' ρ' H') (R2 : Rep X.K T F' ρ' m1 H') (hm : ρ.length = m.length) (q : ExR X.K ec F' H' k fs cls d) (hD : ∀ (σz : L2.St) (Hz : Hp) (b : V), σz[it]? = some (some b) → Q b Hz → D.nx σz Hz) :
    ∀ l : List HC3, (∀ p ∈ l, it ≠ p.2.1) → Post X.K T ec (relV X T) Wd F ρ H1 (heardC sub k fs m.length m1 (l.map hc2)) Q → wClauses X.K (fun _ _ _ _ => False) D (l.map (hc3 X T ec sub it)) cls d σ' H'
  | [], _, P => False.elim P
  | p :: r, te, P => by
    have q0 : cls = .ref (ec k) := q.1
    have P : Post X.K T ec (relV X T) Wd F ρ H1 (if sub k p.1 then (match hv sub k fs p.2.2 with
      | some v => .ok (.d v) (m1.take m.length)
      | none => .bad) else heardC sub k fs m.length m1 (r.map hc2)) Q := P
    refine ⟨sub k p.1, by rw [q0]; exact ex k p.1, fun hs ad na => ?_, fun hs => ?_⟩
    · rw [if_pos hs] at P
      cases hv1 : hv sub k fs p.2.2 with
      | none => rw [hv1] at P; exact False.elim P
      | some v =>
        rw [hv1] at P
        refine ⟨k, fs, v, σ', F', ρ', m1, R2, q, rfl, hv1, fun F3 H3 b X3 R3 db => hD _ _ b ?_ ?_⟩
        · show ((((σ'.set p.2.1 (some (V.ref ad))).set it (some b)).set p.2.1 none)[it]? = some (some b))
          rw [List.getElem?_set_ne (fun z => te p List.mem_cons_self z.symm), List.getElem?_set_self (by rw [List.length_set]; exact hl)]
        · have ext := (X2.trans X3).take
          rw [hm] at ext
          exact P F3 _ H3 b ext (R3.take m.length) db
    · rw [if_neg (by rw [hs]; exact Bool.false_ne_true)] at P
      exact told_clauses hl ex X2 R2 hm q hD r (fun p hp => te p (List.mem_cons_of_mem _ hp)) P
theorem HdsAre.te {mg : Str → Option Value} {Ng : List Str} {sg : Scope} {told : Str} {it : Nat} {PP : Nat → HX → Expr → Prop} {hds : List ExceptHandler} {l : List HC3} (h : HdsAre mg ec Ng sg told it PP hds l) : ∀ p ∈ l, it ≠ p.2.1 := by
  induction h with
  | nil => exact fun _ h => nomatch h
  | cons Ne le te lcx dcx mcx hhx hsw hst r ih => exact List.forall_mem_cons.mpr ⟨te, ih⟩
theorem s_heard {x a told : Str} {g c P : Addr} {fd : FuncData} {st : Stmt} {Ng : List Str} {it n : Nat} {w : HW} {u : V} {val : Expr} {q1 q2 q3 q4 q5 q10 q11 q12 p lp q : Pos} {i0 : Nat} {params : Arguments} {body : Expr} {scope : Scope} {e : Ex} {h₀ : ExceptHandler} {hds : List ExceptHandler} {l : List HC3}
    (Fd : L2.Fun X.K x x st g fd) (S : FnScope Ng [a] (defScope st)) (hm : X.mg x = some (.ref g)) (hk : PySem.W.keepIn X.K (.ref g) = true) (bnd : L2.Binds X.K fd [a] []) (hgx : Gl X x) (hdb : (x == ("__debug__" : Str)) = false)
    (shape : defBody st = [.Assign [.Name told q1] (.Constant .none i0 q2) q3, .Try [.Assign [.Name told q4] val q5] (h₀ :: hds) [] [] q10, .Return (some (.Name told q11)) q12])
    (N0 : Ng[0]? = some a) (va : Vis (defScope st) a) (da : (a == ("__debug__" : Str)) = false) (ca : (a == ("__classdict__" : Str)) = false)
    (Nt : Ng[it]? = some told) (lt : (defScope st).names.lookup told = some .local) (dt : (told == ("__debug__" : Str)) = false) (ct : (told == ("__classdict__" : Str)) = false) (t0 : it ≠ 0) (hval : isW a w val) (hu0 : hwU w u)
    (are : HdsAre X.mg ec Ng (defScope st) told it (fun ie hx he => ∀ (s : Shared) (H : Hp) (cdv : Value) (ad : Addr) (oe : Obj) (cls : Value) (d : Option Addr) (pn : List (Addr × Obj)), X.A.guards = some [] → Room (n + 1) (X.A.deeper (envOfC x (defScope st) s.heap.objs.size g cdv)) → Zc cls d oe → (∃ vs, oe.data = .fields vs) →
      PE ((cxOf (L2.CX X.prog X.w) X.prog X.w X.K X.mg X.base Ng x (defScope st) g cdv X.A X.stack s H (fun _ _ _ => False)).suite ad ((ad, oe) :: pn)) he (tHv X T ec sub ie hx ad cls d)) (h₀ :: hds) l)
    (hsv : ∀ env : PySem.Env, swapsWithSole [.Name told q4] val q5.line env = pure false) (hsu : ∀ env : PySem.Env, swappedStores [.Name told q4] val env = pure none)
    (ex : ∀ k c, PySem.W.exmOne X.K (.ref (ec k)) (.ref (ec c)) = some (sub k c)) (TB : LamX.TabB X.base X.mg c P) (hcode : X.env.code = .ref c) (hT : (P, X.env.qual ++ "<lambda>") ∈ T) (hu : ∀ p ∈ T, p.1 = P → p.2 = X.env.qual ++ "<lambda>") (lam : LamX.LamS X.env.scope scope)
    (hdef : defaultsOf params X.env = ([], [])) (hbind : ∀ (q : Str) (cl : List (Str × Addr)) (pm cv ctv : Value), bindArgs (PySem.W.kla_fn "<lambda>" q params body scope cl pm cv ctv) ⟨[], []⟩ = pure []) (room : Room (n + 2) X.A) (gd : X.A.guards = some [])
    (inner : ∀ (A : Around) (outer : List PySem.Env) (s : Shared) (H : Hp) (E : XK) (f c' : Addr), A.guards = some [] → Room n (A.deeper (LamX.lamEnv X scope s.heap.objs.size f c')) → PE (LamX.lamCx X A outer s H E scope f c') body (tE X T ec cf (fun cls d _ H' => E cls d H') e))
    (low : ∀ m, cf.c (BIG + BIG + NOPI) [] m = .ok (.d .none) m) (sb : cf.s = sub) :
    PE X (.Call (.Name x p) [.Lambda params body scope lp] [] q) (tE X T ec cf W (.heard w (l.map hc2) e)) := by
  refine ⟨fun pins s σ H Q I ⟨F, ρ, m, env, R, E, P0⟩ => ?_⟩
  have Pm : Post X.K T ec (relV X T) (fun c d H => W c d σ H) F ρ H (match evE cf e env m with
      | .ok v m1 => match frzE m1 m.length v with
        | some x => .ok (.d (hwV w x)) (m1.take m.length)
        | none => .bad
      | .ex k fs m1 => heardC cf.s k fs m.length m1 (l.map hc2)
      | .bad => .bad) Q := by
    have P0 := P0
    simp only [evE, low, Res.bind] at P0
    exact P0
  obtain ⟨oc, od, kV, doc, pm, an, cdv, ctv, osl, rfl, lk, hcd⟩ := Fd.ex
  obtain ⟨ps, hP, tr, am⟩ := R.tab _ hT
  refine wpAny_Call_Name_kw (ld_glob I hgx hm ?_ hdb)
  refine PySem.W.callWith_K (h₀ := X.base) I.ok.mod.kin hk ?_ rfl rfl
  show wpAny _ _ (spliced ((false, eval (.Lambda params body scope lp) X.env) :: backTo q (starEach [] X.env))) _ _ s
  refine Calls.spliced_cons (lam_made I TB hcode hP tr am hdef (lam.has I.ok) fun f c' pm' ctv' H1 s' I1 gr at_ new off co => ?_)
  refine Calls.spliced_nil ⟨I1.kIn, ?_⟩
  obtain ⟨R1, X1⟩ := rep_grown R hP hu am gr
  have E1 := E.ext X1
  have P1 := Post.up Pm X1
  have it0 : it < Ng.length := (List.getElem?_eq_some_iff.mp Nt).1
  -- what is known where the lambda's body raises
  let Ech : XK := fun cls d H' => ∃ k fs m1 F' ρ', evE cf e env m = .ex k fs m1 ∧ Ext F ρ H1 F' ρ' H' ∧ Rep X.K T F' ρ' m1 H' ∧ ExR X.K ec F' H' k fs cls d
  have run : codeAny (model X.prog X.w) X.A (.call (.ref g) ⟨[.ref f], []⟩) (CR (L2.CX X.prog X.w) X.stack X.prog X.w H1 s' Q (fun _ _ _ => False)) s' := by
    refine LamX.run_ofS (N := Ng) (ps := [a]) (us := [.ref f]) (vs := [.ref f]) lk hcd S room I1.env0 (bnd s' [.ref f] I1.kIn rfl) (.cons rfl .nil) rfl fun room' => ?_
    have act : ∀ (W : WX) (pn : List (Addr × Obj)) (xe : Value → Shared → Prop) (E : XK) (p1 p2 : Pos), Takes ((cxOf (L2.CX X.prog X.w) X.prog X.w X.K X.mg X.base Ng x (defScope st) g cdv X.A X.stack s' H1 (fun _ _ _ => False)).tr pn xe) W → (∀ cls d (σ' : L2.St) H', σ'.length = Ng.length → E cls d H' → W cls d σ' H') →
        PE ((cxOf (L2.CX X.prog X.w) X.prog X.w X.K X.mg X.base Ng x (defScope st) g cdv X.A X.stack s' H1 (fun _ _ _ => False)).tr pn xe) (.Call (.Name a p1) [] [] p2)
          (fun σZ HZ Q => (σZ[0]? = some (some (.ref f)) ∧ HZ c' = some (LamX.CodeO c' (X.env.qual ++ "<lambda>"))) ∧ tE X T ec cf (fun cls d _ H' => E cls d H') e σ HZ Q) := fun W pn xe E p1 p2 tk out =>
      pe_mono (act_at (i := 0) (k := n) I1 lam at_ new off (hbind _ _ _ _ _) tk out room' gd (fun A outer s H g1 r1 => inner A outer s H E f c' g1 r1) N0 va da ca) fun σ' H' Q' ⟨⟨h1, h2⟩, h3⟩ => ⟨h1, h2, h3⟩
    have clauses : ClsAre (cxOf (L2.CX X.prog X.w) X.prog X.w X.K X.mg X.base Ng x (defScope st) g cdv X.A X.stack s' H1 (fun _ _ _ => False)) (h₀ :: hds) (l.map (hc3 X T ec sub it)) := by
      have key : ∀ {hs : List ExceptHandler} {ls : List HC3}, HdsAre X.mg ec Ng (defScope st) told it (fun ie hx he => ∀ (s : Shared) (H : Hp) (cdv : Value) (ad : Addr) (oe : Obj) (cls : Value) (d : Option Addr) (pn : List (Addr × Obj)), X.A.guards = some [] → Room (n + 1) (X.A.deeper (envOfC x (defScope st) s.heap.objs.size g cdv)) → Zc cls d oe → (∃ vs, oe.data = .fields vs) →
          PE ((cxOf (L2.CX X.prog X.w) X.prog X.w X.K X.mg X.base Ng x (defScope st) g cdv X.A X.stack s H (fun _ _ _ => False)).suite ad ((ad, oe) :: pn)) he (tHv X T ec sub ie hx ad cls d)) hs ls →
          ClsAre (cxOf (L2.CX X.prog X.w) X.prog X.w X.K X.mg X.base Ng x (defScope st) g cdv X.A X.stack s' H1 (fun _ _ _ => False)) hs (ls.map (hc3 X T ec sub it)) := by
        intro hs ls h
        induction h with
        | nil => exact .nil
        | cons Ne le te lcx dcx mcx hhx hsw hst r ih =>
          exact .cons ⟨lcx, dcx, .inl mcx⟩ Ne le (fun ad oe cls d pn z fz => pss_one (ps_asg (hhx s' H1 cdv ad oe cls d pn gd room' z fz) (pg_name S.nd Nt (.inl lt) (.inr lt)) (hsw _) (hst _) rfl)) ih
      exact key are
    rw [shape]
    refine ⟨_, pss_cons (ps_asg pe_non (pg_name S.nd Nt (.inl lt) (.inr lt))) (pss_cons (ps_clauses (l := l.map (hc3 X T ec sub it))
      (tb := fun W D σZ HZ => ∃ E : XK, (∀ cls d (σ' : L2.St) H', σ'.length = Ng.length → E cls d H' → W cls d σ' H') ∧ tAsg (fun σZ HZ Q => (σZ[0]? = some (some (.ref f)) ∧ HZ c' = some (LamX.CodeO c' (X.env.qual ++ "<lambda>"))) ∧ tE X T ec cf (fun cls d _ H' => E cls d H') e σ HZ fun v H2 => WQ w v H2 Q) (gName it) D σZ HZ)
      (Wout := fun _ _ _ _ => False) rfl rfl S.nd LamX.takes0 (fun W pn xe tk _ => pss_one ⟨fun pins s2 σ2 H2 D I2 h2 => ?_⟩)
      clauses) (pss_one (ps_ret (pe_var Nt (.inl lt) dt ct)))), ?_⟩
    · obtain ⟨E, out, told⟩ := h2
      exact (ps_asg (pe_w hval fun p1 p2 => act W pn xe E p1 p2 tk out) (pg_name S.nd Nt (.inl lt) (.inr lt)) (hsv _) (hsu _) rfl).run pins s2 σ2 H2 D I2 told
    · have st0 : ((L2.start Ng [V.ref f]).set it (some V.non))[0]? = some (some (.ref f)) := by
        rw [List.getElem?_set_ne t0]
        rfl
      have sl : (L2.start Ng [V.ref f]).length = Ng.length := by
        unfold L2.start
        have : 0 < Ng.length := by omega
        simp
        omega
      refine ⟨Ech, fun cls d σ' H' hl ⟨k, fs, m1, F', ρ', er, X2, R2, q⟩ => ?_, ⟨st0, co⟩, F, ρ, m, env, R1, E1, ?_⟩
      · rw [er] at P1
        have P1 : Post X.K T ec (relV X T) (fun c d H => W c d σ H) F ρ H1 (heardC cf.s k fs m.length m1 (l.map hc2)) Q := P1
        rw [sb] at P1
        refine told_clauses ?_ ex X2 R2 R.len q ?_ l are.te P1
        · rw [hl]; exact it0
        · exact fun σz Hz b h1 h2 => ⟨b, h1, h2⟩
      · cases er : evE cf e env m with
        | bad => rw [er] at P1; exact False.elim P1
        | ex k fs m1 => exact fun F' ρ' H' cls d X2 R2 q => ⟨k, fs, m1, F', ρ', er, X2, R2, q⟩
        | ok y m1 =>
          rw [er] at P1
          intro F' ρ' H' b X2 R2 rv
          have P1 : Post X.K T ec (relV X T) (fun c d H => W c d σ H) F ρ H1 (match frzE m1 m.length y with
            | some x => .ok (.d (hwV w x)) (m1.take m.length)
            | none => .bad) Q := P1
          cases fz : frzE m1 m.length y with
          | none => rw [fz] at P1; exact False.elim P1
          | some xd =>
            rw [fz] at P1
            obtain ⟨F3, w1, w2, w3, w4⟩ := frz_all (xs := [y]) (vs := [b]) (ds := [xd]) (F1 := F') X2 R2 R.len (by have := X2.take; rwa [R.len] at this) (R2.take m.length) (Same.refl F') (.cons rv .nil) (by simp only [frzAll, fz])
            cases w4 with
            | cons db dn =>
              refine wq_ok w3 db hu0 fun F4 H4 b4 X4 R4 d4 => ?_
              refine ⟨b4, ?_, P1 F4 _ H4 b4 (w2.trans X4) R4 d4⟩
              show (((L2.start Ng [V.ref f]).set it (some V.non)).set it (some b4))[it]? = some (some b4)
              rw [List.getElem?_set_self (by rw [List.length_set, sl]; exact it0)]
  refine wpAny_call (codeAny_mono run fun r s2 hq => ?_)
  match r, hq with
  | .error e, ⟨_, _, _, _, _, _, _, _, _, _, _, _, no⟩ => exact no.elim
  | .ok (.ret u), hq => exact I1.after hq
end
end PV
end

section
set_option Elab.async false
set_option linter.all false
set_option maxRecDepth 100000
/-! PV16: defs keep the evaluator's promise; the law's call. -/
namespace PV
open PySem PySem.Spec PyProof.Rows L2

section
variable {K : PySem.W.Frag} {xa : List (Addr × Str)} {F0 F H0 H : Hp} {ρ0 ρ : List Addr} {m : Mem}
theorem frz_tup {n k : Nat} {v : V} {p : D} (E : Ext F0 ρ0 H0 F ρ H) (R : Rep K xa F ρ m H) (hl : ρ0.length = n) (rv : RepV K xa F ρ v (.loc k)) (e : frzT m n k = some p) :
    ∃ F2, Ext F0 ρ0 H0 F2 (ρ.take n) H ∧ Rep K xa F2 (ρ.take n) (m.take n) H ∧ Df K F2 v p := by
  obtain ⟨a, rfl, ha⟩ := rv
  unfold frzT at e
  split at e
  · rename_i hk
    split at e
    · rename_i xs em
      obtain ⟨ds, e1, rfl⟩ := map_some e
      obtain ⟨l, ob, vs, g1, gd, g2⟩ := R.ob k a _ ha em
      have E1 := E.take
      rw [hl] at E1
      obtain ⟨F2, q1, q2, q3, q4⟩ := frz_all E R hl E1 (R.take n) (Same.refl F) g2 e1
      obtain ⟨hr, hn⟩ := frz_at E R.nd hl hk ha
      obtain ⟨F3, w1, w2, w3, w4⟩ := frz_one q2 q3 g1 hr hn
      refine ⟨F3, w3, w4, .tup (SqB.of w1 gd) (Dfs.mono w2 q4) ?_⟩
      rw [← q4.len, Paired.length g2]
      exact l
    · cases e
  · cases e
end
section
variable {P : Program} {w : World} {K : PySem.W.Frag} {mg : Str → Option Value} {base : Heap}
/-- a def by its body, where no repr runs around it -/
theorem fnG_of {k : Nat} {f : Addr} {x q : Str} {st : Stmt} {fd : FuncData} {N ps : List Str} {sp : Sp} (Fd : L2.Fun K x q st f fd) (S : FnScope N ps (defScope st)) (len : ∀ vs H Q E, sp vs H Q E → vs.length = ps.length)
    (bd : ∀ (cdv : Value) (A : Around) (outer : List PySem.Env) (s : Shared) (H : Hp) (vs : List V) (Q : VK) (E : XK), fd.code = cdv → Room k (A.deeper (envOfC q (defScope st) s.heap.objs.size f cdv)) → A.guards = some [] → sp vs H Q E →
      ∃ t, PSs (cxOf (L2.CX P w) P w K mg base N q (defScope st) f cdv A outer s H E) (defBody st) t ∧ t { nx := fun _ H' => Q .non H', rt := Q } (start N vs) H) : FnG P w K mg base (k + 1) f fd ps sp := by
  obtain ⟨oc, od, kV, doc, pm, an, cdv, ct, osl, rfl, lk, hcd⟩ := Fd.ex
  refine ⟨len, fun A outer s H args us vs Q E room gd ent bnd rv want => ?_⟩
  have nvs := len _ _ _ _ want
  have inK : K.In s.heap := ent.mod.kin.keeps fun b o e => (ent.bs b o e).1
  have lims : s.heap.NoLimit := ent.mod.nolimit.keeps fun b o e => (ent.bs b o e).1
  refine codeAny_call_function room.depth (inK _ _ lk) rfl S.co S.gen rfl (PySem.W.codeRec_of inK hcd) (bnd _ _ _ _ ?_)
  refine wpAny_newFunctionEnv_cells S.kind (fun ⟨y, z⟩ hy => ?_) fun env he s1 inc => ?_
  · rcases S.par y (List.of_mem_zip hy).1 with g | g
    · exact Or.inl g
    · exact Or.inr ⟨g, PySem.W.cellsFrom_some _ _ _ (Or.inl g)⟩
  subst he
  refine ⟨lims.keeps inc.toInCall.keep, codeAny_func ?_⟩
  obtain ⟨t, run, good⟩ := bd cdv A outer s H vs Q E rfl (room.deeper _) gd want
  have J := inv_start (CX := L2.CX P w) (E := E) S room.hd ent nvs rv inc
  refine wpAny_mono (run.run [] s1 (start N vs) H _ J good) (fun fl s' ended => ?_) fun e s' out => out
  match fl, ended with
  | .ret u, ⟨v, σ', H', J', rv', q'⟩ => exact ⟨v, H', J'.os, J'.bare, J'.base, J'.hok, rv', q'⟩
  | .next, ⟨σ', H', J', q'⟩ => exact ⟨V.non, H', J'.os, J'.bare, J'.base, J'.hok, rfl, q'⟩
  | .brk, ⟨_, _, _, q'⟩ => exact q'.elim
  | .cont, ⟨_, _, _, q'⟩ => exact q'.elim
/-- what stands for a def of the text -/
structure FD where
  name : Str
  st : Stmt
  N : List Str
  ps : List Str
  mus : List Nat
  kws : List (List Str × Nat × List Nat)
  lam : Bool := false
def scOf (d : FD) : SC := ⟨defScope d.st, (defScope d.st).names.map (·.1), d.lam⟩
def cFn (G : GC) (d : FD) : Fn := ⟨d.ps.length, d.N.length, cSs G d.N d.mus (scOf d) (defBody d.st)⟩
def fnsOf : List FD → Nat → List (Str × Nat × Nat × List (List Str × Nat × List Nat))
  | [], _ => []
  | d :: r, k => (d.name, k, d.ps.length, d.kws) :: fnsOf r (k + 1)
theorem fnsOf_ok : ∀ {ds : List FD} {k0 k np : Nat} {kw : List (List Str × Nat × List Nat)} {x : Str}, (fnsOf ds k0).lookup x = some (k, np, kw) → ∃ i d, k = k0 + i ∧ ds[i]? = some d ∧ d.name = x ∧ np = d.ps.length ∧ kw = d.kws
  | [], _, _, _, _, _, h => by cases h
  | d :: r, k0, k, np, kw, x, h => by
    unfold fnsOf at h
    rw [List.lookup_cons] at h
    split at h
    · rename_i e
      cases h
      exact ⟨0, d, rfl, rfl, (eq_of_beq e).symm, rfl, rfl⟩
    · obtain ⟨i, d', e1, e2, e3⟩ := fnsOf_ok h
      exact ⟨i + 1, d', by omega, by simpa using e2, e3⟩
/-! ### defs that try the lambda they are handed -/
def cW (a : Str) : Expr → Option HW
  | .Call (.Name y _) [] [] _ => if decide (y = a) then some .one else none
  | .Tuple [c, .Call (.Name y _) [] [] _] _ _ => if decide (y = a) then (cDat c).map .two else none
  | .List [c, .Call (.Name y _) [] [] _] _ => if decide (y = a) then (cDat c).map .twoL else none
  | _ => none
theorem cW_ok {a : Str} {e : Expr} {w : HW} (h : cW a e = some w) : isComp e = false ∧ isW a w e ∧ ∃ u, hwU w u := by
  unfold cW at h
  split at h
  · split at h
    · rename_i hy
      cases h
      rw [of_decide_eq_true hy]
      exact ⟨rfl, ⟨_, _, rfl⟩, .non, trivial⟩
    · cases h
  · split at h
    · rename_i hy
      obtain ⟨x, e1, rfl⟩ := map_some h
      rw [of_decide_eq_true hy]
      obtain ⟨_, c2, v, c3, c4⟩ := cDat_ok e1
      exact ⟨rfl, ⟨_, v, _, _, _, _, rfl, c3, c4, fun env => star_cons c2⟩, v, c3⟩
    · cases h
  · split at h
    · rename_i hy
      obtain ⟨x, e1, rfl⟩ := map_some h
      rw [of_decide_eq_true hy]
      obtain ⟨_, c2, v, c3, c4⟩ := cDat_ok e1
      exact ⟨rfl, ⟨_, v, _, _, _, rfl, c3, c4, fun env => star_cons c2⟩, v, c3⟩
    · cases h
  · cases h
def isLoc (sc : Scope) (x : Str) : Bool := decide (sc.names.lookup x = some .local) && okNm x
/-- one clause of such a def -/
def cH1 (G : GC) (d : FD) (told : Str) (it : Nat) : ExceptHandler → Option HC3
  | .ExceptHandler (some (.Name cx _)) (some en) [.Assign [.Name t3 _] he _] _ =>
    if decide (t3 = told) && decide ((defScope d.st).names.lookup en = some .local) && glb (defScope d.st) cx && okNm cx then
      match G.cls.lookup cx, ixOf d.N en, cHX G (scOf d) en he with
      | some j, some ie, some hx => if decide (it ≠ ie) then some (j, ie, hx) else none
      | _, _, _ => none
    else none
  | _ => none
def cHrd (G : GC) (d : FD) : Option (HW × List (Nat × HX)) := match d.ps, defBody d.st with
  | [a], [.Assign [.Name told _] (.Constant .none _ _) _, .Try [.Assign [.Name t2 _] val _] (h₀ :: hds) [] [] _, .Return (some (.Name t4 _)) _] =>
    if decide (t2 = told) && decide (t4 = told) && vis (defScope d.st) a && okNm a && isLoc (defScope d.st) told && !d.lam && decide (ixOf d.N a = some 0) then
      match cW a val, ixOf d.N told with
      | some w, some it => if decide (it ≠ 0) then (allSome ((h₀ :: hds).map (cH1 G d told it))).map fun l => (w, l.map hc2) else none
      | _, _ => none
    else none
  | _, _ => none
/-- the name that a def's lambdas bear -/
def lamQ (x : Str) : Str := x ++ ".<locals>." ++ "<lambda>"
def LamAt (L : List (Addr × Addr × Str)) (x : Str) (fd : FuncData) : Prop := ∃ c P, fd.code = .ref c ∧ (c, P, lamQ x) ∈ L
/-- the tables of code objects: code object, table, the name that the table's objects bear -/
def tabT (L : List (Addr × Addr × Str)) : List (Addr × Str) := L.map fun p => p.2
/-- the code objects of the defs xs and their tables -/
def lamsOf (K : PySem.W.Frag) (xs : List Str) : List (Addr × Addr × Str) := xs.filterMap fun x => (PySem.W.tabIn K x).map fun p => (p.1, p.2, lamQ x)
def lamsB (K : PySem.W.Frag) (xs : List Str) : Bool := xs.all (fun x => (PySem.W.tabIn K x).isSome) && (lamsOf K xs).all fun p => (K.lookup p.2.1).isNone && (lamsOf K xs).all fun q => !decide (p.2.1 = q.2.1) || decide (p.2.2 = q.2.2)
theorem lamsOf_mem {K : PySem.W.Frag} {xs : List Str} {p : Addr × Addr × Str} (h : p ∈ lamsOf K xs) : ∃ x ∈ xs, PySem.W.tabIn K x = some (p.1, p.2.1) ∧ p.2.2 = lamQ x := by
  obtain ⟨x, hx, e⟩ := List.mem_filterMap.mp h
  obtain ⟨q, e1, rfl⟩ := map_some e
  exact ⟨x, hx, e1, rfl⟩
theorem lams_uq {K : PySem.W.Frag} {xs : List Str} (h : lamsB K xs = true) : ∀ p ∈ lamsOf K xs, ∀ q ∈ lamsOf K xs, p.2.1 = q.2.1 → p.2.2 = q.2.2 := by
  intro p hp q hq e
  unfold lamsB at h
  simp only [Bool.and_eq_true, List.all_eq_true, Bool.or_eq_true, Bool.not_eq_true', decide_eq_true_eq, decide_eq_false_iff_not] at h
  rcases (h.2 p hp).2 q hq with z | z
  · exact absurd e z
  · exact z
theorem lams_no {K : PySem.W.Frag} {xs : List Str} (h : lamsB K xs = true) : ∀ p ∈ lamsOf K xs, K.lookup p.2.1 = none := by
  intro p hp
  unfold lamsB at h
  simp only [Bool.and_eq_true, List.all_eq_true, Option.isNone_iff_eq_none] at h
  exact (h.2 p hp).1
theorem lam_at {K : PySem.W.Frag} {xs : List Str} {x : Str} {f : Addr} {oc : Value} {od : Option Addr} {osl : Array (Option Value)} {fd : FuncData} (h : lamsB K xs = true) (hx : x ∈ xs) (a : PySem.W.nsIn K mainGlobals x = some (some (.ref f))) (l : K.lookup f = some ⟨oc, od, .func fd, osl⟩) : LamAt (lamsOf K xs) x fd := by
  unfold lamsB at h
  simp only [Bool.and_eq_true, List.all_eq_true] at h
  have h1 := h.1 x hx
  cases ht : PySem.W.tabIn K x with
  | none => rw [ht] at h1; cases h1
  | some p =>
    refine ⟨p.1, p.2, ?_, List.mem_filterMap.mpr ⟨x, hx, by rw [ht]; rfl⟩⟩
    unfold PySem.W.tabIn at ht
    rw [a] at ht
    simp only [l] at ht
    split at ht
    · rename_i c hc
      split at ht
      · split at ht
        · cases ht
          exact hc
        · cases ht
      · cases ht
    · cases ht
/-- the module as the law finds it -/
structure ModOk (K : PySem.W.Frag) (mg : Str → Option Value) (G : GC) (L : List (Addr × Addr × Str)) (ds : List FD) : Prop where
  gf : G.fns = fnsOf ds 0
  few : ds.length < NOPI
  fn : ∀ d ∈ ds, FnScope d.N d.ps (defScope d.st) ∧ ∃ f fd, mg d.name = some (.ref f) ∧ L2.Fun K d.name d.name d.st f fd ∧ PySem.W.keepIn K (.ref f) = true ∧ Binds K fd d.ps [] ∧ (∀ ks np0 pm, (ks, np0, pm) ∈ d.kws → KwOk K fd d.ps ks np0 pm) ∧ (d.lam = true → LamAt L d.name fd) ∧ PySem.W.nsIn K mainGlobals d.name = some (some (.ref f))
  con : ∀ x d, G.con.lookup x = some d → ∃ u v, mg x = some u ∧ RelV v u ∧ ∀ F, Df K F v d
  blt : ∀ x ∈ G.blt, mg x = none
  hrd : ∀ x k, G.hrd.lookup x = some k → ∃ d ∈ ds, d.name = x ∧ cHrd G d = some k
  uq : ∀ p ∈ L, ∀ q ∈ L, p.2.1 = q.2.1 → p.2.2 = q.2.2
variable {T : List (Addr × Str)} {ec : Nat → Addr} {sub : Nat → Nat → Bool} {G : GC} {ds : List FD} {L : List (Addr × Addr × Str)}
theorem callF_at {T : List Fn} {n k : Nat} {fn : Fn} (h : T[k]? = some fn) (few : T.length < NOPI) (vs : List EV) (m : Mem) : callF T sub (n + 1) k vs m = if vs.length = fn.np then fin m.length (evSs (callF T sub n) sub fn.body (vs.map some ++ List.replicate (fn.nl - fn.np) none) m) else .bad := by
  have hk : k < NOPI := Nat.lt_trans (List.getElem?_eq_some_iff.mp h).1 few
  have h1 : ¬ BIG ≤ k := by unfold NOPI at hk; unfold BIG; omega
  have h2 : ¬ k = NOPI := Nat.ne_of_lt hk
  show (if BIG ≤ k then _ else if k = NOPI then _ else _) = _
  rw [if_neg h1, if_neg h2, h]
theorem callF_bad {T : List Fn} {n k : Nat} {fn : Fn} (h : T[k]? = some fn) (few : T.length < NOPI) : ∀ vs m, vs.length ≠ fn.np → callF T sub n k vs m = .bad := by
  intro vs m hl
  cases n with
  | zero => rfl
  | succ n => rw [callF_at h few, if_neg hl]
theorem callF_hi {T : List Fn} {n f : Nat} {vs : List EV} {m : Mem} (h : BIG ≤ f) : (callF T sub (n + 1)).c f vs m = (callF T sub n).c (f - BIG) vs m := if_pos h
theorem callF_nn {T : List Fn} {n f : Nat} {vs : List EV} {m : Mem} (h : ¬ BIG ≤ f) (h2 : f = NOPI) : (callF T sub (n + 1)).c f vs m = .ok (.d .none) m := (if_neg h).trans (if_pos h2)
theorem callF_no {T : List Fn} {n : Nat} {vs : List EV} {m : Mem} : (callF T sub (n + 1)).c NOPI vs m = .ok (.d .none) m := callF_nn (by decide) rfl
theorem big1 {f k b : Nat} (e : f = k + (b + b)) : b ≤ f ∧ b ≤ f - b ∧ f - b - b = k := by omega
theorem callF_lo {T : List Fn} {n k f : Nat} {vs : List EV} {m : Mem} (e : f = k + (BIG + BIG)) : (callF T sub (n + 2)).c f vs m = (callF T sub n).c k vs m := by
  obtain ⟨h1, h2, h3⟩ := big1 e
  exact (callF_hi h1).trans ((callF_hi h2).trans (congrArg (fun q => (callF T sub n).c q vs m) h3))
theorem callF_s {T : List Fn} : ∀ n, (callF T sub n).s = sub
  | 0 => rfl
  | _ + 1 => rfl
/-- two levels below there is room, or the call is of no use -/
theorem callF_low {T : List Fn} : ∀ n, (∀ m, (callF T sub n).c (BIG + BIG + NOPI) [] m = .bad) ∨ ∃ n', n = n' + 2 ∧ ∀ m, (callF T sub n).c (BIG + BIG + NOPI) [] m = .ok (.d .none) m
  | 0 => .inl fun m => rfl
  | 1 => .inl fun m => callF_hi (Nat.le_trans (Nat.le_add_right BIG BIG) (Nat.le_add_right _ _))
  | 2 => .inl fun m => callF_lo (Nat.add_comm _ _)
  | n + 3 => .inr ⟨n + 1, rfl, fun m => (callF_lo (Nat.add_comm _ _)).trans callF_no⟩
/-- all defs keep the promise at level n -/
def AllG (P : Program) (w : World) (K : PySem.W.Frag) (mg : Str → Option Value) (base : Heap) (T : List (Addr × Str)) (ec : Nat → Addr) (sub : Nat → Nat → Bool) (G : GC) (L : List (Addr × Addr × Str)) (ds : List FD) (n : Nat) : Prop :=
  ∀ (k : Nat) (d : FD) (f : Addr) (fd : FuncData), ds[k]? = some d → mg d.name = some (.ref f) → L2.Fun K d.name d.name d.st f fd → (d.lam = true → LamAt L d.name fd) → FnG P w K mg base n f fd d.ps (spC K T ec (callF (ds.map (cFn G)) sub n) k d.ps.length)
theorem fns_at (M : ModOk K mg G L ds) {n : Nat} (ih : AllG P w K mg base T ec sub G L ds n) : ∀ x k np kw, G.fns.lookup x = some (k, np, kw) → ∃ f fd ps, mg x = some (.ref f) ∧ PySem.W.keepIn K (.ref f) = true ∧ Binds K fd ps [] ∧ FnG P w K mg base n f fd ps (spC K T ec (callF (ds.map (cFn G)) sub n) k np) ∧ (∀ ks np0 pm, (ks, np0, pm) ∈ kw → KwOk K fd ps ks np0 pm) ∧ PySem.W.nsIn K mainGlobals x = some (some (.ref f)) := by
  intro x k' np kw e
  rw [M.gf] at e
  obtain ⟨i, d2, e1, e2, e3, e4, e5⟩ := fnsOf_ok e
  have e1 : k' = i := by omega
  subst e1 e3 e4 e5
  obtain ⟨_, f2, fd2, j1, j2, j3, j4, j5, j6⟩ := M.fn d2 (List.mem_of_getElem? e2)
  exact ⟨f2, fd2, d2.ps, j1, j3, j4, ih k' d2 f2 fd2 e2 j1 j2 j6.1, j5, j6.2⟩
theorem bad_at (M : ModOk K mg G L ds) (n : Nat) : ∀ x k np kw, G.fns.lookup x = some (k, np, kw) → ∀ vs m, vs.length ≠ np → callF (ds.map (cFn G)) sub n k vs m = .bad := by
  intro x k' np kw e
  rw [M.gf] at e
  obtain ⟨i, d2, e1, e2, e3, e4, e5⟩ := fnsOf_ok e
  have e1 : k' = i := by omega
  subst e1 e4
  exact callF_bad (fn := cFn G d2) (by rw [List.getElem?_map, e2]; rfl) (by rw [List.length_map]; exact M.few)
theorem low_lk {l : List (Str × Nat × Nat × List (List Str × Nat × List Nat))} {x : Str} {k np : Nat} {kw : List (List Str × Nat × List Nat)} (h : (l.map fun p => (p.1, p.2.1 + (BIG + BIG), p.2.2)).lookup x = some (k, np, kw)) : ∃ k', k = k' + (BIG + BIG) ∧ l.lookup x = some (k', np, kw) := by
  induction l with
  | nil => cases h
  | cons p l ih =>
    rw [List.map_cons, List.lookup_cons] at h
    rw [List.lookup_cons]
    obtain ⟨a, b, c, d⟩ := p
    dsimp only at h
    split at h
    · rename_i e
      cases h
      exact ⟨_, rfl, by rw [e]⟩
    · rename_i e
      obtain ⟨k', h1, h2⟩ := ih h
      exact ⟨k', h1, by rw [e]; exact h2⟩
/-- what a def's frame is, for all but the lambdas in it -/
theorem ctx_at (M : ModOk K mg G L ds) {n : Nat} (ih : AllG P w K mg base T ec sub G L ds n) {d : FD} (S : FnScope d.N d.ps (defScope d.st)) (f : Addr) (cdv : Value) (A : Around) (outer : List PySem.Env) (s : Shared) (H : Hp) (E : XK)
    (hr : Room n (A.deeper (envOfC d.name (defScope d.st) s.heap.objs.size f cdv))) (hg : A.guards = some []) {S' : SC} (hs : S'.sc = defScope d.st)
    (hrd : S'.lm = true → ∀ (pn : List (Addr × Obj)) (xe : Value → Shared → Prop) (W : WX) (x : Str) (k : HW × List (Nat × HX)) (j : Nat) (ps : Arguments) (body : Expr) (scope : Scope) (p lp q : Pos), G.hrd.lookup x = some k → glb S'.sc x = true → okNm x = true → lamOk S'.sc ps scope = true → Takes ((cxOf (L2.CX P w) P w K mg base d.N d.name (defScope d.st) f cdv A outer s H E).tr pn xe) W →
      PE ((cxOf (L2.CX P w) P w K mg base d.N d.name (defScope d.st) f cdv A outer s H E).tr pn xe) (.Call (.Name x p) [.Lambda ps body scope lp] [] q) (tE ((cxOf (L2.CX P w) P w K mg base d.N d.name (defScope d.st) f cdv A outer s H E).tr pn xe) T ec (callF (ds.map (cFn G)) sub n) W (.heard k.1 k.2 (cE0 G.low d.N j ⟨scope, [], false⟩ body)))) :
    CtxOk T ec (callF (ds.map (cFn G)) sub n) G d.N n (cxOf (L2.CX P w) P w K mg base d.N d.name (defScope d.st) f cdv A outer s H E) S' := by
  refine ⟨hs.symm, rfl, S.nd, fun _ _ => rfl, rfl, ?_, hg, hr, fns_at M ih, bad_at M n, M.con, M.blt, hrd⟩
  have := hr.un
  show (A.deeper (envOfC d.name (defScope d.st) s.heap.objs.size f cdv)).units + 65 < cLine
  omega
end
end PV
end

section
set_option Elab.async false
set_option linter.all false
set_option maxRecDepth 100000
/-! PV16: defs keep the evaluator's promise; the law's call. -/
namespace PV
open PySem PySem.Spec PyProof.Rows L2
section
variable {ec : Nat → Addr} {sub : Nat → Nat → Bool} {G : GC} {ds : List FD} {L : List (Addr × Addr × Str)}
theorem mem_tabT {c P : Addr} {q : Str} (h : (c, P, q) ∈ L) : (P, q) ∈ tabT L := List.mem_map.mpr ⟨_, h, rfl⟩
theorem noPar_eq {ps : Arguments} (h : noPar ps = true) : ps = ⟨[], [], none, [], [], none, []⟩ := by
  unfold noPar at h
  split at h
  · rfl
  · cases h
theorem spC_eq {K : PySem.W.Frag} {T : List (Addr × Str)} {cf cf' : CF} {k k' np : Nat} (h : ∀ vs m, cf.c k vs m = cf'.c k' vs m) : spC K T ec cf k np = spC K T ec cf' k' np := by
  funext vs H Q E
  unfold spC
  simp only [h]
theorem hx_nc {S : SC} {m : Str} {e : Expr} {h : HX} (hh : cHX G S m e = some h) : isComp e = false := by
  cases e <;> first | rfl | (have hh : none = some h := hh; cases hh)
theorem hds_are {X : Cx} {T : List (Addr × Str)} {cf : CF} {n it : Nat} {g : Addr} {told : Str} {d : FD} (M : ModOk X.K X.mg G L ds) (Cl : ClsOk X.prog ec sub G X.K X.mg)
    (HC : ∀ (s : Shared) (H : Hp) (cdv : Value), Room (n + 1) (X.A.deeper (envOfC d.name (defScope d.st) s.heap.objs.size g cdv)) → CtxOk T ec cf G d.N n (cxOf (L2.CX X.prog X.w) X.prog X.w X.K X.mg X.base d.N d.name (defScope d.st) g cdv X.A X.stack s H fun _ _ _ => False) (scOf d)) {h₀ : ExceptHandler} {hds : List ExceptHandler} {l : List HC3} (e : allSome ((h₀ :: hds).map (cH1 G d told it)) = some l) :
    G.cls ≠ [] ∧ HdsAre X.mg ec d.N (defScope d.st) told it (fun ie hx he => ∀ (s : Shared) (H : Hp) (cdv : Value) (ad : Addr) (oe : Obj) (cls : Value) (dd : Option Addr) (pn : List (Addr × Obj)), X.A.guards = some [] → Room (n + 1) (X.A.deeper (envOfC d.name (defScope d.st) s.heap.objs.size g cdv)) → Zc cls dd oe → (∃ vs, oe.data = .fields vs) →
      PE ((cxOf (L2.CX X.prog X.w) X.prog X.w X.K X.mg X.base d.N d.name (defScope d.st) g cdv X.A X.stack s H (fun _ _ _ => False)).suite ad ((ad, oe) :: pn)) he (tHv X T ec sub ie hx ad cls dd)) (h₀ :: hds) l := by
  have one : ∀ {h : ExceptHandler} {p : HC3}, cH1 G d told it h = some p → G.cls ≠ [] ∧ ∀ {hs : List ExceptHandler} {ls : List HC3}, HdsAre X.mg ec d.N (defScope d.st) told it (fun ie hx he => ∀ (s : Shared) (H : Hp) (cdv : Value) (ad : Addr) (oe : Obj) (cls : Value) (dd : Option Addr) (pn : List (Addr × Obj)), X.A.guards = some [] → Room (n + 1) (X.A.deeper (envOfC d.name (defScope d.st) s.heap.objs.size g cdv)) → Zc cls dd oe → (∃ vs, oe.data = .fields vs) →
      PE ((cxOf (L2.CX X.prog X.w) X.prog X.w X.K X.mg X.base d.N d.name (defScope d.st) g cdv X.A X.stack s H (fun _ _ _ => False)).suite ad ((ad, oe) :: pn)) he (tHv X T ec sub ie hx ad cls dd)) hs ls →
      HdsAre X.mg ec d.N (defScope d.st) told it (fun ie hx he => ∀ (s : Shared) (H : Hp) (cdv : Value) (ad : Addr) (oe : Obj) (cls : Value) (dd : Option Addr) (pn : List (Addr × Obj)), X.A.guards = some [] → Room (n + 1) (X.A.deeper (envOfC d.name (defScope d.st) s.heap.objs.size g cdv)) → Zc cls dd oe → (∃ vs, oe.data = .fields vs) →
      PE ((cxOf (L2.CX X.prog X.w) X.prog X.w X.K X.mg X.base d.N d.name (defScope d.st) g cdv X.A X.stack s H (fun _ _ _ => False)).suite ad ((ad, oe) :: pn)) he (tHv X T ec sub ie hx ad cls dd)) (h :: hs) (p :: ls) := by
    intro h p hh
    unfold cH1 at hh
    split at hh
    · rename_i cx q6 en t3 q7 he q8 q9
      split at hh
      · rename_i hb
        simp only [Bool.and_eq_true, decide_eq_true_eq] at hb
        obtain ⟨⟨⟨b2, b7⟩, b8⟩, b9⟩ := hb
        subst b2
        split at hh
        · rename_i j0 ie hx ecls eie ehx
          split at hh
          · rename_i hi
            cases hh
            obtain ⟨x1, x2, x3⟩ := okNm_ok b9
            have gcx : (defScope d.st).names.lookup cx = some .globalImplicit := by
              unfold glb at b8
              split at b8
              · assumption
              · cases b8
            exact ⟨lk_ne ecls, fun r => .cons (ixOf_get eie) b7 (of_decide_eq_true hi) gcx x1 (Cl.at_ _ _ ecls) (fun s H cdv ad oe cls dd pn g1 r1 z f => (hx_ok (HC s H cdv r1) Cl eie ehx).2 ad oe cls dd pn z f) (fun env => swapsS (hx_nc ehx)) (fun env => rfl) r⟩
          · cases hh
        · cases hh
      · cases hh
    · cases hh
  have all : ∀ {hs : List ExceptHandler} {ls : List HC3}, allSome (hs.map (cH1 G d told it)) = some ls → HdsAre X.mg ec d.N (defScope d.st) told it (fun ie hx he => ∀ (s : Shared) (H : Hp) (cdv : Value) (ad : Addr) (oe : Obj) (cls : Value) (dd : Option Addr) (pn : List (Addr × Obj)), X.A.guards = some [] → Room (n + 1) (X.A.deeper (envOfC d.name (defScope d.st) s.heap.objs.size g cdv)) → Zc cls dd oe → (∃ vs, oe.data = .fields vs) →
      PE ((cxOf (L2.CX X.prog X.w) X.prog X.w X.K X.mg X.base d.N d.name (defScope d.st) g cdv X.A X.stack s H (fun _ _ _ => False)).suite ad ((ad, oe) :: pn)) he (tHv X T ec sub ie hx ad cls dd)) hs ls := by
    intro hs
    induction hs with
    | nil =>
      intro ls h
      have h : some [] = some ls := h
      cases h
      exact .nil
    | cons h hs ih =>
      intro ls e
      rw [List.map_cons] at e
      cases e1 : cH1 G d told it h with
      | none => rw [e1] at e; cases e
      | some p =>
        rw [e1] at e
        obtain ⟨l', e2, rfl⟩ := map_some (show (allSome (hs.map (cH1 G d told it))).map (p :: ·) = some ls from e)
        exact (one e1).2 (ih e2)
  refine ⟨?_, all e⟩
  rw [List.map_cons] at e
  cases e1 : cH1 G d told it h₀ with
  | none => rw [e1] at e; cases e
  | some p => exact (one e1).1
theorem heard_ok {X : Cx} {S : SC} {n : Nat} {N : List Str} {W : WX} (M : ModOk X.K X.mg G L ds) (Cl : ClsOk X.prog ec sub G X.K X.mg) (ih : AllG X.prog X.w X.K X.mg X.base (tabT L) ec sub G L ds n)
    (hsc : X.env.scope = S.sc) (hN : X.N = N) (nd : N.Nodup) (room : Room (n + 2) X.A) (gd : X.A.guards = some []) (TB : ∀ p ∈ L, LamX.TabB X.base X.mg p.1 p.2.1) {c Pt : Addr} (hc : X.env.code = .ref c) (hm : (c, Pt, X.env.qual ++ "<lambda>") ∈ L) (hu : ∀ p ∈ L, p.2.1 = Pt → p.2.2 = X.env.qual ++ "<lambda>")
    {x : Str} {k : HW × List (Nat × HX)} {j : Nat} {ps : Arguments} {body : Expr} {scope : Scope} {p lp q : Pos} (hk : G.hrd.lookup x = some k) (hg : glb S.sc x = true) (ok : okNm x = true) (hl : lamOk S.sc ps scope = true)
    (low : ∀ m, (callF (ds.map (cFn G)) sub (n + 2)).c (BIG + BIG + NOPI) [] m = .ok (.d .none) m) :
    PE X (.Call (.Name x p) [.Lambda ps body scope lp] [] q) (tE X (tabT L) ec (callF (ds.map (cFn G)) sub (n + 2)) W (.heard k.1 k.2 (cE0 G.low N j ⟨scope, [], false⟩ body))) := by
  obtain ⟨d, hd, rfl, hh⟩ := M.hrd x k hk
  obtain ⟨Sc, g, fd, m1, m2, m3, m4, _, _⟩ := M.fn d hd
  unfold lamOk at hl
  simp only [Bool.and_eq_true] at hl
  obtain ⟨l1, l2⟩ := hl
  have l1 := noPar_eq l1
  subst l1
  have lam : LamX.LamS X.env.scope scope := LamX.lamS_by (by rw [hsc]; exact l2)
  have hgx : Gl X d.name := by
    unfold glb at hg
    unfold Gl Env.kindOf
    rw [hsc]
    split at hg
    · assumption
    · cases hg
  obtain ⟨o1, o2, o3⟩ := okNm_ok ok
  unfold cHrd at hh
  split at hh
  · rename_i a told q1 i0 q2 q3 t2 q4 val q5 h₀ hds q10 t4 q11 q12 hps hst
    split at hh
    · rename_i hb
      simp only [Bool.and_eq_true, decide_eq_true_eq] at hb
      obtain ⟨⟨⟨⟨⟨⟨b1, b3⟩, b4⟩, b5⟩, b6⟩, b10⟩, b11⟩ := hb
      subst b1 b3
      split at hh
      · rename_i w it ew eit
        split at hh
        · rename_i hi
          have hi := of_decide_eq_true hi
          obtain ⟨l, el, hh⟩ := map_some hh
          subst hh
          unfold isLoc at b6
          simp only [Bool.and_eq_true, decide_eq_true_eq] at b6
          obtain ⟨a1, a2, a3⟩ := okNm_ok b5
          obtain ⟨t1, t2', t3'⟩ := okNm_ok b6.2
          obtain ⟨w1, w2, u, w3⟩ := cW_ok ew
          have Sc' : FnScope d.N [a] (defScope d.st) := by rw [← hps]; exact Sc
          have m4' : Binds X.K fd [a] [] := by rw [← hps]; exact m4
          have nl : (scOf d).lm = false := by
            show d.lam = false
            revert b10
            cases d.lam <;> simp
          have vis' : Vis (defScope d.st) a := by
            unfold vis at b4
            unfold Vis
            split at b4
            · exact .inl (by assumption)
            · exact .inr (.inl (by assumption))
            · exact .inr (.inr (by assumption))
            · cases b4
          have HC : ∀ (s : Shared) (H : Hp) (cdv : Value), Room (n + 1) (X.A.deeper (envOfC d.name (defScope d.st) s.heap.objs.size g cdv)) → CtxOk (tabT L) ec (callF (ds.map (cFn G)) sub n) G d.N n (cxOf (L2.CX X.prog X.w) X.prog X.w X.K X.mg X.base d.N d.name (defScope d.st) g cdv X.A X.stack s H fun _ _ _ => False) (scOf d) :=
            fun s H cdv r => ctx_at M ih Sc g cdv X.A X.stack s H _ (r.mono (Nat.le_succ n)) gd rfl fun z => by rw [nl] at z; cases z
          obtain ⟨hcl, are⟩ := hds_are (X := X) (T := tabT L) (n := n) (g := g) M Cl HC el
          refine s_heard (x := d.name) (it := it) (n := n) (u := u) (l := l) m2 Sc' m1 m3 m4' hgx o1 hst (ixOf_get b11) vis' a1 a2 (ixOf_get eit) b6.1 t1 t2' hi w2 w3 are (fun env => swapsS w1) (fun env => rfl)
            (Cl.all hcl).1 (TB _ hm) hc (mem_tabT hm) (fun p hp e => ?_) lam rfl (fun _ _ _ _ _ => rfl) room gd (fun A outer s H E f c' g1 r1 => ?_) low (callF_s _)
          · obtain ⟨p0, hp0, rfl⟩ := List.mem_map.mp hp
            exact hu p0 hp0 e
          · refine (cE0_ok (T := tabT L) (ec := ec) (cf := callF (ds.map (cFn G)) sub (n + 2)) (G := G.low) (N := N) (n := n) j (LamX.lamCx X A outer s H E scope f c') ⟨scope, [], false⟩ ?_ _ (takes_of rfl rfl rfl rfl) body).1
            refine ⟨rfl, hN, nd, (fun _ h => by cases h), rfl, ?_, g1, r1, fun x k np kw e => ?_, fun x k np kw e => ?_, M.con, M.blt, fun z => by cases z⟩
            · have := r1.un
              show (A.deeper (LamX.lamEnv X scope s.heap.objs.size f c')).units + 65 < cLine
              omega
            · obtain ⟨k', ek, e2⟩ := low_lk e
              obtain ⟨f2, fd2, ps2, j1, j2, j3, j4, j5⟩ := fns_at M ih x k' np kw e2
              refine ⟨f2, fd2, ps2, j1, j2, j3, ?_, j5⟩
              have hsp : spC X.K (tabT L) ec (callF (ds.map (cFn G)) sub (n + 2)) k np = spC X.K (tabT L) ec (callF (ds.map (cFn G)) sub n) k' np := spC_eq fun vs m => callF_lo ek
              rw [← hsp] at j4
              exact j4
            · obtain ⟨k', ek, e2⟩ := low_lk e
              intro vs m hne
              rw [callF_lo ek]
              exact bad_at M n x k' np kw e2 vs m hne
        · cases hh
      · cases hh
    · cases hh
  · cases hh
end
end PV
end

section
set_option Elab.async false
set_option linter.all false
set_option maxRecDepth 100000
/-! PV16: defs keep the evaluator's promise; the law's call. -/
namespace PV
open PySem PySem.Spec PyProof.Rows L2
section
variable {P : Program} {w : World} {K : PySem.W.Frag} {mg : Str → Option Value} {base : Heap} {ec : Nat → Addr} {sub : Nat → Nat → Bool} {G : GC} {ds : List FD} {L : List (Addr × Addr × Str)}
theorem defs_ok (M : ModOk K mg G L ds) (Cl : ClsOk P ec sub G K mg) (TB : ∀ p ∈ L, LamX.TabB base mg p.1 p.2.1) : ∀ n : Nat, AllG P w K mg base (tabT L) ec sub G L ds n := by
  intro n
  induction n using Nat.strongRecOn with
  | ind n IH => ?_
  cases n with
  | zero =>
    intro k d f fd hd hf hF _
    refine ⟨fun vs H Q E h => h.1, fun A outer s H args us vs Q E _ _ _ _ _ h => ?_⟩
    obtain ⟨_, F, ρ, m, as, _, _, P⟩ := h
    exact False.elim P
  | succ n =>
    have ih := IH n (Nat.lt_succ_self n)
    intro k d f fd hd hf hF hlam
    have hmem := List.mem_of_getElem? hd
    obtain ⟨S, f', fd', q1, q2, q3, q4, q5, _⟩ := M.fn d hmem
    have ef : f = f' := by rw [hf] at q1; injection q1 with z; injection z
    subst ef
    have few : (ds.map (cFn G)).length < NOPI := by rw [List.length_map]; exact M.few
    refine fnG_of hF S (fun vs H Q E h => h.1) fun cdv A outer s H vs Q E hcode hr hg ⟨hl, F, ρ, m, as, R, rv, Pst⟩ => ?_
    have C : CtxOk (tabT L) ec (callF (ds.map (cFn G)) sub n) G d.N n (cxOf (L2.CX P w) P w K mg base d.N d.name (defScope d.st) f cdv A outer s H E) (scOf d) := by
      refine ctx_at M ih S f cdv A outer s H E hr hg rfl fun hlm pn xe W x k j ps body scope p lp q h1 h2 h3 h4 tk => ?_
      obtain ⟨c, Pt, e1, e2⟩ := hlam hlm
      rcases callF_low (T := ds.map (cFn G)) (sub := sub) n with low | ⟨n', e, low⟩
      · refine ⟨fun pins s σ H Q I ⟨F, ρ, m, env, R, E, P0⟩ => ?_⟩
        simp only [evE, low, Res.bind] at P0
        exact False.elim P0
      · subst e
        have ih2 := IH n' (by omega)
        have hu : ∀ p ∈ L, p.2.1 = Pt → p.2.2 = lamQ d.name := fun p hp e => M.uq p hp (c, Pt, lamQ d.name) e2 e
        refine heard_ok (X := (cxOf (L2.CX P w) P w K mg base d.N d.name (defScope d.st) f cdv A outer s H E).tr pn xe) (S := scOf d) (c := c) (Pt := Pt) M Cl ih2 rfl rfl S.nd hr hg TB ?_ e2 hu h1 h2 h3 h4 low
        show cdv = .ref c
        rw [← hcode]
        exact e1
    have tk : Takes (cxOf (L2.CX P w) P w K mg base d.N d.name (defScope d.st) f cdv A outer s H E) (fun cls dd _ H' => E cls dd H') := takes_of rfl rfl rfl rfl
    have hp : PassesOwn (model P w) (cxOf (L2.CX P w) P w K mg base d.N d.name (defScope d.st) f cdv A outer s H E).A (cxOf (L2.CX P w) P w K mg base d.N d.name (defScope d.st) f cdv A outer s H E).env (cxOf (L2.CX P w) P w K mg base d.N d.name (defScope d.st) f cdv A outer s H E).xe := passes_of rfl
    refine ⟨_, cSs_ok (sub := sub) (mus := d.mus) C Cl tk hp rfl rfl S.kind (defBody d.st), ?_⟩
    have hal : as.length = d.ps.length := by rw [← rv.len]; exact hl
    refine ⟨F, ρ, m, as.map some ++ List.replicate (d.N.length - d.ps.length) none, R, ?_, ?_⟩
    · refine ⟨?_, fun i y hy => ?_⟩
      · unfold L2.start
        simp [hl, hal]
      · by_cases hi : i < as.length
        · rw [List.getElem?_append_left (by simpa using hi), List.getElem?_map] at hy
          obtain ⟨z, e1, e2⟩ := map_some hy
          cases e2
          obtain ⟨v, e3, e4⟩ := RepVs.get rv e1
          refine ⟨v, ?_, e4⟩
          unfold L2.start
          rw [List.getElem?_append_left (by rw [List.length_map, rv.len]; exact hi), List.getElem?_map, e3]
          rfl
        · rw [List.getElem?_append_right (by simpa using Nat.le_of_not_lt hi), List.getElem?_replicate] at hy
          split at hy <;> cases hy
    · have hT : (ds.map (cFn G))[k]? = some (cFn G d) := by rw [List.getElem?_map, hd]; rfl
      rw [callF_at hT few] at Pst
      rw [if_pos (show as.length = (cFn G d).np from hal)] at Pst
      have hbody : (cFn G d).body = cSs G d.N d.mus (scOf d) (defBody d.st) := rfl
      have henv : as.map some ++ List.replicate ((cFn G d).nl - (cFn G d).np) none = as.map some ++ List.replicate (d.N.length - d.ps.length) (none : Option EV) := rfl
      rw [hbody, henv] at Pst
      have hml : ρ.length = m.length := R.len
      cases r : evSs (callF (ds.map (cFn G)) sub n) sub (cSs G d.N d.mus (scOf d) (defBody d.st)) (as.map some ++ List.replicate (d.N.length - d.ps.length) none) m with
      | bad => rw [r] at Pst; exact Pst
      | bk _ _ => rw [r] at Pst; exact False.elim Pst
      | ct _ _ => rw [r] at Pst; exact False.elim Pst
      | nx env1 m1 =>
        rw [r] at Pst
        intro F' ρ' H' σ' e R' E'
        have R2 := R'.take ρ.length
        rw [hml] at R2
        have e2 := e.take
        rw [hml] at e2
        exact Pst F' _ H' .non e2 R2 (show Df K F' _ _ from .non)
      | rt v m1 =>
        rw [r] at Pst
        intro F' ρ' H' x e R' rx
        cases v with
        | d y =>
          have R2 := R'.take ρ.length
          rw [hml] at R2
          have e2 := e.take
          rw [hml] at e2
          exact Pst F' _ H' x e2 R2 rx
        | loc j =>
          unfold fin back at Pst
          dsimp only at Pst
          cases hf : frzT m1 m.length j with
          | none => rw [hf] at Pst; exact Pst F' ρ' H' x e R' rx
          | some p =>
            rw [hf] at Pst
            obtain ⟨F2, w1, w2, w3⟩ := frz_tup e R' hml rx hf
            exact Pst F2 _ H' x w1 w2 w3
        | exc _ _ => exact False.elim Pst
        | ro _ => exact False.elim Pst
      | ex c fs env1 m1 =>
        rw [r] at Pst
        intro F' ρ' H' σ' cls dd e R' E' x
        have R2 := R'.take ρ.length
        rw [hml] at R2
        have e2 := e.take
        rw [hml] at e2
        exact Pst F' _ H' cls dd e2 R2 x
/-! ### the law's call, the script in its hand -/
def rowD (ns : List Int) : List EV := [.ro (ns.map .int)]
theorem dfs_row {F : Hp} : ∀ ns : List Int, Dfs K F (ns.map V.int) (ns.map PyData.int)
  | [] => .nil
  | n :: ns => .cons (.int n) (dfs_row ns)
theorem rep0 {F H : Hp} (h : Same F H) (nt : ∀ a ps, F a ≠ some (.tbl ps)) (t : LamX.Tabs T H) : Rep K T F [] [] H := ⟨h, rfl, fun n a o h _ => (by simp at h), fun a h => (by cases h), List.nodup_nil, fun n o h => (by simp at h), t, nt⟩
structure TabAt (K : PySem.W.Frag) (h : Heap) (L : List (Addr × Addr × Str)) : Prop where
  at_ : ∀ p ∈ L, h.get? p.2.1 = some { cls := .none, data := .fields #[] }
  no : ∀ p ∈ L, K.lookup p.2.1 = none
  hd : ∀ p ∈ L, PySem.W.CodeHd h p.1 p.2.1
theorem tabs_of {p : Program} {loose : List Str} {mean : ExcName → Option Value} {mg mb : Str → Option Value} {h : Heap} {xs : List Str} (T : Top p loose mean mg mb h) (X : K.In h) (hB : lamsB K xs = true) (hR : (xs.all fun x => ((recsOf p).find? (fun e => e.name == x)).isSome) = true) : TabAt K h (lamsOf K xs) := by
  have key : ∀ q ∈ lamsOf K xs, PySem.W.CodeHd h q.1 q.2.1 ∧ h.get? q.2.1 = some (PySem.W.tabObj #[]) := fun q hq => by
    obtain ⟨x, hx, e, _⟩ := lamsOf_mem hq
    have := List.all_eq_true.mp hR x hx
    obtain ⟨d, hd⟩ := Option.isSome_iff_exists.mp this
    exact PySem.W.tab_of T X hd e
  exact ⟨fun q hq => (key q hq).2, lams_no hB, fun q hq => (key q hq).1⟩
/-- from the evaluator's answer to what the row asks of the call -/
theorem lawG {L : List (Addr × Addr × Str)} {mb : Str → Option Value} {n k : Nat} {fa a : Addr} {fd : FuncData} {x : Str} {s : Shared} {vs : List Value} {ns : List Int} {cf : CF}
    (inK : K.In s.heap) (hg : s.heap.Ns mainGlobals mg) (hb : s.heap.Ns builtinsNs mb) (boot : ∀ y : Str, y ≠ "__name__" → mb y = bootBuiltins y) (lim : s.heap.NoLimit) (gens : s.gens = #[])
    (TT : TabAt K s.heap L) (hbm : ∃ (bm : Addr) (ob : Obj), mg "__builtins__" = some (.ref bm) ∧ bm ≠ builtinsNs ∧ s.heap.get? bm = some ob ∧ ob.cls = .type "module" ∧ ob.dict = some builtinsNs ∧ ob.data = .plain)
    (script : s.heap.get? a = some { cls := .type "list", data := .seq vs.toArray }) (hni : IntsAre vs ns) (few : ns.length ≤ LIM) (room : Room n callerA)
    (prom : ∀ base : Heap, K.In base → base.Ns mainGlobals mg → (∀ p ∈ L, LamX.TabB base mg p.1 p.2.1) → FnG P w K mg base n fa fd [x] (spC K (tabT L) ec cf k 1)) (bnd : Binds K fd [x] [])
    (ans : cf k (rowD ns) [] = .ok (.d (.bool true)) []) :
    codeAny (model P w) callerA (.call (.ref fa) ⟨[.ref a], []⟩) (fun r s' => r = .ok (.ret (.bool true)) ∧ OldK s.heap s'.heap ∧ s'.os = s.os ∧ AllBare s'.gens) s := by
  have few' : ns.length ≤ sizeLine := by rw [← lim_eq]; exact few
  have rvs := vals_ints hni
  have nvs := hni.length
  let cs := L.map fun p => p.2.1
  have isT : ∀ b, b ∈ cs → s.heap.get? b = some { cls := .none, data := .fields #[] } := fun b hb => by
    obtain ⟨p, hp, e⟩ := List.mem_map.mp hb
    rw [← e]
    exact TT.at_ p hp
  have noK : ∀ b, b ∈ cs → K.lookup b = none := fun b hb => by
    obtain ⟨p, hp, e⟩ := List.mem_map.mp hb
    rw [← e]
    exact TT.no p hp
  have aT : a ∉ cs := fun z => by
    have q := isT a z
    rw [script] at q
    have z' : Data.seq vs.toArray _ = Data.fields #[] := congrArg Obj.data (Option.some.inj q)
    cases z'
  -- the heap as it is told: H knows at most the script and the tables
  have go : ∀ H : Hp, (∀ b, b ≠ a → b ∉ cs → H b = none) → (∀ b, b ∈ cs → H b = some (.tbl #[])) → (H a = none ∨ (K.lookup a = none ∧ ∃ ob xs, H a = some (.frz ob (.lst xs)))) → SqL K H a (ns.map V.int) → HOk P w H s.heap →
      codeAny (model P w) callerA (.call (.ref fa) ⟨[.ref a], []⟩) (fun r s' => r = .ok (.ret (.bool true)) ∧ OldK s.heap s'.heap ∧ s'.os = s.os ∧ AllBare s'.gens) s := by
    intro H others tabs atA seq ok
    have seen : ∀ {b : Addr} {o : Obj}, s.heap.get? b = some o → H b = none → (hidT s.heap H).get? b = some o := fun h1 h2 => hidT_get h1 h2
    -- what is neither a sequence nor an empty record is not known to H
    have noD : ∀ {b : Addr} {o : Obj}, s.heap.get? b = some o → (∀ vs n, o.data ≠ .seq vs n) → o.data ≠ .fields #[] → H b = none := fun {b o} e h1 h2 => by
      refine others b (fun z => ?_) fun z => ?_
      · rw [z, script] at e
        cases e
        exact h1 _ _ rfl
      · rw [isT b z] at e
        cases e
        exact h2 rfl
    have noDict : ∀ {b : Addr} {o : Obj} {es : Array DictEntry} {ep : Nat}, s.heap.get? b = some o → o.data = .dict es ep → H b = none := fun {b o es ep} e d =>
      noD e (fun vs n z => by rw [d] at z; cases z) (fun z => by rw [d] at z; cases z)
    have nsOf : ∀ {b : Addr} {m : Str → Option Value}, s.heap.Ns b m → (hidT s.heap H).Ns b m := fun {b m} ⟨o, es, ep, e, d, rest⟩ => ⟨o, es, ep, seen e (noDict e d), d, rest⟩
    have kin : K.In (hidT s.heap H) := fun b o e => by
      refine seen (inK b o e) ?_
      by_cases hba : b = a
      · subst hba
        rcases atA with z | ⟨z, _⟩
        · exact z
        · rw [z] at e; cases e
      · exact others b hba fun z => by rw [noK b z] at e; cases e
    obtain ⟨mc, lim1, lim2⟩ := id lim
    have md : Mod K mg (hidT s.heap H) := ⟨kin, nsOf hg, ⟨mb, nsOf hb, boot⟩, ⟨mc, nsOf lim1, lim2⟩⟩
    have TB : ∀ p ∈ L, LamX.TabB (hidT s.heap H) mg p.1 p.2.1 := fun p hp => by
      have hTp := TT.at_ p hp
      refine ⟨?_, ?_, fun z => ?_⟩
      · obtain ⟨o, us, file, tf, flags, tg, inF, text, tt, e1, r1, r2, r3, r4, r5, r6, r7, r8, hne⟩ := TT.hd p hp
        refine ⟨o, us, file, tf, flags, tg, inF, text, tt, seen e1 (noD e1 (fun vs n z => ?_) fun z => ?_), r1, r2, r3, r4, r5, r6, r7, r8, hne⟩
        · rw [r2] at z
          cases z
        · rw [r2] at z
          cases z
          simp at r3
      · obtain ⟨bm, ob, b1, b2, b3, b4, b5, b6⟩ := hbm
        have nG : bm ≠ mainGlobals := fun q => by
          obtain ⟨o, es, ep, e, hd, _⟩ := hg
          rw [q, e] at b3
          cases b3
          rw [hd] at b6
          cases b6
        have nP : bm ≠ p.2.1 := fun q => by
          rw [q, hTp] at b3
          cases b3
          cases b6
        exact ⟨bm, ob, b1, b2, nG, nP, seen b3 (noD b3 (fun vs n z => by rw [b6] at z; cases z) fun z => by rw [b6] at z; cases z), b4, b5, b6⟩
      · obtain ⟨o, es, ep, e, hd, _⟩ := hg
        rw [z, hTp] at e
        cases e
        cases hd
    have ent : Env0 P w K mg (hidT s.heap H) callerA [] s H := ⟨rfl, md, (fun _ _ e => of_hidT e), Nat.le_of_eq (hidT_size _ _), trivial, (fun _ hb' => nomatch hb'), ok, AllBare.of_eq gens⟩
    have tb0 : LamX.Tabs (tabT L) H := fun q hq => by
      obtain ⟨p, hp, rfl⟩ := List.mem_map.mp hq
      exact LamX.TabS.nil (tabs _ (List.mem_map.mpr ⟨p, hp, rfl⟩))
    have want : spC K (tabT L) ec cf k 1 [.ref a] H (fun v _ => v = .bl true) fun _ _ _ => False := by
      have seqF : SqL K (fun b => if b ∈ cs then none else H b) a (ns.map V.int) := by
        rcases seq with (z | ⟨o, z⟩) | z
        · exact .inl (.inl ((if_neg aT).trans z))
        · exact .inl (.inr ⟨o, (if_neg aT).trans z⟩)
        · exact .inr z
      refine ⟨rfl, fun b => if b ∈ cs then none else H b, [], [], rowD ns, rep0 (fun b u e => ?_) (fun b ps e => ?_) tb0, .cons ⟨by simpa using few, a, ns.map V.int, rfl, seqF, dfs_row ns⟩ .nil, ?_⟩
      · by_cases hb : b ∈ cs
        · have e := (if_pos hb).symm.trans e
          cases e
        · exact (if_neg hb).symm.trans e
      · by_cases hb : b ∈ cs
        · have e := (if_pos hb).symm.trans e
          cases e
        · have e := (if_neg hb).symm.trans e
          by_cases hba : b = a
          · rw [hba] at e
            rcases atA with z | ⟨_, ob, xs, z⟩ <;> rw [z] at e <;> cases e
          · rw [others b hba hb] at e
            cases e
      rw [ans]
      intro F' ρ' H' v _ _ h
      have h : Df K F' v (.bool true) := h
      cases h
      rfl
    have called := (prom _ kin (nsOf hg) TB).run callerA [] s H ⟨[.ref a], []⟩ [.ref a] [.ref a] _ _ room rfl ent (bnd s [.ref a] inK rfl) (.cons rfl .nil) want
    refine codeAny_mono called fun r s' told => ?_
    match r, told with
    | .ok (.ret u), ⟨v, H', os, bare, un, ok', rv, hv⟩ =>
      have hv : v = .bl true := hv
      subst hv
      have hu : u = Value.bool true := rv
      subst hu
      have key : ∀ b o, b ∉ cs → s.heap.get? b = some o → s'.heap.get? b = some o := fun b o nb e => by
        have free : H b = none → s'.heap.get? b = some o := fun z => un.keep b o e z (fun h => by cases h) (by simp)
        by_cases hba : b = a
        · subst hba
          rcases atA with z | ⟨_, ob, xs, z⟩
          · exact free z
          · have z' := un.frzs b ob _ z
            obtain ⟨g1, _⟩ := ok b _ z
            obtain ⟨g2, _⟩ := ok' b _ z'
            rw [e] at g1
            cases g1
            exact g2
        · exact free (others b hba nb)
      have grown : ∀ p ∈ L, ∃ more : Array Value, s'.heap.get? p.2.1 = some { cls := .none, data := .fields more } := fun p hp => by
        obtain ⟨more, z⟩ := un.tbls p.2.1 #[] (tabs _ (List.mem_map.mpr ⟨p, hp, rfl⟩))
        exact ⟨_, ok' p.2.1 _ z⟩
      refine ⟨rfl, ⟨fun b o e => ?_, fun b o e => ?_⟩, os, bare⟩
      · by_cases hb : b ∈ cs
        · obtain ⟨p, hp, ep⟩ := List.mem_map.mp hb
          obtain ⟨more, hm⟩ := grown p hp
          rw [← ep] at e ⊢
          rw [TT.at_ p hp] at e
          cases e
          exact .inr (.inl ⟨((TT.hd p hp).tab (TT.at_ p hp)).isCodeTable, rfl, #[], more, rfl, by rw [Array.empty_append]; exact hm⟩)
        · exact .inl (key b o hb e)
      · by_cases hb : b ∈ cs
        · obtain ⟨p, hp, ep⟩ := List.mem_map.mp hb
          obtain ⟨more, hm⟩ := grown p hp
          rw [← ep]
          exact ⟨_, hm⟩
        · exact ⟨o, key b o hb e⟩
    | .error e, ⟨_, _, _, _, _, _, _, _, _, _, _, _, no⟩ => exact no.elim
  have tabOk : ∀ b, b ∈ cs → ObjOk P w (fun b => if b ∈ cs then some (HO.tbl #[]) else none) s.heap b (.tbl #[]) := fun b hb => isT b hb
  cases hk : K.lookup a with
  | some o =>
    have same := inK a o hk
    rw [script] at same
    cases same
    refine go (fun b => if b ∈ cs then some (.tbl #[]) else none) (fun b _ nb => if_neg nb) (fun b hb => if_pos hb) (.inl (if_neg aT)) (.inr ⟨_, vs.toArray, _, hk, rfl, rfl, rfl, by rw [List.size_toArray, nvs]; exact few', by simpa using rvs⟩) fun b u z => ?_
    by_cases hb : b ∈ cs
    · have z' := (if_pos hb).symm.trans z
      cases z'
      exact isT b hb
    · have z' := (if_neg hb).symm.trans z
      cases z'
  | none =>
    have at1 : (fun b => if b = a then some (HO.frz { cls := .type "list", data := .seq vs.toArray } (.lst (ns.map V.int))) else if b ∈ cs then some (.tbl #[]) else none : Hp) a = some (.frz { cls := .type "list", data := .seq vs.toArray } (.lst (ns.map V.int))) := if_pos rfl
    refine go (fun b => if b = a then some (.frz { cls := .type "list", data := .seq vs.toArray } (.lst (ns.map V.int))) else if b ∈ cs then some (.tbl #[]) else none) (fun b hba nb => (if_neg hba).trans (if_neg nb)) (fun b hb => (if_neg (show ¬ b = a from fun z => aT (by rw [← z]; exact hb))).trans (if_pos hb)) (.inr ⟨hk, _, _, at1⟩) (.inl (.inr ⟨_, at1⟩)) fun b u z => ?_
    by_cases hba : b = a
    · subst hba
      rw [at1] at z
      cases z
      exact ⟨script, by rw [List.length_map]; exact few', vs, _, rvs, script⟩
    · have z1 := (if_neg hba).symm.trans z
      by_cases hb : b ∈ cs
      · have z' := (if_pos hb).symm.trans z1
        cases z'
        exact isT b hb
      · have z' := (if_neg hb).symm.trans z1
        cases z'
theorem walkG {l : PySem.W.OpenLaw} {q : Program} {loose : List Str} {XP : (Str → Option Value) → Heap → Prop} {YP : World → Heap → Prop} {d : DefRec} {K : Params → PySem.W.Frag} {G : GC} {ds : List FD} {k n : Nat} {D : FD} (xs : List Str)
    (most : l.most = some 63) (nodef : d.params.defaults = []) (hY : ∀ (w : World) (h : Heap), YP w h → (K w.params).In h) (room : Room n callerA) (hd : ds[k]? = some D) (hps : D.ps = [Str.ofString "_law_script"]) (hname : D.name = d.name)
    (M : ∀ (w : World) (mg : Str → Option Value) (fa : Addr) (h : Heap), (K w.params).In h → h.Ns mainGlobals mg → mg d.name = some (.ref fa) → lamsB (K w.params) xs = true → ModOk (K w.params) mg G (lamsOf (K w.params) xs) ds)
    (ans : ∀ ns : List Int, ns.length ≤ 63 → (∀ z ∈ ns, Builtin.Int.intBits z ≤ 1048576) → callF (ds.map (cFn G)) sub n k (rowD ns) [] = .ok (.d (.bool true)) [])
    (Cl : ∀ (w : World) (mg : Str → Option Value) (fa : Addr) (h : Heap), (K w.params).In h → h.Ns mainGlobals mg → mg d.name = some (.ref fa) → ∃ ec, ClsOk l.prog ec sub G (K w.params) mg := by intros; exact ⟨fun _ => 0, cls_none rfl rfl rfl⟩) (hB : ∀ w : World, lamsB (K w.params) xs = true := by intros; rfl) (hR : (xs.all fun x => ((recsOf q).find? (fun e => e.name == x)).isSome) = true := by rfl) :
    PySem.W.WalkO q loose XP YP l.row.toRowW d [] (fun f vs => PySem.call f vs) := by
  refine Att.attach_callB most nodef fun w s₀ s₁ mg mb fa o pm cd doc a vs ns Gr Y ho hdd hcd hmg hobj hints hlen hbits hg => ?_
  have KX := hY w _ Y
  have mo := M w mg fa _ KX Gr.T.g hmg (hB w)
  obtain ⟨S, f, fd, q1, q2, q3, q4, q5, q6⟩ := mo.fn D (List.mem_of_getElem? hd)
  have ef : fa = f := by
    rw [hname] at q1
    rw [hmg] at q1
    injection q1 with z
    injection z
  subst ef
  have bnd : Binds (K w.params) fd [Str.ofString "_law_script"] [] := by rw [← hps]; exact q4
  obtain ⟨ec, Cl⟩ := Cl w mg fa _ KX Gr.T.g hmg
  refine lawG (L := lamsOf (K w.params) xs) (n := n) (k := k) (ec := ec) KX Gr.T.g Gr.T.b Gr.T.builtins Gr.T.nolimit hg (tabs_of Gr.T KX (hB w) hR) Gr.T.bmain hobj hints (Nat.le_trans hlen (by decide)) room (fun base hb hn tb => ?_) bnd (ans ns hlen hbits)
  have := defs_ok (P := l.prog) (w := w) (base := base) (ec := ec) (sub := sub) mo Cl tb n k D fa fd hd (by rw [hname]; exact hmg) q2 q6.1
  rw [hps] at this
  exact this
end
end PV
namespace PV
open PySem PySem.Spec PyProof.Rows L2
section
variable {K : PySem.W.Frag} {mg : Str → Option Value} {L : List (Addr × Addr × Str)}
/-- one def as the walk finds it -/
def DefAt (K : PySem.W.Frag) (mg : Str → Option Value) (L : List (Addr × Addr × Str)) (d : FD) : Prop := FnScope d.N d.ps (defScope d.st) ∧ ∃ f fd, mg d.name = some (.ref f) ∧ L2.Fun K d.name d.name d.st f fd ∧ PySem.W.keepIn K (.ref f) = true ∧ Binds K fd d.ps [] ∧ (∀ ks np0 pm, (ks, np0, pm) ∈ d.kws → KwOk K fd d.ps ks np0 pm) ∧ (d.lam = true → LamAt L d.name fd) ∧ PySem.W.nsIn K mainGlobals d.name = some (some (.ref f))
theorem all_nil : ∀ d ∈ ([] : List FD), DefAt K mg L d := fun _ h => nomatch h
theorem all_cons {d : FD} {ds : List FD} (h : DefAt K mg L d) (hs : ∀ d ∈ ds, DefAt K mg L d) : ∀ e ∈ d :: ds, DefAt K mg L e := List.forall_mem_cons.mpr ⟨h, hs⟩
def BindD (d : FD) : Prop := ∀ (kV doc pm : Value) (an : Option Addr) (cdv ct : Value) (us : List Value), us.length = d.ps.length → bindArgs (PySem.W.fnOf d.name d.name (defArgs d.st) (defBody d.st) (defScope d.st) .none kV doc pm an cdv ct) ⟨us, []⟩ = pure (d.ps.zip us)
def KwD (d : FD) : Prop := ∀ ks np0 pm, (ks, np0, pm) ∈ d.kws → pm.length = d.ps.length ∧ (∀ i ∈ pm, i < np0 + ks.length) ∧ ∀ (kV doc pm' : Value) (an : Option Addr) (cdv ct : Value) (us ws : List Value), us.length = np0 → ws.length = ks.length →
  bindArgs (PySem.W.fnOf d.name d.name (defArgs d.st) (defBody d.st) (defScope d.st) .none kV doc pm' an cdv ct) ⟨us, ks.zip ws⟩ = pure (d.ps.zip (pm.filterMap fun i => (us ++ ws)[i]?))
/-- the names of a def's scope, looked at -/
def scOk (d : FD) : Bool := C8.scC d.N d.ps (defScope d.st)
theorem scOk_ok {d : FD} (h : scOk d = true) : FnScope d.N d.ps (defScope d.st) := C8.fnScope_by h
theorem kw_nil {d : FD} (h : d.kws = []) : KwD d := fun ks np0 pm hm => by rw [h] at hm; cases hm
theorem def_at {d : FD} {h : Heap} {f : Addr} {oc kV doc pm cdv ct : Value} {od an : Option Addr} {osl : Array (Option Value)} (X : K.In h) (G : h.Ns mainGlobals mg) (S : scOk d = true) (b : BindD d) (kw : KwD d)
    (a : PySem.W.nsIn K mainGlobals d.name = some (some (.ref f))) (l : K.lookup f = some ⟨oc, od, .func (PySem.W.fnOf d.name d.name (defArgs d.st) (defBody d.st) (defScope d.st) .none kV doc pm an cdv ct), osl⟩)
    (c : PySem.W.codeIn K cdv d.name = true) (k : PySem.W.keepIn K (.ref f) = true) (hl : d.lam = true → LamAt L d.name (PySem.W.fnOf d.name d.name (defArgs d.st) (defBody d.st) (defScope d.st) .none kV doc pm an cdv ct) := by intro h; cases h) : DefAt K mg L d := by
  have F := fun_mk l c k
  refine ⟨scOk_ok S, f, _, PySem.W.mg_of X G a, F, k, F.binds b, fun ks np0 pm hm => ?_, hl, a⟩
  obtain ⟨k1, k2, k3⟩ := kw ks np0 pm hm
  exact ⟨k1, k2, fun s us ws _ h1 h2 => .of_eq (k3 _ _ _ _ _ _ us ws h1 h2)⟩
theorem def_atL {xs : List Str} {d : FD} {h : Heap} {f : Addr} {oc kV doc pm cdv ct : Value} {od an : Option Addr} {osl : Array (Option Value)} (hB : lamsB K xs = true) (hx : d.name ∈ xs) (X : K.In h) (G : h.Ns mainGlobals mg) (S : scOk d = true) (b : BindD d) (kw : KwD d)
    (a : PySem.W.nsIn K mainGlobals d.name = some (some (.ref f))) (l : K.lookup f = some ⟨oc, od, .func (PySem.W.fnOf d.name d.name (defArgs d.st) (defBody d.st) (defScope d.st) .none kV doc pm an cdv ct), osl⟩)
    (c : PySem.W.codeIn K cdv d.name = true) (k : PySem.W.keepIn K (.ref f) = true) : DefAt K mg (lamsOf K xs) d :=
  def_at X G S b kw a l c k fun _ => lam_at hB hx a l
end
end PV
namespace PV
open PySem PySem.Spec PyProof.Rows L2
section
variable (K : PySem.W.Frag)
mutual
/-- data among the module's own objects -/
inductive KD : D → Value → Prop
  | int (i : Int) (t : Tok) : KD (.int i) (.int i t)
  | str (x : Str) (t : Tok) (h : x.length ≤ LIM) : KD (.str x) (.str x t)
  | bl (b : Bool) : KD (.bool b) (.bool b)
  | non : KD .none .none
  | tup {p : Addr} {its : List Value} {n : Nat} {sl : Array (Option Value)} {xs : List D} (l : K.lookup p = some ⟨.type "tuple", none, .seq its.toArray n, sl⟩) (h : xs.length ≤ LIM) (r : KDs xs its) : KD (.tuple xs) (.ref p)
inductive KDs : List D → List Value → Prop
  | nil : KDs [] []
  | cons {x : D} {u : Value} {xs : List D} {us : List Value} (h : KD x u) (t : KDs xs us) : KDs (x :: xs) (u :: us)
end
variable {K}
mutual
theorem KD.df : ∀ {x : D} {u : Value}, KD K x u → ∃ v, RelV v u ∧ ∀ F, Df K F v x
  | _, _, .int i t => ⟨.int i, ⟨t, rfl⟩, fun _ => .int i⟩
  | _, _, .str x t h => ⟨.str x, ⟨t, rfl⟩, fun _ => .str x h⟩
  | _, _, .bl b => ⟨.bl b, rfl, fun _ => .bl b⟩
  | _, _, .non => ⟨.non, rfl, fun _ => .non⟩
  | _, _, .tup (p := p) (its := its) (n := n) l h r => by
    obtain ⟨vs, h1, h2⟩ := KDs.df r
    have hl : vs.length = its.length := h1.length
    have hx := (h2 fun _ => none).len
    refine ⟨.ref p, rfl, fun F => .tup (.inr ⟨_, its.toArray, n, l, rfl, rfl, rfl, ?_, by simpa using h1⟩) (h2 F) h⟩
    rw [List.size_toArray, ← hl, hx, ← lim_eq]
    exact h
theorem KDs.df : ∀ {xs : List D} {us : List Value}, KDs K xs us → ∃ vs, Vals vs us ∧ ∀ F, Dfs K F vs xs
  | _, _, .nil => ⟨[], .nil, fun _ => .nil⟩
  | _, _, .cons h t => by
    obtain ⟨v, h1, h2⟩ := KD.df h
    obtain ⟨vs, h3, h4⟩ := KDs.df t
    exact ⟨v :: vs, .cons h1 h3, fun F => .cons (h2 F) (h4 F)⟩
end
variable {mg : Str → Option Value}
def ConAt (K : PySem.W.Frag) (mg : Str → Option Value) (p : Str × D) : Prop := ∃ u v, mg p.1 = some u ∧ RelV v u ∧ ∀ F, Df K F v p.2
theorem con_nil : ∀ p ∈ ([] : List (Str × D)), ConAt K mg p := fun _ h => nomatch h
theorem con_cons {p : Str × D} {ps : List (Str × D)} (h : ConAt K mg p) (hs : ∀ q ∈ ps, ConAt K mg q) : ∀ q ∈ p :: ps, ConAt K mg q := List.forall_mem_cons.mpr ⟨h, hs⟩
theorem con_of {h : Heap} {x : Str} {d : D} {u : Value} (X : K.In h) (G : h.Ns mainGlobals mg) (a : PySem.W.nsIn K mainGlobals x = some (some u)) (k : KD K d u) : ConAt K mg (x, d) :=
  let ⟨v, h1, h2⟩ := k.df
  ⟨u, v, PySem.W.mg_of X G a, h1, h2⟩
def BltAt (mg : Str → Option Value) (x : Str) : Prop := mg x = none
theorem blt_nil : ∀ p ∈ ([] : List Str), BltAt mg p := fun _ h => nomatch h
theorem blt_cons {p : Str} {ps : List Str} (h : BltAt mg p) (hs : ∀ q ∈ ps, BltAt mg q) : ∀ q ∈ p :: ps, BltAt mg q := List.forall_mem_cons.mpr ⟨h, hs⟩
theorem blt_of {h : Heap} {x : Str} (X : K.In h) (G : h.Ns mainGlobals mg) (a : PySem.W.nsIn K mainGlobals x = some none) : BltAt mg x := PySem.W.mg_none_of X G a
theorem mod_mk {G : GC} {ds : List FD} {xs : List Str} (hB : lamsB K xs = true) (gf : G.fns = fnsOf ds 0) (a : ∀ d ∈ ds, DefAt K mg (lamsOf K xs) d) (c : ∀ p ∈ G.con, ConAt K mg p) (b : ∀ x ∈ G.blt, BltAt mg x) (few : decide (ds.length < NOPI) = true := by rfl) (hr : ∀ p ∈ G.hrd, ∃ d ∈ ds, d.name = p.1 ∧ cHrd G d = some p.2 := by intro p hp; cases hp) : ModOk K mg G (lamsOf K xs) ds :=
  ⟨gf, of_decide_eq_true few, a, fun x d e => c (x, d) (PySem.mem_of_lookup e), b, fun x k e => hr (x, k) (PySem.mem_of_lookup e), lams_uq hB⟩
end
end PV
namespace PV
open PySem PySem.Spec PyProof.Rows L2
/-! ### classes of exceptions -/
section
variable {K : PySem.W.Frag} {a c : Addr} {b : Bool}
theorem cls_mk0 (h2 : PySem.W.isClsIn K c = true) (h3 : PySem.W.typeIn K (.ref c) = some (.type "type")) (h4 : PySem.W.subIn K (.ref a) (.ref c) = some b) : PySem.W.kitCls K (.ref a) (.ref c) = some b := by
  have h2' : (PySem.W.clsIn K c).isSome = true := h2
  show (if ((PySem.W.clsIn K c).isSome && PySem.W.typeIn K (.ref c) == some (.type "type")) = true then PySem.W.subIn K (.ref a) (.ref c) else none) = some b
  rw [if_pos (by rw [h2', h3]; rfl), h4]
theorem exm_mk (h1 : PySem.W.subIn K (.ref c) (.type "BaseException") = some true) (h2 : PySem.W.isClsIn K c = true) (h3 : PySem.W.typeIn K (.ref c) = some (.type "type")) (h4 : PySem.W.subIn K (.ref a) (.ref c) = some b) : PySem.W.exmOne K (.ref a) (.ref c) = some b := by
  show (if (PySem.W.subIn K (.ref c) (.type "BaseException") == some true) = true then PySem.W.kitCls K (.ref a) (.ref c) else none) = some b
  rw [if_pos (by rw [h1]; rfl), cls_mk0 h2 h3 h4]
theorem kit_mk (h2 : PySem.W.isClsIn K c = true) (h3 : PySem.W.typeIn K (.ref c) = some (.type "type")) (h4 : PySem.W.subIn K (.ref a) (.ref c) = some b) (h5 : PySem.W.subIn K (.ref c) (.ref c) = some true) : PySem.W.kitOne K (.ref a) (.ref c) = some b := by
  show (if (Value.ref a == Value.ref c) = true then some true else PySem.W.kitCls K (.ref a) (.ref c)) = some b
  by_cases h : (Value.ref a == Value.ref c) = true
  · rw [if_pos h]
    have e : Value.ref a = Value.ref c := eq_of_beq h
    rw [e, h5] at h4
    exact h4
  · rw [if_neg h, cls_mk0 h2 h3 h4]
end
end PV
namespace PV
open PySem PySem.Spec PyProof.Rows L2
/-- a class with such an __init__, from what is written of it -/
theorem sup_mk {P : Program} {K : PySem.W.Frag} {f : Str} {C fI N cc cda : Addr} {nm qC q : Str} {bs bm sub : List Value} {sn : List Str} {ab : Bool} {col : Option Bool} {dd od an cld cdd : Option Addr} {k0 k1 k2 k3 k5 : Option Value} {oc doc pm ct cl ccl : Value} {osl csl ccs : Array (Option Value)} {p1 p2 q0 q1 q2 q3 q4 q5 r0 r1 r2 r3 : Pos} {vs : Array Value} {file : Str} {tf : Tok}
    (l1 : K.lookup C = some (excClassObj nm qC C N bs bm true sn sub ab col dd k0 k1 k2 k3 k5 "ValueError.__new__")) (rb : PySem.HandSPX.refsVE bm = true)
    (sa : PySem.W.findIn K (.ref C) "__setattr__" = some (some (.builtin "object.__setattr__"))) (noN : PySem.W.findIn K (.ref C) f = some none) (iC : PySem.W.findIn K (.ref C) "__init__" = some (some (.ref fI))) (tC : PySem.W.typeIn K (.ref fI) = some (.type "function"))
    (kC : PySem.W.keepIn K (.ref C) = true) (exC : PySem.W.subIn K (.ref C) (.type "BaseException") = some true) (veC : PySem.W.subIn K (.ref C) (.type "ValueError") = some true) (tyC : PySem.W.typeIn K (.ref C) = some (.type "type")) (self : PySem.W.mroIn K C (.ref C) = some true)
    (sup : PySem.W.ks_superIn K C C "__init__" = some (some (.builtin "ValueError.__init__"))) (opq : PySem.W.nsIn K cStatics "thirdparty.any" = some none) (top : (P.main.scope.names.lookup ("super" : Str)).isSome = false) (fok : f ≠ "self" ∧ f ≠ "__class__" ∧ f ≠ "super" ∧ (f == ("__debug__" : Str)) = false)
    (l2 : K.lookup fI = some ⟨oc, od, .func (PySem.W.ksFn "__init__" q (iA f p1 p2) [iB1 f q0 q1 q2 q3 q4 q5, iB2 f r0 r1 r2 r3] (iS f) .none .none doc pm an (.ref cda) ct cc), osl⟩) (cd : PySem.W.codeIn K (.ref cda) q = true)
    (bd : ∀ x v : Value, bindArgs (PySem.W.ksFn "__init__" q (iA f p1 p2) [iB1 f q0 q1 q2 q3 q4 q5, iB2 f r0 r1 r2 r3] (iS f) .none .none doc pm an (.ref cda) ct cc) ⟨[x, v], []⟩ = pure [(("self" : Str), x), (f, v)])
    (ln : (q2.endLine == q4.line) = true) (l3 : K.lookup cc = some ⟨cl, cld, .cell (some (.ref C)), csl⟩) (l4 : K.lookup cda = some ⟨ccl, cdd, .fields vs, ccs⟩) (hv : vs[2]? = some (.str file tf)) (hf : ((P.main.file : Str) == file) = true) : Sup P K f C fI :=
  ⟨⟨_, _, _, _, _, _, _, _, _, _, _, _, _, _, _, l1, rb⟩, sa, noN, iC, tC, kC, exC, veC, tyC, self, sup, opq, top, fok, ⟨_, _, _, _, _, _, _, _, _, _, _, _, _, _, _, _, _, _, _, _, _, _, _, _, _, _, _, _, _, _, _, l2, cd, bd, ln, l3, l4, hv, hf⟩⟩
/-- a class below ValueError is so for isinstance, too -/
theorem kitV_mk {K : PySem.W.Frag} {c : Addr} (h4 : PySem.W.subIn K (.ref c) (.type "ValueError") = some true) : PySem.W.kitOne K (.ref c) (.type "ValueError") = some true := by
  have e : PySem.W.kitMeta "ValueError" = true := by decide
  show (if (Value.ref c == Value.type "ValueError") = true then some true else (if PySem.W.kitMeta "ValueError" = true then PySem.W.subIn K (.ref c) (.type "ValueError") else none)) = some true
  rw [if_neg (by simp), if_pos e]
  exact h4
end PV
end

section
set_option Elab.async false
set_option linter.all false
set_option maxRecDepth 100000
/-! PVL: plain lemmas about the evaluator. -/
namespace PV
open PySem

/-! ### walks over data, turn by turn -/
def compD (bd : EV → Mem → Res (Option D)) : List D → Mem → Res (List D)
  | [], m => .ok [] m
  | x :: xs, m => (bd (.d x) m).noex.bind fun o m1 => (compD bd xs m1).bind fun ds m2 => .ok (match o with | some d => d :: ds | none => ds) m2
theorem compL_drop (bd : EV → Mem → Res (Option D)) (ys : List D) : ∀ (xs : List D) (i : Nat) (m : Mem), ys.drop i = xs → compL (.fx ys) bd xs.length i m = compD bd xs m
  | [], i, m, h => rfl
  | x :: xs, i, m, h => by
    have hi : ys[i]? = some x := by
      have : (ys.drop i)[0]? = some x := by rw [h]; rfl
      simpa using this
    have hd : ys.drop (i + 1) = xs := by
      have : (ys.drop i).drop 1 = xs := by rw [h]; rfl
      simpa [List.drop_drop, Nat.add_comm] using this
    show (match (Src.fx ys).get m i with | none => Res.bad | some x => _) = _
    have hg : (Src.fx ys).get m i = some (.d x) := by
      show (ys[i]?).map EV.d = _
      rw [hi]; rfl
    rw [hg]
    show ((bd (.d x) m).noex.bind fun o m1 => (compL (.fx ys) bd xs.length (i + 1) m1).bind fun ds m2 => .ok (match o with | some d => d :: ds | none => ds) m2) = _
    unfold compD
    congr 1
    funext o m1
    rw [compL_drop bd ys xs (i + 1) m1 hd]
theorem compL_fx (bd : EV → Mem → Res (Option D)) (ys : List D) (m : Mem) : compL (.fx ys) bd (Src.fx ys).len 0 m = compD bd ys m := compL_drop bd ys ys 0 m rfl
def forD (t : Tg) (b : Env → Mem → S) : List D → Env → Mem → S
  | [], env, m => .nx env m
  | x :: xs, env, m => match asgT t (.d x) env with
    | none => .bad
    | some env1 => match b env1 m with
      | .nx env2 m2 => forD t b xs env2 m2
      | .ct env2 m2 => forD t b xs env2 m2
      | .bk env2 m2 => .nx env2 m2
      | r => r
theorem forL_drop (t : Tg) (b : Env → Mem → S) (ys : List D) : ∀ (xs : List D) (i : Nat) (env : Env) (m : Mem), ys.drop i = xs → forL (.fx ys) t b xs.length i env m = forD t b xs env m
  | [], i, env, m, h => rfl
  | x :: xs, i, env, m, h => by
    have hi : ys[i]? = some x := by
      have : (ys.drop i)[0]? = some x := by rw [h]; rfl
      simpa using this
    have hd : ys.drop (i + 1) = xs := by
      have : (ys.drop i).drop 1 = xs := by rw [h]; rfl
      simpa [List.drop_drop, Nat.add_comm] using this
    have hg : (Src.fx ys).get m i = some (.d x) := by
      show (ys[i]?).map EV.d = _
      rw [hi]; rfl
    have ih := fun env m => forL_drop t b ys xs (i + 1) env m hd
    unfold forD
    rw [List.length_cons]
    unfold forL
    rw [hg]
    dsimp only
    cases asgT t (.d x) env with
    | none => rfl
    | some env1 =>
      dsimp only
      cases b env1 m <;> simp [ih]
theorem forL_fx (t : Tg) (b : Env → Mem → S) (ys : List D) (env : Env) (m : Mem) : forL (.fx ys) t b (Src.fx ys).len 0 env m = forD t b ys env m := forL_drop t b ys ys 0 env m rfl
/-- a body that gives one thing for each -/
theorem compD_map {bd : EV → Mem → Res (Option D)} {m : Mem} {f : D → Option D} : ∀ {xs : List D}, (∀ x ∈ xs, bd (.d x) m = .ok (f x) m) → compD bd xs m = .ok (xs.filterMap f) m
  | [], _ => rfl
  | x :: xs, h => by
    have ih := compD_map (xs := xs) fun y hy => h y (List.mem_cons_of_mem _ hy)
    unfold compD
    rw [h x (by simp)]
    show ((compD bd xs m).bind fun ds m2 => Res.ok (match f x with | some d => d :: ds | none => ds) m2) = _
    rw [ih]
    cases e : f x <;> simp [List.filterMap_cons, e]
theorem call_eq {T : List Fn} {sub : Nat → Nat → Bool} {n k : Nat} {fn : Fn} {vs : List EV} {m : Mem} (h : T[k]? = some fn) (hl : vs.length = fn.np) (hk : (decide (k < NOPI)) = true := by rfl) :
    callF T sub (n + 1) k vs m = fin m.length (evSs (callF T sub n) sub fn.body (vs.map some ++ List.replicate (fn.nl - fn.np) none) m) := by
  have hk := of_decide_eq_true hk
  have h1 : ¬ BIG ≤ k := by unfold NOPI at hk; unfold BIG; omega
  have h2 : ¬ k = NOPI := Nat.ne_of_lt hk
  show (if BIG ≤ k then _ else if k = NOPI then _ else _) = _
  rw [if_neg h1, if_neg h2, h]
  exact if_pos hl
theorem call_low {T : List Fn} {sub : Nat → Nat → Bool} {n k : Nat} {vs : List EV} {m : Mem} : callF T sub (n + 2) (k + (BIG + BIG)) vs m = callF T sub n k vs m := callF_lo rfl
@[simp] theorem fin_nx (n : Nat) (e : Env) (m : Mem) : fin n (.nx e m) = .ok (.d .none) (m.take n) := rfl
@[simp] theorem fin_rt (n : Nat) (x : D) (m : Mem) : fin n (.rt (.d x) m) = .ok (.d x) (m.take n) := rfl
theorem fin_rl' (n k : Nat) (m : Mem) : fin n (.rt (.loc k) m) = match frzT m n k with
    | some p => .ok (.d p) (m.take n)
    | none => .ok (.loc k) m := rfl
theorem frzT_no {m : Mem} {n k : Nat} (h : ∀ xs, m[k]? ≠ some (.tp xs)) : frzT m n k = none := by
  unfold frzT
  split
  · split
    · rename_i xs e
      exact absurd e (h xs)
    · rfl
  · rfl
theorem fin_rl {n k : Nat} {m : Mem} (h : ∀ xs, m[k]? ≠ some (.tp xs)) : fin n (.rt (.loc k) m) = .ok (.loc k) m := by
  rw [fin_rl', frzT_no h]
@[simp] theorem fin_rlL (n : Nat) (m : Mem) (xs : List EV) : fin n (.rt (.loc m.length) (m ++ [.lst xs])) = .ok (.loc m.length) (m ++ [.lst xs]) := fin_rl (by simp)
@[simp] theorem fin_rlD (n : Nat) (m : Mem) (xs : List (L2.Key × EV)) : fin n (.rt (.loc m.length) (m ++ [.dK xs])) = .ok (.loc m.length) (m ++ [.dK xs]) := fin_rl (by simp)
@[simp] theorem view_d (m : Mem) (x : D) : view m (.d x) = some x := rfl
@[simp] theorem view2_d (o : O2) (m : Mem) (x : D) : view2 o m (.d x) = some x := by cases o <;> rfl
@[simp] theorem view1_d (o : O1) (m : Mem) (x : D) : view1 o m (.d x) = some x := by cases o <;> rfl
@[simp] theorem viewR_d (m : Mem) (x : D) : viewR m (.d x) = some x := rfl
@[simp] theorem frz_d (m : Mem) (n : Nat) (x : D) : frz m n (.d x) = none := rfl
@[simp] theorem truth_d (m : Mem) (x : D) : truth m (.d x) = some (truD x) := rfl

/-! ### what repr is asked of -/
mutual
def good : D → Bool
  | .none => true
  | .bool _ => true
  | .int i => decide (i.natAbs.log2 < 1920)
  | .str x => (PyData.str x).canLay0 && decide ((PyData.str x).shown.length ≤ 1998)
  | .list xs => goodAll xs
  | .tuple xs => goodAll xs
  | .dict _ => false
def goodAll : List D → Bool
  | [] => true
  | x :: xs => good x && goodAll xs
end
mutual
def sz : D → Nat
  | .list xs => szAll xs + 1
  | .tuple xs => szAll xs + 1
  | _ => 1
def szAll : List D → Nat
  | [] => 0
  | x :: xs => sz x + szAll xs
end
theorem textFrom_up : ∀ (ts : List Str) (k : Nat) (acc : Str), (textFrom k acc ts).length ≤ acc.length + piled ts
  | [], k, acc => by show acc.length ≤ _; omega
  | t :: r, k, acc => by
    have h := textFrom_up r (k + 1) (acc ++ (if k > 0 then ", " else "" : String) ++ t)
    have e : (acc ++ (if k > 0 then ", " else "" : String) ++ t).length ≤ acc.length + 2 + t.length := by
      rw [strLen_append, strLen_append]
      have : ((if k > 0 then ", " else "" : String) : Str).length ≤ 2 := by split <;> decide
      omega
    show (textFrom (k + 1) (acc ++ (if k > 0 then ", " else "" : String) ++ t) r).length ≤ _
    rw [piled_cons]
    omega
theorem listText_up (ts : List Str) : (listText ts).length ≤ piled ts + 2 := by
  unfold listText
  rw [strLen_append]
  have h := textFrom_up ts 0 (("[" : String) : Str)
  have e1 : (("[" : String) : Str).length = 1 := rfl
  have e2 : (("]" : String) : Str).length = 1 := rfl
  omega
theorem tupleText_up (ts : List Str) : (tupleText ts).length ≤ piled ts + 3 := by
  unfold tupleText
  rw [strLen_append, strLen_append]
  have e1 : ((("(" : String) : Str)).length = 1 := rfl
  have e3 : (((if ts.length == 1 then ",)" else ")" : String) : Str)).length ≤ 2 := by split <;> decide
  by_cases h : ts = []
  · subst h
    have : (Str.join ", " ([] : List Str)).length = 0 := rfl
    omega
  · have := join_length_add ts h
    omega
mutual
theorem good_ok : ∀ {d : D}, good d = true → d.showable = true ∧ d.canLay0 = true ∧ d.shown.length + 2 ≤ 2000 * sz d
  | .none, _ => ⟨rfl, rfl, by decide⟩
  | .bool b, _ => ⟨rfl, rfl, by cases b <;> decide⟩
  | .int i, h => by
    have h' : i.natAbs.log2 < 1920 := by simpa [good] using h
    refine ⟨by simpa [PyData.showable] using h', by simp [PyData.canLay0], ?_⟩
    have := PyProof.Rows.int_text_len_1921 h'
    show (Str.ofString (toString i)).length + 2 ≤ 2000 * 1
    omega
  | .str x, h => by
    have h' : (PyData.str x).canLay0 = true ∧ (PyData.str x).shown.length ≤ 1998 := by simpa only [good, Bool.and_eq_true, decide_eq_true_eq] using h
    refine ⟨rfl, h'.1, ?_⟩
    show _ ≤ 2000 * 1
    omega
  | .list xs, h => by
    obtain ⟨h1, h2, h3⟩ := goodAll_ok (xs := xs) (by simpa [good] using h)
    refine ⟨by simpa [PyData.showable] using h1, by simpa [PyData.canLay0] using h2, ?_⟩
    have := listText_up (PyData.shownAll xs)
    show (listText (PyData.shownAll xs)).length + 2 ≤ 2000 * (szAll xs + 1)
    omega
  | .tuple xs, h => by
    obtain ⟨h1, h2, h3⟩ := goodAll_ok (xs := xs) (by simpa [good] using h)
    refine ⟨by simpa [PyData.showable] using h1, by simpa [PyData.canLay0] using h2, ?_⟩
    have := tupleText_up (PyData.shownAll xs)
    show (tupleText (PyData.shownAll xs)).length + 2 ≤ 2000 * (szAll xs + 1)
    omega
  | .dict _, h => by simp [good] at h
theorem goodAll_ok : ∀ {xs : List D}, goodAll xs = true → PyData.showableAll xs = true ∧ PyData.canLayAll0 xs = true ∧ piled (PyData.shownAll xs) ≤ 2000 * szAll xs
  | [], _ => ⟨rfl, rfl, by decide⟩
  | x :: xs, h => by
    simp only [goodAll, Bool.and_eq_true] at h
    obtain ⟨a1, a2, a3⟩ := good_ok h.1
    obtain ⟨b1, b2, b3⟩ := goodAll_ok h.2
    refine ⟨by simp [PyData.showableAll, a1, b1], by simp [PyData.canLayAll0, a2, b2], ?_⟩
    show piled (x.shown :: PyData.shownAll xs) ≤ 2000 * (sz x + szAll xs)
    rw [piled_cons]
    omega
end
theorem repr_some {d : D} (h : good d = true) (h2 : d.depth ≤ 60) (h3 : sz d ≤ 8000) : op1 .repr d = some (.str d.shown) := by
  obtain ⟨a1, a2, a3⟩ := good_ok h
  have h4 : d.shown.length ≤ LIM := by unfold LIM; omega
  show (if d.showable && decide (d.depth ≤ 60) && d.canLay0 && decide (d.shown.length ≤ LIM) then some (PyData.str d.shown) else none) = _
  rw [if_pos]
  simp [a1, a2, h2, h4]

/-! ### places, slices, turns -/
theorem idx_nat {k n : Nat} (h : k < n) : idx (k : Int) n = some k := by
  unfold idx L2.ixN
  rw [if_pos (by omega), if_pos (by omega)]
  simp
theorem idx_0 {n : Nat} (h : 0 < n) : idx 0 n = some 0 := idx_nat (k := 0) h
theorem idx_1 {n : Nat} (h : 1 < n) : idx 1 n = some 1 := idx_nat (k := 1) h
theorem cut_1 (xs : List D) : cut xs (some 1) none = xs.drop 1 := by
  unfold cut HT.sIx
  cases xs with
  | nil => rfl
  | cons x xs =>
    simp
theorem mem_next {xs : List D} {z : D} (h : z ∈ zipL xs (xs.drop 1)) : ∃ i x y, xs[i]? = some x ∧ xs[i + 1]? = some y ∧ z = .tuple [x, y] := by
  obtain ⟨i, hi⟩ := List.mem_iff_getElem?.mp h
  obtain ⟨x, y, h1, h2, h3⟩ := zipL_some hi
  refine ⟨i, x, y, h1, ?_, h3⟩
  rw [List.getElem?_drop] at h2
  rw [← h2, Nat.add_comm]
theorem forD_ind {t : Tg} {b : Env → Mem → S} {xs : List D} (I : List D → Env → Mem → Prop)
    (step : ∀ pre x post, xs = pre ++ x :: post → ∀ env m, I pre env m → ∃ env1, asgT t (.d x) env = some env1 ∧ ∃ env2 m2, (b env1 m = .nx env2 m2 ∨ b env1 m = .ct env2 m2) ∧ I (pre ++ [x]) env2 m2)
    {env : Env} {m : Mem} (h0 : I [] env m) : ∃ env' m', forD t b xs env m = .nx env' m' ∧ I xs env' m' := by
  have go : ∀ (post pre : List D) (env : Env) (m : Mem), xs = pre ++ post → I pre env m → ∃ env' m', forD t b post env m = .nx env' m' ∧ I xs env' m' := by
    intro post
    induction post with
    | nil =>
      intro pre env m e h
      have : xs = pre := by simpa using e
      subst this
      exact ⟨env, m, rfl, h⟩
    | cons x post ih =>
      intro pre env m e h
      obtain ⟨env1, h1, env2, m2, h2, h3⟩ := step pre x post e env m h
      obtain ⟨env', m', h4, h5⟩ := ih (pre ++ [x]) env2 m2 (by simp [e]) h3
      refine ⟨env', m', ?_, h5⟩
      unfold forD
      rw [h1]
      rcases h2 with h2 | h2 <;> (dsimp only; rw [h2]; exact h4)
  exact go xs [] env m rfl h0

/-! ### operators, one by one -/
@[simp] theorem op1_not (x : D) : op1 .not x = some (.bool (!truD x)) := rfl
@[simp] theorem op1_lenT (xs : List D) : op1 .len (.tuple xs) = some (.int xs.length) := rfl
@[simp] theorem op1_lenL (xs : List D) : op1 .len (.list xs) = some (.int xs.length) := rfl
@[simp] theorem op1_tupL (xs : List D) : op1 .tuple (.list xs) = some (.tuple xs) := rfl
@[simp] theorem op1_tupT (xs : List D) : op1 .tuple (.tuple xs) = some (.tuple xs) := rfl
@[simp] theorem op1_neg (i : Int) : op1 .neg (.int i) = some (.int (-i)) := rfl
@[simp] theorem op1_int (i : Int) : op1 .int (.int i) = some (.int i) := rfl
@[simp] theorem op1_isN (x : D) : op1 .isN x = some (.bool (isND x)) := rfl
@[simp] theorem op1_notN (x : D) : op1 .notN x = some (.bool (!isND x)) := rfl
theorem intsD_map : ∀ w : List Int, intsD (w.map .int) = some w
  | [] => rfl
  | i :: w => by simp [intsD, intsD_map w]
@[simp] theorem op1_sumL (w : List Int) : op1 .sum (.list (w.map .int)) = some (.int w.sum) := by simp [op1, seqD, intsD_map]
@[simp] theorem op1_sumT (w : List Int) : op1 .sum (.tuple (w.map .int)) = some (.int w.sum) := by simp [op1, seqD, intsD_map]
@[simp] theorem op2_add (i j : Int) : op2 .add (.int i) (.int j) = some (.int (i + j)) := rfl
@[simp] theorem op2_sub (i j : Int) : op2 .sub (.int i) (.int j) = some (.int (i - j)) := rfl
@[simp] theorem op2_lt (i j : Int) : op2 .lt (.int i) (.int j) = some (.bool (decide (i < j))) := rfl
@[simp] theorem op2_le (i j : Int) : op2 .le (.int i) (.int j) = some (.bool (decide (i ≤ j))) := rfl
@[simp] theorem op2_gt (i j : Int) : op2 .gt (.int i) (.int j) = some (.bool (decide (j < i))) := rfl
@[simp] theorem op2_ge (i j : Int) : op2 .ge (.int i) (.int j) = some (.bool (decide (j ≤ i))) := rfl
@[simp] theorem op2_eq (i j : Int) : op2 .eq (.int i) (.int j) = some (.bool (decide (i = j))) := rfl
@[simp] theorem op2_ne (i j : Int) : op2 .ne (.int i) (.int j) = some (.bool (!decide (i = j))) := rfl
@[simp] theorem op2_eqB (i j : Bool) : op2 .eq (.bool i) (.bool j) = some (.bool (decide (i = j))) := rfl
@[simp] theorem op2_eqS (i j : Str) : op2 .eq (.str i) (.str j) = some (.bool (decide (i = j))) := rfl
theorem op2_mul {i j : Int} (h : mulOk i j = true) : op2 .mul (.int i) (.int j) = some (.int (i * j)) := by
  show (if mulOk i j then some (PyData.int (i * j)) else none) = _
  rw [if_pos h]
theorem op2_mod {i j : Int} (h : 0 < j) : op2 .mod (.int i) (.int j) = some (.int (i % j)) := if_pos h
theorem op2_fdiv {i j : Int} (h : 0 < j) (h2 : j < 2 ^ 8000) : op2 .fdiv (.int i) (.int j) = some (.int (i / j)) := if_pos (by rw [decide_eq_true h, decide_eq_true h2]; rfl)
theorem op2_addT {xs ys : List D} (h : xs.length + ys.length ≤ LIM) : op2 .add (.tuple xs) (.tuple ys) = some (.tuple (xs ++ ys)) := if_pos h
theorem op2_addL {xs ys : List D} (h : xs.length + ys.length ≤ LIM) : op2 .add (.list xs) (.list ys) = some (.list (xs ++ ys)) := if_pos h
@[simp] theorem truD_b (b : Bool) : truD (.bool b) = b := rfl
@[simp] theorem truD_i (i : Int) : truD (.int i) = (i != 0) := rfl
@[simp] theorem isi_int (i : Int) : isiD 0 (.int i) = true := rfl
@[simp] theorem isi_bool (i : Int) : isiD 1 (.int i) = false := rfl
@[simp] theorem isi_tup (xs : List D) : isiD 2 (.tuple xs) = true := rfl
@[simp] theorem seqD_t (xs : List D) : seqD (.tuple xs) = some xs := rfl
@[simp] theorem seqD_l (xs : List D) : seqD (.list xs) = some xs := rfl

theorem compD_ind {bd : EV → Mem → Res (Option D)} {xs : List D} (I : List D → List D → Mem → Prop)
    (step : ∀ pre x post, xs = pre ++ x :: post → ∀ acc m, I pre acc m → ∃ o m1, bd (.d x) m = .ok o m1 ∧ I (pre ++ [x]) (acc ++ o.toList) m1) {m : Mem} (h0 : I [] [] m) : ∃ ds m', compD bd xs m = .ok ds m' ∧ I xs ds m' := by
  have go : ∀ (post pre acc : List D) (m : Mem), xs = pre ++ post → I pre acc m → ∃ ds m', compD bd post m = .ok ds m' ∧ I xs (acc ++ ds) m' := by
    intro post
    induction post with
    | nil =>
      intro pre acc m e h
      have : xs = pre := by simpa using e
      subst this
      exact ⟨[], m, rfl, by simpa using h⟩
    | cons x post ih =>
      intro pre acc m e h
      obtain ⟨o, m1, h1, h2⟩ := step pre x post e acc m h
      obtain ⟨ds, m', h3, h4⟩ := ih (pre ++ [x]) (acc ++ o.toList) m1 (by simp [e]) h2
      refine ⟨o.toList ++ ds, m', ?_, by simpa using h4⟩
      unfold compD
      rw [h1]
      show ((compD bd post m1).bind fun ds m2 => Res.ok (match o with | some d => d :: ds | none => ds) m2) = _
      rw [h3]
      cases o <;> rfl
  obtain ⟨ds, m', h1, h2⟩ := go xs [] [] m rfl h0
  exact ⟨ds, m', h1, by simpa using h2⟩
theorem compD_ints {bd : EV → Mem → Res (Option D)} {m : Mem} {g : Int → Int} : ∀ {w : List Int}, (∀ i ∈ w, bd (.d (.int i)) m = .ok (some (.int (g i))) m) → compD bd (w.map .int) m = .ok ((w.map g).map .int) m
  | [], _ => rfl
  | i :: w, h => by
    have e := compD_ints (w := w) fun q hq => h q (List.mem_cons_of_mem _ hq)
    rw [List.map_cons]
    unfold compD
    rw [h i (by simp)]
    show ((compD bd (w.map .int) m).bind fun ds m2 => Res.ok (PyData.int (g i) :: ds) m2) = _
    rw [e]
    rfl
theorem evSs_nx {cf : CF} {sub : Nat → Nat → Bool} {s : Stt} {r : Sts} {env e1 : Env} {m m1 : Mem} (h : evS cf sub s env m = .nx e1 m1) : evSs cf sub (.cons s r) env m = evSs cf sub r e1 m1 := by
  show (match evS cf sub s env m with | .nx env1 m1 => evSs cf sub r env1 m1 | x => x) = _
  rw [h]
theorem evSs_rt {cf : CF} {sub : Nat → Nat → Bool} {s : Stt} {r : Sts} {env : Env} {m m1 : Mem} {v : EV} (h : evS cf sub s env m = .rt v m1) : evSs cf sub (.cons s r) env m = .rt v m1 := by
  show (match evS cf sub s env m with | .nx env1 m1 => evSs cf sub r env1 m1 | x => x) = _
  rw [h]
theorem compD_of {α : Type} {bd : EV → Mem → Res (Option D)} {m : Mem} {e g : α → D} : ∀ {l : List α}, (∀ a ∈ l, bd (.d (e a)) m = .ok (some (g a)) m) → compD bd (l.map e) m = .ok (l.map g) m
  | [], _ => rfl
  | a :: l, h => by
    have q := compD_of (l := l) fun b hb => h b (List.mem_cons_of_mem _ hb)
    rw [List.map_cons]
    unfold compD
    rw [h a (by simp)]
    show ((compD bd (l.map e) m).bind fun ds m2 => Res.ok (g a :: ds) m2) = _
    rw [q]
    rfl
/-- a for over a mapped list, by what has been walked -/
theorem forD_of {α : Type} {t : Tg} {b : Env → Mem → S} {e : α → D} {l : List α} (I : List α → Env → Mem → Prop)
    (step : ∀ pre a post, l = pre ++ a :: post → ∀ env m, I pre env m → ∃ env1, asgT t (.d (e a)) env = some env1 ∧ ∃ env2 m2, (b env1 m = .nx env2 m2 ∨ b env1 m = .ct env2 m2) ∧ I (pre ++ [a]) env2 m2)
    {env : Env} {m : Mem} (h0 : I [] env m) : ∃ env' m', forD t b (l.map e) env m = .nx env' m' ∧ I l env' m' := by
  have go : ∀ (post pre : List α) (env : Env) (m : Mem), l = pre ++ post → I pre env m → ∃ env' m', forD t b (post.map e) env m = .nx env' m' ∧ I l env' m' := by
    intro post
    induction post with
    | nil =>
      intro pre env m q h
      have : l = pre := by simpa using q
      subst this
      exact ⟨env, m, rfl, h⟩
    | cons x post ih =>
      intro pre env m q h
      obtain ⟨env1, h1, env2, m2, h2, h3⟩ := step pre x post q env m h
      obtain ⟨env', m', h4, h5⟩ := ih (pre ++ [x]) env2 m2 (by simp [q]) h3
      refine ⟨env', m', ?_, h5⟩
      rw [List.map_cons]
      unfold forD
      rw [h1]
      rcases h2 with h2 | h2 <;> (dsimp only; rw [h2]; exact h4)
  exact go l [] env m rfl h0
end PV
end

section
set_option Elab.async false
set_option linter.all false
set_option maxRecDepth 100000
/-! PVM: more plain lemmas: what lives last in memory, slices, walks. -/
namespace PV
open PySem
theorem mem_last (m : Mem) (x : MO) : (m ++ [x])[m.length]? = some x := by simp
theorem mem_set (x y : MO) : ∀ m : Mem, (m ++ [x]).set m.length y = m ++ [y]
  | [] => rfl
  | a :: m => by
    show a :: (m ++ [x]).set m.length y = _
    rw [mem_set x y m]
    rfl
theorem allD_m {α : Type} (e : α → D) (xs : List α) : allD (xs.map fun a => EV.d (e a)) = some (xs.map e) := by
  have := allD_map (xs.map e)
  rw [List.map_map] at this
  exact this
theorem view_m {α : Type} (e : α → D) (m : Mem) (xs : List α) : view (m ++ [.lst (xs.map fun a => .d (e a))]) (.loc m.length) = some (.list (xs.map e)) := by
  unfold view
  simp only [mem_last, allD_m, Option.map_some]
theorem isLst_m (m : Mem) (xs : List EV) : isLst (m ++ [.lst xs]) (.loc m.length) = true := by
  unfold isLst
  simp only [mem_last]
theorem app_m (m : Mem) (xs : List EV) (x : D) (h : xs.length < LIM) : appIx (m ++ [.lst xs]) (.loc m.length) (.d x) = some (m ++ [.lst (xs ++ [.d x])]) := by
  unfold appIx
  simp only [mem_last, h, inB, decide_true, Bool.and_true, if_true, mem_set]
theorem frz_m {α : Type} (e : α → D) (m : Mem) (xs : List α) : frz (m ++ [.lst (xs.map fun a => .d (e a))]) m.length (.loc m.length) = some (.list (xs.map e)) := by
  simp only [frz, mem_last, Nat.le_refl, if_true, allD_m, Option.map_some]
theorem set_m (m : Mem) (xs : List EV) {k : Nat} (h : k < xs.length) (v : D) : setIx (m ++ [.lst xs]) (.loc m.length) (.int (k : Int)) (.d v) = some (m ++ [.lst (xs.set k (.d v))]) := by
  unfold setIx
  simp only [mem_last, idx_nat h, inB, if_true, Option.map_some, mem_set]
theorem get_m (m : Mem) (xs : List EV) {k : Nat} {v : EV} (h : xs[k]? = some v) : getIx (m ++ [.lst xs]) (.loc m.length) (.int (k : Int)) = some v := by
  unfold getIx
  simp only [mem_last, idx_nat (List.getElem?_eq_some_iff.mp h).1, Option.bind_some, h]
theorem enum_map {α : Type} (e : α → D) : ∀ (l : List α) (k : Nat), enumL (k : Int) (l.map e) = (l.zipIdx k).map fun q => .tuple [.int (q.2 : Int), e q.1]
  | [], _ => rfl
  | z :: l, k => by
    have h := enum_map e l (k + 1)
    simp only [List.map_cons, enumL, List.zipIdx_cons]
    rw [show ((k : Int) + 1) = ((k + 1 : Nat) : Int) by omega, h]
theorem enum_map0 {α : Type} (e : α → D) (l : List α) : enumL 0 (l.map e) = l.zipIdx.map fun q => .tuple [.int (q.2 : Int), e q.1] := enum_map e l 0
theorem zipIdx_at {α : Type} {l : List α} {pre post : List (α × Nat)} {a : α × Nat} (h : l.zipIdx = pre ++ a :: post) : a.2 = pre.length ∧ l[pre.length]? = some a.1 := by
  have h1 : (l.zipIdx)[pre.length]? = some a := by rw [h]; simp
  rw [List.getElem?_zipIdx] at h1
  obtain ⟨z, e, rfl⟩ := map_some h1
  exact ⟨by simp, e⟩
theorem zipIdx_mem {α : Type} {l : List α} {a : α × Nat} (h : a ∈ l.zipIdx) : l[a.2]? = some a.1 := by
  obtain ⟨i, h1⟩ := List.mem_iff_getElem?.mp h
  rw [List.getElem?_zipIdx] at h1
  obtain ⟨z, e, rfl⟩ := map_some h1
  simpa using e
theorem cut_hi {xs : List D} {k : Nat} (h : k ≤ xs.length) : cut xs none (some (k : Int)) = xs.take k := by
  unfold cut
  rw [HT.sIx_none, HT.sIx_nat, Nat.min_eq_left h]
  rfl
theorem cut_lo {xs : List D} {k : Nat} (h : k ≤ xs.length) : cut xs (some (k : Int)) none = xs.drop k := by
  unfold cut
  rw [HT.sIx_none, HT.sIx_nat, Nat.min_eq_left h]
  exact List.take_of_length_le (by simp)
theorem sl_hi {α : Type} {e : α → D} {l : List α} {k : Nat} (h : k ≤ l.length) : cutD (.tuple (l.map e)) none (some (k : Int)) = some (.tuple ((l.take k).map e)) := by
  show some (PyData.tuple (cut (l.map e) none (some (k : Int)))) = _
  rw [cut_hi (by rw [List.length_map]; exact h), List.map_take]
theorem sl_lo {α : Type} {e : α → D} {l : List α} {k : Nat} (h : k ≤ l.length) : cutD (.tuple (l.map e)) (some (k : Int)) none = some (.tuple ((l.drop k).map e)) := by
  show some (PyData.tuple (cut (l.map e) (some (k : Int)) none)) = _
  rw [cut_lo (by rw [List.length_map]; exact h), List.map_drop]
theorem addT_m {α : Type} {e : α → D} {xs ys : List α} (h : xs.length + ys.length ≤ LIM) : op2 .add (.tuple (xs.map e)) (.tuple (ys.map e)) = some (.tuple ((xs ++ ys).map e)) := by
  rw [op2_addT (by simpa using h), List.map_append]
theorem addL_m {α : Type} {e : α → D} {xs ys : List α} (h : xs.length + ys.length ≤ LIM) : op2 .add (.list (xs.map e)) (.list (ys.map e)) = some (.list ((xs ++ ys).map e)) := by
  rw [op2_addL (by simpa using h), List.map_append]
theorem compD_zip {bd : EV → Mem → Res (Option D)} {m : Mem} {g : Int → Int → Int} : ∀ (h w : List Int), (∀ x y, bd (.d (.tuple [.int x, .int y])) m = .ok (some (.int (g x y))) m) → compD bd (zipL (h.map .int) (w.map .int)) m = .ok ((List.zipWith g h w).map .int) m
  | [], _, _ => by simp [zipL, compD]
  | _ :: _, [], _ => by simp [zipL, compD]
  | x :: h, y :: w, k => by
    have ih := compD_zip h w k
    show ((bd (.d (.tuple [.int x, .int y])) m).noex.bind fun o m1 => (compD bd (zipL (h.map .int) (w.map .int)) m1).bind fun ds m2 => .ok (match o with | some d => d :: ds | none => ds) m2) = _
    rw [k x y]
    show ((compD bd (zipL (h.map .int) (w.map .int)) m).bind fun ds m2 => Res.ok (PyData.int (g x y) :: ds) m2) = _
    rw [ih]
    rfl
/-- a comprehension over a list that lives on, while nothing is written -/
theorem compL_lv {bd : EV → Mem → Res (Option D)} {m : Mem} {n : Nat} {ys : List D} {f : D → Option D} (hm : m[n]? = some (.lst (ys.map .d))) (h : ∀ x ∈ ys, bd (.d x) m = .ok (f x) m) : compL (.lv n ys.length) bd (Src.lv n ys.length).len 0 m = .ok (ys.filterMap f) m := by
  have go : ∀ (xs : List D) (i : Nat), ys.drop i = xs → compL (.lv n ys.length) bd xs.length i m = .ok (xs.filterMap f) m := by
    intro xs
    induction xs with
    | nil =>
      intro i _
      have hf : (Src.lv n ys.length).fin m = true := by simp [Src.fin, hm]
      show (if (Src.lv n ys.length).fin m then Res.ok [] m else .bad) = _
      rw [if_pos hf]; rfl
    | cons x xs ih =>
      intro i hd
      have hi : ys[i]? = some x := by
        have : (ys.drop i)[0]? = some x := by rw [hd]; rfl
        simpa using this
      have hd2 : ys.drop (i + 1) = xs := by
        have : (ys.drop i).drop 1 = xs := by rw [hd]; rfl
        simpa [List.drop_drop, Nat.add_comm] using this
      have hg : (Src.lv n ys.length).get m i = some (.d x) := by
        simp [Src.get, hm, hi]
      show (match (Src.lv n ys.length).get m i with | none => Res.bad | some x => _) = _
      rw [hg]
      show ((bd (.d x) m).noex.bind fun o m1 => (compL (.lv n ys.length) bd xs.length (i + 1) m1).bind fun ds m2 => .ok (match o with | some d => d :: ds | none => ds) m2) = _
      rw [h x (by rw [show x = x from rfl]; exact List.mem_of_getElem? hi)]
      show ((compL (.lv n ys.length) bd xs.length (i + 1) m).bind fun ds m2 => Res.ok (match f x with | some d => d :: ds | none => ds) m2) = _
      rw [ih (i + 1) hd2]
      cases e : f x <;> simp [List.filterMap_cons, e]
  exact go ys 0 rfl
theorem compL_lv_map {α : Type} {bd : EV → Mem → Res (Option D)} {m : Mem} {n : Nat} {l : List α} {e g : α → D} (hm : m[n]? = some (.lst (l.map fun a => .d (e a)))) (h : ∀ a ∈ l, bd (.d (e a)) m = .ok (some (g a)) m) : compL (.lv n l.length) bd l.length 0 m = .ok (l.map g) m := by
  have go : ∀ (xs : List α) (i : Nat), l.drop i = xs → compL (.lv n l.length) bd xs.length i m = .ok (xs.map g) m := by
    intro xs
    induction xs with
    | nil =>
      intro i _
      have hf : (Src.lv n l.length).fin m = true := by simp [Src.fin, hm]
      show (if (Src.lv n l.length).fin m then Res.ok [] m else .bad) = _
      rw [if_pos hf]; rfl
    | cons x xs ih =>
      intro i hd
      have hi : l[i]? = some x := by
        have : (l.drop i)[0]? = some x := by rw [hd]; rfl
        simpa using this
      have hd2 : l.drop (i + 1) = xs := by
        have : (l.drop i).drop 1 = xs := by rw [hd]; rfl
        simpa [List.drop_drop, Nat.add_comm] using this
      have hg : (Src.lv n l.length).get m i = some (.d (e x)) := by
        simp [Src.get, hm, hi]
      show (match (Src.lv n l.length).get m i with | none => Res.bad | some x => _) = _
      rw [hg]
      show ((bd (.d (e x)) m).noex.bind fun o m1 => (compL (.lv n l.length) bd xs.length (i + 1) m1).bind fun ds m2 => .ok (match o with | some d => d :: ds | none => ds) m2) = _
      rw [h x (List.mem_of_getElem? hi)]
      show ((compL (.lv n l.length) bd xs.length (i + 1) m).bind fun ds m2 => Res.ok (g x :: ds) m2) = _
      rw [ih (i + 1) hd2]
      rfl
  exact go l 0 rfl
theorem compL_lv_none {α : Type} {bd : EV → Mem → Res (Option D)} {m : Mem} {n : Nat} {l : List α} {e : α → D} (hm : m[n]? = some (.lst (l.map fun a => .d (e a)))) (h : ∀ a ∈ l, bd (.d (e a)) m = .ok none m) : compL (.lv n l.length) bd l.length 0 m = .ok [] m := by
  have hm' : m[n]? = some (.lst ((l.map e).map .d)) := by rw [hm, List.map_map]; rfl
  have := compL_lv (bd := bd) (f := fun _ => none) hm' fun x hx => by
    obtain ⟨a, ha, rfl⟩ := List.mem_map.mp hx
    exact h a ha
  have e0 : (l.map e).filterMap (fun _ => (none : Option D)) = [] := by simp
  rw [e0] at this
  simpa [Src.len] using this
/-! ### lists of ints compared, searched -/
theorem lay_int : ∀ w : List Int, PyData.canLayAll0 (w.map .int) = true
  | [] => rfl
  | i :: w => by simp [PyData.canLayAll0, PyData.canLay0, lay_int w]
theorem depth_int : ∀ w : List Int, PyData.depthAll (w.map .int) = 0
  | [] => rfl
  | i :: w => by simp [PyData.depthAll, PyData.depth, depth_int w]
theorem shapedL (w : List Int) : SeqAt.shaped (.list (w.map .int)) = true := by
  unfold SeqAt.shaped
  simp [PyData.canLay0, PyData.depth, lay_int, depth_int]
theorem shapedT (w : List Int) : SeqAt.shaped (.tuple (w.map .int)) = true := by
  unfold SeqAt.shaped
  simp [PyData.canLay0, PyData.depth, lay_int, depth_int]
theorem shapedI (i : Int) : SeqAt.shaped (.int i) = true := rfl
theorem eqvI : ∀ w w' : List Int, PyData.eqvAll (w.map .int) (w'.map .int) = decide (w = w')
  | [], [] => rfl
  | [], _ :: _ => rfl
  | _ :: _, [] => rfl
  | i :: w, j :: w' => by
    simp only [List.map_cons, PyData.eqvAll, PyData.eqv, eqvI w w', List.cons.injEq]
    by_cases h : i = j <;> simp [h]
theorem op_eqL (a b : List Int) : op2 .eq (.list (a.map .int)) (.list (b.map .int)) = some (.bool (decide (a = b))) := by
  show (if SeqAt.shaped (.list (a.map .int)) && SeqAt.shaped (.list (b.map .int)) then some (PyData.eqv (.list (a.map .int)) (.list (b.map .int))) else none).map PyData.bool = _
  rw [shapedL, shapedL]
  simp only [Bool.and_true, if_true, Option.map_some, PyData.eqv, eqvI]
theorem op_neL (a b : List Int) : op2 .ne (.list (a.map .int)) (.list (b.map .int)) = some (.bool (!decide (a = b))) := by
  show (if SeqAt.shaped (.list (a.map .int)) && SeqAt.shaped (.list (b.map .int)) then some (PyData.eqv (.list (a.map .int)) (.list (b.map .int))) else none).map (fun k => PyData.bool (!k)) = _
  rw [shapedL, shapedL]
  simp only [Bool.and_true, if_true, Option.map_some, PyData.eqv, eqvI]
theorem any_int (x : Int) (xs : List Int) : ((xs.map PyData.int).any fun z => PyData.eqv z (.int x)) = decide (x ∈ xs) := by
  rw [List.any_map]
  induction xs with
  | nil => rfl
  | cons y xs ih =>
    rw [List.any_cons, ih]
    simp only [Function.comp, PyData.eqv, List.mem_cons]
    by_cases h : x = y
    · simp [h]
    · have : (y == x) = false := by simpa using fun e => h e.symm
      simp [h, this]
theorem op_inL (x : Int) (xs : List Int) : op2 .inn (.int x) (.list (xs.map .int)) = some (.bool (decide (x ∈ xs))) := by
  show ((if SeqAt.shaped (.int x) && SeqAt.shaped (.list (xs.map .int)) then some ((xs.map PyData.int).any fun z => PyData.eqv z (.int x)) else none).map PyData.bool) = _
  rw [shapedL, shapedI, any_int]
  rfl
theorem op_inT' (x : Int) (xs : List Int) : op2 .inn (.int x) (.tuple (xs.map .int)) = some (.bool (decide (x ∈ xs))) := by
  show ((if SeqAt.shaped (.int x) && SeqAt.shaped (.tuple (xs.map .int)) then some ((xs.map PyData.int).any fun z => PyData.eqv z (.int x)) else none).map PyData.bool) = _
  rw [shapedT, shapedI, any_int]
  rfl
theorem op_ninL (x : Int) (xs : List Int) : op2 .nin (.int x) (.list (xs.map .int)) = some (.bool (!decide (x ∈ xs))) := by
  show ((if SeqAt.shaped (.int x) && SeqAt.shaped (.list (xs.map .int)) then some ((xs.map PyData.int).any fun z => PyData.eqv z (.int x)) else none).map fun k => PyData.bool (!k)) = _
  rw [shapedL, shapedI, any_int]
  rfl
theorem op_ninT' (x : Int) (xs : List Int) : op2 .nin (.int x) (.tuple (xs.map .int)) = some (.bool (!decide (x ∈ xs))) := by
  show ((if SeqAt.shaped (.int x) && SeqAt.shaped (.tuple (xs.map .int)) then some ((xs.map PyData.int).any fun z => PyData.eqv z (.int x)) else none).map fun k => PyData.bool (!k)) = _
  rw [shapedT, shapedI, any_int]
  rfl
/-- a comprehension with a test, nothing drawn -/
theorem compD_flt {α : Type} {bd : EV → Mem → Res (Option D)} {m : Mem} {e g : α → D} {p : α → Bool} : ∀ {l : List α}, (∀ a ∈ l, bd (.d (e a)) m = .ok (if p a then some (g a) else none) m) → compD bd (l.map e) m = .ok ((l.filter p).map g) m
  | [], _ => rfl
  | a :: l, h => by
    have q := compD_flt (l := l) fun b hb => h b (List.mem_cons_of_mem _ hb)
    rw [List.map_cons]
    unfold compD
    rw [h a (by simp)]
    show ((compD bd (l.map e) m).bind fun ds m2 => Res.ok (match (if p a then some (g a) else none) with | some d => d :: ds | none => ds) m2) = _
    rw [q]
    cases hp : p a <;> simp [hp]
theorem rangeL0 (k : Nat) : rangeL 0 (k : Int) = (List.range k).map fun (i : Nat) => .int (i : Int) := by
  unfold rangeL
  rw [show ((k : Int) - 0).toNat = k by omega]
  refine List.map_congr_left fun i _ => ?_
  rw [Int.zero_add]
theorem rng1_ok {cf : CF} {e : Ex} {env : Env} {m m1 : Mem} {k : Int} (h : evE cf e env m = .ok (.d (.int k)) m1) (h1 : -(2 ^ 62) ≤ k) (h2 : k ≤ (LIM : Int)) : evI cf (.rng1 e) env m = .ok (.fx (rangeL 0 k)) m1 := by
  simp only [evI, h, Res.bind, h1, h2, decide_true, Bool.and_true, if_true]
/-! ### a loop, one turn at a time -/
theorem forD_nx {t : Tg} {b : Env → Mem → S} {x : D} {xs : List D} {env env1 env2 : Env} {m m2 : Mem} (h : asgT t (.d x) env = some env1) (h2 : b env1 m = .nx env2 m2) : forD t b (x :: xs) env m = forD t b xs env2 m2 := by
  rw [forD, h]
  dsimp only
  rw [h2]
theorem forD_rt {t : Tg} {b : Env → Mem → S} {x : D} {xs : List D} {env env1 : Env} {m m2 : Mem} {v : EV} (h : asgT t (.d x) env = some env1) (h2 : b env1 m = .rt v m2) : forD t b (x :: xs) env m = .rt v m2 := by
  rw [forD, h]
  dsimp only
  rw [h2]
theorem forD_ex {t : Tg} {b : Env → Mem → S} {x : D} {xs : List D} {env env1 e2 : Env} {m m2 : Mem} {c : Nat} {fs : List D} (h : asgT t (.d x) env = some env1) (h2 : b env1 m = .ex c fs e2 m2) : forD t b (x :: xs) env m = .ex c fs e2 m2 := by
  rw [forD, h]
  dsimp only
  rw [h2]
/-! ### small things to be shown -/
theorem small_good {i : Int} (h : -(10 ^ 30) ≤ i ∧ i ≤ 10 ^ 30) : good (.int i) = true := by
  have h1 : i.natAbs < 2 ^ 1920 := by
    have h2 : i.natAbs ≤ 10 ^ 30 := by omega
    have h3 : (10 : Nat) ^ 30 < 2 ^ 100 := by decide
    have h4 : (2 : Nat) ^ 100 ≤ 2 ^ 1920 := Nat.pow_le_pow_right (by decide) (by decide)
    omega
  have : i.natAbs.log2 < 1920 := by
    by_cases h0 : i.natAbs = 0
    · rw [h0]; decide
    · exact (Nat.log2_lt h0).mpr h1
  simpa [good] using this
theorem good_ints : ∀ {w : List Int}, (∀ i ∈ w, -(10 ^ 30) ≤ i ∧ i ≤ 10 ^ 30) → goodAll (w.map .int) = true
  | [], _ => rfl
  | i :: w, h => by
    simp only [List.map_cons, goodAll, Bool.and_eq_true]
    exact ⟨small_good (h i (by simp)), good_ints fun j hj => h j (by simp [hj])⟩
theorem sz_ints : ∀ w : List Int, szAll (w.map .int) = w.length
  | [] => rfl
  | i :: w => by simp [szAll, sz, sz_ints w]; omega
theorem goodAll_of {xs : List D} (h : ∀ x ∈ xs, good x = true) : goodAll xs = true := by
  induction xs with
  | nil => rfl
  | cons x xs ih => simp only [goodAll, h x (by simp), ih fun y hy => h y (by simp [hy]), Bool.and_true]
theorem szAll_of {xs : List D} {k : Nat} (h : ∀ x ∈ xs, sz x ≤ k) : szAll xs ≤ k * xs.length := by
  induction xs with
  | nil => exact Nat.zero_le _
  | cons x xs ih =>
    have h1 := ih fun y hy => h y (by simp [hy])
    have h2 := h x (by simp)
    simp only [szAll, List.length_cons, Nat.mul_add, Nat.mul_one]
    omega
theorem depthAll_of {xs : List D} {k : Nat} (h : ∀ x ∈ xs, x.depth ≤ k) : PyData.depthAll xs ≤ k + 1 := by
  induction xs with
  | nil => exact Nat.zero_le _
  | cons x xs ih =>
    have h1 := ih fun y hy => h y (by simp [hy])
    have h2 := h x (by simp)
    simp only [PyData.depthAll]
    omega
end PV
end

section
set_option Elab.async false
set_option linter.all false
set_option maxRecDepth 100000
/-! PVQ: plain lemmas once more: comprehensions by their source, lambdas heard, loops that end early. -/
namespace PV
open PySem
abbrev dN (w : Nat) : D := .int (w : Int)
theorem low_no {T : List Fn} {sub : Nat → Nat → Bool} {n : Nat} {m : Mem} : (callF T sub (n + 3)).c (BIG + BIG + NOPI) [] m = .ok (.d .none) m := (callF_lo (n := n + 1) (Nat.add_comm _ _)).trans callF_no
theorem low_call {T : List Fn} {sub : Nat → Nat → Bool} {n k kk : Nat} {vs : List EV} {m : Mem} (hk : kk = k + (BIG + BIG)) : (callF T sub (n + 3)).c kk vs m = callF T sub (n + 1) k vs m := callF_lo (n := n + 1) hk
theorem heard_eval {cf : CF} {w : HW} {cs : List (Nat × HX)} {kk : Nat} {es : Exs} {env : Env} {m : Mem} {vs : List EV} {x : D} (h1 : ∀ m, cf.c (BIG + BIG + NOPI) [] m = .ok (.d .none) m) (he : evEs cf es env m = .ok vs m) (hc : cf.c kk vs m = .ok (.d x) m) :
    evE cf (.heard w cs (.call kk es)) env m = .ok (.d (hwV w x)) m := by
  simp only [evE, h1, Res.bind, he, hc, frzE, List.take_length]
theorem heard_evalX {cf : CF} {w : HW} {cs : List (Nat × HX)} {kk c : Nat} {es : Exs} {env : Env} {m : Mem} {vs : List EV} {fs : List D} {y : D} (h1 : ∀ m, cf.c (BIG + BIG + NOPI) [] m = .ok (.d .none) m) (he : evEs cf es env m = .ok vs m) (hc : cf.c kk vs m = .ex c fs m) (hy : heardC cf.s c fs m.length m cs = .ok (.d y) (m.take m.length)) :
    evE cf (.heard w cs (.call kk es)) env m = .ok (.d y) m := by
  simp only [evE, h1, Res.bind, he, hc, hy, List.take_length]
/-- a turn of a comprehension -/
theorem comp_src {cf : CF} {t : Tg} {it : It} {vs : List Nat} {q e : Ex} {env : Env} {m m1 : Mem} {src : Src} (hi : evI cf it env m = .ok src m1) : evL cf (.comp t it vs q e) env m = compL src (turnB t (wipeE env vs) (fun e2 m2 => evE cf q e2 m2) (fun e2 m2 => evE cf e e2 m2)) src.len 0 m1 := by
  show ((evI cf it env m).bind fun xs m1 => compL xs _ xs.len 0 m1) = _
  rw [hi]
  rfl
theorem comp_fx {cf : CF} {t : Tg} {it : It} {vs : List Nat} {q e : Ex} {env : Env} {m m1 : Mem} {xs : List D} (hi : evI cf it env m = .ok (.fx xs) m1) : evL cf (.comp t it vs q e) env m = compD (turnB t (wipeE env vs) (fun e2 m2 => evE cf q e2 m2) (fun e2 m2 => evE cf e e2 m2)) xs m1 :=
  (comp_src hi).trans (compL_fx _ _ _)
/-- .. of two clauses -/
theorem catL_drop {bd : EV → Mem → Res (List D)} {m : Mem} {α : Type} {e : α → D} {g : α → List D} (ys : List α) : ∀ (xs : List α) (i : Nat), ys.drop i = xs → (∀ a ∈ xs, bd (.d (e a)) m = .ok (g a) m) → catL (.fx (ys.map e)) bd xs.length i m = .ok (xs.flatMap g) m
  | [], i, _, _ => rfl
  | x :: xs, i, h, hb => by
    have hi : ys[i]? = some x := by
      have : (ys.drop i)[0]? = some x := by rw [h]; rfl
      simpa using this
    have hd : ys.drop (i + 1) = xs := by
      have : (ys.drop i).drop 1 = xs := by rw [h]; rfl
      simpa [List.drop_drop, Nat.add_comm] using this
    have hg : (Src.fx (ys.map e)).get m i = some (.d (e x)) := by
      show ((ys.map e)[i]?).map EV.d = _
      rw [List.getElem?_map, hi]; rfl
    have ih := catL_drop (bd := bd) (m := m) (e := e) (g := g) ys xs (i + 1) hd fun a ha => hb a (by simp [ha])
    show (match (Src.fx (ys.map e)).get m i with | none => Res.bad | some x => (bd x m).noex.bind fun ds m1 => (catL (.fx (ys.map e)) bd xs.length (i + 1) m1).noex.bind fun es m2 => Res.ok (ds ++ es) m2) = _
    rw [hg]
    show ((bd (.d (e x)) m).noex.bind fun ds m1 => (catL (.fx (ys.map e)) bd xs.length (i + 1) m1).noex.bind fun es m2 => Res.ok (ds ++ es) m2) = _
    rw [hb x (by simp)]
    show ((catL (.fx (ys.map e)) bd xs.length (i + 1) m).noex.bind fun es m2 => .ok (g x ++ es) m2) = _
    rw [ih]
    rfl
theorem comp2_fx {α : Type} {cf : CF} {t t1 : Tg} {it it1 : It} {vs vs1 : List Nat} {q q1 e : Ex} {env : Env} {m : Mem} {f : α → D} {g : α → List D} {l : List α} (hi : evI cf it env m = .ok (.fx (l.map f)) m)
    (hb : ∀ a ∈ l, turnA t (wipeE env vs) (fun e2 m2 => evE cf q e2 m2) (fun e2 m2 => evI cf it1 e2 m2) (fun e2 => turnB t1 (wipeE e2 vs1) (fun e3 m3 => evE cf q1 e3 m3) (fun e3 m3 => evE cf e e3 m3)) (.d (f a)) m = .ok (g a) m) (hl : (l.flatMap g).length ≤ LIM) :
    evL cf (.comp2 t it vs q t1 it1 vs1 q1 e) env m = .ok (l.flatMap g) m := by
  have c := catL_drop l l 0 rfl hb
  simp only [evL, hi, Res.bind]
  have e0 : (Src.fx (l.map f)).len = l.length := List.length_map _
  rw [e0, c]
  show (if decide ((l.flatMap g).length ≤ LIM) then Res.ok (l.flatMap g) m else .bad) = _
  rw [decide_eq_true hl]
  rfl
/-! ### places in data -/
theorem get_l {s : List D} {k : Nat} {x : D} (h : s[k]? = some x) (m : Mem) : getIx m (.d (.list s)) (.int (k : Int)) = some (.d x) := by
  show ((idx (k : Int) s.length).bind fun j => (s[j]?).map EV.d) = _
  rw [idx_nat (List.getElem?_eq_some_iff.mp h).1, Option.bind_some, h]
  rfl
theorem get_t {s : List D} {k : Nat} {x : D} (h : s[k]? = some x) (m : Mem) : getIx m (.d (.tuple s)) (.int (k : Int)) = some (.d x) := by
  show ((idx (k : Int) s.length).bind fun j => (s[j]?).map EV.d) = _
  rw [idx_nat (List.getElem?_eq_some_iff.mp h).1, Option.bind_some, h]
  rfl
theorem get_i {u : List Int} {k : Nat} {x : Int} (h : u[k]? = some x) (m : Mem) : getIx m (.d (.tuple (u.map .int))) (.int (k : Int)) = some (.d (.int x)) := get_t (by rw [List.getElem?_map, h]; rfl) m
theorem get_0 (x y : D) (m : Mem) : getIx m (.d (.tuple [x, y])) (.int 0) = some (.d x) := get_t (k := 0) rfl m
theorem get_1 (x y : D) (m : Mem) : getIx m (.d (.tuple [x, y])) (.int 1) = some (.d y) := get_t (k := 1) rfl m
theorem len_2 (x y : D) : op1 .len (.tuple [x, y]) = some (.int 2) := rfl
theorem len_0 : op1 .len (.list []) = some (.int 0) := rfl
theorem d22 : decide ((2 : Int) = 2) = true := rfl
theorem d00 : decide ((0 : Int) < 0) = false := rfl
theorem d0e : decide ((0 : Int) = 0) = true := rfl
theorem fin_ex (n c : Nat) (fs : List D) (e : Env) (m : Mem) : fin n (.ex c fs e m) = .ex c fs (m.take n) := rfl
/-! ### the greatest, the least -/
def maxI : List Int → Int
  | i :: is => is.foldl max i
  | [] => 0
def minI : List Int → Int
  | i :: is => is.foldl min i
  | [] => 0
theorem op_maxL {is : List Int} (h : is ≠ []) : op1 .max (.list (is.map .int)) = some (.int (maxI is)) := by
  cases is with
  | nil => exact absurd rfl h
  | cons i is =>
    show (match (seqD (.list _)).bind intsD with | some (i :: is) => some (PyData.int (is.foldl max i)) | _ => none) = _
    have : (seqD (.list ((i :: is).map PyData.int))).bind intsD = some (i :: is) := intsD_map _
    rw [this]
    rfl
theorem op_minL {is : List Int} (h : is ≠ []) : op1 .min (.list (is.map .int)) = some (.int (minI is)) := by
  cases is with
  | nil => exact absurd rfl h
  | cons i is =>
    show (match (seqD (.list _)).bind intsD with | some (i :: is) => some (PyData.int (is.foldl min i)) | _ => none) = _
    have : (seqD (.list ((i :: is).map PyData.int))).bind intsD = some (i :: is) := intsD_map _
    rw [this]
    rfl
theorem op_minT {is : List Int} (h : is ≠ []) : op1 .min (.tuple (is.map .int)) = some (.int (minI is)) := by
  cases is with
  | nil => exact absurd rfl h
  | cons i is =>
    show (match (seqD (.tuple _)).bind intsD with | some (i :: is) => some (PyData.int (is.foldl min i)) | _ => none) = _
    have : (seqD (.tuple ((i :: is).map PyData.int))).bind intsD = some (i :: is) := intsD_map _
    rw [this]
    rfl
theorem fold_max_le : ∀ (is : List Int) (i r : Int), is.foldl max i ≤ r ↔ i ≤ r ∧ ∀ j ∈ is, j ≤ r
  | [], i, r => by simp
  | j :: is, i, r => by
    rw [List.foldl_cons, fold_max_le is (max i j) r, List.forall_mem_cons, Int.max_le, and_assoc]
theorem maxI_le {is : List Int} (h : is ≠ []) (r : Int) : maxI is ≤ r ↔ ∀ j ∈ is, j ≤ r := by
  cases is with
  | nil => exact absurd rfl h
  | cons i is => rw [List.forall_mem_cons]; exact fold_max_le is i r
theorem fold_min_le : ∀ (is : List Int) (i r : Int), r ≤ is.foldl min i ↔ r ≤ i ∧ ∀ j ∈ is, r ≤ j
  | [], i, r => by simp
  | j :: is, i, r => by
    rw [List.foldl_cons, fold_min_le is (min i j) r, List.forall_mem_cons, Int.le_min, and_assoc]
theorem le_minI {is : List Int} (h : is ≠ []) (r : Int) : r ≤ minI is ↔ ∀ j ∈ is, r ≤ j := by
  cases is with
  | nil => exact absurd rfl h
  | cons i is => rw [List.forall_mem_cons]; exact fold_min_le is i r
/-! ### a loop that may end with an answer -/
theorem forD_all {α : Type} {t : Tg} {b : Env → Mem → S} {e : α → D} {ok : α → Bool} {v : EV} {m : Mem} {l : List α} (I : Env → Prop)
    (step : ∀ a ∈ l, ∀ env, I env → ∃ env1, asgT t (.d (e a)) env = some env1 ∧ ((ok a = true ∧ ∃ env2, b env1 m = .nx env2 m ∧ I env2) ∨ (ok a = false ∧ b env1 m = .rt v m))) {env : Env} (h0 : I env) :
    (l.all ok = true ∧ ∃ env', forD t b (l.map e) env m = .nx env' m ∧ I env') ∨ (l.all ok = false ∧ forD t b (l.map e) env m = .rt v m) := by
  induction l generalizing env with
  | nil => exact .inl ⟨rfl, env, rfl, h0⟩
  | cons a l ih =>
    obtain ⟨env1, h1, h2⟩ := step a (by simp) env h0
    rcases h2 with ⟨ha, env2, h2, h3⟩ | ⟨ha, h2⟩
    · rcases ih (fun c hc => step c (by simp [hc])) h3 with ⟨g1, env', g2, g3⟩ | ⟨g1, g2⟩
      · exact .inl ⟨by rw [List.all_cons, ha, g1]; rfl, env', (forD_nx h1 h2).trans g2, g3⟩
      · exact .inr ⟨by rw [List.all_cons, ha, g1]; rfl, (forD_nx h1 h2).trans g2⟩
    · exact .inr ⟨by rw [List.all_cons, ha]; rfl, forD_rt h1 h2⟩
/-- how many things fail -/
theorem ones_len {α : Type} (l : List α) (p : α → Bool) : op1 .len (.list ((l.filter p).map fun _ => PyData.int 1)) = some (.int ((l.filter p).length : Int)) := by
  show some (PyData.int ((((l.filter p).map fun _ => PyData.int 1).length : Nat) : Int)) = _
  rw [List.length_map]
theorem flt_zero {α : Type} {l : List α} {p : α → Bool} : ((l.filter p).length : Int) = 0 ↔ ∀ a ∈ l, p a = false := by
  constructor
  · intro h a ha
    have h0 : l.filter p = [] := List.eq_nil_of_length_eq_zero (by omega)
    have := List.filter_eq_nil_iff.mp h0 a ha
    cases hp : p a with
    | false => rfl
    | true => exact absurd hp this
  · intro h
    have h0 : l.filter p = [] := List.filter_eq_nil_iff.mpr fun a ha => by rw [h a ha]; simp
    rw [h0]
    rfl
end PV
end

section
set_option Elab.async false
set_option linter.all false
set_option maxRecDepth 100000
/-! PVZ: placings and lots, in plain Lean. -/
namespace PV
namespace Mt
abbrev Ts := List (List Int)
def room (rs : List Int) (h : Int) : Int := rs.getD h.toNat 0
def at' (T : Ts) (t : Nat) : List Int := T.getD t []
theorem idx_filter {α : Type} (p : α → Bool) (d : α) (B : List α) : ((List.range B.length).filter fun i => p (B.getD i d)).length = (B.filter p).length := by
  have e : B = (List.range B.length).map (B.getD · d) := by
    refine List.ext_getElem (by simp) fun i h1 h2 => ?_
    simp [List.getD_eq_getElem?_getD, h1]
  have : (B.filter p).length = (((List.range B.length).map (B.getD · d)).filter p).length := by rw [← e]
  rw [this, List.filter_map, List.length_map]
  rfl
theorem nodup_sub {α : Type} [DecidableEq α] : ∀ {L M : List α}, L.Nodup → (∀ x ∈ L, x ∈ M) → L.length ≤ M.length
  | [], _, _, _ => Nat.zero_le _
  | x :: L, M, h, s => by
    obtain ⟨h1, h2⟩ := List.nodup_cons.mp h
    have hx := s x (by simp)
    have ih := nodup_sub (L := L) (M := M.erase x) h2 fun y hy => (List.mem_erase_of_ne (fun e => h1 (by rw [← e]; exact hy))).mpr (s y (by simp [hy]))
    rw [List.length_erase_of_mem hx] at ih
    have := List.length_pos_of_mem hx
    rw [List.length_cons]
    omega
theorem nodup_flt {α : Type} {L : List α} (p : α → Bool) (h : L.Nodup) : (L.filter p).Nodup := h.sublist List.filter_sublist
theorem sum_ite (a : Int) : ∀ {hs : List Int}, hs.Nodup → (hs.map fun h => if a = h then (1 : Nat) else 0).sum = if a ∈ hs then 1 else 0
  | [], _ => by simp
  | b :: hs, h => by
    obtain ⟨h1, h2⟩ := List.nodup_cons.mp h
    rw [List.map_cons, List.sum_cons, sum_ite a h2]
    by_cases e : a = b
    · subst e; simp [h1]
    · simp [e]
theorem sum_add (f g : Int → Nat) : ∀ hs : List Int, (hs.map fun h => f h + g h).sum = (hs.map f).sum + (hs.map g).sum
  | [] => rfl
  | b :: hs => by simp only [List.map_cons, List.sum_cons, sum_add f g hs]; omega
theorem sum_count {hs : List Int} (h : hs.Nodup) : ∀ A : List Int, (hs.map A.count).sum = (A.filter fun x => decide (x ∈ hs)).length
  | [] => by
    have : ∀ hs : List Int, (hs.map ([] : List Int).count).sum = 0 := fun hs => by
      induction hs with
      | nil => rfl
      | cons a hs ih => rw [List.map_cons, List.sum_cons, ih]; rfl
    exact this hs
  | a :: A => by
    have e : hs.map (a :: A).count = hs.map fun h => A.count h + if a = h then 1 else 0 := by
      refine List.map_congr_left fun x _ => ?_
      rw [List.count_cons]
      by_cases q : a = x <;> simp [q]
    rw [e, sum_add, sum_count h A, sum_ite a h]
    by_cases q : a ∈ hs <;> simp [q]
/-- hours of their tasks, with rooms -/
structure Plc (T : Ts) (rs A : List Int) : Prop where
  mem : ∀ (i : Nat) (x : Int), A[i]? = some x → x ∈ at' T i
  room : ∀ x ∈ A, (A.count x : Int) ≤ room rs x
/-- tasks and rooms as they are let -/
structure Tk (T : Ts) (rs : List Int) : Prop where
  lo : 1 ≤ T.length
  hi : T.length ≤ 60
  few : ∀ l ∈ T, l.length ≤ 100
  asc : ∀ l ∈ T, l.Pairwise (· < ·)
  hr : ∀ l ∈ T, ∀ h ∈ l, 0 ≤ h ∧ h < rs.length
  rlo : 1 ≤ rs.length
  rhi : rs.length ≤ 100
  rall : ∀ r ∈ rs, 0 ≤ r ∧ r ≤ 60
theorem at_mem {T : Ts} {t : Nat} {x : Int} (h : x ∈ at' T t) : t < T.length ∧ at' T t ∈ T := by
  unfold at' at h ⊢
  rw [List.getD_eq_getElem?_getD] at h ⊢
  cases e : T[t]? with
  | none => rw [e] at h; cases h
  | some l => exact ⟨(List.getElem?_eq_some_iff.mp e).1, List.mem_of_getElem? e⟩
theorem at_lt {T : Ts} {t : Nat} (h : t < T.length) : T[t]? = some (at' T t) := by
  unfold at'
  rw [List.getD_eq_getElem?_getD, List.getElem?_eq_getElem h]
  rfl
theorem Tk.room0 {T : Ts} {rs : List Int} (h : Tk T rs) (x : Int) : 0 ≤ room rs x := by
  unfold Mt.room
  rw [List.getD_eq_getElem?_getD]
  cases e : rs[x.toNat]? with
  | none => exact Int.le_refl _
  | some r => exact (h.rall r (List.mem_of_getElem? e)).1
/-! ### a lot -/
def hoursL (T : Ts) (L : List Nat) : List Int := sortU (L.map (at' T)).flatten
theorem hoursL_mem {T : Ts} {L : List Nat} {x : Int} : x ∈ hoursL T L ↔ ∃ t ∈ L, x ∈ at' T t := by
  unfold hoursL
  rw [sortU_mem, List.mem_flatten]
  constructor
  · rintro ⟨l, h1, h2⟩
    obtain ⟨t, ht, rfl⟩ := List.mem_map.mp h1
    exact ⟨t, ht, h2⟩
  · rintro ⟨t, ht, h2⟩
    exact ⟨_, List.mem_map.mpr ⟨t, ht, rfl⟩, h2⟩
structure Lot (T : Ts) (rs : List Int) (L : List Nat) : Prop where
  ne : L ≠ []
  asc : L.Pairwise (· < ·)
  lt : ∀ t ∈ L, t < T.length
  few : ((hoursL T L).map (room rs)).sum < L.length
theorem sum_le {f g : Int → Int} : ∀ {hs : List Int}, (∀ h ∈ hs, f h ≤ g h) → (hs.map f).sum ≤ (hs.map g).sum
  | [], _ => Int.le_refl _
  | a :: hs, h => by
    have h1 := h a (by simp)
    have h2 := sum_le (hs := hs) fun b hb => h b (by simp [hb])
    simp only [List.map_cons, List.sum_cons]
    omega
theorem sum_cast (f : Int → Nat) : ∀ hs : List Int, (hs.map fun h => (f h : Int)).sum = (((hs.map f).sum : Nat) : Int)
  | [] => rfl
  | a :: hs => by simp only [List.map_cons, List.sum_cons, sum_cast f hs]; omega
theorem Lot.none {T : Ts} {rs : List Int} (hT : Tk T rs) {L : List Nat} (h : Lot T rs L) {B : List Int} (hB : Plc T rs B) (hl : B.length = T.length) : False := by
  have nd : (hoursL T L).Nodup := nodup_asc (sortU_asc _)
  have c1 := sum_count nd B
  have c2 := idx_filter (fun x => decide (x ∈ hoursL T L)) 0 B
  have c3 : L.length ≤ ((List.range B.length).filter fun i => decide (B.getD i 0 ∈ hoursL T L)).length := by
    refine nodup_sub (h.asc.imp fun q => Nat.ne_of_lt q) fun t ht => ?_
    have lt := h.lt t ht
    have lt2 : t < B.length := by omega
    refine List.mem_filter.mpr ⟨List.mem_range.mpr lt2, decide_eq_true (hoursL_mem.mpr ⟨t, ht, ?_⟩)⟩
    exact hB.mem t _ (by rw [List.getD_eq_getElem?_getD, List.getElem?_eq_getElem lt2]; rfl)
  have c4 : ((hoursL T L).map fun x => (B.count x : Int)).sum ≤ ((hoursL T L).map (room rs)).sum := sum_le fun x _ => by
    by_cases hx : x ∈ B
    · exact hB.room x hx
    · rw [List.count_eq_zero_of_not_mem hx]
      exact hT.room0 x
  rw [sum_cast] at c4
  have := h.few
  omega
/-! ### the way -/
/-- what has been reached: tasks R, hours C with who has them -/
structure Rch (T : Ts) (rs A : List Int) (R : List Nat) (C : List (Int × Nat)) : Prop where
  head : R[0]? = some A.length
  nd : R.Nodup
  low : ∀ t ∈ R, t ≤ A.length
  keys : (C.map (·.1)).Nodup
  cm : ∀ p ∈ C, p.2 ∈ R ∧ p.1 ∈ at' T p.2
  back : ∀ (i t : Nat), R[i]? = some t → t ≠ A.length → ∃ (x : Int) (j s : Nat), A[t]? = some x ∧ (x, s) ∈ C ∧ R[j]? = some s ∧ j < i
theorem get_inj {α : Type} {R : List α} (nd : R.Nodup) {i j : Nat} {t : α} (h1 : R[i]? = some t) (h2 : R[j]? = some t) : i = j := by
  obtain ⟨l1, e1⟩ := List.getElem?_eq_some_iff.mp h1
  obtain ⟨l2, e2⟩ := List.getElem?_eq_some_iff.mp h2
  have p := List.pairwise_iff_getElem.mp nd
  rcases Nat.lt_trichotomy i j with h | h | h
  · exact absurd (e1.trans e2.symm) (p i j l1 l2 h)
  · exact h
  · exact absurd (e2.trans e1.symm) (p j i l2 l1 h)
/-- led back so far -/
structure Led (T : Ts) (A : List Int) (R : List Nat) (x0 : Int) (A' : List Int) (x : Int) (here i : Nat) : Prop where
  len : A'.length = A.length
  pos : R[i]? = some here
  mem : x ∈ at' T here
  agree : ∀ (j t : Nat), j ≤ i → R[j]? = some t → A'[t]? = A[t]?
  all : ∀ (t : Nat) (y : Int), A'[t]? = some y → y ∈ at' T t
  cnt : ∀ y : Int, A'.count y + (if x = y then 1 else 0) = A.count y + (if x0 = y then 1 else 0)
theorem count_set' {A : List Int} {t : Nat} {o : Int} (h : A[t]? = some o) (x y : Int) : (A.set t x).count y + (if o = y then 1 else 0) = A.count y + (if x = y then 1 else 0) := by
  induction A generalizing t with
  | nil => simp at h
  | cons a A ih =>
    cases t with
    | zero =>
      simp at h
      subst h
      simp only [List.set_cons_zero, List.count_cons]
      by_cases h1 : x = y <;> by_cases h2 : a = y <;> simp [h1, h2]
    | succ t =>
      have := ih (by simpa using h)
      simp only [List.set_cons_succ, List.count_cons]
      omega
theorem Led.step {T : Ts} {rs A : List Int} {R : List Nat} {C : List (Int × Nat)} (hR : Rch T rs A R C) {x0 : Int} {A' : List Int} {x : Int} {here i : Nat} (h : Led T A R x0 A' x here i) (hne : here ≠ A.length) :
    ∃ (old : Int) (s j : Nat), A'[here]? = some old ∧ (old, s) ∈ C ∧ j < i ∧ Led T A R x0 (A'.set here x) old s j := by
  obtain ⟨old, j, s, e1, e2, e3, e4⟩ := hR.back i here h.pos hne
  have e5 : A'[here]? = some old := by rw [h.agree i here (Nat.le_refl _) h.pos]; exact e1
  refine ⟨old, s, j, e5, e2, e4, ⟨by rw [List.length_set]; exact h.len, e3, (hR.cm _ e2).2, fun j' t hj ht => ?_, fun t y hy => ?_, fun y => ?_⟩⟩
  · have : here ≠ t := by
      intro e
      subst e
      have := get_inj hR.nd h.pos ht
      omega
    rw [List.getElem?_set_ne this]
    exact h.agree j' t (by omega) ht
  · by_cases e : here = t
    · subst e
      have hl := (List.getElem?_eq_some_iff.mp e5).1
      rw [List.getElem?_set_self hl] at hy
      cases hy
      exact h.mem
    · rw [List.getElem?_set_ne e] at hy
      exact h.all t y hy
  · have := count_set' e5 x y
    have := h.cnt y
    omega
theorem Led.done {T : Ts} {rs A : List Int} {R : List Nat} {x0 : Int} {A' : List Int} {x : Int} {here i : Nat} (h : Led T A R x0 A' x here i) (he : here = A.length) (hA : Plc T rs A) (hf : (A.count x0 : Int) < room rs x0) :
    Plc T rs (A' ++ [x]) := by
  have hx := h.mem
  rw [he] at hx
  refine ⟨fun t y hy => ?_, fun y hy => ?_⟩
  · by_cases lt : t < A'.length
    · rw [List.getElem?_append_left lt] at hy
      exact h.all t y hy
    · rw [List.getElem?_append_right (by omega)] at hy
      have e : t - A'.length = 0 := by
        cases q : t - A'.length with
        | zero => rfl
        | succ n => rw [q] at hy; simp at hy
      rw [e] at hy
      simp at hy
      subst hy
      have : t = A.length := by have := h.len; omega
      rw [this]
      exact hx
  · have c := h.cnt y
    have e : (A' ++ [x]).count y = A'.count y + (if x = y then 1 else 0) := by
      rw [List.count_append]
      congr 1
      by_cases q : x = y <;> simp [q]
    rw [e, c]
    by_cases q : x0 = y
    · subst q
      simp only [if_true]
      omega
    · simp only [if_neg q, Nat.add_zero]
      have h1 : 0 < (A' ++ [x]).count y := List.count_pos_iff.mpr hy
      rw [e, c, if_neg q] at h1
      exact hA.room y (List.count_pos_iff.mp (by omega))
theorem Led.start {T : Ts} {rs A : List Int} {R : List Nat} {C : List (Int × Nat)} (hR : Rch T rs A R C) (hA : Plc T rs A) {x0 : Int} {s : Nat} (hm : (x0, s) ∈ C) : ∃ i, Led T A R x0 A x0 s i := by
  obtain ⟨h1, h2⟩ := hR.cm _ hm
  obtain ⟨i, hi⟩ := List.mem_iff_getElem?.mp h1
  exact ⟨i, rfl, hi, h2, fun _ _ _ _ => rfl, hA.mem, fun _ => rfl⟩
/-! ### what has been walked -/
structure Wlk (T : Ts) (rs A : List Int) (R : List Nat) (C : List (Int × Nat)) : Prop where
  r : Rch T rs A R C
  all : ∀ p ∈ C, ∀ t : Nat, A[t]? = some p.1 → t ∈ R
  full : ∀ p ∈ C, room rs p.1 ≤ A.count p.1
def heldL (A : List Int) (x : Int) : List Nat := (List.range A.length).filter fun t => decide (A.getD t 0 = x)
theorem heldL_mem {A : List Int} {x : Int} {t : Nat} : t ∈ heldL A x ↔ A[t]? = some x := by
  unfold heldL
  rw [List.mem_filter, List.mem_range, decide_eq_true_eq, List.getD_eq_getElem?_getD]
  constructor
  · rintro ⟨h1, h2⟩
    rw [List.getElem?_eq_getElem h1] at h2 ⊢
    simpa using h2
  · intro h
    obtain ⟨h1, h2⟩ := List.getElem?_eq_some_iff.mp h
    exact ⟨h1, by rw [h]; rfl⟩
theorem heldL_len (A : List Int) (x : Int) : (heldL A x).length = A.count x := by
  have := idx_filter (fun y => decide (y = x)) 0 A
  unfold heldL
  rw [this, List.count_eq_length_filter]
  rfl
theorem Rch.start (T : Ts) (rs A : List Int) : Wlk T rs A [A.length] [] where
  r := ⟨rfl, by simp, by simp, by simp, (fun _ h => nomatch h), fun i t h1 h2 => by
    cases i with
    | zero => simp at h1; exact absurd h1.symm h2
    | succ i => simp at h1⟩
  all := (fun _ h => nomatch h)
  full := (fun _ h => nomatch h)
/-- an hour more -/
theorem Rch.more {T : Ts} {rs A : List Int} {R : List Nat} {C : List (Int × Nat)} (h : Rch T rs A R C) {x : Int} {s : Nat} (hs : s ∈ R) (hx : x ∈ at' T s) (hn : x ∉ C.map (·.1)) : Rch T rs A R (C ++ [(x, s)]) where
  head := h.head
  nd := h.nd
  low := h.low
  keys := by
    rw [List.map_append]
    refine List.nodup_append.mpr ⟨h.keys, by simp, fun a ha b hb e => ?_⟩
    simp at hb
    subst hb e
    exact hn ha
  cm := fun p hp => by
    rcases List.mem_append.mp hp with hp | hp
    · exact h.cm p hp
    · simp at hp
      subst hp
      exact ⟨hs, hx⟩
  back := fun i t h1 h2 => by
    obtain ⟨y, j, s', e1, e2, e3, e4⟩ := h.back i t h1 h2
    exact ⟨y, j, s', e1, by simp [e2], e3, e4⟩
theorem Wlk.more {T : Ts} {rs A : List Int} {R : List Nat} {C : List (Int × Nat)} (h : Wlk T rs A R C) {x : Int} {s : Nat} (hs : s ∈ R) (hx : x ∈ at' T s) (hn : x ∉ C.map (·.1)) (hf : room rs x ≤ A.count x) : Wlk T rs A (R ++ heldL A x) (C ++ [(x, s)]) := by
  have m := h.r.more hs hx hn
  have fresh : ∀ t ∈ heldL A x, t ∉ R := fun t ht hR => by
    have e := heldL_mem.mp ht
    have lt := (List.getElem?_eq_some_iff.mp e).1
    obtain ⟨i, hi⟩ := List.mem_iff_getElem?.mp hR
    obtain ⟨y, j, s', e1, e2, _⟩ := h.r.back i t hi (by omega)
    rw [e] at e1
    cases e1
    exact hn (List.mem_map.mpr ⟨_, e2, rfl⟩)
  refine ⟨⟨?_, ?_, ?_, m.keys, ?_, ?_⟩, ?_, ?_⟩
  · have := (List.getElem?_eq_some_iff.mp h.r.head).1
    rw [List.getElem?_append_left this]
    exact h.r.head
  · refine List.nodup_append.mpr ⟨h.r.nd, nodup_flt _ List.nodup_range, fun a ha b hb e => ?_⟩
    subst e
    exact fresh a hb ha
  · intro t ht
    rcases List.mem_append.mp ht with ht | ht
    · exact h.r.low t ht
    · exact Nat.le_of_lt (List.getElem?_eq_some_iff.mp (heldL_mem.mp ht)).1
  · intro p hp
    obtain ⟨a, b⟩ := m.cm p hp
    exact ⟨by simp [a], b⟩
  · intro i t h1 h2
    by_cases lt : i < R.length
    · rw [List.getElem?_append_left lt] at h1
      obtain ⟨y, j, s', e1, e2, e3, e4⟩ := m.back i t h1 h2
      exact ⟨y, j, s', e1, e2, by rw [List.getElem?_append_left (by omega)]; exact e3, e4⟩
    · rw [List.getElem?_append_right (by omega)] at h1
      have e := heldL_mem.mp (List.mem_of_getElem? h1)
      obtain ⟨j, hj⟩ := List.mem_iff_getElem?.mp hs
      have jl := (List.getElem?_eq_some_iff.mp hj).1
      exact ⟨x, j, s, e, by simp, by rw [List.getElem?_append_left jl]; exact hj, by omega⟩
  · intro p hp t ht
    rcases List.mem_append.mp hp with hp | hp
    · exact List.mem_append.mpr (.inl (h.all p hp t ht))
    · simp at hp
      subst hp
      exact List.mem_append.mpr (.inr (heldL_mem.mpr ht))
  · intro p hp
    rcases List.mem_append.mp hp with hp | hp
    · exact h.full p hp
    · simp at hp
      subst hp
      exact hf
theorem Rch.few {T : Ts} {rs A : List Int} {R : List Nat} {C : List (Int × Nat)} (h : Rch T rs A R C) : R.length ≤ A.length + 1 := by
  have := nodup_sub h.nd (M := List.range (A.length + 1)) fun t ht => List.mem_range.mpr (by have := h.low t ht; omega)
  simpa using this
theorem Rch.keys_few {T : Ts} {rs A : List Int} {R : List Nat} {C : List (Int × Nat)} (hT : Tk T rs) (h : Rch T rs A R C) : C.length ≤ 100 := by
  have h1 : (C.map fun p => p.1.toNat).Nodup := by
    have : C.map (fun p => p.1.toNat) = (C.map (·.1)).map Int.toNat := by rw [List.map_map]; rfl
    rw [this]
    unfold List.Nodup
    rw [List.pairwise_map]
    refine List.Pairwise.imp_of_mem ?_ h.keys
    intro a b ha hb hne e
    obtain ⟨p, hp, rfl⟩ := List.mem_map.mp ha
    obtain ⟨q, hq, rfl⟩ := List.mem_map.mp hb
    have k1 := (h.cm p hp).2
    have k2 := (h.cm q hq).2
    have b1 := (hT.hr _ (at_mem k1).2 _ k1).1
    have b2 := (hT.hr _ (at_mem k2).2 _ k2).1
    omega
  have := nodup_sub h1 (M := List.range 100) fun t ht => by
    obtain ⟨p, hp, rfl⟩ := List.mem_map.mp ht
    have k1 := (h.cm p hp).2
    have b1 := hT.hr _ (at_mem k1).2 _ k1
    have := hT.rhi
    exact List.mem_range.mpr (by omega)
  simpa using this
/-- nothing more to be reached: a lot -/
theorem Wlk.lot {T : Ts} {rs A : List Int} {R : List Nat} {C : List (Int × Nat)} (hT : Tk T rs) (h : Wlk T rs A R C) (hl : A.length < T.length) (hd : ∀ t ∈ R, ∀ x ∈ at' T t, x ∈ C.map (·.1)) {L : List Nat} (hL : L.Perm R) (ha : L.Pairwise (· < ·)) : Lot T rs L := by
  have nd : (hoursL T L).Nodup := nodup_asc (sortU_asc _)
  have hk : ∀ x, x ∈ hoursL T L → ∃ s, (x, s) ∈ C := fun x hx => by
    obtain ⟨t, ht, hx⟩ := hoursL_mem.mp hx
    obtain ⟨p, hp, e⟩ := List.mem_map.mp (hd t (hL.mem_iff.mp ht) x hx)
    exact ⟨p.2, by rw [← e]; exact hp⟩
  have h0 : A.length ∈ R := List.mem_of_getElem? h.r.head
  refine ⟨fun e => ?_, ha, fun t ht => ?_, ?_⟩
  · subst e
    have := hL.length_eq
    have := List.length_pos_of_mem h0
    simp at *
    omega
  · have := h.r.low t (hL.mem_iff.mp ht)
    omega
  · have c1 := sum_count nd A
    have c2 := idx_filter (fun x => decide (x ∈ hoursL T L)) 0 A
    have c4 : ((hoursL T L).map (room rs)).sum ≤ ((hoursL T L).map fun x => (A.count x : Int)).sum := sum_le fun x hx => by
      obtain ⟨s, hs⟩ := hk x hx
      exact h.full _ hs
    rw [sum_cast, c1, ← c2] at c4
    have c5 : ((List.range A.length).filter fun i => decide (A.getD i 0 ∈ hoursL T L)).length ≤ (R.erase A.length).length := by
      refine nodup_sub (nodup_flt _ List.nodup_range) fun t ht => ?_
      obtain ⟨t1, t2⟩ := List.mem_filter.mp ht
      have t1 := List.mem_range.mp t1
      have t2 := of_decide_eq_true t2
      obtain ⟨s, hs⟩ := hk _ t2
      refine (List.mem_erase_of_ne (by omega)).mpr (h.all _ hs t ?_)
      rw [List.getD_eq_getElem?_getD, List.getElem?_eq_getElem t1]
      rfl
    rw [List.length_erase_of_mem h0] at c5
    have := hL.length_eq
    have := List.length_pos_of_mem h0
    omega
end Mt
end PV
end

section
set_option Elab.async false
set_option linter.all false
set_option maxRecDepth 100000
/-! PVZL: all placings, the least one. -/
namespace PV
namespace Mt
def okP (rs P : List Int) (h : Int) : Bool := decide ((P.count h : Int) < room rs h)
def ext (rs : List Int) : List Int → Ts → List (List Int)
  | P, [] => [P]
  | P, l :: T => (l.filter (okP rs P)).flatMap fun h => ext rs (P ++ [h]) T
def stepF (rs : List Int) (found : List (List Int)) (l : List Int) : List (List Int) := found.flatMap fun P => (l.filter (okP rs P)).map fun h => P ++ [h]
theorem fold_ext (rs : List Int) : ∀ (T : Ts) (found : List (List Int)), T.foldl (stepF rs) found = found.flatMap fun P => ext rs P T
  | [], found => by
    show found = found.flatMap fun P => [P]
    induction found with
    | nil => rfl
    | cons a r ih => rw [List.flatMap_cons, ← ih]; rfl
  | l :: T, found => by
    rw [List.foldl_cons, fold_ext rs T]
    unfold stepF
    rw [List.flatMap_assoc]
    congr 1
    funext P
    rw [List.flatMap_map]
    rfl
/-- the rooms hold for what is placed -/
def Rok (rs P : List Int) : Prop := ∀ x ∈ P, (P.count x : Int) ≤ room rs x
theorem count_snoc (P : List Int) (h y : Int) : (P ++ [h]).count y = P.count y + (if h = y then 1 else 0) := by
  rw [List.count_append]
  congr 1
  by_cases q : h = y <;> simp [q]
theorem Rok.snoc {rs P : List Int} (h : Rok rs P) {x : Int} (hx : okP rs P x = true) : Rok rs (P ++ [x]) := fun y hy => by
  have hx := of_decide_eq_true hx
  rw [count_snoc]
  by_cases q : x = y
  · subst q
    simp only [if_true]
    omega
  · rw [if_neg q, Nat.add_zero]
    rcases List.mem_append.mp hy with hy | hy
    · exact h y hy
    · simp at hy; exact absurd hy.symm q
theorem Rok.of_append {rs P Q : List Int} (h : Rok rs (P ++ Q)) : Rok rs P := fun x hx => by
  have := h x (by simp [hx])
  rw [List.count_append] at this
  omega
/-- what completes P -/
structure Cmp (rs P : List Int) (T : Ts) (Q : List Int) : Prop where
  len : Q.length = T.length
  mem : ∀ (i : Nat) (x : Int), Q[i]? = some x → x ∈ at' T i
  rok : Rok rs (P ++ Q)
theorem ext_mem {rs : List Int} : ∀ {T : Ts} {P B : List Int}, Rok rs P → (B ∈ ext rs P T ↔ ∃ Q, B = P ++ Q ∧ Cmp rs P T Q)
  | [], P, B, hP => by
    constructor
    · intro h
      have : B = P := by simpa [ext] using h
      subst this
      exact ⟨[], by simp, rfl, fun i x h => by simp at h, by simpa using hP⟩
    · rintro ⟨Q, rfl, h⟩
      have : Q = [] := List.eq_nil_of_length_eq_zero h.len
      subst this
      simp [ext]
  | l :: T, P, B, hP => by
    unfold ext
    rw [List.mem_flatMap]
    constructor
    · rintro ⟨h, hh, hB⟩
      obtain ⟨h1, h2⟩ := List.mem_filter.mp hh
      obtain ⟨Q, rfl, c⟩ := (ext_mem (hP.snoc h2)).mp hB
      refine ⟨h :: Q, by simp, by simp [c.len], fun i x hx => ?_, by simpa using c.rok⟩
      cases i with
      | zero => simp at hx; subst hx; exact h1
      | succ i => exact c.mem i x (by simpa using hx)
    · rintro ⟨Q, rfl, c⟩
      cases Q with
      | nil => have := c.len; simp at this
      | cons h Q =>
        have h1 : h ∈ l := c.mem 0 h rfl
        have h2 : okP rs P h = true := by
          refine decide_eq_true ?_
          have := c.rok h (by simp)
          rw [List.count_append, List.count_cons_self] at this
          omega
        refine ⟨h, List.mem_filter.mpr ⟨h1, h2⟩, (ext_mem (hP.snoc h2)).mpr ⟨Q, by simp, by simpa using c.len, fun i x hx => c.mem (i + 1) x (by simpa using hx), by simpa using c.rok⟩⟩
theorem rok_nil (rs : List Int) : Rok rs [] := fun x h => by cases h
theorem placing_mem {T : Ts} {rs B : List Int} : B ∈ ext rs [] T ↔ Plc T rs B ∧ B.length = T.length := by
  rw [ext_mem (rok_nil rs)]
  constructor
  · rintro ⟨Q, rfl, c⟩
    exact ⟨⟨c.mem, c.rok⟩, c.len⟩
  · rintro ⟨h1, h2⟩
    exact ⟨B, rfl, h2, h1.mem, h1.room⟩
def singles (P : List Int) : Ts := P.map fun h => [h]
def Feas (T : Ts) (rs : List Int) : Prop := ∃ B, Plc T rs B ∧ B.length = T.length
theorem feas_iff {T : Ts} {rs : List Int} : Feas T rs ↔ ext rs [] T ≠ [] := by
  constructor
  · rintro ⟨B, h⟩ e
    have := placing_mem.mpr h
    rw [e] at this
    cases this
  · intro h
    obtain ⟨B, hB⟩ := List.exists_mem_of_ne_nil _ h
    exact ⟨B, placing_mem.mp hB⟩
theorem at_append_l {T U : Ts} {i : Nat} (h : i < T.length) : at' (T ++ U) i = at' T i := by
  unfold at'
  rw [List.getD_eq_getElem?_getD, List.getD_eq_getElem?_getD, List.getElem?_append_left h]
theorem at_append_r {T U : Ts} {i : Nat} : at' (T ++ U) (T.length + i) = at' U i := by
  unfold at'
  rw [List.getD_eq_getElem?_getD, List.getD_eq_getElem?_getD, List.getElem?_append_right (by omega), show T.length + i - T.length = i by omega]
theorem singles_at {P : List Int} {i : Nat} {p : Int} (h : P[i]? = some p) : at' (singles P) i = [p] := by
  unfold at' singles
  rw [List.getD_eq_getElem?_getD, List.getElem?_map, h]
  rfl
theorem feas_ext {rs P : List Int} {T : Ts} : Feas (singles P ++ T) rs ↔ Rok rs P ∧ ext rs P T ≠ [] := by
  have hl : (singles P).length = P.length := by unfold singles; rw [List.length_map]
  constructor
  · rintro ⟨B, hB, lB⟩
    rw [List.length_append, hl] at lB
    have e1 : B.take P.length = P := by
      refine List.ext_getElem? fun i => ?_
      by_cases lt : i < P.length
      · rw [List.getElem?_take_of_lt lt]
        have := hB.mem i (B[i]'(by omega)) (List.getElem?_eq_getElem (by omega))
        rw [at_append_l (by omega), singles_at (List.getElem?_eq_getElem lt)] at this
        simp at this
        rw [List.getElem?_eq_getElem (by omega), this, List.getElem?_eq_getElem lt]
      · rw [List.getElem?_eq_none (by simp; omega), List.getElem?_eq_none (by omega)]
    have e2 : B = P ++ B.drop P.length := by
      have := List.take_append_drop P.length B
      rw [e1] at this
      exact this.symm
    have r : Rok rs (P ++ B.drop P.length) := by rw [← e2]; exact hB.room
    refine ⟨r.of_append, fun e => ?_⟩
    have : B ∈ ext rs P T := (ext_mem r.of_append).mpr ⟨_, e2, by rw [List.length_drop]; omega, fun i x hx => ?_, r⟩
    · rw [e] at this; cases this
    · rw [List.getElem?_drop] at hx
      have := hB.mem _ x hx
      rw [← hl, at_append_r] at this
      exact this
  · rintro ⟨r, h⟩
    obtain ⟨B, hB⟩ := List.exists_mem_of_ne_nil _ h
    obtain ⟨Q, rfl, c⟩ := (ext_mem r).mp hB
    refine ⟨P ++ Q, ⟨fun i x hx => ?_, c.rok⟩, by rw [List.length_append, List.length_append, hl, c.len]⟩
    by_cases lt : i < P.length
    · rw [List.getElem?_append_left lt] at hx
      rw [at_append_l (by omega), singles_at hx]
      simp
    · rw [List.getElem?_append_right (by omega)] at hx
      have := c.mem _ x hx
      rw [show i = (singles P).length + (i - P.length) by omega, at_append_r]
      exact this
/-- the least way to go on -/
theorem least_step {rs P : List Int} {l : List Int} {T : Ts} (hP : Rok rs P) (h : ext rs P (l :: T) ≠ []) : ∃ pre x post, l = pre ++ x :: post ∧ (∀ y ∈ pre, ¬ Feas (singles (P ++ [y]) ++ T) rs) ∧ Feas (singles (P ++ [x]) ++ T) rs ∧ (ext rs P (l :: T)).head? = (ext rs (P ++ [x]) T).head? := by
  rw [ext] at h ⊢

  induction l with
  | nil => exact absurd rfl h
  | cons a l ih =>
    by_cases f : Feas (singles (P ++ [a]) ++ T) rs
    · refine ⟨[], a, l, rfl, (fun _ h => nomatch h), f, ?_⟩
      obtain ⟨r, g⟩ := feas_ext.mp f
      have ok : okP rs P a = true := by
        refine decide_eq_true ?_
        have := r a (by simp)
        rw [count_snoc, if_pos rfl] at this
        omega
      rw [List.filter_cons_of_pos ok, List.flatMap_cons]
      cases q : ext rs (P ++ [a]) T with
      | nil => exact absurd q g
      | cons z zs => rfl
    · have e : (List.filter (okP rs P) (a :: l)).flatMap (fun h => ext rs (P ++ [h]) T) = (List.filter (okP rs P) l).flatMap (fun h => ext rs (P ++ [h]) T) := by
        by_cases ok : okP rs P a = true
        · rw [List.filter_cons_of_pos ok, List.flatMap_cons]
          have : ext rs (P ++ [a]) T = [] := by
            by_cases q : ext rs (P ++ [a]) T = []
            · exact q
            · refine absurd (feas_ext.mpr ⟨?_, q⟩) f
              obtain ⟨B, hB⟩ := List.exists_mem_of_ne_nil _ q
              intro y hy
              have ok := of_decide_eq_true ok
              exact Rok.snoc hP (decide_eq_true ok) y hy
          rw [this, List.nil_append]
        · rw [List.filter_cons_of_neg ok]
      rw [e] at h ⊢
      obtain ⟨pre, x, post, rfl, h1, h2, h3⟩ := ih h
      exact ⟨a :: pre, x, post, rfl, fun y hy => by
        rcases List.mem_cons.mp hy with rfl | hy
        · exact f
        · exact h1 y hy, h2, h3⟩
end Mt
end PV
end

section
set_option Elab.async false
set_option linter.all false
set_option maxRecDepth 100000
namespace PV
namespace k60
open PySem PySem.Spec PyProof.Rows L2
def top (i : Nat) : Stmt := PySem.Challenge.pw_besthours_k60_whole_placings_or_lots.main.body.getD i (.Pass ⟨0, 0, 0, 0⟩)
abbrev s0 : Stmt := top 5
abbrev s1 : Stmt := top 6
abbrev s2 : Stmt := top 11
abbrev s3 : Stmt := top 12
abbrev s4 : Stmt := top 13
abbrev s5 : Stmt := top 14
abbrev s6 : Stmt := top 15
abbrev s7 : Stmt := top 16
abbrev s8 : Stmt := top 17
abbrev s9 : Stmt := top 18
abbrev s10 : Stmt := top 19
abbrev s11 : Stmt := top 20
abbrev s12 : Stmt := top 21
abbrev s13 : Stmt := top 22
abbrev s14 : Stmt := top 23
abbrev s15 : Stmt := top 25
abbrev s16 : Stmt := top 26
abbrev s17 : Stmt := top 27
abbrev s18 : Stmt := top 28
abbrev s19 : Stmt := top 29
abbrev s20 : Stmt := top 30
abbrev s21 : Stmt := top 31
abbrev s22 : Stmt := top 32
abbrev s23 : Stmt := top 33
abbrev s24 : Stmt := top 34
abbrev s25 : Stmt := top 35
abbrev s26 : Stmt := top 36
def d0 : FD := ⟨Str.ofString "is_from", s0, [Str.ofString "value", Str.ofString "low", Str.ofString "high"], [Str.ofString "value", Str.ofString "low", Str.ofString "high"], [], [], false⟩
def d1 : FD := ⟨Str.ofString "is_set", s1, [Str.ofString "value", Str.ofString "most", Str.ofString "item", Str.ofString "near", Str.ofString "far"], [Str.ofString "value", Str.ofString "most"], [], [], false⟩
def d2 : FD := ⟨Str.ofString "check_tasks", s2, [Str.ofString "value", Str.ofString "item"], [Str.ofString "value"], [], [], false⟩
def d3 : FD := ⟨Str.ofString "check_rooms", s3, [Str.ofString "tasks", Str.ofString "value", Str.ofString "item", Str.ofString "hours", Str.ofString "hour"], [Str.ofString "tasks", Str.ofString "value"], [], [], false⟩
def d4 : FD := ⟨Str.ofString "held_at", s4, [Str.ofString "at", Str.ofString "hour", Str.ofString "task"], [Str.ofString "at", Str.ofString "hour"], [], [], false⟩
def d5 : FD := ⟨Str.ofString "lead_back", s5, [Str.ofString "at", Str.ofString "came", Str.ofString "hour", Str.ofString "task", Str.ofString "here", Str.ofString "old"], [Str.ofString "at", Str.ofString "came", Str.ofString "hour", Str.ofString "task"], [0], [], false⟩
def d6 : FD := ⟨Str.ofString "place_more", s6, [Str.ofString "tasks", Str.ofString "rooms", Str.ofString "at", Str.ofString "task", Str.ofString "came", Str.ofString "reached", Str.ofString "next_one", Str.ofString "here", Str.ofString "hour", Str.ofString "others"], [Str.ofString "tasks", Str.ofString "rooms", Str.ofString "at", Str.ofString "task"], [4, 5], [], false⟩
def d7 : FD := ⟨Str.ofString "matching_so", s7, [Str.ofString "tasks", Str.ofString "rooms", Str.ofString "at", Str.ofString "task", Str.ofString "lot"], [Str.ofString "tasks", Str.ofString "rooms"], [], [], false⟩
def d8 : FD := ⟨Str.ofString "is_placing_so", s8, [Str.ofString "tasks", Str.ofString "rooms", Str.ofString "value", Str.ofString "hours", Str.ofString "hour"], [Str.ofString "tasks", Str.ofString "rooms", Str.ofString "value"], [], [], false⟩
def d9 : FD := ⟨Str.ofString "is_lot_so", s9, [Str.ofString "tasks", Str.ofString "rooms", Str.ofString "value", Str.ofString "hours", Str.ofString "task", Str.ofString "hour"], [Str.ofString "tasks", Str.ofString "rooms", Str.ofString "value"], [], [], false⟩
def d10 : FD := ⟨Str.ofString "hours_of", s10, [Str.ofString "tasks", Str.ofString "hours", Str.ofString "hour"], [Str.ofString "tasks"], [], [], false⟩
def d11 : FD := ⟨Str.ofString "matching", s11, [Str.ofString "tasks", Str.ofString "rooms"], [Str.ofString "tasks", Str.ofString "rooms"], [], [([Str.ofString "rooms", Str.ofString "tasks"], 0, [1, 0])], false⟩
def d12 : FD := ⟨Str.ofString "is_placing", s12, [Str.ofString "tasks", Str.ofString "rooms", Str.ofString "value"], [Str.ofString "tasks", Str.ofString "rooms", Str.ofString "value"], [], [], false⟩
def d13 : FD := ⟨Str.ofString "is_lot", s13, [Str.ofString "tasks", Str.ofString "rooms", Str.ofString "value"], [Str.ofString "tasks", Str.ofString "rooms", Str.ofString "value"], [], [([Str.ofString "value", Str.ofString "tasks", Str.ofString "rooms"], 0, [1, 2, 0])], false⟩
def d14 : FD := ⟨Str.ofString "least_placing", s14, [Str.ofString "tasks", Str.ofString "rooms", Str.ofString "left", Str.ofString "task", Str.ofString "hours", Str.ofString "hour"], [Str.ofString "tasks", Str.ofString "rooms"], [2], [], false⟩
def d15 : FD := ⟨Str.ofString "_law_mixed", s15, [Str.ofString "_law_cell", Str.ofString "_law_k"], [Str.ofString "_law_cell", Str.ofString "_law_k"], [], [], false⟩
def d16 : FD := ⟨Str.ofString "_law_begin", s16, [Str.ofString "_law_script", Str.ofString "_law_cells_so", Str.ofString "_law_cell"], [Str.ofString "_law_script"], [], [], false⟩
def d17 : FD := ⟨Str.ofString "_law_draw", s17, [Str.ofString "_law_state", Str.ofString "_law_limit", Str.ofString "_law_at", Str.ofString "_law_spot", Str.ofString "_law_left", Str.ofString "_law_mixed_here"], [Str.ofString "_law_state", Str.ofString "_law_limit"], [0], [], false⟩
def d18 : FD := ⟨Str.ofString "_law_drawn", s18, [Str.ofString "_law_state", Str.ofString "_law_wide", Str.ofString "_law_rooms_so", Str.ofString "_law_tasks_so", Str.ofString "_law_step", Str.ofString "_law_first", Str.ofString "_law_mine", Str.ofString "_law_spot"], [Str.ofString "_law_state"], [], [], false⟩
def d19 : FD := ⟨Str.ofString "_law_placings", s19, [Str.ofString "_law_tasks_so", Str.ofString "_law_rooms_so", Str.ofString "_law_found", Str.ofString "_law_mine", Str.ofString "_law_more", Str.ofString "_law_told", Str.ofString "_law_spot"], [Str.ofString "_law_tasks_so", Str.ofString "_law_rooms_so"], [], [], false⟩
def d20 : FD := ⟨Str.ofString "_law_is_lot", s20, [Str.ofString "_law_tasks_so", Str.ofString "_law_rooms_so", Str.ofString "_law_told", Str.ofString "_law_hours_so", Str.ofString "_law_one", Str.ofString "_law_spot"], [Str.ofString "_law_tasks_so", Str.ofString "_law_rooms_so", Str.ofString "_law_told"], [], [], false⟩
def d21 : FD := ⟨Str.ofString "_law_like", s21, [Str.ofString "_law_got", Str.ofString "_law_due"], [Str.ofString "_law_got", Str.ofString "_law_due"], [], [], false⟩
def d22 : FD := ⟨Str.ofString "_law_least", s22, [Str.ofString "_law_tasks_so", Str.ofString "_law_rooms_so", Str.ofString "_law_told", Str.ofString "error_so"], [Str.ofString "_law_tasks_so", Str.ofString "_law_rooms_so"], [], [], false⟩
def d23 : FD := ⟨Str.ofString "_law_right", s23, [Str.ofString "_law_tasks_so", Str.ofString "_law_rooms_so", Str.ofString "_law_every", Str.ofString "_law_word", Str.ofString "_law_told", Str.ofString "_law_one"], [Str.ofString "_law_tasks_so", Str.ofString "_law_rooms_so"], [], [], false⟩
def d24 : FD := ⟨Str.ofString "_law_less", s24, [Str.ofString "_law_state", Str.ofString "_law_tasks_so", Str.ofString "_law_rooms_so", Str.ofString "_law_spot"], [Str.ofString "_law_state", Str.ofString "_law_tasks_so", Str.ofString "_law_rooms_so"], [], [], false⟩
def d25 : FD := ⟨Str.ofString "_law_hidden", s25, [Str.ofString "_law_state", Str.ofString "_law_tasks_so", Str.ofString "_law_one", Str.ofString "_law_shift", Str.ofString "_law_step", Str.ofString "_law_mine", Str.ofString "_law_more"], [Str.ofString "_law_state"], [], [], false⟩
def d26 : FD := ⟨Str.ofString "law", s26, [Str.ofString "_law_script", Str.ofString "_law_state", Str.ofString "_law_turn", Str.ofString "_law_five", Str.ofString "_law_got", Str.ofString "_law_tasks_so", Str.ofString "_law_rooms_so", Str.ofString "_law_word", Str.ofString "_law_told", Str.ofString "_law_near", Str.ofString "_law_far", Str.ofString "_law_one", Str.ofString "_law_spot"], [Str.ofString "_law_script"], [], [], false⟩
def ds : List FD := [d0, d1, d2, d3, d4, d5, d6, d7, d8, d9, d10, d11, d12, d13, d14, d15, d16, d17, d18, d19, d20, d21, d22, d23, d24, d25, d26]
def gc : GC := ⟨fnsOf ds 0, [(Str.ofString "MOST_TASKS", .int (60)), (Str.ofString "MOST_HOURS", .int (100)), (Str.ofString "MOST_ROOMS", .int (60))], [Str.ofString "bool", Str.ofString "enumerate", Str.ofString "int", Str.ofString "isinstance", Str.ofString "len", Str.ofString "list", Str.ofString "max", Str.ofString "range", Str.ofString "repr", Str.ofString "set", Str.ofString "sorted", Str.ofString "sum", Str.ofString "tuple", Str.ofString "zip"], [], [(Str.ofString "HourError", 0), (Str.ofString "NoRow", 1)], [(Str.ofString "NoRow", 1)], [], [], [], [Str.ofString "at"]⟩
def sub : Nat → Nat → Bool
  | 0, 0 => true
  | 0, _ => false
  | _, 0 => true
  | _, _ => true
/-- is_from(value, low, high) -/
def c0 : Fn := ⟨3, 3, (.cons (.ret (.and (.isi 0 (.v 0)) (.and (.u1 .not (.isi 1 (.v 0))) (.chain .le .le (.v 1) (.v 0) (.v 2)))))
    .nil)⟩
def c1l0 : Lx := (.comp (.tup (.cons (.nm 3) (.cons (.nm 4) .nil))) (.zp (.v 0) (.sl1 (.v 0) (.c (.int 1)))) [3, 4] (.b2 .ge (.v 3) (.v 4)) (.c (.int 1)))
def c1l1 : Lx := (.comp (.nm 2) (.sq (.v 0)) [2] (.u1 .not (.call 0 (.cons (.v 2) (.cons (.c (.int 0)) (.cons (.v 1) .nil))))) (.c (.int 1)))
/-- is_set(value, most, item, near, far) -/
def c1 : Fn := ⟨2, 5, (.cons (.ite (.or (.u1 .not (.isi 2 (.v 0))) (.b2 .gt (.u1 .len (.fl c1l1)) (.c (.int 0)))) (.cons (.ret (.c (.bool false)))
    .nil) .nil)
    (.cons (.ret (.b2 .eq (.u1 .len (.fl c1l0)) (.c (.int 0))))
    .nil))⟩
def c2l0 : Lx := (.comp (.nm 1) (.sq (.v 0)) [1] (.u1 .not (.call 1 (.cons (.v 1) (.cons (.b2 .sub (.c (.int (100))) (.c (.int 1))) .nil)))) (.c (.int 1)))
/-- check_tasks(value, item) -/
def c2 : Fn := ⟨1, 2, (.cons (.ite (.or (.u1 .not (.isi 2 (.v 0))) (.u1 .not (.chain .le .le (.c (.int 1)) (.u1 .len (.v 0)) (.c (.int (60)))))) (.cons .stuck
    .nil) .nil)
    (.cons (.ite (.b2 .gt (.u1 .len (.fl c2l0)) (.c (.int 0))) (.cons .stuck
    .nil) .nil)
    (.cons (.ret (.v 0))
    .nil)))⟩
def c3l0 : Lx := (.comp2 (.nm 3) (.sq (.v 0)) [3, 4] (.c (.bool true)) (.nm 4) (.sq (.v 3)) [4] (.c (.bool true)) (.v 4))
def c3l1 : Lx := (.comp (.nm 2) (.sq (.v 1)) [2] (.u1 .not (.call 0 (.cons (.v 2) (.cons (.c (.int 0)) (.cons (.c (.int (60))) .nil))))) (.c (.int 1)))
/-- check_rooms(tasks, value, item, hours, hour) -/
def c3 : Fn := ⟨2, 5, (.cons (.ite (.or (.u1 .not (.isi 2 (.v 1))) (.u1 .not (.chain .le .le (.c (.int 1)) (.u1 .len (.v 1)) (.c (.int (100)))))) (.cons .stuck
    .nil) .nil)
    (.cons (.ite (.b2 .gt (.u1 .len (.fl c3l1)) (.c (.int 0))) (.cons .stuck
    .nil) .nil)
    (.cons (.ite (.b2 .ge (.u1 .max (.b2 .add (.fl (.dis (.cons (.u1 .neg (.c (.int 1))) .nil))) (.fl c3l0))) (.u1 .len (.v 1))) (.cons .stuck
    .nil) .nil)
    (.cons (.ret (.v 1))
    .nil))))⟩
def c4l0 : Lx := (.compk (.nm 2) 0 [2] (.b2 .eq (.ix (.v 0) (.v 2)) (.v 1)) (.v 2))
/-- held_at(at, hour, task) -/
def c4 : Fn := ⟨2, 3, (.cons (.ret (.fl c4l0))
    .nil)⟩
def c5b0 : Sts := (.cons (.asg (.nm 5) (.ix (.v 0) (.v 4)))
    (.cons (.sto (.v 0) (.v 4) (.v 2))
    (.cons (.par [2, 4] (.cons (.v 5) (.cons (.ix (.v 1) (.v 5)) .nil)))
    .nil)))
/-- lead_back(at, came, hour, task, here, old) -/
def c5 : Fn := ⟨4, 6, (.cons (.asg (.nm 4) (.ix (.v 1) (.v 2)))
    (.cons (.whl (.b2 .ne (.v 4) (.v 3)) c5b0)
    (.cons (.sto (.v 0) (.v 3) (.v 2))
    .nil)))⟩
def c6b0 : Sts := (.cons (.ite (.b2 .nin (.v 8) (.v 4)) (.cons (.sto (.v 4) (.v 8) (.v 7))
    (.cons (.asg (.nm 9) (.call 4 (.cons (.v 2) (.cons (.v 8) .nil))))
    (.cons (.ite (.b2 .lt (.u1 .len (.v 9)) (.ix (.v 1) (.v 8))) (.cons (.ex (.call 5 (.cons (.v 2) (.cons (.v 4) (.cons (.v 8) (.cons (.v 3) .nil))))))
    (.cons (.ret (.c .none))
    .nil)) .nil)
    (.cons (.ext 5 (.v 9))
    .nil)))) .nil)
    .nil)
def c6b1 : Sts := (.cons (.asg (.nm 7) (.ix (.v 5) (.v 6)))
    (.cons (.aug 6 .add (.c (.int 1)))
    (.cons (.for (.nm 8) (.sq (.ix (.v 0) (.v 7))) c6b0)
    .nil)))
/-- place_more(tasks, rooms, at, task, came, reached, next_one, here, hour, others) -/
def c6 : Fn := ⟨4, 10, (.cons (.par [4, 5, 6] (.cons (.dis [] .nil) (.cons (.ml (.dis (.cons (.v 3) .nil))) (.cons (.c (.int 0)) .nil))))
    (.cons (.whl (.b2 .lt (.v 6) (.u1 .len (.v 5))) c6b1)
    (.cons (.ret (.u1 .tuple (.srt (.v 5))))
    .nil)))⟩
def c7l0 : Lx := (.comp (.nm 3) (.rng1 (.u1 .len (.v 0))) [3] (.c (.bool true)) (.ix (.v 2) (.v 3)))
def c7b0 : Sts := (.cons (.asg (.nm 4) (.call 6 (.cons (.v 0) (.cons (.v 1) (.cons (.v 2) (.cons (.v 3) .nil))))))
    (.cons (.ite (.u1 .notN (.v 4)) (.cons (.ret (.tup (.cons (.c (.str (Str.ofString "lot"))) (.cons (.v 4) .nil))))
    .nil) .nil)
    .nil))
/-- matching_so(tasks, rooms, at, task, lot) -/
def c7 : Fn := ⟨2, 5, (.cons (.asg (.nm 2) (.dis [] .nil))
    (.cons (.for (.nm 3) (.rng1 (.u1 .len (.v 0))) c7b0)
    (.cons (.ret (.tup (.cons (.c (.str (Str.ofString "plan"))) (.cons (.u1 .tuple (.fl c7l0)) .nil))))
    .nil)))⟩
def c8l0 : Lx := (.comp (.nm 4) (.sq (.v 2)) [4] (.b2 .gt (.cnt (.v 2) (.v 4)) (.ix (.v 1) (.v 4))) (.c (.int 1)))
def c8b0 : Sts := (.cons (.ite (.or (.u1 .not (.call 0 (.cons (.v 4) (.cons (.c (.int 0)) (.cons (.b2 .sub (.c (.int (100))) (.c (.int 1))) .nil))))) (.b2 .nin (.v 4) (.v 3))) (.cons (.ret (.c (.bool false)))
    .nil) .nil)
    .nil)
/-- is_placing_so(tasks, rooms, value, hours, hour) -/
def c8 : Fn := ⟨3, 5, (.cons (.ite (.or (.u1 .not (.isi 2 (.v 2))) (.b2 .ne (.u1 .len (.v 2)) (.u1 .len (.v 0)))) (.cons (.ret (.c (.bool false)))
    .nil) .nil)
    (.cons (.for (.tup (.cons (.nm 3) (.cons (.nm 4) .nil))) (.zp (.v 0) (.v 2)) c8b0)
    (.cons (.ret (.b2 .eq (.u1 .len (.fl c8l0)) (.c (.int 0))))
    .nil)))⟩
def c9l0 : Lx := (.comp (.nm 5) (.sq (.v 3)) [5] (.c (.bool true)) (.ix (.v 1) (.v 5)))
def c9l1 : Lx := (.comp (.nm 4) (.sq (.v 2)) [4] (.c (.bool true)) (.ix (.v 0) (.v 4)))
/-- is_lot_so(tasks, rooms, value, hours, task, hour) -/
def c9 : Fn := ⟨3, 6, (.cons (.ite (.or (.u1 .not (.call 1 (.cons (.v 2) (.cons (.b2 .sub (.u1 .len (.v 0)) (.c (.int 1))) .nil)))) (.b2 .eq (.u1 .len (.v 2)) (.c (.int 0)))) (.cons (.ret (.c (.bool false)))
    .nil) .nil)
    (.cons (.asg (.nm 3) (.call 10 (.cons (.fl c9l1) .nil)))
    (.cons (.ret (.b2 .lt (.u1 .sum (.fl c9l0)) (.u1 .len (.v 2))))
    .nil)))⟩
def c10l0 : Lx := (.comp2 (.nm 1) (.sq (.v 0)) [1, 2] (.c (.bool true)) (.nm 2) (.sq (.v 1)) [2] (.c (.bool true)) (.v 2))
/-- hours_of(tasks, hours, hour) -/
def c10 : Fn := ⟨1, 3, (.cons (.ret (.sst (.fl c10l0)))
    .nil)⟩
/-- matching(tasks, rooms) -/
def c11 : Fn := ⟨2, 2, (.cons (.ex (.call 2 (.cons (.v 0) .nil)))
    (.cons (.ex (.call 3 (.cons (.v 0) (.cons (.v 1) .nil))))
    (.cons (.ret (.call 7 (.cons (.v 0) (.cons (.v 1) .nil))))
    .nil)))⟩
/-- is_placing(tasks, rooms, value) -/
def c12 : Fn := ⟨3, 3, (.cons (.ex (.call 2 (.cons (.v 0) .nil)))
    (.cons (.ex (.call 3 (.cons (.v 0) (.cons (.v 1) .nil))))
    (.cons (.ret (.call 8 (.cons (.v 0) (.cons (.v 1) (.cons (.v 2) .nil)))))
    .nil)))⟩
/-- is_lot(tasks, rooms, value) -/
def c13 : Fn := ⟨3, 3, (.cons (.ex (.call 2 (.cons (.v 0) .nil)))
    (.cons (.ex (.call 3 (.cons (.v 0) (.cons (.v 1) .nil))))
    (.cons (.ret (.call 9 (.cons (.v 0) (.cons (.v 1) (.cons (.v 2) .nil)))))
    .nil)))⟩
def c14l0 : Lx := (.comp (.nm 4) (.sq (.v 2)) [4] (.c (.bool true)) (.ix (.v 4) (.c (.int 0))))
def c14b0 : Sts := (.cons (.sto (.v 2) (.v 3) (.tup (.cons (.v 5) .nil)))
    (.cons (.ite (.b2 .eq (.ix (.call 7 (.cons (.v 2) (.cons (.v 1) .nil))) (.c (.int 0))) (.c (.str (Str.ofString "plan")))) (.cons .brk
    .nil) .nil)
    .nil))
def c14b1 : Sts := (.cons (.for (.nm 5) (.sq (.v 4)) c14b0)
    .nil)
/-- least_placing(tasks, rooms, left, task, hours, hour) -/
def c14 : Fn := ⟨2, 6, (.cons (.ex (.call 2 (.cons (.v 0) .nil)))
    (.cons (.ex (.call 3 (.cons (.v 0) (.cons (.v 1) .nil))))
    (.cons (.ite (.b2 .eq (.ix (.call 7 (.cons (.v 0) (.cons (.v 1) .nil))) (.c (.int 0))) (.c (.str (Str.ofString "lot")))) (.cons (.rais 1 .nil)
    .nil) .nil)
    (.cons (.asg (.nm 2) (.ml (.lst (.v 0))))
    (.cons (.for (.tup (.cons (.nm 3) (.cons (.nm 4) .nil))) (.en (.v 0)) c14b1)
    (.cons (.ret (.u1 .tuple (.fl c14l0)))
    .nil))))))⟩
/-- _law_mixed(_law_cell, _law_k) -/
def c15 : Fn := ⟨2, 2, (.cons (.asg (.nm 0) (.b2 .mod (.u1 .int (.v 0)) (.c (.int 2147483647))))
    (.cons (.ret (.b2 .mod (.b2 .mul (.b2 .mod (.b2 .add (.b2 .add (.b2 .mul (.v 0) (.b2 .add (.c (.int 48271)) (.b2 .mul (.b2 .mul (.c (.int 2)) (.v 1)) (.v 1)))) (.b2 .mul (.c (.int 69621)) (.v 1))) (.c (.int 11))) (.c (.int 2147483647))) (.c (.int 69621))) (.c (.int 2147483629))))
    .nil))⟩
def c16l0 : Lx := (.comp (.nm 2) (.sq (.v 1)) [2] (.c (.bool true)) (.ite (.b2 .ge (.v 2) (.b2 .pow (.c (.int 10)) (.c (.int 18)))) (.v 2) (.c (.int 0))))
/-- _law_begin(_law_script, _law_cells_so, _law_cell) -/
def c16 : Fn := ⟨1, 3, (.cons (.asg (.nm 1) (.ite (.b2 .ne (.v 0) (.fl (.dis .nil))) (.fl (.lst (.v 0))) (.fl (.dis (.cons (.c (.int 0)) .nil)))))
    (.cons (.ret (.dis [(Str.ofString "cells"), (Str.ofString "lefts"), (Str.ofString "at")] (.cons (.v 1) (.cons (.ml c16l0) (.cons (.c (.int 0)) .nil)))))
    .nil))⟩
/-- _law_draw(_law_state, _law_limit, _law_at, _law_spot, _law_left, _law_mixed_here) -/
def c17 : Fn := ⟨2, 6, (.cons (.asg (.nm 2) (.ix (.v 0) (.c (.str (Str.ofString "at")))))
    (.cons (.sto (.v 0) (.c (.str (Str.ofString "at"))) (.b2 .add (.v 2) (.c (.int 1))))
    (.cons (.asg (.nm 3) (.b2 .mod (.u1 .int (.v 2)) (.u1 .len (.ix (.v 0) (.c (.str (Str.ofString "cells")))))))
    (.cons (.asg (.nm 4) (.ix (.ix (.v 0) (.c (.str (Str.ofString "lefts")))) (.v 3)))
    (.cons (.ite (.b2 .gt (.v 4) (.c (.int 0))) (.cons (.sto (.ix (.v 0) (.c (.str (Str.ofString "lefts")))) (.v 3) (.b2 .fdiv (.v 4) (.v 1)))
    (.cons (.ret (.b2 .mod (.u1 .int (.v 4)) (.v 1)))
    .nil)) .nil)
    (.cons (.asg (.nm 5) (.call 15 (.cons (.call 15 (.cons (.ix (.ix (.v 0) (.c (.str (Str.ofString "cells")))) (.v 3)) (.cons (.v 2) .nil))) (.cons (.b2 .add (.c (.int 40)) (.v 2)) .nil))))
    (.cons (.ret (.b2 .mod (.b2 .fdiv (.u1 .int (.b2 .add (.b2 .mul (.v 5) (.c (.int 2147483647))) (.call 15 (.cons (.v 5) (.cons (.b2 .add (.c (.int 7)) (.v 2)) .nil))))) (.c (.int 64))) (.v 1)))
    .nil)))))))⟩
def c18l0 : Lx := (.comp (.nm 7) (.rng1 (.v 1)) [7] (.or (.b2 .eq (.v 7) (.v 5)) (.b2 .eq (.call 17 (.cons (.v 0) (.cons (.c (.int 2)) .nil))) (.c (.int 0)))) (.v 7))
def c18b0 : Sts := (.cons (.asg (.nm 5) (.call 17 (.cons (.v 0) (.cons (.b2 .add (.v 1) (.c (.int 1))) .nil))))
    (.cons (.asg (.nm 6) (.fl c18l0))
    (.cons (.asg (.nm 3) (.b2 .add (.v 3) (.tup (.cons (.u1 .tuple (.v 6)) .nil))))
    .nil)))
def c18l1 : Lx := (.comp (.nm 4) (.rng1 (.v 1)) [4] (.c (.bool true)) (.b2 .fdiv (.b2 .mul (.call 17 (.cons (.v 0) (.cons (.c (.int 5)) .nil))) (.c (.int 2))) (.c (.int 3))))
/-- _law_drawn(_law_state, _law_wide, _law_rooms_so, _law_tasks_so, _law_step, _law_first, _law_mine, _law_spot) -/
def c18 : Fn := ⟨1, 8, (.cons (.asg (.nm 1) (.b2 .add (.c (.int 1)) (.call 17 (.cons (.v 0) (.cons (.c (.int 4)) .nil)))))
    (.cons (.asg (.nm 2) (.u1 .tuple (.fl c18l1)))
    (.cons (.asg (.nm 3) (.tup .nil))
    (.cons (.for (.nm 4) (.rng1 (.b2 .add (.c (.int 1)) (.call 17 (.cons (.v 0) (.cons (.c (.int 5)) .nil))))) c18b0)
    (.cons (.ret (.tup (.cons (.v 3) (.cons (.v 2) .nil))))
    .nil)))))⟩
def c19l0 : Lx := (.comp (.nm 6) (.sq (.v 3)) [6] (.b2 .lt (.cnt (.v 5) (.v 6)) (.ix (.v 1) (.v 6))) (.b2 .add (.v 5) (.tup (.cons (.v 6) .nil))))
def c19b0 : Sts := (.cons (.asg (.nm 4) (.b2 .add (.v 4) (.fl c19l0)))
    .nil)
def c19b1 : Sts := (.cons (.asg (.nm 4) (.fl (.dis .nil)))
    (.cons (.for (.nm 5) (.sq (.v 2)) c19b0)
    (.cons (.asg (.nm 2) (.fl (.lst (.v 4))))
    .nil)))
/-- _law_placings(_law_tasks_so, _law_rooms_so, _law_found, _law_mine, _law_more, _law_told, _law_spot) -/
def c19 : Fn := ⟨2, 7, (.cons (.asg (.nm 2) (.fl (.dis (.cons (.tup .nil) .nil))))
    (.cons (.for (.nm 3) (.sq (.v 0)) c19b1)
    (.cons (.ret (.v 2))
    .nil)))⟩
def c20l0 : Lx := (.comp (.nm 5) (.sq (.sst (.v 3))) [5] (.c (.bool true)) (.ix (.v 1) (.v 5)))
def c20b0 : Sts := (.cons (.asg (.nm 3) (.b2 .add (.v 3) (.fl (.lst (.ix (.v 0) (.v 4))))))
    .nil)
/-- _law_is_lot(_law_tasks_so, _law_rooms_so, _law_told, _law_hours_so, _law_one, _law_spot) -/
def c20 : Fn := ⟨3, 6, (.cons (.asg (.nm 3) (.fl (.dis .nil)))
    (.cons (.for (.nm 4) (.sq (.v 2)) c20b0)
    (.cons (.ret (.and (.b2 .ne (.v 2) (.tup .nil)) (.b2 .lt (.u1 .sum (.fl c20l0)) (.u1 .len (.v 2)))))
    .nil)))⟩
/-- _law_like(_law_got, _law_due) -/
def c21 : Fn := ⟨2, 2, (.cons (.ret (.b2 .eq (.u1 .repr (.v 0)) (.u1 .repr (.v 1))))
    .nil)⟩
/-- _law_least(_law_tasks_so, _law_rooms_so, _law_told, error_so) -/
def c22 : Fn := ⟨2, 4, (.cons (.asg (.nm 2) (.c .none))
    (.cons (.trye (.cons (.asg (.nm 2) (.tup (.cons (.c (.str (Str.ofString "is"))) (.cons (.call 14 (.cons (.v 0) (.cons (.v 1) .nil))) .nil))))
    .nil) [⟨1, 3, 2, (.tup [(.c (.str (Str.ofString "none"))), (.isE 0)])⟩])
    (.cons (.ret (.v 2))
    .nil)))⟩
def c23l0 : Lx := (.comp (.nm 5) (.sq (.v 4)) [5] (.u1 .not (.chain .le .lt (.c (.int 0)) (.v 5) (.u1 .len (.v 0)))) (.c (.int 1)))
/-- _law_right(_law_tasks_so, _law_rooms_so, _law_every, _law_word, _law_told, _law_one) -/
def c23 : Fn := ⟨2, 6, (.cons (.asg (.nm 2) (.call 19 (.cons (.v 0) (.cons (.v 1) .nil))))
    (.cons (.asg (.tup (.cons (.nm 3) (.cons (.nm 4) .nil))) (.call 11 (.cons (.v 0) (.cons (.v 1) .nil))))
    (.cons (.ite (.b2 .ne (.v 2) (.fl (.dis .nil))) (.cons (.ite (.or (.b2 .ne (.v 3) (.c (.str (Str.ofString "plan")))) (.or (.b2 .nin (.v 4) (.v 2)) (.isB true true (.call 12 (.cons (.v 0) (.cons (.v 1) (.cons (.v 4) .nil))))))) (.cons (.ret (.c (.bool false)))
    .nil) .nil)
    (.cons (.ret (.call 21 (.cons (.call 22 (.cons (.v 0) (.cons (.v 1) .nil))) (.cons (.tup (.cons (.c (.str (Str.ofString "is"))) (.cons (.ix (.v 2) (.c (.int 0))) .nil))) .nil))))
    .nil)) .nil)
    (.cons (.ite (.or (.b2 .ne (.v 3) (.c (.str (Str.ofString "lot")))) (.or (.u1 .not (.isi 2 (.v 4))) (.b2 .ne (.fl (.lst (.v 4))) (.sst (.v 4))))) (.cons (.ret (.c (.bool false)))
    .nil) .nil)
    (.cons (.ite (.or (.b2 .ne (.fl c23l0) (.fl (.dis .nil))) (.u1 .not (.call 20 (.cons (.v 0) (.cons (.v 1) (.cons (.v 4) .nil)))))) (.cons (.ret (.c (.bool false)))
    .nil) .nil)
    (.cons (.ite (.isB true true (.call 13 (.cons (.v 0) (.cons (.v 1) (.cons (.v 4) .nil))))) (.cons (.ret (.c (.bool false)))
    .nil) .nil)
    (.cons (.ret (.call 21 (.cons (.call 22 (.cons (.v 0) (.cons (.v 1) .nil))) (.cons (.tup (.cons (.c (.str (Str.ofString "none"))) (.cons (.c (.bool true)) .nil))) .nil))))
    .nil)))))))⟩
/-- _law_less(_law_state, _law_tasks_so, _law_rooms_so, _law_spot) -/
def c24 : Fn := ⟨3, 4, (.cons (.ite (.b2 .eq (.call 17 (.cons (.v 0) (.cons (.c (.int 2)) .nil))) (.c (.int 0))) (.cons (.asg (.nm 3) (.call 17 (.cons (.v 0) (.cons (.u1 .len (.v 2)) .nil))))
    (.cons (.ret (.tup (.cons (.v 1) (.cons (.b2 .add (.b2 .add (.sl2 (.v 2) (.v 3)) (.tup (.cons (.mm true (.c (.int 0)) (.b2 .sub (.ix (.v 2) (.v 3)) (.c (.int 1)))) .nil))) (.sl1 (.v 2) (.b2 .add (.v 3) (.c (.int 1))))) .nil))))
    .nil)) .nil)
    (.cons (.ret (.tup (.cons (.b2 .add (.v 1) (.tup (.cons (.ix (.v 1) (.call 17 (.cons (.v 0) (.cons (.u1 .len (.v 1)) .nil)))) .nil))) (.cons (.v 2) .nil))))
    .nil))⟩
def c25l0 : Lx := (.comp (.nm 6) (.rng1 (.c (.int 3))) [6] (.c (.bool true)) (.call 17 (.cons (.v 0) (.cons (.c (.int 100)) .nil))))
def c25b0 : Sts := (.cons (.asg (.nm 5) (.b2 .add (.fl (.dis (.cons (.b2 .mod (.b2 .add (.v 3) (.b2 .mul (.v 4) (.v 2))) (.c (.int 100))) .nil))) (.fl c25l0)))
    (.cons (.asg (.nm 1) (.b2 .add (.v 1) (.tup (.cons (.u1 .tuple (.sst (.v 5))) .nil))))
    .nil))
/-- _law_hidden(_law_state, _law_tasks_so, _law_one, _law_shift, _law_step, _law_mine, _law_more) -/
def c25 : Fn := ⟨1, 7, (.cons (.par [3, 4] (.cons (.call 17 (.cons (.v 0) (.cons (.c (.int 100)) .nil))) (.cons (.ix (.fl (.dis (.cons (.c (.int 1)) (.cons (.c (.int 3)) (.cons (.c (.int 7)) (.cons (.c (.int 9)) .nil)))))) (.call 17 (.cons (.v 0) (.cons (.c (.int 4)) .nil)))) .nil)))
    (.cons (.asg (.nm 1) (.tup .nil))
    (.cons (.for (.nm 2) (.rng1 (.c (.int 60))) c25b0)
    (.cons (.ret (.tup (.cons (.v 1) (.cons (.b2 .mul (.tup (.cons (.c (.int 1)) .nil)) (.c (.int 100))) .nil))))
    .nil))))⟩
def c26l0 : Lx := (.comp (.tup (.cons (.nm 11) (.cons (.nm 12) .nil))) (.en (.v 8)) [11, 12] (.b2 .nin (.v 12) (.ix (.v 5) (.v 11))) (.c (.int 1)))
def c26b0 : Sts := (.cons (.asg (.tup (.cons (.nm 5) (.cons (.nm 6) .nil))) (.call 18 (.cons (.v 1) .nil)))
    (.cons (.ite (.u1 .not (.call 23 (.cons (.v 5) (.cons (.v 6) .nil)))) (.cons (.ret (.c (.bool false)))
    .nil) .nil)
    (.cons (.ite (.b2 .eq (.ix (.call 11 (.cons (.v 5) (.cons (.v 6) .nil))) (.c (.int 0))) (.c (.str (Str.ofString "lot")))) (.cons (.asg (.tup (.cons (.nm 9) (.cons (.nm 10) .nil))) (.call 24 (.cons (.v 1) (.cons (.v 5) (.cons (.v 6) .nil)))))
    (.cons (.ite (.and (.b2 .lt (.u1 .len (.v 9)) (.c (.int 7))) (.or (.u1 .not (.call 23 (.cons (.v 9) (.cons (.v 10) .nil)))) (.b2 .ne (.ix (.call 11 (.cons (.v 9) (.cons (.v 10) .nil))) (.c (.int 0))) (.c (.str (Str.ofString "lot")))))) (.cons (.ret (.c (.bool false)))
    .nil) .nil)
    .nil)) .nil)
    .nil)))
/-- law(_law_script, _law_state, _law_turn, _law_five, _law_got, _law_tasks_so, _law_rooms_so, _law_word, _law_told, _law_near, _law_far, _law_one, _law_spot) -/
def c26 : Fn := ⟨1, 13, (.cons (.asg (.nm 1) (.call 16 (.cons (.v 0) .nil)))
    (.cons (.for (.nm 2) (.rng1 (.c (.int 4))) c26b0)
    (.cons (.asg (.tup (.cons (.nm 5) (.cons (.nm 6) .nil))) (.call 25 (.cons (.v 1) .nil)))
    (.cons (.asg (.tup (.cons (.nm 7) (.cons (.nm 8) .nil))) (.call 11 (.cons (.v 5) (.cons (.v 6) .nil))))
    (.cons (.ite (.or (.b2 .ne (.v 7) (.c (.str (Str.ofString "plan")))) (.b2 .ne (.lns (.v 8)) (.c (.int 60)))) (.cons (.ret (.c (.bool false)))
    .nil) .nil)
    (.cons (.ite (.b2 .ne (.fl c26l0) (.fl (.dis .nil))) (.cons (.ret (.c (.bool false)))
    .nil) .nil)
    (.cons (.asg (.nm 3) (.tup (.cons (.tup (.cons (.c (.int 0)) (.cons (.c (.int 1)) .nil))) (.cons (.tup (.cons (.c (.int 0)) (.cons (.c (.int 1)) .nil))) (.cons (.tup (.cons (.c (.int 0)) (.cons (.c (.int 1)) .nil))) (.cons (.tup (.cons (.c (.int 1)) (.cons (.c (.int 2)) .nil))) (.cons (.tup (.cons (.c (.int 2)) .nil)) .nil)))))))
    (.cons (.asg (.nm 4) (.fl (.dis (.cons (.ix (.callk 11 .nil (.cons (.tup (.cons (.c (.int 1)) (.cons (.c (.int 1)) (.cons (.c (.int 1)) .nil)))) (.cons (.v 3) .nil)) [1, 0]) (.c (.int 0))) (.cons (.callk 13 .nil (.cons (.tup (.cons (.c (.int 0)) (.cons (.c (.int 1)) (.cons (.c (.int 2)) .nil)))) (.cons (.v 3) (.cons (.tup (.cons (.c (.int 1)) (.cons (.c (.int 1)) (.cons (.c (.int 1)) .nil)))) .nil))) [1, 2, 0]) .nil)))))
    (.cons (.asg (.nm 4) (.b2 .add (.v 4) (.fl (.dis (.cons (.call 11 (.cons (.tup (.cons (.tup .nil) .nil)) (.cons (.tup (.cons (.c (.int 3)) .nil)) .nil))) (.cons (.call 13 (.cons (.tup (.cons (.tup .nil) .nil)) (.cons (.tup (.cons (.c (.int 3)) .nil)) (.cons (.tup (.cons (.c (.int 0)) .nil)) .nil)))) (.cons (.call 11 (.cons (.tup (.cons (.tup (.cons (.c (.int 0)) .nil)) (.cons (.tup (.cons (.c (.int 0)) .nil)) .nil))) (.cons (.tup (.cons (.c (.int 2)) .nil)) .nil))) .nil)))))))
    (.cons (.ret (.call 21 (.cons (.v 4) (.cons (.fl (.dis (.cons (.c (.str (Str.ofString "lot"))) (.cons (.c (.bool true)) (.cons (.tup (.cons (.c (.str (Str.ofString "lot"))) (.cons (.tup (.cons (.c (.int 0)) .nil)) .nil))) (.cons (.c (.bool true)) (.cons (.tup (.cons (.c (.str (Str.ofString "plan"))) (.cons (.tup (.cons (.c (.int 0)) (.cons (.c (.int 0)) .nil))) .nil))) .nil))))))) .nil))))
    .nil))))))))))⟩
def code : List Fn := [c0, c1, c2, c3, c4, c5, c6, c7, c8, c9, c10, c11, c12, c13, c14, c15, c16, c17, c18, c19, c20, c21, c22, c23, c24, c25, c26]
theorem cc0 : cFn gc d0 = c0 := by kernel_rfl
theorem cc1 : cFn gc d1 = c1 := by kernel_rfl
theorem cc2 : cFn gc d2 = c2 := by kernel_rfl
theorem cc3 : cFn gc d3 = c3 := by kernel_rfl
theorem cc4 : cFn gc d4 = c4 := by kernel_rfl
theorem cc5 : cFn gc d5 = c5 := by kernel_rfl
theorem cc6 : cFn gc d6 = c6 := by kernel_rfl
theorem cc7 : cFn gc d7 = c7 := by kernel_rfl
theorem cc8 : cFn gc d8 = c8 := by kernel_rfl
theorem cc9 : cFn gc d9 = c9 := by kernel_rfl
theorem cc10 : cFn gc d10 = c10 := by kernel_rfl
theorem cc11 : cFn gc d11 = c11 := by kernel_rfl
theorem cc12 : cFn gc d12 = c12 := by kernel_rfl
theorem cc13 : cFn gc d13 = c13 := by kernel_rfl
theorem cc14 : cFn gc d14 = c14 := by kernel_rfl
theorem cc15 : cFn gc d15 = c15 := by kernel_rfl
theorem cc16 : cFn gc d16 = c16 := by kernel_rfl
theorem cc17 : cFn gc d17 = c17 := by kernel_rfl
theorem cc18 : cFn gc d18 = c18 := by kernel_rfl
theorem cc19 : cFn gc d19 = c19 := by kernel_rfl
theorem cc20 : cFn gc d20 = c20 := by kernel_rfl
theorem cc21 : cFn gc d21 = c21 := by kernel_rfl
theorem cc22 : cFn gc d22 = c22 := by kernel_rfl
theorem cc23 : cFn gc d23 = c23 := by kernel_rfl
theorem cc24 : cFn gc d24 = c24 := by kernel_rfl
theorem cc25 : cFn gc d25 = c25 := by kernel_rfl
theorem cc26 : cFn gc d26 = c26 := by kernel_rfl
theorem sc0 : scOk d0 = true := by decide +kernel
theorem b0 : BindD d0 := fun _ _ _ _ _ _ us hl => match us, hl with | [_, _, _], _ => rfl
theorem kw0 : KwD d0 := kw_nil rfl
theorem sc1 : scOk d1 = true := by decide +kernel
theorem b1 : BindD d1 := fun _ _ _ _ _ _ us hl => match us, hl with | [_, _], _ => rfl
theorem kw1 : KwD d1 := kw_nil rfl
theorem sc2 : scOk d2 = true := by decide +kernel
theorem b2 : BindD d2 := fun _ _ _ _ _ _ us hl => match us, hl with | [_], _ => rfl
theorem kw2 : KwD d2 := kw_nil rfl
theorem sc3 : scOk d3 = true := by decide +kernel
theorem b3 : BindD d3 := fun _ _ _ _ _ _ us hl => match us, hl with | [_, _], _ => rfl
theorem kw3 : KwD d3 := kw_nil rfl
theorem sc4 : scOk d4 = true := by decide +kernel
theorem b4 : BindD d4 := fun _ _ _ _ _ _ us hl => match us, hl with | [_, _], _ => rfl
theorem kw4 : KwD d4 := kw_nil rfl
theorem sc5 : scOk d5 = true := by decide +kernel
theorem b5 : BindD d5 := fun _ _ _ _ _ _ us hl => match us, hl with | [_, _, _, _], _ => rfl
theorem kw5 : KwD d5 := kw_nil rfl
theorem sc6 : scOk d6 = true := by decide +kernel
theorem b6 : BindD d6 := fun _ _ _ _ _ _ us hl => match us, hl with | [_, _, _, _], _ => rfl
theorem kw6 : KwD d6 := kw_nil rfl
theorem sc7 : scOk d7 = true := by decide +kernel
theorem b7 : BindD d7 := fun _ _ _ _ _ _ us hl => match us, hl with | [_, _], _ => rfl
theorem kw7 : KwD d7 := kw_nil rfl
theorem sc8 : scOk d8 = true := by decide +kernel
theorem b8 : BindD d8 := fun _ _ _ _ _ _ us hl => match us, hl with | [_, _, _], _ => rfl
theorem kw8 : KwD d8 := kw_nil rfl
theorem sc9 : scOk d9 = true := by decide +kernel
theorem b9 : BindD d9 := fun _ _ _ _ _ _ us hl => match us, hl with | [_, _, _], _ => rfl
theorem kw9 : KwD d9 := kw_nil rfl
theorem sc10 : scOk d10 = true := by decide +kernel
theorem b10 : BindD d10 := fun _ _ _ _ _ _ us hl => match us, hl with | [_], _ => rfl
theorem kw10 : KwD d10 := kw_nil rfl
theorem sc11 : scOk d11 = true := by decide +kernel
theorem b11 : BindD d11 := fun _ _ _ _ _ _ us hl => match us, hl with | [_, _], _ => rfl
theorem kw11 : KwD d11 := by
  intro ks np0 pm hm
  unfold d11 at hm
  simp only [List.mem_cons, List.not_mem_nil, or_false, Prod.mk.injEq] at hm
  obtain ⟨rfl, rfl, rfl⟩ := hm
  exact ⟨rfl, by decide, fun _ _ _ _ _ _ us ws h1 h2 => match us, h1, ws, h2 with | [], _, [_, _], _ => rfl⟩
theorem sc12 : scOk d12 = true := by decide +kernel
theorem b12 : BindD d12 := fun _ _ _ _ _ _ us hl => match us, hl with | [_, _, _], _ => rfl
theorem kw12 : KwD d12 := kw_nil rfl
theorem sc13 : scOk d13 = true := by decide +kernel
theorem b13 : BindD d13 := fun _ _ _ _ _ _ us hl => match us, hl with | [_, _, _], _ => rfl
theorem kw13 : KwD d13 := by
  intro ks np0 pm hm
  unfold d13 at hm
  simp only [List.mem_cons, List.not_mem_nil, or_false, Prod.mk.injEq] at hm
  obtain ⟨rfl, rfl, rfl⟩ := hm
  exact ⟨rfl, by decide, fun _ _ _ _ _ _ us ws h1 h2 => match us, h1, ws, h2 with | [], _, [_, _, _], _ => rfl⟩
theorem sc14 : scOk d14 = true := by decide +kernel
theorem b14 : BindD d14 := fun _ _ _ _ _ _ us hl => match us, hl with | [_, _], _ => rfl
theorem kw14 : KwD d14 := kw_nil rfl
theorem sc15 : scOk d15 = true := by decide +kernel
theorem b15 : BindD d15 := fun _ _ _ _ _ _ us hl => match us, hl with | [_, _], _ => rfl
theorem kw15 : KwD d15 := kw_nil rfl
theorem sc16 : scOk d16 = true := by decide +kernel
theorem b16 : BindD d16 := fun _ _ _ _ _ _ us hl => match us, hl with | [_], _ => rfl
theorem kw16 : KwD d16 := kw_nil rfl
theorem sc17 : scOk d17 = true := by decide +kernel
theorem b17 : BindD d17 := fun _ _ _ _ _ _ us hl => match us, hl with | [_, _], _ => rfl
theorem kw17 : KwD d17 := kw_nil rfl
theorem sc18 : scOk d18 = true := by decide +kernel
theorem b18 : BindD d18 := fun _ _ _ _ _ _ us hl => match us, hl with | [_], _ => rfl
theorem kw18 : KwD d18 := kw_nil rfl
theorem sc19 : scOk d19 = true := by decide +kernel
theorem b19 : BindD d19 := fun _ _ _ _ _ _ us hl => match us, hl with | [_, _], _ => rfl
theorem kw19 : KwD d19 := kw_nil rfl
theorem sc20 : scOk d20 = true := by decide +kernel
theorem b20 : BindD d20 := fun _ _ _ _ _ _ us hl => match us, hl with | [_, _, _], _ => rfl
theorem kw20 : KwD d20 := kw_nil rfl
theorem sc21 : scOk d21 = true := by decide +kernel
theorem b21 : BindD d21 := fun _ _ _ _ _ _ us hl => match us, hl with | [_, _], _ => rfl
theorem kw21 : KwD d21 := kw_nil rfl
theorem sc22 : scOk d22 = true := by decide +kernel
theorem b22 : BindD d22 := fun _ _ _ _ _ _ us hl => match us, hl with | [_, _], _ => rfl
theorem kw22 : KwD d22 := kw_nil rfl
theorem sc23 : scOk d23 = true := by decide +kernel
theorem b23 : BindD d23 := fun _ _ _ _ _ _ us hl => match us, hl with | [_, _], _ => rfl
theorem kw23 : KwD d23 := kw_nil rfl
theorem sc24 : scOk d24 = true := by decide +kernel
theorem b24 : BindD d24 := fun _ _ _ _ _ _ us hl => match us, hl with | [_, _, _], _ => rfl
theorem kw24 : KwD d24 := kw_nil rfl
theorem sc25 : scOk d25 = true := by decide +kernel
theorem b25 : BindD d25 := fun _ _ _ _ _ _ us hl => match us, hl with | [_], _ => rfl
theorem kw25 : KwD d25 := kw_nil rfl
theorem sc26 : scOk d26 = true := by decide +kernel
theorem b26 : BindD d26 := fun _ _ _ _ _ _ us hl => match us, hl with | [_], _ => rfl
theorem kw26 : KwD d26 := kw_nil rfl
theorem code_eq : ds.map (cFn gc) = code := by
  show [cFn gc d0, cFn gc d1, cFn gc d2, cFn gc d3, cFn gc d4, cFn gc d5, cFn gc d6, cFn gc d7, cFn gc d8, cFn gc d9, cFn gc d10, cFn gc d11, cFn gc d12, cFn gc d13, cFn gc d14, cFn gc d15, cFn gc d16, cFn gc d17, cFn gc d18, cFn gc d19, cFn gc d20, cFn gc d21, cFn gc d22, cFn gc d23, cFn gc d24, cFn gc d25, cFn gc d26] = code
  rw [cc0, cc1, cc2, cc3, cc4, cc5, cc6, cc7, cc8, cc9, cc10, cc11, cc12, cc13, cc14, cc15, cc16, cc17, cc18, cc19, cc20, cc21, cc22, cc23, cc24, cc25, cc26]
  rfl
theorem cls_mk {K : PySem.W.Frag} {mg : Str → Option Value} {h : Heap} (KX : K.In h) (G : h.Ns mainGlobals mg) {a0 a1 : Addr}
    (n0 : PySem.W.nsIn K mainGlobals (Str.ofString "HourError") = some (some (.ref a0)))
    (n1 : PySem.W.nsIn K mainGlobals (Str.ofString "NoRow") = some (some (.ref a1)))
    (e0 : PySem.W.subIn K (.ref a0) (.type "BaseException") = some true)
    (v0 : PySem.W.subIn K (.ref a0) (.type "ValueError") = some true)
    (i0 : PySem.W.isClsIn K a0 = true)
    (y0 : PySem.W.typeIn K (.ref a0) = some (.type "type"))
    (e1 : PySem.W.subIn K (.ref a1) (.type "BaseException") = some true)
    (v1 : PySem.W.subIn K (.ref a1) (.type "ValueError") = some true)
    (i1 : PySem.W.isClsIn K a1 = true)
    (y1 : PySem.W.typeIn K (.ref a1) = some (.type "type"))
    (u0_0 : PySem.W.subIn K (.ref a0) (.ref a0) = some true)
    (u0_1 : PySem.W.subIn K (.ref a0) (.ref a1) = some false)
    (u1_0 : PySem.W.subIn K (.ref a1) (.ref a0) = some true)
    (u1_1 : PySem.W.subIn K (.ref a1) (.ref a1) = some true)
    (c0 : ExcC K a0)
    (c1 : ExcC K a1)
    (p1 : PySem.W.keepIn K (.ref a1) = true)
    (q1 : PySem.W.excIn K a1 [.type "ValueError", .type "Exception", .type "BaseException", .type "object"] "ValueError.__new__" = true) : ∃ ec, ClsOk (PySem.Challenge.rw_besthours_k60_whole_placings_or_lots.prog) ec sub gc K mg := by
  refine ⟨fun k => match k with | 0 => a0 | _ => a1, ⟨fun _ => ⟨fun k c => match k, c with | 0, 0 => exm_mk e0 i0 y0 u0_0 | 0, _ + 1 => exm_mk e1 i1 y1 u0_1 | _ + 1, 0 => exm_mk e0 i0 y0 u1_0 | _ + 1, _ + 1 => exm_mk e1 i1 y1 u1_1, fun k c => match k, c with | 0, 0 => kit_mk i0 y0 u0_0 u0_0 | 0, _ + 1 => kit_mk i1 y1 u0_1 u1_1 | _ + 1, 0 => kit_mk i0 y0 u1_0 u0_0 | _ + 1, _ + 1 => kit_mk i1 y1 u1_1 u1_1, fun k => match k with | 0 => kitV_mk v0 | _ + 1 => kitV_mk v1, fun k => match k with | 0 => c0 | _ + 1 => c1⟩, fun x j e => ?_, fun x j e => ?_, fun x j f e => ?_⟩⟩
  · have hm := PySem.mem_of_lookup e
    simp only [gc, List.mem_cons, List.not_mem_nil, or_false, Prod.mk.injEq] at hm
    rcases hm with ⟨rfl, rfl⟩ | ⟨rfl, rfl⟩
    · exact PySem.W.mg_of KX G n0
    · exact PySem.W.mg_of KX G n1
  · have hm := PySem.mem_of_lookup e
    simp only [gc, List.mem_cons, List.not_mem_nil, or_false, Prod.mk.injEq] at hm
    obtain ⟨rfl, rfl⟩ := hm
    exact ⟨PySem.W.mg_of KX G n1, p1, ⟨_, _, _, _, F.excBase_ValueError, q1⟩, e1, y1⟩
  · have hm := PySem.mem_of_lookup e
    simp only [gc, List.mem_cons, List.not_mem_nil, or_false, Prod.mk.injEq] at hm

def xs : List Str := []

end k60
end PV
end

section
set_option Elab.async false
set_option linter.all false
set_option maxRecDepth 100000
namespace PV
namespace k60
open PySem Mt
variable {sub : Nat → Nat → Bool}
/-! ### judges of tasks and rooms -/
abbrev cfn (sub : Nat → Nat → Bool) (n : Nat) := callF code sub n
abbrev dW (w : List Int) : D := .tuple (w.map .int)
abbrev dTs (T : Ts) : D := .tuple (T.map dW)
abbrev dLs (T : Ts) : D := .list (T.map dW)
theorem none_left {bd : EV → Mem → Res (Option D)} {m : Mem} {xs : List D} (h : ∀ x ∈ xs, bd (.d x) m = .ok none m) : compD bd xs m = .ok [] m := by
  rw [compD_map (f := fun _ => none) h]
  simp
theorem get_z {u : List Int} {h : Int} (h0 : 0 ≤ h) (h1 : h < u.length) (m : Mem) : getIx m (.d (dW u)) (.int h) = some (.d (.int (room u h))) := by
  obtain ⟨k, rfl⟩ := Int.eq_ofNat_of_zero_le h0
  refine get_i ?_ m
  unfold room
  rw [Int.toNat_natCast, List.getD_eq_getElem?_getD]
  have hk : k < u.length := by omega
  rw [List.getElem?_eq_getElem hk]
  rfl
theorem get_T {T : Ts} {t : Nat} (h : t < T.length) (m : Mem) : getIx m (.d (dTs T)) (.int (t : Int)) = some (.d (dW (at' T t))) := by
  refine get_t (k := t) ?_ m
  rw [List.getElem?_map, at_lt h]
  rfl
theorem is_from {n : Nat} (hn : 1 ≤ n) (i lo hi : Int) (m : Mem) : callF code sub n 0 [.d (.int i), .d (.int lo), .d (.int hi)] m = .ok (.d (.bool (decide (lo ≤ i ∧ i ≤ hi)))) m := by
  obtain ⟨n, rfl⟩ : ∃ k, n = k + 1 := ⟨n - 1, by omega⟩
  rw [call_eq (fn := c0) rfl rfl]
  by_cases h : lo ≤ i <;> simp [c0, evSs, evS, evE, evEs, getV, isiD, op1, h]
theorem is_set {n : Nat} (hn : 2 ≤ n) {l : List Int} {z : Int} (asc : l.Pairwise (· < ·)) (all : ∀ h ∈ l, 0 ≤ h ∧ h ≤ z) (m : Mem) : callF code sub n 1 [.d (dW l), .d (.int z)] m = .ok (.d (.bool true)) m := by
  obtain ⟨n, rfl⟩ : ∃ k, n = k + 1 := ⟨n - 1, by omega⟩
  rw [call_eq (fn := c1) rfl rfl]
  have k1 : evL (callF code sub n) c1l1 [some (.d (dW l)), some (.d (.int z)), none, none, none] m = .ok [] m := by
    refine (comp_fx (xs := l.map .int) (m1 := m) (by simp only [evI, evE, getV, List.getElem?_cons_zero, List.getElem?_cons_succ, Res.of, Res.bind, seqD_t, Option.map])).trans ?_
    refine none_left fun x hx => ?_
    obtain ⟨i, hi, rfl⟩ := List.mem_map.mp hx
    have := all i hi
    have f := fun m => is_from (sub := sub) (show 1 ≤ n by omega) i 0 z m
    rw [decide_eq_true (by omega)] at f
    simp [turnB, asgT, wipeE, evE, evEs, getV, f]
  have k0 : evL (callF code sub n) c1l0 [some (.d (dW l)), some (.d (.int z)), none, none, none] m = .ok [] m := by
    have sl : cutD (dW l) (some 1) none = some (.tuple ((l.map .int).drop 1)) := by
      show some (PyData.tuple (cut (l.map .int) (some 1) none)) = _
      rw [cut_1]
    have hi : evI (callF code sub n) (.zp (.v 0) (.sl1 (.v 0) (.c (.int 1)))) [some (.d (dW l)), some (.d (.int z)), none, none, none] m = .ok (.fx (zipL (l.map .int) ((l.map .int).drop 1))) m := by
      simp only [evI, evE, getV, List.getElem?_cons_zero, Res.of, Res.bind, view_d, sl, Option.map]
    refine (comp_fx hi).trans ?_
    refine none_left fun x hx => ?_
    obtain ⟨i, x, y, h1, h2, rfl⟩ := mem_next hx
    rw [List.getElem?_map] at h1 h2
    obtain ⟨p, e1, rfl⟩ := map_some h1
    obtain ⟨q, e2, rfl⟩ := map_some h2
    obtain ⟨i1, e1⟩ := List.getElem?_eq_some_iff.mp e1
    obtain ⟨i2, e2⟩ := List.getElem?_eq_some_iff.mp e2
    have hlt := List.pairwise_iff_getElem.mp asc i (i + 1) i1 i2 (by omega)
    rw [e1, e2] at hlt
    have hd : ¬ q ≤ p := by omega
    simp [turnB, asgT, asgTs, wipeE, evE, getV, hd]
  simp [c1, evSs, evS, evT, evE, evEs, getV, k1, k0, len_0]
theorem check_tasks {n : Nat} (hn : 3 ≤ n) {T : Ts} {rs : List Int} (h : Tk T rs) (m : Mem) : callF code sub n 2 [.d (dTs T)] m = .ok (.d (dTs T)) m := by
  obtain ⟨n, rfl⟩ : ∃ k, n = k + 1 := ⟨n - 1, by omega⟩
  rw [call_eq (fn := c2) rfl rfl]
  have k0 : evL (callF code sub n) c2l0 [some (.d (dTs T)), none] m = .ok [] m := by
    refine (comp_fx (xs := T.map dW) (m1 := m) (by simp only [evI, evE, getV, List.getElem?_cons_zero, List.getElem?_cons_succ, Res.of, Res.bind, seqD_t, Option.map])).trans ?_
    refine none_left fun x hx => ?_
    obtain ⟨l, hl, rfl⟩ := List.mem_map.mp hx
    have r := h.rhi
    have f := fun m => is_set (sub := sub) (show 2 ≤ n by omega) (z := 99) (h.asc l hl) (fun x hx => by have := h.hr l hl x hx; omega) m
    simp [turnB, asgT, wipeE, evE, evEs, getV, f]
  have d1 : (1 : Int) ≤ T.length := by have := h.lo; omega
  have d2 : (T.length : Int) ≤ 60 := by have := h.hi; omega
  simp [c2, evSs, evS, evT, evE, evEs, getV, k0, d1, d2, len_0]
theorem flat_few : ∀ {T : Ts} {c : Nat}, (∀ l ∈ T, l.length ≤ c) → T.flatten.length ≤ c * T.length
  | [], _, _ => Nat.zero_le _
  | l :: T, c, h => by
    have := flat_few (T := T) fun k hk => h k (by simp [hk])
    have h1 := h l (by simp)
    rw [List.flatten_cons, List.length_append, List.length_cons, Nat.mul_succ]
    omega
theorem all_hours (cf : CF) {j1 : Nat} (T : Ts) (env : Env) (m : Mem) (X : D) (hX : seqD X = some (T.map dW)) (a b : Nat) (hab : a ≠ b) (ha : a < env.length) (hb : b < env.length) (h0 : getV env j1 = some (.d X)) (hl : T.flatten.length ≤ 10000) :
    evL cf (.comp2 (.nm a) (.sq (.v j1)) [a, b] (.c (.bool true)) (.nm b) (.sq (.v a)) [b] (.c (.bool true)) (.v b)) env m = .ok (T.flatten.map .int) m := by
  have e1 : T.flatten.map PyData.int = T.flatMap fun l => l.map .int := by
    rw [List.map_flatten, ← List.flatMap_def]
  rw [e1]
  refine comp2_fx (f := dW) (by simp only [evI, evE, h0, Res.of, Res.bind, hX, Option.map]) (fun l hl => ?_) (by rw [← e1, List.length_map]; unfold LIM; omega)
  have g1 : getV ((wipeE env [a, b]).set a (some (.d (dW l)))) a = some (.d (dW l)) := by simp [getV, wipeE, ha]
  have in1 : ∀ env2 : Env, env2.length = env.length → compD (turnB (.nm b) (wipeE env2 [b]) (fun e3 m3 => evE cf (.c (.bool true)) e3 m3) (fun e3 m3 => evE cf (.v b) e3 m3)) (l.map .int) m = .ok (l.map .int) m := by
    intro env2 h2
    have : (l.map PyData.int) = l.map fun i => .int i := rfl
    refine compD_of (g := fun i : Int => .int i) fun i _ => ?_
    simp [turnB, asgT, evE, getV, wipeE, h2, hb]
  have hi : evI cf (.sq (.v a)) ((wipeE env [a, b]).set a (some (.d (dW l)))) m = .ok (.fx (l.map .int)) m := by
    simp only [evI, evE, g1, Res.of, Res.bind, seqD_t, Option.map]
  show ((evI cf (.sq (.v a)) ((wipeE env [a, b]).set a (some (.d (dW l)))) m).bind fun ys m4 => compL ys (turnB (.nm b) (wipeE ((wipeE env [a, b]).set a (some (.d (dW l)))) [b]) (fun e3 m3 => evE cf (.c (.bool true)) e3 m3) (fun e3 m3 => evE cf (.v b) e3 m3)) ys.len 0 m4) = _
  rw [hi]
  refine (compL_fx _ _ _).trans (in1 ((wipeE env [a, b]).set a (some (.d (dW l)))) (by simp [wipeE]))
theorem insU_len (x : Int) : ∀ l : List Int, (insU x l).length ≤ l.length + 1
  | [] => Nat.le_refl _
  | y :: r => by
    unfold insU
    split
    · simp
    · split
      · simp
      · have := insU_len x r
        simp
        omega
theorem sortU_len : ∀ l : List Int, (sortU l).length ≤ l.length
  | [] => Nat.le_refl _
  | x :: r => by
    have h1 := sortU_len r
    have h2 := insU_len x (sortU r)
    show (insU x (sortU r)).length ≤ _
    simp
    omega
theorem sst_ok {w : List Int} (h : w.length ≤ 63) : sstU (some w) = some (sortU w) := by
  have := sortU_len w
  show (if (decide (w.length ≤ 4000) && decide ((sortU w).length < 64)) = true then some (sortU w) else none) = _
  rw [decide_eq_true (by omega), decide_eq_true (by omega)]
  rfl
theorem hours_of {n : Nat} (hn : 1 ≤ n) (X : D) (T : Ts) (hX : seqD X = some (T.map dW)) (hl : T.flatten.length ≤ 63) (m : Mem) : callF code sub n 10 [.d X] m = .ok (.d (.list ((sortU T.flatten).map .int))) m := by
  obtain ⟨n, rfl⟩ : ∃ k, n = k + 1 := ⟨n - 1, by omega⟩
  rw [call_eq (fn := c10) rfl rfl]
  have k0 : evL (callF code sub n) c10l0 [some (.d X), none, none] m = .ok (T.flatten.map .int) m := all_hours _ T _ m X hX 1 2 (by decide) (by simp) (by simp) rfl (by omega)
  have k1 : sstV m (.d (.list (T.flatten.map .int))) = some (sortU T.flatten) := by
    show sstU (intsD _) = _
    rw [intsD_map]
    exact sst_ok hl
  simp [c10, evSs, evS, evE, getV, k0, k1, -List.map_flatten]
theorem Tk.flat {T : Ts} {rs : List Int} (h : Tk T rs) : T.flatten.length ≤ 6000 := by
  have := flat_few h.few
  have := h.hi
  omega
theorem check_rooms {n : Nat} (hn : 2 ≤ n) {T : Ts} {rs : List Int} (h : Tk T rs) (m : Mem) : callF code sub n 3 [.d (dTs T), .d (dW rs)] m = .ok (.d (dW rs)) m := by
  obtain ⟨n, rfl⟩ : ∃ k, n = k + 1 := ⟨n - 1, by omega⟩
  rw [call_eq (fn := c3) rfl rfl]
  have k1 : evL (callF code sub n) c3l1 [some (.d (dTs T)), some (.d (dW rs)), none, none, none] m = .ok [] m := by
    refine (comp_fx (xs := rs.map .int) (m1 := m) (by simp only [evI, evE, getV, List.getElem?_cons_zero, List.getElem?_cons_succ, Res.of, Res.bind, seqD_t, Option.map])).trans ?_
    refine none_left fun x hx => ?_
    obtain ⟨r, hr, rfl⟩ := List.mem_map.mp hx
    have := h.rall r hr
    have f := fun m => is_from (sub := sub) (show 1 ≤ n by omega) r 0 60 m
    rw [decide_eq_true (by omega)] at f
    simp [turnB, asgT, wipeE, evE, evEs, getV, f]
  have hf := Tk.flat h
  have k0 : evL (callF code sub n) c3l0 [some (.d (dTs T)), some (.d (dW rs)), none, none, none] m = .ok (T.flatten.map .int) m := all_hours _ T _ m (dTs T) rfl 3 4 (by decide) (by simp) (by simp) rfl (by omega)
  have d1 : (1 : Int) ≤ rs.length := by have := h.rlo; omega
  have d2 : (rs.length : Int) ≤ 100 := by have := h.rhi; omega
  have ad : op2 .add (.list [.int (-1)]) (.list (T.flatten.map .int)) = some (.list ((-1 :: T.flatten).map .int)) := by
    rw [op2_addL (by simp only [List.length_cons, List.length_nil, List.length_map]; unfold LIM; omega)]
    rfl
  have hne : (-1 :: T.flatten) ≠ [] := by simp
  have mx := PV.op_maxL hne
  have le : maxI (-1 :: T.flatten) ≤ (rs.length : Int) - 1 := (maxI_le hne _).mpr fun j hj => by
    rcases List.mem_cons.mp hj with rfl | hj
    · omega
    · obtain ⟨l, hl, hj⟩ := List.mem_flatten.mp hj
      have := (h.hr l hl j hj).2
      omega
  have ge : ¬ (rs.length : Int) ≤ maxI (-1 :: T.flatten) := by omega
  generalize maxI (-1 :: T.flatten) = M at *
  generalize hW : (-1 :: T.flatten).map PyData.int = W at *
  generalize T.flatten.map PyData.int = Z at *
  simp [c3, evSs, evS, evT, evE, evEs, evL, allD, getV, k1, k0, d1, d2, len_0, ad, mx, ge]
theorem picks (cf : CF) {lx : Lx} {T : Ts} {s : List Nat} (hs : ∀ t ∈ s, t < T.length) (env : Env) (m : Mem) (j a b : Nat) (hl : lx = .comp (.nm a) (.sq (.v j)) [a] (.c (.bool true)) (.ix (.v b) (.v a))) (hj : getV env j = some (.d (.tuple (s.map dN)))) (hb : getV env b = some (.d (dTs T))) (hab : a ≠ b) (ha : a < env.length) :
    evL cf lx env m = .ok ((s.map (at' T)).map dW) m := by
  subst hl
  refine (comp_fx (xs := s.map dN) (m1 := m) (by simp only [evI, evE, hj, Res.of, Res.bind, seqD_t, Option.map])).trans ?_
  rw [List.map_map]
  refine compD_of fun t ht => ?_
  have hb2 : ∀ x, getV (((env.set a none).set a x)) b = some (.d (dTs T)) := fun x => by
    unfold getV at hb ⊢
    rw [List.getElem?_set_ne hab, List.getElem?_set_ne hab]
    exact hb
  have ha2 : ∀ x : EV, getV (((env.set a none).set a (some x))) a = some x := fun x => by simp [getV, ha]
  simp only [turnB, asgT, wipeE, evE, Res.of, Res.bind, truth_d, truD_b, hb2, ha2, get_T (hs t ht), Function.comp]
theorem roomsL (cf : CF) {it : Ex} {lx : Lx} {rs hs : List Int} (hh : ∀ z ∈ hs, 0 ≤ z ∧ z < rs.length) (env : Env) (m : Mem) (a b : Nat) (hl : lx = .comp (.nm a) (.sq it) [a] (.c (.bool true)) (.ix (.v b) (.v a))) (hj : evE cf it env m = .ok (.d (.list (hs.map .int))) m) (hb : getV env b = some (.d (dW rs))) (hab : a ≠ b) (ha : a < env.length) :
    evL cf lx env m = .ok ((hs.map (room rs)).map .int) m := by
  subst hl
  refine (comp_fx (xs := hs.map .int) (m1 := m) (by simp only [evI, hj, Res.of, Res.bind, seqD_l, Option.map])).trans ?_
  refine compD_ints fun t ht => ?_
  obtain ⟨t0, t1⟩ := hh t ht
  have hb2 : ∀ x, getV (((env.set a none).set a x)) b = some (.d (dW rs)) := fun x => by
    unfold getV at hb ⊢
    rw [List.getElem?_set_ne hab, List.getElem?_set_ne hab]
    exact hb
  have ha2 : ∀ x : EV, getV (((env.set a none).set a (some x))) a = some x := fun x => by simp [getV, ha]
  simp only [turnB, asgT, wipeE, evE, Res.of, Res.bind, truth_d, truD_b, hb2, ha2, get_z t0 t1]
/-- a set of tasks -/
structure TSet (T : Ts) (s : List Nat) : Prop where
  asc : s.Pairwise (· < ·)
  lt : ∀ t ∈ s, t < T.length
def isLotB (T : Ts) (rs : List Int) (s : List Nat) : Bool := !s.isEmpty && decide (((hoursL T s).map (room rs)).sum < s.length)
theorem lot_iff {T : Ts} {rs : List Int} {s : List Nat} (h : TSet T s) : isLotB T rs s = true ↔ Lot T rs s := by
  unfold isLotB
  simp only [Bool.and_eq_true, decide_eq_true_eq, Bool.not_eq_true', List.isEmpty_eq_false_iff]
  exact ⟨fun ⟨a, b⟩ => ⟨a, h.asc, h.lt, b⟩, fun q => ⟨q.ne, q.few⟩⟩
theorem mem_at {T : Ts} {s : List Nat} (hs : ∀ t ∈ s, t < T.length) {l : List Int} (h : l ∈ s.map (at' T)) : l ∈ T := by
  obtain ⟨t, ht, rfl⟩ := List.mem_map.mp h
  exact List.mem_of_getElem? (at_lt (hs t ht))
theorem hour_in {T : Ts} {rs : List Int} (h : Tk T rs) {s : List Nat} {z : Int} (hz : z ∈ hoursL T s) : 0 ≤ z ∧ z < rs.length := by
  obtain ⟨t, ht, hz⟩ := hoursL_mem.mp hz
  exact h.hr _ (at_mem hz).2 z hz
theorem castN (s : List Nat) : s.map dN = (s.map fun t : Nat => (t : Int)).map .int := by rw [List.map_map]; rfl
theorem is_lot_so {n : Nat} (hn : 3 ≤ n) {T : Ts} {rs : List Int} (h : Tk T rs) {s : List Nat} (hs : TSet T s) (hl : (s.map (at' T)).flatten.length ≤ 63) (m : Mem) : callF code sub n 9 [.d (dTs T), .d (dW rs), .d (.tuple (s.map dN))] m = .ok (.d (.bool (isLotB T rs s))) m := by
  obtain ⟨n, rfl⟩ : ∃ k, n = k + 1 := ⟨n - 1, by omega⟩
  rw [call_eq (fn := c9) rfl rfl]
  have f1 : ∀ m, callF code sub n 1 [.d (.tuple (s.map dN)), .d (.int ((T.length : Int) - 1))] m = .ok (.d (.bool true)) m := fun m => by
    rw [castN]
    refine is_set (sub := sub) (show 2 ≤ n by omega) (List.pairwise_map.mpr (hs.asc.imp fun q => by omega)) (fun x hx => ?_) m
    obtain ⟨t, ht, rfl⟩ := List.mem_map.mp hx
    have := hs.lt t ht
    omega
  have f2 : ∀ m, callF code sub n 10 [.d (.list ((s.map (at' T)).map dW))] m = .ok (.d (.list ((hoursL T s).map .int))) m := fun m => hours_of (sub := sub) (show 1 ≤ n by omega) (dLs (s.map (at' T))) (s.map (at' T)) rfl hl m
  have k1 : ∀ a3 m, evL (callF code sub n) c9l1 [some (.d (dTs T)), some (.d (dW rs)), some (.d (.tuple (s.map dN))), a3, none, none] m = .ok ((s.map (at' T)).map dW) m := fun a3 m => picks _ hs.lt _ m 2 4 0 rfl rfl rfl (by decide) (by simp)
  have k0 : ∀ m, evL (callF code sub n) c9l0 [some (.d (dTs T)), some (.d (dW rs)), some (.d (.tuple (s.map dN))), some (.d (.list ((hoursL T s).map .int))), none, none] m = .ok (((hoursL T s).map (room rs)).map .int) m := fun m => roomsL _ (fun z hz => hour_in h hz) _ m 5 1 rfl rfl rfl (by decide) (by simp)
  have sm := op1_sumL ((hoursL T s).map (room rs))
  have ln : op1 .len (.tuple (s.map dN)) = some (.int (s.length : Int)) := by rw [op1_lenT, List.length_map]
  have is2 : isiD 2 (.tuple (s.map dN)) = true := rfl
  unfold isLotB
  generalize (hoursL T s).map (room rs) = R at *
  generalize (hoursL T s).map PyData.int = Hs at *
  generalize (s.map (at' T)).map dW = P at *
  generalize PyData.tuple (s.map dN) = V at *
  by_cases h0 : s = []
  · subst h0
    simp [c9, evSs, evS, evT, evE, evEs, getV, f1, ln]
  · have e : ¬ ((s.length : Int) = 0) := by
      have := List.length_pos_iff.mpr h0
      omega
    have e2 : s.isEmpty = false := by simpa using h0
    simp [c9, evSs, evS, evT, evE, evEs, getV, asgM, asgT, f1, h0, k1, f2, k0, sm, ln, -List.map_map]
end k60
end PV
end

section
set_option Elab.async false
set_option linter.all false
set_option maxRecDepth 100000
namespace PV
namespace k60
open PySem
variable {sub : Nat → Nat → Bool}
/-! ### the script's state -/
abbrev sC : Str := Str.ofString "cells"
abbrev sL : Str := Str.ofString "lefts"
abbrev sA : Str := Str.ofString "at"
structure DS where
  cells : List Int
  lefts : List Int
  at' : Int
def DS.kv (d : DS) : List (L2.Key × EV) := [(.inr sC, .d (.list (d.cells.map .int))), (.inr sL, .loc 0), (.inr sA, .d (.int d.at'))]
def DS.mem (d : DS) : Mem := [.lst (d.lefts.map fun i => .d (.int i)), .dK d.kv]
structure DS.Ok (d : DS) : Prop where
  ne : 0 < d.cells.length
  len : d.lefts.length = d.cells.length
  pos : 0 ≤ d.at'
theorem kv_at (a b c : EV) : kvGet [(.inr sC, a), (.inr sL, b), (.inr sA, c)] (.inr sA) = some c := by rfl
theorem kv_cells (a b c : EV) : kvGet [(.inr sC, a), (.inr sL, b), (.inr sA, c)] (.inr sC) = some a := by rfl
theorem kv_lefts (a b c : EV) : kvGet [(.inr sC, a), (.inr sL, b), (.inr sA, c)] (.inr sL) = some b := by rfl
theorem kv_put (a b c x : EV) : kvPut [(.inr sC, a), (.inr sL, b), (.inr sA, c)] (.inr sA) x = [(.inr sC, a), (.inr sL, b), (.inr sA, x)] := by rfl
theorem get_at (d : DS) (rest : Mem) : getIx (d.mem ++ rest) (.loc 1) (.str sA) = some (.d (.int d.at')) := kv_at (.d (.list (d.cells.map .int))) (.loc 0) (.d (.int d.at'))
theorem get_cells (d : DS) (rest : Mem) : getIx (d.mem ++ rest) (.loc 1) (.str sC) = some (.d (.list (d.cells.map .int))) := kv_cells (.d (.list (d.cells.map .int))) (.loc 0) (.d (.int d.at'))
theorem get_lefts (d : DS) (rest : Mem) : getIx (d.mem ++ rest) (.loc 1) (.str sL) = some (.loc 0) := kv_lefts (.d (.list (d.cells.map .int))) (.loc 0) (.d (.int d.at'))
theorem set_at (d : DS) (rest : Mem) (i : Int) : setIx (d.mem ++ rest) (.loc 1) (.str sA) (.d (.int i)) = some (({ d with at' := i } : DS).mem ++ rest) := by
  show ((some (Sum.inr sA : L2.Key)).bind fun k => if decide (d.kv.length < 1000) && inB 1 (.d (.int i)) then some ((d.mem ++ rest).set 1 (.dK (kvPut d.kv k (.d (.int i))))) else none) = _
  rw [Option.bind_some, if_pos (by rfl)]
  unfold DS.kv
  rw [kv_put]
  rfl
theorem get_left (d : DS) (rest : Mem) {k : Nat} {v : Int} (h : d.lefts[k]? = some v) : getIx (d.mem ++ rest) (.loc 0) (.int k) = some (.d (.int v)) := by
  have hl : k < d.lefts.length := (List.getElem?_eq_some_iff.mp h).1
  show ((idx (k : Int) (d.lefts.map fun i => EV.d (.int i)).length).bind fun j => (d.lefts.map fun i => EV.d (.int i))[j]?) = _
  rw [List.length_map, idx_nat hl, Option.bind_some, List.getElem?_map, h]
  rfl
theorem set_left (d : DS) (rest : Mem) {k : Nat} (h : k < d.lefts.length) (v : Int) : setIx (d.mem ++ rest) (.loc 0) (.int k) (.d (.int v)) = some (({ d with lefts := d.lefts.set k v } : DS).mem ++ rest) := by
  show (if inB 0 (.d (.int v)) then (idx (k : Int) (d.lefts.map fun i => EV.d (.int i)).length).map fun j => (d.mem ++ rest).set 0 (.lst ((d.lefts.map fun i => EV.d (.int i)).set j (.d (.int v)))) else none) = _
  rw [if_pos (by rfl), List.length_map, idx_nat h, Option.map_some]
  unfold DS.mem
  rw [List.map_set]
  rfl
theorem lt8000 {i : Int} (h : i < 2 ^ 200) : i < 2 ^ 8000 := by
  have h1 : (2 : Nat) ^ 200 ≤ 2 ^ 8000 := Nat.pow_le_pow_right (by decide) (by decide)
  have h2 := Int.ofNat_le.mpr h1
  rw [Int.natCast_pow, Int.natCast_pow] at h2
  exact Int.lt_of_lt_of_le h h2
def mixI (c k : Int) : Int := ((c % 2147483647) * (48271 + 2 * k * k) + 69621 * k + 11) % 2147483647 * 69621 % 2147483629
theorem mulOk_l {i j : Int} (h : -(2 ^ 64) < i ∧ i < 2 ^ 64) : mulOk i j = true := by
  unfold mulOk
  rw [decide_eq_true h]
  rfl
theorem mulOk_r {i j : Int} (h : -(2 ^ 64) < j ∧ j < 2 ^ 64) : mulOk i j = true := by
  unfold mulOk
  rw [decide_eq_true h, Bool.or_true]
theorem mixed {n : Nat} (hn : 1 ≤ n) (c k : Int) (hk : -(2 ^ 60) < k ∧ k < 2 ^ 60) (m : Mem) : callF code sub n 15 [.d (.int c), .d (.int k)] m = .ok (.d (.int (mixI c k))) m := by
  obtain ⟨n, rfl⟩ : ∃ k, n = k + 1 := ⟨n - 1, by omega⟩
  rw [call_eq (fn := c15) rfl rfl]
  have m1 : op2 .mod (.int c) (.int 2147483647) = some (.int (c % 2147483647)) := op2_mod (by decide)
  have m2 : op2 .mul (.int 2) (.int k) = some (.int (2 * k)) := op2_mul (mulOk_l (by decide))
  have m3 : op2 .mul (.int (2 * k)) (.int k) = some (.int (2 * k * k)) := op2_mul (mulOk_r (by omega))
  have m4 : op2 .mul (.int (c % 2147483647)) (.int (48271 + 2 * k * k)) = some (.int ((c % 2147483647) * (48271 + 2 * k * k))) := op2_mul (mulOk_l (by omega))
  have m5 : op2 .mul (.int 69621) (.int k) = some (.int (69621 * k)) := op2_mul (mulOk_l (by decide))
  have m6 : ∀ x : Int, op2 .mul (.int x) (.int 69621) = some (.int (x * 69621)) := fun x => op2_mul (mulOk_r (by decide))
  have m7 : ∀ x : Int, op2 .mod (.int x) (.int 2147483629) = some (.int (x % 2147483629)) := fun x => op2_mod (by decide)
  have m8 : ∀ x : Int, op2 .mod (.int x) (.int 2147483647) = some (.int (x % 2147483647)) := fun x => op2_mod (by decide)
  simp [c15, evSs, evS, evE, getV, asgT, asgM, m1, m2, m3, m4, m5, m6, m7, m8, mixI]
theorem mixI_ok (c k : Int) : 0 ≤ mixI c k ∧ mixI c k < 2147483629 := by
  unfold mixI
  omega
theorem take_mem (d d' : DS) (rest : Mem) : (d'.mem ++ rest).take (d.mem ++ rest).length = d'.mem ++ rest := List.take_of_length_le (by simp [DS.mem])
theorem take_mem2 (d d' : DS) (rest : Mem) : (d'.mem ++ rest).take (d.mem.length + rest.length) = d'.mem ++ rest := List.take_of_length_le (by simp [DS.mem]; omega)
/-- a drawn number -/
theorem draw {n : Nat} (hn : 2 ≤ n) (d : DS) (hd : d.Ok) (ha : d.at' < 2 ^ 40) (lim : Int) (hl : 0 < lim) (hl2 : lim < 2 ^ 200) (rest : Mem) : ∃ (r : Int) (d' : DS), callF code sub n 17 [.loc 1, .d (.int lim)] (d.mem ++ rest) = .ok (.d (.int r)) (d'.mem ++ rest) ∧ 0 ≤ r ∧ r < lim ∧ d'.Ok ∧ d'.at' = d.at' + 1 := by
  obtain ⟨n, rfl⟩ : ∃ k, n = k + 1 := ⟨n - 1, by omega⟩
  rw [call_eq (fn := c17) rfl rfl]
  obtain ⟨p1, p2, p3⟩ := hd
  have q1 : 0 ≤ d.at' % (d.cells.length : Int) := Int.emod_nonneg _ (by omega)
  have q2 : d.at' % (d.cells.length : Int) < (d.cells.length : Int) := Int.emod_lt_of_pos _ (by omega)
  obtain ⟨k, hk⟩ : ∃ k : Nat, d.at' % (d.cells.length : Int) = k := ⟨(d.at' % (d.cells.length : Int)).toNat, by omega⟩
  rw [hk] at q1 q2
  have hkl : k < d.lefts.length := by omega
  have m1 : op2 .mod (.int d.at') (.int (d.cells.length : Int)) = some (.int k) := by rw [op2_mod (by omega), hk]
  obtain ⟨v, hv⟩ : ∃ v, d.lefts[k]? = some v := ⟨d.lefts[k], List.getElem?_eq_getElem hkl⟩
  obtain ⟨c, hc⟩ : ∃ c, d.cells[k]? = some c := ⟨d.cells[k]'(by omega), List.getElem?_eq_getElem (by omega)⟩
  have hi : idx (k : Int) d.cells.length = some k := idx_nat (by omega)
  have g1 := get_left ({ d with at' := d.at' + 1 } : DS) rest (show ({ d with at' := d.at' + 1 } : DS).lefts[k]? = some v from hv)
  by_cases hp : 0 < v
  · have f1 : op2 .fdiv (.int v) (.int lim) = some (.int (v / lim)) := op2_fdiv hl (lt8000 hl2)
    have f2 : op2 .mod (.int v) (.int lim) = some (.int (v % lim)) := op2_mod hl
    have s1 := set_left ({ d with at' := d.at' + 1 } : DS) rest (show k < ({ d with at' := d.at' + 1 } : DS).lefts.length from hkl) (v / lim)
    refine ⟨v % lim, { d with at' := d.at' + 1, lefts := d.lefts.set k (v / lim) }, ?_, Int.emod_nonneg _ (by omega), Int.emod_lt_of_pos _ hl, ⟨p1, by simpa using p2, by show 0 ≤ d.at' + 1; omega⟩, rfl⟩
    simp [c17, evSs, evS, evE, evEs, evT, getV, asgT, asgM, get_at, set_at, get_cells, get_lefts, m1, g1, hp, f1, f2, s1, take_mem2]
  · have f1 : ∀ x : Int, op2 .fdiv (.int x) (.int 64) = some (.int (x / 64)) := fun x => op2_fdiv (by decide) (lt8000 (by decide))
    have f2 : ∀ x : Int, op2 .mod (.int x) (.int lim) = some (.int (x % lim)) := fun x => op2_mod hl
    have f3 : ∀ x : Int, op2 .mul (.int x) (.int 2147483647) = some (.int (x * 2147483647)) := fun x => op2_mul (mulOk_r (by decide))
    have gl : ∀ m : Mem, getIx m (.d (.list (d.cells.map .int))) (.int k) = some (.d (.int c)) := fun m => by
      show ((idx (k : Int) (d.cells.map PyData.int).length).bind fun j => ((d.cells.map PyData.int)[j]?).map EV.d) = _
      rw [List.length_map, hi, Option.bind_some, List.getElem?_map, hc]
      rfl
    have x1 := fun (c : Int) (m : Mem) => mixed (sub := sub) (show 1 ≤ n by omega) c d.at' (by omega) m
    have x2 := fun (c : Int) (m : Mem) => mixed (sub := sub) (show 1 ≤ n by omega) c (40 + d.at') (by omega) m
    have x3 := fun (c : Int) (m : Mem) => mixed (sub := sub) (show 1 ≤ n by omega) c (7 + d.at') (by omega) m
    refine ⟨(mixI (mixI c d.at') (40 + d.at') * 2147483647 + mixI (mixI (mixI c d.at') (40 + d.at')) (7 + d.at')) / 64 % lim, { d with at' := d.at' + 1 }, ?_, ?_, ?_, ⟨p1, p2, by show 0 ≤ d.at' + 1; omega⟩, rfl⟩
    rotate_left
    · exact Int.emod_nonneg _ (by omega)
    · exact Int.emod_lt_of_pos _ hl
    · simp [c17, evSs, evS, evE, evEs, evT, getV, asgT, asgM, get_at, set_at, get_cells, get_lefts, m1, g1, gl, hp, f1, f2, f3, x1, x2, x3, take_mem2]
end k60
end PV
end

section
set_option Elab.async false
set_option linter.all false
set_option maxRecDepth 100000
namespace PV
namespace k60
open PySem
variable {sub : Nat → Nat → Bool}
/-! ### the state's beginning -/
theorem shaped_ints (ns : List Int) : SeqAt.shaped (.list (ns.map .int)) = true := by
  have h1 : ∀ ns : List Int, PyData.canLayAll0 (ns.map .int) = true := fun ns => by
    induction ns with
    | nil => rfl
    | cons n ns ih => simp [PyData.canLayAll0, PyData.canLay0, ih]
  have h2 : ∀ ns : List Int, PyData.depthAll (ns.map .int) = 0 := fun ns => by
    induction ns with
    | nil => rfl
    | cons n ns ih => simp [PyData.depthAll, PyData.depth, ih]
  unfold SeqAt.shaped
  simp [PyData.canLay0, PyData.depth, h1, h2]
theorem ne_nil (ns : List Int) : op2 .ne (.list (ns.map .int)) (.list []) = some (.bool (!ns.isEmpty)) := by
  have h0 : SeqAt.shaped (.list []) = true := shaped_ints []
  show (if SeqAt.shaped (.list (ns.map .int)) && SeqAt.shaped (.list []) then some (PyData.eqv (.list (ns.map .int)) (.list [])) else none).map _ = _
  rw [shaped_ints, h0]
  cases ns <;> rfl
def dS0 (ns : List Int) : DS := let c := if ns.isEmpty then [0] else ns; ⟨c, c.map fun i => if 10 ^ 18 ≤ i then i else 0, 0⟩
theorem dS0_ok (ns : List Int) : (dS0 ns).Ok := by
  unfold dS0
  cases ns with
  | nil => exact ⟨by decide, by decide, by decide⟩
  | cons n ns => exact ⟨by simp, by simp, by simp⟩
theorem begin_ok {n : Nat} (hn : 1 ≤ n) (ns : List Int) : callF code sub n 16 (rowD ns) [] = .ok (.loc 1) (dS0 ns).mem := by
  obtain ⟨n, rfl⟩ : ∃ k, n = k + 1 := ⟨n - 1, by omega⟩
  unfold rowD
  rw [call_eq (fn := c16) rfl rfl]
  have p1 : op2 .pow (.int 10) (.int 18) = some (.int (10 ^ 18)) := by rfl
  have key : ∀ (c : List Int) (a), evL (callF code sub n) c16l0 [a, some (.d (.list (c.map .int))), none] [] = .ok ((c.map fun i => if 10 ^ 18 ≤ i then i else 0).map .int) [] := by
    intro c a
    simp only [c16l0, evL, evI, evE, getV, List.getElem?_cons_zero, List.getElem?_cons_succ, Res.of, Res.bind, seqD, Option.map, compL_fx]
    rw [compD_ints (g := fun i => if 10 ^ 18 ≤ i then i else 0) fun i hi => ?_]
    by_cases h : (10 : Int) ^ 18 ≤ i
    · simp only [evE, asgT, asgM, wipeE, getV, p1, op2_ge, h, truth_d, truD_b, view2_d, Res.bind, Res.of, Option.map, List.getElem?_set, List.getElem?_cons_succ, List.getElem?_cons_zero, List.set, decide_true, if_true]
    · simp only [evE, asgT, asgM, wipeE, getV, p1, op2_ge, h, truth_d, truD_b, view2_d, Res.bind, Res.of, Option.map, List.getElem?_set, List.getElem?_cons_succ, List.getElem?_cons_zero, List.set, decide_false, if_false]
  have hk : decide (([sC, sL, sA] : List Str).Nodup) = true := by decide +kernel
  have hv : viewR [] (.ro (ns.map .int)) = some (.list (ns.map .int)) := rfl
  have hne := ne_nil ns
  have fin2 : ∀ c : List Int, (c = if ns.isEmpty then [0] else ns) → (evE (callF code sub n) (.ite (.b2 .ne (.v 0) (.fl (.dis .nil))) (.fl (.lst (.v 0))) (.fl (.dis (.cons (.c (.int 0)) .nil)))) [some (.ro (ns.map .int)), none, none] []) = .ok (.d (.list (c.map .int))) [] := by
    rintro c rfl
    cases hns : ns.isEmpty <;> simp [evE, evEs, evL, getV, view2, hv, hne, hns, allD]
  have h2 := fin2 _ rfl
  have k1 := key (if ns.isEmpty then [0] else ns) (some (.ro (ns.map .int)))
  generalize hc : (if ns.isEmpty then [0] else ns) = c at h2 k1
  have hd : dS0 ns = ⟨c, c.map fun i => if 10 ^ 18 ≤ i then i else 0, 0⟩ := by
    unfold dS0
    rw [hc]
  rw [hd]
  have e1 : evS (callF code sub n) sub (.asg (.nm 1) (.ite (.b2 .ne (.v 0) (.fl (.dis .nil))) (.fl (.lst (.v 0))) (.fl (.dis (.cons (.c (.int 0)) .nil))))) [some (.ro (ns.map .int)), none, none] [] = .nx [some (.ro (ns.map .int)), some (.d (.list (c.map .int))), none] [] := by
    show S.of _ (evE _ _ _ _) _ = _
    rw [h2]
    rfl
  have e2 : evS (callF code sub n) sub (.ret (.dis [sC, sL, sA] (.cons (.v 1) (.cons (.ml c16l0) (.cons (.c (.int 0)) .nil))))) [some (.ro (ns.map .int)), some (.d (.list (c.map .int))), none] [] = .rt (.loc 1) (DS.mem ⟨c, c.map fun i => if 10 ^ 18 ≤ i then i else 0, 0⟩) := by
    simp only [evS, evE, evEs, getV, List.getElem?_cons_succ, List.getElem?_cons_zero, Res.of, Res.bind, k1, List.length_cons, List.length_nil, hk, S.of, DS.mem, DS.kv, List.map_map]
    all_goals rfl
  exact congrArg (fin 0) ((evSs_nx e1).trans (evSs_rt e2))
/-! ### drawn lists -/
/-- numbers drawn one after another -/
theorem drawL {bd : EV → Mem → Res (Option D)} {rest : Mem} {P : D → Int → Prop} {c : Nat} {B : Int} {xs : List D}
    (h : ∀ x ∈ xs, ∀ d : DS, d.Ok → d.at' < B → ∃ (i : Int) (d' : DS), bd (.d x) (d.mem ++ rest) = .ok (some (.int i)) (d'.mem ++ rest) ∧ P x i ∧ d'.Ok ∧ d'.at' ≤ d.at' + c) (d : DS) (hd : d.Ok) (hB : d.at' + c * xs.length < B) :
    ∃ (w : List Int) (d' : DS), compD bd xs (d.mem ++ rest) = .ok (w.map .int) (d'.mem ++ rest) ∧ w.length = xs.length ∧ (∀ (k : Nat) (x : D) (i : Int), xs[k]? = some x → w[k]? = some i → P x i) ∧ d'.Ok ∧ d'.at' ≤ d.at' + c * xs.length := by
  let I : List D → List D → Mem → Prop := fun pre acc m => ∃ (w : List Int) (d' : DS), acc = w.map .int ∧ m = d'.mem ++ rest ∧ w.length = pre.length ∧ (∀ (k : Nat) (x : D) (i : Int), pre[k]? = some x → w[k]? = some i → P x i) ∧ d'.Ok ∧ d'.at' ≤ d.at' + c * pre.length
  have step : ∀ pre x post, xs = pre ++ x :: post → ∀ acc m, I pre acc m → ∃ o m1, bd (.d x) m = .ok o m1 ∧ I (pre ++ [x]) (acc ++ o.toList) m1 := by
    rintro pre x post e acc m ⟨w, d', rfl, rfl, h2, h3, h4, h5⟩
    have hlen : pre.length + 1 ≤ xs.length := by rw [e]; simp
    have hc : (c : Int) * pre.length + c ≤ c * xs.length := by
      have h6 : c * (pre.length + 1) ≤ c * xs.length := Nat.mul_le_mul_left c hlen
      have h7 := Int.ofNat_le.mpr h6
      rw [Nat.mul_add] at h7
      push_cast at h7
      omega
    have hc0 : (0 : Int) ≤ c := by omega
    obtain ⟨i, d2, k1, k2, k3, k4⟩ := h x (by rw [e]; simp) d' h4 (by
      by_cases hcz : (c : Int) = 0
      · rw [hcz] at hB h5
        simp at hB h5
        omega
      · omega)
    refine ⟨some (.int i), d2.mem ++ rest, k1, w ++ [i], d2, by simp, rfl, by simp [h2], fun k y j hy hj => ?_, k3, ?_⟩
    · by_cases hk : k < pre.length
      · rw [List.getElem?_append_left hk] at hy
        rw [List.getElem?_append_left (by omega)] at hj
        exact h3 k y j hy hj
      · rw [List.getElem?_append_right (by omega)] at hy
        rw [List.getElem?_append_right (by omega)] at hj
        rw [h2] at hj
        cases e2 : k - pre.length with
        | zero =>
          rw [e2] at hy hj
          simp at hy hj
          subst hy hj
          exact k2
        | succ z =>
          rw [e2] at hy
          simp at hy
    · rw [List.length_append]
      push_cast
      have : (c : Int) * (pre.length + 1) = c * pre.length + c := by rw [Int.mul_add, Int.mul_one]
      simp only [List.length_cons, List.length_nil]
      show d2.at' ≤ d.at' + c * ((pre.length : Int) + ((0 : Nat) + 1 : Nat))
      have e3 : ((0 + 1 : Nat) : Int) = 1 := rfl
      rw [e3, this]
      omega
  obtain ⟨ds, m', h1, w, d', rfl, rfl, h2, h3, h4, h5⟩ := compD_ind I step (m := d.mem ++ rest) ⟨[], d, rfl, rfl, rfl, (fun k x i e => by simp at e), hd, by simp⟩
  exact ⟨w, d', h1, h2, h3, h4, h5⟩
/-- sizes drawn -/
structure Sizes (s : List Int) : Prop where
  lo : 1 ≤ s.length
  hi : s.length ≤ 4
  all : ∀ x ∈ s, 1 ≤ x ∧ x ≤ 4
end k60
end PV
end

section
set_option Elab.async false
set_option linter.all false
set_option maxRecDepth 100000
namespace PV
namespace k60
open PySem Mt
variable {sub : Nat → Nat → Bool}
/-- tasks and rooms as they are drawn -/
structure Sm (T : Ts) (rs : List Int) : Prop where
  tk : Tk T rs
  hi : T.length ≤ 6
  four : ∀ l ∈ T, l.length ≤ 4
  rhi : rs.length ≤ 4
  rall : ∀ r ∈ rs, 0 ≤ r ∧ r ≤ 2
/-- numbers that stay or not, by what is drawn -/
theorem drawF {bd : EV → Mem → Res (Option D)} {rest : Mem} {must : Int → Prop} {c : Nat} {B : Int} : ∀ (xs : List Int)
    (h : ∀ x ∈ xs, ∀ d : DS, d.Ok → d.at' < B → ∃ (b : Bool) (d' : DS), bd (.d (.int x)) (d.mem ++ rest) = .ok (if b then some (.int x) else none) (d'.mem ++ rest) ∧ (must x → b = true) ∧ d'.Ok ∧ d'.at' ≤ d.at' + c) (d : DS) (hd : d.Ok) (hB : d.at' + c * xs.length < B),
    ∃ (w : List Int) (d' : DS), compD bd (xs.map .int) (d.mem ++ rest) = .ok (w.map .int) (d'.mem ++ rest) ∧ w.Sublist xs ∧ (∀ x ∈ xs, must x → x ∈ w) ∧ d'.Ok ∧ d'.at' ≤ d.at' + c * xs.length
  | [], _, d, hd, _ => ⟨[], d, rfl, List.Sublist.refl _, (fun _ h => nomatch h), hd, by simp⟩
  | x :: xs, h, d, hd, hB => by
    have e0 : ((c : Int) * ((x :: xs).length : Nat)) = c * (xs.length : Nat) + c := by
      rw [List.length_cons]; push_cast; rw [Int.mul_add, Int.mul_one]
    rw [e0] at hB
    have hc : (0 : Int) ≤ c * (xs.length : Nat) := Int.mul_nonneg (by omega) (by omega)
    obtain ⟨b, d1, h1, h2, h3, h4⟩ := h x (by simp) d hd (by omega)
    obtain ⟨w, d2, k1, k2, k3, k4, k5⟩ := drawF xs (fun y hy => h y (by simp [hy])) d1 h3 (by omega)
    refine ⟨if b then x :: w else w, d2, ?_, ?_, fun y hy hm => ?_, k4, by rw [e0]; omega⟩
    · rw [List.map_cons]
      unfold compD
      rw [h1]
      show ((compD bd (xs.map .int) (d1.mem ++ rest)).bind fun ds m2 => Res.ok (match (if b then some (PyData.int x) else none) with | some d => d :: ds | none => ds) m2) = _
      rw [k1]
      cases b <;> rfl
    · cases b
      · exact k2.cons x
      · exact k2.cons₂ x
    · rcases List.mem_cons.mp hy with rfl | hy
      · rw [h2 hm]
        simp
      · have := k3 y hy hm
        cases b <;> simp [this]
theorem rangeI (k : Nat) : rangeL 0 (k : Int) = ((List.range k).map fun (i : Nat) => (i : Int)).map .int := by
  rw [rangeL0, List.map_map]
  rfl
theorem range_asc (k : Nat) : ((List.range k).map fun (i : Nat) => (i : Int)).Pairwise (· < ·) := by
  rw [List.pairwise_map]
  exact List.pairwise_lt_range.imp fun h => by omega
theorem mine_drawn (n : Nat) (hn : 2 ≤ n) (k : Nat) (hk : k ≤ 4) (first : Int) (d : DS) (hd : d.Ok) (ha : d.at' < 2 ^ 20) (a2 a3 a4 a6 a7 : Option EV) : ∃ (w : List Int) (d' : DS), evL (callF code sub n) c18l0 [some (.loc 1), some (.d (.int (k : Int))), a2, a3, a4, some (.d (.int first)), a6, a7] d.mem = .ok (w.map .int) d'.mem ∧ w.Sublist ((List.range k).map fun (i : Nat) => (i : Int)) ∧ (∀ x ∈ ((List.range k).map fun (i : Nat) => (i : Int)), x = first → x ∈ w) ∧ d'.Ok ∧ d'.at' ≤ d.at' + 4 := by
  have hi : evI (callF code sub n) (.rng1 (.v 1)) [some (.loc 1), some (.d (.int (k : Int))), a2, a3, a4, some (.d (.int first)), a6, a7] d.mem = .ok (.fx (((List.range k).map fun (i : Nat) => (i : Int)).map .int)) d.mem := by
    rw [← rangeI]
    exact rng1_ok rfl (by omega) (by unfold LIM; omega)
  have dl := drawF (rest := []) (c := 1) (B := 2 ^ 30) (must := fun x => x = first) (bd := turnB (.nm 7) (wipeE [some (.loc 1), some (.d (.int (k : Int))), a2, a3, a4, some (.d (.int first)), a6, a7] [7]) (fun e2 m2 => evE (callF code sub n) (.or (.b2 .eq (.v 7) (.v 5)) (.b2 .eq (.call 17 (.cons (.v 0) (.cons (.c (.int 2)) .nil))) (.c (.int 0)))) e2 m2) (fun e2 m2 => evE (callF code sub n) (.v 7) e2 m2)) ((List.range k).map fun (i : Nat) => (i : Int)) (fun x hx d hd ha => by
      by_cases e : x = first
      · refine ⟨true, d, ?_, fun _ => rfl, hd, by omega⟩
        simp only [turnB, asgT, wipeE, evE, evEs, getV, List.set, List.getElem?_cons_zero, List.getElem?_cons_succ, Res.of, Res.bind, truth_d, truD_b, view2_d, op2_eq, e, decide_true, Option.map, if_true]
      · obtain ⟨r, d1, e1, r1, r2, k1, l1⟩ := draw (sub := sub) hn d hd (by omega) 2 (by decide) (by decide) []
        refine ⟨decide (r = 0), d1, ?_, fun h => absurd h e, k1, by omega⟩
        by_cases hr : r = 0
        · simp only [turnB, asgT, wipeE, evE, evEs, getV, List.set, List.getElem?_cons_zero, List.getElem?_cons_succ, Res.of, Res.bind, truth_d, truD_b, view2_d, op2_eq, e, decide_false, Option.map, e1, hr, decide_true, if_true]
        · simp only [turnB, asgT, wipeE, evE, evEs, getV, List.set, List.getElem?_cons_zero, List.getElem?_cons_succ, Res.of, Res.bind, truth_d, truD_b, view2_d, op2_eq, e, decide_false, Option.map, e1, hr, Bool.false_eq_true, if_false]) d hd (by rw [List.length_map, List.length_range]; omega)
  rw [List.append_nil] at dl
  obtain ⟨w, d', h1, h2, h3, h4, h5⟩ := dl
  rw [List.append_nil] at h1
  rw [List.length_map, List.length_range] at h5
  exact ⟨w, d', (comp_fx hi).trans h1, h2, h3, h4, by omega⟩
theorem rooms_drawn (n : Nat) (hn : 2 ≤ n) (k : Nat) (hk : k ≤ 4) (d : DS) (hd : d.Ok) (ha : d.at' < 2 ^ 20) (a2 a3 a4 a5 a6 a7 : Option EV) : ∃ (w : List Int) (d' : DS), evL (callF code sub n) c18l1 [some (.loc 1), some (.d (.int (k : Int))), a2, a3, a4, a5, a6, a7] d.mem = .ok (w.map .int) d'.mem ∧ w.length = k ∧ (∀ z ∈ w, 0 ≤ z ∧ z ≤ 2) ∧ d'.Ok ∧ d'.at' ≤ d.at' + 4 := by
  have hi : evI (callF code sub n) (.rng1 (.v 1)) [some (.loc 1), some (.d (.int (k : Int))), a2, a3, a4, a5, a6, a7] d.mem = .ok (.fx (((List.range k).map fun (i : Nat) => (i : Int)).map .int)) d.mem := by
    rw [← rangeI]
    exact rng1_ok rfl (by omega) (by unfold LIM; omega)
  have dl := drawL (rest := []) (c := 1) (B := 2 ^ 30) (P := fun _ i => 0 ≤ i ∧ i ≤ 2) (bd := turnB (.nm 4) (wipeE [some (.loc 1), some (.d (.int (k : Int))), a2, a3, a4, a5, a6, a7] [4]) (fun e2 m2 => evE (callF code sub n) (.c (.bool true)) e2 m2) (fun e2 m2 => evE (callF code sub n) (.b2 .fdiv (.b2 .mul (.call 17 (.cons (.v 0) (.cons (.c (.int 5)) .nil))) (.c (.int 2))) (.c (.int 3))) e2 m2)) (xs := ((List.range k).map fun (i : Nat) => (i : Int)).map .int) (fun x hx d hd ha => by
      obtain ⟨r, d1, e1, r1, r2, k1, l1⟩ := draw (sub := sub) hn d hd (by omega) 5 (by decide) (by decide) []
      have f0 := op2_mul (i := r) (j := 2) (mulOk_r (by decide))
      have f := op2_fdiv (i := r * 2) (j := 3) (by decide) (by decide +kernel)
      refine ⟨r * 2 / 3, d1, ?_, ⟨by omega, by omega⟩, k1, by omega⟩
      simp only [turnB, asgT, wipeE, evE, evEs, getV, List.set, List.getElem?_cons_zero, List.getElem?_cons_succ, Res.of, Res.bind, truth_d, truD_b, e1, view2_d, f0, f, Option.map]) d hd (by rw [List.length_map, List.length_map, List.length_range]; omega)
  rw [List.append_nil] at dl
  obtain ⟨w, d', h1, h2, h3, h4, h5⟩ := dl
  rw [List.append_nil] at h1
  rw [List.length_map, List.length_map, List.length_range] at h2 h5
  refine ⟨w, d', (comp_fx hi).trans h1, h2, fun z hz => ?_, h4, by omega⟩
  obtain ⟨j, hj, e⟩ := List.getElem_of_mem hz
  have hjk : j < k := by rw [← h2]; exact hj
  exact h3 j (.int (j : Int)) z (by simp [hjk]) (by rw [List.getElem?_eq_getElem hj, e])
theorem drawn {n : Nat} (hn : 3 ≤ n) (d : DS) (hd : d.Ok) (ha : d.at' < 2 ^ 19) : ∃ (T : Ts) (rs : List Int) (d' : DS), callF code sub n 18 [.loc 1] d.mem = .ok (.d (.tuple [dTs T, dW rs])) d'.mem ∧ Sm T rs ∧ T.length ≤ 5 ∧ d'.Ok ∧ d'.at' ≤ d.at' + 40 := by
  obtain ⟨n, rfl⟩ : ∃ k, n = k + 1 := ⟨n - 1, by omega⟩
  rw [call_eq (fn := c18) rfl rfl]
  have dr : ∀ (d : DS) (_ : d.Ok) (_ : d.at' < 2 ^ 40) (lim : Int) (_ : 0 < lim) (_ : lim < 2 ^ 200), ∃ (r : Int) (d' : DS), callF code sub n 17 [.loc 1, .d (.int lim)] d.mem = .ok (.d (.int r)) d'.mem ∧ 0 ≤ r ∧ r < lim ∧ d'.Ok ∧ d'.at' = d.at' + 1 := fun d hd ha lim h1 h2 => by
    have := draw (sub := sub) (show 2 ≤ n by omega) d hd ha lim h1 h2 []
    rw [List.append_nil] at this
    obtain ⟨r, d', e, q⟩ := this
    rw [List.append_nil] at e
    exact ⟨r, d', e, q⟩
  obtain ⟨w, d1, e1, w0, w1, o1, t1⟩ := dr d hd (by omega) 4 (by decide) (by decide)
  obtain ⟨k, hk⟩ : ∃ k : Nat, 1 + w = (k : Int) := ⟨(1 + w).toNat, by omega⟩
  have hk1 : 1 ≤ k ∧ k ≤ 4 := by omega
  obtain ⟨rs, d2, e2, r1, r2, o2, t2⟩ := rooms_drawn (sub := sub) n (by omega) k (by omega) d1 o1 (by omega) none none none none none none
  obtain ⟨c, d3, e3, c0, c1, o3, t3⟩ := dr d2 o2 (by omega) 5 (by decide) (by decide)
  obtain ⟨q, hq⟩ : ∃ q : Nat, 1 + c = (q : Int) := ⟨(1 + c).toNat, by omega⟩
  have hq1 : 1 ≤ q ∧ q ≤ 5 := by omega
  obtain ⟨env', m', hf, T, d4, rfl, hl, hT, o4, t4, a4, a5, a6, rfl⟩ := forD_of (t := .nm 4) (b := fun e2 m2 => evSs (callF code sub n) sub c18b0 e2 m2) (e := fun i : Nat => .int (i : Int)) (l := List.range q)
    (fun pre env' m' => ∃ (T : Ts) (d4 : DS), m' = d4.mem ∧ T.length = pre.length ∧ (∀ l ∈ T, l.length ≤ 4 ∧ l.Pairwise (· < ·) ∧ ∀ h ∈ l, 0 ≤ h ∧ h < (k : Int)) ∧ d4.Ok ∧ d4.at' ≤ d3.at' + 5 * pre.length ∧ ∃ a4 a5 a6, env' = [some (.loc 1), some (.d (.int (k : Int))), some (.d (dW rs)), some (.d (dTs T)), a4, a5, a6, none]) (by
      rintro pre i post e env m ⟨T, d4, rfl, hl, hT, o4, t4, a4, a5, a6, rfl⟩
      have hp : pre.length + 1 ≤ q := by
        have := congrArg List.length e
        simp at this
        omega
      obtain ⟨f, d5, e5, f0, f1, o5, t5⟩ := dr d4 o4 (by omega) ((k : Int) + 1) (by omega) (by omega)
      obtain ⟨l, d6, e6, l1, l2, o6, t6⟩ := mine_drawn (sub := sub) n (by omega) k (by omega) f d5 o5 (by omega) (some (.d (dW rs))) (some (.d (dTs T))) (some (.d (.int (i : Int)))) a6 none
      have hin : ∀ h ∈ l, 0 ≤ h ∧ h < (k : Int) := fun h hh => by
        obtain ⟨j, hj, rfl⟩ := List.mem_map.mp (l1.subset hh)
        have := List.mem_range.mp hj
        omega
      have had : op2 .add (dTs T) (.tuple [.tuple (l.map .int)]) = some (dTs (T ++ [l])) := by
        show op2 .add (.tuple (T.map dW)) (.tuple [.tuple (l.map .int)]) = _
        rw [op2_addT (by simp only [List.length_map, List.length_cons, List.length_nil]; unfold LIM; omega)]
        simp
      refine ⟨_, rfl, [some (.loc 1), some (.d (.int (k : Int))), some (.d (dW rs)), some (.d (dTs (T ++ [l]))), some (.d (.int (i : Int))), some (.d (.int f)), some (.d (.list (l.map .int))), none], d6.mem, .inl ?_, T ++ [l], d6, rfl, by simp [hl], fun x hx => ?_, o6, ?_, _, _, _, rfl⟩
      · simp only [c18b0, evSs, evS, evE, evEs, getV, asgM, asgT, List.set, List.getElem?_cons_zero, List.getElem?_cons_succ, Res.of, Res.bind, S.of, S.opt, op2_add, e5, e6, view1_d, view2_d, op1_tupL, Option.map, allD, had]
      · rcases List.mem_append.mp hx with hx | hx
        · exact hT x hx
        · rw [List.mem_singleton.mp hx]
          refine ⟨?_, (range_asc k).sublist l1, hin⟩
          have := l1.length_le
          simp at this
          omega
      · simp
        omega)
    (env := [some (.loc 1), some (.d (.int (k : Int))), some (.d (dW rs)), some (.d (dTs [])), none, none, none, none]) (m := d3.mem) ⟨[], d3, rfl, rfl, (fun l h => absurd h List.not_mem_nil), o3, (by simp), none, none, none, rfl⟩
  rw [List.length_range] at hl t4
  have hi : rangeL 0 (q : Int) = (List.range q).map fun (i : Nat) => .int (i : Int) := rangeL0 q
  have b1 : -(2 ^ 62 : Int) ≤ (q : Int) := by omega
  have b2 : (q : Int) ≤ (LIM : Int) := by unfold LIM; omega
  refine ⟨T, rs, d4, ?_, ⟨⟨by omega, by omega, fun l h => by have := (hT l h).1; omega, fun l h => (hT l h).2.1, fun l h z hz => by rw [r1]; exact (hT l h).2.2 z hz, by omega, by omega, fun r hr => by have := r2 r hr; omega⟩, by omega, fun l h => (hT l h).1, by omega, r2⟩, by omega, o4, by omega⟩
  have tk : d4.mem.take d.mem.length = d4.mem := by
    have := take_mem d d4 []
    rw [List.append_nil, List.append_nil] at this
    exact this
  have nil : dTs [] = .tuple [] := rfl
  rw [nil] at hf
  simp only [c18, List.map_cons, List.map_nil, List.replicate, List.cons_append, List.nil_append, evSs, evS, evE, evEs, evI, getV, asgM, asgT, List.set, List.getElem?_cons_zero, List.getElem?_cons_succ, Res.of, Res.bind, S.of, S.opt, e1, view2_d, view1_d, op2_add, Option.map, hk, e2, op1_tupL, allD, e3, hq, b1, b2, decide_true, Bool.and_self, if_true, hi, forL_fx, hf, fin_rt, tk]
end k60
end PV
end

section
set_option Elab.async false
set_option linter.all false
set_option maxRecDepth 100000
namespace PV
namespace k60
open PySem Mt
variable {sub : Nat → Nat → Bool}
/-! ### the dicts of a placing -/
abbrev KV := List (L2.Key × EV)
def kvA (A : List Int) : KV := A.zipIdx.map fun q => (.inl (q.2 : Int), .d (.int q.1))
def kvC (C : List (Int × Nat)) : KV := C.map fun p => (.inl p.1, .d (dN p.2))
theorem key_inj {i j : Int} : ((Sum.inl i : L2.Key) = .inl j) ↔ i = j := ⟨fun h => Sum.inl.inj h, fun h => by rw [h]⟩
theorem zip_get (A : List Int) : ∀ (k t : Nat), kvGet ((A.zipIdx k).map fun q => ((.inl (q.2 : Int), .d (.int q.1)) : L2.Key × EV)) (.inl ((k + t : Nat) : Int)) = (A[t]?).map fun x => .d (.int x) := by
  induction A with
  | nil => intro k t; rfl
  | cons a A ih =>
    intro k t
    rw [List.zipIdx_cons, List.map_cons]
    unfold kvGet
    cases t with
    | zero =>
      rw [List.find?_cons_of_pos (by simp [key_inj])]
      rfl
    | succ t =>
      rw [List.find?_cons_of_neg (by simp [key_inj]; omega)]
      have := ih (k + 1) t
      unfold kvGet at this
      rw [show k + (t + 1) = k + 1 + t by omega, this]
      simp
theorem getA (A : List Int) (t : Nat) : kvGet (kvA A) (.inl (t : Int)) = (A[t]?).map fun x => .d (.int x) := by
  have := zip_get A 0 t
  rw [Nat.zero_add] at this
  exact this
theorem anyA (A : List Int) (t : Nat) : (kvA A).any (fun p => decide (p.1 = .inl (t : Int))) = decide (t < A.length) := by
  unfold kvA
  rw [List.any_map]
  by_cases h : t < A.length
  · rw [decide_eq_true h, List.any_eq_true]
    refine ⟨(A[t], t), ?_, by simp⟩
    rw [List.mem_iff_getElem?]
    exact ⟨t, by rw [List.getElem?_zipIdx, List.getElem?_eq_getElem h]; simp⟩
  · rw [decide_eq_false h, List.any_eq_false]
    intro q hq e
    have := (List.getElem?_eq_some_iff.mp (zipIdx_mem hq)).1
    simp [key_inj] at e
    omega
theorem zip_put (x : Int) (A : List Int) : ∀ (k t : Nat), ((A.zipIdx k).map fun q => ((.inl (q.2 : Int), .d (.int q.1)) : L2.Key × EV)).map (fun p => if p.1 = .inl ((k + t : Nat) : Int) then (p.1, .d (.int x)) else p) = ((A.set t x).zipIdx k).map fun q => ((.inl (q.2 : Int), .d (.int q.1)) : L2.Key × EV) := by
  induction A with
  | nil => intro k t; rfl
  | cons a A ih =>
    intro k t
    cases t with
    | zero =>
      rw [List.set_cons_zero, List.zipIdx_cons, List.zipIdx_cons, List.map_cons, List.map_cons, List.map_cons]
      congr 1
      · simp
      · rw [List.map_map]
        refine List.map_congr_left fun q hq => ?_
        have := List.mem_zipIdx hq
        simp [key_inj]
        omega
    | succ t =>
      rw [List.set_cons_succ, List.zipIdx_cons, List.zipIdx_cons, List.map_cons, List.map_cons, List.map_cons]
      congr 1
      · simp [key_inj]
        omega
      · have := ih (k + 1) t
        rw [show k + (t + 1) = k + 1 + t by omega]
        exact this
theorem putA (A : List Int) (t : Nat) (x : Int) (h : t < A.length) : kvPut (kvA A) (.inl (t : Int)) (.d (.int x)) = kvA (A.set t x) := by
  unfold kvPut
  rw [anyA, decide_eq_true h, if_pos rfl]
  have := zip_put x A 0 t
  rw [Nat.zero_add] at this
  exact this
theorem putA_end (A : List Int) (x : Int) : kvPut (kvA A) (.inl (A.length : Int)) (.d (.int x)) = kvA (A ++ [x]) := by
  unfold kvPut
  rw [anyA, decide_eq_false (Nat.lt_irrefl _)]
  show kvA A ++ _ = _
  unfold kvA
  rw [List.zipIdx_append, List.map_append]
  simp
theorem lenA (A : List Int) : (kvA A).length = A.length := by simp [kvA]
theorem keysA (A : List Int) : keysK (kvA A) = some ((List.range A.length).map dN) := by
  have go : ∀ (A : List Int) (k : Nat), keysK ((A.zipIdx k).map fun q => ((.inl (q.2 : Int), .d (.int q.1)) : L2.Key × EV)) = some ((List.range' k A.length).map dN) := by
    intro A
    induction A with
    | nil => intro k; rfl
    | cons a A ih =>
      intro k
      rw [List.zipIdx_cons, List.map_cons]
      unfold keysK
      rw [ih (k + 1), List.length_cons, List.range'_succ]
      rfl
  rw [List.range_eq_range']
  exact go A 0
theorem getC {C : List (Int × Nat)} (nd : (C.map (·.1)).Nodup) {h : Int} {s : Nat} (hm : (h, s) ∈ C) : kvGet (kvC C) (.inl h) = some (.d (dN s)) := by
  unfold kvGet kvC
  induction C with
  | nil => cases hm
  | cons p C ih =>
    rw [List.map_cons] at nd
    obtain ⟨n1, n2⟩ := List.nodup_cons.mp nd
    rw [List.map_cons]
    rcases List.mem_cons.mp hm with e | hm
    · subst e
      rw [List.find?_cons_of_pos (by simp)]
      rfl
    · have : p.1 ≠ h := fun e => n1 (List.mem_map.mpr ⟨_, hm, e.symm⟩)
      rw [List.find?_cons_of_neg (by simpa [key_inj] using this)]
      exact ih n2 hm
theorem putC {C : List (Int × Nat)} {h : Int} (s : Nat) (hn : h ∉ C.map (·.1)) : kvPut (kvC C) (.inl h) (.d (dN s)) = kvC (C ++ [(h, s)]) := by
  unfold kvPut
  have : (kvC C).any (fun p => decide (p.1 = .inl h)) = false := by
    rw [List.any_eq_false]
    intro q hq e
    obtain ⟨p, hp, rfl⟩ := List.mem_map.mp hq
    simp [key_inj] at e
    exact hn (List.mem_map.mpr ⟨p, hp, e⟩)
  rw [this]
  show kvC C ++ _ = _
  unfold kvC
  rw [List.map_append]
  rfl
theorem ninC (C : List (Int × Nat)) (h : Int) {m : Mem} {c : Nat} (hc : m[c]? = some (.dK (kvC C))) : (match view2 .nin m (.d (.int h)), view2 .nin m (.loc c) with | some p, some q => Res.of ((op2 .nin p q).map EV.d) m | _, _ => .bad) = .ok (.d (.bool (!decide (h ∈ C.map (·.1))))) m := by
  have e1 : view2 .nin m (.loc c) = some (.dict ((kvC C).map fun p : L2.Key × EV => ((kD p.1, .none) : D × D))) := by
    show (match m[c]? with
      | some (.dK kvs) => some (PyData.dict (kvs.map fun p : L2.Key × EV => ((kD p.1, .none) : D × D)))
      | _ => view m (.loc c)) = _
    rw [hc]
  have e2 : ((kvC C).map fun p => ((kD p.1, .none) : D × D)).any (fun p => decide (keyD p.1 = some (.inl h))) = decide (h ∈ C.map (·.1)) := by
    unfold kvC
    rw [List.map_map, List.any_map]
    rw [Bool.eq_iff_iff, List.any_eq_true, decide_eq_true_eq, List.mem_map]
    constructor
    · rintro ⟨p, hp, e⟩
      refine ⟨p, hp, ?_⟩
      simp [kD, keyD, key_inj] at e
      exact e
    · rintro ⟨p, hp, e⟩
      refine ⟨p, hp, ?_⟩
      simp [kD, keyD, e]
  rw [e1, view2_d]
  dsimp only
  show Res.of ((((some (Sum.inl h : L2.Key)).map fun k => ((kvC C).map fun p : L2.Key × EV => ((kD p.1, .none) : D × D)).any fun p => decide (keyD p.1 = some k)).map fun k => PyData.bool (!k)).map EV.d) m = _
  rw [Option.map_some, e2]
  rfl
theorem set_back {m : Mem} {a : Nat} {x y : MO} (h : m[a]? = some x) : (m.set a y).set a x = m := by
  rw [List.set_set]
  refine List.ext_getElem? fun i => ?_
  by_cases e : a = i
  · subst e
    rw [List.getElem?_set_self (List.getElem?_eq_some_iff.mp h).1, h]
  · rw [List.getElem?_set_ne e]
/-- who is placed at an hour -/
theorem held_at {n : Nat} (hn : 1 ≤ n) {A : List Int} {m : Mem} {a : Nat} (ha : m[a]? = some (.dK (kvA A))) (h : Int) : callF code sub n 4 [.loc a, .d (.int h)] m = .ok (.d (.list ((heldL A h).map dN))) m := by
  obtain ⟨n, rfl⟩ : ∃ k, n = k + 1 := ⟨n - 1, by omega⟩
  rw [call_eq (fn := c4) rfl rfl]
  have hl := (List.getElem?_eq_some_iff.mp ha).1
  have g1 : (m.set a (.dF (kvA A)))[a]? = some (.dF (kvA A)) := List.getElem?_set_self hl
  have l1 : lockV m (some (.loc a)) = some (.loc a, (List.range A.length).map dN, m.set a (.dF (kvA A))) := by
    unfold lockV lockM keysF
    simp only [ha, g1, keysA]
  have l2 : unlkM (m.set a (.dF (kvA A))) (.loc a) = some m := by
    unfold unlkM
    simp only [g1, set_back ha]
  have cc : compD (turnB (.nm 2) [some (.loc a), some (.d (.int h)), none] (fun e2 m2 => evE (callF code sub n) (.b2 .eq (.ix (.v 0) (.v 2)) (.v 1)) e2 m2) (fun e2 m2 => evE (callF code sub n) (.v 2) e2 m2)) ((List.range A.length).map dN) (m.set a (.dF (kvA A))) = .ok ((heldL A h).map dN) (m.set a (.dF (kvA A))) := by
    unfold heldL
    refine compD_flt fun t ht => ?_
    have ht := List.mem_range.mp ht
    have gi : getIx (m.set a (.dF (kvA A))) (.loc a) (.int (t : Int)) = some (.d (.int (A.getD t 0))) := by
      unfold getIx
      simp only [g1, keyD, Option.bind_some, getA, List.getElem?_eq_getElem ht, List.getD_eq_getElem?_getD, Option.map_some, Option.getD_some]
    simp only [turnB, asgT, evE, getV, List.set, List.getElem?_cons_zero, List.getElem?_cons_succ, Res.of, Res.bind, gi, view2_d, op2_eq, Option.map, truth_d, truD_b]
    cases decide (A.getD t 0 = h) <;> rfl
  have c1 : compL (.fx ((List.range A.length).map dN)) (turnB (.nm 2) [some (.loc a), some (.d (.int h)), none] (fun e2 m2 => evE (callF code sub n) (.b2 .eq (.ix (.v 0) (.v 2)) (.v 1)) e2 m2) (fun e2 m2 => evE (callF code sub n) (.v 2) e2 m2)) ((List.range A.length).map dN).length 0 (m.set a (.dF (kvA A))) = _ := (compL_fx _ _ _).trans cc
  have e1 : evL (callF code sub n) c4l0 [some (.loc a), some (.d (.int h)), none] m = .ok ((heldL A h).map dN) m := by
    show (match lockV m (getV [some (.loc a), some (.d (.int h)), none] 0) with
      | some (v, xs, m1) => (compL (.fx xs) (turnB (.nm 2) [some (.loc a), some (.d (.int h)), none] (fun e2 m2 => evE (callF code sub n) (.b2 .eq (.ix (.v 0) (.v 2)) (.v 1)) e2 m2) (fun e2 m2 => evE (callF code sub n) (.v 2) e2 m2)) xs.length 0 m1).noex.bind fun ds m2 => match unlkM m2 v with
        | some m3 => Res.ok ds m3
        | none => .bad
      | none => .bad) = _
    have g0 : getV [some (EV.loc a), some (.d (.int h)), none] 0 = some (.loc a) := rfl
    rw [g0, l1]
    dsimp only
    rw [c1]
    show (match unlkM (m.set a (.dF (kvA A))) (.loc a) with
        | some m3 => Res.ok ((heldL A h).map dN) m3
        | none => .bad) = _
    rw [l2]
  simp [c4, evSs, evS, evE, e1]
/-! ### led back -/
theorem set_set_ne {m : Mem} {a c : Nat} {x y : MO} (hc : m[c]? = some y) (h : a ≠ c) : (m.set a x)[c]? = some y := by
  rw [List.getElem?_set_ne h]
  exact hc
theorem lead_loop (n : Nat) {T : Ts} {rs A : List Int} {R : List Nat} {C : List (Int × Nat)} (hR : Rch T rs A R C) (hs : A.length < 1000) {m : Mem} {a c : Nat} (hal : a < m.length) (hc : m[c]? = some (.dK (kvC C))) (hac : a ≠ c) (x0 : Int) :
    ∀ (i fuel : Nat) (A' : List Int) (x : Int) (here : Nat) (o : Option EV), Led T A R x0 A' x here i → i < fuel →
    ∃ A'' x' here' i' o', whlL (fun e2 m2 => evT (callF code sub n) (.b2 .ne (.v 4) (.v 3)) e2 m2) (fun e2 m2 => evSs (callF code sub n) sub c5b0 e2 m2) fuel [some (.loc a), some (.loc c), some (.d (.int x)), some (.d (dN A.length)), some (.d (dN here)), o] (m.set a (.dK (kvA A'))) = .nx [some (.loc a), some (.loc c), some (.d (.int x')), some (.d (dN A.length)), some (.d (dN A.length)), o'] (m.set a (.dK (kvA A''))) ∧ Led T A R x0 A'' x' here' i' ∧ here' = A.length := by
  intro i
  induction i using Nat.strongRecOn with
  | _ i ih =>
    intro fuel A' x here o hL hf
    obtain ⟨fuel, rfl⟩ : ∃ k, fuel = k + 1 := ⟨fuel - 1, by omega⟩
    by_cases he : here = A.length
    · refine ⟨A', x, here, i, o, ?_, hL, he⟩
      subst he
      unfold whlL
      simp [evT, evE, getV]
    · obtain ⟨old, s, j, e1, e2, e3, e4⟩ := hL.step hR he
      obtain ⟨A'', x', here', i', o', k1, k2, k3⟩ := ih j e3 fuel (A'.set here x) old s (some (.d (.int old))) e4 (by omega)
      refine ⟨A'', x', here', i', o', ?_, k2, k3⟩
      have lt : here < A'.length := (List.getElem?_eq_some_iff.mp e1).1
      have g0 : (m.set a (.dK (kvA A')))[a]? = some (.dK (kvA A')) := List.getElem?_set_self hal
      have gi : getIx (m.set a (.dK (kvA A'))) (.loc a) (.int (here : Int)) = some (.d (.int old)) := by
        unfold getIx
        simp only [g0, keyD, Option.bind_some, getA, e1, Option.map_some]
      have si : setIx (m.set a (.dK (kvA A'))) (.loc a) (.int (here : Int)) (.d (.int x)) = some (m.set a (.dK (kvA (A'.set here x)))) := by
        have := hL.len
        unfold setIx
        simp only [g0, keyD, Option.bind_some, putA _ _ _ lt, inB, lenA, List.set_set, show decide (A'.length < 1000) = true from decide_eq_true (by omega), Bool.and_self, if_true]
      have gc : getIx (m.set a (.dK (kvA (A'.set here x)))) (.loc c) (.int old) = some (.d (dN s)) := by
        unfold getIx
        simp only [set_set_ne hc hac, keyD, Option.bind_some, getC hR.keys e2]
      unfold whlL
      have ne : ¬ ((here : Int) = (A.length : Int)) := by omega
      have b1 : evSs (callF code sub n) sub c5b0 [some (.loc a), some (.loc c), some (.d (.int x)), some (.d (dN A.length)), some (.d (dN here)), o] (m.set a (.dK (kvA A'))) = .nx [some (.loc a), some (.loc c), some (.d (.int old)), some (.d (dN A.length)), some (.d (dN s)), some (.d (.int old))] (m.set a (.dK (kvA (A'.set here x)))) := by
        simp only [c5b0, evSs, evS, evE, evEs, getV, asgM, asgT, setAll, List.set, List.getElem?_cons_zero, List.getElem?_cons_succ, Res.of, Res.bind, S.of, S.opt, gi, si, gc]
      have t1 : evT (callF code sub n) (.b2 .ne (.v 4) (.v 3)) [some (.loc a), some (.loc c), some (.d (.int x)), some (.d (dN A.length)), some (.d (dN here)), o] (m.set a (.dK (kvA A'))) = .ok true (m.set a (.dK (kvA A'))) := by
        simp [evT, evE, getV, ne]
      rw [t1]
      dsimp only
      rw [b1]
      exact k1
theorem lead_back {n : Nat} (hn : 1 ≤ n) {T : Ts} {rs A : List Int} {R : List Nat} {C : List (Int × Nat)} (hR : Rch T rs A R C) (hA : Plc T rs A) (hs : A.length < 1000) {m : Mem} {a c : Nat} (ha : m[a]? = some (.dK (kvA A))) (hc : m[c]? = some (.dK (kvC C))) (hac : a ≠ c) {x0 : Int} {s : Nat} (hm : (x0, s) ∈ C) (hf : (A.count x0 : Int) < room rs x0) :
    ∃ A', callF code sub n 5 [.loc a, .loc c, .d (.int x0), .d (dN A.length)] m = .ok (.d .none) (m.set a (.dK (kvA A'))) ∧ Plc T rs A' ∧ A'.length = A.length + 1 := by
  obtain ⟨n, rfl⟩ : ∃ k, n = k + 1 := ⟨n - 1, by omega⟩
  rw [call_eq (fn := c5) rfl rfl]
  have hal := (List.getElem?_eq_some_iff.mp ha).1
  obtain ⟨i, hL⟩ := Led.start hR hA hm
  have hi : i < 1000000000 := by
    have := (List.getElem?_eq_some_iff.mp hL.pos).1
    have := hR.few
    omega
  obtain ⟨A'', x', here', i', o', k1, k2, k3⟩ := lead_loop (sub := sub) n hR hs hal hc hac x0 i 1000000000 A x0 s none hL hi
  refine ⟨A'' ++ [x'], ?_, k2.done k3 hA hf, by rw [List.length_append, k2.len]; rfl⟩
  have e0 : m.set a (.dK (kvA A)) = m := by
    have := set_back (y := .dK (kvA A)) ha
    rwa [List.set_set] at this
  rw [e0] at k1
  have gc : getIx m (.loc c) (.int x0) = some (.d (dN s)) := by
    unfold getIx
    simp only [hc, keyD, Option.bind_some, getC hR.keys hm]
  have g0 : (m.set a (.dK (kvA A'')))[a]? = some (.dK (kvA A'')) := List.getElem?_set_self hal
  have si : setIx (m.set a (.dK (kvA A''))) (.loc a) (.int (A.length : Int)) (.d (.int x')) = some (m.set a (.dK (kvA (A'' ++ [x'])))) := by
    have e := k2.len
    unfold setIx
    simp only [g0, keyD, Option.bind_some, inB, lenA, List.set_set, show decide (A''.length < 1000) = true from decide_eq_true (by omega), Bool.and_self, if_true]
    rw [← e, putA_end]
  have tk : (m.set a (.dK (kvA (A'' ++ [x'])))).take m.length = m.set a (.dK (kvA (A'' ++ [x']))) := List.take_of_length_le (by rw [List.length_set]; exact Nat.le_refl _)
  simp only [c5, List.map_cons, List.map_nil, List.replicate, List.cons_append, List.nil_append, evSs, evS, evE, evEs, getV, asgM, asgT, List.set, List.getElem?_cons_zero, List.getElem?_cons_succ, Res.of, Res.bind, S.of, S.opt, gc, k1, si, fin_nx, tk]
end k60
end PV
end

section
set_option Elab.async false
set_option linter.all false
set_option maxRecDepth 100000
namespace PV
namespace k60
open PySem Mt
variable {sub : Nat → Nat → Bool}
/-! ### one task more -/
/-- tasks, as data or in a living list -/
def TV (m : Mem) (v : EV) (T : Ts) : Prop := v = .d (dTs T) ∨ ∃ k, v = .loc k ∧ m[k]? = some (.lst (T.map fun l => .d (dW l)))
theorem tv_get {m : Mem} {v : EV} {T : Ts} (h : TV m v T) {t : Nat} (ht : t < T.length) : getIx m v (.int (t : Int)) = some (.d (dW (at' T t))) := by
  rcases h with rfl | ⟨k, rfl, hk⟩
  · exact get_T ht m
  · unfold getIx
    simp only [hk, List.length_map, idx_nat ht, Option.bind_some, List.getElem?_map, at_lt ht, Option.map_some]
theorem tv_len {m : Mem} {v : EV} {T : Ts} (h : TV m v T) : ∃ x, view1 .len m v = some x ∧ op1 .len x = some (.int (T.length : Int)) := by
  rcases h with rfl | ⟨k, rfl, hk⟩
  · exact ⟨_, rfl, by rw [op1_lenT, List.length_map]⟩
  · refine ⟨.list (T.map dW), ?_, by rw [op1_lenL, List.length_map]⟩
    show (match m[k]? with
      | some (.lst xs) => (allD xs).map PyData.list
      | _ => none) = _
    rw [hk]
    dsimp only
    rw [allD_m, Option.map_some]
theorem TV.app {m : Mem} {v : EV} {T : Ts} (h : TV m v T) (X : Mem) : TV (m ++ X) v T := by
  rcases h with rfl | ⟨k, rfl, hk⟩
  · exact .inl rfl
  · refine .inr ⟨k, rfl, ?_⟩
    rw [List.getElem?_append_left (List.getElem?_eq_some_iff.mp hk).1]
    exact hk
theorem TV.set {m : Mem} {v : EV} {T : Ts} (h : TV m v T) {a : Nat} {kv : KV} (ha : m[a]? = some (.dK kv)) (x : MO) : TV (m.set a x) v T := by
  rcases h with rfl | ⟨k, rfl, hk⟩
  · exact .inl rfl
  · refine .inr ⟨k, rfl, ?_⟩
    have : a ≠ k := by
      rintro rfl
      rw [ha] at hk
      cases hk
    rw [List.getElem?_set_ne this]
    exact hk
/-- what is walked with -/
abbrev MM (m : Mem) (R : List Nat) (C : List (Int × Nat)) : Mem := m ++ [.dK (kvC C), .lst (R.map fun t => .d (dN t))]
theorem mm_c (m : Mem) (R : List Nat) (C : List (Int × Nat)) : (MM m R C)[m.length]? = some (.dK (kvC C)) := by simp [MM]
theorem mm_r (m : Mem) (R : List Nat) (C : List (Int × Nat)) : (MM m R C)[m.length + 1]? = some (.lst (R.map fun t => .d (dN t))) := by simp [MM]
theorem mm_a {m : Mem} {a : Nat} {x : MO} (h : m[a]? = some x) (R : List Nat) (C : List (Int × Nat)) : (MM m R C)[a]? = some x := by
  rw [List.getElem?_append_left (List.getElem?_eq_some_iff.mp h).1]
  exact h
theorem set_two (m : Mem) (x y z : MO) : (m ++ [x, y]).set m.length z = m ++ [z, y] := by
  rw [List.set_append_right _ _ (Nat.le_refl _), Nat.sub_self]
  rfl
theorem set_two' (m : Mem) (x y z : MO) : (m ++ [x, y]).set (m.length + 1) z = m ++ [x, z] := by
  rw [List.set_append_right _ _ (Nat.le_succ _), show m.length + 1 - m.length = 1 by omega]
  rfl
theorem sto_c {T : Ts} {rs A : List Int} {R : List Nat} {C : List (Int × Nat)} (hT : Tk T rs) (h : Rch T rs A R C) (m : Mem) {x : Int} (s : Nat) (hn : x ∉ C.map (·.1)) : setIx (MM m R C) (.loc m.length) (.int x) (.d (dN s)) = some (MM m R (C ++ [(x, s)])) := by
  have := h.keys_few hT
  have hl : decide ((kvC C).length < 1000) = true := decide_eq_true (by unfold kvC; rw [List.length_map]; omega)
  unfold setIx
  simp only [mm_c, keyD, Option.bind_some, hl, inB, Bool.and_self, if_true, putC s hn, set_two]
theorem ext_r (m : Mem) (R : List Nat) (C : List (Int × Nat)) (z : List Nat) (h : R.length + z.length ≤ LIM) : extIx (MM m R C) (.loc (m.length + 1)) (.d (.list (z.map dN))) = some (MM m (R ++ z) C) := by
  unfold extIx
  simp only [mm_r, List.length_map, h, decide_true, if_true, set_two']
  show some (m ++ [MO.dK (kvC C), MO.lst (R.map (fun t => EV.d (dN t)) ++ (z.map dN).map EV.d)]) = some (m ++ [MO.dK (kvC C), MO.lst ((R ++ z).map fun t => EV.d (dN t))])
  rw [List.map_append, List.map_map]
  rfl
theorem ite_t {cf : CF} {c : Ex} {x y : Sts} {env : Env} {m m1 : Mem} (h : evT cf c env m = .ok true m1) : evSs cf sub (.cons (.ite c x y) .nil) env m = (match evSs cf sub x env m1 with | .nx e1 m2 => .nx e1 m2 | r => r) := by
  show (match S.of env (evT cf c env m) fun k m1 => match k with
    | true => evSs cf sub x env m1
    | false => evSs cf sub y env m1 with | .nx e1 m2 => S.nx e1 m2 | r => r) = _
  rw [h]
  rfl
theorem ite_f {cf : CF} {c : Ex} {x y : Sts} {env : Env} {m m1 : Mem} (h : evT cf c env m = .ok false m1) : evSs cf sub (.cons (.ite c x y) .nil) env m = (match evSs cf sub y env m1 with | .nx e1 m2 => .nx e1 m2 | r => r) := by
  show (match S.of env (evT cf c env m) fun k m1 => match k with
    | true => evSs cf sub x env m1
    | false => evSs cf sub y env m1 with | .nx e1 m2 => S.nx e1 m2 | r => r) = _
  rw [h]
  rfl
theorem isl_r (m : Mem) (R : List Nat) (C : List (Int × Nat)) : isLst (MM m R C) (.loc (m.length + 1)) = true := by
  unfold isLst
  simp only [mm_r]
theorem set_mm (m : Mem) {a : Nat} (h : a < m.length) (R : List Nat) (C : List (Int × Nat)) (z : MO) : (MM m R C).set a z = m.set a z ++ [.dK (kvC C), .lst (R.map fun t => .d (dN t))] := List.set_append_left _ _ h
section
variable {n : Nat} {T : Ts} {rs A : List Int} {m : Mem} {a : Nat} {tv : EV} {here : Nat}
abbrev envP (tv : EV) (rs : List Int) (a : Nat) (n P : Nat) (k : Int) (o7 o8 o9 : Option EV) : Env := [some tv, some (.d (dW rs)), some (.loc a), some (.d (dN n)), some (.loc P), some (.loc (P + 1)), some (.d (.int k)), o7, o8, o9]
theorem inner (hn : 1 ≤ n) (hT : Tk T rs) (hA : Plc T rs A) (hl : A.length < T.length) (ha : m[a]? = some (.dK (kvA A))) (k : Int) : ∀ (post : List Int) (R : List Nat) (C : List (Int × Nat)) (o8 o9 : Option EV), Wlk T rs A R C → here ∈ R → (∀ x ∈ post, x ∈ at' T here) →
    (∃ R' C' o8' o9', forD (.nm 8) (fun e2 m2 => evSs (callF code sub n) sub c6b0 e2 m2) (post.map .int) (envP tv rs a A.length m.length k (some (.d (dN here))) o8 o9) (MM m R C) = .nx (envP tv rs a A.length m.length k (some (.d (dN here))) o8' o9') (MM m R' C') ∧ Wlk T rs A R' C' ∧ (∃ z, R' = R ++ z) ∧ (∀ x ∈ C.map (·.1), x ∈ C'.map (·.1)) ∧ ∀ x ∈ post, x ∈ C'.map (·.1))
    ∨ (∃ A' X, forD (.nm 8) (fun e2 m2 => evSs (callF code sub n) sub c6b0 e2 m2) (post.map .int) (envP tv rs a A.length m.length k (some (.d (dN here))) o8 o9) (MM m R C) = .rt (.d .none) (m.set a (.dK (kvA A')) ++ X) ∧ Plc T rs A' ∧ A'.length = A.length + 1) := by
  intro post
  induction post with
  | nil => exact fun R C o8 o9 hW hh _ => .inl ⟨R, C, o8, o9, rfl, hW, ⟨[], by simp⟩, fun x h => h, fun _ h => nomatch h⟩
  | cons x post ih =>
    intro R C o8 o9 hW hh hp
    have hx := hp x (by simp)
    have hal := (List.getElem?_eq_some_iff.mp ha).1
    have b8 : asgT (.nm 8) (.d (.int x)) (envP tv rs a A.length m.length k (some (.d (dN here))) o8 o9) = some (envP tv rs a A.length m.length k (some (.d (dN here))) (some (.d (.int x))) o9) := rfl
    have nin0 := ninC C x (mm_c m R C)
    have nin : evT (callF code sub n) (.b2 .nin (.v 8) (.v 4)) (envP tv rs a A.length m.length k (some (.d (dN here))) (some (.d (.int x))) o9) (MM m R C) = .ok (!decide (x ∈ C.map (·.1))) (MM m R C) := by
      exact congrArg (fun r : Res EV => r.bind fun x m1 => Res.of (truth m1 x) m1) nin0
    by_cases hc : x ∈ C.map (·.1)
    · have bd : evSs (callF code sub n) sub c6b0 (envP tv rs a A.length m.length k (some (.d (dN here))) (some (.d (.int x))) o9) (MM m R C) = .nx (envP tv rs a A.length m.length k (some (.d (dN here))) (some (.d (.int x))) o9) (MM m R C) := by
        rw [decide_eq_true hc] at nin
        exact (ite_f nin).trans rfl
      rw [List.map_cons]
      rcases ih R C (some (.d (.int x))) o9 hW hh fun y hy => hp y (by simp [hy]) with ⟨R', C', o8', o9', e, h1, h2, h3, h4⟩ | ⟨A', X, e, h1, h2⟩
      · refine .inl ⟨R', C', o8', o9', (forD_nx b8 bd).trans e, h1, h2, h3, fun y hy => ?_⟩
        rcases List.mem_cons.mp hy with rfl | hy
        · exact h3 y hc
        · exact h4 y hy
      · exact .inr ⟨A', X, (forD_nx b8 bd).trans e, h1, h2⟩
    · rw [decide_eq_false hc] at nin
      have hr := hT.hr _ (at_mem hx).2 x hx
      have s1 := sto_c hT hW.r m (s := here) hc
      have cr := hW.r.more hh hx hc
      have f1 := held_at (sub := sub) hn (mm_a ha R (C ++ [(x, here)])) x
      have g1 := get_z hr.1 hr.2 (MM m R (C ++ [(x, here)]))
      have ln : op1 .len (.list ((heldL A x).map dN)) = some (.int ((A.count x : Nat) : Int)) := by rw [op1_lenL, List.length_map, heldL_len]
      by_cases hf : (A.count x : Int) < room rs x
      · obtain ⟨A', f2, p1, p2⟩ := lead_back (sub := sub) hn cr hA (by have := hT.hi; omega) (mm_a ha R (C ++ [(x, here)])) (mm_c m R (C ++ [(x, here)])) (by omega) (x0 := x) (s := here) (by simp) hf
        rw [set_mm m hal] at f2
        refine .inr ⟨A', [.dK (kvC (C ++ [(x, here)])), .lst (R.map fun t => .d (dN t))], ?_, p1, p2⟩
        rw [List.map_cons]
        refine forD_rt b8 ?_
        generalize (heldL A x).map dN = HL at *
        refine (ite_t nin).trans ?_
        simp only [envP, evSs, evS, evT, evE, evEs, getV, asgM, asgT, List.set, List.getElem?_cons_zero, List.getElem?_cons_succ, Res.of, Res.bind, S.of, S.opt, truth_d, truD_b, Bool.not_false, s1, f1, view1_d, view2_d, Option.map, ln, g1, op2_lt, hf, decide_true, f2]
      · have w2 := hW.more hh hx hc (by omega)
        have few := w2.r.few
        have e1 := ext_r m R (C ++ [(x, here)]) (heldL A x) (by rw [List.length_append] at few; have := hT.hi; unfold LIM; omega)
        have bd : evSs (callF code sub n) sub c6b0 (envP tv rs a A.length m.length k (some (.d (dN here))) (some (.d (.int x))) o9) (MM m R C) = .nx (envP tv rs a A.length m.length k (some (.d (dN here))) (some (.d (.int x))) (some (.d (.list ((heldL A x).map dN))))) (MM m (R ++ heldL A x) (C ++ [(x, here)])) := by
          have i1 := isl_r m R (C ++ [(x, here)])
          generalize (heldL A x).map dN = HL at *
          refine (ite_t nin).trans ?_
          simp only [envP, evSs, evS, evT, evE, evEs, getV, asgM, asgT, List.set, List.getElem?_cons_zero, List.getElem?_cons_succ, Res.of, Res.bind, S.of, S.opt, truth_d, truD_b, Bool.not_false, s1, f1, view1_d, view2_d, Option.map, ln, g1, op2_lt, hf, decide_false, i1, e1]
        rw [List.map_cons]
        rcases ih (R ++ heldL A x) (C ++ [(x, here)]) (some (.d (.int x))) (some (.d (.list ((heldL A x).map dN)))) w2 (by simp [hh]) fun y hy => hp y (by simp [hy]) with ⟨R', C', o8', o9', e, h1, ⟨z, h2⟩, h3, h4⟩ | ⟨A', X, e, h1, h2⟩
        · refine .inl ⟨R', C', o8', o9', (forD_nx b8 bd).trans e, h1, ⟨heldL A x ++ z, by rw [h2, List.append_assoc]⟩, fun y hy => h3 y (by rw [List.map_append]; simp [hy]), fun y hy => ?_⟩
          rcases List.mem_cons.mp hy with rfl | hy
          · exact h3 y (by simp)
          · exact h4 y hy
        · exact .inr ⟨A', X, (forD_nx b8 bd).trans e, h1, h2⟩
theorem outer (hn : 1 ≤ n) (hT : Tk T rs) (hA : Plc T rs A) (hl : A.length < T.length) (ha : m[a]? = some (.dK (kvA A))) (htv : TV m tv T) : ∀ (j k fuel : Nat) (R : List Nat) (C : List (Int × Nat)) (o7 o8 o9 : Option EV), Wlk T rs A R C → k ≤ R.length → (∀ i < k, ∀ t, R[i]? = some t → ∀ x ∈ at' T t, x ∈ C.map (·.1)) → A.length + 1 ≤ k + j → j < fuel →
    (∃ R' C' k' o7' o8' o9', whlL (fun e2 m2 => evT (callF code sub n) (.b2 .lt (.v 6) (.u1 .len (.v 5))) e2 m2) (fun e2 m2 => evSs (callF code sub n) sub c6b1 e2 m2) fuel (envP tv rs a A.length m.length k o7 o8 o9) (MM m R C) = .nx (envP tv rs a A.length m.length k' o7' o8' o9') (MM m R' C') ∧ Wlk T rs A R' C' ∧ ∀ t ∈ R', ∀ x ∈ at' T t, x ∈ C'.map (·.1))
    ∨ (∃ A' X, whlL (fun e2 m2 => evT (callF code sub n) (.b2 .lt (.v 6) (.u1 .len (.v 5))) e2 m2) (fun e2 m2 => evSs (callF code sub n) sub c6b1 e2 m2) fuel (envP tv rs a A.length m.length k o7 o8 o9) (MM m R C) = .rt (.d .none) (m.set a (.dK (kvA A')) ++ X) ∧ Plc T rs A' ∧ A'.length = A.length + 1) := by
  intro j
  induction j with
  | zero =>
    intro k fuel R C o7 o8 o9 hW hk hd hj hf
    have := hW.r.few
    obtain ⟨fuel, rfl⟩ : ∃ q, fuel = q + 1 := ⟨fuel - 1, by omega⟩
    refine .inl ⟨R, C, k, o7, o8, o9, ?_, hW, fun t ht => ?_⟩
    · have vl : view1 .len (MM m R C) (.loc (m.length + 1)) = some (.list (R.map dN)) := by
        show (match (MM m R C)[m.length + 1]? with
          | some (.lst xs) => (allD xs).map PyData.list
          | _ => none) = _
        rw [mm_r]
        dsimp only
        rw [allD_m, Option.map_some]
      have e : ¬ ((k : Int) < (R.length : Int)) := by omega
      unfold whlL
      simp only [evT, evE, getV, List.getElem?_cons_zero, List.getElem?_cons_succ, Res.of, Res.bind, vl, op1_lenL, List.length_map, Option.map, view2_d, op2_lt, e, decide_false, truth_d, truD_b]
    · obtain ⟨i, hi⟩ := List.mem_iff_getElem?.mp ht
      have := (List.getElem?_eq_some_iff.mp hi).1
      exact hd i (by omega) t hi
  | succ j ih =>
    intro k fuel R C o7 o8 o9 hW hk hd hj hf
    obtain ⟨fuel, rfl⟩ : ∃ q, fuel = q + 1 := ⟨fuel - 1, by omega⟩
    have vl : view1 .len (MM m R C) (.loc (m.length + 1)) = some (.list (R.map dN)) := by
      show (match (MM m R C)[m.length + 1]? with
        | some (.lst xs) => (allD xs).map PyData.list
        | _ => none) = _
      rw [mm_r]
      dsimp only
      rw [allD_m, Option.map_some]
    unfold whlL
    by_cases e : (k : Int) < (R.length : Int)
    · have tt : evT (callF code sub n) (.b2 .lt (.v 6) (.u1 .len (.v 5))) (envP tv rs a A.length m.length k o7 o8 o9) (MM m R C) = .ok true (MM m R C) := by
        simp only [evT, evE, getV, List.getElem?_cons_zero, List.getElem?_cons_succ, Res.of, Res.bind, vl, op1_lenL, List.length_map, Option.map, view2_d, op2_lt, e, decide_true, truth_d, truD_b]
      rw [tt]
      dsimp only
      have kl : k < R.length := by omega
      obtain ⟨here, hh⟩ : ∃ t, R[k]? = some t := ⟨R[k], List.getElem?_eq_getElem kl⟩
      have hR : here ∈ R := List.mem_of_getElem? hh
      have ht : here < T.length := by have := hW.r.low here hR; omega
      have g7 : getIx (MM m R C) (.loc (m.length + 1)) (.int (k : Int)) = some (.d (dN here)) := by
        unfold getIx
        simp only [mm_r, List.length_map, idx_nat kl, Option.bind_some, List.getElem?_map, hh, Option.map_some]
      have g8 := tv_get (htv.app [.dK (kvC C), .lst (R.map fun t => .d (dN t))]) ht
      have it : evI (callF code sub n) (.sq (.ix (.v 0) (.v 7))) (envP tv rs a A.length m.length ((k + 1 : Nat) : Int) (some (.d (dN here))) o8 o9) (MM m R C) = .ok (.fx ((at' T here).map .int)) (MM m R C) := by
        simp only [evI, evE, getV, List.getElem?_cons_zero, List.getElem?_cons_succ, Res.of, Res.bind, g8, seqD_t, Option.map]
      have bd : evSs (callF code sub n) sub c6b1 (envP tv rs a A.length m.length k o7 o8 o9) (MM m R C) = (match forD (.nm 8) (fun e2 m2 => evSs (callF code sub n) sub c6b0 e2 m2) ((at' T here).map .int) (envP tv rs a A.length m.length ((k + 1 : Nat) : Int) (some (.d (dN here))) o8 o9) (MM m R C) with
          | .nx env1 m1 => .nx env1 m1
          | x => x) := by
        have e1 : ((k : Int) + 1) = ((k + 1 : Nat) : Int) := by omega
        simp only [c6b1, evSs, evS, evE, getV, asgM, asgT, List.set, List.getElem?_cons_zero, List.getElem?_cons_succ, Res.of, Res.bind, S.of, S.opt, g7, e1]
        rw [it]
        dsimp only
        rw [forL_fx]
        all_goals rfl
      rcases inner (sub := sub) (tv := tv) (here := here) hn hT hA hl ha ((k + 1 : Nat) : Int) (at' T here) R C o8 o9 hW hR (fun x hx => hx) with ⟨R', C', o8', o9', q, h1, ⟨z, h2⟩, h3, h4⟩ | ⟨A', X, q, h1, h2⟩
      · rw [q] at bd
        have bd : evSs (callF code sub n) sub c6b1 (envP tv rs a A.length m.length k o7 o8 o9) (MM m R C) = .nx (envP tv rs a A.length m.length ((k + 1 : Nat) : Int) (some (.d (dN here))) o8' o9') (MM m R' C') := bd
        rw [bd]
        dsimp only
        refine ih (k + 1) fuel R' C' _ o8' o9' h1 (by rw [h2, List.length_append]; omega) (fun i hi t hit x hx => ?_) (by omega) (by omega)
        rw [h2, List.getElem?_append_left (by omega)] at hit
        by_cases ei : i = k
        · subst ei
          rw [hh] at hit
          cases hit
          exact h4 x hx
        · exact h3 x (hd i (by omega) t hit x hx)
      · rw [q] at bd
        have bd : evSs (callF code sub n) sub c6b1 (envP tv rs a A.length m.length k o7 o8 o9) (MM m R C) = .rt (.d .none) (m.set a (.dK (kvA A')) ++ X) := bd
        rw [bd]
        exact .inr ⟨A', X, rfl, h1, h2⟩
    · have tt : evT (callF code sub n) (.b2 .lt (.v 6) (.u1 .len (.v 5))) (envP tv rs a A.length m.length k o7 o8 o9) (MM m R C) = .ok false (MM m R C) := by
        simp only [evT, evE, getV, List.getElem?_cons_zero, List.getElem?_cons_succ, Res.of, Res.bind, vl, op1_lenL, List.length_map, Option.map, view2_d, op2_lt, e, decide_false, truth_d, truD_b]
      rw [tt]
      refine .inl ⟨R, C, k, o7, o8, o9, rfl, hW, fun t ht => ?_⟩
      obtain ⟨i, hi⟩ := List.mem_iff_getElem?.mp ht
      have := (List.getElem?_eq_some_iff.mp hi).1
      exact hd i (by omega) t hi
end
theorem sort_nat (R : List Nat) (nd : R.Nodup) : ∃ L : List Nat, sortI (R.map fun t : Nat => (t : Int)) = L.map (fun t : Nat => (t : Int)) ∧ L.Perm R ∧ L.Pairwise (· < ·) := by
  have p := sort_perm (R.map fun t : Nat => (t : Int))
  have s := sort_asc (R.map fun t : Nat => (t : Int))
  generalize sortI (R.map fun t : Nat => (t : Int)) = S at *
  have pos : ∀ x ∈ S, 0 ≤ x := fun x hx => by
    obtain ⟨t, _, rfl⟩ := List.mem_map.mp (p.mem_iff.mp hx)
    omega
  have e : (S.map Int.toNat).map (fun t : Nat => (t : Int)) = S := by
    rw [List.map_map]
    refine (List.map_congr_left fun x hx => ?_).trans (List.map_id _)
    have := pos x hx
    show ((x.toNat : Nat) : Int) = x
    omega
  have pr : (S.map Int.toNat).Perm R := by
    have := p.map Int.toNat
    rw [List.map_map] at this
    refine this.trans ?_
    have : R.map (Int.toNat ∘ fun t : Nat => (t : Int)) = R := (List.map_congr_left fun t _ => Int.toNat_natCast t).trans (List.map_id _)
    rw [this]
  refine ⟨S.map Int.toNat, e.symm, pr, ?_⟩
  have nd2 : (S.map Int.toNat).Nodup := pr.nodup_iff.mpr nd
  rw [List.pairwise_map]
  have nd3 : S.Pairwise fun a b => a.toNat ≠ b.toNat := List.pairwise_map.mp nd2
  refine (s.and nd3).imp_of_mem fun {a b} ha hb h => ?_
  have := pos a ha
  have := pos b hb
  omega
theorem place_more {n : Nat} (hn : 2 ≤ n) {T : Ts} {rs A : List Int} {m : Mem} {a : Nat} {tv : EV} (hT : Tk T rs) (hA : Plc T rs A) (hl : A.length < T.length) (ha : m[a]? = some (.dK (kvA A))) (htv : TV m tv T) :
    (∃ A', callF code sub n 6 [tv, .d (dW rs), .loc a, .d (dN A.length)] m = .ok (.d .none) (m.set a (.dK (kvA A'))) ∧ Plc T rs A' ∧ A'.length = A.length + 1)
    ∨ (∃ L : List Nat, callF code sub n 6 [tv, .d (dW rs), .loc a, .d (dN A.length)] m = .ok (.d (.tuple (L.map dN))) m ∧ Lot T rs L) := by
  obtain ⟨n, rfl⟩ : ∃ k, n = k + 1 := ⟨n - 1, by omega⟩
  rw [call_eq (fn := c6) rfl rfl]
  have hi := hT.hi
  have ou := outer (sub := sub) (show 1 ≤ n by omega) hT hA hl ha htv (A.length + 1) 0 1000000000 [A.length] [] none none none (Rch.start T rs A) (Nat.zero_le _) (fun i h => absurd h (by omega)) (by omega) (by omega)
  have st : evS (callF code sub n) sub (.par [4, 5, 6] (.cons (.dis [] .nil) (.cons (.ml (.dis (.cons (.v 3) .nil))) (.cons (.c (.int 0)) .nil)))) ([some tv, some (.d (dW rs)), some (.loc a), some (.d (dN A.length)), none, none, none, none, none, none]) m = .nx (envP tv rs a A.length m.length 0 none none none) (MM m [A.length] []) := by
    simp [evS, evE, evEs, evL, getV, setAll, allD, MM, kvC, envP]
  rcases ou with ⟨R, C, k', o7, o8, o9, q, hW, hd⟩ | ⟨A', X, q, h1, h2⟩
  · obtain ⟨L, s1, s2, s3⟩ := sort_nat R hW.r.nd
    refine .inr ⟨L, ?_, hW.lot hT hl hd s2 s3⟩
    have sr : srtE (MM m R C) (.loc (m.length + 1)) = some (.d (.list (L.map dN))) := by
      have : srtV (MM m R C) (.loc (m.length + 1)) = some (L.map fun t : Nat => (t : Int)) := by
        show (match (MM m R C)[m.length + 1]? with
          | some (.dK kvs) => (match keysI kvs with
            | some ks => if decide (ks.length < 64) then some (sortI ks) else none
            | none => none)
          | some (.lst ys) => ((allD ys).bind intsD).map sortI
          | _ => none) = _
        rw [mm_r]
        dsimp only
        rw [allD_m, Option.bind_some, castN, intsD_map, Option.map_some, s1]
      unfold srtE
      rw [this]
      dsimp only
      rw [castN]
    have tk : (MM m R C).take m.length = m := by simp [MM]
    rw [show (Fn.body c6) = .cons (.par [4, 5, 6] (.cons (.dis [] .nil) (.cons (.ml (.dis (.cons (.v 3) .nil))) (.cons (.c (.int 0)) .nil)))) (.cons (.whl (.b2 .lt (.v 6) (.u1 .len (.v 5))) c6b1) (.cons (.ret (.u1 .tuple (.srt (.v 5)))) .nil)) from rfl]
    have st2 : evS (callF code sub n) sub (.whl (.b2 .lt (.v 6) (.u1 .len (.v 5))) c6b1) (envP tv rs a A.length m.length 0 none none none) (MM m [A.length] []) = _ := q
    have st3 : evS (callF code sub n) sub (.ret (.u1 .tuple (.srt (.v 5)))) (envP tv rs a A.length m.length k' o7 o8 o9) (MM m R C) = .rt (.d (.tuple (L.map dN))) (MM m R C) := by
      simp only [evS, evE, getV, List.getElem?_cons_zero, List.getElem?_cons_succ, Res.of, Res.bind, S.of, sr, view1_d, op1_tupL, Option.map]
    exact (congrArg (fin m.length) ((evSs_nx st).trans ((evSs_nx st2).trans (evSs_rt st3)))).trans (by rw [fin_rt, tk])
  · refine .inl ⟨A', ?_, h1, h2⟩
    rw [show (Fn.body c6) = .cons (.par [4, 5, 6] (.cons (.dis [] .nil) (.cons (.ml (.dis (.cons (.v 3) .nil))) (.cons (.c (.int 0)) .nil)))) (.cons (.whl (.b2 .lt (.v 6) (.u1 .len (.v 5))) c6b1) (.cons (.ret (.u1 .tuple (.srt (.v 5)))) .nil)) from rfl]
    have st2 : evS (callF code sub n) sub (.whl (.b2 .lt (.v 6) (.u1 .len (.v 5))) c6b1) (envP tv rs a A.length m.length 0 none none none) (MM m [A.length] []) = _ := q
    have tk : (m.set a (.dK (kvA A')) ++ X).take m.length = m.set a (.dK (kvA A')) := by
      have : m.length = (m.set a (.dK (kvA A'))).length := by rw [List.length_set]
      rw [this]
      exact List.take_left
    exact (congrArg (fin m.length) ((evSs_nx st).trans (evSs_rt st2))).trans (by rw [fin_rt, tk])
end k60
end PV
end

section
set_option Elab.async false
set_option linter.all false
set_option maxRecDepth 100000
namespace PV
namespace k60
open PySem Mt
variable {sub : Nat → Nat → Bool}
/-! ### a placing or a lot -/
abbrev sPlan : Str := Str.ofString "plan"
abbrev sLot : Str := Str.ofString "lot"
abbrev planD (A : List Int) : D := .tuple [.str sPlan, dW A]
abbrev lotD (L : List Nat) : D := .tuple [.str sLot, .tuple (L.map dN)]
section
variable {n : Nat} {T : Ts} {rs : List Int} {m : Mem} {tv : EV}
theorem loop (hn : 2 ≤ n) (hT : Tk T rs) (htv : TV m tv T) : ∀ (j : Nat) (A : List Int) (o3 o4 : Option EV), Plc T rs A → A.length + j = T.length →
    (∃ A' o3' o4', forD (.nm 3) (fun e2 m2 => evSs (callF code sub n) sub c7b0 e2 m2) ((List.range' A.length j).map dN) [some tv, some (.d (dW rs)), some (.loc m.length), o3, o4] (m ++ [.dK (kvA A)]) = .nx [some tv, some (.d (dW rs)), some (.loc m.length), o3', o4'] (m ++ [.dK (kvA A')]) ∧ Plc T rs A' ∧ A'.length = T.length)
    ∨ (∃ L X, forD (.nm 3) (fun e2 m2 => evSs (callF code sub n) sub c7b0 e2 m2) ((List.range' A.length j).map dN) [some tv, some (.d (dW rs)), some (.loc m.length), o3, o4] (m ++ [.dK (kvA A)]) = .rt (.d (lotD L)) (m ++ X) ∧ Lot T rs L) := by
  intro j
  induction j with
  | zero => exact fun A o3 o4 hA hl => .inl ⟨A, o3, o4, rfl, hA, by omega⟩
  | succ j ih =>
    intro A o3 o4 hA hl
    rw [List.range'_succ, List.map_cons]
    have b3 : asgT (.nm 3) (.d (dN A.length)) [some tv, some (.d (dW rs)), some (.loc m.length), o3, o4] = some [some tv, some (.d (dW rs)), some (.loc m.length), some (.d (dN A.length)), o4] := rfl
    rcases place_more (sub := sub) hn hT hA (by omega) (mem_last m (.dK (kvA A))) (htv.app _) with ⟨A', f, h1, h2⟩ | ⟨L, f, h1⟩
    · rw [mem_set] at f
      have bd : evSs (callF code sub n) sub c7b0 [some tv, some (.d (dW rs)), some (.loc m.length), some (.d (dN A.length)), o4] (m ++ [.dK (kvA A)]) = .nx [some tv, some (.d (dW rs)), some (.loc m.length), some (.d (dN A.length)), some (.d .none)] (m ++ [.dK (kvA A')]) := by
        simp only [c7b0, evSs, evS, evT, evE, evEs, getV, asgM, asgT, List.set, List.getElem?_cons_zero, List.getElem?_cons_succ, Res.of, Res.bind, S.of, S.opt, f, view1_d, op1_notN, isND, Option.map, truth_d, truD_b, Bool.not_true]
      have := ih A' (some (.d (dN A.length))) (some (.d .none)) h1 (by omega)
      rw [h2] at this
      rcases this with ⟨A2, o3', o4', e, q⟩ | ⟨L, X, e, q⟩
      · exact .inl ⟨A2, o3', o4', (forD_nx b3 bd).trans e, q⟩
      · exact .inr ⟨L, X, (forD_nx b3 bd).trans e, q⟩
    · refine .inr ⟨L, [.dK (kvA A)], forD_rt b3 ?_, h1⟩
      show _ = S.rt (.d (.tuple [.str sLot, .tuple (L.map dN)])) _
      generalize L.map dN = Z at *
      simp only [c7b0, evSs, evS, evT, evE, evEs, getV, asgM, asgT, List.set, List.getElem?_cons_zero, List.getElem?_cons_succ, Res.of, Res.bind, S.of, S.opt, f, view1_d, op1_notN, isND, Option.map, truth_d, truD_b, Bool.not_false, allD]
end
theorem matching_so {n : Nat} (hn : 3 ≤ n) {T : Ts} {rs : List Int} {m : Mem} {tv : EV} (hT : Tk T rs) (htv : TV m tv T) :
    (∃ A, callF code sub n 7 [tv, .d (dW rs)] m = .ok (.d (planD A)) m ∧ Plc T rs A ∧ A.length = T.length)
    ∨ (∃ L, callF code sub n 7 [tv, .d (dW rs)] m = .ok (.d (lotD L)) m ∧ Lot T rs L) := by
  obtain ⟨n, rfl⟩ : ∃ k, n = k + 1 := ⟨n - 1, by omega⟩
  rw [call_eq (fn := c7) rfl rfl]
  obtain ⟨x, l1, l2⟩ := tv_len (htv.app [.dK (kvA [])])
  have hi := hT.hi
  have hr : evI (callF code sub n) (.rng1 (.u1 .len (.v 0))) [some tv, some (.d (dW rs)), some (.loc m.length), none, none] (m ++ [.dK (kvA [])]) = .ok (.fx ((List.range' 0 T.length).map dN)) (m ++ [.dK (kvA [])]) := by
    have := rng1_ok (cf := callF code sub n) (e := .u1 .len (.v 0)) (env := [some tv, some (.d (dW rs)), some (.loc m.length), none, none]) (m := m ++ [.dK (kvA [])]) (m1 := m ++ [.dK (kvA [])]) (k := (T.length : Int)) (by simp only [evE, getV, List.getElem?_cons_zero, Res.of, Res.bind, l1, l2, Option.map]) (by omega) (by unfold LIM; omega)
    rw [this, rangeL0, List.range_eq_range']
  have s1 : evS (callF code sub n) sub (.asg (.nm 2) (.dis [] .nil)) [some tv, some (.d (dW rs)), none, none, none] m = .nx [some tv, some (.d (dW rs)), some (.loc m.length), none, none] (m ++ [.dK (kvA [])]) := by
    simp [evS, evE, evEs, asgM, kvA]
  have hb : (Fn.body c7) = .cons (.asg (.nm 2) (.dis [] .nil)) (.cons (.for (.nm 3) (.rng1 (.u1 .len (.v 0))) c7b0) (.cons (.ret (.tup (.cons (.c (.str sPlan)) (.cons (.u1 .tuple (.fl c7l0)) .nil)))) .nil)) := rfl
  rw [hb]
  rcases loop (sub := sub) (show 2 ≤ n by omega) hT htv T.length [] none none ⟨fun i x h => by simp at h, fun _ h => by cases h⟩ (by simp) with ⟨A, o3, o4, e, h1, h2⟩ | ⟨L, X, e, h1⟩
  · refine .inl ⟨A, ?_, h1, h2⟩
    have s2 : evS (callF code sub n) sub (.for (.nm 3) (.rng1 (.u1 .len (.v 0))) c7b0) [some tv, some (.d (dW rs)), some (.loc m.length), none, none] (m ++ [.dK (kvA [])]) = .nx [some tv, some (.d (dW rs)), some (.loc m.length), o3, o4] (m ++ [.dK (kvA A)]) := by
      show S.of _ (evI _ _ _ _) _ = _
      rw [hr]
      exact (forL_fx _ _ _ _ _).trans e
    obtain ⟨y, l3, l4⟩ := tv_len (htv.app [.dK (kvA A)])
    have k0 : evL (callF code sub n) c7l0 [some tv, some (.d (dW rs)), some (.loc m.length), o3, o4] (m ++ [.dK (kvA A)]) = .ok (A.map .int) (m ++ [.dK (kvA A)]) := by
      have := rng1_ok (cf := callF code sub n) (e := .u1 .len (.v 0)) (env := [some tv, some (.d (dW rs)), some (.loc m.length), o3, o4]) (m := m ++ [.dK (kvA A)]) (m1 := m ++ [.dK (kvA A)]) (k := (T.length : Int)) (by simp only [evE, getV, List.getElem?_cons_zero, Res.of, Res.bind, l3, l4, Option.map]) (by omega) (by unfold LIM; omega)
      rw [rangeL0] at this
      refine (comp_fx this).trans ?_
      have eA : A = (List.range T.length).map fun t => A.getD t 0 := by
        refine List.ext_getElem (by simp [h2]) fun i h3 h4 => ?_
        simp [List.getD_eq_getElem?_getD, h3]
      have : A.map PyData.int = (List.range T.length).map fun t => .int (A.getD t 0) := by
        conv => lhs; rw [eA]
        rw [List.map_map]
        rfl
      rw [this]
      refine compD_of fun t ht => ?_
      have ht := List.mem_range.mp ht
      have gi : getIx (m ++ [.dK (kvA A)]) (.loc m.length) (.int (t : Int)) = some (.d (.int (A.getD t 0))) := by
        have lt : t < A.length := by omega
        unfold getIx
        simp only [mem_last, keyD, Option.bind_some, getA, List.getElem?_eq_getElem lt, List.getD_eq_getElem?_getD, Option.map_some, Option.getD_some]
      simp only [turnB, asgT, wipeE, evE, getV, List.set, List.getElem?_cons_zero, List.getElem?_cons_succ, Res.of, Res.bind, gi, truth_d, truD_b]
    have s3 : evS (callF code sub n) sub (.ret (.tup (.cons (.c (.str sPlan)) (.cons (.u1 .tuple (.fl c7l0)) .nil)))) [some tv, some (.d (dW rs)), some (.loc m.length), o3, o4] (m ++ [.dK (kvA A)]) = .rt (.d (planD A)) (m ++ [.dK (kvA A)]) := by
      simp only [evS, evE, evEs, Res.of, Res.bind, S.of, k0, view1_d, op1_tupL, Option.map, allD]
    exact (congrArg (fin m.length) ((evSs_nx s1).trans ((evSs_nx s2).trans (evSs_rt s3)))).trans (by rw [fin_rt]; simp)
  · refine .inr ⟨L, ?_, h1⟩
    have s2 : evS (callF code sub n) sub (.for (.nm 3) (.rng1 (.u1 .len (.v 0))) c7b0) [some tv, some (.d (dW rs)), some (.loc m.length), none, none] (m ++ [.dK (kvA [])]) = .rt (.d (lotD L)) (m ++ X) := by
      show S.of _ (evI _ _ _ _) _ = _
      rw [hr]
      exact (forL_fx _ _ _ _ _).trans e
    exact (congrArg (fin m.length) ((evSs_nx s1).trans (evSs_rt s2))).trans (by rw [fin_rt]; simp)
theorem mem_tv (m : Mem) (T : Ts) : TV m (.d (dTs T)) T := .inl rfl
theorem matching {n : Nat} (hn : 4 ≤ n) {T : Ts} {rs : List Int} (hT : Tk T rs) (m : Mem) :
    (∃ A, callF code sub n 11 [.d (dTs T), .d (dW rs)] m = .ok (.d (planD A)) m ∧ Plc T rs A ∧ A.length = T.length)
    ∨ (∃ L, callF code sub n 11 [.d (dTs T), .d (dW rs)] m = .ok (.d (lotD L)) m ∧ Lot T rs L) := by
  obtain ⟨n, rfl⟩ : ∃ k, n = k + 1 := ⟨n - 1, by omega⟩
  rw [call_eq (fn := c11) rfl rfl]
  have f1 := fun m => check_tasks (sub := sub) (show 3 ≤ n by omega) hT m
  have f2 := fun m => check_rooms (sub := sub) (show 2 ≤ n by omega) hT m
  rcases matching_so (sub := sub) (show 3 ≤ n by omega) hT (mem_tv m T) with ⟨A, e, q⟩ | ⟨L, e, q⟩
  · refine .inl ⟨A, ?_, q⟩
    generalize planD A = Z at *
    generalize dTs T = X at *
    generalize dW rs = Y at *
    simp [c11, evSs, evS, evE, evEs, getV, f1, f2, e]
  · refine .inr ⟨L, ?_, q⟩
    generalize lotD L = Z at *
    generalize dTs T = X at *
    generalize dW rs = Y at *
    simp [c11, evSs, evS, evE, evEs, getV, f1, f2, e]
/-! ### judges -/
theorem is_placing_so {n : Nat} (hn : 2 ≤ n) {T : Ts} {rs B : List Int} (hT : Tk T rs) (hB : Plc T rs B) (hl : B.length = T.length) (m : Mem) : callF code sub n 8 [.d (dTs T), .d (dW rs), .d (dW B)] m = .ok (.d (.bool true)) m := by
  obtain ⟨n, rfl⟩ : ∃ k, n = k + 1 := ⟨n - 1, by omega⟩
  rw [call_eq (fn := c8) rfl rfl]
  have hzip : zipL (T.map dW) (B.map .int) = (T.zip B).map fun q : List Int × Int => .tuple [dW q.1, .int q.2] := by
    clear hT hB hl
    induction T generalizing B with
    | nil => simp [zipL]
    | cons l T ih =>
      cases B with
      | nil => simp [zipL]
      | cons b B => simp [zipL, ih]
  have inr : ∀ x ∈ B, 0 ≤ x ∧ x < rs.length := fun x hx => by
    obtain ⟨i, hi⟩ := List.mem_iff_getElem?.mp hx
    have := hB.mem i x hi
    exact hT.hr _ (at_mem this).2 x this
  have rhi := hT.rhi
  obtain ⟨env', m', hf, rfl, o3, o4, rfl⟩ := forD_of (t := .tup (.cons (.nm 3) (.cons (.nm 4) .nil))) (b := fun e2 m2 => evSs (callF code sub n) sub c8b0 e2 m2) (e := fun q : List Int × Int => .tuple [dW q.1, .int q.2]) (l := T.zip B)
    (fun _ env' m' => m' = m ∧ ∃ o3 o4, env' = [some (.d (dTs T)), some (.d (dW rs)), some (.d (dW B)), o3, o4]) (by
      rintro pre q post e env m' ⟨rfl, o3, o4, rfl⟩
      refine ⟨_, rfl, [some (.d (dTs T)), some (.d (dW rs)), some (.d (dW B)), some (.d (dW q.1)), some (.d (.int q.2))], m', .inl ?_, rfl, _, _, rfl⟩
      have hm : q ∈ T.zip B := by rw [e]; simp
      obtain ⟨i, hi⟩ := List.mem_iff_getElem?.mp hm
      obtain ⟨h1, h2⟩ := List.getElem?_zip_eq_some.mp hi
      have hq : q.2 ∈ q.1 := by
        have := hB.mem i q.2 h2
        unfold at' at this
        rw [List.getD_eq_getElem?_getD, h1] at this
        exact this
      have := inr q.2 (List.mem_of_getElem? h2)
      have f := fun m => is_from (sub := sub) (show 1 ≤ n by omega) q.2 0 99 m
      rw [decide_eq_true (by omega)] at f
      have nin := op_ninT' q.2 q.1
      rw [decide_eq_true hq] at nin
      simp [c8b0, asgT, asgTs, evSs, evS, evT, evE, evEs, getV, f, nin])
    (env := [some (.d (dTs T)), some (.d (dW rs)), some (.d (dW B)), none, none]) (m := m) ⟨rfl, none, none, rfl⟩
  have k0 : evL (callF code sub n) c8l0 [some (.d (dTs T)), some (.d (dW rs)), some (.d (dW B)), o3, o4] m' = .ok [] m' := by
    refine (comp_fx (xs := B.map .int) (m1 := m') (by simp only [evI, evE, getV, List.getElem?_cons_zero, List.getElem?_cons_succ, Res.of, Res.bind, seqD_t, Option.map])).trans ?_
    refine none_left fun x hx => ?_
    obtain ⟨i, hi, rfl⟩ := List.mem_map.mp hx
    obtain ⟨i0, i1⟩ := inr i hi
    have g := get_z i0 i1 m'
    have r : ¬ room rs i < (B.count i : Int) := by have := hB.room i hi; omega
    simp only [turnB, asgT, wipeE, evE, getV, List.set, List.getElem?_cons_zero, List.getElem?_cons_succ, Res.of, Res.bind, intsD_map, g, view2_d, op2_gt, r, decide_false, Option.map, truth_d, truD_b]
  have ne : ¬ ((B.length : Int) ≠ (T.length : Int)) := by omega
  have hI : evI (callF code sub n) (.zp (.v 0) (.v 2)) [some (.d (dTs T)), some (.d (dW rs)), some (.d (dW B)), none, none] m' = .ok (.fx ((T.zip B).map fun q : List Int × Int => .tuple [dW q.1, .int q.2])) m' := by
    simp only [evI, evE, getV, List.getElem?_cons_zero, List.getElem?_cons_succ, Res.of, Res.bind, hzip]
  generalize hZ : ((T.zip B).map fun q : List Int × Int => (.tuple [dW q.1, .int q.2] : D)) = Z at *
  simp [c8, evSs, evS, evT, evE, getV, hI, forL_fx, hf, k0, len_0, hl]
theorem is_placing {n : Nat} (hn : 4 ≤ n) {T : Ts} {rs B : List Int} (hT : Tk T rs) (hB : Plc T rs B) (hl : B.length = T.length) (m : Mem) : callF code sub n 12 [.d (dTs T), .d (dW rs), .d (dW B)] m = .ok (.d (.bool true)) m := by
  obtain ⟨n, rfl⟩ : ∃ k, n = k + 1 := ⟨n - 1, by omega⟩
  rw [call_eq (fn := c12) rfl rfl]
  have f1 := fun m => check_tasks (sub := sub) (show 3 ≤ n by omega) hT m
  have f2 := fun m => check_rooms (sub := sub) (show 2 ≤ n by omega) hT m
  have f3 := fun m => is_placing_so (sub := sub) (show 2 ≤ n by omega) hT hB hl m
  generalize dTs T = X at *
  generalize dW rs = Y at *
  generalize dW B = Z at *
  simp [c12, evSs, evS, evE, evEs, getV, f1, f2, f3]
theorem is_lot {n : Nat} (hn : 4 ≤ n) {T : Ts} {rs : List Int} (hT : Tk T rs) {s : List Nat} (hs : TSet T s) (hl : (s.map (at' T)).flatten.length ≤ 63) (m : Mem) : callF code sub n 13 [.d (dTs T), .d (dW rs), .d (.tuple (s.map dN))] m = .ok (.d (.bool (isLotB T rs s))) m := by
  obtain ⟨n, rfl⟩ : ∃ k, n = k + 1 := ⟨n - 1, by omega⟩
  rw [call_eq (fn := c13) rfl rfl]
  have f1 := fun m => check_tasks (sub := sub) (show 3 ≤ n by omega) hT m
  have f2 := fun m => check_rooms (sub := sub) (show 2 ≤ n by omega) hT m
  have f3 := fun m => is_lot_so (sub := sub) (show 3 ≤ n by omega) hT hs hl m
  generalize dTs T = X at *
  generalize dW rs = Y at *
  generalize s.map dN = Z at *
  simp [c13, evSs, evS, evE, evEs, getV, f1, f2, f3]
end k60
end PV
end

section
set_option Elab.async false
set_option linter.all false
set_option maxRecDepth 100000
namespace PV
namespace k60
open PySem Mt
variable {sub : Nat → Nat → Bool}
/-! ### the least placing -/
theorem forD_bk {t : Tg} {b : Env → Mem → S} {x : D} {xs : List D} {env env1 env2 : Env} {m m2 : Mem} (h : asgT t (.d x) env = some env1) (h2 : b env1 m = .bk env2 m2) : forD t b (x :: xs) env m = .nx env2 m2 := by
  rw [forD, h]
  dsimp only
  rw [h2]
theorem ix0 (x y : D) (m : Mem) : getIx m (.d (.tuple [x, y])) (.int 0) = some (.d x) := get_0 x y m
/-- which word is told -/
theorem word {n : Nat} (hn : 3 ≤ n) {T : Ts} {rs : List Int} {m : Mem} {tv : EV} (hT : Tk T rs) (htv : TV m tv T) : ∃ y, callF code sub n 7 [tv, .d (dW rs)] m = .ok (.d y) m ∧ ((Feas T rs ∧ getIx m (.d y) (.int 0) = some (.d (.str sPlan))) ∨ (¬ Feas T rs ∧ getIx m (.d y) (.int 0) = some (.d (.str sLot)))) := by
  rcases matching_so (sub := sub) hn hT htv with ⟨A, e, h1, h2⟩ | ⟨L, e, h1⟩
  · exact ⟨_, e, .inl ⟨⟨A, h1, h2⟩, ix0 _ _ m⟩⟩
  · exact ⟨_, e, .inr ⟨fun ⟨B, h2, h3⟩ => h1.none hT h2 h3, ix0 _ _ m⟩⟩
abbrev LL (m : Mem) (U : Ts) : Mem := m ++ [.lst (U.map fun l => .d (dW l))]
theorem ll_tv (m : Mem) (U : Ts) : TV (LL m U) (.loc m.length) U := .inr ⟨_, rfl, mem_last _ _⟩
theorem singles_snoc (P : List Int) (x : Int) (T : Ts) : singles (P ++ [x]) ++ T = singles P ++ [x] :: T := by
  unfold singles
  rw [List.map_append, List.append_assoc]
  rfl
theorem sto_l (m : Mem) (P : List Int) (z : List Int) (T : Ts) (x : Int) : setIx (LL m (singles P ++ z :: T)) (.loc m.length) (.int (P.length : Int)) (.d (.tuple [.int x])) = some (LL m (singles (P ++ [x]) ++ T)) := by
  have hl : (singles P).length = P.length := by unfold singles; rw [List.length_map]
  have := set_m m ((singles P ++ z :: T).map fun l => .d (dW l)) (k := P.length) (by rw [List.length_map, List.length_append, hl, List.length_cons]; omega) (.tuple [.int x])
  unfold LL
  rw [this, singles_snoc]
  congr 4
  rw [List.map_append, List.map_append, List.set_append_right _ _ (by rw [List.length_map, hl]; exact Nat.le_refl _), List.length_map, hl, Nat.sub_self]
  rfl
theorem tk_of {T : Ts} {rs P : List Int} (hT : Tk T rs) {j : Nat} (hP : ∀ p ∈ P, 0 ≤ p ∧ p < rs.length) (hl : P.length + (T.drop j).length = T.length) : Tk (singles P ++ T.drop j) rs := by
  have sg : ∀ l ∈ singles P, ∃ p ∈ P, l = [p] := fun l hl => by
    obtain ⟨p, hp, rfl⟩ := List.mem_map.mp hl
    exact ⟨p, hp, rfl⟩
  have dr : ∀ l ∈ T.drop j, l ∈ T := fun l hl => List.mem_of_mem_drop hl
  have hs : (singles P).length = P.length := by unfold singles; rw [List.length_map]
  refine ⟨by rw [List.length_append, hs, hl]; exact hT.lo, by rw [List.length_append, hs, hl]; exact hT.hi, fun l h => ?_, fun l h => ?_, fun l h => ?_, hT.rlo, hT.rhi, hT.rall⟩ <;> rcases List.mem_append.mp h with h | h
  · obtain ⟨p, _, rfl⟩ := sg l h
    simp
  · exact hT.few l (dr l h)
  · obtain ⟨p, _, rfl⟩ := sg l h
    simp
  · exact hT.asc l (dr l h)
  · obtain ⟨p, hp, rfl⟩ := sg l h
    intro x hx
    simp at hx
    subst hx
    exact hP x hp
  · exact hT.hr l (dr l h)
theorem plan_ne : decide (sLot = sPlan) = false := by decide +kernel
theorem plan_eq : decide (sPlan = sPlan) = true := by simp
section
variable {n : Nat} {T : Ts} {rs : List Int} {m : Mem}
abbrev envL (X Y : D) (P : Nat) (i : Int) (o4 o5 : Option EV) : Env := [some (.d X), some (.d Y), some (.loc P), some (.d (.int i)), o4, o5]
theorem hours_loop (hn : 3 ≤ n) (hT : Tk T rs) (X : D) {P : List Int} {j : Nat} (hP : ∀ p ∈ P, 0 ≤ p ∧ p < rs.length) (hj : P.length + 1 + (T.drop j).length = T.length) (o4 : Option EV) {x : Int} (hx : 0 ≤ x ∧ x < rs.length) (fx : Feas (singles (P ++ [x]) ++ T.drop j) rs) (post : List D) :
    ∀ (pre : List Int) (z : List Int) (o5 : Option EV), (∀ y ∈ pre, (0 ≤ y ∧ y < rs.length) ∧ ¬ Feas (singles (P ++ [y]) ++ T.drop j) rs) →
    ∃ o5', forD (.nm 5) (fun e2 m2 => evSs (callF code sub n) sub c14b0 e2 m2) (pre.map .int ++ .int x :: post) (envL X (dW rs) m.length P.length o4 o5) (LL m (singles P ++ z :: T.drop j)) = .nx (envL X (dW rs) m.length P.length o4 o5') (LL m (singles (P ++ [x]) ++ T.drop j)) := by
  have hsn : ∀ y : Int, 0 ≤ y ∧ y < rs.length → ∀ p ∈ P ++ [y], 0 ≤ p ∧ p < rs.length := fun y hy p hp => by
    rcases List.mem_append.mp hp with hp | hp
    · exact hP p hp
    · simp at hp; subst hp; exact hy
  intro pre
  induction pre with
  | nil =>
    intro z o5 _
    refine ⟨some (.d (.int x)), ?_⟩
    have b5 : asgT (.nm 5) (.d (.int x)) (envL X (dW rs) m.length P.length o4 o5) = some (envL X (dW rs) m.length P.length o4 (some (.d (.int x)))) := rfl
    refine forD_bk b5 ?_
    have s1 := sto_l m P z (T.drop j) x
    have tk := tk_of hT (j := j) (hsn x hx) (by rw [List.length_append]; exact hj)
    obtain ⟨y, f, q⟩ := word (sub := sub) hn tk (ll_tv m _)
    rcases q with ⟨_, g⟩ | ⟨nf, _⟩
    · simp only [c14b0, envL, evSs, evS, evT, evE, evEs, getV, asgM, asgT, List.set, List.getElem?_cons_zero, List.getElem?_cons_succ, Res.of, Res.bind, S.of, S.opt, allD, s1, f, g, view2_d, op2_eqS, plan_eq, decide_true, Option.map, truth_d, truD_b]
    · exact absurd fx nf
  | cons w pre ih =>
    intro z o5 hpre
    obtain ⟨hw, nw⟩ := hpre w (by simp)
    have b5 : asgT (.nm 5) (.d (.int w)) (envL X (dW rs) m.length P.length o4 o5) = some (envL X (dW rs) m.length P.length o4 (some (.d (.int w)))) := rfl
    have s1 := sto_l m P z (T.drop j) w
    have tk := tk_of hT (j := j) (hsn w hw) (by rw [List.length_append]; exact hj)
    obtain ⟨y, f, q⟩ := word (sub := sub) hn tk (ll_tv m _)
    rcases q with ⟨fw, _⟩ | ⟨_, g⟩
    · exact absurd fw nw
    · have bd : evSs (callF code sub n) sub c14b0 (envL X (dW rs) m.length P.length o4 (some (.d (.int w)))) (LL m (singles P ++ z :: T.drop j)) = .nx (envL X (dW rs) m.length P.length o4 (some (.d (.int w)))) (LL m (singles (P ++ [w]) ++ T.drop j)) := by
        simp only [c14b0, envL, evSs, evS, evT, evE, evEs, getV, asgM, asgT, List.set, List.getElem?_cons_zero, List.getElem?_cons_succ, Res.of, Res.bind, S.of, S.opt, allD, s1, f, g, view2_d, op2_eqS, plan_ne, Option.map, truth_d, truD_b]
      rw [singles_snoc] at bd
      obtain ⟨o5', e⟩ := ih [w] (some (.d (.int w))) fun y hy => hpre y (by simp [hy])
      exact ⟨o5', (forD_nx b5 bd).trans e⟩
end
theorem least_placing {n : Nat} (hn : 4 ≤ n) {T : Ts} {rs : List Int} (hT : Tk T rs) (m : Mem) :
    (∃ P, callF code sub n 14 [.d (dTs T), .d (dW rs)] m = .ok (.d (dW P)) m ∧ (ext rs [] T).head? = some P) ∨ (ext rs [] T = [] ∧ callF code sub n 14 [.d (dTs T), .d (dW rs)] m = .ex 1 [] m) := by
  obtain ⟨n, rfl⟩ : ∃ k, n = k + 1 := ⟨n - 1, by omega⟩
  rw [call_eq (fn := c14) rfl rfl]
  have f1 := fun m => check_tasks (sub := sub) (show 3 ≤ n by omega) hT m
  have f2 := fun m => check_rooms (sub := sub) (show 2 ≤ n by omega) hT m
  obtain ⟨y, f3, q⟩ := word (sub := sub) (show 3 ≤ n by omega) hT (mem_tv m T)
  rcases q with ⟨fs, g⟩ | ⟨nf, g⟩
  · obtain ⟨env', m', hf, P, hl, rfl, hh, hne, hr, hin, o3, o4, o5, rfl⟩ := forD_of (t := .tup (.cons (.nm 3) (.cons (.nm 4) .nil))) (b := fun e2 m2 => evSs (callF code sub n) sub c14b1 e2 m2) (e := fun q : List Int × Nat => .tuple [.int (q.2 : Int), dW q.1]) (l := T.zipIdx)
      (fun pre env' m' => ∃ P : List Int, P.length = pre.length ∧ m' = LL m (singles P ++ T.drop pre.length) ∧ (ext rs [] T).head? = (ext rs P (T.drop pre.length)).head? ∧ ext rs P (T.drop pre.length) ≠ [] ∧ Rok rs P ∧ (∀ p ∈ P, 0 ≤ p ∧ p < rs.length) ∧ ∃ o3 o4 o5, env' = [some (.d (dTs T)), some (.d (dW rs)), some (.loc m.length), o3, o4, o5]) (by
        rintro pre q post e env m' ⟨P, hl, rfl, hh, hne, hr, hin, o3, o4, o5, rfl⟩
        obtain ⟨z1, z2⟩ := zipIdx_at e
        have hd : T.drop pre.length = q.1 :: T.drop (pre.length + 1) := by
          have lt := (List.getElem?_eq_some_iff.mp z2).1
          rw [List.drop_eq_getElem_cons lt]
          rw [List.getElem?_eq_getElem lt] at z2
          rw [Option.some.inj z2]
        have hq := List.mem_of_getElem? z2
        rw [hd] at hh hne
        obtain ⟨pr, x, po, ep, h1, h2, h3⟩ := least_step hr hne
        have hx := hT.hr _ hq x (by rw [ep]; simp)
        have dl : P.length + 1 + (T.drop (pre.length + 1)).length = T.length := by
          have lt := (List.getElem?_eq_some_iff.mp z2).1
          rw [List.length_drop]
          omega
        obtain ⟨o5', fe⟩ := hours_loop (sub := sub) (m := m) (n := n) (by omega) hT (dTs T) hin dl (some (.d (dW q.1))) hx h2 (po.map .int) pr q.1 o5 fun y hy => ⟨hT.hr _ hq y (by rw [ep]; simp [hy]), h1 y hy⟩
        obtain ⟨r2, ne2⟩ := feas_ext.mp h2
        refine ⟨_, rfl, envL (dTs T) (dW rs) m.length P.length (some (.d (dW q.1))) o5', LL m (singles (P ++ [x]) ++ T.drop (pre.length + 1)), .inl ?_, P ++ [x], by simp [hl], by simp, ?_, by simpa using ne2, r2, fun p hp => ?_, _, _, _, rfl⟩
        · have e4 : (q.1.map PyData.int) = pr.map .int ++ .int x :: po.map .int := by rw [ep]; simp
          have i3 : (q.2 : Int) = (P.length : Int) := by rw [z1, hl]
          rw [hd]
          have hi : evI (callF code sub n) (.sq (.v 4)) [some (.d (dTs T)), some (.d (dW rs)), some (.loc m.length), some (.d (.int (q.2 : Int))), some (.d (dW q.1)), o5] (LL m (singles P ++ q.1 :: T.drop (pre.length + 1))) = .ok (.fx (pr.map .int ++ .int x :: po.map .int)) (LL m (singles P ++ q.1 :: T.drop (pre.length + 1))) := by
            simp only [evI, evE, getV, List.getElem?_cons_zero, List.getElem?_cons_succ, Res.of, Res.bind, seqD_t, Option.map, e4]
          have : evS (callF code sub n) sub (.for (.nm 5) (.sq (.v 4)) c14b0) [some (.d (dTs T)), some (.d (dW rs)), some (.loc m.length), some (.d (.int (q.2 : Int))), some (.d (dW q.1)), o5] (LL m (singles P ++ q.1 :: T.drop (pre.length + 1))) = .nx (envL (dTs T) (dW rs) m.length P.length (some (.d (dW q.1))) o5') (LL m (singles (P ++ [x]) ++ T.drop (pre.length + 1))) := by
            simp only [evS, hi, S.of]
            rw [i3]
            exact (forL_fx _ _ _ _ _).trans fe
          exact (evSs_nx this)
        · rw [hh, h3]
          simp
        · rcases List.mem_append.mp hp with hp | hp
          · exact hin p hp
          · simp at hp; subst hp; exact hx)
      (env := [some (.d (dTs T)), some (.d (dW rs)), some (.loc m.length), none, none, none]) (m := LL m T) ⟨[], rfl, rfl, rfl, feas_iff.mp fs, rok_nil rs, (fun _ h => nomatch h), none, none, none, rfl⟩
    have hz : (T.zipIdx).length = T.length := List.length_zipIdx
    rw [hz, List.drop_length] at hh
    rw [hz, List.drop_length, List.append_nil] at hf
    refine .inl ⟨P, ?_, by rw [hh]; rfl⟩
    have en : enumL 0 (T.map dW) = T.zipIdx.map fun q : List Int × Nat => .tuple [.int (q.2 : Int), dW q.1] := enum_map0 dW T
    have k0 : evL (callF code sub n) c14l0 [some (.d (dTs T)), some (.d (dW rs)), some (.loc m.length), o3, o4, o5] (LL m (singles P)) = .ok (P.map .int) (LL m (singles P)) := by
      have hi : evI (callF code sub n) (.sq (.v 2)) [some (.d (dTs T)), some (.d (dW rs)), some (.loc m.length), o3, o4, o5] (LL m (singles P)) = .ok (.lv m.length P.length) (LL m (singles P)) := by
        simp only [evI, evE, getV, List.getElem?_cons_zero, List.getElem?_cons_succ, Res.of, Res.bind, LL, mem_last, List.length_map, singles]
      refine (comp_src hi).trans ?_
      have hm : (LL m (singles P))[m.length]? = some (.lst (P.map fun p => .d (.tuple [.int p]))) := by
        rw [mem_last]
        unfold singles
        rw [List.map_map]
        rfl
      refine compL_lv_map (e := fun p : Int => .tuple [.int p]) (g := fun p => .int p) hm fun p _ => ?_
      have g0 : getIx (LL m (singles P)) (.d (.tuple [.int p])) (.int 0) = some (.d (.int p)) := get_t (k := 0) rfl _
      simp only [turnB, asgT, wipeE, evE, getV, List.set, List.getElem?_cons_zero, List.getElem?_cons_succ, Res.of, Res.bind, g0, truth_d, truD_b]
    have tk : (LL m (singles P)).take m.length = m := by simp [LL]
    have pl : decide (sPlan = sLot) = false := by decide +kernel
    have hb : (Fn.body c14) = .cons (.ex (.call 2 (.cons (.v 0) .nil))) (.cons (.ex (.call 3 (.cons (.v 0) (.cons (.v 1) .nil)))) (.cons (.ite (.b2 .eq (.ix (.call 7 (.cons (.v 0) (.cons (.v 1) .nil))) (.c (.int 0))) (.c (.str sLot))) (.cons (.rais 1 .nil) .nil) .nil) (.cons (.asg (.nm 2) (.ml (.lst (.v 0)))) (.cons (.for (.tup (.cons (.nm 3) (.cons (.nm 4) .nil))) (.en (.v 0)) c14b1) (.cons (.ret (.u1 .tuple (.fl c14l0))) .nil))))) := rfl
    rw [hb]
    have hlm : (List.map EV.d (T.map dW)) = T.map fun l => .d (dW l) := by rw [List.map_map]; rfl
    generalize hQ : dW P = Q at *
    have k1 : op1 .tuple (.list (P.map .int)) = some Q := by rw [← hQ]; rfl
    generalize P.map PyData.int = PZ at *
    simp only [List.map_cons, List.map_nil, List.replicate, c14, List.cons_append, List.nil_append, evSs, evS, evT, evE, evEs, getV, asgM, asgT, List.set, List.getElem?_cons_zero, List.getElem?_cons_succ, Res.of, Res.bind, S.of, S.opt, f1, f2, f3, g, view2_d, op2_eqS, pl, Option.map, truth_d, truD_b]
    simp only [evL, evI, evE, getV, List.getElem?_cons_zero, List.getElem?_cons_succ, Res.of, Res.bind, viewR_d, seqD_t, hlm, asgM, asgT, S.opt, List.set, S.of, Option.map, en]
    rw [show (Src.fx (T.zipIdx.map fun q : List Int × Nat => (.tuple [.int (q.2 : Int), dW q.1] : D))).len = (T.zipIdx.map fun q : List Int × Nat => (.tuple [.int (q.2 : Int), dW q.1] : D)).length from rfl]
    have hf2 := (forL_fx (.tup (.cons (.nm 3) (.cons (.nm 4) .nil))) (fun e2 m2 => evSs (callF code sub n) sub c14b1 e2 m2) (T.zipIdx.map fun q : List Int × Nat => (.tuple [.int (q.2 : Int), dW q.1] : D)) _ _).trans hf
    have hf3 : forL (.fx (T.zipIdx.map fun q : List Int × Nat => (.tuple [.int (q.2 : Int), dW q.1] : D))) (.tup (.cons (.nm 3) (.cons (.nm 4) .nil))) (fun e2 m2 => evSs (callF code sub n) sub c14b1 e2 m2) (T.zipIdx.map fun q : List Int × Nat => (.tuple [.int (q.2 : Int), dW q.1] : D)).length 0 [some (.d (dTs T)), some (.d (dW rs)), some (.loc m.length), none, none, none] (m ++ [.lst (T.map fun l => .d (dW l))]) = _ := hf2
    rw [hf3]
    simp only [k0, Res.bind, view1_d, k1, Option.map, Res.of, S.of, fin_rt, tk]
  · refine .inr ⟨?_, ?_⟩
    · by_cases q : ext rs [] T = []
      · exact q
      · exact absurd (feas_iff.mpr q) nf
    · have pl : decide (sLot = sLot) = true := by simp
      generalize dTs T = X at *
      generalize dW rs = Y at *
      simp [c14, evSs, evS, evT, evE, evEs, getV, f1, f2, f3, g, allD, fin]
end k60
end PV
end

section
set_option Elab.async false
set_option linter.all false
set_option maxRecDepth 100000
namespace PV
namespace k60
open PySem Mt
section
variable {sub : Nat → Nat → Bool}
/-! ### the law's placings -/
theorem step_len (rs : List Int) (l : List Int) : ∀ found : List (List Int), (stepF rs found l).length ≤ found.length * l.length
  | [] => by simp [stepF]
  | P :: found => by
    have h := step_len rs l found
    have h2 := List.length_filter_le (okP rs P) l
    unfold stepF at *
    rw [List.flatMap_cons, List.length_append, List.length_map, List.length_cons, Nat.add_mul, Nat.one_mul]
    omega
theorem step_mem {rs : List Int} {l : List Int} {found : List (List Int)} {k : Nat} (h : ∀ P ∈ found, P.length = k) : ∀ P ∈ stepF rs found l, P.length = k + 1 := fun P hP => by
  obtain ⟨Q, hQ, h2⟩ := List.mem_flatMap.mp hP
  obtain ⟨x, _, rfl⟩ := List.mem_map.mp h2
  rw [List.length_append, h Q hQ]
  rfl
abbrev dF (found : List (List Int)) : D := .list (found.map dW)
theorem placings {n : Nat} (hn : 1 ≤ n) {T : Ts} {rs : List Int} (h : Sm T rs) (m : Mem) : callF code sub n 19 [.d (dTs T), .d (dW rs)] m = .ok (.d (dF (ext rs [] T))) m := by
  obtain ⟨n, rfl⟩ : ∃ k, n = k + 1 := ⟨n - 1, by omega⟩
  rw [call_eq (fn := c19) rfl rfl]
  have turn : ∀ (l : List Int) (P : List Int), l ∈ T → P.length ≤ 100 → ∀ (a2 a4 a6 : Option EV), evL (callF code sub n) c19l0 [some (.d (dTs T)), some (.d (dW rs)), a2, some (.d (dW l)), a4, some (.d (dW P)), a6] m = .ok (((l.filter (okP rs P)).map fun x => P ++ [x]).map dW) m := by
    intro l P hl hP a2 a4 a6
    refine (comp_fx (xs := l.map .int) (m1 := m) (by simp only [evI, evE, getV, List.getElem?_cons_zero, List.getElem?_cons_succ, Res.of, Res.bind, seqD_t, Option.map])).trans ?_
    rw [List.map_map]
    refine compD_flt fun x hx => ?_
    have hr := h.tk.hr l hl x hx
    have g := get_z hr.1 hr.2 m
    have ad : op2 .add (dW P) (.tuple [.int x]) = some (dW (P ++ [x])) := by
      rw [op2_addT (by simp only [List.length_map, List.length_cons, List.length_nil]; unfold LIM; omega)]
      simp
    unfold okP
    cases hd : decide ((P.count x : Int) < room rs x) <;>
      simp only [turnB, asgT, wipeE, evE, evEs, getV, List.set, List.getElem?_cons_zero, List.getElem?_cons_succ, Res.of, Res.bind, intsD_map, g, view2_d, op2_lt, hd, Option.map, truth_d, truD_b, allD, ad, Function.comp, if_true, if_false, Bool.false_eq_true]
  have inner : ∀ (l : List Int) (found : List (List Int)), l ∈ T → (∀ P ∈ found, P.length ≤ 100) → found.length * l.length ≤ 100000 → ∀ (a2 a5 a6 : Option EV), ∃ b5 b6, forD (.nm 5) (fun e2 m2 => evSs (callF code sub n) sub c19b0 e2 m2) (found.map dW) [some (.d (dTs T)), some (.d (dW rs)), a2, some (.d (dW l)), some (.d (.list [])), a5, a6] m = .nx [some (.d (dTs T)), some (.d (dW rs)), a2, some (.d (dW l)), some (.d (dF (stepF rs found l))), b5, b6] m := by
    intro l found hl hP hlen a2 a5 a6
    obtain ⟨env', m', hf, rfl, b5, b6, rfl⟩ := forD_of (t := .nm 5) (b := fun e2 m2 => evSs (callF code sub n) sub c19b0 e2 m2) (e := dW) (l := found)
      (fun pre env' m' => m' = m ∧ ∃ b5 b6, env' = [some (.d (dTs T)), some (.d (dW rs)), a2, some (.d (dW l)), some (.d (dF (stepF rs pre l))), b5, b6]) (by
        rintro pre P post e env m' ⟨rfl, b5, b6, rfl⟩
        have t := turn l P hl (hP P (by rw [e]; simp)) a2 (some (.d (dF (stepF rs pre l)))) b6
        have st : stepF rs (pre ++ [P]) l = stepF rs pre l ++ (l.filter (okP rs P)).map fun x => P ++ [x] := by
          unfold stepF
          rw [List.flatMap_append]
          simp
        have b1 := step_len rs l (pre ++ [P])
        have b2 : (pre ++ [P]).length * l.length ≤ found.length * l.length := Nat.mul_le_mul_right _ (by rw [e]; simp)
        rw [st, List.length_append, List.length_map] at b1
        have ad : op2 .add (dF (stepF rs pre l)) (.list (((l.filter (okP rs P)).map fun x => P ++ [x]).map dW)) = some (dF (stepF rs (pre ++ [P]) l)) := by
          rw [st]
          exact addL_m (by rw [List.length_map]; unfold LIM; omega)
        refine ⟨_, rfl, [some (.d (dTs T)), some (.d (dW rs)), a2, some (.d (dW l)), some (.d (dF (stepF rs (pre ++ [P]) l))), some (.d (dW P)), b6], m', .inl ?_, rfl, _, _, rfl⟩
        generalize dF (stepF rs (pre ++ [P]) l) = Z at *
        simp only [c19b0, evSs, evS, evE, getV, asgM, asgT, List.set, List.getElem?_cons_zero, List.getElem?_cons_succ, Res.of, Res.bind, S.of, S.opt, t, view2_d, ad, Option.map])
      (env := [some (.d (dTs T)), some (.d (dW rs)), a2, some (.d (dW l)), some (.d (.list [])), a5, a6]) (m := m) ⟨rfl, a5, a6, rfl⟩
    exact ⟨b5, b6, hf⟩
  obtain ⟨env', m', hf, rfl, hlen, hmem, a3, a4, a5, a6, rfl⟩ := forD_of (t := .nm 3) (b := fun e2 m2 => evSs (callF code sub n) sub c19b1 e2 m2) (e := dW) (l := T)
    (fun pre env' m' => m' = m ∧ (pre.foldl (stepF rs) [[]]).length ≤ 4 ^ pre.length ∧ (∀ P ∈ pre.foldl (stepF rs) [[]], P.length = pre.length) ∧ ∃ a3 a4 a5 a6, env' = [some (.d (dTs T)), some (.d (dW rs)), some (.d (dF (pre.foldl (stepF rs) [[]]))), a3, a4, a5, a6]) (by
      rintro pre l post e env m' ⟨rfl, hlen, hmem, a3, a4, a5, a6, rfl⟩
      have hl : l ∈ T := by rw [e]; simp
      have l4 := h.four l hl
      have pl : pre.length + 1 ≤ 6 := by
        have := congrArg List.length e
        simp at this
        have := h.hi
        omega
      have p4 : 4 ^ pre.length ≤ 4 ^ 5 := Nat.pow_le_pow_right (by decide) (by omega)
      have mul : (pre.foldl (stepF rs) [[]]).length * l.length ≤ 4 ^ pre.length * 4 := Nat.mul_le_mul hlen l4
      obtain ⟨b5, b6, fe⟩ := inner l (pre.foldl (stepF rs) [[]]) hl (fun P hP => by have := hmem P hP; omega) (by omega) (some (.d (dF (pre.foldl (stepF rs) [[]])))) a5 a6
      have sn : (pre ++ [l]).foldl (stepF rs) [[]] = stepF rs (pre.foldl (stepF rs) [[]]) l := by rw [List.foldl_append]; rfl
      refine ⟨_, rfl, [some (.d (dTs T)), some (.d (dW rs)), some (.d (dF ((pre ++ [l]).foldl (stepF rs) [[]]))), some (.d (dW l)), some (.d (dF ((pre ++ [l]).foldl (stepF rs) [[]]))), b5, b6], m', .inl ?_, rfl, ?_, ?_, _, _, _, _, rfl⟩
      · rw [sn]
        have hi : ∀ (a2 a4 a5 a6 : Option EV) (xs : List D), a2 = some (.d (.list xs)) → evI (callF code sub n) (.sq (.v 2)) [some (.d (dTs T)), some (.d (dW rs)), a2, some (.d (dW l)), a4, a5, a6] m' = .ok (.fx xs) m' := by
          rintro a2 a4 a5 a6 xs rfl
          simp only [evI, evE, getV, List.getElem?_cons_zero, List.getElem?_cons_succ, Res.of, Res.bind, seqD_l, Option.map]
        have hi := hi (some (.d (dF (pre.foldl (stepF rs) [[]])))) (some (.d (.list []))) a5 a6 _ rfl
        generalize hG : dF (stepF rs (pre.foldl (stepF rs) [[]]) l) = G at *
        have vg : ∀ m, viewR m (.d G) = some G := fun m => rfl
        have sg : ∃ xs, G = .list xs := ⟨_, hG.symm⟩
        obtain ⟨xs, rfl⟩ := sg
        simp only [c19b1, evSs, evS, evE, evEs, evL, getV, asgM, asgT, List.set, List.getElem?_cons_zero, List.getElem?_cons_succ, Res.of, Res.bind, S.of, S.opt, allD, hi, forL_fx, fe, viewR_d, seqD_l]
      · rw [sn, List.length_append]
        have := step_len rs l (pre.foldl (stepF rs) [[]])
        rw [Nat.pow_add]
        simp
        omega
      · rw [sn, List.length_append]
        exact step_mem hmem)
    (env := [some (.d (dTs T)), some (.d (dW rs)), some (.d (dF [[]])), none, none, none, none]) (m := m) ⟨rfl, by simp, by simp, none, none, none, none, rfl⟩
  have fin : T.foldl (stepF rs) [[]] = ext rs [] T := by rw [fold_ext]; simp
  rw [fin] at hf
  have e0 : dF [[]] = .list [.tuple []] := rfl
  rw [e0] at hf
  generalize dF (ext rs [] T) = G at *
  simp only [c19, List.map_cons, List.map_nil, List.replicate, List.cons_append, List.nil_append, evSs, evS, evE, evEs, evL, evI, getV, asgM, asgT, List.set, List.getElem?_cons_zero, List.getElem?_cons_succ, Res.of, Res.bind, S.of, S.opt, allD, seqD_t, Option.map, forL_fx, hf, fin_rt, List.take_length]
theorem ne_dN (s : List Nat) : op2 .ne (.tuple (s.map dN)) (.tuple []) = some (.bool (!s.isEmpty)) := by
  rw [castN]
  have h0 : SeqAt.shaped (.tuple []) = true := rfl
  have e : eqD (.tuple ((s.map fun t : Nat => (t : Int)).map .int)) (.tuple []) = some s.isEmpty := by
    show (if SeqAt.shaped (.tuple ((s.map fun t : Nat => (t : Int)).map .int)) && SeqAt.shaped (.tuple []) then some (PyData.eqv (.tuple ((s.map fun t : Nat => (t : Int)).map .int)) (.tuple [])) else none) = _
    rw [shapedT, h0]
    cases s <;> rfl
  show (eqD _ (.tuple [])).map (fun k => PyData.bool (!k)) = _
  rw [e]
  rfl
theorem law_is_lot {n : Nat} (hn : 1 ≤ n) {T : Ts} {rs : List Int} (h : Tk T rs) {s : List Nat} (hs : TSet T s) (hl : (s.map (at' T)).flatten.length ≤ 63) (m : Mem) : callF code sub n 20 [.d (dTs T), .d (dW rs), .d (.tuple (s.map dN))] m = .ok (.d (.bool (isLotB T rs s))) m := by
  obtain ⟨n, rfl⟩ : ∃ k, n = k + 1 := ⟨n - 1, by omega⟩
  rw [call_eq (fn := c20) rfl rfl]
  obtain ⟨env', m', hf, rfl, a4, rfl⟩ := forD_of (t := .nm 4) (b := fun e2 m2 => evSs (callF code sub n) sub c20b0 e2 m2) (e := dN) (l := s)
    (fun pre env' m' => m' = m ∧ ∃ a4, env' = [some (.d (dTs T)), some (.d (dW rs)), some (.d (.tuple (s.map dN))), some (.d (.list ((pre.map (at' T)).flatten.map .int))), a4, none]) (by
      rintro pre t post e env m' ⟨rfl, a4, rfl⟩
      have ht := hs.lt t (by rw [e]; simp)
      have g := get_T ht m'
      have fl : ((pre ++ [t]).map (at' T)).flatten = (pre.map (at' T)).flatten ++ at' T t := by simp
      have len : (pre.map (at' T)).flatten.length + (at' T t).length ≤ 63 := by
        have e2 : (s.map (at' T)).flatten = (pre.map (at' T)).flatten ++ (at' T t ++ (post.map (at' T)).flatten) := by rw [e]; simp
        rw [e2, List.length_append, List.length_append] at hl
        omega
      have ad : op2 .add (.list ((pre.map (at' T)).flatten.map .int)) (.list ((at' T t).map .int)) = some (.list (((pre ++ [t]).map (at' T)).flatten.map .int)) := by
        rw [fl]
        exact addL_m (by unfold LIM; omega)
      refine ⟨_, rfl, [some (.d (dTs T)), some (.d (dW rs)), some (.d (.tuple (s.map dN))), some (.d (.list (((pre ++ [t]).map (at' T)).flatten.map .int))), some (.d (dN t)), none], m', .inl ?_, rfl, _, rfl⟩
      generalize PyData.list (((pre ++ [t]).map (at' T)).flatten.map .int) = Z at *
      generalize PyData.list ((pre.map (at' T)).flatten.map .int) = Y at *
      simp only [c20b0, evSs, evS, evE, evL, getV, asgM, asgT, List.set, List.getElem?_cons_zero, List.getElem?_cons_succ, Res.of, Res.bind, S.of, S.opt, g, viewR_d, seqD_t, view2_d, ad, Option.map])
    (env := [some (.d (dTs T)), some (.d (dW rs)), some (.d (.tuple (s.map dN))), some (.d (.list [])), none, none]) (m := m) ⟨rfl, none, rfl⟩
  have ss : sstV m' (.d (.list ((s.map (at' T)).flatten.map .int))) = some (hoursL T s) := by
    show sstU (intsD _) = _
    rw [intsD_map]
    exact sst_ok hl
  have k0 : evL (callF code sub n) c20l0 [some (.d (dTs T)), some (.d (dW rs)), some (.d (.tuple (s.map dN))), some (.d (.list ((s.map (at' T)).flatten.map .int))), a4, none] m' = .ok (((hoursL T s).map (room rs)).map .int) m' := by
    refine roomsL _ (it := .sst (.v 3)) (hs := hoursL T s) (fun z hz => hour_in h hz) _ m' 5 1 rfl ?_ rfl (by decide) (by simp)
    simp only [evE, getV, List.getElem?_cons_zero, List.getElem?_cons_succ, Res.of, Res.bind, ss, Option.map]
  have sm := op1_sumL ((hoursL T s).map (room rs))
  have ln : op1 .len (.tuple (s.map dN)) = some (.int (s.length : Int)) := by rw [op1_lenT, List.length_map]
  have ne := ne_dN s
  have hi : evI (callF code sub n) (.sq (.v 2)) [some (.d (dTs T)), some (.d (dW rs)), some (.d (.tuple (s.map dN))), some (.d (.list [])), none, none] m' = .ok (.fx (s.map dN)) m' := by
    simp only [evI, evE, getV, List.getElem?_cons_zero, List.getElem?_cons_succ, Res.of, Res.bind, seqD_t, Option.map]
  unfold isLotB
  generalize (hoursL T s).map (room rs) = R at *
  generalize PyData.list ((s.map (at' T)).flatten.map .int) = Y at *
  generalize PyData.tuple (s.map dN) = V at *
  cases hb : s.isEmpty
  · rw [hb] at ne
    simp only [c20, List.map_cons, List.map_nil, List.replicate, List.cons_append, List.nil_append, evSs, evS, evE, evEs, evL, getV, asgM, asgT, List.set, List.getElem?_cons_zero, List.getElem?_cons_succ, Res.of, Res.bind, S.of, S.opt, allD, hi, forL_fx, hf, view2_d, view1_d, ne, Option.map, truth_d, truD_b, Bool.not_false, k0, sm, ln, op2_lt, fin_rt, List.take_length, Bool.true_and]
  · rw [hb] at ne
    simp only [c20, List.map_cons, List.map_nil, List.replicate, List.cons_append, List.nil_append, evSs, evS, evE, evEs, evL, getV, asgM, asgT, List.set, List.getElem?_cons_zero, List.getElem?_cons_succ, Res.of, Res.bind, S.of, S.opt, allD, hi, forL_fx, hf, view2_d, view1_d, ne, Option.map, truth_d, truD_b, Bool.not_true, fin_rt, List.take_length, Bool.false_and]
theorem like {n : Nat} (hn : 1 ≤ n) (x : D) (h1 : good x = true) (h2 : x.depth ≤ 60) (h3 : sz x ≤ 8000) (m : Mem) : callF code sub n 21 [.d x, .d x] m = .ok (.d (.bool true)) m := by
  obtain ⟨n, rfl⟩ : ∃ k, n = k + 1 := ⟨n - 1, by omega⟩
  rw [call_eq (fn := c21) rfl rfl]
  simp [c21, evSs, evS, evE, getV, repr_some h1 h2 h3]
end
abbrev sIs : Str := Str.ofString "is"
abbrev sNone : Str := Str.ofString "none"
abbrev isD (P : List Int) : D := .tuple [.str sIs, dW P]
abbrev noneD : D := .tuple [.str sNone, .bool true]
theorem least_is {n : Nat} (hn : 5 ≤ n) {T : Ts} {rs P : List Int} (h : Tk T rs) (hP : (ext rs [] T).head? = some P) (m : Mem) : callF code k60.sub n 22 [.d (dTs T), .d (dW rs)] m = .ok (.d (isD P)) m := by
  obtain ⟨n, rfl⟩ : ∃ k, n = k + 1 := ⟨n - 1, by omega⟩
  rw [call_eq (fn := c22) rfl rfl]
  rcases least_placing (sub := k60.sub) (show 4 ≤ n by omega) h m with ⟨Q, e, q⟩ | ⟨e, _⟩
  · rw [q] at hP
    cases hP
    generalize dTs T = X at *
    generalize dW rs = Y at *
    show _ = Res.ok (EV.d (.tuple [.str sIs, dW P])) m
    generalize dW P = Z at *
    simp [c22, evSs, evS, evE, evEs, getV, asgM, asgT, e, allD]
  · rw [e] at hP
    cases hP
theorem least_no {n : Nat} (hn : 5 ≤ n) {T : Ts} {rs : List Int} (h : Tk T rs) (hP : ext rs [] T = []) (m : Mem) : callF code k60.sub n 22 [.d (dTs T), .d (dW rs)] m = .ok (.d noneD) m := by
  obtain ⟨n, rfl⟩ : ∃ k, n = k + 1 := ⟨n - 1, by omega⟩
  rw [call_eq (fn := c22) rfl rfl]
  rcases least_placing (sub := k60.sub) (show 4 ≤ n by omega) h m with ⟨Q, e, q⟩ | ⟨_, e⟩
  · rw [hP] at q
    cases q
  · generalize dTs T = X at *
    generalize dW rs = Y at *
    have hh : hv k60.sub 1 [] (.tup [(.c (.str sNone)), (.isE 0)]) = some noneD := by rfl
    have s11 : k60.sub 1 1 = true := rfl
    simp [c22, evSs, evS, evE, evEs, getV, asgM, asgT, e, catchE, s11, hh]
end k60
end PV
end

section
set_option Elab.async false
set_option linter.all false
set_option maxRecDepth 100000
namespace PV
namespace k60
open PySem Mt
/-! ### the law's judgement -/
theorem asgM_nm (m : Mem) (i : Nat) (v : EV) (env : Env) : asgM m (.nm i) v env = some (env.set i (some v)) := rfl
theorem op2_neS (i j : Str) : op2 .ne (.str i) (.str j) = some (.bool (!decide (i = j))) := rfl
theorem lay_dF : ∀ F : List (List Int), PyData.canLayAll0 (F.map dW) = true
  | [] => rfl
  | l :: T => by simp [PyData.canLayAll0, PyData.canLay0, lay_int, lay_dF T]
theorem depth_dF : ∀ F : List (List Int), PyData.depthAll (F.map dW) ≤ 1
  | [] => by simp [PyData.depthAll]
  | l :: T => by
    have := depth_dF T
    simp [PyData.depthAll, PyData.depth, depth_int]
    omega
theorem shaped_dF (F : List (List Int)) : SeqAt.shaped (dF F) = true := by
  have := depth_dF F
  simp [SeqAt.shaped, PyData.canLay0, lay_dF, PyData.depth]
  omega
theorem ne_dF (F : List (List Int)) : op2 .ne (dF F) (.list []) = some (.bool (!F.isEmpty)) := by
  have h0 : SeqAt.shaped (.list []) = true := rfl
  have e : eqD (dF F) (.list []) = some F.isEmpty := by
    show (if SeqAt.shaped (dF F) && SeqAt.shaped (.list []) then some (PyData.eqv (dF F) (.list [])) else none) = _
    rw [shaped_dF, h0]
    cases F <;> rfl
  show (eqD (dF F) (.list [])).map (fun k => PyData.bool (!k)) = _
  rw [e]
  rfl
theorem eqvW (a b : List Int) : PyData.eqv (dW a) (dW b) = decide (a = b) := by
  show PyData.eqvAll (a.map .int) (b.map .int) = _
  exact eqvI a b
theorem nin_dF (A : List Int) (F : List (List Int)) : op2 .nin (dW A) (dF F) = some (.bool (!decide (A ∈ F))) := by
  show ((if SeqAt.shaped (dW A) && SeqAt.shaped (dF F) then some ((F.map dW).any fun z => PyData.eqv z (dW A)) else none).map fun k => PyData.bool (!k)) = _
  rw [shapedT, shaped_dF]
  have : ((F.map dW).any fun z => PyData.eqv z (dW A)) = decide (A ∈ F) := by
    rw [List.any_map, Bool.eq_iff_iff, List.any_eq_true, decide_eq_true_eq]
    constructor
    · rintro ⟨z, hz, e⟩
      have e : PyData.eqv (dW z) (dW A) = true := e
      rw [eqvW] at e
      rw [← of_decide_eq_true e]
      exact hz
    · intro h
      exact ⟨A, h, by show PyData.eqv (dW A) (dW A) = true; rw [eqvW]; simp⟩
  rw [this]
  rfl
theorem lot_few {T : Ts} {rs : List Int} (h : Sm T rs) {L : List Nat} (hL : Lot T rs L) : L.length ≤ 6 ∧ (L.map (at' T)).flatten.length ≤ 24 := by
  have h1 : L.length ≤ (List.range T.length).length := nodup_sub (hL.asc.imp fun q => Nat.ne_of_lt q) fun t ht => List.mem_range.mpr (hL.lt t ht)
  rw [List.length_range] at h1
  have := h.hi
  refine ⟨by omega, ?_⟩
  have h2 := flat_few (T := L.map (at' T)) (c := 4) fun l hl => h.four l (mem_at hL.lt hl)
  rw [List.length_map] at h2
  omega
theorem good_W (P : List Int) (h : ∀ i ∈ P, 0 ≤ i ∧ i < 100) : good (dW P) = true := by
  unfold dW good
  exact good_ints fun i hi => by have := h i hi; omega
theorem right {n : Nat} (hn : 6 ≤ n) {T : Ts} {rs : List Int} (h : Sm T rs) (m : Mem) : callF code k60.sub n 23 [.d (dTs T), .d (dW rs)] m = .ok (.d (.bool true)) m := by
  obtain ⟨n, rfl⟩ : ∃ k, n = k + 1 := ⟨n - 1, by omega⟩
  rw [call_eq (fn := c23) rfl rfl]
  have f1 := fun m => placings (sub := k60.sub) (show 1 ≤ n by omega) h m
  have ne := ne_dF (ext rs [] T)
  rcases matching (sub := k60.sub) (show 4 ≤ n by omega) h.tk m with ⟨A, f2, hA, hl⟩ | ⟨L, f2, hL⟩
  · have hm : A ∈ ext rs [] T := placing_mem.mpr ⟨hA, hl⟩
    cases hx : ext rs [] T with
    | nil => rw [hx] at hm; cases hm
    | cons P F =>
      have f3 := fun m => is_placing (sub := k60.sub) (show 4 ≤ n by omega) h.tk hA hl m
      have f4 := fun m => least_is (show 5 ≤ n by omega) h.tk (P := P) (by rw [hx]; rfl) m
      have hP : Plc T rs P ∧ P.length = T.length := placing_mem.mp (by rw [hx]; simp)
      have inr : ∀ x ∈ P, 0 ≤ x ∧ x < 100 := fun x hx => by
        obtain ⟨i, hi⟩ := List.mem_iff_getElem?.mp hx
        have h1 := hP.1.mem i x hi
        have h2 := h.tk.hr _ (at_mem h1).2 x h1
        have := h.rhi
        omega
      have f5 := fun m => like (sub := k60.sub) (show 1 ≤ n by omega) (isD P) (by
          show goodAll [.str sIs, dW P] = true
          have := good_W P inr
          have h0 : good (.str sIs) = true := by decide +kernel
          simp only [goodAll, h0, this]
          rfl) (by simp [PyData.depth, PyData.depthAll, depth_int]) (by
          have := sz_ints P
          have h6 := h.hi
          simp [sz, szAll, this]
          omega) m
      have nin := nin_dF A (ext rs [] T)
      rw [decide_eq_true hm] at nin
      have g0 : ∀ m, getIx m (.d (dF (ext rs [] T))) (.int 0) = some (.d (dW P)) := fun m => get_l (k := 0) (by rw [hx]; rfl) m
      have as1 : ∀ a0 a1 a2 a5, asgM m (.tup (.cons (.nm 3) (.cons (.nm 4) .nil))) (.d (planD A)) [a0, a1, a2, none, none, a5] = some [a0, a1, a2, some (.d (.str sPlan)), some (.d (dW A)), a5] := fun a0 a1 a2 a5 => rfl
      have pp := op2_neS sPlan sPlan
      rw [decide_eq_true rfl] at pp
      have b1 : isBD true (.bool true) = true := rfl
      have ee : (ext rs [] T).isEmpty = false := by rw [hx]; rfl
      rw [ee] at ne
      have fd : isD P = .tuple [.str sIs, dW P] := rfl
      rw [fd] at f4 f5
      generalize dF (ext rs [] T) = G at *
      generalize dTs T = X at *
      generalize dW rs = Y at *
      generalize planD A = PA at *
      generalize dW A = Z at *
      generalize dW P = U at *
      simp only [c23, List.map_cons, List.map_nil, List.replicate, List.cons_append, List.nil_append, evSs, evS, evT, evE, evEs, evL, getV, asgM_nm, List.set, List.getElem?_cons_zero, List.getElem?_cons_succ, Res.of, Res.bind, S.of, S.opt, allD, f1, f2, as1, view2_d, view_d, ne, Option.map, truth_d, truD_b, Bool.not_false, Bool.not_true, pp, nin, f3, b1, if_true, f4, g0, f5, fin_rt, List.take_length]
  · have hx : ext rs [] T = [] := by
      cases q : ext rs [] T with
      | nil => rfl
      | cons P F =>
        have hP : Plc T rs P ∧ P.length = T.length := placing_mem.mp (by rw [q]; simp)
        exact absurd (hL.none h.tk hP.1 hP.2) (fun h => h)
    obtain ⟨l6, fl⟩ := lot_few h hL
    have ts : TSet T L := ⟨hL.asc, hL.lt⟩
    have f3 := fun m => law_is_lot (sub := k60.sub) (show 1 ≤ n by omega) h.tk ts (by omega) m
    have f4 := fun m => is_lot (sub := k60.sub) (show 4 ≤ n by omega) h.tk ts (by omega) m
    rw [(lot_iff ts).mpr hL] at f3 f4
    have f5 := fun m => least_no (show 5 ≤ n by omega) h.tk hx m
    have f6 := fun m => like (sub := k60.sub) (show 1 ≤ n by omega) noneD (by decide +kernel) (by decide +kernel) (by decide +kernel) m
    have as1 : ∀ a0 a1 a2 a5, asgM m (.tup (.cons (.nm 3) (.cons (.nm 4) .nil))) (.d (lotD L)) [a0, a1, a2, none, none, a5] = some [a0, a1, a2, some (.d (.str sLot)), some (.d (.tuple (L.map dN))), a5] := fun a0 a1 a2 a5 => rfl
    have pp := op2_neS sLot sLot
    rw [decide_eq_true rfl] at pp
    rw [hx] at f1
    have f1 : ∀ m, callF code k60.sub n 19 [.d (dTs T), .d (dW rs)] m = .ok (.d (.list [])) m := f1
    have ne : op2 .ne (.list []) (.list []) = some (.bool false) := rfl
    have sv : ∀ m, sstV m (.d (.tuple (L.map dN))) = some (L.map fun t : Nat => (t : Int)) := fun m => by
      show sstU (intsD _) = _
      rw [castN, intsD_map, sst_ok (by rw [List.length_map]; omega)]
      congr 1
      exact (sortU_uniq (List.pairwise_map.mpr (hL.asc.imp fun q => by omega)) fun k => Iff.rfl).symm
    have q1 : op2 .ne (.list (L.map dN)) (.list ((L.map fun t : Nat => (t : Int)).map .int)) = some (.bool false) := by
      rw [castN, op_neL]
      simp
    have k0 : evL (callF code k60.sub n) c23l0 [some (.d (dTs T)), some (.d (dW rs)), some (.d (.list [])), some (.d (.str sLot)), some (.d (.tuple (L.map dN))), none] m = .ok [] m := by
      refine (comp_fx (xs := L.map dN) (m1 := m) (by simp only [evI, evE, getV, List.getElem?_cons_zero, List.getElem?_cons_succ, Res.of, Res.bind, seqD_t, Option.map])).trans ?_
      refine none_left fun x hx => ?_
      obtain ⟨t, ht, rfl⟩ := List.mem_map.mp hx
      have := hL.lt t ht
      have ln : op1 .len (dTs T) = some (.int (T.length : Int)) := by rw [op1_lenT, List.length_map]
      generalize dTs T = X at *
      simp [turnB, asgT, wipeE, evE, getV, ln, this]
    have vL : ∀ m, viewR m (.d (.tuple (L.map dN))) = some (.tuple (L.map dN)) := fun m => rfl
    have sL : seqD (.tuple (L.map dN)) = some (L.map dN) := rfl
    have i2 : isiD 2 (.tuple (L.map dN)) = true := rfl
    have fd : noneD = .tuple [.str sNone, .bool true] := rfl
    rw [fd] at f5 f6
    generalize dTs T = X at *
    generalize dW rs = Y at *
    generalize lotD L = PA at *
    generalize PyData.tuple (L.map dN) = Z at *
    generalize L.map dN = Ld at *
    simp only [c23, List.map_cons, List.map_nil, List.replicate, List.cons_append, List.nil_append, evSs, evS, evT, evE, evEs, evL, getV, asgM_nm, List.set, List.getElem?_cons_zero, List.getElem?_cons_succ, Res.of, Res.bind, S.of, S.opt, allD, f1, f2, as1, view2_d, view1_d, view_d, ne, Option.map, truth_d, truD_b, Bool.not_false, Bool.not_true, pp, i2, op1_not, vL, sL, sv, q1, k0, f3, f4, isBD, decide_true, if_true, f5, f6, fin_rt, List.take_length]
end k60
end PV
end

section
set_option Elab.async false
set_option linter.all false
set_option maxRecDepth 100000
namespace PV
namespace k60
open PySem Mt
variable {sub : Nat → Nat → Bool}
/-! ### less -/
theorem draw0 {n : Nat} (hn : 2 ≤ n) (d : DS) (hd : d.Ok) (ha : d.at' < 2 ^ 40) (lim : Int) (h1 : 0 < lim) (h2 : lim < 2 ^ 200) : ∃ (r : Int) (d' : DS), callF code sub n 17 [.loc 1, .d (.int lim)] d.mem = .ok (.d (.int r)) d'.mem ∧ 0 ≤ r ∧ r < lim ∧ d'.Ok ∧ d'.at' = d.at' + 1 := by
  have := draw (sub := sub) hn d hd ha lim h1 h2 []
  rw [List.append_nil] at this
  obtain ⟨r, d', e, q⟩ := this
  rw [List.append_nil] at e
  exact ⟨r, d', e, q⟩
theorem room_set (rs : List Int) (s : Nat) (v : Int) (hs : s < rs.length) (x : Int) : room (rs.set s v) x = if x.toNat = s then v else room rs x := by
  unfold room
  rw [List.getD_eq_getElem?_getD, List.getD_eq_getElem?_getD]
  by_cases h : x.toNat = s
  · rw [if_pos h, h, List.getElem?_set_self hs]
    rfl
  · rw [if_neg h, List.getElem?_set_ne (fun e => h e.symm)]
theorem take_len (d d' : DS) : d'.mem.take d.mem.length = d'.mem := by
  have := take_mem d d' []
  rw [List.append_nil, List.append_nil] at this
  exact this
theorem less {n : Nat} (hn : 3 ≤ n) {T : Ts} {rs : List Int} (h : Sm T rs) (h5 : T.length ≤ 5) (d : DS) (hd : d.Ok) (ha : d.at' < 2 ^ 30) : ∃ (T' : Ts) (rs' : List Int) (d' : DS), callF code sub n 24 [.loc 1, .d (dTs T), .d (dW rs)] d.mem = .ok (.d (.tuple [dTs T', dW rs'])) d'.mem ∧ Sm T' rs' ∧ (Feas T' rs' → Feas T rs) ∧ d'.Ok ∧ d'.at' ≤ d.at' + 2 := by
  obtain ⟨n, rfl⟩ : ∃ k, n = k + 1 := ⟨n - 1, by omega⟩
  rw [call_eq (fn := c24) rfl rfl]
  obtain ⟨r, d1, e1, r0, r1, k1, j1⟩ := draw0 (sub := sub) (show 2 ≤ n by omega) d hd (by omega) 2 (by decide) (by decide)
  have tk := h.tk
  by_cases hr : r = 0
  · subst hr
    have lo := tk.rlo
    have hi4 := h.rhi
    obtain ⟨s, d2, e2, s0, s1, k2, j2⟩ := draw0 (sub := sub) (show 2 ≤ n by omega) d1 k1 (by omega) (rs.length : Int) (by omega) (by omega)
    obtain ⟨t, rfl⟩ := Int.eq_ofNat_of_zero_le s0
    have ht : t < rs.length := by omega
    have hv := h.rall _ (List.getElem_mem ht)
    refine ⟨T, rs.set t (max 0 (rs[t] - 1)), d2, ?_, ⟨⟨tk.lo, tk.hi, tk.few, tk.asc, by rw [List.length_set]; exact tk.hr, by rw [List.length_set]; exact lo, by rw [List.length_set]; exact tk.rhi, fun z hz => ?_⟩, h.hi, h.four, by rw [List.length_set]; exact hi4, fun z hz => ?_⟩, ?_, k2, by omega⟩
    · have ln : op1 .len (dW rs) = some (.int (rs.length : Int)) := by rw [op1_lenT, List.length_map]
      have g : ∀ m, getIx m (.d (dW rs)) (.int (t : Int)) = some (.d (.int rs[t])) := fun m => get_i (List.getElem?_eq_getElem ht) m
      have c1 : cutD (dW rs) none (some (t : Int)) = some (dW (rs.take t)) := sl_hi (e := PyData.int) (by omega)
      have c2 : cutD (dW rs) (some ((t : Int) + 1)) none = some (dW (rs.drop (t + 1))) := by
        rw [show ((t : Int) + 1) = ((t + 1 : Nat) : Int) by omega]
        exact sl_lo (e := PyData.int) (by omega)
      have a1 : op2 .add (dW (rs.take t)) (.tuple [.int (max 0 (rs[t] - 1))]) = some (dW (rs.take t ++ [max 0 (rs[t] - 1)])) := by
        rw [op2_addT (by simp only [List.length_map, List.length_take, List.length_cons, List.length_nil]; unfold LIM; omega)]
        simp
      have a2 : op2 .add (dW (rs.take t ++ [max 0 (rs[t] - 1)])) (dW (rs.drop (t + 1))) = some (dW (rs.set t (max 0 (rs[t] - 1)))) := by
        have e : rs.set t (max 0 (rs[t] - 1)) = (rs.take t ++ [max 0 (rs[t] - 1)]) ++ rs.drop (t + 1) := by
          rw [List.set_eq_take_append_cons_drop, if_pos ht]
          simp
        rw [e]
        exact addT_m (by simp only [List.length_append, List.length_take, List.length_drop, List.length_cons, List.length_nil]; unfold LIM; omega)
      have tk2 := take_len d d2
      generalize dW (rs.take t ++ [max 0 (rs[t] - 1)]) = Q1 at *
      generalize dW (rs.set t (max 0 (rs[t] - 1))) = Q2 at *
      generalize dW (rs.take t) = Q3 at *
      generalize dW (rs.drop (t + 1)) = Q4 at *
      generalize dTs T = X at *
      generalize dW rs = Y at *
      simp only [c24, List.map_cons, List.map_nil, List.replicate, List.cons_append, List.nil_append, evSs, evS, evT, evE, evEs, getV, asgM, asgT, List.set, List.getElem?_cons_zero, List.getElem?_cons_succ, Res.of, Res.bind, S.of, S.opt, e1, view2_d, op2_eq, decide_true, Option.map, truth_d, truD_b, view1_d, ln, e2, view_d, c1, g, op2_sub, a1, op2_add, c2, a2, allD, Bool.false_eq_true, if_true, fin_rt, tk2]
    · rcases List.mem_or_eq_of_mem_set hz with hz | rfl
      · exact tk.rall z hz
      · omega
    · rcases List.mem_or_eq_of_mem_set hz with hz | rfl
      · exact h.rall z hz
      · omega
    · rintro ⟨B, hB, hl⟩
      refine ⟨B, ⟨hB.mem, fun x hx => Int.le_trans (hB.room x hx) ?_⟩, hl⟩
      rw [room_set _ _ _ ht]
      split
      · rename_i q
        have : room rs x = rs[t] := by
          unfold room
          rw [List.getD_eq_getElem?_getD, q, List.getElem?_eq_getElem ht]
          rfl
        omega
      · exact Int.le_refl _
  · have lo := tk.lo
    obtain ⟨s, d2, e2, s0, s1, k2, j2⟩ := draw0 (sub := sub) (show 2 ≤ n by omega) d1 k1 (by omega) (T.length : Int) (by omega) (by omega)
    obtain ⟨t, rfl⟩ := Int.eq_ofNat_of_zero_le s0
    have ht : t < T.length := by omega
    have hin : at' T t ∈ T := List.mem_of_getElem? (at_lt ht)
    have all : ∀ l ∈ T ++ [at' T t], l ∈ T := fun l hl => by
      rcases List.mem_append.mp hl with hl | hl
      · exact hl
      · simp at hl; subst hl; exact hin
    refine ⟨T ++ [at' T t], rs, d2, ?_, ⟨⟨by simp, by rw [List.length_append]; simp; omega, fun l hl => tk.few l (all l hl), fun l hl => tk.asc l (all l hl), fun l hl => tk.hr l (all l hl), tk.rlo, tk.rhi, tk.rall⟩, by rw [List.length_append]; simp; omega, fun l hl => h.four l (all l hl), h.rhi, h.rall⟩, ?_, k2, by omega⟩
    · have ln : op1 .len (dTs T) = some (.int (T.length : Int)) := by rw [op1_lenT, List.length_map]
      have g := fun m => get_T ht m
      have ad : op2 .add (dTs T) (.tuple [dW (at' T t)]) = some (dTs (T ++ [at' T t])) := by
        show op2 .add (.tuple (T.map dW)) (.tuple [dW (at' T t)]) = _
        rw [op2_addT (by simp only [List.length_map, List.length_cons, List.length_nil]; unfold LIM; omega)]
        simp
      have tk2 := take_len d d2
      generalize dTs (T ++ [at' T t]) = Q1 at *
      generalize dW (at' T t) = Q2 at *
      generalize dTs T = X at *
      generalize dW rs = Y at *
      simp only [c24, List.map_cons, List.map_nil, List.replicate, List.cons_append, List.nil_append, evSs, evS, evT, evE, evEs, getV, asgM, asgT, List.set, List.getElem?_cons_zero, List.getElem?_cons_succ, Res.of, Res.bind, S.of, S.opt, e1, view2_d, op2_eq, hr, decide_false, Option.map, truth_d, truD_b, view1_d, ln, e2, view_d, g, ad, allD, fin_rt, tk2]
    · rintro ⟨B, hB, hl⟩
      rw [List.length_append] at hl
      simp at hl
      refine ⟨B.take T.length, ⟨fun i x hx => ?_, fun x hx => ?_⟩, by rw [List.length_take]; omega⟩
      · by_cases lt : i < T.length
        · rw [List.getElem?_take_of_lt lt] at hx
          have := hB.mem i x hx
          unfold at' at this ⊢
          rw [List.getD_eq_getElem?_getD, List.getElem?_append_left lt] at this
          rw [List.getD_eq_getElem?_getD]
          exact this
        · rw [List.getElem?_eq_none (by rw [List.length_take]; omega)] at hx
          cases hx
      · have h1 : (B.take T.length).count x ≤ B.count x := (List.take_sublist _ _).count_le _
        have := hB.room x (List.mem_of_mem_take hx)
        omega
end k60
end PV
end

section
set_option Elab.async false
set_option linter.all false
set_option maxRecDepth 100000
namespace PV
namespace k60
open PySem
/-! ### by hand -/
def tl : Sts := (.cons (.asg (.nm 3) (.tup (.cons (.tup (.cons (.c (.int 0)) (.cons (.c (.int 1)) .nil))) (.cons (.tup (.cons (.c (.int 0)) (.cons (.c (.int 1)) .nil))) (.cons (.tup (.cons (.c (.int 0)) (.cons (.c (.int 1)) .nil))) (.cons (.tup (.cons (.c (.int 1)) (.cons (.c (.int 2)) .nil))) (.cons (.tup (.cons (.c (.int 2)) .nil)) .nil)))))))
    (.cons (.asg (.nm 4) (.fl (.dis (.cons (.ix (.callk 11 .nil (.cons (.tup (.cons (.c (.int 1)) (.cons (.c (.int 1)) (.cons (.c (.int 1)) .nil)))) (.cons (.v 3) .nil)) [1, 0]) (.c (.int 0))) (.cons (.callk 13 .nil (.cons (.tup (.cons (.c (.int 0)) (.cons (.c (.int 1)) (.cons (.c (.int 2)) .nil)))) (.cons (.v 3) (.cons (.tup (.cons (.c (.int 1)) (.cons (.c (.int 1)) (.cons (.c (.int 1)) .nil)))) .nil))) [1, 2, 0]) .nil)))))
    (.cons (.asg (.nm 4) (.b2 .add (.v 4) (.fl (.dis (.cons (.call 11 (.cons (.tup (.cons (.tup .nil) .nil)) (.cons (.tup (.cons (.c (.int 3)) .nil)) .nil))) (.cons (.call 13 (.cons (.tup (.cons (.tup .nil) .nil)) (.cons (.tup (.cons (.c (.int 3)) .nil)) (.cons (.tup (.cons (.c (.int 0)) .nil)) .nil)))) (.cons (.call 11 (.cons (.tup (.cons (.tup (.cons (.c (.int 0)) .nil)) (.cons (.tup (.cons (.c (.int 0)) .nil)) .nil))) (.cons (.tup (.cons (.c (.int 2)) .nil)) .nil))) .nil)))))))
    (.cons (.ret (.call 21 (.cons (.v 4) (.cons (.fl (.dis (.cons (.c (.str (Str.ofString "lot"))) (.cons (.c (.bool true)) (.cons (.tup (.cons (.c (.str (Str.ofString "lot"))) (.cons (.tup (.cons (.c (.int 0)) .nil)) .nil))) (.cons (.c (.bool true)) (.cons (.tup (.cons (.c (.str (Str.ofString "plan"))) (.cons (.tup (.cons (.c (.int 0)) (.cons (.c (.int 0)) .nil))) .nil))) .nil))))))) .nil))))
    .nil))))
theorem c26_is : c26.body = (.cons (.asg (.nm 1) (.call 16 (.cons (.v 0) .nil)))
    (.cons (.for (.nm 2) (.rng1 (.c (.int 4))) c26b0)
    (.cons (.asg (.tup (.cons (.nm 5) (.cons (.nm 6) .nil))) (.call 25 (.cons (.v 1) .nil)))
    (.cons (.asg (.tup (.cons (.nm 7) (.cons (.nm 8) .nil))) (.call 11 (.cons (.v 5) (.cons (.v 6) .nil))))
    (.cons (.ite (.or (.b2 .ne (.v 7) (.c (.str (Str.ofString "plan")))) (.b2 .ne (.lns (.v 8)) (.c (.int 60)))) (.cons (.ret (.c (.bool false)))
    .nil) .nil)
    (.cons (.ite (.b2 .ne (.fl c26l0) (.fl (.dis .nil))) (.cons (.ret (.c (.bool false)))
    .nil) .nil)
    tl)))))) := rfl
theorem tl_ok (x y : MO) (a0 a2 a3 a4 a5 a6 a7 a8 a9 a10 a11 a12 : Option EV) : fin 0 (evSs (callF code k60.sub 59) k60.sub tl [a0, some (.loc 1), a2, a3, a4, a5, a6, a7, a8, a9, a10, a11, a12] [x, y]) = .ok (.d (.bool true)) [] := by kernel_rfl
end k60
end PV
end

section
set_option Elab.async false
set_option linter.all false
set_option maxRecDepth 100000
namespace PV
namespace k60
open PySem Mt
variable {sub : Nat → Nat → Bool}
/-! ### hidden placings -/
theorem three_drawn (n : Nat) (hn : 2 ≤ n) (d : DS) (hd : d.Ok) (ha : d.at' < 2 ^ 20) (a1 a2 a3 a4 a5 a6 : Option EV) : ∃ (w : List Int) (d' : DS), evL (callF code sub n) c25l0 [some (.loc 1), a1, a2, a3, a4, a5, a6] d.mem = .ok (w.map .int) d'.mem ∧ w.length = 3 ∧ (∀ z ∈ w, 0 ≤ z ∧ z < 100) ∧ d'.Ok ∧ d'.at' ≤ d.at' + 3 := by
  have hi : evI (callF code sub n) (.rng1 (.c (.int 3))) [some (.loc 1), a1, a2, a3, a4, a5, a6] d.mem = .ok (.fx (((List.range 3).map fun (i : Nat) => (i : Int)).map .int)) d.mem := by
    rw [← rangeI]
    exact rng1_ok rfl (by omega) (by unfold LIM; omega)
  have dl := drawL (rest := []) (c := 1) (B := 2 ^ 30) (P := fun _ i => 0 ≤ i ∧ i < 100) (bd := turnB (.nm 6) (wipeE [some (.loc 1), a1, a2, a3, a4, a5, a6] [6]) (fun e2 m2 => evE (callF code sub n) (.c (.bool true)) e2 m2) (fun e2 m2 => evE (callF code sub n) (.call 17 (.cons (.v 0) (.cons (.c (.int 100)) .nil))) e2 m2)) (xs := ((List.range 3).map fun (i : Nat) => (i : Int)).map .int) (fun x hx d hd ha => by
      obtain ⟨r, d1, e1, r1, r2, k1, l1⟩ := draw (sub := sub) hn d hd (by omega) 100 (by decide) (by decide) []
      refine ⟨r, d1, ?_, ⟨by omega, by omega⟩, k1, by omega⟩
      simp only [turnB, asgT, wipeE, evE, evEs, getV, List.set, List.getElem?_cons_zero, List.getElem?_cons_succ, Res.of, Res.bind, truth_d, truD_b, e1]) d hd (by rw [List.length_map, List.length_map, List.length_range]; omega)
  rw [List.append_nil] at dl
  obtain ⟨w, d', h1, h2, h3, h4, h5⟩ := dl
  rw [List.append_nil] at h1
  rw [List.length_map, List.length_map, List.length_range] at h2 h5
  refine ⟨w, d', (comp_fx hi).trans h1, h2, fun z hz => ?_, h4, by omega⟩
  obtain ⟨j, hj, e⟩ := List.getElem_of_mem hz
  have hjk : j < 3 := by rw [← h2]; exact hj
  exact h3 j (.int (j : Int)) z (by simp [hjk]) (by rw [List.getElem?_eq_getElem hj, e])
structure Hid (sh st : Int) (T : Ts) : Prop where
  own : ∀ (i : Nat) (l : List Int), T[i]? = some l → (sh + st * i) % 100 ∈ l
  few : ∀ l ∈ T, l.length ≤ 4
  asc : ∀ l ∈ T, l.Pairwise (· < ·)
  all : ∀ l ∈ T, ∀ z ∈ l, 0 ≤ z ∧ z < 100
abbrev ones : List Int := List.replicate 100 1
theorem hidden {n : Nat} (hn : 3 ≤ n) (d : DS) (hd : d.Ok) (ha : d.at' < 2 ^ 18) : ∃ (sh st : Int) (T : Ts) (d' : DS), callF code sub n 25 [.loc 1] d.mem = .ok (.d (.tuple [dTs T, dW ones])) d'.mem ∧ (st = 1 ∨ st = 3 ∨ st = 7 ∨ st = 9) ∧ T.length = 60 ∧ Hid sh st T := by
  obtain ⟨n, rfl⟩ : ∃ k, n = k + 1 := ⟨n - 1, by omega⟩
  rw [call_eq (fn := c25) rfl rfl]
  obtain ⟨sh, d1, e1, w0, w1, o1, t1⟩ := draw0 (sub := sub) (show 2 ≤ n by omega) d hd (by omega) 100 (by decide) (by decide)
  obtain ⟨q, d2, e2, q0, q1, o2, t2⟩ := draw0 (sub := sub) (show 2 ≤ n by omega) d1 o1 (by omega) 4 (by decide) (by decide)
  obtain ⟨st, hst, gst⟩ : ∃ st : Int, (st = 1 ∨ st = 3 ∨ st = 7 ∨ st = 9) ∧ ∀ m, getIx m (.d (.list [.int 1, .int 3, .int 7, .int 9])) (.int q) = some (.d (.int st)) := by
    have : q = 0 ∨ q = 1 ∨ q = 2 ∨ q = 3 := by omega
    rcases this with rfl | rfl | rfl | rfl
    · exact ⟨1, by simp, fun m => get_l (k := 0) rfl m⟩
    · exact ⟨3, by simp, fun m => get_l (k := 1) rfl m⟩
    · exact ⟨7, by simp, fun m => get_l (k := 2) rfl m⟩
    · exact ⟨9, by simp, fun m => get_l (k := 3) rfl m⟩
  obtain ⟨env', m', hf, T, d4, rfl, hl, hT, o4, t4, a2, a5, rfl⟩ := forD_of (t := .nm 2) (b := fun e2 m2 => evSs (callF code sub n) sub c25b0 e2 m2) (e := fun i : Nat => .int (i : Int)) (l := List.range 60)
    (fun pre env' m' => ∃ (T : Ts) (d4 : DS), m' = d4.mem ∧ T.length = pre.length ∧ Hid sh st T ∧ d4.Ok ∧ d4.at' ≤ d2.at' + 3 * pre.length ∧ ∃ a2 a5, env' = [some (.loc 1), some (.d (dTs T)), a2, some (.d (.int sh)), some (.d (.int st)), a5, none]) (by
      rintro pre i post e env m ⟨T, d4, rfl, hl, hT, o4, t4, a2, a5, rfl⟩
      have hp : pre.length + 1 ≤ 60 ∧ i = pre.length := by
        have h1 := congrArg List.length e
        simp at h1
        have h2 : (List.range 60)[pre.length]? = some i := by rw [e]; simp
        rw [List.getElem?_range (by omega)] at h2
        exact ⟨by omega, (Option.some.inj h2).symm⟩
      obtain ⟨w, d5, e5, wl, w5, o5, t5⟩ := three_drawn (sub := sub) n (by omega) d4 o4 (by omega) (some (.d (dTs T))) (some (.d (.int (i : Int)))) (some (.d (.int sh))) (some (.d (.int st))) a5 none
      have m1 : op2 .mul (.int st) (.int (i : Int)) = some (.int (st * i)) := op2_mul (mulOk_l (by omega))
      have m2 : op2 .mod (.int (sh + st * i)) (.int 100) = some (.int ((sh + st * i) % 100)) := op2_mod (by decide)
      have m3 : op2 .add (.list [.int ((sh + st * i) % 100)]) (.list (w.map .int)) = some (.list (((sh + st * i) % 100 :: w).map .int)) := by
        rw [op2_addL (by simp only [List.length_map, List.length_cons, List.length_nil]; unfold LIM; omega)]
        rfl
      have ss : ∀ m, sstV m (.d (.list (((sh + st * i) % 100 :: w).map .int))) = some (sortU ((sh + st * i) % 100 :: w)) := fun m => by
        show sstU (intsD _) = _
        rw [intsD_map]
        exact sst_ok (by rw [List.length_cons]; omega)
      have had : op2 .add (dTs T) (.tuple [.tuple ((sortU ((sh + st * i) % 100 :: w)).map .int)]) = some (dTs (T ++ [sortU ((sh + st * i) % 100 :: w)])) := by
        show op2 .add (.tuple (T.map dW)) (.tuple [.tuple _]) = _
        rw [op2_addT (by simp only [List.length_map, List.length_cons, List.length_nil]; unfold LIM; omega)]
        simp
      have lu := sortU_len ((sh + st * i) % 100 :: w)
      rw [List.length_cons, wl] at lu
      have one : ∀ z ∈ sortU ((sh + st * i) % 100 :: w), 0 ≤ z ∧ z < 100 := fun z hz => by
        rcases List.mem_cons.mp ((sortU_mem _ z).mp hz) with rfl | hz
        · omega
        · exact w5 z hz
      refine ⟨_, rfl, [some (.loc 1), some (.d (dTs (T ++ [sortU ((sh + st * i) % 100 :: w)]))), some (.d (.int (i : Int))), some (.d (.int sh)), some (.d (.int st)), some (.d (.list (((sh + st * i) % 100 :: w).map .int))), none], d5.mem, .inl ?_, T ++ [sortU ((sh + st * i) % 100 :: w)], d5, rfl, by simp [hl], ⟨fun j l hj => ?_, fun l hx => ?_, fun l hx => ?_, fun l hx => ?_⟩, o5, ?_, _, _, rfl⟩
      · generalize sortU ((sh + st * i) % 100 :: w) = U at *
        generalize PyData.list (((sh + st * i) % 100 :: w).map .int) = V at *
        generalize dTs (T ++ [U]) = Q1 at *
        simp only [c25b0, evSs, evS, evE, evEs, evL, getV, asgM, asgT, List.set, List.getElem?_cons_zero, List.getElem?_cons_succ, Res.of, Res.bind, S.of, S.opt, e5, view1_d, view2_d, m1, op2_add, m2, m3, ss, op1_tupL, Option.map, allD, had]
      · by_cases lt : j < T.length
        · rw [List.getElem?_append_left lt] at hj
          exact hT.own j l hj
        · have lj := (List.getElem?_eq_some_iff.mp hj).1
          rw [List.length_append] at lj
          simp at lj
          have ej : j = T.length := by omega
          subst ej
          rw [List.getElem?_append_right (Nat.le_refl _)] at hj
          simp at hj
          subst hj
          rw [hl, ← hp.2]
          exact (sortU_mem _ _).mpr (by simp)
      · rcases List.mem_append.mp hx with hx | hx
        · exact hT.few l hx
        · rw [List.mem_singleton.mp hx]; omega
      · rcases List.mem_append.mp hx with hx | hx
        · exact hT.asc l hx
        · rw [List.mem_singleton.mp hx]; exact sortU_asc _
      · rcases List.mem_append.mp hx with hx | hx
        · exact hT.all l hx
        · rw [List.mem_singleton.mp hx]; exact one
      · rw [List.length_append]
        simp
        omega)
    (env := [some (.loc 1), some (.d (dTs [])), none, some (.d (.int sh)), some (.d (.int st)), none, none]) (m := d2.mem) ⟨[], d2, rfl, rfl, ⟨fun i l h => by simp at h, fun l h => by simp at h, fun l h => by simp at h, fun l h => by simp at h⟩, o2, (by simp), none, none, rfl⟩
  rw [List.length_range] at hl
  have hi : evI (callF code sub n) (.rng1 (.c (.int 60))) [some (.loc 1), some (.d (dTs [])), none, some (.d (.int sh)), some (.d (.int st)), none, none] d2.mem = .ok (.fx ((List.range 60).map fun (i : Nat) => .int (i : Int))) d2.mem := by
    have := rng1_ok (cf := callF code sub n) (e := .c (.int 60)) (env := [some (.loc 1), some (.d (dTs [])), none, some (.d (.int sh)), some (.d (.int st)), none, none]) (m := d2.mem) (m1 := d2.mem) (k := 60) rfl (by omega) (by unfold LIM; omega)
    rw [this]
    have := rangeL0 60
    rw [show ((60 : Nat) : Int) = 60 from rfl] at this
    rw [this]
  have e100 : op2 .mul (.tuple [.int 1]) (.int 100) = some (dW ones) := by rfl
  have tk := take_len d d4
  have nil : (.tuple [] : D) = dTs [] := rfl
  refine ⟨sh, st, T, d4, ?_, hst, hl, hT⟩
  generalize dTs T = X at *
  generalize dW ones = Y at *
  simp only [c25, List.map_cons, List.map_nil, List.replicate, List.cons_append, List.nil_append, evSs, evS, evE, evEs, evL, getV, setAll, asgM, asgT, List.set, List.getElem?_cons_zero, List.getElem?_cons_succ, Res.of, Res.bind, S.of, S.opt, allD, e1, e2, gst, nil, hi, forL_fx, hf, view2_d, e100, Option.map, fin_rt, tk]
theorem hid_tk {sh st : Int} {T : Ts} (h : Hid sh st T) (hl : T.length = 60) : Tk T ones where
  lo := by omega
  hi := by omega
  few := fun l h2 => by have := h.few l h2; omega
  asc := h.asc
  hr := fun l h2 z hz => by have := h.all l h2 z hz; rw [List.length_replicate]; omega
  rlo := by simp
  rhi := by simp
  rall := fun r hr => by have := List.eq_of_mem_replicate hr; omega
theorem ones_room {x : Int} (h : 0 ≤ x ∧ x < 100) : room ones x = 1 := by
  unfold room
  rw [List.getD_eq_getElem?_getD, List.getElem?_replicate, if_pos (by omega)]
  rfl
theorem hid_feas {sh st : Int} {T : Ts} (h : Hid sh st T) (hl : T.length = 60) (hst : st = 1 ∨ st = 3 ∨ st = 7 ∨ st = 9) : Feas T ones := by
  refine ⟨(List.range 60).map fun i : Nat => (sh + st * i) % 100, ⟨fun i x hx => ?_, fun x hx => ?_⟩, by simp [hl]⟩
  · rw [List.getElem?_map] at hx
    obtain ⟨j, hj, rfl⟩ := map_some hx
    have lt := (List.getElem?_eq_some_iff.mp hj).1
    rw [List.length_range] at lt
    rw [List.getElem?_range lt] at hj
    cases hj
    exact h.own i _ (at_lt (by omega))
  · have nd : ((List.range 60).map fun i : Nat => (sh + st * i) % 100).Nodup := by
      unfold List.Nodup
      rw [List.pairwise_map]
      refine List.Pairwise.imp_of_mem ?_ List.pairwise_lt_range
      intro a b ha hb hab
      have := List.mem_range.mp hb
      rcases hst with rfl | rfl | rfl | rfl <;> omega
    have c1 : (((List.range 60).map fun i : Nat => (sh + st * i) % 100).filter (· == x)).length ≤ [x].length := nodup_sub (nodup_flt _ nd) fun y hy => by
      have := (List.mem_filter.mp hy).2
      simp at this
      simp [this]
    rw [← List.count_eq_length_filter] at c1
    simp only [List.length_cons, List.length_nil] at c1
    have : room ones x = 1 := ones_room (by
      obtain ⟨i, _, rfl⟩ := List.mem_map.mp hx
      omega)
    omega
theorem nodup_count : ∀ {A : List Int}, (∀ x ∈ A, A.count x ≤ 1) → A.Nodup
  | [], _ => List.nodup_nil
  | a :: A, h => by
    refine List.nodup_cons.mpr ⟨fun ha => ?_, nodup_count fun x hx => ?_⟩
    · have := h a (by simp)
      rw [List.count_cons_self] at this
      have := List.count_pos_iff.mpr ha
      omega
    · have := h x (by simp [hx])
      rw [List.count_cons] at this
      omega
theorem hid_set {sh st : Int} {T : Ts} (h : Hid sh st T) (hl : T.length = 60) {A : List Int} (hA : Plc T ones A) (lA : A.length = T.length) (m : Mem) : sstV m (.d (dW A)) = some (sortU A) ∧ (sortU A).length = 60 := by
  have nd : A.Nodup := nodup_count fun x hx => by
    have := hA.room x hx
    obtain ⟨i, hi⟩ := List.mem_iff_getElem?.mp hx
    have h1 := hA.mem i x hi
    rw [ones_room (h.all _ (at_mem h1).2 x h1)] at this
    omega
  refine ⟨?_, ?_⟩
  · show sstU (intsD _) = _
    rw [intsD_map]
    exact sst_ok (by omega)
  · have l1 := nodup_sub nd fun x hx => (sortU_mem A x).mpr hx
    have l2 := sortU_len A
    omega
end k60
end PV
end

section
set_option Elab.async false
set_option linter.all false
set_option maxRecDepth 100000
namespace PV
namespace k60
open PySem Mt
/-! ### the law -/
abbrev cf59 : CF := callF code k60.sub 59
theorem word11 {T : Ts} {rs : List Int} (hT : Tk T rs) (m : Mem) : ∃ y, callF code k60.sub 59 11 [.d (dTs T), .d (dW rs)] m = .ok (.d y) m ∧ ((Feas T rs ∧ ∀ m, getIx m (.d y) (.int 0) = some (.d (.str sPlan))) ∨ (¬ Feas T rs ∧ ∀ m, getIx m (.d y) (.int 0) = some (.d (.str sLot)))) := by
  rcases matching (sub := k60.sub) (show 4 ≤ 59 by decide) hT m with ⟨A, e, h1, h2⟩ | ⟨L, e, h1⟩
  · exact ⟨_, e, .inl ⟨⟨A, h1, h2⟩, fun m => ix0 _ _ m⟩⟩
  · exact ⟨_, e, .inr ⟨fun ⟨B, h2, h3⟩ => h1.none hT h2 h3, fun m => ix0 _ _ m⟩⟩
theorem turn (d : DS) (hd : d.Ok) (ha : d.at' < 2 ^ 16) (a0 a2 a3 a4 a5 a6 a7 a8 a9 a10 a11 a12 : Option EV) : ∃ (b5 b6 b9 b10 : Option EV) (d' : DS), d'.Ok ∧ d'.at' ≤ d.at' + 50 ∧ evSs (callF code k60.sub 59) k60.sub c26b0 [a0, some (.loc 1), a2, a3, a4, a5, a6, a7, a8, a9, a10, a11, a12] d.mem = .nx [a0, some (.loc 1), a2, a3, a4, b5, b6, a7, a8, b9, b10, a11, a12] d'.mem := by
  obtain ⟨T, rs, d1, e1, h1, h5, k1, j1⟩ := drawn (sub := k60.sub) (show 3 ≤ 59 by decide) d hd (by omega)
  have e2 := right (show 6 ≤ 59 by decide) h1 d1.mem
  obtain ⟨y, e3, q⟩ := word11 h1.tk d1.mem
  have as1 : ∀ m X Y a5 a6, asgM m (.tup (.cons (.nm 5) (.cons (.nm 6) .nil))) (.d (.tuple [X, Y])) [a0, some (.loc 1), a2, a3, a4, a5, a6, a7, a8, a9, a10, a11, a12] = some [a0, some (.loc 1), a2, a3, a4, some (.d X), some (.d Y), a7, a8, a9, a10, a11, a12] := fun m X Y a5 a6 => rfl
  rcases q with ⟨_, g⟩ | ⟨nf, g⟩
  · refine ⟨some (.d (dTs T)), some (.d (dW rs)), a9, a10, d1, k1, by omega, ?_⟩
    have pl : decide (sPlan = sLot) = false := by decide +kernel
    generalize dTs T = X at *
    generalize dW rs = Y at *
    simp only [c26b0, evSs, evS, evT, evE, evEs, getV, List.getElem?_cons_zero, List.getElem?_cons_succ, Res.of, Res.bind, S.of, S.opt, e1, as1, e2, view1_d, op1_not, Option.map, truth_d, truD_b, Bool.not_true, e3, g, view2_d, op2_eqS, pl]
  · obtain ⟨T', rs', d2, e4, h2, hf, k2, j2⟩ := less (sub := k60.sub) (show 3 ≤ 59 by decide) h1 h5 d1 k1 (by omega)
    have e5 := right (show 6 ≤ 59 by decide) h2 d2.mem
    obtain ⟨z, e6, q2⟩ := word11 h2.tk d2.mem
    have as2 : ∀ m X Y a5 a6 a9 a10, asgM m (.tup (.cons (.nm 9) (.cons (.nm 10) .nil))) (.d (.tuple [X, Y])) [a0, some (.loc 1), a2, a3, a4, a5, a6, a7, a8, a9, a10, a11, a12] = some [a0, some (.loc 1), a2, a3, a4, a5, a6, a7, a8, some (.d X), some (.d Y), a11, a12] := fun m X Y a5 a6 a9 a10 => rfl
    rcases q2 with ⟨f2, _⟩ | ⟨_, g2⟩
    · exact absurd (hf f2) nf
    · refine ⟨some (.d (dTs T)), some (.d (dW rs)), some (.d (dTs T')), some (.d (dW rs')), d2, k2, by omega, ?_⟩
      have ln : op1 .len (dTs T') = some (.int (T'.length : Int)) := by rw [op1_lenT, List.length_map]
      have l7 : (T'.length : Int) < 7 := by have := h2.hi; omega
      have ll : decide (sLot = sLot) = true := by simp
      have ne := op2_neS sLot sLot
      rw [ll] at ne
      generalize dTs T' = X' at *
      generalize dW rs' = Y' at *
      generalize dTs T = X at *
      generalize dW rs = Y at *
      simp only [c26b0, evSs, evS, evT, evE, evEs, getV, List.getElem?_cons_zero, List.getElem?_cons_succ, Res.of, Res.bind, S.of, S.opt, e1, as1, e2, view1_d, op1_not, Option.map, truth_d, truD_b, Bool.not_true, e3, g, view2_d, op2_eqS, ll, e4, as2, ln, op2_lt, l7, decide_true, e5, e6, g2, ne]
theorem rangeL_len (k : Nat) : (rangeL 0 (k : Int)).length = k := by rw [rangeL0]; simp
theorem four (d : DS) (hd : d.Ok) (ha : d.at' < 2 ^ 15) (a0 : Option EV) : ∃ (a2 a5 a6 a9 a10 : Option EV) (d' : DS), d'.Ok ∧ d'.at' ≤ d.at' + 200 ∧ forD (.nm 2) (fun e2 m2 => evSs (callF code k60.sub 59) k60.sub c26b0 e2 m2) (rangeL 0 4) [a0, some (.loc 1), none, none, none, none, none, none, none, none, none, none, none] d.mem = .nx [a0, some (.loc 1), a2, none, none, a5, a6, none, none, a9, a10, none, none] d'.mem := by
  obtain ⟨env', m', hf, a2, a5, a6, a9, a10, d', rfl, rfl, h1, h2⟩ := forD_ind (t := .nm 2) (b := fun e2 m2 => evSs (callF code k60.sub 59) k60.sub c26b0 e2 m2) (xs := rangeL 0 4)
    (fun pre env' m' => ∃ (a2 a5 a6 a9 a10 : Option EV) (d' : DS), env' = [a0, some (.loc 1), a2, none, none, a5, a6, none, none, a9, a10, none, none] ∧ m' = d'.mem ∧ d'.Ok ∧ d'.at' ≤ d.at' + 50 * pre.length) (by
      rintro pre x post e env m ⟨a2, a5, a6, a9, a10, d', rfl, rfl, h1, h2⟩
      have hlen : pre.length + 1 ≤ 4 := by
        have := congrArg List.length e
        have h3 := rangeL_len 4
        have e3 : rangeL 0 4 = rangeL 0 ((4 : Nat) : Int) := rfl
        rw [e3, h3, List.length_append, List.length_cons] at this
        omega
      obtain ⟨b5, b6, b9, b10, d3, b1, b2, b3⟩ := turn d' h1 (by omega) a0 (some (.d x)) none none a5 a6 none none a9 a10 none none
      refine ⟨_, rfl, _, _, .inl b3, _, _, _, _, _, d3, rfl, rfl, b1, ?_⟩
      rw [List.length_append]
      push_cast
      simp only [List.length_cons, List.length_nil]
      omega) (env := [a0, some (.loc 1), none, none, none, none, none, none, none, none, none, none, none]) (m := d.mem) ⟨none, none, none, none, none, d, rfl, rfl, hd, by simp⟩
  have e3 : (rangeL 0 4).length = 4 := rangeL_len 4
  rw [e3] at h2
  exact ⟨a2, a5, a6, a9, a10, d', h1, by omega, hf⟩
theorem law_ok (ns : List Int) : callF code k60.sub 60 26 (rowD ns) [] = .ok (.d (.bool true)) [] := by
  have e0 := begin_ok (sub := k60.sub) (show 1 ≤ 59 by decide) ns
  unfold rowD at *
  rw [call_eq (fn := c26) rfl rfl, c26_is]
  obtain ⟨a2, a5, a6, a9, a10, d', ok, lt, hf⟩ := four (dS0 ns) (dS0_ok ns) (by have : (dS0 ns).at' = 0 := rfl; omega) (some (.ro (ns.map .int)))
  have at0 : (dS0 ns).at' = 0 := rfl
  have s1 : evS (callF code k60.sub 59) k60.sub (.asg (.nm 1) (.call 16 (.cons (.v 0) .nil))) [some (.ro (ns.map .int)), none, none, none, none, none, none, none, none, none, none, none, none] [] = .nx [some (.ro (ns.map .int)), some (.loc 1), none, none, none, none, none, none, none, none, none, none, none] (dS0 ns).mem := by
    simp only [evS, evE, evEs, getV, List.set, List.getElem?_cons_zero, Res.of, Res.bind, S.of, S.opt, e0, asgM]
    all_goals rfl
  have hi : evI (callF code k60.sub 59) (.rng1 (.c (.int 4))) [some (.ro (ns.map .int)), some (.loc 1), none, none, none, none, none, none, none, none, none, none, none] (dS0 ns).mem = .ok (.fx (rangeL 0 4)) (dS0 ns).mem := rng1_ok rfl (by decide) (by decide)
  have s2 : evS (callF code k60.sub 59) k60.sub (.for (.nm 2) (.rng1 (.c (.int 4))) c26b0) [some (.ro (ns.map .int)), some (.loc 1), none, none, none, none, none, none, none, none, none, none, none] (dS0 ns).mem = .nx [some (.ro (ns.map .int)), some (.loc 1), a2, none, none, a5, a6, none, none, a9, a10, none, none] d'.mem := by
    simp only [evS, hi, S.of, forL_fx, hf]
  obtain ⟨sh, st, T, d2, e2, hst, hl, hid⟩ := hidden (sub := k60.sub) (show 3 ≤ 59 by decide) d' ok (by omega)
  have tk := hid_tk hid hl
  rcases matching (sub := k60.sub) (show 4 ≤ 59 by decide) tk d2.mem with ⟨A, e3, hA, lA⟩ | ⟨L, e3, hL⟩
  · obtain ⟨sv, s60⟩ := hid_set hid hl hA lA d2.mem
    have s3 : evS (callF code k60.sub 59) k60.sub (.asg (.tup (.cons (.nm 5) (.cons (.nm 6) .nil))) (.call 25 (.cons (.v 1) .nil))) [some (.ro (ns.map .int)), some (.loc 1), a2, none, none, a5, a6, none, none, a9, a10, none, none] d'.mem = .nx [some (.ro (ns.map .int)), some (.loc 1), a2, none, none, some (.d (dTs T)), some (.d (dW ones)), none, none, a9, a10, none, none] d2.mem := by
      simp only [evS, evE, evEs, getV, List.getElem?_cons_zero, List.getElem?_cons_succ, Res.of, Res.bind, S.of, e2]
      rfl
    have s4 : evS (callF code k60.sub 59) k60.sub (.asg (.tup (.cons (.nm 7) (.cons (.nm 8) .nil))) (.call 11 (.cons (.v 5) (.cons (.v 6) .nil)))) [some (.ro (ns.map .int)), some (.loc 1), a2, none, none, some (.d (dTs T)), some (.d (dW ones)), none, none, a9, a10, none, none] d2.mem = .nx [some (.ro (ns.map .int)), some (.loc 1), a2, none, none, some (.d (dTs T)), some (.d (dW ones)), some (.d (.str sPlan)), some (.d (dW A)), a9, a10, none, none] d2.mem := by
      generalize hX : dTs T = X at *
      generalize hY : dW ones = Y at *
      simp only [evS, evE, evEs, getV, List.getElem?_cons_zero, List.getElem?_cons_succ, Res.of, Res.bind, S.of, e3]
      rfl
    have s5 : evS (callF code k60.sub 59) k60.sub (.ite (.or (.b2 .ne (.v 7) (.c (.str sPlan))) (.b2 .ne (.lns (.v 8)) (.c (.int 60)))) (.cons (.ret (.c (.bool false))) .nil) .nil) [some (.ro (ns.map .int)), some (.loc 1), a2, none, none, some (.d (dTs T)), some (.d (dW ones)), some (.d (.str sPlan)), some (.d (dW A)), a9, a10, none, none] d2.mem = .nx [some (.ro (ns.map .int)), some (.loc 1), a2, none, none, some (.d (dTs T)), some (.d (dW ones)), some (.d (.str sPlan)), some (.d (dW A)), a9, a10, none, none] d2.mem := by
      have pp := op2_neS sPlan sPlan
      rw [decide_eq_true rfl] at pp
      have q60 : op2 .ne (.int ((sortU A).length : Int)) (.int 60) = some (.bool false) := by rw [s60]; rfl
      generalize dTs T = X at *
      generalize dW ones = Y at *
      generalize dW A = Z at *
      simp only [evS, evSs, evT, evE, evEs, getV, List.getElem?_cons_zero, List.getElem?_cons_succ, Res.of, Res.bind, S.of, view2_d, pp, Option.map, truth_d, truD_b, Bool.not_true, sv, q60]
    have k0 : evL (callF code k60.sub 59) c26l0 [some (.ro (ns.map .int)), some (.loc 1), a2, none, none, some (.d (dTs T)), some (.d (dW ones)), some (.d (.str sPlan)), some (.d (dW A)), a9, a10, none, none] d2.mem = .ok [] d2.mem := by
      have en : enumL 0 (A.map PyData.int) = A.zipIdx.map fun q => .tuple [.int (q.2 : Int), .int q.1] := enum_map0 PyData.int A
      refine (comp_fx (xs := A.zipIdx.map fun q => .tuple [.int (q.2 : Int), .int q.1]) (m1 := d2.mem) (by simp only [evI, evE, getV, List.getElem?_cons_zero, List.getElem?_cons_succ, Res.of, Res.bind, seqD_t, Option.map, en])).trans ?_
      refine none_left fun x hx => ?_
      obtain ⟨q, hq, rfl⟩ := List.mem_map.mp hx
      have hi := zipIdx_mem hq
      have h1 := hA.mem q.2 q.1 hi
      have g := get_T (at_mem h1).1 d2.mem
      have nin : op2 .nin (.int q.1) (dW (at' T q.2)) = some (.bool false) := by
        have nin := op_ninT' q.1 (at' T q.2)
        rw [decide_eq_true h1] at nin
        exact nin
      generalize dTs T = X at *
      generalize dW ones = Y at *
      generalize dW A = Z at *
      generalize dW (at' T q.2) = U at *
      simp only [turnB, asgT, asgTs, wipeE, evE, getV, List.map, List.set, List.getElem?_cons_zero, List.getElem?_cons_succ, Res.of, Res.bind, g, view2_d, nin, Option.map, truth_d, truD_b, Bool.not_true]
    have s6 : evS (callF code k60.sub 59) k60.sub (.ite (.b2 .ne (.fl c26l0) (.fl (.dis .nil))) (.cons (.ret (.c (.bool false))) .nil) .nil) [some (.ro (ns.map .int)), some (.loc 1), a2, none, none, some (.d (dTs T)), some (.d (dW ones)), some (.d (.str sPlan)), some (.d (dW A)), a9, a10, none, none] d2.mem = .nx [some (.ro (ns.map .int)), some (.loc 1), a2, none, none, some (.d (dTs T)), some (.d (dW ones)), some (.d (.str sPlan)), some (.d (dW A)), a9, a10, none, none] d2.mem := by
      have nn : op2 .ne (.list []) (.list []) = some (.bool false) := rfl
      have k1 : ∀ env m, evL (callF code k60.sub 59) (.dis .nil) env m = .ok [] m := fun env m => rfl
      simp only [evS, evSs, evT, evE, Res.of, Res.bind, S.of, k0, k1, view2_d, nn, Option.map, truth_d, truD_b]
    have s7 := tl_ok (.lst (d2.lefts.map fun i => .d (.int i))) (.dK d2.kv) (some (.ro (ns.map .int))) a2 none none (some (.d (dTs T))) (some (.d (dW ones))) (some (.d (.str sPlan))) (some (.d (dW A))) a9 a10 none none
    exact (congrArg (fin 0) ((evSs_nx s1).trans ((evSs_nx s2).trans ((evSs_nx s3).trans ((evSs_nx s4).trans ((evSs_nx s5).trans (evSs_nx s6))))))).trans s7
  · obtain ⟨B, h1, h2⟩ := hid_feas hid hl hst
    exact absurd (hL.none tk h1 h2) (fun h => h)
end k60
end PV
end

section
set_option Elab.async false
set_option maxRecDepth 100000
open PySem PySem.W PyProof.Rows PV PV.k60
theorem ans : ∀ ns : List Int, ns.length ≤ 63 → (∀ z ∈ ns, Builtin.Int.intBits z ≤ 1048576) → callF (ds.map (cFn gc)) sub 60 26 (rowD ns) [] = .ok (.d (.bool true)) [] := by
  intro ns _ _
  rw [code_eq]
  exact law_ok ns
set_option maxHeartbeats 0 in
theorem PySem.Challenge.cw_besthours_k60_whole_placings_or_lots_holds : PySem.Challenge.rw_besthours_k60_whole_placings_or_lots.Holds := by
  w_on; o_law; k_head; (case hw => w_witness2)
  k_fill
  refine PV.walkG (l := PySem.Challenge.rw_besthours_k60_whole_placings_or_lots) (G := gc) (ds := ds) (k := 26) (n := 60) (D := d26) (sub := sub) xs rfl rfl (fun w h Y => PySem.W.kIn_of Y) ⟨rfl, by decide, by decide⟩ rfl rfl rfl ?modOk ans ?clsOk ?lamB ?recs
  case lamB => intro w; kernel_rfl
  case recs => rfl
  case modOk =>
    intro w mg fa h KX G hmg hB
    refine mod_mk hB rfl ?A ?C ?B rfl (by intro p hp; cases hp)
    case A =>
      refine all_cons (by refine' def_at KX G sc0 b0 kw0 ?a ?l ?c ?k; (case a => k_is); (case l => k_is); (case c => k_is); (case k => k_is)) ?_
      refine all_cons (by refine' def_at KX G sc1 b1 kw1 ?a ?l ?c ?k; (case a => k_is); (case l => k_is); (case c => k_is); (case k => k_is)) ?_
      refine all_cons (by refine' def_at KX G sc2 b2 kw2 ?a ?l ?c ?k; (case a => k_is); (case l => k_is); (case c => k_is); (case k => k_is)) ?_
      refine all_cons (by refine' def_at KX G sc3 b3 kw3 ?a ?l ?c ?k; (case a => k_is); (case l => k_is); (case c => k_is); (case k => k_is)) ?_
      refine all_cons (by refine' def_at KX G sc4 b4 kw4 ?a ?l ?c ?k; (case a => k_is); (case l => k_is); (case c => k_is); (case k => k_is)) ?_
      refine all_cons (by refine' def_at KX G sc5 b5 kw5 ?a ?l ?c ?k; (case a => k_is); (case l => k_is); (case c => k_is); (case k => k_is)) ?_
      refine all_cons (by refine' def_at KX G sc6 b6 kw6 ?a ?l ?c ?k; (case a => k_is); (case l => k_is); (case c => k_is); (case k => k_is)) ?_
      refine all_cons (by refine' def_at KX G sc7 b7 kw7 ?a ?l ?c ?k; (case a => k_is); (case l => k_is); (case c => k_is); (case k => k_is)) ?_
      refine all_cons (by refine' def_at KX G sc8 b8 kw8 ?a ?l ?c ?k; (case a => k_is); (case l => k_is); (case c => k_is); (case k => k_is)) ?_
      refine all_cons (by refine' def_at KX G sc9 b9 kw9 ?a ?l ?c ?k; (case a => k_is); (case l => k_is); (case c => k_is); (case k => k_is)) ?_
      refine all_cons (by refine' def_at KX G sc10 b10 kw10 ?a ?l ?c ?k; (case a => k_is); (case l => k_is); (case c => k_is); (case k => k_is)) ?_
      refine all_cons (by refine' def_at KX G sc11 b11 kw11 ?a ?l ?c ?k; (case a => k_is); (case l => k_is); (case c => k_is); (case k => k_is)) ?_
      refine all_cons (by refine' def_at KX G sc12 b12 kw12 ?a ?l ?c ?k; (case a => k_is); (case l => k_is); (case c => k_is); (case k => k_is)) ?_
      refine all_cons (by refine' def_at KX G sc13 b13 kw13 ?a ?l ?c ?k; (case a => k_is); (case l => k_is); (case c => k_is); (case k => k_is)) ?_
      refine all_cons (by refine' def_at KX G sc14 b14 kw14 ?a ?l ?c ?k; (case a => k_is); (case l => k_is); (case c => k_is); (case k => k_is)) ?_
      refine all_cons (by refine' def_at KX G sc15 b15 kw15 ?a ?l ?c ?k; (case a => k_is); (case l => k_is); (case c => k_is); (case k => k_is)) ?_
      refine all_cons (by refine' def_at KX G sc16 b16 kw16 ?a ?l ?c ?k; (case a => k_is); (case l => k_is); (case c => k_is); (case k => k_is)) ?_
      refine all_cons (by refine' def_at KX G sc17 b17 kw17 ?a ?l ?c ?k; (case a => k_is); (case l => k_is); (case c => k_is); (case k => k_is)) ?_
      refine all_cons (by refine' def_at KX G sc18 b18 kw18 ?a ?l ?c ?k; (case a => k_is); (case l => k_is); (case c => k_is); (case k => k_is)) ?_
      refine all_cons (by refine' def_at KX G sc19 b19 kw19 ?a ?l ?c ?k; (case a => k_is); (case l => k_is); (case c => k_is); (case k => k_is)) ?_
      refine all_cons (by refine' def_at KX G sc20 b20 kw20 ?a ?l ?c ?k; (case a => k_is); (case l => k_is); (case c => k_is); (case k => k_is)) ?_
      refine all_cons (by refine' def_at KX G sc21 b21 kw21 ?a ?l ?c ?k; (case a => k_is); (case l => k_is); (case c => k_is); (case k => k_is)) ?_
      refine all_cons (by refine' def_at KX G sc22 b22 kw22 ?a ?l ?c ?k; (case a => k_is); (case l => k_is); (case c => k_is); (case k => k_is)) ?_
      refine all_cons (by refine' def_at KX G sc23 b23 kw23 ?a ?l ?c ?k; (case a => k_is); (case l => k_is); (case c => k_is); (case k => k_is)) ?_
      refine all_cons (by refine' def_at KX G sc24 b24 kw24 ?a ?l ?c ?k; (case a => k_is); (case l => k_is); (case c => k_is); (case k => k_is)) ?_
      refine all_cons (by refine' def_at KX G sc25 b25 kw25 ?a ?l ?c ?k; (case a => k_is); (case l => k_is); (case c => k_is); (case k => k_is)) ?_
      refine all_cons (by refine' def_at KX G sc26 b26 kw26 ?a ?l ?c ?k; (case a => k_is); (case l => k_is); (case c => k_is); (case k => k_is)) ?_
      exact all_nil
    case C =>
      refine con_cons (by refine' con_of KX G ?a ?k; (case a => k_is); (case k => exact (KD.int _ _))) ?_
      refine con_cons (by refine' con_of KX G ?a ?k; (case a => k_is); (case k => exact (KD.int _ _))) ?_
      refine con_cons (by refine' con_of KX G ?a ?k; (case a => k_is); (case k => exact (KD.int _ _))) ?_
      exact con_nil
    case B =>
      refine blt_cons (by refine' blt_of KX G ?a <;> k_is) ?_
      refine blt_cons (by refine' blt_of KX G ?a <;> k_is) ?_
      refine blt_cons (by refine' blt_of KX G ?a <;> k_is) ?_
      refine blt_cons (by refine' blt_of KX G ?a <;> k_is) ?_
      refine blt_cons (by refine' blt_of KX G ?a <;> k_is) ?_
      refine blt_cons (by refine' blt_of KX G ?a <;> k_is) ?_
      refine blt_cons (by refine' blt_of KX G ?a <;> k_is) ?_
      refine blt_cons (by refine' blt_of KX G ?a <;> k_is) ?_
      refine blt_cons (by refine' blt_of KX G ?a <;> k_is) ?_
      refine blt_cons (by refine' blt_of KX G ?a <;> k_is) ?_
      refine blt_cons (by refine' blt_of KX G ?a <;> k_is) ?_
      refine blt_cons (by refine' blt_of KX G ?a <;> k_is) ?_
      refine blt_cons (by refine' blt_of KX G ?a <;> k_is) ?_
      refine blt_cons (by refine' blt_of KX G ?a <;> k_is) ?_
      exact blt_nil
  case clsOk =>
    intro w mg fa h KX G hmg
    refine' cls_mk KX G ?n0 ?n1 ?e0 ?v0 ?i0 ?y0 ?e1 ?v1 ?i1 ?y1 ?u0_0 ?u0_1 ?u1_0 ?u1_1 ?c0 ?c1 ?p1 ?q1
    (case n0 => k_is)
    (case n1 => k_is)
    (case e0 => k_is)
    (case v0 => k_is)
    (case i0 => k_is)
    (case y0 => k_is)
    (case e1 => k_is)
    (case v1 => k_is)
    (case i1 => k_is)
    (case y1 => k_is)
    (case u0_0 => first | rfl | k_is)
    (case u0_1 => first | rfl | k_is)
    (case u1_0 => first | rfl | k_is)
    (case u1_1 => first | rfl | k_is)
    (case c0 => refine ⟨?_, ?_, ?_, ?_, ?_, ?_, ?_, ?_⟩ <;> k_is)
    (case c1 => refine ⟨?_, ?_, ?_, ?_, ?_, ?_, ?_, ?_⟩ <;> k_is)
    (case p1 => k_is)
    (case q1 => k_exc)
end
