import PyProof.Rows.All
import Wide.All
import OpenK.AllK
import Wide.FinOn
import HandS.List
import HandS.Text
import HandS.ForMost
import HandS.Walk
import HandS.Conv
import HandS.Deep
import HandS.IsInst
import HandS.TupAny
import HandS.TupMul
import HandS.Wide
import HandS.Zip
import HandS.Star
import HandS.Style
import HandS.Strs
import HandS.SortInts
import HandS.SortRule
import HandS.Flow
import HandS.ExcValue
import HandS.ExcInit
import HandS.Lambda
import HandS.HeadHook1
import PyProof.ListMulAny
import PyProof.NeKinds
import KE.DataMinMax
import KE.SortData
import KE.KRevSl
import KE.GoesMore
import KE.GoesZip
import KE.GoesEnum
import PyProof.EnumMake
import HandS.SetFor
import HandS.SetBool
import HandS.Exc
import KE.KExcSuper
import KE.KExcIs
import HandS.ExcField
import HandS.Small
import KE.KTryMore
import HandS.TryOnly
import HandS.Defaults
import HandS.Codes
import HandS.Ends
import KE.KStateDown
import HandS.Words
import HandS.WordsExc
import HandS.Head0
import HandS.Head1
import HandS.Head2
import HandS.HeadEnd
import HandS.HeadHook2
import PyProof.ReprLen
import PySem.Challenge.RW_dugonce_k24_exceptions
section
set_option Elab.async false
set_option linter.all false
/-! LP1: a little Python: core terms, and what they come to, over plain data. -/
namespace LP
open PySem
abbrev D := PyData

/-- how a name holds its thing: fz: it stays as it is; ow: a list or dict of this frame's alone; io: the same, handed in by the caller; fi: handed in, and let out since; lk, li: ow, io, while a loop walks it -/
inductive Md where
  | fz | ow | io | fi | lk | li
  deriving DecidableEq
def Md.isNew : Md → Bool
  | .fz => true
  | .ow => true
  | _ => false
/-- a call that raises comes back in this way -/
def Md.isX : Md → Bool
  | .lk => true
  | _ => false
structure SV where
  m : Md
  d : D
abbrev LS := List (Option SV)

inductive Ty where
  | int | bool | str | tuple | list | dict
  deriving DecidableEq
inductive BOp where
  | add | sub | mul | fdiv | mod | pow
  deriving DecidableEq
inductive COp where
  | eq | ne | lt | le | gt | ge | isin | notin
  deriving DecidableEq
inductive B1 where
  | len | tuple | list | int | minL | maxL | sum | all | any | sorted | sset | repr | str | abs | minT
  deriving DecidableEq
inductive B2 where
  | min | max | join | split | index
  deriving DecidableEq
inductive Pt where
  | v (i : Nat) | t (is : List Nat)
  deriving DecidableEq

mutual
inductive CE where
  | v (i : Nat)
  | non | bl (b : Bool) | int (i : Int) | str (s : Str)
  | gI (x : Str) (i : Int) | gS (x : Str) (s : Str)
  | tup (es : CEs) | lst (es : CEs)
  | bin (op : BOp) (a b : CE) | neg (a : CE)
  | cmp (op : COp) (a b : CE)
  | ch2 (o1 o2 : COp) (a b c : CE)
  | ch3 (o1 o2 o3 : COp) (a b c d : CE)
  | isN (a : CE) | isNN (a : CE)
  | and (es : CEs) | or (es : CEs) | not (a : CE) | ite (c a b : CE)
  | idx (a i : CE) | slc (a : CE) (lo hi : CO) | rev (a : CE)
  | call (f : Nat) (as : CEs)
  | b1 (f : B1) (a : CE) | b2 (f : B2) (a b : CE)
  | isI (a : CE) (t : Ty)
  | lrg (b : CE)
  | lcp (own : List Nat) (e : CE) (p : Pt) (it : CI) (c : CO)
  | lc2 (own own2 : List Nat) (e : CE) (p : Pt) (it : CI) (c : CO) (p2 : Pt) (a2 : CE) (c2 : CO)
  | scp (own : List Nat) (e : CE) (p : Pt) (it : CI) (c : CO)
  | dic (kvs : CK)
  | isB (a : CE) (b : Bool)
  | mkx (k : Nat) (kw : Bool) (as : CEs)
  | isX (a : CE) (cs : List Str)
  | fld (a : CE) (f : Str)
  | lam (l : Nat) (is : List Nat)
  | cav (i : Nat) (as : CEs)
inductive CEs where
  | nil | cons (e : CE) (r : CEs) | star (e : CE) (r : CEs)
inductive CO where
  | no | yes (e : CE)
inductive CI where
  | e (a : CE) | rg1 (a : CE) | rg2 (a b : CE) | enu (a : CE) | zip (a b : CE) | zip3 (a b c : CE)
inductive CK where
  | nil | cons (k : Str) (e : CE) (r : CK)
end
/-- what stands in an except suite -/
inductive UA where
  | non | bl (b : Bool) | str (x : Str) | fld (f : Str)
inductive UE where
  | a (x : UA) | l (xs : List UA)
inductive US where
  | asg (i : Nat) (e : UE) | app (i : Nat) (e : UE) | seti (i : Nat) (k : Int) (e : UA) | ret (e : UE) | keep (i : Nat)
mutual
inductive CS where
  | asg (p : Pt) (e : CE)
  | par (is : List Nat) (es : CEs)
  | app (i : Nat) (e : CE)
  | seti (i : Nat) (k e : CE)
  | ex (e : CE)
  | ret (e : CE) | retN
  | ite (c : CE) (a b : CSs)
  | for_ (p : Pt) (it : CI) (b : CSs)
  | whl (c : CE) (b : CSs)
  | pass | brk | cont | nev
  | rx (s : CS)
  | rai (k : Nat) (as : CEs)
  | try_ (b : CSs) (cs : List Str) (n : Option Nat) (u : US)
inductive CSs where
  | nil | cons (s : CS) (r : CSs)
end
structure Fn where
  np : Nat
  ns : Nat
  body : CSs

/-! ### exceptions, lambdas -/
/-- the program's own exception classes, each with its field -/
def exTab : List (Str × Option Str) := [("BadPlan", some "place"), ("BadDay", some "value"), ("BadNumber", some "value"), ("BadRule", some "value"), ("BadPaper", some "word"), ("Never", none),
  ("BadStreet", some "place"), ("BadStanding", some "value"), ("BadChoice", some "value"), ("BadCalls", some "value"), ("BadText", some "word")]
/-- what an exception of the k-th class is one of -/
def exUp (k : Nat) : List Str := match k with
  | 5 => ["Never", "LookupError", "Exception"]
  | _ => match exTab[k]? with
    | some (x, _) => [x, "StreetError", "ValueError", "Exception"]
    | none => []
/-- an exception of the k-th class with its field; a lambda with what it has caught -/
def xoD (k : Nat) (d : D) : D := .dict [(.int k, d)]
def cloD (l : Nat) (ds : List D) : D := .dict [(.bool true, .tuple (.int l :: ds))]
def oddD : D → Bool
  | .dict ((.int _, _) :: _) => true
  | .dict ((.bool _, _) :: _) => true
  | _ => false
def exOf : D → Option (Nat × D)
  | .dict [(.int k, d)] => match k with
    | .ofNat n => some (n, d)
    | .negSucc _ => none
  | _ => none
def fldOf (f : Str) (x : D) : Option D := (exOf x).bind fun p => match exTab[p.1]? with
  | some (_, some g) => if g = f then some p.2 else none
  | _ => none
def isUp (cs : List Str) (x : D) : Option Bool := (exOf x).map fun p => cs.any fun c => decide (c ∈ exUp p.1)
def mkX (k : Nat) (ds : List D) : Option D := match exTab[k]?, ds with
  | some (_, some _), [d] => some (xoD k d)
  | some (_, none), [] => some (xoD k .none)
  | _, _ => none
def orX {α : Type} (a b : Option α) : Option α := match a with
  | some x => some x
  | none => b
/-! ### data -/
def fresh : D → SV
  | .list xs => ⟨.ow, .list xs⟩
  | .dict kvs => ⟨.ow, .dict kvs⟩
  | d => ⟨.fz, d⟩
def asInts : List D → Option (List Int)
  | [] => some []
  | .int i :: r => (asInts r).map (i :: ·)
  | _ :: _ => none
def asBools : List D → Option (List Bool)
  | [] => some []
  | .bool b :: r => (asBools r).map (b :: ·)
  | _ :: _ => none
def asPairs : List D → Option (List (Int × Int))
  | [] => some []
  | .tuple [.int i, .int j] :: r => (asPairs r).map ((i, j) :: ·)
  | _ :: _ => none
def asRows : List D → Option (List (List Int))
  | [] => some []
  | .tuple ds :: r => (asInts ds).bind fun ns => (asRows r).map (ns :: ·)
  | _ :: _ => none
def minRow : List (List Int) → Option (List Int)
  | [] => none
  | x :: r => some (r.foldl (fun a b => if b < a then b else a) x)
def insI (x : Int) : List Int → List Int
  | [] => [x]
  | y :: r => if x ≤ y then x :: y :: r else y :: insI x r
def sortI : List Int → List Int
  | [] => []
  | x :: r => insI x (sortI r)
def leP (a b : Int × Int) : Bool := decide (a.1 < b.1) || (decide (a.1 = b.1) && decide (a.2 ≤ b.2))
def insP (x : Int × Int) : List (Int × Int) → List (Int × Int)
  | [] => [x]
  | y :: r => if leP x y then x :: y :: r else y :: insP x r
def sortP : List (Int × Int) → List (Int × Int)
  | [] => []
  | x :: r => insP x (sortP r)
def dedup : List Int → List Int
  | [] => []
  | x :: r => if x ∈ r then dedup r else x :: dedup r
def dPair (p : Int × Int) : D := .tuple [.int p.1, .int p.2]
/-- a bound that stops the kernel at the first open number -/
def inB (n : Nat) (i : Int) : Bool := Nat.ble i.natAbs n
theorem inB_iff {n : Nat} {i : Int} : inB n i = true ↔ -(n : Int) ≤ i ∧ i ≤ n := by
  unfold inB
  rw [Nat.ble_eq]
  omega
def mulOk (i j : Int) : Bool := inB 18446744073709551615 i || inB 18446744073709551615 j
theorem mulOk_inv {i j : Int} (h : mulOk i j = true) : (-(2 ^ 64) < i ∧ i < 2 ^ 64) ∨ (-(2 ^ 64) < j ∧ j < 2 ^ 64) := by
  unfold mulOk at h
  rw [Bool.or_eq_true, inB_iff, inB_iff] at h
  omega
def szOk (n : Nat) : Bool := decide (n ≤ sizeLine)
def binD : BOp → D → D → Option D
  | .add, .int a, .int b => some (.int (a + b))
  | .add, .str a, .str b => if szOk (a.length + b.length) then some (.str (a ++ b)) else none
  | .add, .list a, .list b => if szOk (a.length + b.length) then some (.list (a ++ b)) else none
  | .add, .tuple a, .tuple b => if szOk (a.length + b.length) then some (.tuple (a ++ b)) else none
  | .sub, .int a, .int b => some (.int (a - b))
  | .mul, .int a, .int b => if mulOk a b then some (.int (a * b)) else none
  | .mul, .tuple a, .int k => if decide (2 ≤ k ∧ k ≤ 1000 ∧ a.length ≤ 1000 ∧ a.isEmpty = false) then some (.tuple (List.replicate k.toNat a).flatten) else none
  | .mul, .list a, .int k => if decide (0 ≤ k ∧ k ≤ 1000 ∧ a.length ≤ 1000) then some (.list (List.replicate k.toNat a).flatten) else none
  | .fdiv, .int a, .int b => if decide (0 < b ∧ b.natAbs.log2 < 9000) then some (.int (a / b)) else none
  | .mod, .int a, .int b => if decide (0 < b) then some (.int (a % b)) else none
  | .pow, .int a, .int b => if decide (0 ≤ b ∧ b ≤ 1000000 ∧ a.natAbs < 2 ^ 64) then some (.int (a ^ b.toNat)) else none
  | _, _, _ => none
/-- numbers, texts, None and truth values -/
def flatD : D → Bool
  | .none => true
  | .bool _ => true
  | .int _ => true
  | .str _ => true
  | _ => false
/-- a list beside an empty one, whatever it has -/
def nilCmp : D → D → Option Bool
  | .list xs, .list [] => some xs.isEmpty
  | _, _ => none
/-- one sign in a text -/
def sgnIn (a b : Str) : Option Bool := match a.cps.toList with
  | [c] => some (decide (c ∈ b.cps.toList))
  | _ => none
def cmpD : COp → D → D → Option Bool
  | .isin, .str a, .str b => sgnIn a b
  | .eq, .str a, .str b => some (decide (a = b))
  | .ne, .str a, .str b => some (!decide (a = b))
  | .isin, x, .tuple ys => if flatD x && ys.all flatD then some (ys.any fun z => PyData.eqv z x) else none
  | .notin, x, .tuple ys => if flatD x && ys.all flatD then some (!ys.any fun z => PyData.eqv z x) else none
  | .eq, x, y => if SeqAt.shaped x && SeqAt.shaped y then some (PyData.eqv x y) else nilCmp x y
  | .ne, x, y => if SeqAt.shaped x && SeqAt.shaped y then some (!PyData.eqv x y) else (nilCmp x y).map (!·)
  | .lt, .int a, .int b => some (decide (a < b))
  | .le, .int a, .int b => some (decide (a ≤ b))
  | .gt, .int a, .int b => some (decide (b < a))
  | .ge, .int a, .int b => some (decide (b ≤ a))
  | .isin, x, .list ys => if SeqAt.shaped x && SeqAt.shaped (.list ys) then some (ys.any fun z => PyData.eqv z x) else none
  | .notin, x, .list ys => if SeqAt.shaped x && SeqAt.shaped (.list ys) then some (!ys.any fun z => PyData.eqv z x) else none
  | _, _, _ => none
def dLook (k : Str) : List (D × D) → Option D
  | [] => none
  | (.str x, v) :: r => if x = k then some v else dLook k r
  | _ :: _ => none
def dHas (k : Str) : List (D × D) → Bool
  | [] => false
  | (.str x, _) :: r => decide (x = k) || dHas k r
  | _ :: r => dHas k r
def dRep (k : Str) (v : D) : List (D × D) → List (D × D)
  | [] => []
  | (.str x, u) :: r => (.str x, if x = k then v else u) :: dRep k v r
  | p :: r => p :: dRep k v r
def dPut (k : Str) (v : D) (l : List (D × D)) : List (D × D) := if dHas k l then dRep k v l else l ++ [(.str k, v)]
def idxD : D → D → Option D
  | .list xs, .int i => L2.atI xs i
  | .tuple xs, .int i => L2.atI xs i
  | .dict kvs, .str k => dLook k kvs
  | _, _ => none
def cutL {α : Type} (xs : List α) (lo hi : Option Int) : List α := (xs.drop (HT.sIx xs.length 0 lo)).take (HT.sIx xs.length xs.length hi - HT.sIx xs.length 0 lo)
def slcD : D → Option Int → Option Int → Option D
  | .list xs, lo, hi => some (.list (cutL xs lo hi))
  | .tuple xs, lo, hi => some (.tuple (cutL xs lo hi))
  | _, _, _ => none
def revD : D → Option D
  | .list xs => some (.list xs.reverse)
  | .tuple xs => some (.tuple xs.reverse)
  | _ => none
def maxI : List Int → Option Int
  | [] => none
  | x :: r => some (r.foldl (fun a b => if a < b then b else a) x)
def minI : List Int → Option Int
  | [] => none
  | x :: r => some (r.foldl (fun a b => if b < a then b else a) x)
def lenD : D → Option D
  | .list xs => some (.int xs.length)
  | .tuple xs => some (.int xs.length)
  | .str x => if szOk x.length then some (.int x.length) else none
  | _ => none
def tupD : D → Option D
  | .list xs => some (.tuple xs)
  | .tuple xs => some (.tuple xs)
  | _ => none
def lisD : D → Option D
  | .list xs => some (.list xs)
  | .tuple xs => some (.list xs)
  | _ => none
def intD : D → Option D
  | .int i => some (.int i)
  | .bool b => some (.int (if b then 1 else 0))
  | .str x => if decide (x.length ≤ 640) then (PySem.intText? x).map .int else none
  | _ => none
def onInts (f : List Int → Option D) : D → Option D
  | .list xs => (asInts xs).bind f
  | _ => none
def onBools (f : List Bool → D) : D → Option D
  | .list xs => (asBools xs).map f
  | _ => none
def srtD : D → Option D
  | .list xs => match asInts xs with
    | some ns => some (.list ((sortI ns).map .int))
    | none => (asPairs xs).map fun ps => .list ((sortP ps).map dPair)
  | _ => none
mutual
/-- no dict but empty ones -/
def emD : D → Bool
  | .dict kvs => kvs.isEmpty
  | .list xs => emDs xs
  | .tuple xs => emDs xs
  | .none => true
  | .bool _ => true
  | .int _ => true
  | .str _ => true
def emDs : List D → Bool
  | [] => true
  | x :: r => emD x && emDs r
end
def repD (d : D) : Option D := if emD d && d.showable && decide (d.depth ≤ 64) && szOk d.shown.length then some (.str d.shown) else none
def absD : D → Option D
  | .int i => some (.int (if i < 0 then -i else i))
  | _ => none
def strD : D → Option D
  | .int i => if decide (i.natAbs.log2 < 1920) then some (.str (Str.ofString (toString i))) else none
  | _ => none
def onRows (f : List (List Int) → Option D) : D → Option D
  | .list xs => (asRows xs).bind f
  | _ => none
def b1D (f : B1) (d : D) : Option D := match f with
  | .len => lenD d
  | .tuple => tupD d
  | .list => lisD d
  | .int => intD d
  | .minL => onInts (fun ns => (minI ns).map .int) d
  | .maxL => onInts (fun ns => (maxI ns).map .int) d
  | .sum => onInts (fun ns => some (.int ns.sum)) d
  | .all => onBools (fun bs => .bool (bs.all id)) d
  | .any => onBools (fun bs => .bool (bs.any id)) d
  | .sorted => srtD d
  | .sset => onInts (fun ns => if ns.length < 64 then some (.list ((sortI (dedup ns)).map .int)) else none) d
  | .repr => repD d
  | .str => strD d
  | .abs => absD d
  | .minT => onRows (fun rs => (minRow rs).map fun r => .tuple (r.map .int)) d
def asStrs : List D → Option (List Str)
  | [] => some []
  | .str x :: r => (asStrs r).map (x :: ·)
  | _ :: _ => none
def joinD (a : Str) (ss : List Str) : Option D := if decide ((ss.map (·.length)).sum + ss.length * a.length ≤ 16777216) then some (.str (Txt.join a ss)) else none
def indexD (ys : List D) (y : D) : Option D := if SeqAt.shaped (.list ys) && SeqAt.shaped y && decide (ys.findIdx (fun z => PyData.eqv z y) < ys.length) then some (.int (ys.findIdx fun z => PyData.eqv z y)) else none
def b2D : B2 → D → D → Option D
  | .join, .str a, .list ys => (asStrs ys).bind (joinD a)
  | .split, .str a, .str b => if decide ((b.length == 0) = false ∧ a.length + 2 ≤ sizeLine) then some (.list ((Txt.split a b).map .str)) else none
  | .index, .list ys, y => indexD ys y
  | .min, .int a, .int b => some (.int (if b < a then b else a))
  | .max, .int a, .int b => some (.int (if b > a then b else a))
  | _, _, _ => none
def isTy : D → Ty → Bool
  | .int _, .int => true
  | .bool _, .int => true
  | .bool _, .bool => true
  | .str _, .str => true
  | .tuple _, .tuple => true
  | .list _, .list => true
  | .dict _, .dict => true
  | _, _ => false
def rgD (lo hi : Int) : List D := (List.range (hi - lo).toNat).map fun (i : Nat) => .int (lo + i)
def rgOk (lo hi : Int) : Bool := inB 4611686018427387903 lo && inB 4611686018427387903 hi
theorem rgOk_inv {lo hi : Int} (h : rgOk lo hi = true) : -(2 ^ 62) ≤ lo ∧ lo < 2 ^ 62 ∧ -(2 ^ 62) ≤ hi ∧ hi < 2 ^ 62 := by
  unfold rgOk at h
  rw [Bool.and_eq_true, inB_iff, inB_iff] at h
  omega
def zipD : List D → List D → List D
  | x :: xs, y :: ys => .tuple [x, y] :: zipD xs ys
  | _, _ => []
def zip3D : List D → List D → List D → List D
  | x :: xs, y :: ys, z :: zs => .tuple [x, y, z] :: zip3D xs ys zs
  | _, _, _ => []
def enumFrom : Nat → List D → List D
  | _, [] => []
  | n, x :: xs => .tuple [.int n, x] :: enumFrom (n + 1) xs

def isBool (b : Bool) : D → Option Bool
  | .bool c => some (c == b)
  | _ => none
def isNone : D → Bool
  | .none => true
  | _ => false

/-! ### names -/
inductive Opd where
  | val (d : D) | loc (i : Nat)
def slot (s : LS) (i : Nat) : Option SV := (s[i]?).join
def getO (s : LS) : Opd → Option D
  | .val d => some d
  | .loc i => (slot s i).map (·.d)
def putS (s : LS) (i : Nat) (x : SV) : LS := s.set i (some x)
/-- a name read as a value that goes elsewhere -/
def leak (s : LS) (i : Nat) : Option (SV × LS) := (slot s i).bind fun x => match x.m with
  | .fz => some (⟨.fz, x.d⟩, s)
  | .fi => some (⟨.fz, x.d⟩, s)
  | .ow => some (⟨.fz, x.d⟩, putS s i ⟨.fz, x.d⟩)
  | .io => some (⟨.fz, x.d⟩, putS s i ⟨.fi, x.d⟩)
  | .lk => none
  | .li => none
/-- may the name be given another thing -/
def free (s : LS) (i : Nat) : Bool := match s[i]? with
  | none => false
  | some none => true
  | some (some x) => match x.m with
    | .fz => true
    | .ow => true
    | _ => false
def store (s : LS) (i : Nat) (x : SV) : Option LS := if free s i then some (putS s i x) else none
def stores (s : LS) : List Nat → List D → Option LS
  | [], [] => some s
  | i :: is, d :: ds => (store s i ⟨.fz, d⟩).bind fun s => stores s is ds
  | _, _ => none
def bindP (s : LS) : Pt → D → Option LS
  | .v i, d => store s i ⟨.fz, d⟩
  | .t is, .tuple ds => stores s is ds
  | .t _, _ => none
def opA (e : CE) (r : Option (SV × LS)) (s : LS) : Option (Opd × LS) := match e with
  | .v i => (slot s i).map fun _ => (.loc i, s)
  | _ => r.map fun x => (.val x.1.d, x.2)
/-- a thing that is walked: its items, and the name that is locked meanwhile -/
def lockO (s : LS) : Opd → Option (List D × Option Nat × LS)
  | .val (.list xs) => some (xs, none, s)
  | .val (.tuple xs) => some (xs, none, s)
  | .val _ => none
  | .loc i => (slot s i).bind fun x => match x.d with
    | .tuple xs => some (xs, none, s)
    | .list xs => match x.m with
      | .ow => some (xs, some i, putS s i ⟨.lk, x.d⟩)
      | .io => some (xs, some i, putS s i ⟨.li, x.d⟩)
      | _ => some (xs, none, s)
    | _ => none
def unlock (s : LS) : Option Nat → LS
  | none => s
  | some i => match slot s i with
    | some ⟨.lk, d⟩ => putS s i ⟨.ow, d⟩
    | some ⟨.li, d⟩ => putS s i ⟨.io, d⟩
    | _ => s
def listOf : D → Option (List D)
  | .list xs => some xs
  | .tuple xs => some xs
  | _ => none

/-! ### calls -/
def argV (s : LS) : Opd → Option SV
  | .val d => some ⟨.fz, d⟩
  | .loc i => (slot s i).map fun x => match x.m with
    | .fz => ⟨.fz, x.d⟩
    | .fi => ⟨.fz, x.d⟩
    | .ow => ⟨.io, x.d⟩
    | .io => ⟨.io, x.d⟩
    | .lk => ⟨.li, x.d⟩
    | .li => ⟨.li, x.d⟩
def argVs (s : LS) : List Opd → Option (List SV)
  | [] => some []
  | o :: os => (argV s o).bind fun x => (argVs s os).map (x :: ·)
/-- the names handed on by reference, with their places -/
def byRef (s : LS) : List Opd → List Nat
  | [] => []
  | .val _ :: os => byRef s os
  | .loc i :: os => match slot s i with
    | some ⟨.ow, _⟩ => i :: byRef s os
    | some ⟨.io, _⟩ => i :: byRef s os
    | _ => byRef s os
def backs (s : LS) : List Opd → List (Option SV) → Option LS
  | [], _ => some s
  | .val _ :: os, _ :: rs => backs s os rs
  | .loc i :: os, r :: rs => match slot s i, r with
    | some ⟨.ow, _⟩, some ⟨.io, d⟩ => backs (putS s i ⟨.ow, d⟩) os rs
    | some ⟨.ow, _⟩, some ⟨.fi, d⟩ => backs (putS s i ⟨.fz, d⟩) os rs
    | some ⟨.io, _⟩, some ⟨.io, d⟩ => backs (putS s i ⟨.io, d⟩) os rs
    | some ⟨.io, _⟩, some ⟨.fi, d⟩ => backs (putS s i ⟨.fi, d⟩) os rs
    | some ⟨.ow, _⟩, _ => none
    | some ⟨.io, _⟩, _ => none
    | _, _ => backs s os rs
  | _ :: _, [] => none
abbrev CF := Nat → List SV → Option (SV × List (Option SV))
def callE (cf : CF) (f : Nat) (os : List Opd) (s : LS) : Option (SV × LS) :=
  if (byRef s os).Nodup then (argVs s os).bind fun vs => (cf f vs).bind fun r => if r.1.m.isX then none else (backs s os r.2).map fun s' => (r.1, s') else none
def callX (cf : CF) (f : Nat) (os : List Opd) (s : LS) : Option D :=
  (argVs s os).bind fun vs => (cf f vs).bind fun r => if r.1.m.isX && (byRef s os).isEmpty then some r.1.d else none

/-! ### loops -/
inductive Fl where
  | nx (s : LS) | rt (v : SV) (s : LS) | bk (s : LS) | ct (s : LS) | ex (x : D) (s : LS)
def Fl.map (f : LS → LS) : Fl → Fl
  | .nx s => .nx (f s)
  | .rt v s => .rt v (f s)
  | .bk s => .bk (f s)
  | .ct s => .ct (f s)
  | .ex x s => .ex x (f s)
def forL (f : D → LS → Option Fl) : List D → LS → Option Fl
  | [], s => some (.nx s)
  | x :: xs, s => (f x s).bind fun
    | .nx s' => forL f xs s'
    | .ct s' => forL f xs s'
    | .bk s' => some (.nx s')
    | .rt v s' => some (.rt v s')
    | .ex x s' => some (.ex x s')
def whL (c : LS → Option (Bool × LS)) (b : LS → Option Fl) : Nat → LS → Option Fl
  | 0, _ => none
  | n + 1, s => (c s).bind fun
    | (true, s1) => (b s1).bind fun
      | .nx s' => whL c b n s'
      | .ct s' => whL c b n s'
      | .bk s' => some (.nx s')
      | .rt v s' => some (.rt v s')
      | .ex x s' => some (.ex x s')
    | (false, s1) => some (.nx s1)
def compL (f : D → LS → Option (List D × LS)) : List D → LS → Option (List D × LS)
  | [], s => some ([], s)
  | x :: xs, s => (f x s).bind fun r => (compL f xs r.2).map fun q => (r.1 ++ q.1, q.2)
def wipeS (s : LS) : List Nat → LS
  | [] => s
  | i :: is => (wipeS s is).set i none
/-- the block's own names must be free in the def; what they held is set apart -/
def ownOk (s : LS) (own : List Nat) : Bool := own.all fun i => match s[i]? with
  | some none => true
  | some (some x) => decide (x.m = .fz)
  | none => false
def backS (s0 s : LS) : List Nat → LS
  | [] => s
  | i :: is => (backS s0 s is).set i (slot s0 i)
def tst : Option (SV × LS) → Option (Bool × LS)
  | some (⟨_, .bool b⟩, s) => some (b, s)
  | _ => none
def int? : D → Option Int
  | .int i => some i
  | _ => none

/-! ### what a term comes to -/
def WF : Nat := 1000000
section
variable (cf : CF)
mutual
def evE : CE → LS → Option (SV × LS)
  | .v i, s => leak s i
  | .non, s => some (⟨.fz, .none⟩, s)
  | .bl b, s => some (⟨.fz, .bool b⟩, s)
  | .int i, s => some (⟨.fz, .int i⟩, s)
  | .str x, s => some (⟨.fz, .str x⟩, s)
  | .gI _ i, s => some (⟨.fz, .int i⟩, s)
  | .gS _ x, s => some (⟨.fz, .str x⟩, s)
  | .tup es, s => (evEs es s).bind fun r => if szOk r.1.length then some (⟨.fz, .tuple r.1⟩, r.2) else none
  | .lst es, s => (evEs es s).bind fun r => if szOk r.1.length then some (⟨.ow, .list r.1⟩, r.2) else none
  | .bin op a b, s => (opA a (evE a s) s).bind fun x => (opA b (evE b x.2) x.2).bind fun y =>
      (getO y.2 x.1).bind fun dx => (getO y.2 y.1).bind fun dy => (binD op dx dy).map fun r => (fresh r, y.2)
  | .neg a, s => (evE a s).bind fun x => (int? x.1.d).map fun i => (⟨.fz, .int (-i)⟩, x.2)
  | .cmp op a b, s => (opA a (evE a s) s).bind fun x => (opA b (evE b x.2) x.2).bind fun y =>
      (getO y.2 x.1).bind fun dx => (getO y.2 y.1).bind fun dy => (cmpD op dx dy).map fun r => (⟨.fz, .bool r⟩, y.2)
  | .ch2 o1 o2 a b c, s => (evE a s).bind fun x => (evE b x.2).bind fun y => (cmpD o1 x.1.d y.1.d).bind fun k =>
      if k then (evE c y.2).bind fun z => (cmpD o2 y.1.d z.1.d).map fun r => (⟨.fz, .bool r⟩, z.2) else some (⟨.fz, .bool false⟩, y.2)
  | .ch3 o1 o2 o3 a b c d, s => (evE a s).bind fun x => (evE b x.2).bind fun y => (cmpD o1 x.1.d y.1.d).bind fun k =>
      if k then (evE c y.2).bind fun z => (cmpD o2 y.1.d z.1.d).bind fun k2 =>
        if k2 then (evE d z.2).bind fun w => (cmpD o3 z.1.d w.1.d).map fun r => (⟨.fz, .bool r⟩, w.2) else some (⟨.fz, .bool false⟩, z.2)
      else some (⟨.fz, .bool false⟩, y.2)
  | .isN a, s => (opA a (evE a s) s).bind fun x => (getO x.2 x.1).map fun d => (⟨.fz, .bool (isNone d)⟩, x.2)
  | .isNN a, s => (opA a (evE a s) s).bind fun x => (getO x.2 x.1).map fun d => (⟨.fz, .bool (!isNone d)⟩, x.2)
  | .and es, s => evAnd es s
  | .or es, s => evOr es s
  | .not a, s => (tst (evE a s)).map fun x => (⟨.fz, .bool (!x.1)⟩, x.2)
  | .ite c a b, s => (tst (evE c s)).bind fun x => if x.1 then evE a x.2 else evE b x.2
  | .idx a i, s => (opA a (evE a s) s).bind fun x => (evE i x.2).bind fun y =>
      (getO y.2 x.1).bind fun dx => (idxD dx y.1.d).map fun r => (⟨.fz, r⟩, y.2)
  | .slc a lo hi, s => (opA a (evE a s) s).bind fun x => (evO lo x.2).bind fun y => (evO hi y.2).bind fun z =>
      (getO z.2 x.1).bind fun dx => (slcD dx y.1 z.1).map fun r => (fresh r, z.2)
  | .rev a, s => (opA a (evE a s) s).bind fun x => (getO x.2 x.1).bind fun dx => (revD dx).map fun r => (fresh r, x.2)
  | .call f as, s => (evAs as s).bind fun r => callE cf f r.1 r.2
  | .b1 f a, s => (opA a (evE a s) s).bind fun x => (getO x.2 x.1).bind fun dx => (b1D f dx).map fun r => (fresh r, x.2)
  | .b2 f a b, s => (evE a s).bind fun x => (evE b x.2).bind fun y => (b2D f x.1.d y.1.d).map fun r => (⟨.fz, r⟩, y.2)
  | .isI a t, s => (opA a (evE a s) s).bind fun x => (getO x.2 x.1).bind fun d => if oddD d then none else some (⟨.fz, .bool (isTy d t)⟩, x.2)
  | .lrg b, s => (evE b s).bind fun y => (int? y.1.d).bind fun j =>
      if rgOk 0 j && szOk (j - 0).toNat then some (⟨.ow, .list (rgD 0 j)⟩, y.2) else none
  | .lcp own e p it c, s => (evI it s).bind fun w => if ownOk w.2.2 own then
      (compL (fun x s1 => (bindP (wipeS s1 own) p x).bind fun s2 => (evC c s2).bind fun k =>
        if k.1 then (evE e k.2).map fun y => ([y.1.d], y.2) else some ([], k.2)) w.1 w.2.2).bind fun r =>
      if szOk r.1.length then some (⟨.ow, .list r.1⟩, unlock (backS w.2.2 r.2 own) w.2.1) else none
      else none
  | .lc2 own own2 e p it c p2 a2 c2, s => (evI it s).bind fun w => if ownOk w.2.2 own then
      (compL (fun x s1 => (bindP (wipeS s1 own) p x).bind fun s2 => (evC c s2).bind fun k => if k.1 then
          (evE a2 k.2).bind fun y => (listOf y.1.d).bind fun ds2 => if ownOk y.2 own2 then (compL (fun x2 t1 => (bindP (wipeS t1 own2) p2 x2).bind fun t2 => (evC c2 t2).bind fun k2 =>
            if k2.1 then (evE e k2.2).map fun y => ([y.1.d], y.2) else some ([], k2.2)) ds2 y.2).map fun q => (q.1, backS y.2 q.2 own2) else none
        else some ([], k.2)) w.1 w.2.2).bind fun r =>
      if szOk r.1.length then some (⟨.ow, .list r.1⟩, unlock (backS w.2.2 r.2 own) w.2.1) else none
      else none
  | .scp own e p it c, s => (evI it s).bind fun w => if ownOk w.2.2 own then
      (compL (fun x s1 => (bindP (wipeS s1 own) p x).bind fun s2 => (evC c s2).bind fun k =>
        if k.1 then (evE e k.2).map fun y => ([y.1.d], y.2) else some ([], k.2)) w.1 w.2.2).bind fun r =>
      (asInts r.1).bind fun ns => if ns.length < 64 then some (⟨.ow, .list ((sortI (dedup ns)).map .int)⟩, unlock (backS w.2.2 r.2 own) w.2.1) else none
      else none
  | .dic kvs, s => (evK kvs s).bind fun r => some (⟨.ow, .dict r.1⟩, r.2)
  | .isB a b, s => (opA a (evE a s) s).bind fun x => (getO x.2 x.1).bind fun d => (isBool b d).map fun r => (⟨.fz, .bool r⟩, x.2)
  | .mkx k _ as, s => (evEs as s).bind fun r => (mkX k r.1).map fun x => (⟨.fz, x⟩, r.2)
  | .isX a cs, s => (evE a s).bind fun x => (isUp cs x.1.d).map fun b => (⟨.fz, .bool b⟩, x.2)
  | .fld a f, s => (evE a s).bind fun x => (fldOf f x.1.d).map fun d => (⟨.fz, d⟩, x.2)
  | .lam _ _, _ => none
  | .cav _ _, _ => none
def evAnd : CEs → LS → Option (SV × LS)
  | .nil, _ => none
  | .cons e .nil, s => evE e s
  | .cons e (.cons e2 r), s => (tst (evE e s)).bind fun x => if x.1 then evAnd (.cons e2 r) x.2 else some (⟨.fz, .bool false⟩, x.2)
  | .cons _ (.star _ _), _ => none
  | .star _ _, _ => none
def evOr : CEs → LS → Option (SV × LS)
  | .nil, _ => none
  | .cons e .nil, s => evE e s
  | .cons e (.cons e2 r), s => (tst (evE e s)).bind fun x => if x.1 then some (⟨.fz, .bool true⟩, x.2) else evOr (.cons e2 r) x.2
  | .cons _ (.star _ _), _ => none
  | .star _ _, _ => none
def evEs : CEs → LS → Option (List D × LS)
  | .nil, s => some ([], s)
  | .cons e r, s => (evE e s).bind fun x => (evEs r x.2).map fun q => (x.1.d :: q.1, q.2)
  | .star e r, s => (evE e s).bind fun x => (listOf x.1.d).bind fun xs => (evEs r x.2).map fun q => (xs ++ q.1, q.2)
def evAs : CEs → LS → Option (List Opd × LS)
  | .nil, s => some ([], s)
  | .cons e r, s => (opA e (evE e s) s).bind fun x => (evAs r x.2).map fun q => (x.1 :: q.1, q.2)
  | .star _ _, _ => none
def evO : CO → LS → Option (Option Int × LS)
  | .no, s => some (none, s)
  | .yes e, s => (evE e s).bind fun x => (int? x.1.d).map fun i => (some i, x.2)
def evC : CO → LS → Option (Bool × LS)
  | .no, s => some (true, s)
  | .yes e, s => tst (evE e s)
def evI : CI → LS → Option (List D × Option Nat × LS)
  | .e a, s => (opA a (evE a s) s).bind fun x => lockO x.2 x.1
  | .rg1 a, s => (evE a s).bind fun x => (int? x.1.d).bind fun j => if rgOk 0 j then some (rgD 0 j, none, x.2) else none
  | .rg2 a b, s => (evE a s).bind fun x => (evE b x.2).bind fun y => (int? x.1.d).bind fun i => (int? y.1.d).bind fun j => if rgOk i j then some (rgD i j, none, y.2) else none
  | .enu a, s => (opA a (evE a s) s).bind fun x => (lockO x.2 x.1).map fun w => (enumFrom 0 w.1, w.2)
  | .zip a b, s => (evE a s).bind fun x => (evE b x.2).bind fun y => match x.1.d, y.1.d with
    | .list xs, .list ys => some (zipD xs ys, none, y.2)
    | .tuple xs, .tuple ys => some (zipD xs ys, none, y.2)
    | _, _ => none
  | .zip3 a b c, s => (evE a s).bind fun x => (evE b x.2).bind fun y => (evE c y.2).bind fun z => match x.1.d, y.1.d, z.1.d with
    | .tuple xs, .tuple ys, .tuple zs => some (zip3D xs ys zs, none, z.2)
    | _, _, _ => none
def evK : CK → LS → Option (List (D × D) × LS)
  | .nil, s => some ([], s)
  | .cons k e r, s => (evE e s).bind fun x => (evK r x.2).bind fun q => if (dLook k q.1).isNone then some ((.str k, x.1.d) :: q.1, q.2) else none
end
/-! ### what a term raises -/
mutual
def xE : CE → LS → Option (D × LS)
  | .call f as, s => orX (xAs as s) ((evAs cf as s).bind fun r => (callX cf f r.1 r.2).map fun x => (x, r.2))
  | .idx a _, s => xE a s
  | .isN a, s => xE a s
  | .isNN a, s => xE a s
  | .b1 _ a, s => xE a s
  | .lcp _ _ _ it _, s => xI it s
  | _, _ => none
def xAs : CEs → LS → Option (D × LS)
  | .nil, _ => none
  | .cons e r, s => orX (xE e s) ((opA e (evE cf e s) s).bind fun x => xAs r x.2)
  | .star _ _, _ => none
def xI : CI → LS → Option (D × LS)
  | .e a, s => xE a s
  | _, _ => none
end
def xPs : CEs → LS → Option (D × LS)
  | .nil, _ => none
  | .cons e r, s => orX (xE cf e s) ((evE cf e s).bind fun x => xPs r x.2)
  | .star _ _, _ => none
/-- what a statement's own expression raises -/
def xS (st : CS) (s : LS) : Option (D × LS) := match st with
  | .asg _ e => xE cf e s
  | .ex e => xE cf e s
  | .ret e => xE cf e s
  | .app i e => (slot s i).bind fun x0 => if isTy x0.d .list then xE cf e s else none
  | .seti _ _ e => xE cf e s
  | .par _ es => xPs cf es s
  | .ite c _ _ => xE cf c s
  | _ => none
/-- what stands on the right of a, b = x, y -/
def evPs : CEs → LS → Option (List SV × LS)
  | .nil, s => some ([], s)
  | .cons e r, s => (evE cf e s).bind fun x => (evPs r x.2).map fun q => (x.1 :: q.1, q.2)
  | .star _ _, _ => none
def parS (s : LS) : List Nat → List SV → Option LS
  | [], [] => some s
  | i :: is, x :: xs => if x.m.isNew then (store s i x).bind fun s => parS s is xs else none
  | _, _ => none
/-- a returned name hands its list on -/
def evR (e : CE) (s : LS) : Option (SV × LS) := match e with
  | .v i => match slot s i with
    | some ⟨.ow, d⟩ => some (⟨.ow, d⟩, s.set i none)
    | _ => leak s i
  | _ => evE cf e s
def asgE (p : Pt) (x : SV × LS) : Option LS := match p with
  | .v i => if x.1.m.isNew then store x.2 i x.1 else none
  | .t is => bindP x.2 (.t is) x.1.d
def appS (s : LS) (i : Nat) (y : D) : Option LS := (slot s i).bind fun x => match x.m, x.d with
  | .ow, .list xs => if szOk (xs.length + 1) then some (putS s i ⟨.ow, .list (xs ++ [y])⟩) else none
  | .io, .list xs => if szOk (xs.length + 1) then some (putS s i ⟨.io, .list (xs ++ [y])⟩) else none
  | _, _ => none
def setD (d k y : D) : Option D := match d, k with
  | .list xs, .int i => (L2.ixN xs.length i).map fun j => .list (xs.set j y)
  | .dict kvs, .str x => if kvs.length < 1000 then some (.dict (dPut x y kvs)) else none
  | _, _ => none
def setiS (s : LS) (i : Nat) (k y : D) : Option LS := (slot s i).bind fun x => match x.m with
  | .ow => (setD x.d k y).map fun d => putS s i ⟨.ow, d⟩
  | .io => (setD x.d k y).map fun d => putS s i ⟨.io, d⟩
  | _ => none
/-! ### an except suite -/
def uaD (x : D) : UA → Option D
  | .non => some .none
  | .bl b => some (.bool b)
  | .str t => some (.str t)
  | .fld f => fldOf f x
def uaDs (x : D) : List UA → Option (List D)
  | [] => some []
  | u :: r => (uaD x u).bind fun d => (uaDs x r).map (d :: ·)
def ueV (x : D) : UE → Option SV
  | .a u => (uaD x u).map fun d => ⟨.fz, d⟩
  | .l us => if us.length ≤ 1000 then (uaDs x us).map fun ds => ⟨.ow, .list ds⟩ else none
def evU (x : D) (s : LS) : US → Option Fl
  | .asg i e => (ueV x e).bind fun v => (store s i v).map .nx
  | .app i e => (slot s i).bind fun x0 => if isTy x0.d .list then (ueV x e).bind fun v => (appS s i v.d).map .nx else none
  | .seti i k e => (uaD x e).bind fun d => (slot s i).bind fun _ => (setiS s i (.int k) d).map .nx
  | .ret e => (ueV x e).map fun v => .rt v s
  | .keep i => (exOf x).bind fun _ => (store s i ⟨.fz, x⟩).map .nx
def dropN (s : LS) : Option Nat → Option LS
  | none => some s
  | some n => if free s n then some (s.set n none) else none
mutual
def evS : CS → LS → Option Fl
  | .asg p e, s => (evE cf e s).bind fun x => (asgE p x).map .nx
  | .par is es, s => (evPs cf es s).bind fun r => (parS r.2 is r.1).map .nx
  | .app i e, s => (slot s i).bind fun x0 => if isTy x0.d .list then (evE cf e s).bind fun y => (appS y.2 i y.1.d).map .nx else none
  | .seti i k e, s => (evE cf e s).bind fun y => (slot y.2 i).bind fun _ => (evE cf k y.2).bind fun z => (setiS z.2 i z.1.d y.1.d).map .nx
  | .ex e, s => (evE cf e s).map fun x => .nx x.2
  | .ret e, s => (evR cf e s).map fun x => .rt x.1 x.2
  | .retN, s => some (.rt ⟨.fz, .none⟩ s)
  | .ite c a b, s => (tst (evE cf c s)).bind fun x => if x.1 then evSs a x.2 else evSs b x.2
  | .for_ p it b, s => (evI cf it s).bind fun w => (forL (fun x s1 => (bindP s1 p x).bind fun s2 => evSs b s2) w.1 w.2.2).map (Fl.map fun t => unlock t w.2.1)
  | .whl c b, s => whL (fun s => tst (evE cf c s)) (fun s => evSs b s) WF s
  | .pass, s => some (.nx s)
  | .brk, s => some (.bk s)
  | .cont, s => some (.ct s)
  | .nev, _ => none
  | .rx st, s => match xS cf st s with
    | some (x, s1) => some (.ex x s1)
    | none => evS st s
  | .rai k as, s => (evEs cf as s).bind fun r => (mkX k r.1).map fun x => .ex x r.2
  | .try_ b cs n u, s => (evSs b s).bind fun
    | .ex x s1 => match isUp cs x with
      | some true => (dropN s1 n).bind fun s2 => evU x s2 u
      | _ => none
    | fl => some fl
def evSs : CSs → LS → Option Fl
  | .nil, s => some (.nx s)
  | .cons a r, s => (evS a s).bind fun
    | .nx s' => evSs r s'
    | f => some f
end
end
def runFn (cf : CF) (fn : Fn) (as : List SV) : Option (SV × List (Option SV)) :=
  if as.length = fn.np then (evSs cf fn.body (as.map some ++ List.replicate (fn.ns - fn.np) none)).bind fun
    | .nx s => some (⟨.fz, .none⟩, s.take fn.np)
    | .rt v s => some (v, s.take fn.np)
    | .ex x _ => some (⟨.lk, x⟩, [])
    | _ => none
  else none
def callF (tab : List Fn) : Nat → CF
  | 0, _, _ => none
  | n + 1, f, as => (tab[f]?).bind fun fn => runFn (callF tab n) fn as
theorem ite_else {c : Prop} [Decidable c] {α : Type} {x : Option α} {y : α} (h : (if c then none else x) = some y) : ¬ c ∧ x = some y := by
  by_cases hc : c
  · rw [if_pos hc] at h; cases h
  · rw [if_neg hc] at h; exact ⟨hc, h⟩
theorem dLook_odd {k : Str} {v : D} : ∀ {kvs : List (D × D)}, dLook k kvs = some v → oddD (.dict kvs) = false
  | [], h => by cases h
  | (.str _, _) :: _, _ => rfl
  | (.none, _) :: _, h | (.bool _, _) :: _, h | (.int _, _) :: _, h | (.list _, _) :: _, h | (.tuple _, _) :: _, h | (.dict _, _) :: _, h => by cases h
end LP

end
section
set_option Elab.async false
set_option linter.all false
set_option maxRecDepth 100000
set_option maxHeartbeats 2000000
/-! LP2: how plain data lie in the hand layer's heaps. -/
namespace LP
open PySem PySem.Spec L2
open PyProof.Rows hiding St

/-- a lambda of the text: the def's name with its own, its parameters, body, scope; what it catches, in order -/
structure LamR where
  qual : Str
  params : Arguments
  body : Expr
  scope : Scope
  cap : List Str
/-- the lambdas of a law, and what is kept true of the heap (the tables of their code objects) -/
class Zk where
  lams : List LamR
  xs : List Nat
  ts : List Str
  z : PySem.W.Frag → Hp → Hp → Prop
  new : ∀ {K : PySem.W.Frag} {G H : Hp} {p : Addr} {o : HO}, z K G H → H p = none → z K G (upd H p o)
  wr : ∀ {K : PySem.W.Frag} {G H : Hp} {p : Addr} {o o' : HO}, z K G H → H p = some o → (∀ ps, o ≠ .tbl ps) → z K G (upd H p o')
  mono : ∀ {K : PySem.W.Frag} {G G' H : Hp}, z K G H → Same G G' → z K G' H
/-- no lambdas -/
instance (priority := low) zk0 : Zk := ⟨[], [], [], fun _ _ _ => True, fun _ _ => trivial, fun _ _ _ => trivial, fun _ _ => trivial⟩
/-- at a: an exception of the class at C, its dict at d, raised or not -/
def ExA (a C : Addr) (d : Option Addr) : HO := .ext fun h => ∃ (oe : Obj) (vs : Array Value), h.get? a = some oe ∧ oe.cls = .ref C ∧ oe.dict = d ∧ oe.data = .fields vs
/-- at a: a lambda's function with its cells -/
def FunO (L : LamR) (cl : List (Str × Addr)) (pm : Value) (c' : Addr) (ctv : Value) (a : Addr) : HO := .ext fun h => h.get? a = some (PySem.W.kla_obj "<lambda>" L.qual L.params L.body L.scope cl pm c' ctv)
/-- at c: a cell that holds v -/
def CelO (c : Addr) (v : V) : HO := .ext fun h => ∃ u, RelV v u ∧ h.IsCell c (some u)
def CapG (G : Hp) (cl : List (Str × Addr)) : List Str → List V → Prop := Paired fun x v => ∃ c, cl.lookup x = some c ∧ G c = some (CelO c v)
variable [Zk]
mutual
/-- in the heap G the value v is the data d -/
inductive Den (K : PySem.W.Frag) (G : Hp) : V → D → Prop
  | non : Den K G .non .none
  | bl (b : Bool) : Den K G (.bl b) (.bool b)
  | int (i : Int) : Den K G (.int i) (.int i)
  | str (x : Str) : Den K G (.str x) (.str x)
  | lst {a : Addr} {xs : List V} {ds : List D} : SqL K G a xs → DenL K G xs ds → Den K G (.ref a) (.list ds)
  | tup {a : Addr} {xs : List V} {ds : List D} : G a = some (.tup xs) → DenL K G xs ds → Den K G (.ref a) (.tuple ds)
  | dic {a : Addr} {ks : List (Key × V)} {kvs : List (D × D)} : G a = some (.dK ks) → DenK K G ks kvs → Den K G (.ref a) (.dict kvs)
  | exc {a dx : Addr} {k : Nat} {x f : Str} {v : V} {d : D} : k ∈ Zk.xs → exTab[k]? = some (x, some f) → G a = some (ExA a (He.ga K x) (some dx)) → G dx = some (.xd [(f, v)]) → Den K G v d → Den K G (.ref a) (.dict [(.int k, d)])
  | exn {a : Addr} {k : Nat} {x : Str} : k ∈ Zk.xs → exTab[k]? = some (x, none) → G a = some (ExA a (He.ga K x) none) → Den K G (.ref a) (.dict [(.int k, .none)])
  | clo {a c' : Addr} {l : Nat} {L : LamR} {cl : List (Str × Addr)} {pm ctv : Value} {vs : List V} {ds : List D} : Zk.lams[l]? = some L → G a = some (FunO L cl pm c' ctv a) → G c' = some (LamX.CodeO c' L.qual) → CapG G cl L.cap vs → DenL K G vs ds → Den K G (.ref a) (.dict [(.bool true, .tuple (.int l :: ds))])
inductive DenL (K : PySem.W.Frag) (G : Hp) : List V → List D → Prop
  | nil : DenL K G [] []
  | cons {v : V} {vs : List V} {d : D} {ds : List D} : Den K G v d → DenL K G vs ds → DenL K G (v :: vs) (d :: ds)
inductive DenK (K : PySem.W.Frag) (G : Hp) : List (Key × V) → List (D × D) → Prop
  | nil : DenK K G [] []
  | cons {x : Str} {v : V} {d : D} {ks : List (Key × V)} {kvs : List (D × D)} : Den K G v d → DenK K G ks kvs → DenK K G ((.inr x, v) :: ks) ((.str x, d) :: kvs)
end
section
variable {K : PySem.W.Frag} {G G' : Hp}
theorem sameT {H H' : Hp} {a : Addr} {xs : List V} (e : Same H H') (h : SqT K H a xs) : SqT K H' a xs := by
  rcases h with (h | ⟨o, h⟩) | h
  · exact .inl (.inl (e _ _ h))
  · exact .inl (.inr ⟨o, e _ _ h⟩)
  · exact .inr h
theorem capG_mono (e : Same G G') {cl : List (Str × Addr)} : ∀ {xs : List Str} {vs : List V}, CapG G cl xs vs → CapG G' cl xs vs
  | _, _, .nil => .nil
  | _, _, .cons ⟨c, h1, h2⟩ l => .cons ⟨c, h1, e _ _ h2⟩ (capG_mono e l)
mutual
theorem Den.mono (e : Same G G') : ∀ {v : V} {d : D}, Den K G v d → Den K G' v d
  | _, _, .non => .non
  | _, _, .bl b => .bl b
  | _, _, .int i => .int i
  | _, _, .str x => .str x
  | _, _, .lst h l => .lst (e.seq h) (DenL.mono e l)
  | _, _, .tup h l => .tup (e _ _ h) (DenL.mono e l)
  | _, _, .dic h l => .dic (e _ _ h) (DenK.mono e l)
  | _, _, .exc hk ht ha hd h => .exc hk ht (e _ _ ha) (e _ _ hd) (h.mono e)
  | _, _, .exn hk ht ha => .exn hk ht (e _ _ ha)
  | _, _, .clo hl ha hc hg l => .clo hl (e _ _ ha) (e _ _ hc) (capG_mono e hg) (DenL.mono e l)
theorem DenL.mono (e : Same G G') : ∀ {vs : List V} {ds : List D}, DenL K G vs ds → DenL K G' vs ds
  | _, _, .nil => .nil
  | _, _, .cons h l => .cons (h.mono e) (l.mono e)
theorem DenK.mono (e : Same G G') : ∀ {ks : List (Key × V)} {kvs : List (D × D)}, DenK K G ks kvs → DenK K G' ks kvs
  | _, _, .nil => .nil
  | _, _, .cons h l => .cons (h.mono e) (l.mono e)
end
theorem DenL.length : ∀ {vs : List V} {ds : List D}, DenL K G vs ds → vs.length = ds.length
  | _, _, .nil => rfl
  | _, _, .cons _ l => by rw [List.length_cons, List.length_cons, l.length]
theorem DenL.get : ∀ {vs : List V} {ds : List D} {i : Nat} {d : D}, DenL K G vs ds → ds[i]? = some d → ∃ v, vs[i]? = some v ∧ Den K G v d
  | _, _, _, _, .nil, e => by simp at e
  | _, _, 0, _, .cons h _, e => by simp at e; subst e; exact ⟨_, rfl, h⟩
  | _, _, i + 1, d, .cons _ l, e => by
    obtain ⟨v, h1, h2⟩ := DenL.get (i := i) (d := d) l (by simpa using e)
    exact ⟨v, by simpa using h1, h2⟩
theorem DenL.getV : ∀ {vs : List V} {ds : List D} {i : Nat} {v : V}, DenL K G vs ds → vs[i]? = some v → ∃ d, ds[i]? = some d ∧ Den K G v d
  | _, _, _, _, .nil, e => by simp at e
  | _, _, 0, _, .cons h _, e => by simp at e; subst e; exact ⟨_, rfl, h⟩
  | _, _, i + 1, d, .cons _ l, e => by
    obtain ⟨v, h1, h2⟩ := DenL.getV (i := i) l (by simpa using e)
    exact ⟨v, by simpa using h1, h2⟩
theorem DenL.append : ∀ {vs ws : List V} {ds es : List D}, DenL K G vs ds → DenL K G ws es → DenL K G (vs ++ ws) (ds ++ es)
  | _, _, _, _, .nil, r => r
  | _, _, _, _, .cons h l, r => .cons h (l.append r)
theorem DenL.take : ∀ {vs : List V} {ds : List D} (n : Nat), DenL K G vs ds → DenL K G (vs.take n) (ds.take n)
  | _, _, 0, _ => .nil
  | _, _, _ + 1, .nil => .nil
  | _, _, n + 1, .cons h l => .cons h (DenL.take n l)
theorem DenL.drop : ∀ {vs : List V} {ds : List D} (n : Nat), DenL K G vs ds → DenL K G (vs.drop n) (ds.drop n)
  | _, _, 0, l => l
  | _, _, _ + 1, .nil => .nil
  | _, _, n + 1, .cons _ l => DenL.drop n l
theorem DenL.set {v : V} {d : D} (h : Den K G v d) : ∀ {vs : List V} {ds : List D} (n : Nat), DenL K G vs ds → DenL K G (vs.set n v) (ds.set n d)
  | _, _, _, .nil => .nil
  | _, _, 0, .cons _ l => .cons h l
  | _, _, n + 1, .cons q l => .cons q (DenL.set h n l)
theorem DenL.reverse : ∀ {vs : List V} {ds : List D}, DenL K G vs ds → DenL K G vs.reverse ds.reverse
  | _, _, .nil => .nil
  | _, _, .cons h l => by
    rw [List.reverse_cons, List.reverse_cons]
    exact l.reverse.append (.cons h .nil)
theorem DenL.rep {vs : List V} {ds : List D} (l : DenL K G vs ds) : ∀ n : Nat, DenL K G (List.replicate n vs).flatten (List.replicate n ds).flatten
  | 0 => .nil
  | n + 1 => by
    rw [List.replicate_succ, List.replicate_succ, List.flatten_cons, List.flatten_cons]
    exact l.append (l.rep n)
theorem DenL.ints : ∀ {vs : List V} {ds : List D} {ns : List Int}, DenL K G vs ds → asInts ds = some ns → vs = ns.map V.int
  | _, _, ns, .nil, e => by
    simp [asInts] at e
    subst e
    rfl
  | _, d :: ds, ns, .cons h l, e => by
    cases d with
    | int i =>
      simp only [asInts, Option.map_eq_some_iff] at e
      obtain ⟨m, e1, e2⟩ := e
      subst e2
      cases h
      rw [l.ints e1]
      rfl
    | _ => simp [asInts] at e
theorem denL_ints : ∀ (ns : List Int), DenL K G (ns.map V.int) (ns.map PyData.int)
  | [] => .nil
  | n :: r => .cons (.int n) (denL_ints r)
theorem DenL.bools : ∀ {vs : List V} {ds : List D} {bs : List Bool}, DenL K G vs ds → asBools ds = some bs → vs = bs.map V.bl
  | _, _, ns, .nil, e => by
    simp [asBools] at e
    subst e
    rfl
  | _, d :: ds, ns, .cons h l, e => by
    cases d with
    | bool i =>
      simp only [asBools, Option.map_eq_some_iff] at e
      obtain ⟨m, e1, e2⟩ := e
      subst e2
      cases h
      rw [l.bools e1]
      rfl
    | _ => simp [asBools] at e
theorem DenL.atI {vs : List V} {ds : List D} {i : Int} {d : D} (l : DenL K G vs ds) (e : L2.atI ds i = some d) : ∃ v, L2.atI vs i = some v ∧ Den K G v d := by
  unfold L2.atI at e ⊢
  rw [l.length]
  cases h : ixN ds.length i with
  | none => rw [h] at e; cases e
  | some j =>
    rw [h] at e
    exact l.get e
theorem DenL.cut {vs : List V} {ds : List D} (l : DenL K G vs ds) (lo hi : Option Int) : DenL K G (cutV vs lo hi) (cutL ds lo hi) := by
  unfold cutV cutL
  rw [l.length]
  exact (l.drop _).take _
/-- the scalars -/
def scalD : D → Bool
  | .none => true
  | .bool _ => true
  | .int _ => true
  | .str _ => true
  | _ => false
mutual
theorem Den.dp : ∀ {v : V} {d : D}, Den K G v d → d.canLay0 = true → Dp K G v d
  | _, _, .non, _ => .non
  | _, _, .bl b, _ => .bl b
  | _, _, .int i, _ => .int i
  | _, _, .str x, _ => .str x
  | _, _, .lst h l, q => .lst h (l.dpAll (by simpa [PyData.canLay0] using q))
  | _, _, .tup h l, q => .tup (.inl (.inl h)) (l.dpAll (by simpa [PyData.canLay0] using q))
  | _, _, .dic h l, q => by simp [PyData.canLay0] at q
  | _, _, .exc _ _ _ _ _, q => by simp [PyData.canLay0] at q
  | _, _, .exn _ _ _, q => by simp [PyData.canLay0] at q
  | _, _, .clo _ _ _ _ _, q => by simp [PyData.canLay0] at q
theorem DenL.dpAll : ∀ {vs : List V} {ds : List D}, DenL K G vs ds → PyData.canLayAll0 ds = true → DpAll K G vs ds
  | _, _, .nil, _ => .nil
  | _, _, .cons h l, q => by
    simp only [PyData.canLayAll0, Bool.and_eq_true] at q
    exact .cons (h.dp q.1) (l.dpAll q.2)
end
end

/-! ### cells of one's own -/
def Cell (K : PySem.W.Frag) (G H : Hp) (a : Addr) : D → Prop
  | .list ds => ∃ xs, H a = some (.lst xs) ∧ DenL K G xs ds
  | .dict kvs => ∃ ks, H a = some (.dK ks) ∧ DenK K G ks kvs
  | _ => False
theorem Cell.mono {K : PySem.W.Frag} {G G' H H' : Hp} {a : Addr} {d : D} (c : Cell K G H a d) (g : Same G G') (h : ∀ o, H a = some o → H' a = some o) : Cell K G' H' a d := by
  cases d with
  | list ds => obtain ⟨xs, e, l⟩ := c; exact ⟨xs, h _ e, l.mono g⟩
  | dict kvs => obtain ⟨ks, e, l⟩ := c; exact ⟨ks, h _ e, l.mono g⟩
  | _ => exact c.elim
theorem Cell.at {K : PySem.W.Frag} {G H : Hp} {a : Addr} {d : D} (c : Cell K G H a d) : ∃ o, H a = some o := by
  cases d with
  | list ds => obtain ⟨xs, e, l⟩ := c; exact ⟨_, e⟩
  | dict kvs => obtain ⟨ks, e, l⟩ := c; exact ⟨_, e⟩
  | _ => exact c.elim
theorem Cell.den {K : PySem.W.Frag} {G H : Hp} {a : Addr} {d : D} (c : Cell K G H a d) {o : HO} (e : H a = some o) (n : G a = none) : Den K (upd G a o) (.ref a) d := by
  have sm : Same G (upd G a o) := fun b u q => by
    rw [upd_ne (ne_of_none q n)]
    exact q
  cases d with
  | list ds =>
    obtain ⟨xs, e', l⟩ := c
    rw [e] at e'
    cases e'
    exact .lst (.inl (.inl upd_same)) (l.mono sm)
  | dict kvs =>
    obtain ⟨ks, e', l⟩ := c
    rw [e] at e'
    cases e'
    exact .dic upd_same (l.mono sm)
  | _ => exact c.elim
def Md.isOw : Md → Bool
  | .ow => true
  | .io => true
  | _ => false
def Md.isFz : Md → Bool
  | .fz => true
  | .fi => true
  | _ => false
def Md.isLk : Md → Bool
  | .lk => true
  | .li => true
  | _ => false

/-- the state: F what others hold, as it stands; G what stays for ever; the slots -/
structure Rep (K : PySem.W.Frag) (F G : Hp) (s : LS) (σ : St) (H : Hp) : Prop where
  fh : Same F H
  gh : Same G H
  fg : ∀ b o, F b = some o → G b = none
  len : σ.length = s.length
  fz : ∀ i x, slot s i = some x → x.m.isFz = true → ∃ v, σ[i]? = some (some v) ∧ Den K G v x.d
  ow : ∀ i x, slot s i = some x → x.m.isOw = true → ∃ a, σ[i]? = some (some (.ref a)) ∧ F a = none ∧ G a = none ∧ Cell K G H a x.d
  lk : ∀ i x, slot s i = some x → x.m.isLk = true → ∃ a, σ[i]? = some (some (.ref a)) ∧ Cell K G F a x.d
  inj : ∀ i j x y a, slot s i = some x → slot s j = some y → x.m.isOw = true → y.m.isOw = true → σ[i]? = some (some (.ref a)) → σ[j]? = some (some (.ref a)) → i = j
  tb : Zk.z K G H
/-- no slot owns the cell -/
def NoOwn (s : LS) (σ : St) (a : Addr) : Prop := ∀ i x, slot s i = some x → x.m.isOw = true → σ[i]? ≠ some (some (.ref a))
/-- a result -/
def RV (K : PySem.W.Frag) (F G H : Hp) (s : LS) (σ : St) (v : V) (x : SV) : Prop := match x.m with
  | .fz => Den K G v x.d
  | .ow => ∃ p, v = .ref p ∧ F p = none ∧ G p = none ∧ Cell K G H p x.d ∧ NoOwn s σ p
  | _ => False
/-- an operand -/
def OR (K : PySem.W.Frag) (G : Hp) (σ : St) (v : V) : Opd → Prop
  | .val d => Den K G v d
  | .loc i => σ[i]? = some (some v)
/-- it can be read: for ever, or as it stands -/
inductive RdT (K : PySem.W.Frag) (G H : Hp) (v : V) (d : D) : Prop
  | den (h : Den K G v d)
  | cell {a : Addr} (e : v = .ref a) (n : G a = none) (c : Cell K G H a d)

theorem same_upd {H : Hp} {p : Addr} {o : HO} (h : H p = none) : Same H (upd H p o) := fun b x e => by
  rw [upd_ne (ne_of_none e h)]
  exact e
theorem Same.none {G H : Hp} (e : Same G H) {a : Addr} (h : H a = Option.none) : G a = Option.none := e.free h

section
variable {K : PySem.W.Frag} {F G H : Hp} {s : LS} {σ : St}
theorem slot_set {s : LS} {i j : Nat} {x : Option SV} : slot (s.set i x) j = if i = j ∧ i < s.length then x else slot s j := by
  unfold slot
  rw [List.getElem?_set]
  by_cases h : i = j
  · subst h
    by_cases hl : i < s.length
    · rw [if_pos rfl, if_pos hl, if_pos ⟨rfl, hl⟩]; rfl
    · rw [if_pos rfl, if_neg hl, if_neg (fun z => hl z.2), List.getElem?_eq_none (by omega)]
  · rw [if_neg h, if_neg (fun z => h z.1)]
theorem slot_lt {s : LS} {i : Nat} {x : SV} (h : slot s i = some x) : i < s.length := by
  unfold slot at h
  by_cases hl : i < s.length
  · exact hl
  · rw [List.getElem?_eq_none (by omega)] at h; cases h
theorem slot_put {s : LS} {i j : Nat} {x y : SV} (h : slot s i = some y) : slot (putS s i x) j = if i = j then some x else slot s j := by
  unfold putS
  rw [slot_set]
  by_cases e : i = j
  · rw [if_pos ⟨e, slot_lt h⟩, if_pos e]
  · rw [if_neg (fun z => e z.1), if_neg e]
/-- the heap has one more thing, which nobody owns -/
theorem Rep.newH (r : Rep K F G s σ H) {p : Addr} {o : HO} (n : H p = none) : Rep K F G s σ (upd H p o) := by
  have sm := same_upd (o := o) n
  refine ⟨r.fh.trans sm, r.gh.trans sm, r.fg, r.len, r.fz, fun i x h m => ?_, r.lk, r.inj, Zk.new r.tb n⟩
  obtain ⟨a, e, f, g, c⟩ := r.ow i x h m
  exact ⟨a, e, f, g, c.mono (Same.refl _) fun u q => sm _ _ q⟩
/-- it is known for ever -/
theorem Rep.known (r : Rep K F G s σ H) {p : Addr} {o : HO} (h : H p = some o) (f : F p = none) (g : G p = none) (no : NoOwn s σ p) : Rep K F (upd G p o) s σ H := by
  have sm := same_upd (o := o) g
  refine ⟨r.fh, fun b u q => ?_, fun b u q => ?_, r.len, fun i x hi m => ?_, fun i x hi m => ?_, fun i x hi m => ?_, r.inj, Zk.mono r.tb sm⟩
  · by_cases hb : b = p
    · subst hb; rw [upd_same] at q; cases q; exact h
    · rw [upd_ne hb] at q; exact r.gh _ _ q
  · rw [upd_ne (ne_of_none q f)]; exact r.fg _ _ q
  · obtain ⟨v, e, d⟩ := r.fz i x hi m
    exact ⟨v, e, d.mono sm⟩
  · obtain ⟨a, e, f', g', c⟩ := r.ow i x hi m
    have ne : a ≠ p := fun z => no i x hi m (by rw [e, z])
    exact ⟨a, e, f', by rw [upd_ne ne]; exact g', c.mono sm fun _ q => q⟩
  · obtain ⟨a, e, c⟩ := r.lk i x hi m
    exact ⟨a, e, c.mono sm fun _ q => q⟩
theorem Rep.noOwn_new (r : Rep K F G s σ H) {p : Addr} (n : H p = none) : NoOwn s σ p := fun i x h m e => by
  obtain ⟨a, e', _, _, c⟩ := r.ow i x h m
  rw [e] at e'
  cases e'
  obtain ⟨o, q⟩ := c.at
  rw [n] at q
  cases q
theorem Rep.noOwn_g (r : Rep K F G s σ H) {p : Addr} {o : HO} (g : G p = some o) : NoOwn s σ p := fun i x h m e => by
  obtain ⟨a, e', _, g', _⟩ := r.ow i x h m
  rw [e] at e'
  cases e'
  rw [g] at g'
  cases g'
theorem Rep.noOwn_f (r : Rep K F G s σ H) {p : Addr} {o : HO} (g : F p = some o) : NoOwn s σ p := fun i x h m e => by
  obtain ⟨a, e', f', _, _⟩ := r.ow i x h m
  rw [e] at e'
  cases e'
  rw [g] at f'
  cases f'
/-- a new thing that stays for ever -/
theorem Rep.newG (r : Rep K F G s σ H) {p : Addr} {o : HO} (n : H p = none) : Rep K F (upd G p o) s σ (upd H p o) :=
  (r.newH n).known upd_same (r.fh.free n) (r.gh.free n) (r.noOwn_new n)
/-- a new cell as a result -/
theorem Rep.newRes (r : Rep K F G s σ H) {p : Addr} {o : HO} {d : D} (n : H p = none) (c : Cell K G (upd H p o) p d) : RV K F G (upd H p o) s σ (.ref p) ⟨.ow, d⟩ :=
  ⟨p, rfl, r.fh.free n, r.gh.free n, c, r.noOwn_new n⟩
/-- a result let go for ever -/
theorem RV.den (q : RV K F G H s σ v x) (r : Rep K F G s σ H) : ∃ G', Same G G' ∧ Rep K F G' s σ H ∧ Den K G' v x.d := by
  obtain ⟨m, d⟩ := x
  cases m with
  | fz => exact ⟨G, Same.refl _, r, q⟩
  | ow =>
    obtain ⟨p, e, f, g, c, no⟩ := q
    subst e
    obtain ⟨o, h⟩ := c.at
    exact ⟨upd G p o, same_upd g, r.known h f g no, c.den h g⟩
  | _ => exact q.elim
/-- more is held by others -/
theorem Rep.hold (r : Rep K F G s σ H) {p : Addr} {o : HO} (h : H p = some o) (g : G p = none) (f : F p = none) (no : NoOwn s σ p) : Rep K (upd F p o) G s σ H := by
  have sm := same_upd (o := o) f
  refine ⟨fun b u q => ?_, r.gh, fun b u q => ?_, r.len, r.fz, fun i x hi m => ?_, fun i x hi m => ?_, r.inj, r.tb⟩
  · by_cases hb : b = p
    · subst hb; rw [upd_same] at q; cases q; exact h
    · rw [upd_ne hb] at q; exact r.fh _ _ q
  · by_cases hb : b = p
    · rw [hb]; exact g
    · rw [upd_ne hb] at q; exact r.fg _ _ q
  · obtain ⟨a, e, f', g', c⟩ := r.ow i x hi m
    have ne : a ≠ p := fun z => no i x hi m (by rw [e, z])
    exact ⟨a, e, by rw [upd_ne ne]; exact f', g', c⟩
  · obtain ⟨a, e, c⟩ := r.lk i x hi m
    exact ⟨a, e, c.mono (Same.refl _) fun u q => sm _ _ q⟩
/-- less is held by others (no slot is locked there) -/
theorem Rep.unhold {F' : Hp} (r : Rep K F' G s σ H) (sub : Same F F') (lk : ∀ i x, slot s i = some x → x.m.isLk = true → ∃ a, σ[i]? = some (some (.ref a)) ∧ Cell K G F a x.d) : Rep K F G s σ H := by
  refine ⟨sub.trans r.fh, r.gh, fun b u q => r.fg _ _ (sub _ _ q), r.len, r.fz, fun i x hi m => ?_, lk, r.inj, r.tb⟩
  obtain ⟨a, e, f, g, c⟩ := r.ow i x hi m
  exact ⟨a, e, sub.free f, g, c⟩
/-- an operand is read -/
theorem OR.read (r : Rep K F G s σ H) {v : V} {o : Opd} {d : D} (q : OR K G σ v o) (e : getO s o = some d) : RdT K G H v d := by
  cases o with
  | val d' =>
    cases e
    exact .den q
  | loc i =>
    have q : σ[i]? = some (some v) := q
    obtain ⟨x, hx, rfl⟩ : ∃ x, slot s i = some x ∧ x.d = d := by
      cases h : slot s i with
      | none => simp [getO, h] at e
      | some x => simp [getO, h] at e; exact ⟨x, rfl, e⟩
    cases hm : x.m with
    | fz => obtain ⟨v', e', dd⟩ := r.fz i x hx (by rw [hm]; rfl); rw [q] at e'; cases e'; exact .den dd
    | fi => obtain ⟨v', e', dd⟩ := r.fz i x hx (by rw [hm]; rfl); rw [q] at e'; cases e'; exact .den dd
    | ow => obtain ⟨a, e', f, g, c⟩ := r.ow i x hx (by rw [hm]; rfl); rw [q] at e'; cases e'; exact .cell rfl g c
    | io => obtain ⟨a, e', f, g, c⟩ := r.ow i x hx (by rw [hm]; rfl); rw [q] at e'; cases e'; exact .cell rfl g c
    | lk =>
      obtain ⟨a, e', c⟩ := r.lk i x hx (by rw [hm]; rfl); rw [q] at e'; cases e'
      obtain ⟨o, ho⟩ := c.at
      exact .cell rfl (r.fg _ _ ho) (c.mono (Same.refl _) fun u q => r.fh _ _ q)
    | li =>
      obtain ⟨a, e', c⟩ := r.lk i x hx (by rw [hm]; rfl); rw [q] at e'; cases e'
      obtain ⟨o, ho⟩ := c.at
      exact .cell rfl (r.fg _ _ ho) (c.mono (Same.refl _) fun u q => r.fh _ _ q)
theorem OR.mono {G' : Hp} {v : V} {o : Opd} (q : OR K G σ v o) (e : Same G G') : OR K G' σ v o := by
  cases o with
  | val d => exact Den.mono e q
  | loc i => exact q
/-- what is read of the whole heap -/
theorem RdT.denH (r : Same G H) {v : V} {d : D} (q : RdT K G H v d) : Den K H v d := by
  cases q with
  | den h => exact h.mono r
  | cell e n c =>
    subst e
    cases d with
    | list ds => obtain ⟨xs, e, l⟩ := c; exact .lst (.inl (.inl e)) (l.mono r)
    | dict kvs => obtain ⟨ks, e, l⟩ := c; exact .dic e (l.mono r)
    | _ => exact c.elim
theorem RdT.list (r : Same G H) {v : V} {ds : List D} (q : RdT K G H v (.list ds)) : ∃ a xs, v = .ref a ∧ SqL K H a xs ∧ DenL K G xs ds := by
  cases q with
  | den h =>
    cases h with
    | lst h l => exact ⟨_, _, rfl, r.seq h, l⟩
  | cell e n c => obtain ⟨xs, e', l⟩ := c; exact ⟨_, xs, e, .inl (.inl e'), l⟩
theorem RdT.tuple (r : Same G H) {v : V} {ds : List D} (q : RdT K G H v (.tuple ds)) : ∃ a xs, v = .ref a ∧ SqT K H a xs ∧ DenL K G xs ds := by
  cases q with
  | den h =>
    cases h with
    | tup h l => exact ⟨_, _, rfl, .inl (.inl (r _ _ h)), l⟩
  | cell e n c => exact c.elim
theorem RdT.dict (r : Same G H) {v : V} {kvs : List (D × D)} (q : RdT K G H v (.dict kvs)) (od : oddD (.dict kvs) = false) : ∃ a ks, v = .ref a ∧ H a = some (.dK ks) ∧ DenK K G ks kvs := by
  cases q with
  | den h =>
    cases h with
    | dic h l => exact ⟨_, _, rfl, r _ _ h, l⟩
    | exc _ _ _ _ _ => cases od
    | exn _ _ _ => cases od
    | clo _ _ _ _ _ => cases od
  | cell e n c => obtain ⟨ks, e', l⟩ := c; exact ⟨_, ks, e, e', l⟩
theorem RdT.int {v : V} {i : Int} (q : RdT K G H v (.int i)) : v = .int i := by
  cases q with
  | den h => cases h; rfl
  | cell e n c => exact c.elim
theorem RdT.str {v : V} {x : Str} (q : RdT K G H v (.str x)) : v = .str x := by
  cases q with
  | den h => cases h; rfl
  | cell e n c => exact c.elim
end
end LP

end
section
set_option Elab.async false
set_option linter.all false
set_option maxRecDepth 100000
set_option maxHeartbeats 2000000
/-! LP3: operations. -/
namespace LP
open PySem PySem.Spec L2
open PyProof.Rows hiding St
variable [Zk]
/-- what is wanted of a result x -/
def Post (K : PySem.W.Frag) (F G : Hp) (s : LS) (σ : St) (x : SV) (Q : VK) : Prop :=
  ∀ v H' G', Same G G' → Rep K F G' s σ H' → RV K F G' H' s σ v x → Q v H'
section
variable {K : PySem.W.Frag} {F G H : Hp} {s : LS} {σ : St} {Q : VK}
theorem Post.fz {d : D} {v : V} (h : Post K F G s σ ⟨.fz, d⟩ Q) (r : Rep K F G s σ H) (q : Den K G v d) : Q v H := h v H G (Same.refl _) r q
theorem Post.newT {xs : List V} {ds : List D} (h : Post K F G s σ ⟨.fz, .tuple ds⟩ Q) (r : Rep K F G s σ H) (l : DenL K G xs ds) {p : Addr} (n : H p = none) : Q (.ref p) (upd H p (.tup xs)) :=
  h _ _ (upd G p (.tup xs)) (same_upd (r.gh.free n)) (r.newG n) (.tup upd_same (l.mono (same_upd (r.gh.free n))))
theorem Post.newL {xs : List V} {ds : List D} (h : Post K F G s σ ⟨.ow, .list ds⟩ Q) (r : Rep K F G s σ H) (l : DenL K G xs ds) {p : Addr} (n : H p = none) : Q (.ref p) (upd H p (.lst xs)) :=
  h _ _ G (Same.refl _) (r.newH n) (r.newRes n ⟨xs, upd_same, l⟩)
theorem Post.mono {G' : Hp} {x : SV} (h : Post K F G s σ x Q) (e : Same G G') : Post K F G' s σ x Q := fun v H' G2 sm r q => h v H' G2 (e.trans sm) r q
end
theorem OpR.imp {X : Cx} {f : Value → Value → Sem Value} {r r' : R2} (h : OpR X f r) (i : ∀ x y H Q, r' x y H Q → r x y H Q) : OpR X f r' :=
  fun pins s σ H x y v u Q I rx ry q => h pins s σ H x y v u Q I rx ry (i _ _ _ _ q)
theorem CallR.imp {X : Cx} {f : Value} {r r' : List V → Hp → VK → Prop} (h : CallR X f r) (i : ∀ xs H Q, r' xs H Q → r xs H Q) : CallR X f r' :=
  fun pins s σ H xs us Q I rx q => h pins s σ H xs us Q I rx (i _ _ _ q)

/-! ### list + list, of any that is read -/
section
variable {X : Cx}
def rCatQ (K : PySem.W.Frag) : R2 := fun x y H Q => ∃ l b xs zs, x = .ref l ∧ y = .ref b ∧ SqL K H l xs ∧ SqL K H b zs ∧ xs.length + zs.length ≤ sizeLine ∧ ∀ p, H p = none → Q (.ref p) (upd H p (.lst (xs ++ zs)))
theorem op_catQ : OpR X (binaryOp .Add) (rCatQ X.K) := by
  intro pins s σ H x y v u Q I rx ry h
  obtain ⟨l, b, xs, zs, rfl, rfl, hH, hB, hz, q⟩ := h
  cases rx
  cases ry
  obtain ⟨its, r, ⟨⟨cls, dd, data, sl⟩, n, ho, hc, hd, hs⟩, z⟩ := I.list hH
  obtain ⟨its2, r2, ⟨⟨cls2, dd2, data2, sl2⟩, n2, ho2, hc2, hd2, hs2⟩, z2⟩ := I.list hB
  simp only at hc hd hs hc2 hd2 hs2
  subst hc hd hs hc2 hd2 hs2
  have e1 := r.length
  have e2 := r2.length
  refine concat_meets ⟨_, ho, rfl⟩ ⟨_, ho2, rfl⟩ noFill_list_add seq_list_add PySem.F.slot_list_add PySem.F.entry_list_add (PySem.F.args_list_add_2 _ _) (list_addW l b its.toArray its2.toArray n n2 none none sl sl2 (by rw [List.size_toArray, List.size_toArray]; omega)) ⟨ho, ho2, ?_⟩
  have ea : its.toArray ++ its2.toArray = (its ++ its2).toArray := by simp
  rw [ea]
  exact ⟨.ref _, _, I.lnew (t' := s.toks) (r.append r2) (by rw [List.length_append]; omega), rfl, q _ I.fresh⟩

def rRepQ (K : PySem.W.Frag) : R2 := fun x y H Q => ∃ l k xs, x = .ref l ∧ y = .int k ∧ SqL K H l xs ∧ 0 ≤ k ∧ k ≤ 1000 ∧ xs.length ≤ 1000 ∧ ∀ p, H p = none → Q (.ref p) (upd H p (.lst (List.replicate k.toNat xs).flatten))
theorem op_repQ : OpR X (binaryOp .Mult) (rRepQ X.K) := by
  intro pins s σ H x y v u Q I rx ry h
  obtain ⟨l, k, xs, rfl, rfl, hH, h1, h2, h3, q⟩ := h
  cases rx
  obtain ⟨t, rfl⟩ := ry
  obtain ⟨its, r, ⟨⟨cls, dd, data, sl⟩, n, ho, hc, hd, hs⟩, z⟩ := I.list hH
  simp only at hc hd hs
  subst hc hd hs
  have hl := r.length
  have hz : xs.length * k.toNat ≤ sizeLine := by
    have : xs.length * k.toNat ≤ 1000 * 1000 := Nat.mul_le_mul h3 (by omega)
    unfold sizeLine
    omega
  have hlen : its.toArray.size * k.toNat ≤ sizeLine := by rw [List.size_toArray, ← hl]; exact hz
  have hcap : ¬ its.toArray.size * k.toNat > (2 ^ 63 - 1) / 8 := by
    have : (sizeLine : Nat) ≤ (2 ^ 63 - 1) / 8 := by decide
    omega
  have hfit : ¬ (!Builtin.List.listFitsIndex k) = true := by
    rw [fitsIndex_both (by omega) (by omega)]
    exact Bool.false_ne_true
  have hlong : ¬ Builtin.List.listTooLong (its.toArray.size * k.toNat) = true := by
    rw [notLongL hlen]
    exact Bool.false_ne_true
  have hnew : List.foldl (fun x1 x2 => x1 ++ x2) #[] (List.replicate (if its.toArray.isEmpty = true then 0 else k.toNat) its.toArray) = (List.replicate k.toNat its).flatten.toArray := by
    have f0 : ∀ m : Nat, List.foldl (fun x1 x2 => x1 ++ x2) #[] (List.replicate m its.toArray) = (List.replicate m its).flatten.toArray := fun m => by
      have := foldl_rep its m []
      rw [List.nil_append] at this
      exact this
    rw [f0]
    cases its with
    | nil => simp
    | cons a r' => rw [if_neg (by simp)]
  refine wpAny_binaryOp_repeat_ref (T := "list") (U := "int") (by decide) ⟨_, ho, rfl⟩ (fun s' => typeIs_int s' k t) noFill_list_mul F.fills_int_mul F.slot_int_rmul repeat_list F.slot_int_index.lookup
    (call_meets F.slot_int_rmul (typeIs_int s k t) F.entry_int_rmul (F.args_int_rmul_2 _ _) (lm_int_rmul_list_any k t l its.toArray n none sl)
      ⟨ho, rfl, ⟨_, ho, rfl⟩, call_meets F.slot_list_mul ⟨_, ho, rfl⟩ F.entry_list_mul (F.args_list_mul_2 _ _) (lm_list_mul_any l its.toArray n none sl k t hfit hcap hlong) ⟨ho, ?_⟩⟩)
  rw [hnew]
  exact ⟨.ref _, _, I.lnew (t' := s.toks) (r.rep k.toNat) (by rw [PyProof.Rows.lm_len_rep_flat, Nat.mul_comm]; exact hz), rfl, q _ I.fresh⟩
def BOp.op : BOp → Operator
  | .add => .Add
  | .sub => .Sub
  | .mul => .Mult
  | .fdiv => .FloorDiv
  | .mod => .Mod
  | .pow => .Pow
def rBin (K : PySem.W.Frag) (op : BOp) : R2 := fun x y H Q => ∃ F G s σ dx dy r, Rep K F G s σ H ∧ RdT K G H x dx ∧ RdT K G H y dy ∧ binD op dx dy = some r ∧ Post K F G s σ (fresh r) Q
theorem op_bin (op : BOp) : OpR X (binaryOp op.op) (rBin X.K op) := by
  intro pins s σ H x y v u Q I rx ry h
  obtain ⟨F, G, ls, τ, dx, dy, r, rep, hx, hy, e, post⟩ := h
  unfold binD at e
  split at e
  · cases e
    exact op_add pins s σ H x y v u Q I rx ry ⟨_, _, hx.int, hy.int, post.fz rep (.int _)⟩
  · split at e
    · cases e
      rename_i a b hz
      exact op_add_str pins s σ H x y v u Q I rx ry ⟨_, _, hx.str, hy.str, of_decide_eq_true hz, post.fz rep (.str _)⟩
    · cases e
  · split at e
    · cases e
      rename_i a b hz
      obtain ⟨l, xs, e1, s1, l1⟩ := hx.list rep.gh
      obtain ⟨l', ys, e2, s2, l2⟩ := hy.list rep.gh
      exact op_catQ pins s σ H x y v u Q I rx ry ⟨l, l', xs, ys, e1, e2, s1, s2, by rw [l1.length, l2.length]; exact of_decide_eq_true hz, fun p n => post.newL rep (l1.append l2) n⟩
    · cases e
  · split at e
    · cases e
      rename_i a b hz
      obtain ⟨l, xs, e1, s1, l1⟩ := hx.tuple rep.gh
      obtain ⟨l', ys, e2, s2, l2⟩ := hy.tuple rep.gh
      refine op_catA pins s σ H x y v u Q I rx ry ⟨l, l', xs, ys, e1, e2, s1, s2, by rw [l1.length, l2.length]; exact of_decide_eq_true hz, fun z => ?_, fun _ z => ?_, fun _ _ p n => post.newT rep (l1.append l2) n⟩
      · subst z
        cases l1
        cases hy with
        | den h => subst e2; exact post.fz rep h
        | cell e n c => exact c.elim
      · subst z
        cases l2
        rw [List.append_nil] at post
        cases hx with
        | den h => subst e1; exact post.fz rep h
        | cell e n c => exact c.elim
    · cases e
  · cases e
    exact op_sub pins s σ H x y v u Q I rx ry ⟨_, _, hx.int, hy.int, post.fz rep (.int _)⟩
  · split at e
    · cases e
      rename_i a b hm
      refine op_mul pins s σ H x y v u Q I rx ry ⟨_, _, hx.int, hy.int, ?_, post.fz rep (.int _)⟩
      exact mulOk_inv hm
    · cases e
  · split at e
    · cases e
      rename_i a k hm
      simp only [decide_eq_true_eq] at hm
      obtain ⟨l, xs, e1, s1, l1⟩ := hx.tuple rep.gh
      refine op_repT pins s σ H x y v u Q I rx ry ⟨l, k, xs, e1, hy.int, s1, fun z => ?_, hm.1, hm.2.1, by rw [l1.length]; exact hm.2.2.1, fun p n => post.newT rep (l1.rep _) n⟩
      subst z
      cases l1
      simp at hm
    · cases e
  · split at e
    · cases e
      rename_i a k hm
      simp only [decide_eq_true_eq] at hm
      obtain ⟨l, xs, e1, s1, l1⟩ := hx.list rep.gh
      exact op_repQ pins s σ H x y v u Q I rx ry ⟨l, k, xs, e1, hy.int, s1, hm.1, hm.2.1, by rw [l1.length]; exact hm.2.2, fun p n => post.newL rep (l1.rep _) n⟩
    · cases e
  · split at e
    · cases e
      rename_i a b hm
      simp only [decide_eq_true_eq] at hm
      exact op_fdivW pins s σ H x y v u Q I rx ry ⟨_, _, hx.int, hy.int, hm, post.fz rep (.int _)⟩
    · cases e
  · split at e
    · cases e
      rename_i a b hm
      simp only [decide_eq_true_eq] at hm
      exact op_mod pins s σ H x y v u Q I rx ry ⟨_, _, hx.int, hy.int, hm, post.fz rep (.int _)⟩
    · cases e
  · split at e
    · cases e
      rename_i a b hm
      simp only [decide_eq_true_eq] at hm
      exact op_pow pins s σ H x y v u Q I rx ry ⟨_, _, hx.int, hy.int, hm, post.fz rep (.int _)⟩
    · cases e
  · cases e

/-! ### comparisons -/
def COp.op : COp → CmpOp
  | .eq => .Eq
  | .ne => .NotEq
  | .lt => .Lt
  | .le => .LtE
  | .gt => .Gt
  | .ge => .GtE
  | .isin => .In
  | .notin => .NotIn
def rCmp (K : PySem.W.Frag) (op : COp) : R2 := fun x y H Q => ∃ dx dy r, Den K H x dx ∧ Den K H y dy ∧ cmpD op dx dy = some r ∧ Q (.bl r) H
theorem Den.isInt {K : PySem.W.Frag} {G : Hp} {v : V} {i : Int} (h : Den K G v (.int i)) : v = .int i := by cases h; rfl
theorem dec_strD {i j : Str} : decide (V.str i = V.str j) = decide (i = j) := by
  rw [Bool.eq_iff_iff]
  simp
theorem Den.flatV {K : PySem.W.Frag} {G : Hp} {v : V} {d : D} (h : Den K G v d) (f : flatD d = true) : L2.flatV v = true := by
  cases h <;> first | rfl | cases f
theorem Den.isTup {K : PySem.W.Frag} {G : Hp} {v : V} {ds : List D} (h : Den K G v (.tuple ds)) : ∃ a xs, v = .ref a ∧ SqT K G a xs ∧ DenL K G xs ds := by
  cases h with
  | tup h l => exact ⟨_, _, rfl, .inl (.inl h), l⟩
theorem Den.eqV {K : PySem.W.Frag} {G : Hp} {v w : V} {d e : D} (h : Den K G v d) (h' : Den K G w e) (f : flatD d = true) (f' : flatD e = true) : L2.eqV v w = PyData.eqv d e := by
  cases h <;> first | (cases f; done) | (cases h' <;> first | (cases f'; done) | rfl | (simp [L2.eqV, PyData.eqv]))
theorem DenL.flat {K : PySem.W.Frag} {G : Hp} : ∀ {vs : List V} {ds : List D}, DenL K G vs ds → ds.all flatD = true → vs.all L2.flatV = true ∧ ∀ x d, Den K G x d → flatD d = true → L2.inV x vs = ds.any fun z => PyData.eqv z d
  | _, _, .nil, _ => ⟨rfl, fun _ _ _ _ => rfl⟩
  | _, _, .cons h t, f => by
    rw [List.all_cons, Bool.and_eq_true] at f
    obtain ⟨a, b⟩ := t.flat f.2
    refine ⟨by rw [List.all_cons, h.flatV f.1, a]; rfl, fun x d hx fx => ?_⟩
    show (L2.eqV _ x || L2.inV x _) = _
    rw [List.any_cons, h.eqV hx f.1 fx, b x d hx fx]
theorem Den.isList {K : PySem.W.Frag} {G : Hp} {v : V} {ds : List D} (h : Den K G v (.list ds)) : ∃ a xs, v = .ref a ∧ SqL K G a xs ∧ DenL K G xs ds := by
  cases h with
  | lst h l => exact ⟨_, _, rfl, h, l⟩
theorem nilCmp_inv {x y : D} {r : Bool} (h : nilCmp x y = some r) : ∃ xs, x = .list xs ∧ y = .list [] ∧ r = xs.isEmpty := by
  unfold nilCmp at h
  split at h
  · exact ⟨_, rfl, rfl, (Option.some.inj h).symm⟩
  · cases h
theorem op_nilEq (hu : X.A.units + 65 < cLine) {xs : List D} {pins : List (Addr × Obj)} {s : Shared} {σ : St} {H : Hp} {x y : V} {v u : Value} {Q : VK} (I : Inv X pins σ H s) (rx : RelV x v) (ry : RelV y u) (hx : Den X.K H x (.list xs)) (hy : Den X.K H y (.list [])) (q : Q (.bl xs.isEmpty) H) :
    wpAny (model X.prog X.w) X.A (compareOp .Eq v u) (EP X pins σ Q) X.xe s := by
  obtain ⟨a, ys, rfl, sq, dl⟩ := hx.isList
  obtain ⟨b, zs, rfl, sq2, dl2⟩ := hy.isList
  cases dl2
  cases rx
  cases ry
  obtain ⟨its, r, hl, _⟩ := I.list sq
  obtain ⟨its2, r2, hl2, _⟩ := I.list sq2
  cases r2
  have hlen := dl.length
  have hlr := r.length
  cases xs with
  | nil =>
    have : its = [] := List.length_eq_zero_iff.mp (by rw [← hlr, hlen]; rfl)
    subst this
    exact SeqAt.eq_listAt (e := fun _ => true) hl.isList hl2.isList rfl (by omega) (fun j h1 _ => absurd h1 (by simp)) ⟨.bl _, H, I, rfl, q⟩
  | cons d ds =>
    refine SeqAt.eq_list_lengthsAt hl.isList hl2.isList ?_ (by omega) ⟨.bl _, H, I, rfl, q⟩
    rw [List.size_toArray, List.size_toArray, ← hlr, hlen]
    rfl
theorem op_nilNe (hu : X.A.units + 65 < cLine) {xs : List D} {pins : List (Addr × Obj)} {s : Shared} {σ : St} {H : Hp} {x y : V} {v u : Value} {Q : VK} (I : Inv X pins σ H s) (rx : RelV x v) (ry : RelV y u) (hx : Den X.K H x (.list xs)) (hy : Den X.K H y (.list [])) (q : Q (.bl (!xs.isEmpty)) H) :
    wpAny (model X.prog X.w) X.A (compareOp .NotEq v u) (EP X pins σ Q) X.xe s := by
  obtain ⟨a, ys, rfl, sq, dl⟩ := hx.isList
  obtain ⟨b, zs, rfl, sq2, dl2⟩ := hy.isList
  cases dl2
  cases rx
  cases ry
  obtain ⟨its, r, hl, _⟩ := I.list sq
  obtain ⟨its2, r2, hl2, _⟩ := I.list sq2
  cases r2
  have hlen := dl.length
  have hlr := r.length
  cases xs with
  | nil =>
    have : its = [] := List.length_eq_zero_iff.mp (by rw [← hlr, hlen]; rfl)
    subst this
    exact SeqAt.RcNeAt.lists (e := fun _ => true) hl.isList hl2.isList rfl (by omega) (fun j h1 _ => absurd h1 (by simp)) X.prog X.w X.xe _ ⟨.bl _, H, I, rfl, q⟩
  | cons d ds =>
    refine SeqAt.RcNeAt.lists_lengths hl.isList hl2.isList ?_ (by omega) X.prog X.w X.xe _ ⟨.bl _, H, I, rfl, q⟩
    rw [List.size_toArray, List.size_toArray, ← hlr, hlen]
    rfl
theorem op_cmp (op : COp) (hu : X.A.units + 65 < cLine) : OpR X (compareOp op.op) (rCmp X.K op) := by
  intro pins s σ H x y v u Q I rx ry h
  obtain ⟨dx, dy, r, hx, hy, e, q⟩ := h
  unfold cmpD at e
  split at e
  · rename_i a b
    unfold sgnIn at e
    split at e
    · rename_i c hc
      cases e
      have ha : a = ⟨#[c]⟩ := Str.ext' (Array.toList_inj.mp hc)
      subst ha
      cases hx
      cases hy
      exact op_in_sign pins s σ H _ _ v u Q I rx ry ⟨c, b, rfl, rfl, q⟩
    · cases e
  · cases e
    cases hx
    cases hy
    refine op_eq pins s σ H _ _ v u Q I rx ry ⟨rfl, ?_⟩
    rw [dec_strD]
    exact q
  · cases e
    cases hx
    cases hy
    refine op_ne pins s σ H _ _ v u Q I rx ry ⟨rfl, ?_⟩
    rw [dec_strD]
    exact q
  · split at e
    · cases e
      rename_i hs
      simp only [Bool.and_eq_true] at hs
      obtain ⟨p, xs, rfl, sq, dl⟩ := hy.isTup
      obtain ⟨f1, f2⟩ := dl.flat hs.2
      refine op_in_seq pins s σ H x _ v u Q I rx ry ⟨p, xs, rfl, .inr sq, hx.flatV hs.1, f1, ?_⟩
      show Q (.bl (inV x xs)) H
      rw [f2 x _ hx hs.1]
      exact q
    · cases e
  · split at e
    · cases e
      rename_i hs
      simp only [Bool.and_eq_true] at hs
      obtain ⟨p, xs, rfl, sq, dl⟩ := hy.isTup
      obtain ⟨f1, f2⟩ := dl.flat hs.2
      refine op_notIn_seq pins s σ H x _ v u Q I rx ry ⟨p, xs, rfl, .inr sq, hx.flatV hs.1, f1, ?_⟩
      show Q (.bl (!inV x xs)) H
      rw [f2 x _ hx hs.1]
      exact q
    · cases e
  · split at e
    · cases e
      rename_i hs
      simp only [Bool.and_eq_true] at hs
      exact op_eqD (by omega) pins s σ H x y v u Q I rx ry ⟨_, _, hx.dp (SeqAt.canLay_of_shaped hs.1), hy.dp (SeqAt.canLay_of_shaped hs.2), hs.1, hs.2, q⟩
    · obtain ⟨xs, rfl, rfl, rfl⟩ := nilCmp_inv e
      exact op_nilEq hu I rx ry hx hy q
  · split at e
    · cases e
      rename_i hs
      simp only [Bool.and_eq_true] at hs
      exact op_neD (by omega) pins s σ H x y v u Q I rx ry ⟨_, _, hx.dp (SeqAt.canLay_of_shaped hs.1), hy.dp (SeqAt.canLay_of_shaped hs.2), hs.1, hs.2, q⟩
    · rw [Option.map_eq_some_iff] at e
      obtain ⟨r', e, rfl⟩ := e
      obtain ⟨xs, rfl, rfl, rfl⟩ := nilCmp_inv e
      exact op_nilNe hu I rx ry hx hy q
  · cases e
    exact op_lt pins s σ H x y v u Q I rx ry ⟨_, _, hx.isInt, hy.isInt, q⟩
  · cases e
    exact op_le pins s σ H x y v u Q I rx ry ⟨_, _, hx.isInt, hy.isInt, q⟩
  · cases e
    exact op_gt pins s σ H x y v u Q I rx ry ⟨_, _, hx.isInt, hy.isInt, q⟩
  · cases e
    exact op_ge pins s σ H x y v u Q I rx ry ⟨_, _, hx.isInt, hy.isInt, q⟩
  · split at e
    · cases e
      rename_i hs
      simp only [Bool.and_eq_true] at hs
      exact op_inD hu pins s σ H x y v u Q I rx ry ⟨_, _, hx.dp (SeqAt.canLay_of_shaped hs.1), hy.dp (SeqAt.canLay_of_shaped hs.2), hs.1, hs.2, q⟩
    · cases e
  · split at e
    · cases e
      rename_i hs
      simp only [Bool.and_eq_true] at hs
      exact op_notInD hu pins s σ H x y v u Q I rx ry ⟨_, _, hx.dp (SeqAt.canLay_of_shaped hs.1), hy.dp (SeqAt.canLay_of_shaped hs.2), hs.1, hs.2, q⟩
    · cases e
  · cases e
end
end LP

end
section
set_option Elab.async false
set_option linter.all false
set_option maxRecDepth 100000
set_option maxHeartbeats 2000000
/-! LP4: built-in functions. -/
namespace LP
open PySem PySem.Spec L2
open PyProof.Rows hiding St
variable [Zk]
/-! ### sorting: plain -/
theorem insI_perm (x : Int) : ∀ l : List Int, (insI x l).Perm (x :: l)
  | [] => List.Perm.refl _
  | y :: r => by
    unfold insI
    split
    · exact List.Perm.refl _
    · exact ((insI_perm x r).cons y).trans (List.Perm.swap x y r)
theorem sortI_perm : ∀ l : List Int, (sortI l).Perm l
  | [] => List.Perm.refl _
  | x :: r => (insI_perm x (sortI r)).trans ((sortI_perm r).cons x)
theorem insI_sorted (x : Int) : ∀ l : List Int, l.Pairwise (· ≤ ·) → (insI x l).Pairwise (· ≤ ·)
  | [], _ => List.pairwise_singleton _ _
  | y :: r, h => by
    have h1 := List.pairwise_cons.mp h
    unfold insI
    split
    · rename_i hx
      refine List.pairwise_cons.mpr ⟨fun z hz => ?_, h⟩
      rcases List.mem_cons.mp hz with e | e
      · omega
      · have := h1.1 z e; omega
    · rename_i hx
      refine List.pairwise_cons.mpr ⟨fun z hz => ?_, insI_sorted x r h1.2⟩
      rcases List.mem_cons.mp ((insI_perm x r).mem_iff.mp hz) with e | e
      · omega
      · exact h1.1 z e
theorem sortI_sorted : ∀ l : List Int, (sortI l).Pairwise (· ≤ ·)
  | [] => List.Pairwise.nil
  | x :: r => insI_sorted x _ (sortI_sorted r)
theorem sorted_unique {α : Type} (le : α → α → Prop) (anti : ∀ a b, le a b → le b a → a = b) : ∀ {l m : List α}, l.Perm m → l.Pairwise le → m.Pairwise le → l = m
  | [], m, p, _, _ => (List.Perm.nil_eq p)
  | x :: r, [], p, _, _ => absurd p.length_eq (by simp)
  | x :: r, y :: t, p, h1, h2 => by
    have a1 := List.pairwise_cons.mp h1
    have a2 := List.pairwise_cons.mp h2
    have exy : x = y := by
      have hx : x ∈ y :: t := p.mem_iff.mp List.mem_cons_self
      have hy : y ∈ x :: r := p.mem_iff.mpr List.mem_cons_self
      rcases List.mem_cons.mp hx with e | e
      · exact e
      · rcases List.mem_cons.mp hy with e' | e'
        · exact e'.symm
        · exact anti _ _ (a1.1 _ e') (a2.1 _ e)
    subst exy
    rw [sorted_unique le anti (List.Perm.cons_inv p) a1.2 a2.2]
theorem sortI_eq {ns ns' : List Int} (p : ns'.Perm ns) (h : ns'.Pairwise (· ≤ ·)) : ns' = sortI ns :=
  sorted_unique (· ≤ ·) (fun a b h1 h2 => by omega) (p.trans (sortI_perm ns).symm) h (sortI_sorted ns)
theorem leP_iff {a b : Int × Int} : leP a b = true ↔ a.1 < b.1 ∨ (a.1 = b.1 ∧ a.2 ≤ b.2) := by
  unfold leP
  simp only [Bool.or_eq_true, Bool.and_eq_true, decide_eq_true_eq]
theorem insP_perm (x : Int × Int) : ∀ l : List (Int × Int), (insP x l).Perm (x :: l)
  | [] => List.Perm.refl _
  | y :: r => by
    unfold insP
    split
    · exact List.Perm.refl _
    · exact ((insP_perm x r).cons y).trans (List.Perm.swap x y r)
theorem sortP_perm : ∀ l : List (Int × Int), (sortP l).Perm l
  | [] => List.Perm.refl _
  | x :: r => (insP_perm x (sortP r)).trans ((sortP_perm r).cons x)
theorem insP_sorted (x : Int × Int) : ∀ l : List (Int × Int), l.Pairwise (fun a b => leP a b = true) → (insP x l).Pairwise (fun a b => leP a b = true)
  | [], _ => List.pairwise_singleton _ _
  | y :: r, h => by
    have h1 := List.pairwise_cons.mp h
    unfold insP
    split
    · rename_i hx
      refine List.pairwise_cons.mpr ⟨fun z hz => ?_, h⟩
      rcases List.mem_cons.mp hz with e | e
      · rw [e]; exact hx
      · have q := leP_iff.mp (h1.1 z e)
        have q2 := leP_iff.mp hx
        exact leP_iff.mpr (by omega)
    · rename_i hx
      refine List.pairwise_cons.mpr ⟨fun z hz => ?_, insP_sorted x r h1.2⟩
      rcases List.mem_cons.mp ((insP_perm x r).mem_iff.mp hz) with e | e
      · rw [e]
        have q2 : ¬ (x.1 < y.1 ∨ (x.1 = y.1 ∧ x.2 ≤ y.2)) := fun z => hx (leP_iff.mpr z)
        exact leP_iff.mpr (by omega)
      · exact h1.1 z e
theorem sortP_sorted : ∀ l : List (Int × Int), (sortP l).Pairwise (fun a b => leP a b = true)
  | [] => List.Pairwise.nil
  | x :: r => insP_sorted x _ (sortP_sorted r)
theorem sortP_eq {ns ns' : List (Int × Int)} (p : ns'.Perm ns) (h : ns'.Pairwise (fun a b => leP a b = true)) : ns' = sortP ns :=
  sorted_unique (fun a b => leP a b = true) (fun a b h1 h2 => by
    have q1 := leP_iff.mp h1
    have q2 := leP_iff.mp h2
    exact Prod.ext (by omega) (by omega)) (p.trans (sortP_perm ns).symm) h (sortP_sorted ns)
theorem minI_spec {ns : List Int} {m : Int} (h : minI ns = some m) : m ∈ ns ∧ ∀ y ∈ ns, m ≤ y := by
  cases ns with
  | nil => cases h
  | cons x r =>
    simp only [minI, Option.some.injEq] at h
    subst h
    suffices ∀ (r : List Int) (x : Int), (r.foldl (fun a b => if b < a then b else a) x ∈ x :: r) ∧ ∀ y ∈ x :: r, r.foldl (fun a b => if b < a then b else a) x ≤ y from this r x
    intro r
    induction r with
    | nil => intro x; simp
    | cons z t ih =>
      intro x
      rw [List.foldl_cons]
      obtain ⟨h1, h2⟩ := ih (if z < x then z else x)
      constructor
      · rcases List.mem_cons.mp h1 with e | e
        · rw [e]; split
          · simp
          · simp
        · exact List.mem_cons_of_mem _ (List.mem_cons_of_mem _ e)
      · intro y hy
        have q := h2 (if z < x then z else x) List.mem_cons_self
        have hw : (if z < x then z else x) ≤ x ∧ (if z < x then z else x) ≤ z := by split <;> omega
        rcases List.mem_cons.mp hy with e | e
        · subst e; exact Int.le_trans q hw.1
        · rcases List.mem_cons.mp e with e | e
          · subst e; exact Int.le_trans q hw.2
          · exact h2 y (List.mem_cons_of_mem _ e)
theorem maxI_spec {ns : List Int} {m : Int} (h : maxI ns = some m) : m ∈ ns ∧ ∀ y ∈ ns, y ≤ m := by
  cases ns with
  | nil => cases h
  | cons x r =>
    simp only [maxI, Option.some.injEq] at h
    subst h
    suffices ∀ (r : List Int) (x : Int), (r.foldl (fun a b => if a < b then b else a) x ∈ x :: r) ∧ ∀ y ∈ x :: r, y ≤ r.foldl (fun a b => if a < b then b else a) x from this r x
    intro r
    induction r with
    | nil => intro x; simp
    | cons z t ih =>
      intro x
      rw [List.foldl_cons]
      obtain ⟨h1, h2⟩ := ih (if x < z then z else x)
      constructor
      · rcases List.mem_cons.mp h1 with e | e
        · rw [e]; split
          · simp
          · simp
        · exact List.mem_cons_of_mem _ (List.mem_cons_of_mem _ e)
      · intro y hy
        have q := h2 (if x < z then z else x) List.mem_cons_self
        have hw : x ≤ (if x < z then z else x) ∧ z ≤ (if x < z then z else x) := by split <;> omega
        rcases List.mem_cons.mp hy with e | e
        · subst e; exact Int.le_trans hw.1 q
        · rcases List.mem_cons.mp e with e | e
          · subst e; exact Int.le_trans hw.2 q
          · exact h2 y (List.mem_cons_of_mem _ e)
/-! ### the rules -/
def rB1 (K : PySem.W.Frag) (f : B1) : List V → Hp → VK → Prop := fun vs H Q => ∃ F G s σ v d r, vs = [v] ∧ Rep K F G s σ H ∧ RdT K G H v d ∧ b1D f d = some r ∧ Post K F G s σ (fresh r) Q
section
variable {X : Cx}
theorem cr_len : CallR X (.builtin "len") (rB1 X.K .len) := by
  refine CallR.imp (CallR.or call_len_seq call_len) fun xs H Q h => ?_
  obtain ⟨F, G, s, σ, v, d, r, rfl, rep, hr, e, post⟩ := h
  simp only [b1D] at e
  cases d with
  | list ds =>
    cases e
    obtain ⟨a, ys, rfl, q, l⟩ := hr.list rep.gh
    refine .inl ⟨a, ys, rfl, .inl q, ?_⟩
    rw [l.length]
    exact post.fz rep (.int _)
  | tuple ds =>
    cases e
    obtain ⟨a, ys, rfl, q, l⟩ := hr.tuple rep.gh
    refine .inl ⟨a, ys, rfl, .inr q, ?_⟩
    rw [l.length]
    exact post.fz rep (.int _)
  | str x =>
    simp only [lenD] at e
    split at e
    · rename_i hz
      cases e
      exact .inr ⟨.str x, x.length, by rw [hr.str], ⟨of_decide_eq_true hz, rfl⟩, post.fz rep (.int _)⟩
    · cases e
  | _ => cases e
theorem cr_tuple : CallR X (.type "tuple") (rB1 X.K .tuple) := by
  refine CallR.imp call_tuple_of fun xs H Q h => ?_
  obtain ⟨F, G, s, σ, v, d, r, rfl, rep, hr, e, post⟩ := h
  simp only [b1D] at e
  cases d with
  | list ds =>
    cases e
    obtain ⟨a, ys, rfl, q, l⟩ := hr.list rep.gh
    exact ⟨a, ys, rfl, .inl ⟨q, fun p n => post.newT rep l n⟩⟩
  | tuple ds =>
    cases e
    cases hr with
    | den h =>
      cases h with
      | tup q l => exact ⟨_, _, rfl, .inr ⟨.inl (.inl (rep.gh _ _ q)), post.fz rep (.tup q l)⟩⟩
    | cell e n c => exact c.elim
  | _ => cases e
theorem cr_list : CallR X (.type "list") (rB1 X.K .list) := by
  refine CallR.imp call_list_of fun xs H Q h => ?_
  obtain ⟨F, G, s, σ, v, d, r, rfl, rep, hr, e, post⟩ := h
  simp only [b1D] at e
  cases d with
  | list ds =>
    cases e
    obtain ⟨a, ys, rfl, q, l⟩ := hr.list rep.gh
    exact ⟨a, ys, rfl, .inl q, fun p n => post.newL rep l n⟩
  | tuple ds =>
    cases e
    obtain ⟨a, ys, rfl, q, l⟩ := hr.tuple rep.gh
    exact ⟨a, ys, rfl, .inr q, fun p n => post.newL rep l n⟩
  | _ => cases e
theorem RdT.bool {K : PySem.W.Frag} {G H : Hp} {v : V} {b : Bool} (q : RdT K G H v (.bool b)) : v = .bl b := by
  cases q with
  | den h => cases h; rfl
  | cell e n c => exact c.elim
theorem cr_int : CallR X (.type "int") (rB1 X.K .int) := by
  refine CallR.imp (CallR.or call_int1 call_int_str) fun xs H Q h => ?_
  obtain ⟨F, G, s, σ, v, d, r, rfl, rep, hr, e, post⟩ := h
  simp only [b1D] at e
  cases d with
  | int i =>
    cases e
    exact .inl (.inl ⟨i, by rw [hr.int], post.fz rep (.int _)⟩)
  | bool b =>
    cases e
    exact .inl (.inr ⟨b, by rw [hr.bool], post.fz rep (.int _)⟩)
  | str x =>
    simp only [intD] at e
    split at e
    · rename_i hz
      rw [Option.map_eq_some_iff] at e
      obtain ⟨n, e1, rfl⟩ := e
      exact .inr ⟨x, n, by rw [hr.str], e1, of_decide_eq_true hz, post.fz rep (.int _)⟩
    · cases e
  | _ => cases e
theorem cr_abs : CallR X (.builtin "abs") (rB1 X.K .abs) := by
  refine CallR.imp call_abs fun xs H Q h => ?_
  obtain ⟨F, G, s, σ, v, d, r, rfl, rep, hr, e, post⟩ := h
  simp only [b1D] at e
  cases d with
  | int i =>
    cases e
    exact ⟨i, by rw [hr.int], post.fz rep (.int _)⟩
  | _ => cases e
theorem cr_str : CallR X (.type "str") (rB1 X.K .str) := by
  refine CallR.imp call_str_int fun xs H Q h => ?_
  obtain ⟨F, G, s, σ, v, d, r, rfl, rep, hr, e, post⟩ := h
  simp only [b1D] at e
  cases d with
  | int i =>
    simp only [strD] at e
    split at e
    · cases e
      rename_i hz
      exact ⟨i, by rw [hr.int], of_decide_eq_true hz, post.fz rep (.str _)⟩
    · cases e
  | _ => cases e
theorem onInts_inv {f : List Int → Option D} {d r : D} (e : onInts f d = some r) : ∃ ds ns, d = .list ds ∧ asInts ds = some ns ∧ f ns = some r := by
  cases d with
  | list ds =>
    simp only [onInts, Option.bind_eq_some_iff] at e
    obtain ⟨ns, h1, h2⟩ := e
    exact ⟨ds, ns, rfl, h1, h2⟩
  | _ => cases e
theorem cr_minL (hc : X.calm = true) : CallR X (.builtin "min") (rB1 X.K .minL) := by
  refine CallR.imp (cr_min hc) fun xs H Q h => ?_
  obtain ⟨F, G, s, σ, v, d, r, rfl, rep, hr, e, post⟩ := h
  obtain ⟨ds, ns, rfl, h1, h2⟩ := onInts_inv e
  simp only [Option.map_eq_some_iff] at h2
  obtain ⟨m, h2, rfl⟩ := h2
  obtain ⟨a, ys, rfl, q, l⟩ := hr.list rep.gh
  rw [l.ints h1] at q
  have sp := minI_spec h2
  refine ⟨a, ns, rfl, q, List.length_pos_of_mem sp.1, fun m' hm hle => ?_⟩
  have : m' = m := by
    have a1 := hle m sp.1
    have a2 := sp.2 m' hm
    omega
  subst this
  exact post.fz rep (.int _)
theorem cr_maxL (hc : X.calm = true) : CallR X (.builtin "max") (rB1 X.K .maxL) := by
  refine CallR.imp (cr_max hc) fun xs H Q h => ?_
  obtain ⟨F, G, s, σ, v, d, r, rfl, rep, hr, e, post⟩ := h
  obtain ⟨ds, ns, rfl, h1, h2⟩ := onInts_inv e
  simp only [Option.map_eq_some_iff] at h2
  obtain ⟨m, h2, rfl⟩ := h2
  obtain ⟨a, ys, rfl, q, l⟩ := hr.list rep.gh
  rw [l.ints h1] at q
  have sp := maxI_spec h2
  refine ⟨a, ns, rfl, q, List.length_pos_of_mem sp.1, fun m' hm hle => ?_⟩
  have : m' = m := by
    have a1 := hle m sp.1
    have a2 := sp.2 m' hm
    omega
  subst this
  exact post.fz rep (.int _)
theorem cr_sumL (hc : X.calm = true) : CallR X (.builtin "sum") (rB1 X.K .sum) := by
  refine CallR.imp (cr_sum hc) fun xs H Q h => ?_
  obtain ⟨F, G, s, σ, v, d, r, rfl, rep, hr, e, post⟩ := h
  obtain ⟨ds, ns, rfl, h1, h2⟩ := onInts_inv e
  cases h2
  obtain ⟨a, ys, rfl, q, l⟩ := hr.list rep.gh
  rw [l.ints h1] at q
  exact ⟨a, ns, rfl, q, post.fz rep (.int _)⟩
theorem onBools_inv {f : List Bool → D} {d r : D} (e : onBools f d = some r) : ∃ ds ns, d = .list ds ∧ asBools ds = some ns ∧ f ns = r := by
  cases d with
  | list ds =>
    simp only [onBools, Option.map_eq_some_iff] at e
    obtain ⟨ns, h1, h2⟩ := e
    exact ⟨ds, ns, rfl, h1, h2⟩
  | _ => cases e
theorem cr_allL (hc : X.calm = true) : CallR X (.builtin "all") (rB1 X.K .all) := by
  refine CallR.imp (cr_all hc) fun xs H Q h => ?_
  obtain ⟨F, G, s, σ, v, d, r, rfl, rep, hr, e, post⟩ := h
  obtain ⟨ds, ns, rfl, h1, h2⟩ := onBools_inv e
  cases h2
  obtain ⟨a, ys, rfl, q, l⟩ := hr.list rep.gh
  rw [l.bools h1] at q
  exact ⟨a, ns, rfl, q, post.fz rep (.bl _)⟩
theorem cr_anyL (hc : X.calm = true) : CallR X (.builtin "any") (rB1 X.K .any) := by
  refine CallR.imp (cr_any hc) fun xs H Q h => ?_
  obtain ⟨F, G, s, σ, v, d, r, rfl, rep, hr, e, post⟩ := h
  obtain ⟨ds, ns, rfl, h1, h2⟩ := onBools_inv e
  cases h2
  obtain ⟨a, ys, rfl, q, l⟩ := hr.list rep.gh
  rw [l.bools h1] at q
  exact ⟨a, ns, rfl, q, post.fz rep (.bl _)⟩
/-! ### sorted -/
def keyP (G : Hp) : V → Int × Int
  | .ref t => match G t with
    | some (.tup [.int i, .int j]) => (i, j)
    | _ => (0, 0)
  | _ => (0, 0)
theorem Den.keyP {K : PySem.W.Frag} {G : Hp} {v : V} {p : Int × Int} (h : Den K G v (dPair p)) : ∃ t, v = .ref t ∧ G t = some (.tup [.int p.1, .int p.2]) ∧ keyP G v = p := by
  obtain ⟨i, j⟩ := p
  cases h with
  | tup q l =>
    cases l with
    | cons h1 l =>
      cases l with
      | cons h2 l =>
        cases l
        cases h1
        cases h2
        refine ⟨_, rfl, q, ?_⟩
        unfold LP.keyP
        simp only [q]
theorem asPairs_eq : ∀ {ds : List D} {ps : List (Int × Int)}, asPairs ds = some ps → ds = ps.map dPair
  | [], ps, e => by
    simp only [asPairs, Option.some.injEq] at e
    subst e
    rfl
  | d :: ds, ps, e => by
    unfold asPairs at e
    split at e
    · cases ps <;> simp at *
    · rename_i heq
      cases heq
      simp only [Option.map_eq_some_iff] at e
      obtain ⟨qs, h1, rfl⟩ := e
      rw [asPairs_eq h1]
      rfl
    · cases e
theorem denL_pairs {K : PySem.W.Frag} {G : Hp} : ∀ {xs : List V} {ps : List (Int × Int)}, DenL K G xs (ps.map dPair) → xs.map (keyP G) = ps ∧ ∀ x ∈ xs, Den K G x (dPair (keyP G x))
  | [], [], _ => ⟨rfl, fun x hx => by cases hx⟩
  | x :: xs, p :: ps, l => by
    cases l with
    | cons h l =>
      obtain ⟨t, e1, e2, e3⟩ := h.keyP
      obtain ⟨i1, i2⟩ := denL_pairs l
      refine ⟨by rw [List.map_cons, e3, i1], fun y hy => ?_⟩
      rcases List.mem_cons.mp hy with z | z
      · rw [z, e3]; exact h
      · exact i2 y z
  | [], p :: ps, l => by cases l
  | x :: xs, [], l => by cases l
theorem denL_ofKeys {K : PySem.W.Frag} {G : Hp} : ∀ {ys : List V}, (∀ y ∈ ys, Den K G y (dPair (keyP G y))) → DenL K G ys ((ys.map (keyP G)).map dPair)
  | [], _ => .nil
  | y :: ys, h => .cons (h y List.mem_cons_self) (denL_ofKeys fun z hz => h z (List.mem_cons_of_mem _ hz))
theorem cr_sortedL : CallR X (.builtin "sorted") (rB1 X.K .sorted) := by
  intro pins s0 τ H xs us Q I rv h
  obtain ⟨F, G, s, σ, v, d, r, rfl, rep, hr, e, post⟩ := h
  simp only [b1D] at e
  cases d with
  | list ds =>
    obtain ⟨a, ys, rfl, q, l⟩ := hr.list rep.gh
    simp only [srtD] at e
    split at e
    · rename_i ns h1
      cases e
      rw [l.ints h1] at q
      refine cr_sortedI pins s0 τ H _ us Q I rv ⟨a, ns, rfl, q, fun ns' p pm so n => ?_⟩
      rw [sortI_eq pm so]
      exact post.newL rep (denL_ints _) n
    · simp only [Option.map_eq_some_iff] at e
      obtain ⟨ps, h1, rfl⟩ := e
      rw [asPairs_eq h1] at l
      obtain ⟨k1, k2⟩ := denL_pairs l
      refine cr_sortedPO pins s0 τ H _ us Q I rv ⟨a, ys, keyP G, rfl, q, fun x hx => ?_, fun zs p so st n => ?_⟩
      · obtain ⟨t, e1, e2, e3⟩ := (k2 x hx).keyP
        exact ⟨t, e1, rep.gh _ _ e2⟩
      · have pm : zs.Perm ys := st.1
        have e1 : zs.map (keyP G) = sortP ps := by
          refine sortP_eq (by rw [← k1]; exact pm.map _) ?_
          rw [List.pairwise_map]
          refine so.imp fun {x y} hxy => ?_
          have z := SrtO.lexB_no.mp hxy
          exact leP_iff.mpr (by omega)
        have l2 : DenL X.K G zs ((sortP ps).map dPair) := by
          rw [← e1]
          exact denL_ofKeys fun y hy => k2 y (pm.mem_iff.mp hy)
        exact post.newL rep l2 n
  | _ => cases e
end
end LP

end
section
set_option Elab.async false
set_option linter.all false
set_option maxRecDepth 100000
set_option maxHeartbeats 2000000
/-! LP5: repr, isinstance, places, slices, chains. -/
namespace LP
open PySem PySem.Spec L2
open PyProof.Rows hiding St
variable [Zk]
section
variable {X : Cx} {pins : List (Addr × Obj)} {σ : St} {H : Hp} {s : Shared}
mutual
theorem Den.reads (I : Inv X pins σ H s) : ∀ {v : V} {d : D} {u : Value}, Den X.K H v d → d.hasDict = false → RelV v u → ∃ as, Reads s.heap u d as
  | _, _, _, .non, _, r => by
    cases r
    exact ⟨_, .none⟩
  | _, _, _, .bl b, _, r => by
    cases r
    exact ⟨_, .bool b⟩
  | _, _, _, .int i, _, r => by
    obtain ⟨t, rfl⟩ := r
    exact ⟨_, .int i t⟩
  | _, _, _, .str x, _, r => by
    obtain ⟨t, rfl⟩ := r
    exact ⟨_, .str x t⟩
  | _, _, _, .lst h l, q, r => by
    cases r
    obtain ⟨its, rv, ⟨o, n, e1, e2, _, e3⟩, _⟩ := I.list h
    obtain ⟨as, k⟩ := l.reads I (by simpa [PyData.hasDict] using q) rv
    exact ⟨_, .list e1 e2 e3 (by simpa using k)⟩
  | _, _, _, .tup h l, q, r => by
    cases r
    obtain ⟨its, rv, ⟨o, e1, e2, n, e3⟩, _⟩ := I.tuple (.inl (.inl h))
    obtain ⟨as, k⟩ := l.reads I (by simpa [PyData.hasDict] using q) rv
    exact ⟨_, .tuple e1 e2 e3 (by simpa using k)⟩
  | _, _, _, .dic h l, q, r => by simp [PyData.hasDict] at q
  | _, _, _, .exc _ _ _ _ _, q, r => by simp [PyData.hasDict] at q
  | _, _, _, .exn _ _ _, q, r => by simp [PyData.hasDict] at q
  | _, _, _, .clo _ _ _ _ _, q, r => by simp [PyData.hasDict] at q
theorem DenL.reads (I : Inv X pins σ H s) : ∀ {vs : List V} {ds : List D} {us : List Value}, DenL X.K H vs ds → PyData.hasDictAll ds = false → Vals vs us → ∃ as, ReadsAll s.heap us ds as
  | _, _, _, .nil, _, r => by
    cases r
    exact ⟨_, .nil⟩
  | _, _, _, .cons h l, q, r => by
    cases r with
    | cons r1 r2 =>
      simp only [PyData.hasDictAll, Bool.or_eq_false_iff] at q
      obtain ⟨as, k1⟩ := h.reads I q.1 r1
      obtain ⟨bs, k2⟩ := l.reads I q.2 r2
      exact ⟨_, .cons k1 k2⟩
end
end
/-- the table of modules is no list -/
def SmB (base : Heap) : Prop := ∃ o es ep, base.get? sysModules = some o ∧ o.data = .dict es ep
section
variable {X : Cx} {pins : List (Addr × Obj)} {σ : St} {H : Hp} {s : Shared}
theorem sqL_noSys (I : Inv X pins σ H s) (sm : SmB X.base) {a : Addr} {xs : List V} (h : SqL X.K H a xs) : a ≠ sysModules := fun z => by
  obtain ⟨o, es, ep, e1, e2⟩ := sm
  subst z
  have hn := (I.bs _ _ e1).2
  rcases h with (h | ⟨ob, h⟩) | ⟨ob, its, n, hk, h1, h2, h3, _⟩
  · rw [hn] at h; cases h
  · rw [hn] at h; cases h
  · have e3 := I.ok.mod.kin _ _ hk
    rw [e1] at e3
    cases e3
    rw [e2] at h3
    cases h3
mutual
theorem Den.readsE (I : Inv X pins σ H s) (sm : SmB X.base) : ∀ {v : V} {d : D} {u : Value}, Den X.K H v d → emD d = true → RelV v u → ∃ as, Reads s.heap u d as ∧ sysModules ∉ as
  | _, _, _, .non, _, r => by
    cases r
    exact ⟨_, .none, by simp⟩
  | _, _, _, .bl b, _, r => by
    cases r
    exact ⟨_, .bool b, by simp⟩
  | _, _, _, .int i, _, r => by
    obtain ⟨t, rfl⟩ := r
    exact ⟨_, .int i t, by simp⟩
  | _, _, _, .str x, _, r => by
    obtain ⟨t, rfl⟩ := r
    exact ⟨_, .str x t, by simp⟩
  | _, _, _, .lst h l, q, r => by
    cases r
    have hne := sqL_noSys I sm h
    obtain ⟨its, rv, ⟨o, n, e1, e2, _, e3⟩, _⟩ := I.list h
    obtain ⟨as, k, hno⟩ := l.readsE I sm (by simpa [emD] using q) rv
    refine ⟨_, .list e1 e2 e3 (by simpa using k), fun z => ?_⟩
    rcases List.mem_cons.mp z with y | y
    · exact hne y.symm
    · exact hno y
  | _, _, _, .tup h l, q, r => by
    cases r
    obtain ⟨its, rv, ⟨o, e1, e2, n, e3⟩, _⟩ := I.tuple (.inl (.inl h))
    obtain ⟨as, k, hno⟩ := l.readsE I sm (by simpa [emD] using q) rv
    exact ⟨_, .tuple e1 e2 e3 (by simpa using k), hno⟩
  | _, _, _, .dic (a := a) h l, q, r => by
    cases r
    have q := List.isEmpty_iff.mp (by simpa [emD] using q)
    subst q
    cases l
    obtain ⟨_, hsys, vs, rel, dof⟩ := dk_of I.hok h
    cases rel
    obtain ⟨o, es, ep, ho, hex, hd, _, hp, _⟩ := dof
    generalize hes : es.toList = el at hp
    cases hp
    refine ⟨_, .dict ho hex.1 hd (by rw [hes]; exact .nil) (by rw [hes]; exact .nil), fun z => ?_⟩
    simp only [List.append_nil, List.mem_singleton, List.cons_append, List.nil_append] at z
    rw [z] at hsys
    simp at hsys
  | _, _, _, .exc _ _ _ _ _, q, r => by simp [emD] at q
  | _, _, _, .exn _ _ _, q, r => by simp [emD] at q
  | _, _, _, .clo _ _ _ _ _, q, r => by simp [emD] at q
theorem DenL.readsE (I : Inv X pins σ H s) (sm : SmB X.base) : ∀ {vs : List V} {ds : List D} {us : List Value}, DenL X.K H vs ds → emDs ds = true → Vals vs us → ∃ as, ReadsAll s.heap us ds as ∧ sysModules ∉ as
  | _, _, _, .nil, _, r => by
    cases r
    exact ⟨_, .nil, by simp⟩
  | _, _, _, .cons h l, q, r => by
    cases r with
    | cons r1 r2 =>
      simp only [emDs, Bool.and_eq_true] at q
      obtain ⟨as, k1, n1⟩ := h.readsE I sm q.1 r1
      obtain ⟨bs, k2, n2⟩ := l.readsE I sm q.2 r2
      exact ⟨_, .cons k1 k2, fun z => (List.mem_append.mp z).elim n1 n2⟩
end
end
section
variable {X : Cx}
theorem cr_repr (sm : SmB X.base) (hg : X.A.guards = some []) (hu : X.A.units + 70 < cLine) : CallR X (.builtin "repr") (rB1 X.K .repr) := by
  intro pins s0 τ H xs us Q I rv h
  obtain ⟨F, G, s, σ, v, d, r, rfl, rep, hr, e, post⟩ := h
  simp only [b1D, repD] at e
  split at e
  · cases e
    rename_i hc
    simp only [Bool.and_eq_true, decide_eq_true_eq, szOk] at hc
    obtain ⟨⟨⟨h1, h2⟩, h3⟩, h4⟩ := hc
    obtain ⟨u, rfl, ru⟩ := vals1 rv
    have q : Q (.str d.shown) H := post.fz rep (.str _)
    have dn := hr.denH rep.gh
    obtain ⟨as, rd, hno⟩ := dn.readsE I sm h1 ru
    have fin : ∀ (h' : Heap) (t tk : Tok), (∀ b o, s0.heap.get? b = some o → h'.get? b = some o) → EP X pins τ Q (.str d.shown t) { s0 with heap := h', toks := tk } := fun h' t tk hk => ⟨.str d.shown, H, I.kept (t' := tk) hk, ⟨_, rfl⟩, q⟩
    cases rd with
    | none => exact PySem.P.repr_of_none ⟨.str _, H, I.tok _, ⟨_, rfl⟩, q⟩
    | bool b => exact PySem.P.repr_of_bool ⟨.str _, H, I.tok _, ⟨_, rfl⟩, by cases b <;> exact q⟩
    | int i t => exact PySem.P.repr_of_int (by simpa [PyData.showable] using h2) ⟨.str _, H, I.tok _, ⟨_, rfl⟩, q⟩
    | str x t => exact PySem.P.repr_of_str ⟨.str _, H, I.tok _, ⟨_, rfl⟩, q⟩ (by simpa [PyData.shown] using h4)
    | list e1 e2 e3 e4 => exact repr_of_reads' (.list e1 e2 e3 e4) h2 (fun _ => hno) hg (by omega) (fun _ _ z => z) (fun h' t tk hk => fin h' t tk hk) h4
    | tuple e1 e2 e3 e4 => exact repr_of_reads' (.tuple e1 e2 e3 e4) h2 (fun _ => hno) hg (by omega) (fun _ _ z => z) (fun h' t tk hk => fin h' t tk hk) h4
    | dict e1 e2 e3 e4 e5 => exact repr_of_reads' (.dict e1 e2 e3 e4 e5) h2 (fun _ => hno) hg (by omega) (fun _ _ z => z) (fun h' t tk hk => fin h' t tk hk) h4
  · cases e
/-! ### min of rows of ints -/
theorem onRows_inv {f : List (List Int) → Option D} {d r : D} (e : onRows f d = some r) : ∃ ds rs, d = .list ds ∧ asRows ds = some rs ∧ f rs = some r := by
  cases d with
  | list ds =>
    simp only [onRows, Option.bind_eq_some_iff] at e
    obtain ⟨ns, h1, h2⟩ := e
    exact ⟨ds, ns, rfl, h1, h2⟩
  | _ => cases e
theorem asInts_eq : ∀ {ds : List D} {ns : List Int}, asInts ds = some ns → ds = ns.map PyData.int
  | [], ns, e => by
    simp only [asInts, Option.some.injEq] at e
    subst e
    rfl
  | d :: ds, ns, e => by
    cases d with
    | int i =>
      simp only [asInts, Option.map_eq_some_iff] at e
      obtain ⟨m, e1, rfl⟩ := e
      rw [asInts_eq e1]
      rfl
    | _ => simp [asInts] at e
def dRowI (r : List Int) : D := .tuple (r.map .int)
theorem asRows_eq : ∀ {ds : List D} {rs : List (List Int)}, asRows ds = some rs → ds = rs.map dRowI
  | [], rs, e => by
    simp only [asRows, Option.some.injEq] at e
    subst e
    rfl
  | d :: ds, rs, e => by
    cases d with
    | tuple xs =>
      simp only [asRows, Option.bind_eq_some_iff, Option.map_eq_some_iff] at e
      obtain ⟨ns, e1, m, e2, rfl⟩ := e
      rw [asRows_eq e2, asInts_eq e1]
      rfl
    | _ => simp [asRows] at e
theorem rows_noDict : ∀ rs : List (List Int), PyData.hasDictAll (rs.map dRowI) = false
  | [] => rfl
  | r :: rs => by
    have h : ∀ ns : List Int, PyData.hasDictAll (ns.map PyData.int) = false := fun ns => by
      induction ns with
      | nil => rfl
      | cons n ns ih => rw [List.map_cons, PyData.hasDictAll, ih]; rfl
    rw [List.map_cons, PyData.hasDictAll, rows_noDict rs]
    simp only [dRowI, PyData.hasDict, h, Bool.or_self]
theorem rows_depth : ∀ rs : List (List Int), PyData.depthAll (rs.map dRowI) ≤ 1
  | [] => Nat.zero_le _
  | r :: rs => by
    rw [List.map_cons, PyData.depthAll]
    have h := rows_depth rs
    have h2 : (dRowI r).depth ≤ 1 := by
      unfold dRowI
      rw [PyData.depth, PySem.W.depth_ints]
      exact Nat.le_refl _
    omega
theorem minD_rows (x : List Int) : ∀ rs : List (List Int), PySem.W.minD (dRowI x) (rs.map dRowI) = dRowI (rs.foldl (fun a b => if b < a then b else a) x)
  | [] => rfl
  | r :: rs => by
    have h : PySem.W.dataLt (dRowI r) (dRowI x) = decide (r < x) := PySem.W.dataLt_ints r x
    have e : PySem.W.minD (dRowI x) ((r :: rs).map dRowI) = PySem.W.minD (if PySem.W.dataLt (dRowI r) (dRowI x) then dRowI r else dRowI x) (rs.map dRowI) := rfl
    rw [e, h, List.foldl_cons]
    by_cases q : r < x
    · simp only [q, decide_true, if_true]
      exact minD_rows r rs
    · simp only [q, decide_false, if_false, Bool.false_eq_true]
      exact minD_rows x rs
theorem rows_alike (rs : List (List Int)) : PySem.W.AlikeAll (rs.map dRowI) := by
  refine ⟨fun a ha b hb => ?_, fun a ha => ?_⟩
  · obtain ⟨x, _, rfl⟩ := List.mem_map.mp ha
    obtain ⟨y, _, rfl⟩ := List.mem_map.mp hb
    show PySem.W.alikeAll _ _ = true
    exact PySem.W.alike_ints x y
  · obtain ⟨x, _, rfl⟩ := List.mem_map.mp ha
    unfold dRowI
    simp
theorem cr_minT (hc : X.calm = true) (hu : X.A.units + 70 < cLine) : CallR X (.builtin "min") (rB1 X.K .minT) := by
  intro pins s0 τ H xs us Q I rv h
  obtain ⟨F, G, s, σ, v, d, r, rfl, rep, hr, e, post⟩ := h
  obtain ⟨ds, rs, rfl, h1, h2⟩ := onRows_inv e
  simp only [Option.map_eq_some_iff] at h2
  obtain ⟨m, h2, rfl⟩ := h2
  rw [asRows_eq h1] at hr
  obtain ⟨a, ys, rfl, q, l⟩ := hr.list rep.gh
  obtain ⟨its, rv2, hl, _⟩ := I.list q
  rw [Vals.ref1 rv]
  cases rs with
  | nil => cases h2
  | cons x rs =>
    simp only [minRow, Option.some.injEq] at h2
    obtain ⟨as, ra⟩ := (l.mono rep.gh).reads I (rows_noDict _) rv2
    refine PySem.W.min_list_data (x := dRowI x) (xs := rs.map dRowI) (I.ok.hd hc) hl.isList (by simpa using ra) (rows_alike (x :: rs)) (by have := rows_depth (x :: rs); rw [List.map_cons] at this; omega) fun i u h' tk bs hi hrd hk => ?_
    rw [minD_rows, h2] at hrd
    have hi' : its[i]? = some u := by simpa using hi
    obtain ⟨y, hy, ry⟩ : ∃ y, ys[i]? = some y ∧ RelV y u := by
      have hlt : i < ys.length := by
        rw [rv2.length]
        exact (List.getElem?_eq_some_iff.mp hi').1
      obtain ⟨u', e1, e2⟩ := rv2.get (List.getElem?_eq_getElem hlt)
      rw [hi'] at e1
      cases e1
      exact ⟨_, List.getElem?_eq_getElem hlt, e2⟩
    obtain ⟨dy, hdy, dn⟩ := l.getV hy
    obtain ⟨z, hz, rfl⟩ := List.mem_map.mp (List.mem_of_getElem? hdy)
    obtain ⟨as', r'⟩ := (dn.mono rep.gh).reads I (by have := rows_noDict [z]; simpa [PyData.hasDictAll] using this) ry
    have e3 : dRowI z = dRowI m := PySem.W.alike_unique _ _ _ _ _ (show PySem.W.alikeAll _ _ = true from PySem.W.alike_ints z m) (PySem.W.reads_keeps hk r') hrd
    rw [e3] at dn
    exact ⟨y, H, I.kept hk, ry, post.fz rep dn⟩
/-! ### isinstance -/
def Ty.nm : Ty → String
  | .int => "int"
  | .bool => "bool"
  | .str => "str"
  | .tuple => "tuple"
  | .list => "list"
  | .dict => "dict"
theorem Den.ty {K : PySem.W.Frag} {H : Hp} {v : V} {d : D} (h : Den K H v d) (od : oddD d = false) : ∃ n : String, TyX K H v (.type n) ∧ ∀ t : Ty, kitB n t.nm = some (isTy d t) := by
  cases h with
  | non => exact ⟨"NoneType", .base .non, fun t => by cases t <;> first | exact (show kitB "NoneType" _ = some true by decide +kernel) | exact (show kitB "NoneType" _ = some false by decide +kernel)⟩
  | bl b => exact ⟨"bool", .base (.bl b), fun t => by cases t <;> first | exact (show kitB "bool" _ = some true by decide +kernel) | exact (show kitB "bool" _ = some false by decide +kernel)⟩
  | int i => exact ⟨"int", .base (.int i), fun t => by cases t <;> first | exact (show kitB "int" _ = some true by decide +kernel) | exact (show kitB "int" _ = some false by decide +kernel)⟩
  | str x => exact ⟨"str", .base (.str x), fun t => by cases t <;> first | exact (show kitB "str" _ = some true by decide +kernel) | exact (show kitB "str" _ = some false by decide +kernel)⟩
  | lst q l =>
    refine ⟨"list", ?_, fun t => by cases t <;> first | exact (show kitB "list" _ = some true by decide +kernel) | exact (show kitB "list" _ = some false by decide +kernel)⟩
    rcases q with (q | ⟨o, q⟩) | ⟨o, its, n, e1, e2, _⟩
    · exact .base (.lst q)
    · exact .base (.frz q)
    · exact .kList e1 e2
  | tup q l => exact ⟨"tuple", .base (.tup q), fun t => by cases t <;> first | exact (show kitB "tuple" _ = some true by decide +kernel) | exact (show kitB "tuple" _ = some false by decide +kernel)⟩
  | dic q l => exact ⟨"dict", .base (.dK q), fun t => by cases t <;> first | exact (show kitB "dict" _ = some true by decide +kernel) | exact (show kitB "dict" _ = some false by decide +kernel)⟩
  | exc _ _ _ _ _ => cases od
  | exn _ _ _ => cases od
  | clo _ _ _ _ _ => cases od
def rIsT (K : PySem.W.Frag) (t : Ty) : List V → Hp → VK → Prop := fun vs H Q => ∃ v d, vs = [v, .ty t.nm] ∧ Den K H v d ∧ oddD d = false ∧ Q (.bl (isTy d t)) H
theorem cr_isT (t : Ty) : CallR X (.builtin "isinstance") (rIsT X.K t) := by
  refine CallR.imp call_isi fun xs H Q h => ?_
  obtain ⟨v, d, rfl, hd, od, q⟩ := h
  obtain ⟨n, ty, k⟩ := hd.ty od
  exact ⟨v, .ty t.nm, .type n, .type t.nm, _, rfl, .ty _, ty, kit_ty (k t), q⟩
/-! ### min, max of two -/
def B2.nm : B2 → String
  | .min => "min"
  | .max => "max"
  | .join => "join"
  | .split => "split"
  | .index => "index"
def B2.meth : B2 → Bool
  | .min => false
  | .max => false
  | _ => true
def rB2 (K : PySem.W.Frag) (f : B2) : List V → Hp → VK → Prop := fun vs H Q => ∃ F G s σ v w d e r, vs = [v, w] ∧ Rep K F G s σ H ∧ Den K G v d ∧ Den K G w e ∧ b2D f d e = some r ∧ Post K F G s σ ⟨.fz, r⟩ Q
theorem cr_b2 (hc : X.calm = true) (f : B2) (hf : f.meth = false) : CallR X (.builtin f.nm) (rB2 X.K f) := by
  cases f with
  | join => cases hf
  | split => cases hf
  | index => cases hf
  | min =>
    refine CallR.imp (call_min2 hc) fun xs H Q h => ?_
    obtain ⟨F, G, s, σ, v, w, d, e, r, rfl, rep, h1, h2, hb, post⟩ := h
    cases d <;> cases e <;> simp only [b2D] at hb <;> first | cases hb | skip
    cases h1
    cases h2
    exact ⟨_, _, rfl, post.fz rep (.int _)⟩
  | max =>
    refine CallR.imp (call_max2 hc) fun xs H Q h => ?_
    obtain ⟨F, G, s, σ, v, w, d, e, r, rfl, rep, h1, h2, hb, post⟩ := h
    cases d <;> cases e <;> simp only [b2D] at hb <;> first | cases hb | skip
    cases h1
    cases h2
    exact ⟨_, _, rfl, post.fz rep (.int _)⟩
/-! ### a[i] -/
theorem valV_look {K : PySem.W.Frag} {G : Hp} {k : Str} : ∀ {ks : List (Key × V)} {kvs : List (D × D)} {d : D}, DenK K G ks kvs → dLook k kvs = some d → ∃ v, valV ks (Sum.inr k) = some v ∧ Den K G v d
  | _, _, d, .nil, e => by simp [dLook] at e
  | _, _, d, .cons (x := x) (v := v) (ks := ks) h l, e => by
    simp only [dLook] at e
    by_cases hx : x = k
    · subst hx
      rw [if_pos rfl] at e
      cases e
      exact ⟨v, by simp [valV], h⟩
    · rw [if_neg hx] at e
      obtain ⟨w, h1, h2⟩ := valV_look l e
      refine ⟨w, ?_, h2⟩
      rw [← h1]
      unfold valV
      rw [List.find?_cons_of_neg]
      simpa using hx
end
end LP

end
section
set_option Elab.async false
set_option linter.all false
set_option maxRecDepth 100000
set_option maxHeartbeats 2000000
/-! LP6: expressions, part by part. -/
namespace LP
open PySem PySem.Spec L2
open PyProof.Rows hiding St
variable [Zk]
/-- what an expression that comes to a result is worth, as a reading -/
def TDE (K : PySem.W.Frag) (ev : LS → Option (SV × LS)) : TE := fun σ H Q => ∃ F G s x s', Rep K F G s σ H ∧ ev s = some (x, s') ∧ Post K F G s' σ x Q
def TDO (K : PySem.W.Frag) (ev : LS → Option (Opd × LS)) : TE := fun σ H Q => ∃ F G s o s', Rep K F G s σ H ∧ ev s = some (o, s') ∧
  ∀ v H' G', Same G G' → Rep K F G' s' σ H' → OR K G' σ v o → Q v H'
def TDB (K : PySem.W.Frag) (ev : LS → Option (Bool × LS)) : TT := fun σ H Q => ∃ F G s b s', Rep K F G s σ H ∧ ev s = some (b, s') ∧
  ∀ H' G', Same G G' → Rep K F G' s' σ H' → Q b H'
/-- a result that is let go -/
def TDF (K : PySem.W.Frag) (ev : LS → Option (SV × LS)) : TE := fun σ H Q => ∃ F G s x s', Rep K F G s σ H ∧ ev s = some (x, s') ∧
  ∀ v H' G', Same G G' → Rep K F G' s' σ H' → Den K G' v x.d → Q v H'
theorem _root_.L2.PE.imp {X : Cx} {e : Expr} {t t' : TE} (h : PE X e t) (i : ∀ σ H Q, t' σ H Q → t σ H Q) : PE X e t' := ⟨fun pins s σ H Q I q => h.run pins s σ H Q I (i _ _ _ q)⟩
theorem _root_.L2.PT.imp {X : Cx} {e : Expr} {t t' : TT} (h : PT X e t) (i : ∀ σ H Q, t' σ H Q → t σ H Q) : PT X e t' := ⟨fun pins s σ H Q I q => h.run pins s σ H Q I (i _ _ _ q)⟩
theorem _root_.L2.PW.imp {X : Cx} {e : Expr} {t t' : TT} (h : PW X e t) (i : ∀ σ H Q, t' σ H Q → t σ H Q) : PW X e t' := ⟨fun wh pins s σ H Q I q => h.run wh pins s σ H Q I (i _ _ _ q)⟩
theorem _root_.L2.PA.imp {X : Cx} {e : List Expr} {t t' : TA} (h : PA X e t) (i : ∀ σ H Q, t' σ H Q → t σ H Q) : PA X e t' := ⟨fun p pins s σ H Q I q => h.run p pins s σ H Q I (i _ _ _ q)⟩
theorem _root_.L2.PE.or {X : Cx} {e : Expr} {t t' : TE} (h : PE X e t) (h' : PE X e t') : PE X e (fun σ H Q => t σ H Q ∨ t' σ H Q) := ⟨fun pins s σ H Q I q => q.elim (h.run pins s σ H Q I) (h'.run pins s σ H Q I)⟩
section
variable {X : Cx} {cf : CF}
theorem pf (h : PE X e (TDE X.K ev)) : PE X e (TDF X.K ev) := h.imp fun σ H Q ⟨F, G, s, x, s', rep, e, q⟩ => ⟨F, G, s, x, s', rep, e, fun v H' G' sm r rv => by
  obtain ⟨G2, sm2, r2, d⟩ := rv.den r
  exact q v H' G2 (sm.trans sm2) r2 d⟩
/-- an operand: a name as it is, or a result that is let go -/
theorem po_name {i : Nat} {x : Str} {pos : Pos} (hN : X.N[i]? = some x) (hv : Vis X.env.scope x) (h1 : (x == ("__debug__" : Str)) = false) (h2 : (x == ("__classdict__" : Str)) = false) : PE X (.Name x pos) (TDO X.K fun s => opA (.v i) (evE cf (.v i) s) s) := by
  refine (pe_var hN hv h1 h2).imp fun σ H Q ⟨F, G, s, o, s', rep, e, q⟩ => ?_
  simp only [opA, Option.map_eq_some_iff] at e
  obtain ⟨y, hy, e⟩ := e
  cases e
  have : ∃ v, σ[i]? = some (some v) := by
    cases hm : y.m with
    | fz => obtain ⟨v, e, _⟩ := rep.fz i y hy (by rw [hm]; rfl); exact ⟨v, e⟩
    | fi => obtain ⟨v, e, _⟩ := rep.fz i y hy (by rw [hm]; rfl); exact ⟨v, e⟩
    | ow => obtain ⟨v, e, _⟩ := rep.ow i y hy (by rw [hm]; rfl); exact ⟨_, e⟩
    | io => obtain ⟨v, e, _⟩ := rep.ow i y hy (by rw [hm]; rfl); exact ⟨_, e⟩
    | lk => obtain ⟨v, e, _⟩ := rep.lk i y hy (by rw [hm]; rfl); exact ⟨_, e⟩
    | li => obtain ⟨v, e, _⟩ := rep.lk i y hy (by rw [hm]; rfl); exact ⟨_, e⟩
  obtain ⟨v, hv⟩ := this
  exact ⟨v, hv, q v H G (Same.refl _) rep hv⟩
theorem po_of {c : CE} (h : PE X e (TDE X.K (evE cf c))) (hn : ∀ i, c ≠ .v i) : PE X e (TDO X.K fun s => opA c (evE cf c s) s) := by
  refine (pf h).imp fun σ H Q ⟨F, G, s, o, s', rep, e, q⟩ => ?_
  have e' : (evE cf c s).map (fun x => (Opd.val x.1.d, x.2)) = some (o, s') := by
    cases c <;> first | exact e | exact absurd rfl (hn _)
  simp only [Option.map_eq_some_iff] at e'
  obtain ⟨x, e1, e2⟩ := e'
  cases e2
  exact ⟨F, G, s, x.1, x.2, rep, e1, fun v H' G' sm r d => q v H' G' sm r d⟩
theorem Rep.set_slot {K : PySem.W.Frag} {F G H : Hp} {s : LS} {σ : St} (r : Rep K F G s σ H) {i : Nat} {x y : SV} (hx : slot s i = some x) (h1 : y.m.isFz = true → ∃ v, σ[i]? = some (some v) ∧ Den K G v y.d)
    (h2 : y.m.isOw = true → x.m.isOw = true ∧ ∃ a, σ[i]? = some (some (.ref a)) ∧ F a = none ∧ G a = none ∧ Cell K G H a y.d) (h3 : y.m.isLk = true → ∃ a, σ[i]? = some (some (.ref a)) ∧ Cell K G F a y.d) : Rep K F G (putS s i y) σ H := by
  have at_ : ∀ j z, slot (putS s i y) j = some z → (i = j ∧ z = y) ∨ slot s j = some z := fun j z e => by
    rw [slot_put hx] at e
    split at e
    · rename_i q; exact .inl ⟨q, (Option.some.inj e).symm⟩
    · exact .inr e
  refine ⟨r.fh, r.gh, r.fg, by unfold putS; rw [List.length_set]; exact r.len, fun j z e m => ?_, fun j z e m => ?_, fun j z e m => ?_, fun j k z w a e1 e2 m1 m2 q1 q2 => ?_, r.tb⟩
  · rcases at_ j z e with ⟨q, ez⟩ | ez
    · rw [ez] at m ⊢; rw [← q]; exact h1 m
    · exact r.fz j z ez m
  · rcases at_ j z e with ⟨q, ez⟩ | ez
    · rw [ez] at m ⊢; rw [← q]; exact (h2 m).2
    · exact r.ow j z ez m
  · rcases at_ j z e with ⟨q, ez⟩ | ez
    · rw [ez] at m ⊢; rw [← q]; exact h3 m
    · exact r.lk j z ez m
  · have g : ∀ j z, slot (putS s i y) j = some z → z.m.isOw = true → ∃ z', slot s j = some z' ∧ z'.m.isOw = true := fun j z e m => by
      rcases at_ j z e with ⟨q, ez⟩ | ez
      · rw [ez] at m; rw [← q]; exact ⟨x, hx, (h2 m).1⟩
      · exact ⟨z, ez, m⟩
    obtain ⟨z', g1, g2⟩ := g j z e1 m1
    obtain ⟨w', g3, g4⟩ := g k w e2 m2
    exact r.inj j k z' w' a g1 g3 g2 g4 q1 q2
/-- a cell of a slot's own, known for ever from now on -/
theorem Rep.freeze {K : PySem.W.Frag} {F G H : Hp} {s : LS} {σ : St} (rep : Rep K F G s σ H) {i : Nat} {y : SV} {m' : Md} {a : Addr} {o : HO} (hy : slot s i = some y) (hm : y.m.isOw = true) (hm' : m'.isFz = true) (e : σ[i]? = some (some (.ref a))) (f : F a = none) (g : G a = none)
    (c : Cell K G H a y.d) (ho : H a = some o) : Rep K F (upd G a o) (putS s i ⟨m', y.d⟩) σ H := by
  have sm := same_upd (o := o) g
  have dn : Den K (upd G a o) (.ref a) y.d := c.den ho g
  have n1 : m'.isOw = false := by cases m' <;> first | rfl | cases hm'
  have n2 : m'.isLk = false := by cases m' <;> first | rfl | cases hm'
  have at_ : ∀ j z, slot (putS s i ⟨m', y.d⟩) j = some z → (i = j ∧ z = ⟨m', y.d⟩) ∨ (i ≠ j ∧ slot s j = some z) := fun j z e => by
    rw [slot_put hy] at e
    split at e
    · rename_i q; exact .inl ⟨q, (Option.some.inj e).symm⟩
    · rename_i q; exact .inr ⟨q, e⟩
  refine ⟨rep.fh, fun b u q => ?_, fun b u q => ?_, by unfold putS; rw [List.length_set]; exact rep.len, fun j z e' m => ?_, fun j z e' m => ?_, fun j z e' m => ?_, fun j k z w b e1 e2 m1 m2 q1 q2 => ?_, Zk.mono rep.tb sm⟩
  · by_cases hb : b = a
    · subst hb; rw [upd_same] at q; cases q; exact ho
    · rw [upd_ne hb] at q; exact rep.gh _ _ q
  · rw [upd_ne (ne_of_none q f)]; exact rep.fg _ _ q
  · rcases at_ j z e' with ⟨q, ez⟩ | ⟨_, ez⟩
    · rw [← q, ez]; exact ⟨_, e, dn⟩
    · obtain ⟨v, e1, d⟩ := rep.fz j z ez m
      exact ⟨v, e1, d.mono sm⟩
  · rcases at_ j z e' with ⟨q, ez⟩ | ⟨hne, ez⟩
    · rw [ez] at m; rw [show Md.isOw m' = true from m] at n1; cases n1
    · obtain ⟨b, e1, f1, g1, c1⟩ := rep.ow j z ez m
      have ne : b ≠ a := fun z2 => hne (rep.inj i j y z a hy ez hm m e (by rw [e1, z2]))
      exact ⟨b, e1, f1, by rw [upd_ne ne]; exact g1, c1.mono sm fun _ q => q⟩
  · rcases at_ j z e' with ⟨q, ez⟩ | ⟨_, ez⟩
    · rw [ez] at m; rw [show Md.isLk m' = true from m] at n2; cases n2
    · obtain ⟨b, e1, c1⟩ := rep.lk j z ez m
      exact ⟨b, e1, c1.mono sm fun _ q => q⟩
  · rcases at_ j z e1 with ⟨q, ez⟩ | ⟨_, ez⟩
    · rw [ez] at m1; rw [show Md.isOw m' = true from m1] at n1; cases n1
    · rcases at_ k w e2 with ⟨q, ew⟩ | ⟨_, ew⟩
      · rw [ew] at m2; rw [show Md.isOw m' = true from m2] at n1; cases n1
      · exact rep.inj j k z w b ez ew m1 m2 q1 q2
/-- a name that is let go -/
theorem leak_ok {K : PySem.W.Frag} {F G H : Hp} {s s' : LS} {σ : St} {i : Nat} {x : SV} (rep : Rep K F G s σ H) (e : leak s i = some (x, s')) : ∃ v G', σ[i]? = some (some v) ∧ Same G G' ∧ Rep K F G' s' σ H ∧ x.m = .fz ∧ Den K G' v x.d := by
  simp only [leak, Option.bind_eq_some_iff] at e
  obtain ⟨y, hy, e⟩ := e
  cases hm : y.m with
  | fz =>
    simp only [hm] at e
    cases e
    obtain ⟨v, e, d⟩ := rep.fz i y hy (by rw [hm]; rfl)
    exact ⟨v, G, e, Same.refl _, rep, rfl, d⟩
  | fi =>
    simp only [hm] at e
    cases e
    obtain ⟨v, e, d⟩ := rep.fz i y hy (by rw [hm]; rfl)
    exact ⟨v, G, e, Same.refl _, rep, rfl, d⟩
  | ow =>
    simp only [hm] at e
    cases e
    obtain ⟨a, e, f, g, c⟩ := rep.ow i y hy (by rw [hm]; rfl)
    obtain ⟨o, ho⟩ := c.at
    exact ⟨.ref a, upd G a o, e, same_upd g, rep.freeze hy (by rw [hm]; rfl) rfl e f g c ho, rfl, c.den ho g⟩
  | io =>
    simp only [hm] at e
    cases e
    obtain ⟨a, e, f, g, c⟩ := rep.ow i y hy (by rw [hm]; rfl)
    obtain ⟨o, ho⟩ := c.at
    exact ⟨.ref a, upd G a o, e, same_upd g, rep.freeze hy (by rw [hm]; rfl) rfl e f g c ho, rfl, c.den ho g⟩
  | lk => simp only [hm] at e; cases e
  | li => simp only [hm] at e; cases e
theorem pe_name {i : Nat} {x : Str} {pos : Pos} (hN : X.N[i]? = some x) (hv : Vis X.env.scope x) (h1 : (x == ("__debug__" : Str)) = false) (h2 : (x == ("__classdict__" : Str)) = false) : PE X (.Name x pos) (TDE X.K (evE cf (.v i))) := by
  refine (pe_var hN hv h1 h2).imp fun σ H Q ⟨F, G, s, o, s', rep, e, q⟩ => ?_
  obtain ⟨v, G', e1, sm, r1, hm, d⟩ := leak_ok rep e
  refine ⟨v, e1, q v H G' sm r1 ?_⟩
  obtain ⟨m, d'⟩ := o
  simp only at hm
  subst hm
  exact d
/-- constants -/
theorem pe_const {e : Expr} {v : V} {d : D} {c : CE} (h : PE X e (tC v)) (hd : ∀ G, Den X.K G v d) (hc : ∀ s, evE cf c s = some (⟨.fz, d⟩, s)) : PE X e (TDE X.K (evE cf c)) := by
  refine h.imp fun σ H Q ⟨F, G, s, x, s', rep, e, q⟩ => ?_
  rw [hc] at e
  cases e
  exact q.fz rep (hd G)
theorem snd_bin {op : BOp} {a b : CE} {l r : Expr} {pos : Pos} (ha : PE X l (TDO X.K fun s => opA a (evE cf a s) s)) (hb : PE X r (TDO X.K fun s => opA b (evE cf b s) s)) : PE X (.BinOp l op.op r pos) (TDE X.K (evE cf (.bin op a b))) := by
  refine (pe_op (op_bin op) ha hb).imp fun σ H Q ⟨F, G, s, x, s', rep, e, q⟩ => ?_
  simp only [evE, Option.bind_eq_some_iff, Option.map_eq_some_iff] at e
  obtain ⟨y, e1, z, e2, dx, e3, dy, e4, rr, e5, e6⟩ := e
  cases e6
  refine ⟨F, G, s, y.1, y.2, rep, e1, fun v H1 G1 sm1 r1 o1 => ⟨F, G1, y.2, z.1, z.2, r1, e2, fun w H2 G2 sm2 r2 o2 => ?_⟩⟩
  exact ⟨F, G2, z.2, σ, dx, dy, rr, r2, (o1.mono sm2).read r2 e3, o2.read r2 e4, e5, q.mono (sm1.trans sm2)⟩
theorem snd_neg {a : CE} {l : Expr} {pos : Pos} (ha : PE X l (TDE X.K (evE cf a))) : PE X (.UnaryOp .USub l pos) (TDE X.K (evE cf (.neg a))) := by
  refine (pe_un un_neg (pf ha)).imp fun σ H Q ⟨F, G, s, x, s', rep, e, q⟩ => ?_
  simp only [evE, Option.bind_eq_some_iff, Option.map_eq_some_iff] at e
  obtain ⟨y, e1, i, e2, e3⟩ := e
  cases e3
  refine ⟨F, G, s, y.1, y.2, rep, e1, fun v H1 G1 sm1 r1 d1 => ?_⟩
  have e2' : y.1.d = .int i := by
    revert e2
    cases y.1.d <;> intro e2 <;> simp [int?] at e2
    rw [e2]
  rw [e2'] at d1
  cases d1
  exact ⟨i, rfl, (q.mono sm1).fz r1 (.int _)⟩
theorem snd_cmp {op : COp} {a b : CE} {l r : Expr} {pos : Pos} (hu : X.A.units + 65 < cLine) (ha : PE X l (TDO X.K fun s => opA a (evE cf a s) s)) (hb : PE X r (TDO X.K fun s => opA b (evE cf b s) s)) (hm : behindInMarks op.op r = false) :
    PE X (.Compare l [op.op] [r] pos) (TDE X.K (evE cf (.cmp op a b))) ∧ PT X (.Compare l [op.op] [r] pos) (TDB X.K fun s => tst (evE cf (.cmp op a b) s)) := by
  constructor
  · refine (pe_cmpR (op_cmp op hu) ha hb hm).imp fun σ H Q ⟨F, G, s, x, s', rep, e, q⟩ => ?_
    simp only [evE, Option.bind_eq_some_iff, Option.map_eq_some_iff] at e
    obtain ⟨y, e1, z, e2, dx, e3, dy, e4, rr, e5, e6⟩ := e
    cases e6
    refine ⟨F, G, s, y.1, y.2, rep, e1, fun v H1 G1 sm1 r1 o1 => ⟨F, G1, y.2, z.1, z.2, r1, e2, fun w H2 G2 sm2 r2 o2 => ?_⟩⟩
    exact ⟨dx, dy, rr, ((o1.mono sm2).read r2 e3).denH r2.gh, (o2.read r2 e4).denH r2.gh, e5, (q.mono (sm1.trans sm2)).fz r2 (.bl _)⟩
  · refine (pt_cmpR (op_cmp op hu) ha hb hm).imp fun σ H Q ⟨F, G, s, x, s', rep, e, q⟩ => ?_
    have e : tst (evE cf (.cmp op a b) s) = some (x, s') := e
    cases he : evE cf (.cmp op a b) s with
    | none => rw [he] at e; cases e
    | some yy =>
      rw [he] at e
      simp only [evE, Option.bind_eq_some_iff, Option.map_eq_some_iff] at he
      obtain ⟨y, e1, z, e2, dx, e3, dy, e4, rr, e5, e6⟩ := he
      subst e6
      cases e
      refine ⟨F, G, s, y.1, y.2, rep, e1, fun v H1 G1 sm1 r1 o1 => ⟨F, G1, y.2, z.1, z.2, r1, e2, fun w H2 G2 sm2 r2 o2 => ?_⟩⟩
      exact ⟨dx, dy, x, ((o1.mono sm2).read r2 e3).denH r2.gh, (o2.read r2 e4).denH r2.gh, e5, x, rfl, q H2 G2 (sm1.trans sm2) r2⟩
end
end LP

end
section
set_option Elab.async false
set_option linter.all false
set_option maxRecDepth 100000
set_option maxHeartbeats 2000000
/-! LP7: expressions, part by part (more). -/
namespace LP
open PySem PySem.Spec L2
open PyProof.Rows hiding St
variable [Zk]
section
variable {X : Cx} {cf : CF}
/-- a test by a value -/
theorem tst_inv {r : Option (SV × LS)} {b : Bool} {s : LS} (h : tst r = some (b, s)) : ∃ m, r = some (⟨m, .bool b⟩, s) := by
  unfold tst at h
  split at h
  · cases h; exact ⟨_, rfl⟩
  · cases h
theorem RV.bool {K : PySem.W.Frag} {F G H : Hp} {s : LS} {σ : St} {v : V} {m : Md} {b : Bool} (q : RV K F G H s σ v ⟨m, .bool b⟩) : v = .bl b := by
  cases m with
  | fz => have q : Den K G v (.bool b) := q; cases q; rfl
  | ow => obtain ⟨p, _, _, _, c, _⟩ := q; exact c.elim
  | _ => exact q.elim
theorem pt_plain {e : Expr} {c : CE} (h : PE X e (TDE X.K (evE cf c))) (he : ∀ whole, isTrue e X.env whole = (do let v ← whole; standAt e.pos; holding [v] (truthy v))) : PT X e (TDB X.K fun s => tst (evE cf c s)) := by
  refine (pt_val h he).imp fun σ H Q ⟨F, G, s, b, s', rep, e, q⟩ => ?_
  obtain ⟨m, e⟩ := tst_inv e
  exact ⟨F, G, s, _, s', rep, e, fun v H' G' sm r rv => ⟨b, rv.bool, q H' G' sm r⟩⟩
/-! ### chains -/
def rCmpG (K : PySem.W.Frag) (op : COp) : R2 := rCmp K op
theorem snd_ch2 {o1 o2 : COp} {a b c : CE} {l r t : Expr} {pos : Pos} (hu : X.A.units + 65 < cLine) (ha : PE X l (TDE X.K (evE cf a))) (hb : PE X r (TDE X.K (evE cf b))) (hc : PE X t (TDE X.K (evE cf c))) (hm : lastMarks [o1.op, o2.op] [r, t] = false) :
    PE X (.Compare l [o1.op, o2.op] [r, t] pos) (TDE X.K (evE cf (.ch2 o1 o2 a b c))) ∧ PT X (.Compare l [o1.op, o2.op] [r, t] pos) (TDB X.K fun s => tst (evE cf (.ch2 o1 o2 a b c) s)) := by
  have key : ∀ σ H (R : V → Hp → Prop), (∃ F G s x s', Rep X.K F G s σ H ∧ evE cf (.ch2 o1 o2 a b c) s = some (x, s') ∧ ∀ k H' G', x = ⟨.fz, .bool k⟩ → Same G G' → Rep X.K F G' s' σ H' → R (.bl k) H') →
      tChain (rCmp X.K o1) (rCmp X.K o2) (TDF X.K (evE cf a)) (TDF X.K (evE cf b)) (TDF X.K (evE cf c)) σ H R := by
    rintro σ H R ⟨F, G, s, x, s', rep, e, q⟩
    simp only [evE, Option.bind_eq_some_iff] at e
    obtain ⟨y, e1, z, e2, k, e3, e4⟩ := e
    refine ⟨F, G, s, y.1, y.2, rep, e1, fun v H1 G1 sm1 r1 d1 => ⟨F, G1, y.2, z.1, z.2, r1, e2, fun w H2 G2 sm2 r2 d2 => ?_⟩⟩
    refine ⟨_, _, k, (d1.mono sm2).mono r2.gh, d2.mono r2.gh, e3, k, rfl, ?_⟩
    cases k with
    | false =>
      simp only [Bool.false_eq_true, if_false] at e4 ⊢
      cases e4
      exact q false H2 G2 rfl (sm1.trans sm2) r2
    | true =>
      simp only [if_true, Option.bind_eq_some_iff, Option.map_eq_some_iff] at e4 ⊢
      obtain ⟨u, e4, rr, e5, e6⟩ := e4
      cases e6
      refine ⟨F, G2, z.2, u.1, u.2, r2, e4, fun w' H3 G3 sm3 r3 d3 => ?_⟩
      exact ⟨_, _, rr, (d2.mono sm3).mono r3.gh, d3.mono r3.gh, e5, q rr H3 G3 rfl (sm1.trans (sm2.trans sm3)) r3⟩
  constructor
  · refine (pe_chain (op_cmp o1 hu) (op_cmp o2 hu) (pf ha) (pf hb) (pf hc) hm).imp fun σ H Q ⟨F, G, s, x, s', rep, e, q⟩ => key σ H Q ⟨F, G, s, x, s', rep, e, fun k H' G' ex sm r => ?_⟩
    subst ex
    exact (q.mono sm).fz r (.bl k)
  · refine (pt_chain (op_cmp o1 hu) (op_cmp o2 hu) (pf ha) (pf hb) (pf hc) hm).imp fun σ H Q ⟨F, G, s, b, s', rep, e, q⟩ => ?_
    obtain ⟨m, e⟩ := tst_inv e
    refine key σ H _ ⟨F, G, s, _, s', rep, e, fun k H' G' ex sm r => ⟨b, ?_, q H' G' sm r⟩⟩
    cases ex
    rfl
def tChain3 (r r' r'' : R2) (ta tb tc td : TE) : TE := fun σ H Q => ta σ H fun x H1 => tb σ H1 fun y H2 => r x y H2 fun z H3 => ∃ k, z = .bl k ∧
  (if k = true then tc σ H3 fun w H4 => r' y w H4 fun z' H5 => ∃ k', z' = .bl k' ∧ (if k' = true then td σ H5 fun t H6 => r'' w t H6 Q else Q (.bl false) H5) else Q (.bl false) H3)
theorem pe_chain3 {a b c d : Expr} {pos : Pos} {op op' op'' : CmpOp} {r r' r'' : R2} {ta tb tc td : TE} (ho : OpR X (compareOp op) r) (ho' : OpR X (compareOp op') r') (ho'' : OpR X (compareOp op'') r'') (ha : PE X a ta) (hb : PE X b tb) (hc : PE X c tc) (hd : PE X d td)
    (hm : lastMarks [op, op', op''] [b, c, d] = false) : PE X (.Compare a [op, op', op''] [b, c, d] pos) (tChain3 r r' r'' ta tb tc td) := by
  refine ⟨fun pins s σ H Q I h => ?_⟩
  refine Compare_chain (thn (ha.run pins s σ H _ I h) fun v s1 ⟨x, H1, I1, r1, q1⟩ => chain_link (thn (hb.run pins s1 σ H1 _ I1 q1) fun u s2 ⟨y, H2, I2, r2, q2⟩ =>
    thn (ho pins s2 σ H2 x y v u _ I2 r1 r2 q2) fun d s3 ⟨z, H3, I3, r3, k, e, q3⟩ => ?_)) hm
  subst e
  cases r3
  refine wpAny_truthy_bool ?_
  cases k with
  | false => exact ite_ff ⟨.bl false, H3, I3, rfl, q3⟩
  | true =>
    refine ite_tt (chain_link (thn (hc.run pins s3 σ H3 _ I3 q3) fun w' s4 ⟨z', H4, I4, r4, q4⟩ => thn (ho' pins s4 σ H4 y z' u w' _ I4 r2 r4 q4) fun d' s5 ⟨z2, H5, I5, r5, k2, e2, q5⟩ => ?_))
    subst e2
    cases r5
    refine wpAny_truthy_bool ?_
    cases k2 with
    | false => exact ite_ff ⟨.bl false, H5, I5, rfl, q5⟩
    | true => exact ite_tt (chain_last (thn (hd.run pins s5 σ H5 _ I5 q5) fun w2 s6 ⟨z3, H6, I6, r6, q6⟩ => ho'' pins s6 σ H6 z' z3 w' w2 Q I6 r4 r6 q6))
theorem pt_chain3 {a b c d : Expr} {pos : Pos} {op op' op'' : CmpOp} {r r' r'' : R2} {ta tb tc td : TE} (ho : OpR X (compareOp op) r) (ho' : OpR X (compareOp op') r') (ho'' : OpR X (compareOp op'') r'') (ha : PE X a ta) (hb : PE X b tb) (hc : PE X c tc) (hd : PE X d td)
    (hm : lastMarks [op, op', op''] [b, c, d] = false) : PT X (.Compare a [op, op', op''] [b, c, d] pos) (tTest (tChain3 r r' r'' ta tb tc td)) := by
  refine ⟨fun pins s σ H Q I h => ?_⟩
  refine isTrue_chain (thn (ha.run pins s σ H _ I h) fun v s1 ⟨x, H1, I1, r1, q1⟩ => test_link (thn (hb.run pins s1 σ H1 _ I1 q1) fun u s2 ⟨y, H2, I2, r2, q2⟩ =>
    thn (ho pins s2 σ H2 x y v u _ I2 r1 r2 q2) fun d s3 ⟨z, H3, I3, r3, k, e, q3⟩ => ?_)) hm
  subst e
  cases r3
  refine wpAny_truthy_bool ?_
  cases k with
  | false =>
    obtain ⟨k', e', q'⟩ := q3
    cases e'
    exact ite_ff ⟨H3, I3, q'⟩
  | true =>
    refine ite_tt (test_link (thn (hc.run pins s3 σ H3 _ I3 q3) fun w' s4 ⟨z', H4, I4, r4, q4⟩ => thn (ho' pins s4 σ H4 y z' u w' _ I4 r2 r4 q4) fun d' s5 ⟨z2, H5, I5, r5, k2, e2, q5⟩ => ?_))
    subst e2
    cases r5
    refine wpAny_truthy_bool ?_
    cases k2 with
    | false =>
      obtain ⟨k', e', q'⟩ := q5
      cases e'
      exact ite_ff ⟨H5, I5, q'⟩
    | true =>
      refine ite_tt (test_last (thn (hd.run pins s5 σ H5 _ I5 q5) fun w2 s6 ⟨z3, H6, I6, r6, q6⟩ => thn (ho'' pins s6 σ H6 z' z3 w' w2 _ I6 r4 r6 q6) fun d2 s7 ⟨z4, H7, I7, r7, k3, e3, q7⟩ => ?_))
      subst e3
      cases r7
      exact wpAny_truthy_bool ⟨H7, I7, q7⟩
theorem snd_ch3 {o1 o2 o3 : COp} {a b c d : CE} {l r t u : Expr} {pos : Pos} (hu : X.A.units + 65 < cLine) (ha : PE X l (TDE X.K (evE cf a))) (hb : PE X r (TDE X.K (evE cf b))) (hc : PE X t (TDE X.K (evE cf c))) (hd : PE X u (TDE X.K (evE cf d)))
    (hm : lastMarks [o1.op, o2.op, o3.op] [r, t, u] = false) :
    PE X (.Compare l [o1.op, o2.op, o3.op] [r, t, u] pos) (TDE X.K (evE cf (.ch3 o1 o2 o3 a b c d))) ∧ PT X (.Compare l [o1.op, o2.op, o3.op] [r, t, u] pos) (TDB X.K fun s => tst (evE cf (.ch3 o1 o2 o3 a b c d) s)) := by
  have key : ∀ σ H (R : V → Hp → Prop), (∃ F G s x s', Rep X.K F G s σ H ∧ evE cf (.ch3 o1 o2 o3 a b c d) s = some (x, s') ∧ ∀ k H' G', x = ⟨.fz, .bool k⟩ → Same G G' → Rep X.K F G' s' σ H' → R (.bl k) H') →
      tChain3 (rCmp X.K o1) (rCmp X.K o2) (rCmp X.K o3) (TDF X.K (evE cf a)) (TDF X.K (evE cf b)) (TDF X.K (evE cf c)) (TDF X.K (evE cf d)) σ H R := by
    rintro σ H R ⟨F, G, s, x, s', rep, e, q⟩
    simp only [evE, Option.bind_eq_some_iff] at e
    obtain ⟨y, e1, z, e2, k, e3, e4⟩ := e
    refine ⟨F, G, s, y.1, y.2, rep, e1, fun v H1 G1 sm1 r1 d1 => ⟨F, G1, y.2, z.1, z.2, r1, e2, fun w H2 G2 sm2 r2 d2 => ?_⟩⟩
    refine ⟨_, _, k, (d1.mono sm2).mono r2.gh, d2.mono r2.gh, e3, k, rfl, ?_⟩
    cases k with
    | false =>
      simp only [Bool.false_eq_true, if_false] at e4 ⊢
      cases e4
      exact q false H2 G2 rfl (sm1.trans sm2) r2
    | true =>
      simp only [if_true, Option.bind_eq_some_iff] at e4 ⊢
      obtain ⟨u, e4, k2, e5, e6⟩ := e4
      refine ⟨F, G2, z.2, u.1, u.2, r2, e4, fun w' H3 G3 sm3 r3 d3 => ?_⟩
      refine ⟨_, _, k2, (d2.mono sm3).mono r3.gh, d3.mono r3.gh, e5, k2, rfl, ?_⟩
      cases k2 with
      | false =>
        simp only [Bool.false_eq_true, if_false] at e6 ⊢
        cases e6
        exact q false H3 G3 rfl (sm1.trans (sm2.trans sm3)) r3
      | true =>
        simp only [if_true, Option.bind_eq_some_iff, Option.map_eq_some_iff] at e6 ⊢
        obtain ⟨t, e6, rr, e7, e8⟩ := e6
        cases e8
        refine ⟨F, G3, u.2, t.1, t.2, r3, e6, fun w'' H4 G4 sm4 r4 d4 => ?_⟩
        exact ⟨_, _, rr, (d3.mono sm4).mono r4.gh, d4.mono r4.gh, e7, q rr H4 G4 rfl (sm1.trans (sm2.trans (sm3.trans sm4))) r4⟩
  constructor
  · refine (pe_chain3 (op_cmp o1 hu) (op_cmp o2 hu) (op_cmp o3 hu) (pf ha) (pf hb) (pf hc) (pf hd) hm).imp fun σ H Q ⟨F, G, s, x, s', rep, e, q⟩ => key σ H Q ⟨F, G, s, x, s', rep, e, fun k H' G' ex sm r => ?_⟩
    subst ex
    exact (q.mono sm).fz r (.bl k)
  · refine (pt_chain3 (op_cmp o1 hu) (op_cmp o2 hu) (op_cmp o3 hu) (pf ha) (pf hb) (pf hc) (pf hd) hm).imp fun σ H Q ⟨F, G, s, b, s', rep, e, q⟩ => ?_
    obtain ⟨m, e⟩ := tst_inv e
    refine key σ H _ ⟨F, G, s, _, s', rep, e, fun k H' G' ex sm r => ⟨b, ?_, q H' G' sm r⟩⟩
    cases ex
    rfl
/-! ### is None -/
theorem RdT.non {K : PySem.W.Frag} {G H : Hp} {v : V} {d : D} (q : RdT K G H v d) : decide (v = .non) = isNone d := by
  cases q with
  | den h => cases h <;> rfl
  | cell e n c =>
    rw [e]
    cases d with
    | list ds => rfl
    | dict kvs => rfl
    | _ => exact c.elim
theorem snd_isN {a : CE} {l : Expr} {j : Nat} {pos pos' : Pos} (ha : PE X l (TDO X.K fun s => opA a (evE cf a s) s)) :
    PE X (.Compare l [.Is] [.Constant .none j pos'] pos) (TDE X.K (evE cf (.isN a))) ∧ PT X (.Compare l [.Is] [.Constant .none j pos'] pos) (TDB X.K fun s => tst (evE cf (.isN a) s)) := by
  constructor
  · refine (pe_cmp (pc_isN ha) rfl).imp fun σ H Q ⟨F, G, s, x, s', rep, e, q⟩ => ?_
    simp only [evE, Option.bind_eq_some_iff, Option.map_eq_some_iff] at e
    obtain ⟨y, e1, d, e2, e3⟩ := e
    cases e3
    refine ⟨F, G, s, y.1, y.2, rep, e1, fun v H1 G1 sm1 r1 o1 => ?_⟩
    show Q (.bl (decide (v = .non))) H1
    rw [(o1.read r1 e2).non]
    exact (q.mono sm1).fz r1 (.bl _)
  · refine (pt_cmp (pc_isN ha) rfl).imp fun σ H Q ⟨F, G, s, x, s', rep, e, q⟩ => ?_
    obtain ⟨m, e⟩ := tst_inv e
    simp only [evE, Option.bind_eq_some_iff, Option.map_eq_some_iff] at e
    obtain ⟨y, e1, d, e2, e3⟩ := e
    refine ⟨F, G, s, y.1, y.2, rep, e1, fun v H1 G1 sm1 r1 o1 => ⟨x, ?_, ?_⟩⟩
    · rw [(o1.read r1 e2).non]
      cases e3
      rfl
    · cases e3
      exact q H1 G1 sm1 r1
theorem snd_isNN {a : CE} {l : Expr} {j : Nat} {pos pos' : Pos} (ha : PE X l (TDO X.K fun s => opA a (evE cf a s) s)) :
    PE X (.Compare l [.IsNot] [.Constant .none j pos'] pos) (TDE X.K (evE cf (.isNN a))) ∧ PT X (.Compare l [.IsNot] [.Constant .none j pos'] pos) (TDB X.K fun s => tst (evE cf (.isNN a) s)) := by
  have nn : ∀ {G H : Hp} {v : V} {d : D}, RdT X.K G H v d → (!decide (v = .non)) = !isNone d := fun {G H v d} q => by rw [q.non]
  constructor
  · refine (pe_cmp (pc_notN ha) rfl).imp fun σ H Q ⟨F, G, s, x, s', rep, e, q⟩ => ?_
    simp only [evE, Option.bind_eq_some_iff, Option.map_eq_some_iff] at e
    obtain ⟨y, e1, d, e2, e3⟩ := e
    cases e3
    refine ⟨F, G, s, y.1, y.2, rep, e1, fun v H1 G1 sm1 r1 o1 => ?_⟩
    show Q (.bl (!decide (v = .non))) H1
    rw [nn (o1.read r1 e2)]
    exact (q.mono sm1).fz r1 (.bl _)
  · refine (pt_cmp (pc_notN ha) rfl).imp fun σ H Q ⟨F, G, s, x, s', rep, e, q⟩ => ?_
    obtain ⟨m, e⟩ := tst_inv e
    simp only [evE, Option.bind_eq_some_iff, Option.map_eq_some_iff] at e
    obtain ⟨y, e1, d, e2, e3⟩ := e
    refine ⟨F, G, s, y.1, y.2, rep, e1, fun v H1 G1 sm1 r1 o1 => ⟨x, ?_, ?_⟩⟩
    · rw [nn (o1.read r1 e2)]
      cases e3
      rfl
    · cases e3
      exact q H1 G1 sm1 r1
/-! ### not, if else -/
theorem snd_not {a : CE} {l : Expr} {pos : Pos} (ha : PE X l (TDE X.K (evE cf a))) : PE X (.UnaryOp .Not l pos) (TDE X.K (evE cf (.not a))) := by
  refine (pe_not ha).imp fun σ H Q ⟨F, G, s, x, s', rep, e, q⟩ => ?_
  simp only [evE, Option.map_eq_some_iff] at e
  obtain ⟨y, e1, e2⟩ := e
  cases e2
  obtain ⟨m, e1⟩ := tst_inv e1
  exact ⟨F, G, s, _, _, rep, e1, fun v H1 G1 sm1 r1 rv => ⟨y.1, rv.bool, (q.mono sm1).fz r1 (.bl _)⟩⟩
theorem snd_notT {a : CE} {l : Expr} {pos : Pos} (ha : PT X l (TDB X.K fun s => tst (evE cf a s))) : PT X (.UnaryOp .Not l pos) (TDB X.K fun s => tst (evE cf (.not a) s)) := by
  refine (pt_not ha).imp fun σ H Q ⟨F, G, s, x, s', rep, e, q⟩ => ?_
  obtain ⟨m, e⟩ := tst_inv e
  simp only [evE, Option.map_eq_some_iff] at e
  obtain ⟨y, e1, e2⟩ := e
  cases e2
  exact ⟨F, G, s, y.1, y.2, rep, e1, fun H1 G1 sm1 r1 => q H1 G1 sm1 r1⟩
theorem snd_ite {c a b : CE} {l t r : Expr} {pos : Pos} (hc : PT X l (TDB X.K fun s => tst (evE cf c s))) (ha : PE X t (TDE X.K (evE cf a))) (hb : PE X r (TDE X.K (evE cf b))) : PE X (.IfExp l t r pos) (TDE X.K (evE cf (.ite c a b))) := by
  refine (pe_ifExp hc ha hb).imp fun σ H Q ⟨F, G, s, x, s', rep, e, q⟩ => ?_
  simp only [evE, Option.bind_eq_some_iff] at e
  obtain ⟨⟨k, s1⟩, e1, e2⟩ := e
  refine ⟨F, G, s, k, s1, rep, e1, fun H1 G1 sm1 r1 => ?_⟩
  cases k with
  | true => exact ⟨F, G1, s1, x, s', r1, e2, q.mono sm1⟩
  | false => exact ⟨F, G1, s1, x, s', r1, e2, q.mono sm1⟩
/-! ### and, or -/
theorem snd_and1 {a : CE} {l : Expr} {pos : Pos} (ha : PE X l (TDE X.K (evE cf a))) : PE X (.BoolOp .And [l] pos) (TDE X.K (evAnd cf (.cons a .nil))) := (pe_one ha).imp fun σ H Q h => h
theorem snd_and2 {a b : CE} {bs : CEs} {l r : Expr} {rs : List Expr} {pos : Pos} (ha : PE X l (TDE X.K (evE cf a))) (hb : PE X (.BoolOp .And (r :: rs) pos) (TDE X.K (evAnd cf (.cons b bs)))) : PE X (.BoolOp .And (l :: r :: rs) pos) (TDE X.K (evAnd cf (.cons a (.cons b bs)))) := by
  refine (pe_and ha hb).imp fun σ H Q ⟨F, G, s, x, s', rep, e, q⟩ => ?_
  simp only [evAnd, Option.bind_eq_some_iff] at e
  obtain ⟨⟨k, s1⟩, e1, e2⟩ := e
  obtain ⟨m, e1⟩ := tst_inv e1
  refine ⟨F, G, s, _, s1, rep, e1, fun v H1 G1 sm1 r1 rv => ⟨k, rv.bool, ?_⟩⟩
  cases k with
  | true => exact ⟨F, G1, s1, x, s', r1, e2, q.mono sm1⟩
  | false =>
    cases e2
    exact (q.mono sm1).fz r1 (.bl _)
theorem snd_or1 {a : CE} {l : Expr} {pos : Pos} (ha : PE X l (TDE X.K (evE cf a))) : PE X (.BoolOp .Or [l] pos) (TDE X.K (evOr cf (.cons a .nil))) := (pe_one ha).imp fun σ H Q h => h
theorem snd_or2 {a b : CE} {bs : CEs} {l r : Expr} {rs : List Expr} {pos : Pos} (ha : PE X l (TDE X.K (evE cf a))) (hb : PE X (.BoolOp .Or (r :: rs) pos) (TDE X.K (evOr cf (.cons b bs)))) : PE X (.BoolOp .Or (l :: r :: rs) pos) (TDE X.K (evOr cf (.cons a (.cons b bs)))) := by
  refine (pe_or ha hb).imp fun σ H Q ⟨F, G, s, x, s', rep, e, q⟩ => ?_
  simp only [evOr, Option.bind_eq_some_iff] at e
  obtain ⟨⟨k, s1⟩, e1, e2⟩ := e
  obtain ⟨m, e1⟩ := tst_inv e1
  refine ⟨F, G, s, _, s1, rep, e1, fun v H1 G1 sm1 r1 rv => ⟨k, rv.bool, ?_⟩⟩
  cases k with
  | false => exact ⟨F, G1, s1, x, s', r1, e2, q.mono sm1⟩
  | true =>
    cases e2
    exact (q.mono sm1).fz r1 (.bl _)
theorem snd_and1T {a : CE} {l : Expr} {pos : Pos} (ha : PT X l (TDB X.K fun s => tst (evE cf a s))) : PW X (.BoolOp .And [l] pos) (TDB X.K fun s => tst (evAnd cf (.cons a .nil) s)) := (pw_and1 ha).imp fun σ H Q h => h
theorem snd_and2T {a b : CE} {bs : CEs} {l r : Expr} {rs : List Expr} {pos : Pos} (ha : PT X l (TDB X.K fun s => tst (evE cf a s))) (hb : PW X (.BoolOp .And (r :: rs) pos) (TDB X.K fun s => tst (evAnd cf (.cons b bs) s))) : PW X (.BoolOp .And (l :: r :: rs) pos) (TDB X.K fun s => tst (evAnd cf (.cons a (.cons b bs)) s)) := by
  refine (pw_and ha hb).imp fun σ H Q ⟨F, G, s, x, s', rep, e, q⟩ => ?_
  obtain ⟨m, e⟩ := tst_inv e
  simp only [evAnd, Option.bind_eq_some_iff] at e
  obtain ⟨⟨k, s1⟩, e1, e2⟩ := e
  refine ⟨F, G, s, k, s1, rep, e1, fun H1 G1 sm1 r1 => ?_⟩
  cases k with
  | true => exact ⟨F, G1, s1, x, s', r1, (congrArg tst (show evAnd cf (.cons b bs) s1 = some (⟨m, .bool x⟩, s') from e2)), fun H' G' sm r => q H' G' (sm1.trans sm) r⟩
  | false =>
    cases e2
    exact q H1 G1 sm1 r1
theorem snd_or1T {a : CE} {l : Expr} {pos : Pos} (ha : PT X l (TDB X.K fun s => tst (evE cf a s))) : PW X (.BoolOp .Or [l] pos) (TDB X.K fun s => tst (evOr cf (.cons a .nil) s)) := (pw_or1 ha).imp fun σ H Q h => h
theorem snd_or2T {a b : CE} {bs : CEs} {l r : Expr} {rs : List Expr} {pos : Pos} (ha : PT X l (TDB X.K fun s => tst (evE cf a s))) (hb : PW X (.BoolOp .Or (r :: rs) pos) (TDB X.K fun s => tst (evOr cf (.cons b bs) s))) : PW X (.BoolOp .Or (l :: r :: rs) pos) (TDB X.K fun s => tst (evOr cf (.cons a (.cons b bs)) s)) := by
  refine (pw_or ha hb).imp fun σ H Q ⟨F, G, s, x, s', rep, e, q⟩ => ?_
  obtain ⟨m, e⟩ := tst_inv e
  simp only [evOr, Option.bind_eq_some_iff] at e
  obtain ⟨⟨k, s1⟩, e1, e2⟩ := e
  refine ⟨F, G, s, k, s1, rep, e1, fun H1 G1 sm1 r1 => ?_⟩
  cases k with
  | false => exact ⟨F, G1, s1, x, s', r1, (congrArg tst (show evOr cf (.cons b bs) s1 = some (⟨m, .bool x⟩, s') from e2)), fun H' G' sm r => q H' G' (sm1.trans sm) r⟩
  | true =>
    cases e2
    exact q H1 G1 sm1 r1
end
end LP

end
section
set_option Elab.async false
set_option linter.all false
set_option maxRecDepth 100000
set_option maxHeartbeats 2000000
/-! LPT: t[::-1] of a tuple. -/
namespace LP
open PySem PySem.Spec L2 HT
open PyProof.Rows hiding St
variable [Zk]
section
variable {prog : Program} {w : World} {A : Around} {E : Value → Shared → Prop} {s : Shared}
theorem sliceApplied_rev {sl : Addr} {vl vu vs : Value} {n : Nat} {Q : Int × Int × Nat → Shared → Prop} (hs : s.heap.IsSliceOf sl vl vu vs) (pl : IsPart vl none) (pu : IsPart vu none) (ps : IsPart vs (some (-1)))
    (h : Q ((n : Int) - 1, -1, n) s) : wpAny (model prog w) A (Builtin.Slice.sliceApplied (.ref sl) (pure (n : Int))) Q E s := by
  obtain ⟨os, hos, hcs, hds⟩ := id hs
  unfold Builtin.Slice.sliceApplied Builtin.Slice.sliceFields
  refine wpAny_bind (wpAny_bind (wpAny_field hos hds (x := vl) rfl (wpAny_bind (wpAny_field hos hds (x := vu) rfl (wpAny_bind (wpAny_field hos hds (x := vs) rfl (wpAny_pure ?_)))))))
  refine wpAny_bind (slicePart_ ps ?_)
  show wpAny _ _ (if ((-1 : Int) == 0) = true then _ else _) _ _ s
  rw [if_neg (by decide)]
  refine wpAny_bind (slicePart_ pl (wpAny_bind (slicePart_ pu (wpAny_bind (wpAny_pure ?_)))))
  show wpAny _ _ (pure ((n : Int) - 1, (-1 : Int), Builtin.Slice.slicePlaces ((n : Int) - 1) (-1) (-1))) _ _ s
  have e : Builtin.Slice.slicePlaces ((n : Int) - 1) (-1) (-1) = n := by
    unfold Builtin.Slice.slicePlaces
    have h1 : ¬ ((-1 : Int) > 0) := by omega
    simp only [h1, if_false, Int.neg_neg, Int.ediv_one]
    split <;> omega
  rw [e]
  exact wpAny_pure h
theorem pick_rev (xs : List Value) : ((List.range xs.length).filterMap fun (m : Nat) => xs.toArray[((xs.length : Int) - 1 + (m : Int) * (-1)).toNat]?) = xs.reverse := by
  refine List.ext_getElem? fun i => ?_
  have key : ∀ k, k ≤ xs.length → ((List.range k).filterMap fun (m : Nat) => xs.toArray[((xs.length : Int) - 1 + (m : Int) * (-1)).toNat]?) = xs.reverse.take k := fun k => by
    induction k with
    | zero => intro _; simp
    | succ k ih =>
      intro hk
      rw [List.range_succ, List.filterMap_append, ih (by omega)]
      have e : ((xs.length : Int) - 1 + (k : Int) * (-1)).toNat = xs.length - 1 - k := by omega
      have hl : xs.length - 1 - k < xs.length := by omega
      have e2 : xs.toArray[xs.length - 1 - k]? = some xs[xs.length - 1 - k] := by simp [hl]
      simp only [List.filterMap_cons, List.filterMap_nil, e, e2]
      rw [List.take_succ]
      have e3 : xs.reverse[k]? = some xs[xs.length - 1 - k] := by
        rw [List.getElem?_eq_getElem (by rw [List.length_reverse]; omega), List.getElem_reverse]
      rw [e3]
      rfl
  rw [key xs.length (Nat.le_refl _), List.take_of_length_le (by rw [List.length_reverse]; exact Nat.le_refl _)]
theorem getItem_tuple_rev {t sl : Addr} {its : List Value} {vl vu vs : Value} {Q : Value → Shared → Prop} (ht : IsTup s.heap t its.toArray) (hs : s.heap.IsSliceOf sl vl vu vs) (pl : IsPart vl none) (pu : IsPart vu none) (ps : IsPart vs (some (-1)))
    (h : Q (.ref s.heap.objs.size) { s with heap := s.heap.push { cls := .type "tuple", data := .seq its.reverse.toArray } })
    (hsz : its.length ≤ sizeLine) : wpAny (model prog w) A (getItem (.ref t) (.ref sl)) Q E s := by
  have htake : sizeOk (.seq its.reverse.toArray) := by
    show its.reverse.toArray.size ≤ sizeLine
    rw [List.size_toArray, List.length_reverse]
    exact hsz
  obtain ⟨os, hos, hcs, hds⟩ := id hs
  have hTs : s.TypeIs (.ref sl) "slice" := ⟨os, hos, hcs⟩
  unfold getItem
  try with_reducible refine wpAny_holding ?_
  first | refine wpAny_bind (wpAny_pure ?_) | skip
  refine wpAny_bind (wpAny_sequenceKey ht.typeIs (by decide) ?_)
  refine wpAny_bind (wpAny_callSpecial?_slot (name := Str.ofString "__getitem__") ht.typeIs PyProof.Rows.slot_tuple_getitem
    (wpAny_call_entry PyProof.Rows.slot_tuple_getitem ht.typeIs entry_tuple_getitem ?_ (args_tuple_getitem _ _)))
  show wpAny _ _ (Builtin.Tuple.tupleItemsOf (.ref t) >>= _) _ _ s
  refine wpAny_bind (tupleItemsOf_ ht ?_)
  refine wpAny_bind (wpAny_typeOf hTs ?_)
  rw [if_pos (by decide)]
  rw [List.size_toArray]
  refine wpAny_bind (sliceApplied_rev (n := its.length) hs pl pu ps ?_)
  show wpAny _ _ (if (((its.length : Int) - 1) == 0 && (-1 : Int) == 1 && its.length == its.length) = true then _ else _) _ _ s
  rw [if_neg (by rw [show ((-1 : Int) == 1) = false from rfl, Bool.and_false, Bool.false_and]; exact Bool.false_ne_true), pick_rev]
  first
    | exact wpAny_bind (m := Builtin.Tuple.tupleExact _) (wpAny_newObj_type (wpAny_pure ⟨_, rfl, wpAny_pure h⟩) htake)
    | exact wpAny_bind (m := Builtin.Tuple.tupleExact _) (wpAny_newObj_type (wpAny_bind (wpAny_pure (wpAny_pure ⟨_, rfl, wpAny_pure h⟩))) htake)
    | exact wpAny_bind (wpAny_bind (m := Builtin.Tuple.tupleExact _) (wpAny_newObj_type (wpAny_pure (wpAny_pure ⟨_, rfl, wpAny_pure h⟩)) htake))
    | exact wpAny_bind (wpAny_bind (m := Builtin.Tuple.tupleExact _) (wpAny_newObj_type (wpAny_pure ⟨_, rfl, wpAny_pure h⟩) htake))
end
section
variable {X : Cx}
def tRevA (K : PySem.W.Frag) (te : TE) : TE := fun σ H Q => te σ H fun x H1 => (∃ a xs, x = .ref a ∧ SqL K H1 a xs ∧ ∀ p, H1 p = none → Q (.ref p) (upd H1 p (.lst xs.reverse))) ∨ ∃ a xs, x = .ref a ∧ SqT K H1 a xs ∧ ∀ p, H1 p = none → Q (.ref p) (upd H1 p (.tup xs.reverse))
theorem pe_revA {e : Expr} {te : TE} {k : Nat} {p1 p2 p3 pos : Pos} (he : PE X e te) : PE X (.Subscript e (.Slice none none (some (.UnaryOp .USub (.Constant (.int 1) k p1) p2)) p3) pos) (tRevA X.K te) := by
  refine ⟨fun pins s σ H Q I h => ?_⟩
  refine Subscript_ (thn (he.run pins s σ H _ I h) fun v s1 ⟨x, H1, I1, r1, q1⟩ => ?_)
  have hst : PO X (some (.UnaryOp .USub (.Constant (.int 1) k p1) p2)) (tPart (tUn (rU fun i => .int (-i)) (tC (.int 1)))) := po_some (pe_un un_neg pe_int)
  refine wpAny_Slice (thn (po_none.run pins s1 σ H1 (fun o H2 => o = none ∧ H2 = H1) I1 ⟨rfl, rfl⟩) fun vl s2 ⟨l, H2, I2, pl, el, e2⟩ => ?_)
  subst el e2
  refine thn (po_none.run pins s2 σ H2 (fun o H3 => o = none ∧ H3 = H2) I2 ⟨rfl, rfl⟩) fun vu s3 ⟨u, H3, I3, pu, eu, e3⟩ => ?_
  subst eu e3
  refine thn (hst.run pins s3 σ H3 (fun o H4 => o = some (-1) ∧ H4 = H3) I3 ⟨1, rfl, -1, rfl, rfl, rfl⟩) fun vs s4 ⟨o, H4, I4, ps, eo, e4⟩ => ?_
  subst eo e4
  have I5 : Inv X pins σ H4 { s4 with heap := s4.heap.push { cls := .type "slice", data := .fields #[vl, vu, vs] } } := I4.kept (t' := s4.toks) fun b ob q => Heap.get?_push_of_some _ q
  rcases q1 with ⟨a, xs, ex, hx, q⟩ | ⟨a, xs, ex, hx, q⟩
  · subst ex
    cases r1
    obtain ⟨its, r, ht, hz⟩ := I5.list hx
    have hlen := r.length
    show wpAny (model X.prog X.w) X.A (subscriptTail e (.Slice none none (some (.UnaryOp .USub (.Constant (.int 1) k p1) p2)) p3) (.ref a) (.ref s4.heap.objs.size)) (EP X pins σ Q) X.xe { s4 with heap := s4.heap.push { cls := .type "slice", data := .fields #[vl, vu, vs] } }
    refine tail_any (ops := [.ref a, .ref s4.heap.objs.size]) ht.isList.typeIs (PySem.slot_list_getitem.lookup) ?_ (by with_unfolding_all rfl)
    refine wpAny_getItem_list_slice ht.isList (Heap.IsSliceOf.new _ vl vu vs) pl pu ps (by decide) ?_ (by rw [List.size_toArray]; omega)
    rw [PySem.W.krv_pick]
    refine ⟨.ref _, _, I5.laid (t' := s4.toks) (o := .lst xs.reverse) (fun b ob q => Heap.get?_push_of_some _ q) (Nat.le_refl _) ?_, rfl, q _ (I5.hok.fresh (Nat.le_refl _))⟩
    exact ⟨by rw [List.length_reverse]; exact hz, _, 0, r.reverse, Heap.get?_push_size _ rfl⟩
  · subst ex
    cases r1
    obtain ⟨its, r, ht, hz⟩ := I5.tuple hx
    have hlen := r.length
    show wpAny (model X.prog X.w) X.A (subscriptTail e (.Slice none none (some (.UnaryOp .USub (.Constant (.int 1) k p1) p2)) p3) (.ref a) (.ref s4.heap.objs.size)) (EP X pins σ Q) X.xe { s4 with heap := s4.heap.push { cls := .type "slice", data := .fields #[vl, vu, vs] } }
    refine tail_any (ops := [.ref a, .ref s4.heap.objs.size]) ht.typeIs (PyProof.Rows.slot_tuple_getitem.lookup) ?_ (by with_unfolding_all rfl)
    refine getItem_tuple_rev ht (Heap.IsSliceOf.new _ vl vu vs) pl pu ps ?_ (by omega)
    refine ⟨.ref _, _, I5.laid (t' := s4.toks) (o := .tup xs.reverse) (fun b ob q => Heap.get?_push_of_some _ q) (Nat.le_refl _) ?_, rfl, q _ (I5.hok.fresh (Nat.le_refl _))⟩
    exact ⟨by rw [List.length_reverse]; exact hz, _, r.reverse, IsTup.new _ _⟩
end
end LP

end
section
set_option Elab.async false
set_option linter.all false
set_option maxRecDepth 100000
set_option maxHeartbeats 2000000
/-! LP8: places, slices, built-ins, displays. -/
namespace LP
open PySem PySem.Spec L2
open PyProof.Rows hiding St
variable [Zk]
def nst : Expr → Bool
  | .Starred .. => false
  | .Slice .. => false
  | .Set .. => false
  | _ => true
theorem nst_star {e : Expr} (h : nst e = true) (es : List Expr) (env : Env) : starEach (e :: es) env = (false, eval e env) :: starEach es env := by
  cases e <;> first | rfl | cases h
theorem nst_ix {e : Expr} (h : nst e = true) : PlainIx e := by
  intro o i
  cases e <;> first | rfl | cases h
theorem nst_sl {e : Expr} (h : nst e = true) : NoSl e := by
  intro o i
  cases e <;> first | rfl | cases h
section
variable {X : Cx} {cf : CF}
theorem SlR.or {r r' : V → Option Int → Option Int → Hp → VK → Prop} (h : SlR X r) (h' : SlR X r') : SlR X (fun x lo hi H Q => r x lo hi H Q ∨ r' x lo hi H Q) :=
  fun pins s σ H x v vl vu lo hi sl Q I rx hs pl pu q => q.elim (h pins s σ H x v vl vu lo hi sl Q I rx hs pl pu) (h' pins s σ H x v vl vu lo hi sl Q I rx hs pl pu)
theorem snd_idx {a i : CE} {l r : Expr} {pos : Pos} (hu : X.A.units + 1 < cLine) (ha : PE X l (TDO X.K fun s => opA a (evE cf a s) s)) (hi : PE X r (TDE X.K (evE cf i))) (hn : nst r = true) : PE X (.Subscript l r pos) (TDE X.K (evE cf (.idx a i))) := by
  refine ((pe_ix ix_seq ha (pf hi) (nst_ix hn)).or (pe_dget hu ha (pf hi) (nst_sl hn))).imp fun σ H Q ⟨F, G, s, x, s', rep, e, q⟩ => ?_
  simp only [evE, Option.bind_eq_some_iff, Option.map_eq_some_iff] at e
  obtain ⟨y, e1, z, e2, dx, e3, rr, e4, e5⟩ := e
  cases e5
  have fin : ∀ {H2 G1 G2 : Hp} {v : V}, Same G G1 → Same G1 G2 → Rep X.K F G2 z.2 σ H2 → Den X.K G2 v rr → Q v H2 := fun sm1 sm2 r2 d => (q.mono (sm1.trans sm2)).fz r2 d
  obtain ⟨zx, zs⟩ := z
  obtain ⟨zm, zd⟩ := zx
  cases dx with
  | list ds =>
    cases zd with
    | int k =>
      refine .inl ⟨F, G, s, y.1, y.2, rep, e1, fun v H1 G1 sm1 r1 o1 => ⟨F, G1, y.2, _, _, r1, e2, fun w H2 G2 sm2 r2 d2 => ?_⟩⟩
      obtain ⟨p, xs, rfl, sq, dl⟩ := ((o1.mono sm2).read r2 e3).list r2.gh
      obtain ⟨v, h1, h2⟩ := dl.atI e4
      exact .inl ⟨p, xs, k, v, rfl, d2.isInt, sq, h1, fin sm1 sm2 r2 h2⟩
    | _ => cases e4
  | tuple ds =>
    cases zd with
    | int k =>
      refine .inl ⟨F, G, s, y.1, y.2, rep, e1, fun v H1 G1 sm1 r1 o1 => ⟨F, G1, y.2, _, _, r1, e2, fun w H2 G2 sm2 r2 d2 => ?_⟩⟩
      obtain ⟨p, xs, rfl, sq, dl⟩ := ((o1.mono sm2).read r2 e3).tuple r2.gh
      obtain ⟨v, h1, h2⟩ := dl.atI e4
      exact .inr (.inl ⟨p, xs, k, v, rfl, d2.isInt, sq, h1, fin sm1 sm2 r2 h2⟩)
    | _ => cases e4
  | dict kvs =>
    cases zd with
    | str k =>
      refine .inr ⟨F, G, s, y.1, y.2, rep, e1, fun v H1 G1 sm1 r1 o1 => ⟨F, G1, y.2, _, _, r1, e2, fun w H2 G2 sm2 r2 d2 => ?_⟩⟩
      obtain ⟨p, ks, rfl, sq, dl⟩ := ((o1.mono sm2).read r2 e3).dict r2.gh (dLook_odd e4)
      obtain ⟨v, h1, h2⟩ := valV_look dl e4
      cases d2
      refine ⟨p, v, rfl, ?_, fin sm1 sm2 r2 h2⟩
      rw [← h1]
      exact DGet.k (k := Sum.inr k) sq
    | _ => cases e4
  | _ => cases e4
/-- a part of a slice -/
def TDP (K : PySem.W.Frag) (ev : LS → Option (Option Int × LS)) : TO := fun σ H Q => ∃ F G s i s', Rep K F G s σ H ∧ ev s = some (i, s') ∧ ∀ H' G', Same G G' → Rep K F G' s' σ H' → Q i H'
theorem _root_.L2.PO.imp {e : Option Expr} {t t' : TO} (h : PO X e t) (i : ∀ σ H Q, t' σ H Q → t σ H Q) : PO X e t' := ⟨fun pins s σ H Q I q => h.run pins s σ H Q I (i _ _ _ q)⟩
theorem snd_no : PO X none (TDP X.K (evO cf .no)) := by
  refine po_none.imp fun σ H Q ⟨F, G, s, i, s', rep, e, q⟩ => ?_
  cases e
  exact q H G (Same.refl _) rep
theorem int?_inv {d : D} {i : Int} (h : int? d = some i) : d = .int i := by
  cases d <;> simp [int?] at h
  rw [h]
theorem snd_yes {a : CE} {l : Expr} (ha : PE X l (TDE X.K (evE cf a))) : PO X (some l) (TDP X.K (evO cf (.yes a))) := by
  refine (po_some (pf ha)).imp fun σ H Q ⟨F, G, s, i, s', rep, e, q⟩ => ?_
  simp only [evO, Option.bind_eq_some_iff, Option.map_eq_some_iff] at e
  obtain ⟨y, e1, k, e2, e3⟩ := e
  cases e3
  refine ⟨F, G, s, y.1, y.2, rep, e1, fun v H1 G1 sm1 r1 d1 => ?_⟩
  rw [int?_inv e2] at d1
  exact ⟨k, d1.isInt, q H1 G1 sm1 r1⟩
theorem snd_slc {a : CE} {lo hi : CO} {l : Expr} {lo' hi' : Option Expr} {p2 pos : Pos} (ha : PE X l (TDO X.K fun s => opA a (evE cf a s) s)) (hl : PO X lo' (TDP X.K (evO cf lo))) (hh : PO X hi' (TDP X.K (evO cf hi))) : PE X (.Subscript l (.Slice lo' hi' none p2) pos) (TDE X.K (evE cf (.slc a lo hi))) := by
  refine (pe_slice (SlR.or sl_list sl_tupA) ha hl hh).imp fun σ H Q ⟨F, G, s, x, s', rep, e, q⟩ => ?_
  simp only [evE, Option.bind_eq_some_iff, Option.map_eq_some_iff] at e
  obtain ⟨y, e1, z, e2, w, e3, dx, e4, rr, e5, e6⟩ := e
  cases e6
  refine ⟨F, G, s, y.1, y.2, rep, e1, fun v H1 G1 sm1 r1 o1 => ⟨F, G1, y.2, z.1, z.2, r1, e2, fun H2 G2 sm2 r2 => ⟨F, G2, z.2, w.1, w.2, r2, e3, fun H3 G3 sm3 r3 => ?_⟩⟩⟩
  have rd := (o1.mono (sm2.trans sm3)).read r3 e4
  have q' := q.mono (sm1.trans (sm2.trans sm3))
  cases dx with
  | list ds =>
    cases e5
    obtain ⟨p, xs, rfl, sq, dl⟩ := rd.list r3.gh
    exact .inl ⟨p, xs, rfl, sq, fun p' n => q'.newL r3 (dl.cut _ _) n⟩
  | tuple ds =>
    cases e5
    cases rd with
    | cell e n c => exact c.elim
    | den h =>
      cases h with
      | tup sq dl =>
        refine .inr ⟨_, _, rfl, .inl (.inl (r3.gh _ _ sq)), fun hw => ?_, fun _ p' n => q'.newT r3 (dl.cut _ _) n⟩
        have e : cutL ds z.1 w.1 = ds := by
          unfold cutL
          rw [← dl.length, hw.1, hw.2]
          simp [dl.length]
        have q2 : Post X.K F G3 w.2 σ ⟨.fz, .tuple ds⟩ Q := by
          have q3 : Post X.K F G3 w.2 σ ⟨.fz, .tuple (cutL ds z.1 w.1)⟩ Q := q'
          rw [e] at q3
          exact q3
        exact q2.fz r3 (.tup sq dl)
  | _ => cases e5
theorem snd_rev {a : CE} {l : Expr} {k : Nat} {p1 p2 p3 pos : Pos} (ha : PE X l (TDO X.K fun s => opA a (evE cf a s) s)) : PE X (.Subscript l (.Slice none none (some (.UnaryOp .USub (.Constant (.int 1) k p1) p2)) p3) pos) (TDE X.K (evE cf (.rev a))) := by
  refine (pe_revA ha).imp fun σ H Q ⟨F, G, s, x, s', rep, e, q⟩ => ?_
  simp only [evE, Option.bind_eq_some_iff, Option.map_eq_some_iff] at e
  obtain ⟨y, e1, dx, e2, rr, e3, e4⟩ := e
  cases e4
  refine ⟨F, G, s, y.1, y.2, rep, e1, fun v H1 G1 sm1 r1 o1 => ?_⟩
  cases dx with
  | list ds =>
    cases e3
    obtain ⟨p, xs, rfl, sq, dl⟩ := (o1.read r1 e2).list r1.gh
    exact .inl ⟨p, xs, rfl, sq, fun p' n => (q.mono sm1).newL r1 dl.reverse n⟩
  | tuple ds =>
    cases e3
    obtain ⟨p, xs, rfl, sq, dl⟩ := (o1.read r1 e2).tuple r1.gh
    exact .inr ⟨p, xs, rfl, sq, fun p' n => (q.mono sm1).newT r1 dl.reverse n⟩
  | _ => cases e3
/-! ### built-ins -/
theorem b1_core {f : B1} {a : CE} {r : List V → Hp → VK → Prop} (hr : r = rB1 X.K f) : ∀ σ H Q, TDE X.K (evE cf (.b1 f a)) σ H Q → tCB r (tCons (TDO X.K fun s => opA a (evE cf a s) s) tNil) σ H Q := by
  rintro σ H Q ⟨F, G, s, x, s', rep, e, q⟩
  simp only [evE, Option.bind_eq_some_iff, Option.map_eq_some_iff] at e
  obtain ⟨y, e1, dx, e2, rr, e3, e4⟩ := e
  cases e4
  refine ⟨F, G, s, y.1, y.2, rep, e1, fun v H1 G1 sm1 r1 o1 => ?_⟩
  rw [hr]
  exact ⟨F, G1, y.2, σ, v, dx, rr, rfl, r1, o1.read r1 e2, e3, q.mono sm1⟩
theorem snd_b1 {f : B1} {a : CE} {l : Expr} {x : Str} {id : String} {p pos : Pos} (hR : CallR X (.builtin id) (rB1 X.K f)) (hg : Gl X x) (hm : X.mg x = none) (hv : bootBuiltins x = some (.builtin id)) (hn : x ≠ "__name__") (hdb : (x == ("__debug__" : Str)) = false)
    (ha : PE X l (TDO X.K fun s => opA a (evE cf a s) s)) (hs : nst l = true) : PE X (.Call (.Name x p) [l] [] pos) (TDE X.K (evE cf (.b1 f a))) :=
  (pe_callB hR hg hm hv (pa_cons ha pa_nil (nst_star hs _ _)) hn hdb (nst_star hs _ _)).imp (b1_core rfl)
theorem snd_b1T {f : B1} {a : CE} {l : Expr} {x : Str} {id : String} {p pos : Pos} (hR : CallR X (.type id) (rB1 X.K f)) (hg : Gl X x) (hm : X.mg x = none) (hv : bootBuiltins x = some (.type id)) (hn : x ≠ "__name__") (hdb : (x == ("__debug__" : Str)) = false)
    (ha : PE X l (TDO X.K fun s => opA a (evE cf a s) s)) (hs : nst l = true) : PE X (.Call (.Name x p) [l] [] pos) (TDE X.K (evE cf (.b1 f a))) :=
  (pe_callTy hR hg hm hv (pa_cons ha pa_nil (nst_star hs _ _)) hn hdb (nst_star hs _ _)).imp (b1_core rfl)
end
end LP

end
section
set_option Elab.async false
set_option linter.all false
set_option maxRecDepth 100000
set_option maxHeartbeats 2000000
/-! LP9: more built-ins, displays. -/
namespace LP
open PySem PySem.Spec L2
open PyProof.Rows hiding St
variable [Zk]
section
variable {X : Cx} {cf : CF}
theorem snd_b2 {f : B2} {a b : CE} {l r : Expr} {p pos : Pos} (hc : X.calm = true) (hf : f.meth = false) (hg : Gl X (Str.ofString f.nm)) (hm : X.mg (Str.ofString f.nm) = none) (ha : PE X l (TDE X.K (evE cf a))) (hb : PE X r (TDE X.K (evE cf b))) (hs : nst l = true) (hs' : nst r = true) : PE X (.Call (.Name (Str.ofString f.nm) p) [l, r] [] pos) (TDE X.K (evE cf (.b2 f a b))) := by
  refine (pe_callB (cr_b2 hc f hf) hg hm (by cases f <;> first | (cases hf; done) | decide +kernel) (pa_cons (pf ha) (pa_cons (pf hb) pa_nil (nst_star hs' _ _)) (nst_star hs _ _)) (by cases f <;> decide +kernel) (by cases f <;> decide +kernel) (nst_star hs _ _) ?_).imp fun σ H Q ⟨F, G, s, x, s', rep, e, q⟩ => ?_
  · rw [nst_star hs']; rfl
  · simp only [evE, Option.bind_eq_some_iff, Option.map_eq_some_iff] at e
    obtain ⟨y, e1, z, e2, rr, e3, e4⟩ := e
    cases e4
    refine ⟨F, G, s, y.1, y.2, rep, e1, fun v H1 G1 sm1 r1 d1 => ⟨F, G1, y.2, z.1, z.2, r1, e2, fun w H2 G2 sm2 r2 d2 => ?_⟩⟩
    exact ⟨F, G2, z.2, σ, v, w, _, _, rr, rfl, r2, d1.mono sm2, d2, e3, q.mono (sm1.trans sm2)⟩
/-! ### methods -/
def noC0 : Expr → Bool
  | .Call (.Name _ _) [] [] _ => false
  | _ => true
theorem base_id {o : Expr} (h : noC0 o = true) (name : Str) (env : Env) (w : Sem Value) : attributeBase o name env w = w := by
  unfold attributeBase
  split
  · cases h
  · rfl
theorem Den.isStr {K : PySem.W.Frag} {G : Hp} {v : V} {x : Str} (h : Den K G v (.str x)) : v = .str x := by cases h; rfl
theorem asStrs_den {K : PySem.W.Frag} {G : Hp} : ∀ {vs : List V} {ds : List D} {ss : List Str}, DenL K G vs ds → asStrs ds = some ss → vs = ss.map V.str
  | _, _, _, .nil, h => by cases h; rfl
  | _, _, ss, .cons (d := d) h t, e => by
    cases d <;> simp only [asStrs] at e <;> first | cases e | skip
    rw [Option.map_eq_some_iff] at e
    obtain ⟨r, e, rfl⟩ := e
    rw [h.isStr, asStrs_den t e]
    rfl
theorem denL_strs {K : PySem.W.Frag} {G : Hp} : ∀ ss : List Str, DenL K G (ss.map V.str) (ss.map PyData.str)
  | [] => .nil
  | s :: r => .cons (.str s) (denL_strs r)
theorem Post.newLf {K : PySem.W.Frag} {F G H : Hp} {s : LS} {σ : St} {Q : VK} {xs : List V} {ds : List D} (h : Post K F G s σ ⟨.fz, .list ds⟩ Q) (r : Rep K F G s σ H) (l : DenL K G xs ds) {p : Addr} (n : H p = none) : Q (.ref p) (upd H p (.lst xs)) :=
  h _ _ (upd G p (.lst xs)) (same_upd (r.gh.free n)) (r.newG n) (.lst (.inl (.inl upd_same)) (l.mono (same_upd (r.gh.free n))))
theorem star1 {e : Expr} (h : nst e = true) (env : Env) : starEach [e] env = [(false, eval e env)] := nst_star h _ _
theorem snd_split {a b : CE} {l r : Expr} {apos pos : Pos} (ha : PE X l (TDE X.K (evE cf a))) (hb : PE X r (TDE X.K (evE cf b))) (hs' : nst r = true) (hl : noC0 l = true) (hline : (apos.endLine == pos.line) = true) : PE X (.Call (.Attribute l "split" apos) [r] [] pos) (TDE X.K (evE cf (.b2 .split a b))) := by
  refine (pe_split (pf ha) (pf hb) (star1 hs' _) (base_id hl _ _ _) hline).imp fun σ H Q ⟨F, G, s, x, s', rep, e, q⟩ => ?_
  simp only [evE, Option.bind_eq_some_iff, Option.map_eq_some_iff] at e
  obtain ⟨y, e1, z, e2, rr, e3, e4⟩ := e
  cases e4
  cases hd : y.1.d <;> rw [hd] at e3 <;> cases hd2 : z.1.d <;> rw [hd2] at e3 <;> simp only [b2D] at e3 <;> first | cases e3 | skip
  rename_i t1 t2
  split at e3
  · rename_i hz
    cases e3
    have hz := of_decide_eq_true hz
    refine ⟨F, G, s, y.1, y.2, rep, e1, fun v H1 G1 sm1 r1 d1 => ?_⟩
    rw [hd] at d1
    have := d1.isStr
    subst this
    refine ⟨⟨_, rfl⟩, F, G1, y.2, z.1, z.2, r1, e2, fun w H2 G2 sm2 r2 d2 => ?_⟩
    rw [hd2] at d2
    have := d2.isStr
    subst this
    exact ⟨t1, t2, rfl, rfl, hz.1, hz.2, fun p n => (q.mono (sm1.trans sm2)).newLf r2 (denL_strs _) n⟩
  · cases e3
theorem snd_join {a b : CE} {l r : Expr} {apos pos : Pos} (ha : PE X l (TDE X.K (evE cf a))) (hb : PE X r (TDE X.K (evE cf b))) (hs' : nst r = true) (hl : noC0 l = true) (hline : (apos.endLine == pos.line) = true) : PE X (.Call (.Attribute l "join" apos) [r] [] pos) (TDE X.K (evE cf (.b2 .join a b))) := by
  refine (pe_join (pf ha) (pf hb) (star1 hs' _) (base_id hl _ _ _) hline).imp fun σ H Q ⟨F, G, s, x, s', rep, e, q⟩ => ?_
  simp only [evE, Option.bind_eq_some_iff, Option.map_eq_some_iff] at e
  obtain ⟨y, e1, z, e2, rr, e3, e4⟩ := e
  cases e4
  cases hd : y.1.d <;> rw [hd] at e3 <;> cases hd2 : z.1.d <;> rw [hd2] at e3 <;> simp only [b2D] at e3 <;> first | cases e3 | skip
  rename_i t1 t2
  rw [Option.bind_eq_some_iff] at e3
  obtain ⟨ss, e3, e4⟩ := e3
  unfold joinD at e4
  split at e4
  · rename_i hz
    cases e4
    have hz := of_decide_eq_true hz
    refine ⟨F, G, s, y.1, y.2, rep, e1, fun v H1 G1 sm1 r1 d1 => ?_⟩
    rw [hd] at d1
    have := d1.isStr
    subst this
    refine ⟨⟨_, rfl⟩, F, G1, y.2, z.1, z.2, r1, e2, fun w H2 G2 sm2 r2 d2 => ?_⟩
    rw [hd2] at d2
    obtain ⟨p, xs, rfl, sq, dl⟩ := d2.isList
    have := asStrs_den dl e3
    subst this
    exact ⟨t1, p, ss, rfl, rfl, .inl (r2.gh.seq sq), hz, (q.mono (sm1.trans sm2)).fz r2 (.str _)⟩
  · cases e4
theorem snd_index {a b : CE} {l r : Expr} {apos pos : Pos} (hu : X.A.units + 65 < cLine) (ha : PE X l (TDE X.K (evE cf a))) (hb : PE X r (TDE X.K (evE cf b))) (hs' : nst r = true) (hl : noC0 l = true) (hline : (apos.endLine == pos.line) = true) : PE X (.Call (.Attribute l "index" apos) [r] [] pos) (TDE X.K (evE cf (.b2 .index a b))) := by
  refine (pe_bm (T := "list") PySem.F.plainAttrs_list PySem.F.slot_list_index PySem.F.type_list_index (mt_indexD hu) (pf ha) (pa_cons (pf hb) pa_nil (nst_star hs' _ _)) (base_id hl _ _ _) (by rw [star1 hs']; rfl) hline (star1 hs' _) rfl).imp fun σ H Q ⟨F, G, s, x, s', rep, e, q⟩ => ?_
  simp only [evE, Option.bind_eq_some_iff, Option.map_eq_some_iff] at e
  obtain ⟨y, e1, z, e2, rr, e3, e4⟩ := e
  cases e4
  cases hd : y.1.d <;> rw [hd] at e3 <;> simp only [b2D] at e3 <;> first | cases e3 | skip
  rename_i ds
  unfold indexD at e3
  split at e3
  · rename_i hz
    cases e3
    simp only [Bool.and_eq_true, decide_eq_true_eq] at hz
    obtain ⟨⟨z1, z2⟩, z3⟩ := hz
    refine ⟨F, G, s, y.1, y.2, rep, e1, fun v H1 G1 sm1 r1 d1 => ?_⟩
    rw [hd] at d1
    obtain ⟨p, xs, rfl, sq, dl⟩ := d1.isList
    refine ⟨.inl ⟨rfl, xs, r1.gh.seq sq⟩, F, G1, y.2, z.1, z.2, r1, e2, fun w H2 G2 sm2 r2 d2 => ?_⟩
    refine ⟨p, w, z.1.d, ds, _, ds[ds.findIdx fun q => PyData.eqv q z.1.d], rfl, rfl, ?_, ?_, z1, z2, List.getElem?_eq_getElem z3, List.findIdx_getElem (xs := ds) (p := fun q => PyData.eqv q z.1.d), fun m z' hm hz' => ?_, (q.mono (sm1.trans sm2)).fz r2 (.int _)⟩
    · exact ((d1.mono sm2).mono r2.gh).dp (SeqAt.canLay_of_shaped z1)
    · exact (d2.mono r2.gh).dp (SeqAt.canLay_of_shaped z2)
    · obtain ⟨h1, rfl⟩ := List.getElem?_eq_some_iff.mp hz'
      have := List.not_of_lt_findIdx hm
      simpa using this
  · cases e3
theorem snd_isI {t : Ty} {a : CE} {l : Expr} {p p2 pos : Pos} (hg : Gl X "isinstance") (hm : X.mg "isinstance" = none) (hg2 : Gl X (Str.ofString t.nm)) (hm2 : X.mg (Str.ofString t.nm) = none) (ha : PE X l (TDO X.K fun s => opA a (evE cf a s) s)) (hs : nst l = true) :
    PE X (.Call (.Name "isinstance" p) [l, .Name (Str.ofString t.nm) p2] [] pos) (TDE X.K (evE cf (.isI a t))) := by
  have hb : PE X (.Name (Str.ofString t.nm) p2) (tC (.ty t.nm)) := pe_bltn hg2 hm2 (u := .type t.nm) (by cases t <;> decide +kernel) rfl (by cases t <;> decide +kernel) (by cases t <;> decide +kernel)
  refine (pe_callB (cr_isT t) hg hm (by decide +kernel) (pa_cons ha (pa_cons hb pa_nil) (nst_star hs _ _)) (by decide +kernel) (by decide +kernel) (nst_star hs _ _)).imp fun σ H Q ⟨F, G, s, x, s', rep, e, q⟩ => ?_
  simp only [evE, Option.bind_eq_some_iff] at e
  obtain ⟨y, e1, d, e2, e3⟩ := e
  obtain ⟨od, e3⟩ := ite_else e3
  cases e3
  refine ⟨F, G, s, y.1, y.2, rep, e1, fun v H1 G1 sm1 r1 o1 => ?_⟩
  exact ⟨v, d, rfl, (o1.read r1 e2).denH r1.gh, by simpa using od, (q.mono sm1).fz r1 (.bl _)⟩
theorem denL_rg {K : PySem.W.Frag} {G : Hp} (a b : Int) : DenL K G (rgV a b) (rgD a b) := by
  unfold rgV rgD
  generalize (b - a).toNat = n
  suffices ∀ l : List Nat, DenL K G (l.map fun i => V.int (a + (i : Nat))) (l.map fun (i : Nat) => PyData.int (a + i)) from this _
  intro l
  induction l with
  | nil => exact .nil
  | cons x r ih => exact .cons (.int _) ih
theorem snd_lrg {b : CE} {l : Expr} {p p2 pos2 pos : Pos} (hc : X.calm = true) (hg : Gl X "list") (hm : X.mg "list" = none) (hg2 : Gl X "range") (hm2 : X.mg "range" = none) (hb : PE X l (TDE X.K (evE cf b))) (hs : nst l = true) :
    PE X (.Call (.Name "list" p) [.Call (.Name "range" p2) [l] [] pos2] [] pos) (TDE X.K (evE cf (.lrg b))) := by
  refine (pe_listRg hc hg hm (prg_1 hg2 hm2 (pf hb) (nst_star hs _ _))).imp fun σ H Q ⟨F, G, s, x, s', rep, e, q⟩ => ?_
  simp only [evE, Option.bind_eq_some_iff] at e
  obtain ⟨y, e1, j, e2, e3⟩ := e
  split at e3
  · rename_i hz
    rw [Bool.and_eq_true] at hz
    have hz : _ ∧ _ := ⟨rgOk_inv hz.1, of_decide_eq_true hz.2⟩
    cases e3
    refine ⟨F, G, s, y.1, y.2, rep, e1, fun v H1 G1 sm1 r1 d1 => ?_⟩
    rw [int?_inv e2] at d1
    exact ⟨j, d1.isInt, ⟨hz.1.1, hz.1.2.1, hz.1.2.2.1, hz.1.2.2.2, hz.2⟩, fun p' n => (q.mono sm1).newL r1 (denL_rg _ _) n⟩
  · cases e3
/-! ### displays -/
def TDL (K : PySem.W.Frag) (ev : LS → Option (List D × LS)) : TA := fun σ H Q => ∃ F G s ds s', Rep K F G s σ H ∧ ev s = some (ds, s') ∧ ∀ xs H' G', Same G G' → Rep K F G' s' σ H' → DenL K G' xs ds → Q xs H'
theorem snd_nil : PA X [] (TDL X.K (evEs cf .nil)) := pa_nil.imp fun σ H Q ⟨F, G, s, x, s', rep, e, q⟩ => by
  cases e
  exact q [] H G (Same.refl _) rep .nil
theorem snd_cons {c : CE} {cs : CEs} {l : Expr} {ls : List Expr} (ha : PE X l (TDE X.K (evE cf c))) (hr : PA X ls (TDL X.K (evEs cf cs))) (hs : nst l = true) : PA X (l :: ls) (TDL X.K (evEs cf (.cons c cs))) := by
  refine (pa_cons (pf ha) hr (nst_star hs _ _)).imp fun σ H Q ⟨F, G, s, x, s', rep, e, q⟩ => ?_
  simp only [evEs, Option.bind_eq_some_iff, Option.map_eq_some_iff] at e
  obtain ⟨y, e1, z, e2, e3⟩ := e
  cases e3
  refine ⟨F, G, s, y.1, y.2, rep, e1, fun v H1 G1 sm1 r1 d1 => ⟨F, G1, y.2, z.1, z.2, r1, e2, fun xs H2 G2 sm2 r2 d2 => ?_⟩⟩
  exact q _ H2 G2 (sm1.trans sm2) r2 (.cons (d1.mono sm2) d2)
theorem snd_star {c : CE} {cs : CEs} {l : Expr} {ls : List Expr} {p : Pos} (ha : PE X l (TDE X.K (evE cf c))) (hr : PA X ls (TDL X.K (evEs cf cs))) : PA X (.Starred l p :: ls) (TDL X.K (evEs cf (.star c cs))) := by
  refine (StX.pa_star (pf ha) hr).imp fun σ H Q ⟨F, G, s, x, s', rep, e, q⟩ => ?_
  simp only [evEs, Option.bind_eq_some_iff, Option.map_eq_some_iff] at e
  obtain ⟨y, e1, ys, e0, z, e2, e3⟩ := e
  cases e3
  refine ⟨F, G, s, y.1, y.2, rep, e1, fun v H1 G1 sm1 r1 d1 => ?_⟩
  generalize y.1.d = dd at e0 d1
  cases d1 with
  | lst sq dl =>
    cases e0
    refine ⟨_, _, rfl, .inr (r1.gh.seq sq), F, G1, y.2, z.1, z.2, r1, e2, fun xs H2 G2 sm2 r2 d2 => ?_⟩
    exact q _ H2 G2 (sm1.trans sm2) r2 ((dl.mono sm2).append d2)
  | tup sq dl =>
    cases e0
    refine ⟨_, _, rfl, .inl (.inl (.inl (r1.gh _ _ sq))), F, G1, y.2, z.1, z.2, r1, e2, fun xs H2 G2 sm2 r2 d2 => ?_⟩
    exact q _ H2 G2 (sm1.trans sm2) r2 ((dl.mono sm2).append d2)
  | _ => cases e0
theorem snd_tup {cs : CEs} {ls : List Expr} {k : Nat} {pos : Pos} (h : PA X ls (TDL X.K (evEs cf cs))) : PE X (.Tuple ls k pos) (TDE X.K (evE cf (.tup cs))) := by
  refine (pe_tup h).imp fun σ H Q ⟨F, G, s, x, s', rep, e, q⟩ => ?_
  simp only [evE, Option.bind_eq_some_iff] at e
  obtain ⟨y, e1, e2⟩ := e
  split at e2
  · cases e2
    rename_i hz
    refine ⟨F, G, s, y.1, y.2, rep, e1, fun xs H1 G1 sm1 r1 d1 => ⟨by rw [d1.length]; exact of_decide_eq_true hz, fun p n => (q.mono sm1).newT r1 d1 n⟩⟩
  · cases e2
theorem snd_lst {cs : CEs} {ls : List Expr} {pos : Pos} (h : PA X ls (TDL X.K (evEs cf cs))) : PE X (.List ls pos) (TDE X.K (evE cf (.lst cs))) := by
  refine (pe_lst h).imp fun σ H Q ⟨F, G, s, x, s', rep, e, q⟩ => ?_
  simp only [evE, Option.bind_eq_some_iff] at e
  obtain ⟨y, e1, e2⟩ := e
  split at e2
  · cases e2
    rename_i hz
    refine ⟨F, G, s, y.1, y.2, rep, e1, fun xs H1 G1 sm1 r1 d1 => ⟨by rw [d1.length]; exact of_decide_eq_true hz, fun p n => (q.mono sm1).newL r1 d1 n⟩⟩
  · cases e2
/-! ### {'k': e, ..} -/
theorem dLook_none : ∀ {k : Str} {K : PySem.W.Frag} {G : Hp} {ks : List (Key × V)} {kvs : List (D × D)}, DenK K G ks kvs → dLook k kvs = none → ∀ p ∈ ks, p.1 ≠ Sum.inr k
  | _, _, _, _, _, .nil, _, p, hp => by cases hp
  | k, _, _, _, _, .cons (x := x) h l, e, p, hp => by
    simp only [dLook] at e
    by_cases hx : x = k
    · rw [if_pos hx] at e; cases e
    · rw [if_neg hx] at e
      rcases List.mem_cons.mp hp with z | z
      · rw [z]; intro q; exact hx (Sum.inr.inj q)
      · exact dLook_none l e p z
/-- all keys stand apart -/
def Apart : List (Key × V) → Prop
  | [] => True
  | p :: r => (∀ q ∈ r, q.1 ≠ p.1) ∧ Apart r
theorem merge_apart : ∀ (more acc : List (Key × V)), Apart more → (∀ p ∈ more, ∀ q ∈ acc, q.1 ≠ p.1) → mergeK acc more = acc ++ more
  | [], acc, _, _ => by simp [mergeK]
  | p :: r, acc, h, hd => by
    have e : putK acc p.1 p.2 = acc ++ [p] := by
      unfold putK
      rw [if_neg]
      intro z
      rw [List.any_eq_true] at z
      obtain ⟨q, hq, hz⟩ := z
      exact hd p List.mem_cons_self q hq (of_decide_eq_true hz)
    show mergeK (putK acc p.1 p.2) r = _
    rw [e, merge_apart r _ h.2 fun a ha q hq => ?_]
    · simp
    · rcases List.mem_append.mp hq with z | z
      · exact hd a (List.mem_cons_of_mem _ ha) q z
      · rw [List.mem_singleton.mp z]; exact (h.1 a ha).symm
def TDK (K : PySem.W.Frag) (ev : LS → Option (List (D × D) × LS)) : St → Hp → (List (V × V) → Hp → Prop) → Prop := fun σ H Q => ∃ F G s ds s', Rep K F G s σ H ∧ ev s = some (ds, s') ∧
  ∀ ks H' G', Same G G' → Rep K F G' s' σ H' → DenK K G' ks ds → Apart ks → Q (ks.map fun kv => (kV kv.1, kv.2)) H'
def Pairs (X : Cx) (cf : CF) (pos : Pos) (keys : List (Option Expr)) (vals : List Expr) (kvs : CK) : Prop := ∃ trs, PPs X pos keys vals trs ∧ ∀ σ H Q, TDK X.K (evK cf kvs) σ H Q → tPairs trs σ H Q
theorem snd_knil {pos : Pos} : Pairs X cf pos [] [] .nil := ⟨[], pps_nil, fun σ H Q ⟨F, G, s, ds, s', rep, e, q⟩ => by
  cases e
  exact q [] H G (Same.refl _) rep .nil trivial⟩
theorem snd_kcons {pos p : Pos} {j : Nat} {k : Str} {c : CE} {r : CK} {l : Expr} {ks : List (Option Expr)} {vs : List Expr} (ha : PE X l (TDE X.K (evE cf c))) (hr : Pairs X cf pos ks vs r) : Pairs X cf pos (some (.Constant (.str k) j p) :: ks) (l :: vs) (.cons k c r) := by
  obtain ⟨trs, h1, h2⟩ := hr
  refine ⟨_, pps_cons pe_str (pf ha) h1, fun σ H Q ⟨F, G, s, ds, s', rep, e, q⟩ => ?_⟩
  simp only [evK, Option.bind_eq_some_iff] at e
  obtain ⟨y, e1, z, e2, e3⟩ := e
  split at e3
  · rename_i hn
    cases e3
    refine ⟨F, G, s, y.1, y.2, rep, e1, fun v H1 G1 sm1 r1 d1 => h2 σ H1 _ ⟨F, G1, y.2, z.1, z.2, r1, e2, fun ks H2 G2 sm2 r2 d2 ap => ?_⟩⟩
    have := q ((.inr k, v) :: ks) H2 G2 (sm1.trans sm2) r2 (.cons (d1.mono sm2) d2) ⟨fun p hp => dLook_none d2 (by simpa using hn) p hp, ap⟩
    exact this
  · cases e3
theorem snd_dic0 {pos : Pos} : PE X (.Dict [] [] pos) (TDE X.K (evE cf (.dic .nil))) := pe_dnewK.imp fun σ H Q ⟨F, G, s, x, s', rep, e, q⟩ => by
  cases e
  exact fun p n => q _ _ G (Same.refl _) (rep.newH n) (rep.newRes n ⟨[], upd_same, .nil⟩)
end
end LP

end
section
set_option Elab.async false
set_option linter.all false
set_option maxHeartbeats 2000000
/-! LP10: what a run leaves as it was: locked names, names handed in. -/
namespace LP
open PySem
theorem ite_some {c : Prop} [Decidable c] {α : Type} {x : Option α} {y : α} (h : (if c then x else none) = some y) : c ∧ x = some y := by
  by_cases hc : c
  · rw [if_pos hc] at h; exact ⟨hc, h⟩
  · rw [if_neg hc] at h; cases h
theorem orX_inv {α : Type} {a b : Option α} {x : α} (h : orX a b = some x) : a = some x ∨ (a = none ∧ b = some x) := by
  cases a with
  | some y => exact .inl h
  | none => exact .inr ⟨rfl, h⟩
def Md.isLock : Md → Bool
  | .lk => true
  | .li => true
  | _ => false
def Md.isIn : Md → Bool
  | .io => true
  | .fi => true
  | _ => false
/-- the locks are the same, what was handed in is still there -/
structure Keep (s s' : LS) : Prop where
  len : s.length = s'.length
  lk : ∀ i x, x.m.isLock = true → (slot s i = some x ↔ slot s' i = some x)
  io : ∀ i x, slot s i = some x → x.m.isIn = true → ∃ y, slot s' i = some y ∧ y.m.isIn = true
theorem Keep.refl (s : LS) : Keep s s := ⟨rfl, fun _ _ _ => Iff.rfl, fun _ x h m => ⟨x, h, m⟩⟩
theorem Keep.trans {s s1 s2 : LS} (a : Keep s s1) (b : Keep s1 s2) : Keep s s2 :=
  ⟨a.len.trans b.len, fun i x m => (a.lk i x m).trans (b.lk i x m), fun i x h m => by
    obtain ⟨y, h1, m1⟩ := a.io i x h m
    exact b.io i y h1 m1⟩
theorem slot_set' {s : LS} {i j : Nat} {x : Option SV} : slot (s.set i x) j = if i = j ∧ i < s.length then x else slot s j := by
  unfold slot
  rw [List.getElem?_set]
  by_cases h : i = j
  · subst h
    by_cases hl : i < s.length
    · rw [if_pos rfl, if_pos hl, if_pos ⟨rfl, hl⟩]; rfl
    · rw [if_pos rfl, if_neg hl, if_neg (fun z => hl z.2), List.getElem?_eq_none (by omega)]
  · rw [if_neg h, if_neg (fun z => h z.1)]
/-- one slot changed, from what is no lock to what is none; what was handed in stays so -/
theorem Keep.set {s : LS} {i : Nat} {x : Option SV} (h1 : ∀ y, slot s i = some y → y.m.isLock = false) (h2 : ∀ y, x = some y → y.m.isLock = false) (h3 : ∀ y, slot s i = some y → y.m.isIn = true → ∃ z, x = some z ∧ z.m.isIn = true) : Keep s (s.set i x) := by
  refine ⟨(List.length_set ..).symm, fun j z m => ?_, fun j z h m => ?_⟩
  · rw [slot_set']
    split
    · rename_i q
      obtain ⟨q1, q2⟩ := q
      subst q1
      constructor
      · intro e; rw [h1 z e] at m; cases m
      · intro e; rw [h2 z e] at m; cases m
    · rfl
  · rw [slot_set']
    split
    · rename_i q
      obtain ⟨q1, q2⟩ := q
      subst q1
      exact h3 z h m
    · exact ⟨z, h, m⟩
theorem leak_keep {s s' : LS} {i : Nat} {x : SV} (h : leak s i = some (x, s')) : Keep s s' := by
  simp only [leak, Option.bind_eq_some_iff] at h
  obtain ⟨y, e, h⟩ := h
  split at h <;> rename_i hm
  · cases h; exact .refl _
  · cases h; exact .refl _
  · cases h
    refine Keep.set (fun z hz => ?_) (fun z hz => ?_) (fun z hz m => ?_)
    · rw [e] at hz; cases hz; rw [hm]; rfl
    · cases hz; rfl
    · rw [e] at hz; cases hz; rw [hm] at m; cases m
  · cases h
    refine Keep.set (fun z hz => ?_) (fun z hz => ?_) (fun z hz m => ?_)
    · rw [e] at hz; cases hz; rw [hm]; rfl
    · cases hz; rfl
    · exact ⟨_, rfl, rfl⟩
  · cases h
  · cases h
theorem free_inv {s : LS} {i : Nat} (h : free s i = true) : ∀ y, slot s i = some y → y.m.isLock = false ∧ y.m.isIn = false := by
  intro y e
  unfold free at h
  unfold slot at e
  cases q : s[i]? with
  | none => rw [q] at e; cases e
  | some o =>
    rw [q] at e h
    cases o with
    | none => cases e
    | some z =>
      cases e
      simp only at h
      split at h
      · rename_i hm; rw [hm]; exact ⟨rfl, rfl⟩
      · rename_i hm; rw [hm]; exact ⟨rfl, rfl⟩
      · cases h
/-- no lock, not handed in: what is stored -/
theorem store_keep {s s' : LS} {i : Nat} {x : SV} (hx : x.m.isNew = true) (h : store s i x = some s') : Keep s s' := by
  unfold store at h
  split at h
  · rename_i hf
    cases h
    refine Keep.set (fun z hz => (free_inv hf z hz).1) (fun z hz => ?_) (fun z hz m => ?_)
    · cases hz
      cases hm : x.m <;> rw [hm] at hx <;> first | rfl | cases hx
    · rw [(free_inv hf z hz).2] at m; cases m
  · cases h
theorem stores_keep : ∀ {is : List Nat} {ds : List D} {s s' : LS}, stores s is ds = some s' → Keep s s'
  | [], [], s, s', h => by cases h; exact .refl _
  | i :: is, d :: ds, s, s', h => by
    simp only [stores, Option.bind_eq_some_iff] at h
    obtain ⟨s1, h1, h2⟩ := h
    exact (store_keep rfl h1).trans (stores_keep h2)
  | [], _ :: _, s, s', h => by cases h
  | _ :: _, [], s, s', h => by cases h
theorem bindP_keep {p : Pt} {d : D} {s s' : LS} (h : bindP s p d = some s') : Keep s s' := by
  cases p with
  | v i => exact store_keep rfl h
  | t is =>
    cases d with
    | tuple ds => exact stores_keep h
    | _ => cases h
theorem opA_keep {e : CE} {r : Option (SV × LS)} {s s' : LS} {o : Opd} (hr : ∀ x s1, r = some (x, s1) → Keep s s1) (h : opA e r s = some (o, s')) : Keep s s' := by
  have h' : (∃ i, e = .v i) ∨ r.map (fun x => (Opd.val x.1.d, x.2)) = some (o, s') := by
    cases e <;> first | exact .inr h | exact .inl ⟨_, rfl⟩
  rcases h' with ⟨i, rfl⟩ | h'
  · simp only [opA, Option.map_eq_some_iff] at h
    obtain ⟨y, _, h⟩ := h
    cases h
    exact .refl _
  · simp only [Option.map_eq_some_iff] at h'
    obtain ⟨y, h1, h2⟩ := h'
    cases h2
    exact hr y.1 y.2 h1
theorem backs_keep : ∀ {os : List Opd} {rs : List (Option SV)} {s s' : LS}, backs s os rs = some s' → Keep s s'
  | [], _, s, s', h => by
    simp only [backs] at h
    cases h; exact .refl _
  | .val _ :: os, [], s, s', h => by cases h
  | .val _ :: os, _ :: rs, s, s', h => backs_keep (os := os) (rs := rs) h
  | .loc i :: os, [], s, s', h => by cases h
  | .loc i :: os, r :: rs, s, s', h => by
    unfold backs at h
    split at h
    · rename_i d e; exact (Keep.set (fun z hz => by rw [e] at hz; cases hz; rfl) (fun z hz => by cases hz; rfl) (fun z hz m => by rw [e] at hz; cases hz; cases m)).trans (backs_keep (os := os) (rs := rs) h)
    · rename_i d e; exact (Keep.set (fun z hz => by rw [e] at hz; cases hz; rfl) (fun z hz => by cases hz; rfl) (fun z hz m => by rw [e] at hz; cases hz; cases m)).trans (backs_keep (os := os) (rs := rs) h)
    · rename_i d e; exact (Keep.set (fun z hz => by rw [e] at hz; cases hz; rfl) (fun z hz => by cases hz; rfl) (fun z hz m => ⟨_, rfl, rfl⟩)).trans (backs_keep (os := os) (rs := rs) h)
    · rename_i d e; exact (Keep.set (fun z hz => by rw [e] at hz; cases hz; rfl) (fun z hz => by cases hz; rfl) (fun z hz m => ⟨_, rfl, rfl⟩)).trans (backs_keep (os := os) (rs := rs) h)
    · cases h
    · cases h
    · exact backs_keep (os := os) (rs := rs) h
theorem callE_keep {cf : CF} {f : Nat} {os : List Opd} {s s' : LS} {x : SV} (h : callE cf f os s = some (x, s')) : Keep s s' := by
  unfold callE at h
  split at h
  · simp only [Option.bind_eq_some_iff] at h
    obtain ⟨vs, _, r, _, h⟩ := h
    obtain ⟨_, h⟩ := ite_else h
    rw [Option.map_eq_some_iff] at h
    obtain ⟨s1, h1, h2⟩ := h
    cases h2
    exact backs_keep h1
  · cases h
/-! ### loops -/
/-- what a lock leaves: the name's slot alone is another -/
structure Locked (s s1 : LS) (o : Option Nat) : Prop where
  none_ : o = none → s1 = s
  some_ : ∀ i, o = some i → ∃ d m m', slot s i = some ⟨m, d⟩ ∧ s1 = putS s i ⟨m', d⟩ ∧ ((m = .ow ∧ m' = .lk) ∨ (m = .io ∧ m' = .li))
theorem lockO_inv {s s1 : LS} {o : Opd} {xs : List D} {w : Option Nat} (h : lockO s o = some (xs, w, s1)) : Locked s s1 w := by
  cases o with
  | val d =>
    cases d <;> simp only [lockO] at h <;> first | (cases h; exact ⟨fun _ => rfl, fun i e => by cases e⟩) | cases h
  | loc i =>
    simp only [lockO, Option.bind_eq_some_iff] at h
    obtain ⟨x, e, h⟩ := h
    obtain ⟨m, d⟩ := x
    cases d with
    | tuple ds => cases h; exact ⟨fun _ => rfl, fun i e => by cases e⟩
    | list ds =>
      cases m with
      | ow => cases h; exact ⟨(fun q => by cases q), (fun j q => by cases q; exact ⟨_, _, _, e, rfl, .inl ⟨rfl, rfl⟩⟩)⟩
      | io => cases h; exact ⟨(fun q => by cases q), (fun j q => by cases q; exact ⟨_, _, _, e, rfl, .inr ⟨rfl, rfl⟩⟩)⟩
      | _ => cases h; exact ⟨fun _ => rfl, fun i e => by cases e⟩
    | _ => cases h
theorem slot_lt' {s : LS} {i : Nat} {x : SV} (h : slot s i = some x) : i < s.length := by
  unfold slot at h
  by_cases hl : i < s.length
  · exact hl
  · rw [List.getElem?_eq_none (by omega)] at h; cases h
/-- locked, walked, unlocked -/
theorem unlock_keep {s s1 s2 : LS} {w : Option Nat} (l : Locked s s1 w) (k : Keep s1 s2) : Keep s (unlock s2 w) := by
  cases w with
  | none => rw [l.none_ rfl] at k; exact k
  | some i =>
    obtain ⟨d, m, m', e, e1, hm⟩ := l.some_ i rfl
    have hl := slot_lt' e
    have s1i : slot s1 i = some ⟨m', d⟩ := by rw [e1]; unfold putS; rw [slot_set', if_pos ⟨rfl, hl⟩]
    have lk' : (⟨m', d⟩ : SV).m.isLock = true := by rcases hm with ⟨_, z⟩ | ⟨_, z⟩ <;> rw [z] <;> rfl
    have s2i : slot s2 i = some ⟨m', d⟩ := (k.lk i _ lk').mp s1i
    have u : unlock s2 (some i) = putS s2 i ⟨m, d⟩ := by
      simp only [unlock, s2i]
      rcases hm with ⟨z1, z2⟩ | ⟨z1, z2⟩ <;> subst z1 z2 <;> rfl
    rw [u]
    have at1 : ∀ j, j ≠ i → slot s1 j = slot s j := fun j hj => by rw [e1]; unfold putS; rw [slot_set', if_neg (fun z => hj z.1.symm)]
    have hl2 : i < s2.length := slot_lt' s2i
    have at2 : ∀ j, slot (putS s2 i ⟨m, d⟩) j = if j = i then some ⟨m, d⟩ else slot s2 j := fun j => by
      unfold putS
      rw [slot_set']
      by_cases hj : j = i
      · rw [if_pos ⟨hj.symm, hl2⟩, if_pos hj]
      · rw [if_neg (fun z => hj z.1.symm), if_neg hj]
    refine ⟨?_, fun j z mz => ?_, fun j z hz mz => ?_⟩
    · have := k.len
      rw [e1] at this
      unfold putS at this ⊢
      rw [List.length_set] at this ⊢
      exact this
    · rw [at2]
      by_cases hj : j = i
      · rw [if_pos hj, hj, e]
      · rw [if_neg hj, ← at1 j hj]
        exact k.lk j z mz
    · rw [at2]
      by_cases hj : j = i
      · rw [if_pos hj]
        rw [hj, e] at hz
        cases hz
        exact ⟨_, rfl, mz⟩
      · rw [if_neg hj]
        exact k.io j z (by rw [at1 j hj]; exact hz) mz
def Fl.st : Fl → LS
  | .nx s => s
  | .rt _ s => s
  | .bk s => s
  | .ct s => s
  | .ex _ s => s
theorem forL_keep {f : D → LS → Option Fl} (hf : ∀ x s r, f x s = some r → Keep s r.st) : ∀ {xs : List D} {s : LS} {r : Fl}, forL f xs s = some r → Keep s r.st
  | [], s, r, h => by cases h; exact .refl _
  | x :: xs, s, r, h => by
    simp only [forL, Option.bind_eq_some_iff] at h
    obtain ⟨r1, h1, h2⟩ := h
    have k := hf x s r1 h1
    cases r1 with
    | nx s1 => exact k.trans (forL_keep hf h2)
    | ct s1 => exact k.trans (forL_keep hf h2)
    | bk s1 => cases h2; exact k
    | rt v s1 => cases h2; exact k
    | ex x s1 => cases h2; exact k
theorem whL_keep {c : LS → Option (Bool × LS)} {b : LS → Option Fl} (hc : ∀ s k s', c s = some (k, s') → Keep s s') (hb : ∀ s r, b s = some r → Keep s r.st) : ∀ {n : Nat} {s : LS} {r : Fl}, whL c b n s = some r → Keep s r.st
  | 0, s, r, h => by cases h
  | n + 1, s, r, h => by
    simp only [whL, Option.bind_eq_some_iff] at h
    obtain ⟨⟨k, s1⟩, h1, h2⟩ := h
    have kk := hc s k s1 h1
    cases k with
    | false => cases h2; exact kk
    | true =>
      simp only [Option.bind_eq_some_iff] at h2
      obtain ⟨r1, h2, h3⟩ := h2
      have k2 := kk.trans (hb s1 r1 h2)
      cases r1 with
      | nx s1 => exact k2.trans (whL_keep hc hb h3)
      | ct s1 => exact k2.trans (whL_keep hc hb h3)
      | bk s1 => cases h3; exact k2
      | rt v s1 => cases h3; exact k2
      | ex x s1 => cases h3; exact k2
theorem compL_keep {f : D → LS → Option (List D × LS)} {R : LS → LS → Prop} (hr : ∀ s, R s s) (ht : ∀ a b c, R a b → R b c → R a c) (hf : ∀ x s r, f x s = some r → R s r.2) : ∀ {xs : List D} {s : LS} {r : List D × LS}, compL f xs s = some r → R s r.2
  | [], s, r, h => by cases h; exact hr _
  | x :: xs, s, r, h => by
    simp only [compL, Option.bind_eq_some_iff, Option.map_eq_some_iff] at h
    obtain ⟨r1, h1, q, h2, h3⟩ := h
    cases h3
    exact ht _ _ _ (hf x s r1 h1) (compL_keep hr ht hf (r := q) h2)
/-! ### comprehensions: but for the block's own names -/
structure KeepX (own : List Nat) (s s' : LS) : Prop where
  len : s.length = s'.length
  lk : ∀ i x, i ∉ own → x.m.isLock = true → (slot s i = some x ↔ slot s' i = some x)
  io : ∀ i x, i ∉ own → slot s i = some x → x.m.isIn = true → ∃ y, slot s' i = some y ∧ y.m.isIn = true
theorem KeepX.refl (own : List Nat) (s : LS) : KeepX own s s := ⟨rfl, fun _ _ _ _ => Iff.rfl, fun _ x _ h m => ⟨x, h, m⟩⟩
theorem KeepX.trans {own : List Nat} {s s1 s2 : LS} (a : KeepX own s s1) (b : KeepX own s1 s2) : KeepX own s s2 :=
  ⟨a.len.trans b.len, fun i x o m => (a.lk i x o m).trans (b.lk i x o m), fun i x o h m => by
    obtain ⟨y, h1, m1⟩ := a.io i x o h m
    exact b.io i y o h1 m1⟩
theorem Keep.x {own : List Nat} {s s' : LS} (k : Keep s s') : KeepX own s s' := ⟨k.len, fun i x _ m => k.lk i x m, fun i x _ h m => k.io i x h m⟩
theorem wipeS_len (s : LS) : ∀ own : List Nat, (wipeS s own).length = s.length
  | [] => rfl
  | i :: is => by unfold wipeS; rw [List.length_set, wipeS_len s is]
theorem wipeS_slot (s : LS) : ∀ (own : List Nat) (j : Nat), slot (wipeS s own) j = if j ∈ own then none else slot s j
  | [], j => by simp [wipeS]
  | i :: is, j => by
    unfold wipeS
    rw [slot_set', wipeS_slot s is j, wipeS_len]
    by_cases h : i = j
    · subst h
      by_cases hl : i < s.length
      · simp [hl]
      · have : slot s i = none := by
          unfold slot
          rw [List.getElem?_eq_none (by omega)]; rfl
        simp [hl, this]
    · simp [h, Ne.symm h]
theorem wipeS_keep (s : LS) (own : List Nat) : KeepX own s (wipeS s own) :=
  ⟨(wipeS_len s own).symm, fun i x o _ => by rw [wipeS_slot, if_neg o], fun i x o h m => ⟨x, by rw [wipeS_slot, if_neg o]; exact h, m⟩⟩
theorem backS_len (s0 s : LS) : ∀ own : List Nat, (backS s0 s own).length = s.length
  | [] => rfl
  | i :: is => by unfold backS; rw [List.length_set, backS_len s0 s is]
theorem backS_slot (s0 s : LS) (hl : s0.length = s.length) : ∀ (own : List Nat) (j : Nat), slot (backS s0 s own) j = if j ∈ own then slot s0 j else slot s j
  | [], j => by simp [backS]
  | i :: is, j => by
    unfold backS
    rw [slot_set', backS_slot s0 s hl is j, backS_len]
    by_cases h : i = j
    · subst h
      by_cases hz : i < s.length
      · simp [hz]
      · have e1 : slot s0 i = none := by
          unfold slot
          rw [List.getElem?_eq_none (by omega)]; rfl
        have e2 : slot s i = none := by
          unfold slot
          rw [List.getElem?_eq_none (by omega)]; rfl
        simp [hz, e1, e2]
    · simp [h, Ne.symm h]
theorem backS_keep {s0 s : LS} {own : List Nat} (k : KeepX own s0 s) : Keep s0 (backS s0 s own) := by
  refine ⟨by rw [backS_len]; exact k.len, fun i x m => ?_, fun i x h m => ?_⟩
  · rw [backS_slot s0 s k.len]
    by_cases h : i ∈ own
    · rw [if_pos h]
    · rw [if_neg h]; exact k.lk i x h m
  · rw [backS_slot s0 s k.len]
    by_cases hi : i ∈ own
    · rw [if_pos hi]; exact ⟨x, h, m⟩
    · rw [if_neg hi]; exact k.io i x hi h m
theorem tst_keep {s s' : LS} {r : Option (SV × LS)} {b : Bool} (h : tst r = some (b, s')) (hr : ∀ x s1, r = some (x, s1) → Keep s s1) : Keep s s' := by
  unfold tst at h
  split at h
  · cases h; exact hr _ _ rfl
  · cases h
section
variable (cf : CF)
mutual
theorem evE_keep : ∀ (c : CE) (s : LS) (x : SV) (s' : LS), evE cf c s = some (x, s') → Keep s s'
  | .v i, s, x, s', h => leak_keep h
  | .non, s, x, s', h => by cases h; exact .refl _
  | .bl b, s, x, s', h => by cases h; exact .refl _
  | .int i, s, x, s', h => by cases h; exact .refl _
  | .str i, s, x, s', h => by cases h; exact .refl _
  | .gI _ i, s, x, s', h => by cases h; exact .refl _
  | .gS _ i, s, x, s', h => by cases h; exact .refl _
  | .tup es, s, x, s', h => by
    simp only [evE, Option.bind_eq_some_iff] at h
    obtain ⟨r, h1, h2⟩ := h
    split at h2
    · cases h2; exact evEs_keep es s r.1 r.2 h1
    · cases h2
  | .lst es, s, x, s', h => by
    simp only [evE, Option.bind_eq_some_iff] at h
    obtain ⟨r, h1, h2⟩ := h
    split at h2
    · cases h2; exact evEs_keep es s r.1 r.2 h1
    · cases h2
  | .bin op a b, s, x, s', h => by
    simp only [evE, Option.bind_eq_some_iff, Option.map_eq_some_iff] at h
    obtain ⟨y, e1, z, e2, dx, e3, dy, e4, rr, e5, e6⟩ := h
    cases e6
    exact (opA_keep (fun x s1 e => evE_keep a s x s1 e) e1).trans (opA_keep (fun x s1 e => evE_keep b y.2 x s1 e) e2)
  | .neg a, s, x, s', h => by
    simp only [evE, Option.bind_eq_some_iff, Option.map_eq_some_iff] at h
    obtain ⟨y, e1, i, e2, e3⟩ := h
    cases e3
    exact evE_keep a s _ _ e1
  | .cmp op a b, s, x, s', h => by
    simp only [evE, Option.bind_eq_some_iff, Option.map_eq_some_iff] at h
    obtain ⟨y, e1, z, e2, dx, e3, dy, e4, rr, e5, e6⟩ := h
    cases e6
    exact (opA_keep (fun x s1 e => evE_keep a s x s1 e) e1).trans (opA_keep (fun x s1 e => evE_keep b y.2 x s1 e) e2)
  | .ch2 o1 o2 a b c, s, x, s', h => by
    simp only [evE, Option.bind_eq_some_iff] at h
    obtain ⟨y, e1, z, e2, k, e3, e4⟩ := h
    have k1 := (evE_keep a s _ _ e1).trans (evE_keep b y.2 _ _ e2)
    cases k with
    | false => cases e4; exact k1
    | true =>
      simp only [if_true, Option.bind_eq_some_iff, Option.map_eq_some_iff] at e4
      obtain ⟨u, e4, rr, e5, e6⟩ := e4
      cases e6
      exact k1.trans (evE_keep c z.2 _ _ e4)
  | .ch3 o1 o2 o3 a b c d, s, x, s', h => by
    simp only [evE, Option.bind_eq_some_iff] at h
    obtain ⟨y, e1, z, e2, k, e3, e4⟩ := h
    have k1 := (evE_keep a s _ _ e1).trans (evE_keep b y.2 _ _ e2)
    cases k with
    | false => cases e4; exact k1
    | true =>
      simp only [if_true, Option.bind_eq_some_iff] at e4
      obtain ⟨u, e4, k2, e5, e6⟩ := e4
      have k3 := k1.trans (evE_keep c z.2 _ _ e4)
      cases k2 with
      | false => cases e6; exact k3
      | true =>
        simp only [if_true, Option.bind_eq_some_iff, Option.map_eq_some_iff] at e6
        obtain ⟨t, e6, rr, e7, e8⟩ := e6
        cases e8
        exact k3.trans (evE_keep d u.2 _ _ e6)
  | .isN a, s, x, s', h => by
    simp only [evE, Option.bind_eq_some_iff, Option.map_eq_some_iff] at h
    obtain ⟨y, e1, d, e2, e3⟩ := h
    cases e3
    exact opA_keep (fun x s1 e => evE_keep a s x s1 e) e1
  | .isNN a, s, x, s', h => by
    simp only [evE, Option.bind_eq_some_iff, Option.map_eq_some_iff] at h
    obtain ⟨y, e1, d, e2, e3⟩ := h
    cases e3
    exact opA_keep (fun x s1 e => evE_keep a s x s1 e) e1
  | .and es, s, x, s', h => evAnd_keep es s x s' h
  | .or es, s, x, s', h => evOr_keep es s x s' h
  | .not a, s, x, s', h => by
    simp only [evE, Option.map_eq_some_iff] at h
    obtain ⟨y, e1, e2⟩ := h
    cases e2
    exact tst_keep e1 fun x s1 e => evE_keep a s x s1 e
  | .ite c a b, s, x, s', h => by
    simp only [evE, Option.bind_eq_some_iff] at h
    obtain ⟨⟨k, s1⟩, e1, e2⟩ := h
    have k1 := tst_keep e1 fun x s1 e => evE_keep c s x s1 e
    cases k with
    | true => exact k1.trans (evE_keep a s1 _ _ e2)
    | false => exact k1.trans (evE_keep b s1 _ _ e2)
  | .idx a i, s, x, s', h => by
    simp only [evE, Option.bind_eq_some_iff, Option.map_eq_some_iff] at h
    obtain ⟨y, e1, z, e2, dx, e3, rr, e4, e5⟩ := h
    cases e5
    exact (opA_keep (fun x s1 e => evE_keep a s x s1 e) e1).trans (evE_keep i y.2 _ _ e2)
  | .slc a lo hi, s, x, s', h => by
    simp only [evE, Option.bind_eq_some_iff, Option.map_eq_some_iff] at h
    obtain ⟨y, e1, z, e2, w, e3, dx, e4, rr, e5, e6⟩ := h
    cases e6
    exact (opA_keep (fun x s1 e => evE_keep a s x s1 e) e1).trans ((evO_keep lo y.2 _ _ e2).trans (evO_keep hi z.2 _ _ e3))
  | .rev a, s, x, s', h => by
    simp only [evE, Option.bind_eq_some_iff, Option.map_eq_some_iff] at h
    obtain ⟨y, e1, dx, e2, rr, e3, e4⟩ := h
    cases e4
    exact opA_keep (fun x s1 e => evE_keep a s x s1 e) e1
  | .call f as, s, x, s', h => by
    simp only [evE, Option.bind_eq_some_iff] at h
    obtain ⟨r, e1, e2⟩ := h
    exact (evAs_keep as s r.1 r.2 e1).trans (callE_keep e2)
  | .b1 f a, s, x, s', h => by
    simp only [evE, Option.bind_eq_some_iff, Option.map_eq_some_iff] at h
    obtain ⟨y, e1, dx, e2, rr, e3, e4⟩ := h
    cases e4
    exact opA_keep (fun x s1 e => evE_keep a s x s1 e) e1
  | .b2 f a b, s, x, s', h => by
    simp only [evE, Option.bind_eq_some_iff, Option.map_eq_some_iff] at h
    obtain ⟨y, e1, z, e2, rr, e3, e4⟩ := h
    cases e4
    exact (evE_keep a s _ _ e1).trans (evE_keep b y.2 _ _ e2)
  | .isI a t, s, x, s', h => by
    simp only [evE, Option.bind_eq_some_iff] at h
    obtain ⟨y, e1, d, e2, e3⟩ := h
    obtain ⟨_, e3⟩ := ite_else e3
    cases e3
    exact opA_keep (fun x s1 e => evE_keep a s x s1 e) e1
  | .lrg b, s, x, s', h => by
    simp only [evE, Option.bind_eq_some_iff] at h
    obtain ⟨y, e1, j, e2, e3⟩ := h
    split at e3
    · cases e3; exact evE_keep b s _ _ e1
    · cases e3
  | .lcp own e p it c, s, x, s', h => by
    simp only [evE, Option.bind_eq_some_iff] at h
    obtain ⟨w, e1, e2⟩ := h
    split at e2
    · simp only [Option.bind_eq_some_iff] at e2
      obtain ⟨r, e3, e4⟩ := e2
      split at e4
      · cases e4
        obtain ⟨s1, k0, l0⟩ := evI_keep it s w.1 w.2.1 w.2.2 e1
        refine k0.trans (unlock_keep l0 (backS_keep (compL_keep (R := KeepX own) (fun s => .refl own s) (fun a b c => .trans) (fun x s1 r hr => ?_) e3)))
        simp only [Option.bind_eq_some_iff] at hr
        obtain ⟨s2, h1, k, h2, h3⟩ := hr
        have kk : KeepX own s1 k.2 := (wipeS_keep s1 own).trans ((bindP_keep h1).trans (evC_keep c s2 k.1 k.2 h2)).x
        split at h3
        · simp only [Option.map_eq_some_iff] at h3
          obtain ⟨y, h3, h4⟩ := h3
          cases h4
          exact kk.trans (evE_keep e k.2 _ _ h3).x
        · cases h3; exact kk
      · cases e4
    · cases e2
  | .lc2 own own2 e p it c p2 a2 c2, s, x, s', h => by
    simp only [evE, Option.bind_eq_some_iff] at h
    obtain ⟨w, e1, e2⟩ := h
    split at e2
    · simp only [Option.bind_eq_some_iff] at e2
      obtain ⟨r, e3, e4⟩ := e2
      split at e4
      · cases e4
        obtain ⟨s1, k0, l0⟩ := evI_keep it s w.1 w.2.1 w.2.2 e1
        refine k0.trans (unlock_keep l0 (backS_keep (compL_keep (R := KeepX own) (fun s => .refl own s) (fun a b c => .trans) (fun x s1 r hr => ?_) e3)))
        simp only [Option.bind_eq_some_iff] at hr
        obtain ⟨s2, h1, k, h2, h3⟩ := hr
        have kk : KeepX own s1 k.2 := (wipeS_keep s1 own).trans ((bindP_keep h1).trans (evC_keep c s2 k.1 k.2 h2)).x
        split at h3
        · simp only [Option.bind_eq_some_iff] at h3
          obtain ⟨y2, h3, ds2, h30, h4⟩ := h3
          split at h4
          · simp only [Option.map_eq_some_iff] at h4
            obtain ⟨q, h4, h5⟩ := h4
            cases h5
            refine kk.trans ((evE_keep a2 k.2 y2.1 y2.2 h3).trans (backS_keep (compL_keep (R := KeepX own2) (fun s => .refl own2 s) (fun a b c => .trans) (fun x s1 r hr => ?_) h4))).x
            simp only [Option.bind_eq_some_iff] at hr
            obtain ⟨s2, h1, k, h2, h3⟩ := hr
            have kk : KeepX own2 s1 k.2 := (wipeS_keep s1 own2).trans ((bindP_keep h1).trans (evC_keep c2 s2 k.1 k.2 h2)).x
            split at h3
            · simp only [Option.map_eq_some_iff] at h3
              obtain ⟨y, h3, h4⟩ := h3
              cases h4
              exact kk.trans (evE_keep e k.2 _ _ h3).x
            · cases h3; exact kk
          · cases h4
        · cases h3; exact kk
      · cases e4
    · cases e2
  | .scp own e p it c, s, x, s', h => by
    simp only [evE, Option.bind_eq_some_iff] at h
    obtain ⟨w, e1, e2⟩ := h
    split at e2
    · simp only [Option.bind_eq_some_iff] at e2
      obtain ⟨r, e3, ns, e4, e5⟩ := e2
      obtain ⟨_, e5⟩ := ite_some e5
      cases e5
      obtain ⟨s1, k0, l0⟩ := evI_keep it s w.1 w.2.1 w.2.2 e1
      refine k0.trans (unlock_keep l0 (backS_keep (compL_keep (R := KeepX own) (fun s => .refl own s) (fun a b c => .trans) (fun x s1 r hr => ?_) e3)))
      simp only [Option.bind_eq_some_iff] at hr
      obtain ⟨s2, h1, k, h2, h3⟩ := hr
      have kk : KeepX own s1 k.2 := (wipeS_keep s1 own).trans ((bindP_keep h1).trans (evC_keep c s2 k.1 k.2 h2)).x
      split at h3
      · simp only [Option.map_eq_some_iff] at h3
        obtain ⟨y, h3, h4⟩ := h3
        cases h4
        exact kk.trans (evE_keep e k.2 _ _ h3).x
      · cases h3; exact kk
    · cases e2
  | .dic kvs, s, x, s', h => by
    simp only [evE, Option.bind_eq_some_iff] at h
    obtain ⟨r, h1, h2⟩ := h
    cases h2
    exact evK_keep kvs s r.1 r.2 h1
  | .isB a b, s, x, s', h => by
    simp only [evE, Option.bind_eq_some_iff, Option.map_eq_some_iff] at h
    obtain ⟨y, e1, d, e2, _, _, e3⟩ := h
    cases e3
    exact opA_keep (fun x s1 e => evE_keep a s x s1 e) e1
  | .mkx k w as, s, x, s', h => by
    simp only [evE, Option.bind_eq_some_iff, Option.map_eq_some_iff] at h
    obtain ⟨r, h1, d, _, h2⟩ := h
    cases h2
    exact evEs_keep as s r.1 r.2 h1
  | .isX a cs, s, x, s', h => by
    simp only [evE, Option.bind_eq_some_iff, Option.map_eq_some_iff] at h
    obtain ⟨y, e1, d, e2, e3⟩ := h
    cases e3
    exact evE_keep a s _ _ e1
  | .fld a f, s, x, s', h => by
    simp only [evE, Option.bind_eq_some_iff, Option.map_eq_some_iff] at h
    obtain ⟨y, e1, d, e2, e3⟩ := h
    cases e3
    exact evE_keep a s _ _ e1
  | .lam _ _, s, x, s', h => by cases h
  | .cav _ _, s, x, s', h => by cases h
theorem evAnd_keep : ∀ (c : CEs) (s : LS) (x : SV) (s' : LS), evAnd cf c s = some (x, s') → Keep s s'
  | .nil, s, x, s', h => by cases h
  | .cons e .nil, s, x, s', h => evE_keep e s x s' h
  | .cons e (.cons e2 r), s, x, s', h => by
    simp only [evAnd, Option.bind_eq_some_iff] at h
    obtain ⟨⟨k, s1⟩, e1, e3⟩ := h
    have k1 := tst_keep e1 fun x s1 h => evE_keep e s x s1 h
    cases k with
    | true => exact k1.trans (evAnd_keep (.cons e2 r) s1 _ _ e3)
    | false => cases e3; exact k1
  | .cons _ (.star _ _), s, x, s', h => by cases h
  | .star _ _, s, x, s', h => by cases h
theorem evOr_keep : ∀ (c : CEs) (s : LS) (x : SV) (s' : LS), evOr cf c s = some (x, s') → Keep s s'
  | .nil, s, x, s', h => by cases h
  | .cons e .nil, s, x, s', h => evE_keep e s x s' h
  | .cons e (.cons e2 r), s, x, s', h => by
    simp only [evOr, Option.bind_eq_some_iff] at h
    obtain ⟨⟨k, s1⟩, e1, e3⟩ := h
    have k1 := tst_keep e1 fun x s1 h => evE_keep e s x s1 h
    cases k with
    | false => exact k1.trans (evOr_keep (.cons e2 r) s1 _ _ e3)
    | true => cases e3; exact k1
  | .cons _ (.star _ _), s, x, s', h => by cases h
  | .star _ _, s, x, s', h => by cases h
theorem evEs_keep : ∀ (c : CEs) (s : LS) (x : List D) (s' : LS), evEs cf c s = some (x, s') → Keep s s'
  | .nil, s, x, s', h => by cases h; exact .refl _
  | .cons e r, s, x, s', h => by
    simp only [evEs, Option.bind_eq_some_iff, Option.map_eq_some_iff] at h
    obtain ⟨y, e1, z, e2, e3⟩ := h
    cases e3
    exact (evE_keep e s _ _ e1).trans (evEs_keep r y.2 _ _ e2)
  | .star e r, s, x, s', h => by
    simp only [evEs, Option.bind_eq_some_iff, Option.map_eq_some_iff] at h
    obtain ⟨y, e1, ys, e0, z, e2, e3⟩ := h
    cases e3
    exact (evE_keep e s _ _ e1).trans (evEs_keep r y.2 _ _ e2)
theorem evAs_keep : ∀ (c : CEs) (s : LS) (x : List Opd) (s' : LS), evAs cf c s = some (x, s') → Keep s s'
  | .nil, s, x, s', h => by cases h; exact .refl _
  | .cons e r, s, x, s', h => by
    simp only [evAs, Option.bind_eq_some_iff, Option.map_eq_some_iff] at h
    obtain ⟨y, e1, z, e2, e3⟩ := h
    cases e3
    exact (opA_keep (fun x s1 h => evE_keep e s x s1 h) e1).trans (evAs_keep r y.2 _ _ e2)
  | .star e r, s, x, s', h => by cases h
theorem evO_keep : ∀ (c : CO) (s : LS) (x : Option Int) (s' : LS), evO cf c s = some (x, s') → Keep s s'
  | .no, s, x, s', h => by cases h; exact .refl _
  | .yes e, s, x, s', h => by
    simp only [evO, Option.bind_eq_some_iff, Option.map_eq_some_iff] at h
    obtain ⟨y, e1, k, e2, e3⟩ := h
    cases e3
    exact evE_keep e s _ _ e1
theorem evC_keep : ∀ (c : CO) (s : LS) (x : Bool) (s' : LS), evC cf c s = some (x, s') → Keep s s'
  | .no, s, x, s', h => by cases h; exact .refl _
  | .yes e, s, x, s', h => tst_keep h fun x s1 h => evE_keep e s x s1 h
theorem evI_keep : ∀ (c : CI) (s : LS) (x : List D) (o : Option Nat) (s' : LS), evI cf c s = some (x, o, s') → ∃ s1, Keep s s1 ∧ Locked s1 s' o
  | .e a, s, x, o, s', h => by
    simp only [evI, Option.bind_eq_some_iff] at h
    obtain ⟨y, e1, e2⟩ := h
    exact ⟨y.2, opA_keep (fun x s1 h => evE_keep a s x s1 h) e1, lockO_inv e2⟩
  | .rg1 a, s, x, o, s', h => by
    simp only [evI, Option.bind_eq_some_iff] at h
    obtain ⟨y, e1, j, e2, e3⟩ := h
    split at e3
    · cases e3; exact ⟨_, evE_keep a s _ _ e1, ⟨fun _ => rfl, fun i e => by cases e⟩⟩
    · cases e3
  | .rg2 a b, s, x, o, s', h => by
    simp only [evI, Option.bind_eq_some_iff] at h
    obtain ⟨y, e1, z, e2, i, e3, j, e4, e5⟩ := h
    split at e5
    · cases e5; exact ⟨_, (evE_keep a s _ _ e1).trans (evE_keep b y.2 _ _ e2), ⟨fun _ => rfl, fun i e => by cases e⟩⟩
    · cases e5
  | .enu a, s, x, o, s', h => by
    simp only [evI, Option.bind_eq_some_iff, Option.map_eq_some_iff] at h
    obtain ⟨y, e1, ⟨wx, wo, ws⟩, e2, e3⟩ := h
    cases e3
    exact ⟨y.2, opA_keep (fun x s1 h => evE_keep a s x s1 h) e1, lockO_inv e2⟩
  | .zip a b, s, x, o, s', h => by
    simp only [evI, Option.bind_eq_some_iff] at h
    obtain ⟨y, e1, z, e2, e3⟩ := h
    split at e3
    · cases e3; exact ⟨_, (evE_keep a s _ _ e1).trans (evE_keep b y.2 _ _ e2), ⟨fun _ => rfl, fun i e => by cases e⟩⟩
    · cases e3; exact ⟨_, (evE_keep a s _ _ e1).trans (evE_keep b y.2 _ _ e2), ⟨fun _ => rfl, fun i e => by cases e⟩⟩
    · cases e3
  | .zip3 a b c, s, x, o, s', h => by
    simp only [evI, Option.bind_eq_some_iff] at h
    obtain ⟨y, e1, z, e2, w, e3, e4⟩ := h
    split at e4
    · cases e4; exact ⟨_, ((evE_keep a s _ _ e1).trans (evE_keep b y.2 _ _ e2)).trans (evE_keep c z.2 _ _ e3), ⟨fun _ => rfl, fun i e => by cases e⟩⟩
    · cases e4
theorem evK_keep : ∀ (c : CK) (s : LS) (x : List (D × D)) (s' : LS), evK cf c s = some (x, s') → Keep s s'
  | .nil, s, x, s', h => by cases h; exact .refl _
  | .cons k e r, s, x, s', h => by
    simp only [evK, Option.bind_eq_some_iff] at h
    obtain ⟨y, e1, z, e2, e3⟩ := h
    split at e3
    · cases e3; exact (evE_keep e s _ _ e1).trans (evK_keep r y.2 _ _ e2)
    · cases e3
end
/-! ### what is raised -/
mutual
theorem xE_keep : ∀ (c : CE) (s : LS) (x : D) (s' : LS), xE cf c s = some (x, s') → Keep s s'
  | .call f as, s, x, s', h => by
    simp only [xE] at h
    rcases orX_inv h with h | ⟨_, h⟩
    · exact xAs_keep as s x s' h
    · simp only [Option.bind_eq_some_iff, Option.map_eq_some_iff] at h
      obtain ⟨r, h1, y, _, h2⟩ := h
      cases h2
      exact evAs_keep cf as s r.1 r.2 h1
  | .idx a _, s, x, s', h => xE_keep a s x s' h
  | .isN a, s, x, s', h => xE_keep a s x s' h
  | .isNN a, s, x, s', h => xE_keep a s x s' h
  | .b1 _ a, s, x, s', h => xE_keep a s x s' h
  | .lcp _ _ _ it _, s, x, s', h => xI_keep it s x s' h
  | .v _, _, _, _, h | .non, _, _, _, h | .bl _, _, _, _, h | .int _, _, _, _, h | .str _, _, _, _, h | .gI _ _, _, _, _, h | .gS _ _, _, _, _, h | .tup _, _, _, _, h | .lst _, _, _, _, h | .bin _ _ _, _, _, _, h | .neg _, _, _, _, h | .cmp _ _ _, _, _, _, h | .ch2 _ _ _ _ _, _, _, _, h | .ch3 _ _ _ _ _ _ _, _, _, _, h => by cases h
  | .and _, _, _, _, h | .or _, _, _, _, h | .not _, _, _, _, h | .ite _ _ _, _, _, _, h | .slc _ _ _, _, _, _, h | .rev _, _, _, _, h | .b2 _ _ _, _, _, _, h | .isI _ _, _, _, _, h | .lrg _, _, _, _, h | .lc2 _ _ _ _ _ _ _ _ _, _, _, _, h | .scp _ _ _ _ _, _, _, _, h | .dic _, _, _, _, h => by cases h
  | .isB _ _, _, _, _, h | .mkx _ _ _, _, _, _, h | .isX _ _, _, _, _, h | .fld _ _, _, _, _, h | .lam _ _, _, _, _, h | .cav _ _, _, _, _, h => by cases h
theorem xAs_keep : ∀ (c : CEs) (s : LS) (x : D) (s' : LS), xAs cf c s = some (x, s') → Keep s s'
  | .nil, _, _, _, h => by cases h
  | .cons e r, s, x, s', h => by
    simp only [xAs] at h
    rcases orX_inv h with h | ⟨_, h⟩
    · exact xE_keep e s x s' h
    · simp only [Option.bind_eq_some_iff] at h
      obtain ⟨y, h1, h2⟩ := h
      exact (opA_keep (fun x s1 h => evE_keep cf e s x s1 h) h1).trans (xAs_keep r y.2 x s' h2)
  | .star _ _, _, _, _, h => by cases h
theorem xI_keep : ∀ (c : CI) (s : LS) (x : D) (s' : LS), xI cf c s = some (x, s') → Keep s s'
  | .e a, s, x, s', h => xE_keep a s x s' h
  | .rg1 _, _, _, _, h | .rg2 _ _, _, _, _, h | .enu _, _, _, _, h | .zip _ _, _, _, _, h | .zip3 _ _ _, _, _, _, h => by cases h
end
theorem xPs_keep : ∀ (c : CEs) (s : LS) (x : D) (s' : LS), xPs cf c s = some (x, s') → Keep s s'
  | .nil, _, _, _, h => by cases h
  | .cons e r, s, x, s', h => by
    simp only [xPs] at h
    rcases orX_inv h with h | ⟨_, h⟩
    · exact xE_keep cf e s x s' h
    · simp only [Option.bind_eq_some_iff] at h
      obtain ⟨y, h1, h2⟩ := h
      exact (evE_keep cf e s _ _ h1).trans (xPs_keep r y.2 x s' h2)
  | .star _ _, _, _, _, h => by cases h
theorem xS_keep (c : CS) (s : LS) (x : D) (s' : LS) (h : xS cf c s = some (x, s')) : Keep s s' := by
  cases c with
  | asg p e => exact xE_keep cf e s x s' h
  | ex e => exact xE_keep cf e s x s' h
  | ret e => exact xE_keep cf e s x s' h
  | seti i k e => exact xE_keep cf e s x s' h
  | par is es => exact xPs_keep cf es s x s' h
  | ite c a b => exact xE_keep cf c s x s' h
  | app i e =>
    simp only [xS, Option.bind_eq_some_iff] at h
    obtain ⟨x0, _, h⟩ := h
    obtain ⟨_, h⟩ := ite_some h
    exact xE_keep cf e s x s' h
  | _ => cases h
end
end LP

end
section
set_option Elab.async false
set_option linter.all false
set_option maxRecDepth 100000
set_option maxHeartbeats 1000000
/-! LPZ: zip of three tuples. -/
namespace RZ
open PySem PySem.Spec PyProof.Rows L2
def ItzT3 (K : PySem.W.Frag) (a b c : Addr) : It :=
  ⟨fun i H => ∃ (xs ys zs : List V) (x y z : V), SqT K H a xs ∧ SqT K H b ys ∧ SqT K H c zs ∧ xs[i]? = some x ∧ ys[i]? = some y ∧ zs[i]? = some z,
    fun i H v H' => ∃ T x y z, v = .ref T ∧ H T = none ∧ H' = upd H T (.tup [x, y, z]) ∧ (∀ xs, SqT K H a xs → xs[i]? = some x) ∧ (∀ ys, SqT K H b ys → ys[i]? = some y) ∧ ∀ zs, SqT K H c zs → zs[i]? = some z,
    fun i H => ∃ xs ys zs : List V, SqT K H a xs ∧ SqT K H b ys ∧ SqT K H c zs ∧ i ≤ xs.length ∧ i ≤ ys.length ∧ i ≤ zs.length ∧ (i = xs.length ∨ i = ys.length ∨ i = zs.length)⟩
theorem turn_zipT3 {P : Program} {w : World} {K : PySem.W.Frag} {elts : List Expr} {kk : Nat} {tpos : Pos} {a b c z TI TO i1 i2 i3 : Addr} (S : ZipSep3 z TI TO i1 i2 i3 [i1, a] [i2, b] [i3, c]) (ha : a ≠ i1) (hb : b ≠ i2) (hc3 : c ≠ i3) :
    Turn P w K (.Tuple elts kk tpos) (ItzT3 K a b c) [z, TI, TO, i1, i2, i3] z (fun i h => IsZip h z TI TO .none ∧ IsTupOf3 h TI (.ref i1) (.ref i2) (.ref i3) ∧ (∃ x y u, IsTupOf3 h TO x y u) ∧ h.IsTupleIter i1 a i ∧ h.IsTupleIter i2 b i ∧ h.IsTupleIter i3 c i) where
  mem := by simp
  obj := fun i h st d hd => by
    obtain ⟨hz, hTI, ⟨x, y, u, hTO⟩, ⟨o1, e1, _, d1⟩, ⟨o2, e2, _, d2⟩, ⟨o3, e3, _, d3⟩⟩ := st
    have e' : d = z ∨ d = TI ∨ d = TO ∨ d = i1 ∨ d = i2 ∨ d = i3 := by simpa using hd
    rcases e' with q | q | q | q | q | q
    · rw [q]; exact ⟨_, hz, fun v q => nomatch q⟩
    · rw [q]; exact ⟨_, hTI, fun v q => nomatch q⟩
    · rw [q]; exact ⟨_, hTO, fun v q => nomatch q⟩
    · rw [q]; exact ⟨o1, e1, fun v q => by rw [d1] at q; cases q⟩
    · rw [q]; exact ⟨o2, e2, fun v q => by rw [d2] at q; cases q⟩
    · rw [q]; exact ⟨o3, e3, fun v q => by rw [d3] at q; cases q⟩
  keep := fun i h h' st k => by
    obtain ⟨hz, hTI, ⟨x, y, u, hTO⟩, h1, h2, h3⟩ := st
    exact ⟨k z (by simp) _ hz, k TI (by simp) _ hTI, ⟨x, y, u, k TO (by simp) _ hTO⟩, h1.at fun o q => k i1 (by simp) o q, h2.at fun o q => k i2 (by simp) o q, h3.at fun o q => k i3 (by simp) o q⟩
  item := by
    intro X hP hw hK hc i pins s σ H E I hf st hg
    subst hP hw hK
    obtain ⟨hz, hTI, ⟨x0, y0, u0, hTO⟩, h1, h2, h3⟩ := st
    obtain ⟨xs, ys, zs, x, y, z', hqx, hqy, hqz, hx, hy, hz'⟩ := hg
    obtain ⟨its, rv, p, _⟩ := I.tuple hqx
    obtain ⟨its2, rv2, p2, _⟩ := I.tuple hqy
    obtain ⟨its3, rv3, p3, _⟩ := I.tuple hqz
    obtain ⟨u, hu, ru⟩ := rv.get hx
    obtain ⟨u2, hu2, ru2⟩ := rv2.get hy
    obtain ⟨u3, hu3, ru3⟩ := rv3.get hz'
    have hzl : z < s.heap.objs.size := Heap.lt_size hz
    have hh : X.A.in1.handled = none := I.ok.hd hc
    have lt1 : i < its.toArray.size := by rw [List.size_toArray]; exact (List.getElem?_eq_some_iff.mp hu).1
    have lt2 : i < its2.toArray.size := by rw [List.size_toArray]; exact (List.getElem?_eq_some_iff.mp hu2).1
    have lt3 : i < its3.toArray.size := by rw [List.size_toArray]; exact (List.getElem?_eq_some_iff.mp hu3).1
    refine wpAny_pyNext_zipD3_item S (Draws.tuple hh i1 a ha its.toArray) (Draws.tuple hh i2 b hb its2.toArray) (Draws.tuple hh i3 c hc3 its3.toArray) hz hTI hTO ⟨h1, p⟩ ⟨h2, p2⟩ ⟨h3, p3⟩ lt1 lt2 lt3 fun x1 x2 x3 h' tk y1 y2 y3 zz TO' st1 st2 st3 hT hsz hk => ?_
    have ex1 : x1 = u := by simpa [hu] using y1.symm
    have ex2 : x2 = u2 := by simpa [hu2] using y2.symm
    have ex3 : x3 = u3 := by simpa [hu3] using y3.symm
    subst ex1 ex2 ex3
    refine ⟨_, rfl, wpAny_letOwnedTupleGo_zip (s := { s with heap := h', toks := tk }) zz fun h'' z'' sb => ?_⟩
    have hT2 : h''.get? s.heap.objs.size = some { cls := .type "tuple", data := .seq #[x1, x2, x3] } := (sb.2 _ (Nat.ne_of_gt hzl)).trans hT
    have new : ObjOk X.prog X.w (upd H s.heap.objs.size (.tup [x, y, z'])) h'' s.heap.objs.size (.tup [x, y, z']) :=
      ⟨by show 3 ≤ sizeLine; decide, [x1, x2, x3], .cons ru (.cons ru2 (.cons ru3 .nil)), ⟨_, hT2, rfl, _, rfl⟩⟩
    have I1 : Inv X pins σ (upd H s.heap.objs.size (.tup [x, y, z'])) { s with heap := h'', toks := tk } :=
      I.turnedNew (t' := tk) (ch := [z, TI, TO, i1, i2, i3]) (fun c o hb q => (sb.2 c (fun q' => hb (by simp [q']))).trans (hk c o (fun q' => hb (by simp [q'])) (fun q' => hb (by simp [q'])) (fun q' => hb (by simp [q'])) (fun q' => hb (by simp [q'])) (fun q' => hb (by simp [q'])) q)) hf (Nat.le_refl _) new
    refine ⟨.ref s.heap.objs.size, _, I1, rfl, ⟨_, x, y, z', rfl, I.hok.fresh (Nat.le_refl _), rfl, fun l hl => by rw [I.tuple_inj hl hqx]; exact hx, fun l hl => by rw [I.tuple_inj hl hqy]; exact hy, fun l hl => by rw [I.tuple_inj hl hqz]; exact hz'⟩, ⟨z'', ?_, ⟨x1, x2, x3, ?_⟩, ?_, ?_, ?_⟩, fun d hdm => ?_⟩
    · exact (sb.2 _ S.TIz).trans (hk _ _ S.TIz S.TITO S.TIi1 S.TIi2 S.TIi3 hTI)
    · exact (sb.2 _ S.TOz).trans TO'
    · exact st1.1.at fun o q => (sb.2 _ fun e => S.zf1 (by simp [e])).trans q
    · exact st2.1.at fun o q => (sb.2 _ fun e => S.zf2 (by simp [e])).trans q
    · exact st3.1.at fun o q => (sb.2 _ fun e => S.zf3 (by simp [e])).trans q
    · have hlt : d < s.heap.objs.size := by
        have e' : d = z ∨ d = TI ∨ d = TO ∨ d = i1 ∨ d = i2 ∨ d = i3 := by simpa using hdm
        rcases e' with q | q | q | q | q | q
        · rw [q]; exact hzl
        · rw [q]; exact Heap.lt_size hTI
        · rw [q]; exact Heap.lt_size hTO
        · rw [q]; obtain ⟨_, e1, _⟩ := h1; exact Heap.lt_size e1
        · rw [q]; obtain ⟨_, e2, _⟩ := h2; exact Heap.lt_size e2
        · rw [q]; obtain ⟨_, e3, _⟩ := h3; exact Heap.lt_size e3
      rw [upd_ne (Nat.ne_of_lt hlt)]
      exact (hf d hdm).1
  done := by
    intro X hP hw hK hc i pins s σ H E I hf st hg
    subst hP hw hK
    obtain ⟨hz, hTI, ⟨x0, y0, u0, hTO⟩, h1, h2, h3⟩ := st
    obtain ⟨xs, ys, zs, hqx, hqy, hqz, l1, l2, l3, hend⟩ := hg
    obtain ⟨its, rv, p, _⟩ := I.tuple hqx
    obtain ⟨its2, rv2, p2, _⟩ := I.tuple hqy
    obtain ⟨its3, rv3, p3, _⟩ := I.tuple hqz
    have e1 := rv.length
    have e2 := rv2.length
    have e3 := rv3.length
    have hh : X.A.in1.handled = none := I.ok.hd hc
    exact wpAny_pyNext_zipD3_end S (Draws.tuple hh i1 a ha its.toArray) (Draws.tuple hh i2 b hb its2.toArray) (Draws.tuple hh i3 c hc3 its3.toArray) hz hTI hTO ⟨h1, p⟩ ⟨h2, p2⟩ ⟨h3, p3⟩ (by rw [List.size_toArray]; omega) (by rw [List.size_toArray]; omega) (by rw [List.size_toArray]; omega) (by simp only [List.size_toArray]; omega) fun h' tk hk => ⟨rfl, I.turnedL (t' := tk) (ch := [z, TI, TO, i1, i2, i3]) (fun c o hb q =>
      hk c o (fun q' => hb (by simp [q'])) (fun q' => hb (by simp [q'])) (fun q' => hb (by simp [q'])) (fun q' => hb (by simp [q'])) (fun q' => hb (by simp [q'])) q) hf⟩
  self := fun A i s Q E st h => wpAny_pyIter_zip st.1 h
def iZipA3 (K : PySem.W.Frag) (ta : TA) : TI := fun σ H R => ta σ H fun vs H1 => ∃ a b c xs ys zs, vs = [.ref a, .ref b, .ref c] ∧ SqT K H1 a xs ∧ SqT K H1 b ys ∧ SqT K H1 c zs ∧ R (ItzT3 K a b c) H1
theorem pi_zipA3 {X : Cx} {e e2 e3 : Expr} {ta : TA} {p pos tpos : Pos} {elts : List Expr} {kk : Nat} (hg : Gl X "zip") (hm : X.mg "zip" = none) (ha : PA X [e, e2, e3] ta)
    (hs : starEach [e, e2, e3] X.env = (false, eval e X.env) :: starEach [e2, e3] X.env := by rfl) (hpl : (backTo pos (starEach [e2, e3] X.env)).any (·.1) = false := by rfl) :
    PI X (.Tuple elts kk tpos) (.Call (.Name "zip" p) [e, e2, e3] [] pos) (iZipA3 X.K ta) := by
  refine ⟨fun pins s σ H R I h => ?_⟩
  refine Call_ (ld_blt I hg hm PyProof.Rows.boot_zip (PyProof.Rows.callWith_type1 (thn (ha.run pos pins s σ H _ I h) fun us s1 ⟨vs, H1, I1, r1, q1⟩ => ?_) hs hpl))
  obtain ⟨a, b, c, xs, ys, zs, ex, hqx, hqy, hqz, q⟩ := q1
  subst ex
  cases r1 with
  | cons r rr =>
    cases rr with
    | cons r' rr =>
      cases rr with
      | cons r'' rr =>
        cases rr
        cases r
        cases r'
        cases r''
        have fresh6 : ∀ d, d ∈ [s1.heap.objs.size + 5, s1.heap.objs.size + 3, s1.heap.objs.size + 4, s1.heap.objs.size, s1.heap.objs.size + 1, s1.heap.objs.size + 2] → FpOk X pins H1 d := fun d hdm => by
          have e' : d = s1.heap.objs.size + 5 ∨ d = s1.heap.objs.size + 3 ∨ d = s1.heap.objs.size + 4 ∨ d = s1.heap.objs.size ∨ d = s1.heap.objs.size + 1 ∨ d = s1.heap.objs.size + 2 := by simpa using hdm
          have hle : s1.heap.objs.size ≤ d := by
            rcases e' with z | z | z | z | z | z
            · rw [z]; exact Nat.le_add_right _ _
            · rw [z]; exact Nat.le_add_right _ _
            · rw [z]; exact Nat.le_add_right _ _
            · rw [z]; exact Nat.le_refl _
            · rw [z]; exact Nat.le_add_right _ _
            · rw [z]; exact Nat.le_add_right _ _
          exact I1.fpOk hle (I1.hok.fresh hle)
        obtain ⟨its, rv, p1, _⟩ := I1.tuple hqx
        obtain ⟨its2, rv2, p2, _⟩ := I1.tuple hqy
        obtain ⟨its3, rv3, p3, _⟩ := I1.tuple hqz
        obtain ⟨o1, ho1, _⟩ := id p1
        obtain ⟨o2, ho2, _⟩ := id p2
        obtain ⟨o3, ho3, _⟩ := id p3
        have l1 := Heap.lt_size ho1
        have l2 := Heap.lt_size ho2
        have l3 := Heap.lt_size ho3
        refine zip_begins3 (begins_tuple a its.toArray) (begins_tuple b its2.toArray) (begins_tuple c its3.toArray) p1 p2 p3 fun h' hz hTI hTO g1 g2 g3 hsz hk => wpAny_pyIter_zip hz ?_
        have I2 : Inv X pins σ H1 { s1 with heap := h' } := I1.kept (t' := s1.toks) hk
        refine ⟨s1.heap.objs.size + 5, [s1.heap.objs.size + 5, s1.heap.objs.size + 3, s1.heap.objs.size + 4, s1.heap.objs.size, s1.heap.objs.size + 1, s1.heap.objs.size + 2], _, _, H1, rfl, I2, turn_zipT3 (zip_sep3 (fp1 := [a]) (fp2 := [b]) (fp3 := [c]) (by simpa using l1) (by simpa using l2) (by simpa using l3)) (Nat.ne_of_lt l1) (Nat.ne_of_lt (Nat.lt_succ_of_lt l2)) (Nat.ne_of_lt (Nat.lt_succ_of_lt (Nat.lt_succ_of_lt l3))), ⟨hz, hTI, ⟨_, _, _, hTO⟩, ?_, ?_, ?_⟩, fresh6, q⟩
        · exact ⟨_, g1, rfl, rfl⟩
        · exact ⟨_, g2, rfl, rfl⟩
        · exact ⟨_, g3, rfl, rfl⟩
end RZ

end
section
set_option Elab.async false
set_option linter.all false
set_option maxRecDepth 100000
set_option maxHeartbeats 2000000
/-! LP11: what is walked. -/
namespace LP
open PySem PySem.Spec L2
open PyProof.Rows hiding St
variable [Zk]
def YD (K : PySem.W.Frag) (G H : Hp) (x : V) (H' : Hp) (d : D) : Prop :=
  (H' = H ∧ Den K G x d) ∨ ∃ T xs es, x = .ref T ∧ H T = none ∧ H' = upd H T (.tup xs) ∧ d = .tuple es ∧ DenL K G xs es
def WalkD (K : PySem.W.Frag) (J : It) (ds : List D) (G F : Hp) : Prop := Walk J ds.length (fun H => Same G H ∧ Same F H) (fun i H x H' => ∃ d, ds[i]? = some d ∧ YD K G H x H' d)
/-- the name that is walked is locked meanwhile -/
inductive LockF (K : PySem.W.Frag) (F : Hp) (G H : Hp) (s1 : LS) (σ : St) : Hp → LS → Option Nat → Prop
  | no : LockF K F G H s1 σ F s1 none
  | lock {i : Nat} {m m' : Md} {ds : List D} {xs : List V} {a : Addr} (e : slot s1 i = some ⟨m, .list ds⟩) (hm : (m = .ow ∧ m' = .lk) ∨ (m = .io ∧ m' = .li)) (ea : σ[i]? = some (some (.ref a))) (f : F a = none) (g : G a = none) (h : H a = some (.lst xs)) (l : DenL K G xs ds) :
      LockF K F G H s1 σ (upd F a (.lst xs)) (putS s1 i ⟨m', .list ds⟩) (some i)
def TDI (K : PySem.W.Frag) (ev : LS → Option (List D × Option Nat × LS)) : TI := fun σ H R => ∃ F G s ds o s', Rep K F G s σ H ∧ ev s = some (ds, o, s') ∧
  ∀ J H' G' F' s1, Same G G' → Rep K F G' s1 σ H' → LockF K F G' H' s1 σ F' s' o → Rep K F' G' s' σ H' → WalkD K J ds G' F' → R J H'
theorem _root_.L2.PI.imp {X : Cx} {tg it : Expr} {t t' : TI} (h : PI X tg it t) (i : ∀ σ H Q, t' σ H Q → t σ H Q) : PI X tg it t' := ⟨fun pins s σ H Q I q => h.run pins s σ H Q I (i _ _ _ q)⟩
theorem _root_.L2.PI.or {X : Cx} {tg it : Expr} {t t' : TI} (h : PI X tg it t) (h' : PI X tg it t') : PI X tg it (fun σ H Q => t σ H Q ∨ t' σ H Q) := ⟨fun pins s σ H Q I q => q.elim (h.run pins s σ H Q I) (h'.run pins s σ H Q I)⟩
section
variable {K : PySem.W.Frag} {F G H : Hp} {s : LS} {σ : St}
theorem LockF.rep {F' : Hp} {s' : LS} {o : Option Nat} (l : LockF K F G H s σ F' s' o) (r : Rep K F G s σ H) : Rep K F' G s' σ H := by
  cases l with
  | no => exact r
  | lock e hm ea f g h l =>
    rename_i i m m' ds xs a
    have ow : m.isOw = true := by rcases hm with ⟨z, _⟩ | ⟨z, _⟩ <;> rw [z] <;> rfl
    have no : NoOwn (putS s i ⟨m', .list ds⟩) σ a := fun j x hj mj ej => by
      rw [slot_put e] at hj
      split at hj
      · cases hj
        rcases hm with ⟨_, z⟩ | ⟨_, z⟩ <;> subst z <;> cases mj
      · rename_i hne
        exact hne (r.inj i j _ x a e hj ow mj ea ej)
    have lk' : m'.isLk = true := by rcases hm with ⟨_, z⟩ | ⟨_, z⟩ <;> rw [z] <;> rfl
    have at_ : ∀ j z, slot (putS s i ⟨m', .list ds⟩) j = some z → (i = j ∧ z = ⟨m', .list ds⟩) ∨ (i ≠ j ∧ slot s j = some z) := fun j z e' => by
      rw [slot_put e] at e'
      split at e'
      · rename_i q; exact .inl ⟨q, (Option.some.inj e').symm⟩
      · rename_i q; exact .inr ⟨q, e'⟩
    have sm := same_upd (o := HO.lst xs) f
    have nf : ∀ z : SV, z = ⟨m', .list ds⟩ → z.m.isFz = false ∧ z.m.isOw = false := fun z hz => by
      rw [hz]
      rcases hm with ⟨_, q⟩ | ⟨_, q⟩ <;> subst q <;> exact ⟨rfl, rfl⟩
    refine ⟨fun b u q => ?_, r.gh, fun b u q => ?_, by unfold putS; rw [List.length_set]; exact r.len, fun j z e' mj => ?_, fun j z e' mj => ?_, fun j z e' mj => ?_, fun j k z w b e1 e2 m1 m2 q1 q2 => ?_, r.tb⟩
    · by_cases hb : b = a
      · subst hb; rw [upd_same] at q; cases q; exact h
      · rw [upd_ne hb] at q; exact r.fh _ _ q
    · by_cases hb : b = a
      · rw [hb]; exact g
      · rw [upd_ne hb] at q; exact r.fg _ _ q
    · rcases at_ j z e' with ⟨q, ez⟩ | ⟨_, ez⟩
      · rw [(nf z ez).1] at mj; cases mj
      · exact r.fz j z ez mj
    · rcases at_ j z e' with ⟨q, ez⟩ | ⟨hne, ez⟩
      · rw [(nf z ez).2] at mj; cases mj
      · obtain ⟨b, e1, f1, g1, c1⟩ := r.ow j z ez mj
        have ne : b ≠ a := fun q => no j z e' mj (by rw [e1, q])
        exact ⟨b, e1, by rw [upd_ne ne]; exact f1, g1, c1⟩
    · rcases at_ j z e' with ⟨q, ez⟩ | ⟨_, ez⟩
      · rw [← q, ez]; exact ⟨a, ea, xs, upd_same, l⟩
      · obtain ⟨b, e1, c1⟩ := r.lk j z ez mj
        exact ⟨b, e1, c1.mono (Same.refl _) fun u q => sm _ _ q⟩
    · rcases at_ j z e1 with ⟨q, ez⟩ | ⟨_, ez⟩
      · rw [(nf z ez).2] at m1; cases m1
      · rcases at_ k w e2 with ⟨q, ew⟩ | ⟨_, ew⟩
        · rw [(nf w ew).2] at m2; cases m2
        · exact r.inj j k z w b ez ew m1 m2 q1 q2
theorem lockO_kind {o : Opd} {ds : List D} {w : Option Nat} {s s' : LS} (e : lockO s o = some (ds, w, s')) : getO s o = some (.list ds) ∨ (getO s o = some (.tuple ds) ∧ w = none ∧ s' = s) := by
  cases o with
  | val d => cases d <;> simp only [lockO] at e <;> first | (cases e; exact .inl rfl) | (cases e; exact .inr ⟨rfl, rfl, rfl⟩) | cases e
  | loc i =>
    simp only [lockO, Option.bind_eq_some_iff] at e
    obtain ⟨⟨m, d⟩, hx, e⟩ := e
    cases d with
    | tuple xs => cases e; exact .inr ⟨by simp [getO, hx], rfl, rfl⟩
    | list xs => cases m <;> cases e <;> exact .inl (by simp [getO, hx])
    | _ => cases e
theorem lock_tup {v : V} {o : Opd} {ds : List D} (r : Rep K F G s σ H) (q : OR K G σ v o) (e : getO s o = some (.tuple ds)) : ∃ a xs, v = .ref a ∧ G a = some (.tup xs) ∧ DenL K G xs ds := by
  have rd := OR.read r q e
  cases rd with
  | den h =>
    cases h with
    | tup h l => exact ⟨_, _, rfl, h, l⟩
  | cell e n c => exact c.elim
theorem lock_ok {v : V} {o : Opd} {ds : List D} {w : Option Nat} {s' : LS} (r : Rep K F G s σ H) (q : OR K G σ v o) (e : lockO s o = some (ds, w, s')) (hk : getO s o = some (.list ds)) :
    ∃ F', LockF K F G H s σ F' s' w ∧ ∃ a xs, v = .ref a ∧ (∀ H2, Same G H2 → Same F' H2 → SqL K H2 a xs) ∧ DenL K G xs ds := by
  cases o with
  | val d =>
    have q : Den K G v d := q
    cases hk
    cases e
    cases q with
    | lst h l => exact ⟨F, .no, _, _, rfl, fun H2 g _ => g.seq h, l⟩
  | loc i =>
    have q : σ[i]? = some (some v) := q
    simp only [lockO, Option.bind_eq_some_iff] at e
    obtain ⟨⟨m, d⟩, hx, e⟩ := e
    simp only [getO, hx, Option.map_some, Option.some.injEq] at hk
    subst hk
    cases m with
    | ow =>
      cases e
      obtain ⟨a, e', f, g, ys, h, l⟩ := r.ow i _ hx rfl
      rw [q] at e'
      cases e'
      exact ⟨_, .lock hx (.inl ⟨rfl, rfl⟩) q f g h l, a, ys, rfl, fun H2 _ hf => .inl (.inl (hf _ _ upd_same)), l⟩
    | io =>
      cases e
      obtain ⟨a, e', f, g, ys, h, l⟩ := r.ow i _ hx rfl
      rw [q] at e'
      cases e'
      exact ⟨_, .lock hx (.inr ⟨rfl, rfl⟩) q f g h l, a, ys, rfl, fun H2 _ hf => .inl (.inl (hf _ _ upd_same)), l⟩
    | fz =>
      cases e
      obtain ⟨v', e', d⟩ := r.fz i _ hx rfl
      rw [q] at e'
      cases e'
      cases d with
      | lst h l => exact ⟨F, .no, _, _, rfl, fun H2 g _ => g.seq h, l⟩
    | fi =>
      cases e
      obtain ⟨v', e', d⟩ := r.fz i _ hx rfl
      rw [q] at e'
      cases e'
      cases d with
      | lst h l => exact ⟨F, .no, _, _, rfl, fun H2 g _ => g.seq h, l⟩
    | lk =>
      cases e
      obtain ⟨a, e', ys, h, l⟩ := r.lk i _ hx rfl
      rw [q] at e'
      cases e'
      exact ⟨F, .no, _, _, rfl, fun H2 _ hf => .inl (.inl (hf _ _ h)), l⟩
    | li =>
      cases e
      obtain ⟨a, e', ys, h, l⟩ := r.lk i _ hx rfl
      rw [q] at e'
      cases e'
      exact ⟨F, .no, _, _, rfl, fun H2 _ hf => .inl (.inl (hf _ _ h)), l⟩
/-- unlocked again -/
theorem LockF.back {F' Gn Hn : Hp} {s' sn : LS} {σn : St} {o : Option Nat} (l : LockF K F G H s σ F' s' o) (r0 : Rep K F G s σ H) (k : Keep s' sn) (pin : ∀ j x, slot s' j = some x → x.m.isLock = true → σn[j]? = σ[j]?)
    (sm : Same G Gn) (r : Rep K F' Gn sn σn Hn) : Rep K F Gn (unlock sn o) σn Hn := by
  cases l with
  | no => exact r
  | lock e hm ea f g h l =>
    rename_i i m m' ds xs a
    have hl := slot_lt e
    have lk' : m'.isLock = true := by rcases hm with ⟨_, z⟩ | ⟨_, z⟩ <;> rw [z] <;> rfl
    have ow : m.isOw = true := by rcases hm with ⟨z, _⟩ | ⟨z, _⟩ <;> rw [z] <;> rfl
    have s1i : slot (putS s i ⟨m', .list ds⟩) i = some ⟨m', .list ds⟩ := by rw [slot_put e, if_pos rfl]
    have sni : slot sn i = some ⟨m', .list ds⟩ := (k.lk i _ lk').mp s1i
    have u : unlock sn (some i) = putS sn i ⟨m, .list ds⟩ := by
      simp only [unlock, sni]
      rcases hm with ⟨z1, z2⟩ | ⟨z1, z2⟩ <;> subst z1 z2 <;> rfl
    rw [u]
    have σi : σn[i]? = some (some (.ref a)) := by rw [pin i _ s1i lk']; exact ea
    have sub : Same F (upd F a (.lst xs)) := same_upd f
    have at_ : ∀ j z, slot (putS sn i ⟨m, .list ds⟩) j = some z → (i = j ∧ z = ⟨m, .list ds⟩) ∨ (i ≠ j ∧ slot sn j = some z) := fun j z e' => by
      rw [slot_put sni] at e'
      split at e'
      · rename_i q; exact .inl ⟨q, (Option.some.inj e').symm⟩
      · rename_i q; exact .inr ⟨q, e'⟩
    have nm : m.isFz = false ∧ m.isLk = false := by rcases hm with ⟨z, _⟩ | ⟨z, _⟩ <;> rw [z] <;> exact ⟨rfl, rfl⟩
    have own_a : ∀ j z, slot sn j = some z → z.m.isOw = true → σn[j]? ≠ some (some (.ref a)) := fun j z ez mz q => by
      obtain ⟨b, e1, f1, _⟩ := r.ow j z ez mz
      rw [q] at e1
      cases e1
      rw [upd_same] at f1
      cases f1
    refine ⟨sub.trans r.fh, r.gh, fun b u q => r.fg _ _ (sub _ _ q), by unfold putS; rw [List.length_set]; exact r.len, fun j z e' mj => ?_, fun j z e' mj => ?_, fun j z e' mj => ?_, fun j k z w b e1 e2 m1 m2 q1 q2 => ?_, r.tb⟩
    · rcases at_ j z e' with ⟨q, ez⟩ | ⟨_, ez⟩
      · rw [ez] at mj; rw [show m.isFz = true from mj] at nm; cases nm.1
      · exact r.fz j z ez mj
    · rcases at_ j z e' with ⟨q, ez⟩ | ⟨hne, ez⟩
      · rw [← q, ez]
        exact ⟨a, σi, f, r.fg a _ upd_same, xs, r.fh _ _ upd_same, l.mono sm⟩
      · obtain ⟨b, e1, f1, g1, c1⟩ := r.ow j z ez mj
        exact ⟨b, e1, sub.free f1, g1, c1⟩
    · rcases at_ j z e' with ⟨q, ez⟩ | ⟨hne, ez⟩
      · rw [ez] at mj; rw [show m.isLk = true from mj] at nm; cases nm.2
      · have lkz : z.m.isLock = true := by cases hz : z.m <;> rw [hz] at mj <;> first | rfl | cases mj
        have ez' := (k.lk j z lkz).mpr ez
        have es : slot s j = some z := by
          rw [slot_put e, if_neg hne] at ez'
          exact ez'
        obtain ⟨b, e1, c1⟩ := r0.lk j z es mj
        exact ⟨b, by rw [pin j z ez' lkz]; exact e1, c1.mono sm fun _ q => q⟩
    · rcases at_ j z e1 with ⟨q, ez⟩ | ⟨_, ez⟩
      · rcases at_ k w e2 with ⟨q', ew⟩ | ⟨_, ew⟩
        · rw [← q, ← q']
        · rw [← q, σi] at q1
          cases q1
          exact absurd q2 (own_a k w ew m2)
      · rcases at_ k w e2 with ⟨q', ew⟩ | ⟨_, ew⟩
        · rw [← q', σi] at q2
          cases q2
          exact absurd q1 (own_a j z ez m1)
        · exact r.inj j k z w b ez ew m1 m2 q1 q2
end
section
variable {X : Cx} {cf : CF} {tg : Expr}
theorem walkD_list {K : PySem.W.Frag} {G F : Hp} {a : Addr} {xs : List V} {ds : List D} (h : ∀ H2, Same G H2 → Same F H2 → SqL K H2 a xs) (l : DenL K G xs ds) : WalkD K (Itl K a) ds G F := by
  unfold WalkD
  rw [← l.length]
  refine walk_list.mono (fun H q => h H q.1 q.2) fun i H x H' hi _ y => ?_
  obtain ⟨e, hx⟩ := y
  obtain ⟨d, h1, h2⟩ := l.getV hx
  exact ⟨d, h1, .inl ⟨e, h2⟩⟩
theorem walkD_tup {K : PySem.W.Frag} {G F : Hp} {a : Addr} {xs : List V} {ds : List D} (h : G a = some (.tup xs)) (l : DenL K G xs ds) : WalkD K (Itt K a) ds G F := by
  unfold WalkD
  rw [← l.length]
  refine walk_tup.mono (fun H q => .inl (.inl (q.1 _ _ h))) fun i H x H' hi _ y => ?_
  obtain ⟨e, hx⟩ := y
  obtain ⟨d, h1, h2⟩ := l.getV hx
  exact ⟨d, h1, .inl ⟨e, h2⟩⟩
theorem snd_ie {a : CE} {l : Expr} (ha : PE X l (TDO X.K fun s => opA a (evE cf a s) s)) : PI X tg l (TDI X.K (evI cf (.e a))) := by
  refine ((pi_list ha).or (pi_tup ha)).imp fun σ H R ⟨F, G, s, ds, o, s', rep, e, q⟩ => ?_
  simp only [evI, Option.bind_eq_some_iff] at e
  obtain ⟨y, e1, e2⟩ := e
  rcases lockO_kind e2 with hk | ⟨hk, rfl, rfl⟩
  · refine .inl ⟨F, G, s, y.1, y.2, rep, e1, fun v H1 G1 sm1 r1 o1 => ?_⟩
    obtain ⟨F', lf, p, xs, e, h, l⟩ := lock_ok r1 o1 e2 hk
    have r2 := lf.rep r1
    exact ⟨p, e, ⟨xs, h H1 r2.gh r2.fh⟩, q _ H1 G1 F' y.2 sm1 r1 lf r2 (walkD_list h l)⟩
  · refine .inr ⟨F, G, s, y.1, y.2, rep, e1, fun v H1 G1 sm1 r1 o1 => ?_⟩
    obtain ⟨p, xs, e, h, l⟩ := lock_tup r1 o1 hk
    exact ⟨p, e, ⟨xs, .inl (.inl (r1.gh _ _ h))⟩, q _ H1 G1 F y.2 sm1 r1 .no r1 (walkD_tup h l)⟩
theorem rgD_length (a b : Int) : (rgD a b).length = (b - a).toNat := by unfold rgD; rw [List.length_map, List.length_range]
theorem rgD_get (a b : Int) (i : Nat) (h : i < (b - a).toNat) : (rgD a b)[i]? = some (.int (a + i)) := by
  unfold rgD
  rw [List.getElem?_map, List.getElem?_range h]
  rfl
theorem walkD_range {K : PySem.W.Frag} {G F : Hp} (a b : Int) : WalkD K (Itr a (b - a).toNat) (rgD a b) G F := by
  unfold WalkD
  rw [rgD_length]
  refine walk_range.mono (fun H q => trivial) fun i H x H' hi _ y => ?_
  obtain ⟨e, hx⟩ := y
  exact ⟨_, rgD_get a b i hi, .inl ⟨e, by rw [hx]; exact .int _⟩⟩
theorem snd_rg1 {a : CE} {l : Expr} {p pos : Pos} (hg : Gl X "range") (hm : X.mg "range" = none) (ha : PE X l (TDE X.K (evE cf a))) (hs : nst l = true) : PI X tg (.Call (.Name "range" p) [l] [] pos) (TDI X.K (evI cf (.rg1 a))) := by
  refine (pi_range1 hg hm (pa_cons (pf ha) pa_nil (nst_star hs _ _)) (nst_star hs _ _)).imp fun σ H R ⟨F, G, s, ds, o, s', rep, e, q⟩ => ?_
  simp only [evI, Option.bind_eq_some_iff] at e
  obtain ⟨y, e1, j, e2, e3⟩ := e
  split at e3
  · rename_i hz
    have hz := rgOk_inv hz
    cases e3
    refine ⟨F, G, s, y.1, y.2, rep, e1, fun v H1 G1 sm1 r1 d1 => ?_⟩
    rw [int?_inv e2] at d1
    refine ⟨j, by rw [d1.isInt], hz.2.2.1, hz.2.2.2, ?_⟩
    have := q (Itr 0 (j - 0).toNat) H1 G1 F y.2 sm1 r1 .no r1 (walkD_range 0 j)
    rw [Int.sub_zero] at this
    exact this
  · cases e3
theorem snd_rg2 {a b : CE} {l r : Expr} {p pos : Pos} (hg : Gl X "range") (hm : X.mg "range" = none) (ha : PE X l (TDE X.K (evE cf a))) (hb : PE X r (TDE X.K (evE cf b))) (hs : nst l = true) (hs' : nst r = true) : PI X tg (.Call (.Name "range" p) [l, r] [] pos) (TDI X.K (evI cf (.rg2 a b))) := by
  refine (pi_range2 hg hm (pa_cons (pf ha) (pa_cons (pf hb) pa_nil (nst_star hs' _ _)) (nst_star hs _ _)) (by rw [nst_star hs, nst_star hs']; rfl) (nst_star hs' _ _)).imp fun σ H R ⟨F, G, s, ds, o, s', rep, e, q⟩ => ?_
  simp only [evI, Option.bind_eq_some_iff] at e
  obtain ⟨y, e1, z, e2, i, e3, j, e4, e5⟩ := e
  split at e5
  · rename_i hz
    have hz := rgOk_inv hz
    cases e5
    refine ⟨F, G, s, y.1, y.2, rep, e1, fun v H1 G1 sm1 r1 d1 => ⟨F, G1, y.2, z.1, z.2, r1, e2, fun w H2 G2 sm2 r2 d2 => ?_⟩⟩
    rw [int?_inv e3] at d1
    rw [int?_inv e4] at d2
    exact ⟨i, j, by rw [d1.isInt, d2.isInt], hz, q (Itr i (j - i).toNat) H2 G2 F z.2 (sm1.trans sm2) r2 .no r2 (walkD_range i j)⟩
  · cases e5
/-! ### pairs -/
theorem zipD_length : ∀ (xs ys : List D), (zipD xs ys).length = min xs.length ys.length
  | [], ys => by simp [zipD]
  | x :: xs, [] => by simp [zipD]
  | x :: xs, y :: ys => by
    simp only [zipD, List.length_cons, zipD_length xs ys]
    omega
theorem zipD_get : ∀ {xs ys : List D} {i : Nat} {x y : D}, xs[i]? = some x → ys[i]? = some y → (zipD xs ys)[i]? = some (.tuple [x, y])
  | [], _, i, x, y, h, _ => by simp at h
  | _ :: _, [], i, x, y, _, h => by simp at h
  | a :: xs, b :: ys, 0, x, y, h1, h2 => by
    simp at h1 h2
    subst h1 h2
    rfl
  | a :: xs, b :: ys, i + 1, x, y, h1, h2 => by
    simp only [zipD, List.getElem?_cons_succ] at h1 h2 ⊢
    exact zipD_get h1 h2
theorem enumFrom_length : ∀ (n : Nat) (xs : List D), (enumFrom n xs).length = xs.length
  | _, [] => rfl
  | n, x :: xs => by simp only [enumFrom, List.length_cons, enumFrom_length]
theorem enumFrom_get : ∀ {n : Nat} {xs : List D} {i : Nat} {x : D}, xs[i]? = some x → (enumFrom n xs)[i]? = some (.tuple [.int ((n + i : Nat) : Int), x])
  | _, [], i, x, h => by simp at h
  | n, a :: xs, 0, x, h => by
    simp at h
    subst h
    rfl
  | n, a :: xs, i + 1, x, h => by
    simp only [enumFrom, List.getElem?_cons_succ] at h ⊢
    rw [enumFrom_get h]
    congr 4
    omega
theorem walkD_zip {K : PySem.W.Frag} {G F : Hp} {a b : Addr} {xs ys : List V} {ds es : List D} (h1 : SqL K G a xs) (l1 : DenL K G xs ds) (h2 : SqL K G b ys) (l2 : DenL K G ys es) : WalkD K (Itz K a b) (zipD ds es) G F := by
  unfold WalkD
  rw [zipD_length, ← l1.length, ← l2.length]
  refine (walk_zip (xs := xs) (ys := ys) rfl).mono (fun H q => ⟨q.1.seq h1, q.1.seq h2⟩) fun i H x H' hi _ y => ?_
  obtain ⟨T, u, w, e1, e2, e3, e4, e5⟩ := y
  obtain ⟨d, g1, g2⟩ := l1.getV e4
  obtain ⟨d', g3, g4⟩ := l2.getV e5
  exact ⟨_, zipD_get g1 g3, .inr ⟨T, [u, w], [d, d'], e1, e2, e3, rfl, .cons g2 (.cons g4 .nil)⟩⟩
theorem walkD_zipT {K : PySem.W.Frag} {G F : Hp} {a b : Addr} {xs ys : List V} {ds es : List D} (h1 : G a = some (.tup xs)) (l1 : DenL K G xs ds) (h2 : G b = some (.tup ys)) (l2 : DenL K G ys es) : WalkD K (RZ.ItzT K a b) (zipD ds es) G F := by
  unfold WalkD
  rw [zipD_length, ← l1.length, ← l2.length]
  refine ⟨fun i H hi q => ?_, fun H q => ⟨xs, ys, .inl (.inl (q.1 _ _ h1)), .inl (.inl (q.1 _ _ h2)), by omega⟩, fun i H x H' hi q y => ?_⟩
  · have h3 : i < xs.length := by omega
    have h4 : i < ys.length := by omega
    exact ⟨xs, ys, xs[i], ys[i], .inl (.inl (q.1 _ _ h1)), .inl (.inl (q.1 _ _ h2)), by simp [h3], by simp [h4]⟩
  · obtain ⟨T, u, w, e1, e2, e3, e4, e5⟩ := y
    obtain ⟨d, g1, g2⟩ := l1.getV (e4 xs (.inl (.inl (q.1 _ _ h1))))
    obtain ⟨d', g3, g4⟩ := l2.getV (e5 ys (.inl (.inl (q.1 _ _ h2))))
    exact ⟨_, zipD_get g1 g3, .inr ⟨T, [u, w], [d, d'], e1, e2, e3, rfl, .cons g2 (.cons g4 .nil)⟩⟩
theorem snd_zip {a b : CE} {l r : Expr} {p pos tpos : Pos} {elts : List Expr} {kk : Nat} (hg : Gl X "zip") (hm : X.mg "zip" = none) (ha : PE X l (TDE X.K (evE cf a))) (hb : PE X r (TDE X.K (evE cf b))) (hs : nst l = true) (hs' : nst r = true) :
    PI X (.Tuple elts kk tpos) (.Call (.Name "zip" p) [l, r] [] pos) (TDI X.K (evI cf (.zip a b))) := by
  refine (RZ.pi_zipA hg hm (pa_cons (pf ha) (pa_cons (pf hb) pa_nil (nst_star hs' _ _)) (nst_star hs _ _)) (nst_star hs _ _) (by rw [nst_star hs']; rfl)).imp fun σ H R ⟨F, G, s, ds, o, s', rep, e, q⟩ => ?_
  simp only [evI, Option.bind_eq_some_iff] at e
  obtain ⟨y, e1, z, e2, e3⟩ := e
  refine ⟨F, G, s, y.1, y.2, rep, e1, fun v H1 G1 sm1 r1 d1 => ⟨F, G1, y.2, z.1, z.2, r1, e2, fun w H2 G2 sm2 r2 d2 => ?_⟩⟩
  have d1 := d1.mono sm2
  split at e3
  · rename_i xs ys k1 k2
    cases e3
    rw [k1] at d1
    rw [k2] at d2
    cases d1 with
    | lst h1 l1 =>
      cases d2 with
      | lst h2 l2 => exact ⟨_, _, _, _, rfl, .inl ⟨r2.gh.seq h1, r2.gh.seq h2, q _ H2 G2 F z.2 (sm1.trans sm2) r2 .no r2 (walkD_zip h1 l1 h2 l2)⟩⟩
  · rename_i xs ys k1 k2
    cases e3
    rw [k1] at d1
    rw [k2] at d2
    cases d1 with
    | tup h1 l1 =>
      cases d2 with
      | tup h2 l2 => exact ⟨_, _, _, _, rfl, .inr ⟨.inl (.inl (r2.gh _ _ h1)), .inl (.inl (r2.gh _ _ h2)), q _ H2 G2 F z.2 (sm1.trans sm2) r2 .no r2 (walkD_zipT h1 l1 h2 l2)⟩⟩
  · cases e3
theorem zip3D_length : ∀ (xs ys zs : List D), (zip3D xs ys zs).length = min (min xs.length ys.length) zs.length
  | [], ys, zs => by simp [zip3D]
  | x :: xs, [], zs => by simp [zip3D]
  | x :: xs, y :: ys, [] => by simp [zip3D]
  | x :: xs, y :: ys, z :: zs => by
    simp only [zip3D, List.length_cons, zip3D_length xs ys zs]
    omega
theorem zip3D_get : ∀ {xs ys zs : List D} {i : Nat} {x y z : D}, xs[i]? = some x → ys[i]? = some y → zs[i]? = some z → (zip3D xs ys zs)[i]? = some (.tuple [x, y, z])
  | [], _, _, _, _, _, _, h, _, _ => by simp at h
  | _ :: _, [], _, _, _, _, _, _, h, _ => by simp at h
  | _ :: _, _ :: _, [], _, _, _, _, _, _, h => by simp at h
  | a :: xs, b :: ys, c :: zs, 0, x, y, z, h1, h2, h3 => by
    simp only [List.getElem?_cons_zero, Option.some.injEq] at h1 h2 h3
    subst h1 h2 h3
    rfl
  | a :: xs, b :: ys, c :: zs, i + 1, x, y, z, h1, h2, h3 => by
    simp only [zip3D, List.getElem?_cons_succ] at h1 h2 h3 ⊢
    exact zip3D_get h1 h2 h3
theorem walkD_zipT3 {K : PySem.W.Frag} {G F : Hp} {a b c : Addr} {xs ys zs : List V} {ds es fs : List D} (h1 : G a = some (.tup xs)) (l1 : DenL K G xs ds) (h2 : G b = some (.tup ys)) (l2 : DenL K G ys es) (h3 : G c = some (.tup zs)) (l3 : DenL K G zs fs) : WalkD K (RZ.ItzT3 K a b c) (zip3D ds es fs) G F := by
  unfold WalkD
  rw [zip3D_length, ← l1.length, ← l2.length, ← l3.length]
  refine ⟨fun i H hi q => ?_, fun H q => ⟨xs, ys, zs, .inl (.inl (q.1 _ _ h1)), .inl (.inl (q.1 _ _ h2)), .inl (.inl (q.1 _ _ h3)), by omega, by omega, by omega, by omega⟩, fun i H x H' hi q y => ?_⟩
  · have k1 : i < xs.length := by omega
    have k2 : i < ys.length := by omega
    have k3 : i < zs.length := by omega
    exact ⟨xs, ys, zs, xs[i], ys[i], zs[i], .inl (.inl (q.1 _ _ h1)), .inl (.inl (q.1 _ _ h2)), .inl (.inl (q.1 _ _ h3)), by simp [k1], by simp [k2], by simp [k3]⟩
  · obtain ⟨T, u, w, v, e1, e2, e3, e4, e5, e6⟩ := y
    obtain ⟨d, g1, g2⟩ := l1.getV (e4 xs (.inl (.inl (q.1 _ _ h1))))
    obtain ⟨d', g3, g4⟩ := l2.getV (e5 ys (.inl (.inl (q.1 _ _ h2))))
    obtain ⟨d'', g5, g6⟩ := l3.getV (e6 zs (.inl (.inl (q.1 _ _ h3))))
    exact ⟨_, zip3D_get g1 g3 g5, .inr ⟨T, [u, w, v], [d, d', d''], e1, e2, e3, rfl, .cons g2 (.cons g4 (.cons g6 .nil))⟩⟩
theorem snd_zip3 {a b c : CE} {l r m : Expr} {p pos tpos : Pos} {elts : List Expr} {kk : Nat} (hg : Gl X "zip") (hm : X.mg "zip" = none) (ha : PE X l (TDE X.K (evE cf a))) (hb : PE X r (TDE X.K (evE cf b))) (hc : PE X m (TDE X.K (evE cf c))) (hs : nst l = true) (hs' : nst r = true) (hs'' : nst m = true) :
    PI X (.Tuple elts kk tpos) (.Call (.Name "zip" p) [l, r, m] [] pos) (TDI X.K (evI cf (.zip3 a b c))) := by
  refine (RZ.pi_zipA3 hg hm (pa_cons (pf ha) (pa_cons (pf hb) (pa_cons (pf hc) pa_nil (nst_star hs'' _ _)) (nst_star hs' _ _)) (nst_star hs _ _)) (nst_star hs _ _) (by rw [nst_star hs', nst_star hs'']; rfl)).imp fun σ H R ⟨F, G, s, ds, o, s', rep, e, q⟩ => ?_
  simp only [evI, Option.bind_eq_some_iff] at e
  obtain ⟨y, e1, z, e2, w, e3, e4⟩ := e
  refine ⟨F, G, s, y.1, y.2, rep, e1, fun v H1 G1 sm1 r1 d1 => ⟨F, G1, y.2, z.1, z.2, r1, e2, fun v2 H2 G2 sm2 r2 d2 => ⟨F, G2, z.2, w.1, w.2, r2, e3, fun v3 H3 G3 sm3 r3 d3 => ?_⟩⟩⟩
  have d1 := (d1.mono sm2).mono sm3
  have d2 := d2.mono sm3
  split at e4
  · rename_i xs ys zs k1 k2 k3
    cases e4
    rw [k1] at d1
    rw [k2] at d2
    rw [k3] at d3
    cases d1 with
    | tup h1 l1 =>
      cases d2 with
      | tup h2 l2 =>
        cases d3 with
        | tup h3 l3 => exact ⟨_, _, _, _, _, _, rfl, .inl (.inl (r3.gh _ _ h1)), .inl (.inl (r3.gh _ _ h2)), .inl (.inl (r3.gh _ _ h3)), q _ H3 G3 F w.2 ((sm1.trans sm2).trans sm3) r3 .no r3 (walkD_zipT3 h1 l1 h2 l2 h3 l3)⟩
  · cases e4
end
end LP

end
section
set_option Elab.async false
set_option linter.all false
set_option maxRecDepth 100000
set_option maxHeartbeats 2000000
/-! LP12: enumerate of a tuple. -/
namespace LP
open PySem PySem.Spec L2
open PyProof.Rows hiding St
variable [Zk]
/-- the two objects that enumerate(t) lays -/
def tupIt (l : Addr) : Obj := { cls := .type "tuple_iterator", data := .fields #[.ref l, .int 0 0] }
def enumOn (it : Addr) : Obj := { cls := .type "enumerate", data := .fields #[.none, .bool false, .ref it, rawInt 0, .none, .none] }
theorem enumNewT (l : Addr) (items : Array Value) (n : Nat) (dct : Option Addr) (sl : Array (Option Value)) :
    Meets (Builtin.«enumerate.__new__» ⟨[.type "enumerate", .ref l], []⟩) (fun _ R s => s.heap.get? l = some { cls := .type "tuple", dict := dct, data := .seq items n, slots := sl } ∧
      R (.ok (.ret (.ref (s.heap.push (tupIt l)).objs.size))) { s with heap := (s.heap.push (tupIt l)).push (enumOn s.heap.objs.size) }) :=
  .of_wp fun prog w A R s h => by
    obtain ⟨hp, g, d, tk, os⟩ := s
    obtain ⟨hl, h⟩ := h
    have hsub := sub_enumerate
    have hT : Heap.IsTuple (Shared.heap ⟨hp, g, d, tk, os⟩) l items := ⟨_, hl, rfl, n, rfl⟩
    wp_walk using AutoSeq1.wpAny_loadPart' hl
    refine wpAny_stack_any fun st => wpAny_pure ?_
    split
    · rename_i c _ _ _ _ _
      cases (c == Value.type "enumerate")
      · wp_walk using AutoSeq1.wpAny_loadPart' hl, wpAny_pyIter_tuple hT
        exact ⟨_, rfl, h⟩
      · wp_walk using AutoSeq1.wpAny_loadPart' hl, wpAny_pyIter_tuple hT
        exact ⟨_, rfl, h⟩
    · wp_walk using AutoSeq1.wpAny_loadPart' hl, wpAny_pyIter_tuple hT
      exact ⟨_, rfl, h⟩
theorem call_enumT {prog : Program} {w : World} {A : Around} {E : Value → Shared → Prop} {s : Shared} {l : Addr} {items : Array Value} {Q : Value → Shared → Prop} (hL : s.heap.IsTuple l items)
    (h : ∀ h', IsEnum h' (s.heap.objs.size + 1) s.heap.objs.size 0 .none → h'.IsTupleIter s.heap.objs.size l 0 → (∀ b o, s.heap.get? b = some o → h'.get? b = some o) → Q (.ref (s.heap.objs.size + 1)) { s with heap := h' }) :
    wpAny (model prog w) A (call (.type "enumerate") [.ref l]) Q E s := by
  obtain ⟨⟨c, dct, dt, sl⟩, hl, hc, n, hd⟩ := hL
  have hc : c = .type "tuple" := hc
  have hd : dt = .seq items n := hd
  subst hc hd
  refine callType_new F.called_enumerate (by decide) (F.typeCall_enumerate_1 _) (F.newCall_enumerate_1 _) (fun obj => F.args_object_init_2 obj _) F.entry_enumerate_new (enumNewT l items n dct sl) ⟨hl, ?_⟩
  have hz : (s.heap.push (tupIt l)).objs.size = s.heap.objs.size + 1 := Heap.size_push ..
  show _ ∧ _
  rw [hz]
  have he : IsEnum ((s.heap.push (tupIt l)).push (enumOn s.heap.objs.size)) (s.heap.objs.size + 1) s.heap.objs.size 0 .none := by
    have z := Heap.get?_push_size (s.heap.push (tupIt l)) (o := enumOn s.heap.objs.size) rfl
    rw [hz] at z
    exact z
  exact ⟨⟨_, he, rfl⟩, h _ he ⟨_, Heap.get?_push_of_some _ (Heap.get?_push_size _ rfl), rfl, rfl⟩ fun b o x => Heap.get?_push_of_some _ (Heap.get?_push_of_some _ x)⟩
/-- the pairs of a place and an item of the tuple at a -/
def IteT (K : PySem.W.Frag) (a : Addr) : It :=
  ⟨fun i H => ∃ (xs : List V) (x : V), SqT K H a xs ∧ xs[i]? = some x, fun i H v H' => ∃ T x, v = .ref T ∧ H T = none ∧ H' = upd H T (.tup [.int (i : Nat), x]) ∧ ∀ xs, SqT K H a xs → xs[i]? = some x, fun i H => ∃ xs : List V, SqT K H a xs ∧ xs.length = i⟩
theorem turn_enumT {P : Program} {w : World} {K : PySem.W.Frag} {elts : List Expr} {kk : Nat} {tpos : Pos} (a e it : Addr) (hei : e ≠ it) (hea : a ≠ e) (hia : a ≠ it) :
    Turn P w K (.Tuple elts kk tpos) (IteT K a) [e, it] e (fun i h => (∃ old, IsEnum h e it ((i : Nat) : Int) old) ∧ h.IsTupleIter it a i) where
  mem := by simp
  obj := fun i h st b hb => by
    obtain ⟨⟨old, he⟩, o, ho, hc, hd⟩ := st
    have e' : b = e ∨ b = it := by simpa using hb
    rcases e' with z | z
    · rw [z]; exact ⟨_, he, fun v q => nomatch q⟩
    · rw [z]; exact ⟨o, ho, fun v q => by rw [hd] at q; cases q⟩
  keep := fun i h h' st k => by
    obtain ⟨⟨old, he⟩, hi⟩ := st
    exact ⟨⟨old, k e (by simp) _ he⟩, hi.at fun o q => k it (by simp) o q⟩
  item := by
    intro X hP hw hK hc i pins s σ H E I hf st hg
    subst hP hw hK
    obtain ⟨⟨old, he⟩, hit⟩ := st
    obtain ⟨xs, x, hq, hx⟩ := hg
    obtain ⟨its, rv, p, hz⟩ := I.tuple hq
    obtain ⟨u, hu, ru⟩ := rv.get hx
    have hel : e < s.heap.objs.size := Heap.lt_size he
    have hil : it < s.heap.objs.size := by obtain ⟨_, q, _⟩ := hit; exact Heap.lt_size q
    have hlt : i < its.toArray.size := by
      rw [List.size_toArray]
      exact (List.getElem?_eq_some_iff.mp hu).1
    refine wpAny_pyNext_enum_itemD (Draws.tuple (A := X.A.in1) (I.ok.hd hc) it a hia its.toArray) he ⟨hit, p⟩ hlt hei (by simp [hei, Ne.symm hea]) fun y h' tk hy ho hst hT hsz hk => ?_
    have ey : y = u := by
      have hy : its.toArray[i]? = some y := hy
      rw [List.getElem?_toArray, hu] at hy
      exact (Option.some.inj hy).symm
    subst ey
    refine ⟨_, rfl, wpAny_letOwnedTupleGo_enum (s := { s with heap := h', toks := tk + 1 }) ho fun h'' he' sb => ?_⟩
    have hT2 : h''.get? s.heap.objs.size = some { cls := .type "tuple", data := .seq #[.int i tk, y] } := (sb.2 _ (Nat.ne_of_gt hel)).trans hT
    have new : ObjOk X.prog X.w (upd H s.heap.objs.size (.tup [.int (i : Nat), x])) h'' s.heap.objs.size (.tup [.int (i : Nat), x]) :=
      ⟨by show 2 ≤ sizeLine; decide, [.int i tk, y], .cons ⟨_, rfl⟩ (.cons ru .nil), ⟨_, hT2, rfl, _, rfl⟩⟩
    have I1 : Inv X pins σ (upd H s.heap.objs.size (.tup [.int (i : Nat), x])) { s with heap := h'', toks := tk + 1 } :=
      I.turnedNew (ch := [e, it]) (fun b ob hb q => (sb.2 b (fun z => hb (by simp [z]))).trans (hk b ob (fun z => hb (by simp [z])) (fun z => hb (by simp [z])) q)) hf (Nat.le_refl _) new
    refine ⟨.ref s.heap.objs.size, _, I1, rfl, ⟨_, x, rfl, I.hok.fresh (Nat.le_refl _), rfl, fun ys hy => by rw [I.tuple_inj hy hq]; exact hx⟩, ⟨⟨y, ?_⟩, hst.1.at fun o q => (sb.2 it (Ne.symm hei)).trans q⟩, fun b hb => ?_⟩
    · have e1 : ((i + 1 : Nat) : Int) = (i : Int) + 1 := by omega
      rw [e1]
      exact he'
    · have hb' : b < s.heap.objs.size := by
        have e' : b = e ∨ b = it := by simpa using hb
        rcases e' with z | z
        · rw [z]; exact hel
        · rw [z]; exact hil
      rw [upd_ne (Nat.ne_of_lt hb')]
      exact (hf b hb).1
  done := by
    intro X hP hw hK hc i pins s σ H E I hf st hg
    subst hP hw hK
    obtain ⟨⟨old, he⟩, hit⟩ := st
    obtain ⟨xs, hq, hx⟩ := hg
    obtain ⟨its, rv, p, hz⟩ := I.tuple hq
    obtain ⟨f0, f1, f2, f3, f4, f5⟩ := hf it (by simp)
    have hl := rv.length
    have es : its.toArray.size = i := by rw [List.size_toArray]; omega
    refine wpAny_pyNext_enum_endD (Draws.tuple (A := X.A.in1) (I.ok.hd hc) it a hia its.toArray) he (by rw [es]; exact ⟨hit, p⟩) fun h' eb => ⟨rfl, I.turned (t' := s.toks) (fun b o hb q => eb b o hb q) f0 f1 f3 f4 f5⟩
  self := fun A i s Q E st h => by
    obtain ⟨⟨_, he⟩, _⟩ := st
    exact wpAny_pyIter_enum he h
def iEnumT (K : PySem.W.Frag) (ta : TA) : TI := fun σ H R => ta σ H fun vs H1 => ∃ a xs, vs = [.ref a] ∧ SqT K H1 a xs ∧ R (IteT K a) H1
theorem pi_enumT {X : Cx} {e : Expr} {ta : TA} {p pos tpos : Pos} {elts : List Expr} {kk : Nat} (hg : Gl X "enumerate") (hm : X.mg "enumerate" = none) (ha : PA X [e] ta) (hs : starEach [e] X.env = [(false, eval e X.env)]) :
    PI X (.Tuple elts kk tpos) (.Call (.Name "enumerate" p) [e] [] pos) (iEnumT X.K ta) := by
  refine ⟨fun pins s σ H R I h => ?_⟩
  refine Call_ (ld_blt I hg hm boot_enumerate (PyProof.Rows.callWith_type1 (thn (ha.run pos pins s σ H _ I h) fun us s1 ⟨vs, H1, I1, r1, q1⟩ => ?_) hs rfl))
  obtain ⟨a, xs, ex, hq, q⟩ := q1
  subst ex
  cases r1 with
  | cons r rr =>
    cases rr
    cases r
    obtain ⟨its, rv, p', hz⟩ := I1.tuple hq
    have hal : a < s1.heap.objs.size := by obtain ⟨_, z, _⟩ := p'; exact Heap.lt_size z
    refine call_enumT (show s1.heap.IsTuple a its.toArray from p') fun h' he hit hk => wpAny_pyIter_enum he ?_
    have I2 : Inv X pins σ H1 { s1 with heap := h' } := I1.kept (t' := s1.toks) hk
    refine ⟨s1.heap.objs.size + 1, [s1.heap.objs.size + 1, s1.heap.objs.size], _, _, H1, rfl, I2, turn_enumT a (s1.heap.objs.size + 1) s1.heap.objs.size (Nat.succ_ne_self _) (Nat.ne_of_lt (Nat.lt_succ_of_lt hal)) (Nat.ne_of_lt hal), ⟨⟨.none, he⟩, hit⟩, fun b hb => ?_, q⟩
    have e' : b = s1.heap.objs.size + 1 ∨ b = s1.heap.objs.size := by simpa using hb
    have hle : s1.heap.objs.size ≤ b := by
      rcases e' with z | z
      · rw [z]; exact Nat.le_add_right _ _
      · rw [z]; exact Nat.le_refl _
    exact I1.fpOk hle (I1.hok.fresh hle)
section
variable {X : Cx} {cf : CF}
theorem walkD_enum {K : PySem.W.Frag} {G F : Hp} {a : Addr} {xs : List V} {ds : List D} (h : ∀ H2, Same G H2 → Same F H2 → SqL K H2 a xs) (l : DenL K G xs ds) : WalkD K (Ite K a) (enumFrom 0 ds) G F := by
  unfold WalkD
  rw [enumFrom_length, ← l.length]
  refine walk_enum.mono (fun H q => h H q.1 q.2) fun i H x H' hi _ y => ?_
  obtain ⟨T, u, w, e1, e2, e3, e4, e5⟩ := y
  cases e4
  obtain ⟨d, g1, g2⟩ := l.getV e5
  have g := enumFrom_get (n := 0) g1
  rw [Nat.zero_add] at g
  exact ⟨_, g, .inr ⟨T, _, [.int (i : Int), d], e1, e2, e3, rfl, .cons (.int _) (.cons g2 .nil)⟩⟩
theorem walkD_enumT {K : PySem.W.Frag} {G F : Hp} {a : Addr} {xs : List V} {ds : List D} (h : G a = some (.tup xs)) (l : DenL K G xs ds) : WalkD K (IteT K a) (enumFrom 0 ds) G F := by
  unfold WalkD
  rw [enumFrom_length, ← l.length]
  refine ⟨fun i H hi q => ⟨xs, xs[i], .inl (.inl (q.1 _ _ h)), by simp [hi]⟩, fun H q => ⟨xs, .inl (.inl (q.1 _ _ h)), rfl⟩, fun i H x H' hi q y => ?_⟩
  obtain ⟨T, u, e1, e2, e3, e4⟩ := y
  obtain ⟨d, g1, g2⟩ := l.getV (e4 xs (.inl (.inl (q.1 _ _ h))))
  have g := enumFrom_get (n := 0) g1
  rw [Nat.zero_add] at g
  exact ⟨_, g, .inr ⟨T, _, [.int (i : Int), d], e1, e2, e3, rfl, .cons (.int _) (.cons g2 .nil)⟩⟩
theorem snd_enu {a : CE} {l : Expr} {p pos tpos : Pos} {elts : List Expr} {kk : Nat} (hg : Gl X "enumerate") (hm : X.mg "enumerate" = none) (ha : PE X l (TDO X.K fun s => opA a (evE cf a s) s)) (hs : nst l = true) :
    PI X (.Tuple elts kk tpos) (.Call (.Name "enumerate" p) [l] [] pos) (TDI X.K (evI cf (.enu a))) := by
  refine ((pi_enum hg hm (pa_cons ha pa_nil (nst_star hs _ _)) (nst_star hs _ _)).or (pi_enumT hg hm (pa_cons ha pa_nil (nst_star hs _ _)) (nst_star hs _ _))).imp fun σ H R ⟨F, G, s, ds, o, s', rep, e, q⟩ => ?_
  simp only [evI, Option.bind_eq_some_iff, Option.map_eq_some_iff] at e
  obtain ⟨y, e1, ⟨wx, wo, ws⟩, e2, e3⟩ := e
  cases e3
  rcases lockO_kind e2 with hk | ⟨hk, rfl, rfl⟩
  · refine .inl ⟨F, G, s, y.1, y.2, rep, e1, fun v H1 G1 sm1 r1 o1 => ?_⟩
    obtain ⟨F', lf, p, xs, rfl, h, l⟩ := lock_ok r1 o1 e2 hk
    have r2 := lf.rep r1
    exact ⟨p, xs, rfl, h H1 r2.gh r2.fh, q _ H1 G1 F' y.2 sm1 r1 lf r2 (walkD_enum h l)⟩
  · refine .inr ⟨F, G, s, y.1, y.2, rep, e1, fun v H1 G1 sm1 r1 o1 => ?_⟩
    obtain ⟨p, xs, rfl, h, l⟩ := lock_tup r1 o1 hk
    exact ⟨p, xs, rfl, .inl (.inl (r1.gh _ _ h)), q _ H1 G1 F y.2 sm1 r1 .no r1 (walkD_enumT h l)⟩
end
end LP

end
section
set_option Elab.async false
set_option linter.all false
set_option maxRecDepth 100000
set_option maxHeartbeats 2000000
/-! LP13: calls of the text's own defs. -/
namespace LP
open PySem PySem.Spec L2
open PyProof.Rows hiding St
variable [Zk]
/-- a def keeps a promise (as the layer's FnOk, where no repr is running) -/
structure FnG (P : Program) (w : World) (K : PySem.W.Frag) (mg : Str → Option Value) (base : Heap) (k : Nat) (f : Addr) (fd : FuncData) (ps : List Str) (sp : Sp) : Prop where
  len : ∀ vs H Q E, sp vs H Q E → vs.length = ps.length
  run : ∀ (A : Around) (outer : List Env) (s : Shared) (H : Hp) (args : Args) (us : List Value) (vs : List V) (Q : VK) (E : XK), Room k A → A.guards = some [] → Env0 P w K mg base A outer s H → BindsTo s fd args (ps.zip us) → Vals vs us → sp vs H Q E →
    codeAny (model P w) A (.call (.ref f) args) (CR (L2.CX P w) outer P w H s Q E) s
theorem FnG.mono {P : Program} {w : World} {K : PySem.W.Frag} {mg : Str → Option Value} {base : Heap} {j k : Nat} {f : Addr} {fd : FuncData} {ps : List Str} {sp : Sp} (F : FnG P w K mg base j f fd ps sp) (h : j ≤ k) : FnG P w K mg base k f fd ps sp :=
  ⟨F.len, fun A outer s H args us vs Q E hr => F.run A outer s H args us vs Q E (hr.mono h)⟩
section
variable {X : Cx} {k : Nat} {f : Addr} {fd : FuncData} {ps : List Str} {sp : Sp} {x : Str} {p pos : Pos} {e : Expr} {es : List Expr} {t : TA} {E : XK}
theorem run_G {pins : List (Addr × Obj)} {σ : St} {H : Hp} {s : Shared} {Q : VK} {us : List Value} {vs : List V} (F : FnG X.prog X.w X.K X.mg X.base k f fd ps sp) (hr : Room k X.A) (hgu : X.A.guards = some []) (hb : Binds X.K fd ps [])
    (I : Inv X pins σ H s) (r : Vals vs us) (h : sp vs H Q E) (hx : ∀ e s', L2.CX X.prog X.w X.stack H s E e s' → X.xe e s') : wpAny (model X.prog X.w) X.A (call (.ref f) us) (EP X pins σ Q) X.xe s := by
  have hl : us.length = ps.length := by rw [← r.length]; exact F.len _ _ _ _ h
  have bb := hb s us I.kIn (by rw [List.append_nil]; exact hl)
  rw [List.append_nil] at bb
  refine wpAny_call (codeAny_mono (F.run X.A X.stack s H ⟨us, []⟩ us vs Q E hr hgu I.env0 bb r h) fun rr s' hq => ?_)
  cases rr with
  | error e => exact hx e s' hq
  | ok fl =>
    cases fl with
    | ret u => exact I.after hq
    | next => exact False.elim hq
    | brk => exact False.elim hq
    | cont => exact False.elim hq
theorem pe_callG {W : WX} (tk : Takes X W) (F : FnG X.prog X.w X.K X.mg X.base k f fd ps sp) (hr : Room k X.A) (hgu : X.A.guards = some []) (hg : Gl X x) (hm : X.mg x = some (.ref f)) (hk : PySem.W.keepIn X.K (.ref f) = true) (hb : Binds X.K fd ps [])
    (ha : PA X (e :: es) t) (hdb : (x == ("__debug__" : Str)) = false) (he : starEach (e :: es) X.env = (false, eval e X.env) :: starEach es X.env) (hpl : (backTo pos (starEach es X.env)).any (·.1) = false) :
    PE X (.Call (.Name x p) (e :: es) [] pos) (fun σ H Q => t σ H fun vs H1 => sp vs H1 Q fun cls d H' => W cls d σ H') := by
  refine ⟨fun pins s σ H Q I h => ?_⟩
  refine wpAny_Call_Name_kw (ld_glob I hg hm ?_ hdb)
  refine PySem.W.callWith_K (h₀ := X.base) I.ok.mod.kin hk (thn (ha.run pos pins s σ H _ I h) fun us s1 ⟨vs, H1, I1, r, q⟩ => ⟨I1.kIn, ?_⟩) he hpl
  exact run_G F hr hgu hb I1 r q fun e s' c => tk e s' (XE.of_call I1 (fun _ _ _ h => h) c)
theorem pe_callG0 {W : WX} (tk : Takes X W) (F : FnG X.prog X.w X.K X.mg X.base k f fd ps sp) (hr : Room k X.A) (hgu : X.A.guards = some []) (hg : Gl X x) (hm : X.mg x = some (.ref f)) (hk : PySem.W.keepIn X.K (.ref f) = true) (hb : Binds X.K fd ps [])
    (hdb : (x == ("__debug__" : Str)) = false) : PE X (.Call (.Name x p) [] [] pos) (fun σ H Q => sp [] H Q fun cls d H' => W cls d σ H') := by
  refine ⟨fun pins s σ H Q I h => ?_⟩
  refine wpAny_Call_Name_kw (ld_glob I hg hm ?_ hdb)
  exact PySem.W.callWith_K0 I.kIn hk (run_G (us := []) F hr hgu hb I .nil h fun e s' c => tk e s' (XE.of_call I (fun _ _ _ h => h) c))
end
/-! ### the promise of a def -/
def OutRep (K : PySem.W.Frag) (F G H : Hp) (vs : List V) (as : List SV) (outs : List (Option SV)) : Prop := ∀ (i : Nat) (x y : SV), as[i]? = some x → x.m = .io → outs[i]? = some (some y) →
  (y.m = .io → ∃ a, vs[i]? = some (.ref a) ∧ F a = none ∧ G a = none ∧ Cell K G H a y.d) ∧ (y.m = .fi → ∃ v, vs[i]? = some v ∧ Den K G v y.d)
def ResF (K : PySem.W.Frag) (F G H : Hp) (vs : List V) (as : List SV) (v : V) (x : SV) : Prop := match x.m with
  | .fz => Den K G v x.d
  | .ow => ∃ p, v = .ref p ∧ F p = none ∧ G p = none ∧ Cell K G H p x.d ∧ ∀ (i : Nat) (y : SV), as[i]? = some y → y.m = .io → vs[i]? ≠ some (.ref p)
  | _ => False
def ArgMd (as : List SV) : Prop := ∀ x ∈ as, x.m = .fz ∨ x.m = .io ∨ x.m = .li
/-- an exception in flight: its class, its dict, as data -/
def ExR (K : PySem.W.Frag) (G : Hp) (cls : Value) (dd : Option Addr) (x : D) : Prop := ∃ (k : Nat) (d : D), x = .dict [(.int k, d)] ∧ k ∈ Zk.xs ∧
  ((∃ (m f : Str) (dx : Addr) (v : V), exTab[k]? = some (m, some f) ∧ cls = .ref (He.ga K m) ∧ dd = some dx ∧ G dx = some (.xd [(f, v)]) ∧ Den K G v d) ∨ ∃ m : Str, exTab[k]? = some (m, none) ∧ cls = .ref (He.ga K m) ∧ dd = none ∧ d = .none)
def spF (K : PySem.W.Frag) (cf : CF) (n : Nat) (f : Nat) : Sp := fun vs H Q _ => ∃ F G as r, cf f as = some r ∧ r.1.m.isX = false ∧ as.length = n ∧ ArgMd as ∧ Rep K F G (as.map some) (vs.map some) H ∧
  ∀ v H' G', Same G G' → Same F H' → Same G' H' → (∀ b o, F b = some o → G' b = none) → OutRep K F G' H' vs as r.2 → ResF K F G' H' vs as v r.1 → Zk.z K G' H' → Q v H'
/-- .. that it raises -/
def spR (K : PySem.W.Frag) (cf : CF) (n : Nat) (f : Nat) (vs : List V) (H : Hp) (E : XK) : Prop := ∃ F G as x outs, cf f as = some (⟨.lk, x⟩, outs) ∧ as.length = n ∧ ArgMd as ∧ Rep K F G (as.map some) (vs.map some) H ∧
  ∀ cls dd H' G', Same G G' → Same F H' → Same G' H' → (∀ b o, F b = some o → G' b = none) → Zk.z K G' H' → ExR K G' cls dd x → E cls dd H'
def spX (K : PySem.W.Frag) (cf : CF) (n : Nat) (f : Nat) : Sp := fun vs H Q E => spF K cf n f vs H Q E ∨ spR K cf n f vs H E
/-! ### the caller's side -/
open Classical in
/-- what the caller holds while a callee runs: what others hold, and its own cells but those that are handed on -/
noncomputable def holdF (F H : Hp) (s : LS) (σ : St) (skip : List Nat) : Hp := fun b => if ∃ (i : Nat) (x : SV), slot s i = some x ∧ x.m.isOw = true ∧ i ∉ skip ∧ σ[i]? = some (some (.ref b)) then H b else F b
section
variable {K : PySem.W.Frag} {F G H : Hp} {s : LS} {σ : St} {skip : List Nat}
theorem holdF_pos {b : Addr} (h : ∃ (i : Nat) (x : SV), slot s i = some x ∧ x.m.isOw = true ∧ i ∉ skip ∧ σ[i]? = some (some (.ref b))) : holdF F H s σ skip b = H b := by unfold holdF; rw [if_pos h]
theorem holdF_neg {b : Addr} (h : ¬ ∃ (i : Nat) (x : SV), slot s i = some x ∧ x.m.isOw = true ∧ i ∉ skip ∧ σ[i]? = some (some (.ref b))) : holdF F H s σ skip b = F b := by unfold holdF; rw [if_neg h]
theorem holdF_sub (r : Rep K F G s σ H) : Same F (holdF F H s σ skip) := fun b o e => by
  rw [holdF_neg]
  · exact e
  · rintro ⟨i, x, h1, h2, _, h4⟩
    obtain ⟨a, e', f, _⟩ := r.ow i x h1 h2
    rw [h4] at e'
    cases e'
    rw [e] at f
    cases f
theorem holdF_le (r : Rep K F G s σ H) : Same (holdF F H s σ skip) H := fun b o e => by
  by_cases h : ∃ (i : Nat) (x : SV), slot s i = some x ∧ x.m.isOw = true ∧ i ∉ skip ∧ σ[i]? = some (some (.ref b))
  · rw [holdF_pos h] at e; exact e
  · rw [holdF_neg h] at e; exact r.fh _ _ e
theorem holdF_g (r : Rep K F G s σ H) : ∀ b o, holdF F H s σ skip b = some o → G b = none := fun b o e => by
  by_cases h : ∃ (i : Nat) (x : SV), slot s i = some x ∧ x.m.isOw = true ∧ i ∉ skip ∧ σ[i]? = some (some (.ref b))
  · obtain ⟨i, x, h1, h2, _, h4⟩ := h
    obtain ⟨a, e', _, g, _⟩ := r.ow i x h1 h2
    rw [h4] at e'
    cases e'
    exact g
  · rw [holdF_neg h] at e; exact r.fg _ _ e
theorem holdF_skip (r : Rep K F G s σ H) {i : Nat} {x : SV} {a : Addr} (h1 : slot s i = some x) (h2 : x.m.isOw = true) (hs : i ∈ skip) (h3 : σ[i]? = some (some (.ref a))) (f : F a = none) : holdF F H s σ skip a = none := by
  rw [holdF_neg]
  · exact f
  · rintro ⟨j, y, g1, g2, g3, g4⟩
    have := r.inj i j x y a h1 g1 h2 g2 h3 g4
    rw [this] at hs
    exact g3 hs
/-! ### operands and arguments -/
def ORs (K : PySem.W.Frag) (G : Hp) (σ : St) : List V → List Opd → Prop := Paired (OR K G σ)
theorem mem_byRef : ∀ {os : List Opd} {i j : Nat} {x : SV}, os[j]? = some (.loc i) → slot s i = some x → x.m.isOw = true → i ∈ byRef s os
  | [], i, j, x, h, _, _ => by simp at h
  | o :: os, i, 0, x, h, hx, m => by
    simp at h
    subst h
    obtain ⟨mm, d⟩ := x
    unfold byRef
    simp only [hx]
    cases mm <;> first | exact List.mem_cons_self | cases m
  | o :: os, i, j + 1, x, h, hx, m => by
    have ih := mem_byRef (os := os) (j := j) (by simpa using h) hx m
    cases o with
    | val d => exact ih
    | loc l =>
      unfold byRef
      split
      · exact List.mem_cons_of_mem _ ih
      · exact List.mem_cons_of_mem _ ih
      · exact ih
theorem byRef_own : ∀ {os : List Opd} {i : Nat}, i ∈ byRef s os → ∃ x, slot s i = some x ∧ x.m.isOw = true
  | [], i, h => by cases h
  | .val d :: os, i, h => byRef_own (os := os) h
  | .loc l :: os, i, h => by
    unfold byRef at h
    split at h
    · rename_i d e
      rcases List.mem_cons.mp h with z | z
      · rw [z]; exact ⟨_, e, rfl⟩
      · exact byRef_own z
    · rename_i d e
      rcases List.mem_cons.mp h with z | z
      · rw [z]; exact ⟨_, e, rfl⟩
      · exact byRef_own z
    · exact byRef_own h
theorem byRef_inj : ∀ {os : List Opd} {i j k : Nat} {x : SV}, (byRef s os).Nodup → os[j]? = some (.loc i) → os[k]? = some (.loc i) → slot s i = some x → x.m.isOw = true → j = k
  | [], i, j, k, x, _, h, _, _, _ => by simp at h
  | o :: os, i, 0, 0, x, nd, h1, h2, hx, m => rfl
  | o :: os, i, 0, k + 1, x, nd, h1, h2, hx, m => by
    simp at h1
    subst h1
    have : i ∈ byRef s os := mem_byRef (j := k) (by simpa using h2) hx m
    obtain ⟨mm, d⟩ := x
    unfold byRef at nd
    simp only [hx] at nd
    cases mm <;> first | exact absurd this (List.nodup_cons.mp nd).1 | cases m
  | o :: os, i, j + 1, 0, x, nd, h1, h2, hx, m => by
    simp at h2
    subst h2
    have : i ∈ byRef s os := mem_byRef (j := j) (by simpa using h1) hx m
    obtain ⟨mm, d⟩ := x
    unfold byRef at nd
    simp only [hx] at nd
    cases mm <;> first | exact absurd this (List.nodup_cons.mp nd).1 | cases m
  | o :: os, i, j + 1, k + 1, x, nd, h1, h2, hx, m => by
    have nd' : (byRef s os).Nodup := by
      cases o with
      | val d => exact nd
      | loc l =>
        unfold byRef at nd
        split at nd
        · exact (List.nodup_cons.mp nd).2
        · exact (List.nodup_cons.mp nd).2
        · exact nd
    exact congrArg (· + 1) (byRef_inj (os := os) (j := j) (k := k) nd' (by simpa using h1) (by simpa using h2) hx m)
theorem argVs_get : ∀ {os : List Opd} {as : List SV} {j : Nat} {x : SV}, argVs s os = some as → as[j]? = some x → ∃ o, os[j]? = some o ∧ argV s o = some x
  | [], as, j, x, h, e => by
    cases h
    simp at e
  | o :: os, as, j, x, h, e => by
    simp only [argVs, Option.bind_eq_some_iff, Option.map_eq_some_iff] at h
    obtain ⟨y, h1, ys, h2, rfl⟩ := h
    cases j with
    | zero => simp at e; subst e; exact ⟨o, rfl, h1⟩
    | succ j =>
      obtain ⟨o', g1, g2⟩ := argVs_get h2 (by simpa using e)
      exact ⟨o', by simpa using g1, g2⟩
theorem argVs_len : ∀ {os : List Opd} {as : List SV}, argVs s os = some as → as.length = os.length
  | [], as, h => by cases h; rfl
  | o :: os, as, h => by
    simp only [argVs, Option.bind_eq_some_iff, Option.map_eq_some_iff] at h
    obtain ⟨y, h1, ys, h2, rfl⟩ := h
    rw [List.length_cons, List.length_cons, argVs_len h2]
theorem ORs.get : ∀ {vs : List V} {os : List Opd} {j : Nat} {o : Opd}, ORs K G σ vs os → os[j]? = some o → ∃ v, vs[j]? = some v ∧ OR K G σ v o
  | _, _, _, _, .nil, e => by simp at e
  | _, _, 0, _, .cons h _, e => by simp at e; subst e; exact ⟨_, rfl, h⟩
  | _, _, j + 1, o, .cons _ l, e => by
    obtain ⟨v, h1, h2⟩ := ORs.get (j := j) l (by simpa using e)
    exact ⟨v, by simpa using h1, h2⟩
theorem ORs.length : ∀ {vs : List V} {os : List Opd}, ORs K G σ vs os → vs.length = os.length
  | _, _, .nil => rfl
  | _, _, .cons _ l => by rw [List.length_cons, List.length_cons, ORs.length l]
theorem ORs.mono {G' : Hp} (e : Same G G') : ∀ {vs : List V} {os : List Opd}, ORs K G σ vs os → ORs K G' σ vs os
  | _, _, .nil => .nil
  | _, _, .cons h l => .cons (h.mono e) (ORs.mono e l)
theorem slot_map {as : List SV} {j : Nat} {x : SV} : slot (as.map some) j = some x ↔ as[j]? = some x := by
  unfold slot
  rw [List.getElem?_map]
  cases as[j]? <;> simp
/-- what an argument is -/
theorem argV_inv {o : Opd} {x : SV} (h : argV s o = some x) : (∃ d, o = .val d ∧ x = ⟨.fz, d⟩) ∨ ∃ i y, o = .loc i ∧ slot s i = some y ∧ x.d = y.d ∧ ((y.m.isFz = true ∧ x.m = .fz) ∨ (y.m.isOw = true ∧ x.m = .io) ∨ (y.m.isLk = true ∧ x.m = .li)) := by
  cases o with
  | val d => cases h; exact .inl ⟨d, rfl, rfl⟩
  | loc i =>
    simp only [argV, Option.map_eq_some_iff] at h
    obtain ⟨y, hy, rfl⟩ := h
    refine .inr ⟨i, y, rfl, hy, ?_⟩
    obtain ⟨m, d⟩ := y
    cases m <;> simp [Md.isFz, Md.isOw, Md.isLk]
theorem args_rep {vs : List V} {os : List Opd} {as : List SV} (r : Rep K F G s σ H) (q : ORs K G σ vs os) (e : argVs s os = some as) (nd : (byRef s os).Nodup) :
    Rep K (holdF F H s σ (byRef s os)) G (as.map some) (vs.map some) H ∧ ArgMd as := by
  have at_ : ∀ (j : Nat) (x : SV), as[j]? = some x → ∃ o v, os[j]? = some o ∧ argV s o = some x ∧ vs[j]? = some v ∧ OR K G σ v o := fun j x hx => by
    obtain ⟨o, h1, h2⟩ := argVs_get e hx
    obtain ⟨v, h3, h4⟩ := q.get h1
    exact ⟨o, v, h1, h2, h3, h4⟩
  have vmap : ∀ {j : Nat} {v : V}, vs[j]? = some v → (vs.map some)[j]? = some (some v) := fun h => by rw [List.getElem?_map, h]; rfl
  refine ⟨⟨holdF_le r, r.gh, holdF_g r, ?_, fun j x hx m => ?_, fun j x hx m => ?_, fun j x hx m => ?_, fun j k x y a h1 h2 m1 m2 q1 q2 => ?_, r.tb⟩, fun x hx => ?_⟩
  · rw [List.length_map, List.length_map, q.length, argVs_len e]
  · obtain ⟨o, v, h1, h2, h3, h4⟩ := at_ j x (slot_map.mp hx)
    refine ⟨v, vmap h3, ?_⟩
    rcases argV_inv h2 with ⟨d, rfl, rfl⟩ | ⟨i, y, rfl, hy, ed, hm⟩
    · exact h4
    · rcases hm with ⟨my, _⟩ | ⟨_, mx⟩ | ⟨_, mx⟩
      · obtain ⟨v', e', d⟩ := r.fz i y hy my
        have h4 : σ[i]? = some (some v) := h4
        rw [h4] at e'
        cases e'
        rw [ed]
        exact d
      · rw [mx] at m; cases m
      · rw [mx] at m; cases m
  · obtain ⟨o, v, h1, h2, h3, h4⟩ := at_ j x (slot_map.mp hx)
    rcases argV_inv h2 with ⟨d, rfl, rfl⟩ | ⟨i, y, rfl, hy, ed, hm⟩
    · cases m
    · rcases hm with ⟨_, mx⟩ | ⟨my, _⟩ | ⟨_, mx⟩
      · rw [mx] at m; cases m
      · obtain ⟨a, e', f, g, c⟩ := r.ow i y hy my
        have h4 : σ[i]? = some (some v) := h4
        rw [h4] at e'
        cases e'
        rw [ed]
        exact ⟨a, vmap h3, holdF_skip r hy my (mem_byRef h1 hy my) h4 f, g, c⟩
      · rw [mx] at m; cases m
  · obtain ⟨o, v, h1, h2, h3, h4⟩ := at_ j x (slot_map.mp hx)
    rcases argV_inv h2 with ⟨d, rfl, rfl⟩ | ⟨i, y, rfl, hy, ed, hm⟩
    · cases m
    · rcases hm with ⟨_, mx⟩ | ⟨_, mx⟩ | ⟨my, _⟩
      · rw [mx] at m; cases m
      · rw [mx] at m; cases m
      · obtain ⟨a, e', c⟩ := r.lk i y hy my
        have h4 : σ[i]? = some (some v) := h4
        rw [h4] at e'
        cases e'
        rw [ed]
        exact ⟨a, vmap h3, c.mono (Same.refl _) fun o z => holdF_sub r _ _ z⟩
  · obtain ⟨o, v, g1, g2, g3, g4⟩ := at_ j x (slot_map.mp h1)
    obtain ⟨o', v', k1, k2, k3, k4⟩ := at_ k y (slot_map.mp h2)
    rw [vmap g3] at q1
    cases q1
    rw [vmap k3] at q2
    cases q2
    rcases argV_inv g2 with ⟨d, rfl, rfl⟩ | ⟨i, z, rfl, hz, ed, hm⟩
    · cases m1
    · rcases argV_inv k2 with ⟨d, rfl, rfl⟩ | ⟨i', z', rfl, hz', ed', hm'⟩
      · cases m2
      · have o1 : z.m.isOw = true := by
          rcases hm with ⟨_, mx⟩ | ⟨my, _⟩ | ⟨_, mx⟩
          · rw [mx] at m1; cases m1
          · exact my
          · rw [mx] at m1; cases m1
        have o2 : z'.m.isOw = true := by
          rcases hm' with ⟨_, mx⟩ | ⟨my, _⟩ | ⟨_, mx⟩
          · rw [mx] at m2; cases m2
          · exact my
          · rw [mx] at m2; cases m2
        have ei := r.inj i i' z z' a hz hz' o1 o2 g4 k4
        subst ei
        exact byRef_inj nd g1 k1 hz o1
  · obtain ⟨j, hj⟩ := List.getElem?_of_mem hx
    obtain ⟨o, v, h1, h2, h3, h4⟩ := at_ j x hj
    rcases argV_inv h2 with ⟨d, rfl, rfl⟩ | ⟨i, y, rfl, hy, ed, hm⟩
    · exact .inl rfl
    · rcases hm with ⟨_, mx⟩ | ⟨_, mx⟩ | ⟨_, mx⟩
      · exact .inl mx
      · exact .inr (.inl mx)
      · exact .inr (.inr mx)
def Md.frz : Md → Md
  | .ow => .fz
  | .io => .fi
  | m => m
theorem byRef_put {i : Nat} {x y : SV} (hx : slot s i = some x) : ∀ {os : List Opd}, (∀ j : Nat, os[j]? ≠ some (.loc i)) → byRef (putS s i y) os = byRef s os
  | [], _ => rfl
  | .val d :: os, h => byRef_put hx (os := os) fun j => by have := h (j + 1); simpa using this
  | .loc l :: os, h => by
    have ih := byRef_put (y := y) hx (os := os) fun j => by have := h (j + 1); simpa using this
    have ne : i ≠ l := fun z => h 0 (by simp [z])
    have e : slot (putS s i y) l = slot s l := by rw [slot_put hx, if_neg ne]
    unfold byRef
    rw [e, ih]
/-- what comes back of what was handed on -/
theorem backs_slot : ∀ {os : List Opd} {outs : List (Option SV)} {s s' : LS}, backs s os outs = some s' → (byRef s os).Nodup →
    (∀ i, i ∉ byRef s os → slot s' i = slot s i) ∧ ∀ (j i : Nat) (x : SV), os[j]? = some (.loc i) → slot s i = some x → x.m.isOw = true →
      ∃ y, outs[j]? = some (some y) ∧ ((y.m = .io ∧ slot s' i = some ⟨x.m, y.d⟩) ∨ (y.m = .fi ∧ slot s' i = some ⟨x.m.frz, y.d⟩))
  | [], outs, s, s', h, _ => by
    simp only [backs] at h
    cases h
    exact ⟨fun _ _ => rfl, fun j i x e => by simp at e⟩
  | .val d :: os, [], s, s', h, nd => by cases h
  | .val d :: os, r :: rs, s, s', h, nd => by
    obtain ⟨a, b⟩ := backs_slot (os := os) (outs := rs) (s := s) h nd
    refine ⟨a, fun j i x e hx m => ?_⟩
    cases j with
    | zero => simp at e
    | succ j =>
      obtain ⟨y, h1, h2⟩ := b j i x (by simpa using e) hx m
      exact ⟨y, by simpa using h1, h2⟩
  | .loc l :: os, [], s, s', h, nd => by cases h
  | .loc l :: os, r :: rs, s, s', h, nd => by
    by_cases own : ∃ x, slot s l = some x ∧ x.m.isOw = true
    · obtain ⟨x, hx, mx⟩ := own
      have br : byRef s (.loc l :: os) = l :: byRef s os := by
        obtain ⟨mm, d⟩ := x
        cases mm <;> first | (cases mx; done) | simp only [byRef, hx]
      rw [br] at nd ⊢
      have nd2 := List.nodup_cons.mp nd
      have nol : ∀ j : Nat, os[j]? ≠ some (.loc l) := fun j e => nd2.1 (mem_byRef e hx mx)
      -- one step
      have step : ∃ (y z : SV), r = some y ∧ ((y.m = .io ∧ z = ⟨x.m, y.d⟩) ∨ (y.m = .fi ∧ z = ⟨x.m.frz, y.d⟩)) ∧ backs (putS s l z) os rs = some s' := by
        obtain ⟨mm, d⟩ := x
        unfold backs at h
        rw [hx] at h
        cases r with
        | none => cases mm <;> simp at h <;> cases mx
        | some y =>
          obtain ⟨my, dy⟩ := y
          cases mm <;> first | (cases mx; done) | (cases my <;> simp at h)
          · exact ⟨_, _, rfl, .inl ⟨rfl, rfl⟩, h⟩
          · exact ⟨_, _, rfl, .inr ⟨rfl, rfl⟩, h⟩
          · exact ⟨_, _, rfl, .inl ⟨rfl, rfl⟩, h⟩
          · exact ⟨_, _, rfl, .inr ⟨rfl, rfl⟩, h⟩
      obtain ⟨y, z, er, hz, hb⟩ := step
      have e1 : byRef (putS s l z) os = byRef s os := byRef_put hx nol
      obtain ⟨a, b⟩ := backs_slot (os := os) (outs := rs) hb (by rw [e1]; exact nd2.2)
      rw [e1] at a
      have at_ : ∀ i, slot (putS s l z) i = if l = i then some z else slot s i := fun i => slot_put hx
      refine ⟨fun i hi => ?_, fun j i w e hw mw => ?_⟩
      · have hi' : i ≠ l ∧ i ∉ byRef s os := by simpa using hi
        rw [a i hi'.2, at_, if_neg (Ne.symm hi'.1)]
      · cases j with
        | zero =>
          simp at e
          subst e
          rw [hx] at hw
          cases hw
          refine ⟨y, by rw [er]; rfl, ?_⟩
          have sl : slot s' l = some z := by rw [a l nd2.1, at_, if_pos rfl]
          rcases hz with ⟨q1, q2⟩ | ⟨q1, q2⟩
          · exact .inl ⟨q1, by rw [sl, q2]⟩
          · exact .inr ⟨q1, by rw [sl, q2]⟩
        | succ j =>
          have e' : os[j]? = some (.loc i) := by simpa using e
          have ne : l ≠ i := fun q => nol j (by rw [q]; exact e')
          obtain ⟨y', h1, h2⟩ := b j i w e' (by rw [at_, if_neg ne]; exact hw) mw
          exact ⟨y', by simpa using h1, h2⟩
    · have br : byRef s (.loc l :: os) = byRef s os := by
        rw [byRef]
        split
        · rename_i d e; exact absurd ⟨_, e, rfl⟩ own
        · rename_i d e; exact absurd ⟨_, e, rfl⟩ own
        · rfl
      rw [br] at nd ⊢
      have hb : backs s os rs = some s' := by
        unfold backs at h
        split at h
        · rename_i d e; exact absurd ⟨_, e, rfl⟩ own
        · rename_i d e; exact absurd ⟨_, e, rfl⟩ own
        · rename_i d e; exact absurd ⟨_, e, rfl⟩ own
        · rename_i d e; exact absurd ⟨_, e, rfl⟩ own
        · cases h
        · cases h
        · exact h
      obtain ⟨a, b⟩ := backs_slot (os := os) (outs := rs) hb nd
      refine ⟨a, fun j i w e hw mw => ?_⟩
      cases j with
      | zero =>
        simp at e
        subst e
        exact absurd ⟨w, hw, mw⟩ own
      | succ j =>
        obtain ⟨y', h1, h2⟩ := b j i w (by simpa using e) hw mw
        exact ⟨y', by simpa using h1, h2⟩
theorem backs_len : ∀ {os : List Opd} {outs : List (Option SV)} {s s' : LS}, backs s os outs = some s' → s.length = s'.length := fun h => (backs_keep h).len
theorem byRef_pos : ∀ {os : List Opd} {i : Nat}, i ∈ byRef s os → ∃ j : Nat, os[j]? = some (.loc i)
  | [], i, h => by cases h
  | .val d :: os, i, h => by
    obtain ⟨j, e⟩ := byRef_pos (os := os) h
    exact ⟨j + 1, by simpa using e⟩
  | .loc l :: os, i, h => by
    unfold byRef at h
    split at h
    · rcases List.mem_cons.mp h with z | z
      · exact ⟨0, by rw [z]; rfl⟩
      · obtain ⟨j, e⟩ := byRef_pos z
        exact ⟨j + 1, by simpa using e⟩
    · rcases List.mem_cons.mp h with z | z
      · exact ⟨0, by rw [z]; rfl⟩
      · obtain ⟨j, e⟩ := byRef_pos z
        exact ⟨j + 1, by simpa using e⟩
    · obtain ⟨j, e⟩ := byRef_pos h
      exact ⟨j + 1, by simpa using e⟩
theorem argV_own {i : Nat} {x : SV} (hx : slot s i = some x) (m : x.m.isOw = true) : argV s (.loc i) = some ⟨.io, x.d⟩ := by
  simp only [argV, hx, Option.map_some]
  obtain ⟨mm, d⟩ := x
  cases mm <;> first | rfl | cases m
theorem argVs_at : ∀ {os : List Opd} {as : List SV} {j : Nat} {o : Opd} {x : SV}, argVs s os = some as → os[j]? = some o → argV s o = some x → as[j]? = some x
  | [], as, j, o, x, h, e, _ => by simp at e
  | o' :: os, as, j, o, x, h, e, hx => by
    simp only [argVs, Option.bind_eq_some_iff, Option.map_eq_some_iff] at h
    obtain ⟨y, h1, ys, h2, rfl⟩ := h
    cases j with
    | zero => simp at e; subst e; rw [h1] at hx; cases hx; rfl
    | succ j =>
      have := argVs_at (j := j) h2 (by simpa using e) hx
      simpa using this
/-- behind the call -/
theorem after_call {vs : List V} {os : List Opd} {as : List SV} {outs : List (Option SV)} {s' : LS} {G' H' : Hp} {v : V} {x : SV} (r : Rep K F G s σ H) (q : ORs K G σ vs os) (e : argVs s os = some as) (nd : (byRef s os).Nodup) (eb : backs s os outs = some s')
    (sm : Same G G') (fh : Same (holdF F H s σ (byRef s os)) H') (gh : Same G' H') (fg : ∀ b o, holdF F H s σ (byRef s os) b = some o → G' b = none) (out : OutRep K (holdF F H s σ (byRef s os)) G' H' vs as outs) (res : ResF K (holdF F H s σ (byRef s os)) G' H' vs as v x) (tb : Zk.z K G' H') :
    Rep K F G' s' σ H' ∧ RV K F G' H' s' σ v x := by
  obtain ⟨b1, b2⟩ := backs_slot eb nd
  have kp := backs_keep eb
  -- a slot behind the call
  have own_back : ∀ i y, slot s' i = some y → y.m.isOw = true → ∃ z, slot s i = some z ∧ z.m.isOw = true ∧ (i ∉ byRef s os ∧ z = y ∨ ∃ (j : Nat) (w : SV), os[j]? = some (.loc i) ∧ outs[j]? = some (some w) ∧ w.m = .io ∧ y.d = w.d) := fun i y hy my => by
    by_cases hi : i ∈ byRef s os
    · obtain ⟨z, hz, mz⟩ := byRef_own hi
      obtain ⟨j, ej⟩ := byRef_pos hi
      obtain ⟨w, g1, g2⟩ := b2 j i z ej hz mz
      refine ⟨z, hz, mz, .inr ⟨j, w, ej, g1, ?_⟩⟩
      rcases g2 with ⟨m1, g3⟩ | ⟨m1, g3⟩
      · rw [hy] at g3; cases g3; exact ⟨m1, rfl⟩
      · rw [hy] at g3
        cases g3
        obtain ⟨mm, d⟩ := z
        cases mm <;> first | (cases mz; done) | (cases my; done)
    · rw [b1 i hi] at hy
      exact ⟨y, hy, my, .inl ⟨hi, rfl⟩⟩
  have own_cell : ∀ i y, slot s' i = some y → y.m.isOw = true → ∃ a, σ[i]? = some (some (.ref a)) ∧ F a = none ∧ G' a = none ∧ Cell K G' H' a y.d := fun i y hy my => by
    obtain ⟨z, hz, mz, h⟩ := own_back i y hy my
    obtain ⟨a, ea, f, g, c⟩ := r.ow i z hz mz
    rcases h with ⟨hi, rfl⟩ | ⟨j, w, ej, ew, mw, ed⟩
    · have hh : holdF F H s σ (byRef s os) a = H a := holdF_pos ⟨i, z, hz, mz, hi, ea⟩
      obtain ⟨o, ho⟩ := c.at
      rw [← hh] at ho
      exact ⟨a, ea, f, fg _ _ ho, c.mono sm fun o z => fh _ _ (by rw [hh]; exact z)⟩
    · have ax := argVs_at e ej (argV_own hz mz)
      obtain ⟨a', e1, f1, g1, c1⟩ := (out j _ w ax rfl ew).1 mw
      obtain ⟨v', e2, h2⟩ := q.get ej
      have h2 : σ[i]? = some (some v') := h2
      rw [e1] at e2
      cases e2
      rw [ea] at h2
      cases h2
      rw [ed]
      exact ⟨a, ea, f, g1, c1⟩
  have rep : Rep K F G' s' σ H' := by
    refine ⟨(holdF_sub r).trans fh, gh, fun b o z => fg b o (holdF_sub r _ _ z), r.len.trans kp.len, fun i y hy my => ?_, own_cell, fun i y hy my => ?_, fun i j y z a h1 h2 m1 m2 q1 q2 => ?_, tb⟩
    · by_cases hi : i ∈ byRef s os
      · obtain ⟨z, hz, mz⟩ := byRef_own hi
        obtain ⟨j, ej⟩ := byRef_pos hi
        obtain ⟨w, g1, g2⟩ := b2 j i z ej hz mz
        rcases g2 with ⟨m1, g3⟩ | ⟨m1, g3⟩
        · rw [hy] at g3
          cases g3
          obtain ⟨mm, d⟩ := z
          cases mm <;> first | (cases mz; done) | (cases my; done)
        · rw [hy] at g3
          cases g3
          obtain ⟨v', e1, d1⟩ := (out j _ w (argVs_at e ej (argV_own hz mz)) rfl g1).2 m1
          obtain ⟨v2, e2, h2⟩ := q.get ej
          rw [e1] at e2
          cases e2
          exact ⟨v', h2, d1⟩
      · rw [b1 i hi] at hy
        obtain ⟨v', e1, d1⟩ := r.fz i y hy my
        exact ⟨v', e1, d1.mono sm⟩
    · have lky : y.m.isLock = true := by cases hz : y.m <;> rw [hz] at my <;> first | rfl | cases my
      obtain ⟨a, e1, c1⟩ := r.lk i y ((kp.lk i y lky).mpr hy) my
      exact ⟨a, e1, c1.mono sm fun _ z => z⟩
    · obtain ⟨y', hy', my', _⟩ := own_back i y h1 m1
      obtain ⟨z', hz', mz', _⟩ := own_back j z h2 m2
      exact r.inj i j y' z' a hy' hz' my' mz' q1 q2
  refine ⟨rep, ?_⟩
  obtain ⟨mx, dx⟩ := x
  cases mx with
  | fz => exact res
  | ow =>
    obtain ⟨p, e1, f1, g1, c1, no⟩ := res
    refine ⟨p, e1, (holdF_sub r).free f1, g1, c1, fun i y hy my z => ?_⟩
    obtain ⟨y', hy', my', h⟩ := own_back i y hy my
    rcases h with ⟨hi, _⟩ | ⟨j, w, ej, _⟩
    · have hh : holdF F H s σ (byRef s os) p = H p := holdF_pos ⟨i, y', hy', my', hi, z⟩
      obtain ⟨a, ea, _, _, c⟩ := r.ow i y' hy' my'
      rw [z] at ea
      cases ea
      obtain ⟨o, ho⟩ := c.at
      rw [hh, ho] at f1
      cases f1
    · obtain ⟨v2, e2, h2⟩ := q.get ej
      have h2 : σ[i]? = some (some v2) := h2
      rw [z] at h2
      cases h2
      exact no j _ (argVs_at e ej (argV_own hy' my')) rfl e2
  | _ => exact res
end
/-! ### the rule -/
section
variable {X : Cx} {cf : CF}
def TDA (K : PySem.W.Frag) (ev : LS → Option (List Opd × LS)) : TA := fun σ H Q => ∃ F G s os s', Rep K F G s σ H ∧ ev s = some (os, s') ∧ ∀ xs H' G', Same G G' → Rep K F G' s' σ H' → ORs K G' σ xs os → Q xs H'
theorem snd_anil : PA X [] (TDA X.K (evAs cf .nil)) := pa_nil.imp fun σ H Q ⟨F, G, s, x, s', rep, e, q⟩ => by
  cases e
  exact q [] H G (Same.refl _) rep .nil
theorem snd_acons {c : CE} {cs : CEs} {l : Expr} {ls : List Expr} (ha : PE X l (TDO X.K fun s => opA c (evE cf c s) s)) (hr : PA X ls (TDA X.K (evAs cf cs))) (hs : nst l = true) : PA X (l :: ls) (TDA X.K (evAs cf (.cons c cs))) := by
  refine (pa_cons ha hr (nst_star hs _ _)).imp fun σ H Q ⟨F, G, s, x, s', rep, e, q⟩ => ?_
  simp only [evAs, Option.bind_eq_some_iff, Option.map_eq_some_iff] at e
  obtain ⟨y, e1, z, e2, e3⟩ := e
  cases e3
  refine ⟨F, G, s, y.1, y.2, rep, e1, fun v H1 G1 sm1 r1 o1 => ⟨F, G1, y.2, z.1, z.2, r1, e2, fun xs H2 G2 sm2 r2 d2 => ?_⟩⟩
  exact q _ H2 G2 (sm1.trans sm2) r2 (.cons (o1.mono sm2) d2)
theorem call_core {f n : Nat} {as : CEs} (E : St → XK) (hn : ∀ s os s', evAs cf as s = some (os, s') → os.length = n) : ∀ σ H Q, TDE X.K (evE cf (.call f as)) σ H Q → TDA X.K (evAs cf as) σ H fun vs H1 => spX X.K cf n f vs H1 Q (E σ) := by
  rintro σ H Q ⟨F, G, s, x, s', rep, e, q⟩
  simp only [evE, Option.bind_eq_some_iff] at e
  obtain ⟨⟨os, s1⟩, e1, e2⟩ := e
  refine ⟨F, G, s, os, s1, rep, e1, fun vs H1 G1 sm1 r1 o1 => .inl ?_⟩
  unfold callE at e2
  split at e2
  · rename_i nd
    simp only [Option.bind_eq_some_iff] at e2
    obtain ⟨as', a1, r, a2, a3⟩ := e2
    obtain ⟨nx, a3⟩ := ite_else a3
    rw [Option.map_eq_some_iff] at a3
    obtain ⟨s2, a3, a4⟩ := a3
    cases a4
    obtain ⟨ar, am⟩ := args_rep r1 o1 a1 nd
    refine ⟨_, G1, as', r, a2, by simpa using nx, (argVs_len a1).trans (hn _ _ _ e1), am, ar, fun v H2 G2 sm2 fh gh fg out res tb => ?_⟩
    obtain ⟨r2, rv⟩ := after_call r1 o1 a1 nd a3 sm2 fh gh fg out res tb
    exact q v H2 G2 (sm1.trans sm2) r2 rv
  · cases e2
/-! ### what is raised -/
/-- an expression that raises: W, what is wished of the exception -/
def TXE (K : PySem.W.Frag) (W : WX) (ev : LS → Option (D × LS)) : TE := fun σ H _ => ∃ F G s x s', Rep K F G s σ H ∧ ev s = some (x, s') ∧ ∀ cls dd H' G', Same G G' → Rep K F G' s' σ H' → ExR K G' cls dd x → W cls dd σ H'
def TXA (K : PySem.W.Frag) (W : WX) (ev : LS → Option (D × LS)) : TA := fun σ H _ => ∃ F G s x s', Rep K F G s σ H ∧ ev s = some (x, s') ∧ ∀ cls dd H' G', Same G G' → Rep K F G' s' σ H' → ExR K G' cls dd x → W cls dd σ H'
theorem after_x {K : PySem.W.Frag} {F G H : Hp} {s : LS} {σ : St} {G' H' : Hp} (r : Rep K F G s σ H) (sm : Same G G') (fh : Same (holdF F H s σ []) H') (gh : Same G' H') (fg : ∀ b o, holdF F H s σ [] b = some o → G' b = none) (tb : Zk.z K G' H') : Rep K F G' s σ H' := by
  refine ⟨(holdF_sub r).trans fh, gh, fun b o z => fg b o (holdF_sub r _ _ z), r.len, fun i y hy my => ?_, fun i y hy my => ?_, fun i y hy my => ?_, r.inj, tb⟩
  · obtain ⟨v, e, d⟩ := r.fz i y hy my
    exact ⟨v, e, d.mono sm⟩
  · obtain ⟨a, ea, f, g, c⟩ := r.ow i y hy my
    have hh : holdF F H s σ [] a = H a := holdF_pos ⟨i, y, hy, my, by simp, ea⟩
    obtain ⟨o, ho⟩ := c.at
    rw [← hh] at ho
    exact ⟨a, ea, f, fg _ _ ho, c.mono sm fun o z => fh _ _ (by rw [hh]; exact z)⟩
  · obtain ⟨a, ea, c⟩ := r.lk i y hy my
    exact ⟨a, ea, c.mono sm fun _ z => z⟩
/-- the callee raises -/
theorem callx_core {f n : Nat} {as : CEs} {W : WX} (hn : ∀ s os s', evAs cf as s = some (os, s') → os.length = n) : ∀ σ H Q, TXE X.K W (fun s => (evAs cf as s).bind fun r => (callX cf f r.1 r.2).map fun x => (x, r.2)) σ H Q → TDA X.K (evAs cf as) σ H fun vs H1 => spX X.K cf n f vs H1 Q fun cls d H' => W cls d σ H' := by
  rintro σ H Q ⟨F, G, s, x, s', rep, e, q⟩
  simp only [Option.bind_eq_some_iff, Option.map_eq_some_iff] at e
  obtain ⟨⟨os, s1⟩, e1, y, e2, e3⟩ := e
  cases e3
  refine ⟨F, G, s, os, s1, rep, e1, fun vs H1 G1 sm1 r1 o1 => .inr ?_⟩
  simp only [callX, Option.bind_eq_some_iff] at e2
  obtain ⟨as', a1, ⟨⟨m, xd⟩, outs⟩, a2, a3⟩ := e2
  obtain ⟨hc, a3⟩ := ite_some a3
  rw [Bool.and_eq_true] at hc
  obtain ⟨mx, br⟩ := hc
  have br : byRef s1 os = [] := List.isEmpty_iff.mp br
  have mx : m = .lk := by
    cases m <;> first | rfl | (have mx : false = true := mx; cases mx)
  subst mx
  cases a3
  obtain ⟨ar, am⟩ := args_rep r1 o1 a1 (by rw [br]; exact List.nodup_nil)
  rw [br] at ar
  exact ⟨_, G1, as', _, outs, a2, (argVs_len a1).trans (hn _ _ _ e1), am, ar, fun cls dd H2 G2 sm2 fh gh fg tb er => q cls dd H2 G2 (sm1.trans sm2) (after_x r1 sm2 fh gh fg tb) er⟩
end
end LP

end
section
set_option Elab.async false
set_option linter.all false
set_option maxRecDepth 100000
set_option maxHeartbeats 2000000
/-! LP14: targets, list comprehensions. -/
namespace LP
open PySem PySem.Spec L2
open PyProof.Rows hiding St
variable [Zk]
section
variable {K : PySem.W.Frag} {F G H : Hp} {s : LS} {σ : St}
/-! ### stores -/
theorem free_len {i : Nat} (h : free s i = true) : i < s.length := by
  unfold free at h
  by_cases hl : i < s.length
  · exact hl
  · rw [List.getElem?_eq_none (by omega)] at h; cases h
/-- a slot is given another thing -/
theorem Rep.store {i : Nat} {x : SV} {s' : LS} {v : V} (r : Rep K F G s σ H) (e : store s i x = some s') (q : RV K F G H s σ v x) : Rep K F G s' (σ.set i (some v)) H := by
  unfold LP.store at e
  split at e
  · rename_i hf
    cases e
    have hl := free_len hf
    have hl' : i < σ.length := by rw [r.len]; exact hl
    have at_ : ∀ j, slot (putS s i x) j = if i = j then some x else slot s j := fun j => by
      unfold putS
      rw [slot_set]
      by_cases h : i = j
      · rw [if_pos ⟨h, hl⟩, if_pos h]
      · rw [if_neg (fun z => h z.1), if_neg h]
    have σat : ∀ j, (σ.set i (some v))[j]? = if i = j then some (some v) else σ[j]? := fun j => by
      rw [List.getElem?_set]
      by_cases h : i = j
      · rw [if_pos h, if_pos h, if_pos (by rw [← h] at *; exact hl')]
      · rw [if_neg h, if_neg h]
    have mx : x.m = .fz ∨ x.m = .ow := by
      obtain ⟨m, d⟩ := x
      cases m <;> first | exact .inl rfl | exact .inr rfl | exact q.elim
    refine ⟨r.fh, r.gh, r.fg, by unfold putS; rw [List.length_set, List.length_set]; exact r.len, fun j z hz m => ?_, fun j z hz m => ?_, fun j z hz m => ?_, fun j k z w a h1 h2 m1 m2 q1 q2 => ?_, r.tb⟩
    · rw [at_] at hz
      rw [σat]
      split at hz
      · cases hz
        rename_i h
        rw [if_pos h]
        obtain ⟨mm, d⟩ := x
        cases mm <;> first | (cases m; done) | exact ⟨v, rfl, q⟩ | exact q.elim
      · rename_i h
        rw [if_neg h]
        exact r.fz j z hz m
    · rw [at_] at hz
      rw [σat]
      split at hz
      · cases hz
        rename_i h
        rw [if_pos h]
        obtain ⟨mm, d⟩ := x
        cases mm <;> first | (cases m; done) | (obtain ⟨p, e, f, g, c, _⟩ := q; subst e; exact ⟨p, rfl, f, g, c⟩) | exact q.elim
      · rename_i h
        rw [if_neg h]
        exact r.ow j z hz m
    · rw [at_] at hz
      rw [σat]
      split at hz
      · cases hz
        rcases mx with z | z <;> rw [z] at m <;> cases m
      · rename_i h
        rw [if_neg h]
        exact r.lk j z hz m
    · rw [at_] at h1 h2
      rw [σat] at q1 q2
      have key : ∀ j z, i ≠ j → slot s j = some z → z.m.isOw = true → x.m.isOw = true → some (some v) = some (some (V.ref a)) → σ[j]? = some (some (.ref a)) → False := fun j z hne hz mz m' e1 e2 => by
        obtain ⟨mm, d⟩ := x
        cases mm <;> first | (cases m'; done) | (obtain ⟨p, e, _, _, _, no⟩ := q; subst e; cases e1; exact no j z hz mz e2) | exact q.elim
      by_cases hj : i = j
      · by_cases hk : i = k
        · rw [← hj, ← hk]
        · rw [if_pos hj] at h1 q1
          rw [if_neg hk] at h2 q2
          cases h1
          exact (key k w hk h2 m2 m1 q1 q2).elim
      · rw [if_neg hj] at h1 q1
        by_cases hk : i = k
        · rw [if_pos hk] at h2 q2
          cases h2
          exact (key j z hj h1 m1 m2 q2 q1).elim
        · rw [if_neg hk] at h2 q2
          exact r.inj j k z w a h1 h2 m1 m2 q1 q2
  · cases e
/-- the slots of a pattern -/
def Pt.is : Pt → List Nat
  | .v i => [i]
  | .t is => is
def gNames : List Nat → TGs
  | [] => gNil
  | i :: is => gCons (gName i) (gNames is)
def gPt (K : PySem.W.Frag) : Pt → TG
  | .v i => gName i
  | .t is => gTup K is.length (gNames is)
/-- the slots outside are as they were -/
def OffSet (is : List Nat) (σ σ' : St) : Prop := σ.length = σ'.length ∧ ∀ j, j ∉ is → σ'[j]? = σ[j]?
theorem OffSet.refl (is : List Nat) (σ : St) : OffSet is σ σ := ⟨rfl, fun _ _ => rfl⟩
theorem offSet_set {is : List Nat} {i : Nat} {v : Option V} (hi : i ∈ is) (σ : St) : OffSet is σ (σ.set i v) := ⟨(List.length_set ..).symm, fun j hj => by
  rw [List.getElem?_set, if_neg (fun z => hj (by rw [← z]; exact hi))]⟩
theorem OffSet.trans {is : List Nat} {σ σ1 σ2 : St} (a : OffSet is σ σ1) (b : OffSet is σ1 σ2) : OffSet is σ σ2 := ⟨a.1.trans b.1, fun j hj => (b.2 j hj).trans (a.2 j hj)⟩
theorem OffSet.mono {is js : List Nat} {σ σ1 : St} (a : OffSet is σ σ1) (h : ∀ i ∈ is, i ∈ js) : OffSet js σ σ1 := ⟨a.1, fun j hj => a.2 j fun z => hj (h j z)⟩
/-- what a store may touch -/
def Touch (s : LS) (σ σ' : St) : Prop := ∀ j x, slot s j = some x → x.m ≠ .fz → x.m ≠ .ow → σ'[j]? = σ[j]?
theorem bind_names : ∀ {is : List Nat} {ds : List D} {xs : List V} {s s' : LS} {σ : St} {Q : St → Hp → Prop}, Rep K F G s σ H → DenL K G xs ds → stores s is ds = some s' →
    (∀ σ', Rep K F G s' σ' H → OffSet is σ σ' → (∀ j x, slot s j = some x → x.m ≠ .fz → x.m ≠ .ow → j ∉ is) → Q σ' H) → gNames is xs σ H Q
  | [], [], xs, s, s', σ, Q, r, l, e, q => by
    cases l
    cases e
    exact ⟨rfl, q σ r (.refl _ _) fun j x _ _ _ z => by cases z⟩
  | i :: is, d :: ds, xs, s, s', σ, Q, r, l, e, q => by
    cases l with
    | cons h l =>
      rename_i v vs
      simp only [stores, Option.bind_eq_some_iff] at e
      obtain ⟨s1, e1, e2⟩ := e
      refine ⟨v, vs, rfl, ?_⟩
      refine bind_names (r.store e1 (v := v) h) l e2 fun σ' r' off tch => ?_
      refine q σ' r' ((offSet_set List.mem_cons_self σ).trans (off.mono fun j hj => List.mem_cons_of_mem _ hj)) fun j x hx m1 m2 z => ?_
      have hne : j ≠ i := fun hz => by
        subst hz
        unfold LP.store at e1
        split at e1
        · rename_i hf
          obtain ⟨g1, g2⟩ := free_inv hf x hx
          obtain ⟨mm, dd⟩ := x
          cases mm <;> first | exact m1 rfl | exact m2 rfl | (cases g1; done) | (cases g2; done)
        · cases e1
      rcases List.mem_cons.mp z with z | z
      · exact hne z
      · refine tch j x ?_ m1 m2 z
        unfold LP.store at e1
        split at e1
        · cases e1
          unfold putS
          rw [slot_set, if_neg (fun w => hne w.1.symm)]
          exact hx
        · cases e1
  | [], _ :: _, xs, s, s', σ, Q, r, l, e, q => by cases e
  | _ :: _, [], xs, s, s', σ, Q, r, l, e, q => by cases e
theorem stores_len : ∀ {is : List Nat} {ds : List D} {s s' : LS}, stores s is ds = some s' → ds.length = is.length
  | [], [], _, _, _ => rfl
  | i :: is, d :: ds, s, s', e => by
    simp only [stores, Option.bind_eq_some_iff] at e
    obtain ⟨s1, e1, e2⟩ := e
    rw [List.length_cons, List.length_cons, stores_len e2]
  | [], _ :: _, _, _, e => by cases e
  | _ :: _, [], _, _, e => by cases e
theorem bind_ok {p : Pt} {d : D} {v : V} {s s' : LS} {σ : St} {Q : St → Hp → Prop} (r : Rep K F G s σ H) (h : Den K G v d) (e : bindP s p d = some s')
    (q : ∀ σ', Rep K F G s' σ' H → OffSet p.is σ σ' → (∀ j x, slot s j = some x → x.m ≠ .fz → x.m ≠ .ow → j ∉ p.is) → Q σ' H) : gPt K p v σ H Q := by
  cases p with
  | v i =>
    refine q _ (r.store e (v := v) h) (offSet_set (by simp [Pt.is]) σ) fun j x hx m1 m2 z => ?_
    have : j = i := by simpa [Pt.is] using z
    subst this
    simp only [bindP, LP.store] at e
    split at e
    · rename_i hf
      obtain ⟨g1, g2⟩ := free_inv hf x hx
      obtain ⟨mm, dd⟩ := x
      cases mm <;> first | exact m1 rfl | exact m2 rfl | (cases g1; done) | (cases g2; done)
    · cases e
  | t is =>
    cases d with
    | tuple ds =>
      cases h with
      | tup g l => exact ⟨_, _, rfl, .inl (.inl (r.gh _ _ g)), by rw [l.length]; exact stores_len e, bind_names r l e q⟩
    | _ => cases e
/-! ### names of a block -/
theorem wipe_get (σ : St) : ∀ (own : List Nat) (j : Nat), (wipe σ own)[j]? = if j ∈ own ∧ j < σ.length then some none else σ[j]?
  | [], j => by simp [wipe]
  | i :: is, j => by
    unfold wipe
    rw [List.getElem?_set, wipe_get σ is j, wipe_length]
    by_cases h : i = j
    · subst h
      by_cases hl : i < σ.length
      · simp [hl]
      · rw [if_pos rfl, if_neg hl, if_neg (fun z => hl z.2), List.getElem?_eq_none (by omega)]
    · by_cases hj : j ∈ is ∧ j < σ.length
      · rw [if_neg h, if_pos hj, if_pos ⟨List.mem_cons_of_mem _ hj.1, hj.2⟩]
      · rw [if_neg h, if_neg hj, if_neg]
        rintro ⟨z, hl⟩
        rcases List.mem_cons.mp z with z | z
        · exact h z.symm
        · exact hj ⟨z, hl⟩
theorem wipe_off {own : List Nat} {σ σ' : St} (h : OffSet own σ σ') : wipe σ' own = wipe σ own := by
  refine List.ext_getElem? fun j => ?_
  rw [wipe_get, wipe_get, ← h.1]
  by_cases hj : j ∈ own
  · by_cases hl : j < σ.length
    · rw [if_pos ⟨hj, hl⟩, if_pos ⟨hj, hl⟩]
    · rw [if_neg (fun z => hl z.2), if_neg (fun z => hl z.2), List.getElem?_eq_none (by rw [← h.1]; omega), List.getElem?_eq_none (by omega)]
  · rw [if_neg (fun z => hj z.1), if_neg (fun z => hj z.1)]
    exact h.2 j hj
theorem wipe_wipe (σ : St) (own : List Nat) : wipe (wipe σ own) own = wipe σ own := by
  refine List.ext_getElem? fun j => ?_
  rw [wipe_get, wipe_get, wipe_length]
  by_cases hj : j ∈ own ∧ j < σ.length
  · rw [if_pos hj, if_pos hj]
  · rw [if_neg hj]
theorem Rep.wipe (r : Rep K F G s σ H) (own : List Nat) : Rep K F G (wipeS s own) (L2.wipe σ own) H := by
  have at_ : ∀ j x, slot (wipeS s own) j = some x → j ∉ own ∧ slot s j = some x := fun j x h => by
    rw [wipeS_slot] at h
    split at h
    · cases h
    · rename_i hj; exact ⟨hj, h⟩
  have σat : ∀ j, j ∉ own → (L2.wipe σ own)[j]? = σ[j]? := fun j hj => by rw [wipe_get, if_neg (fun z => hj z.1)]
  refine ⟨r.fh, r.gh, r.fg, by rw [wipe_length, wipeS_len]; exact r.len, fun j x h m => ?_, fun j x h m => ?_, fun j x h m => ?_, fun j k x y a h1 h2 m1 m2 q1 q2 => ?_, r.tb⟩
  · obtain ⟨hj, h⟩ := at_ j x h
    rw [σat j hj]
    exact r.fz j x h m
  · obtain ⟨hj, h⟩ := at_ j x h
    rw [σat j hj]
    exact r.ow j x h m
  · obtain ⟨hj, h⟩ := at_ j x h
    rw [σat j hj]
    exact r.lk j x h m
  · obtain ⟨hj, h1⟩ := at_ j x h1
    obtain ⟨hk, h2⟩ := at_ k y h2
    rw [σat j hj] at q1
    rw [σat k hk] at q2
    exact r.inj j k x y a h1 h2 m1 m2 q1 q2
theorem ownOk_inv {own : List Nat} (h : ownOk s own = true) : ∀ i ∈ own, ∀ x, slot s i = some x → x.m = .fz := fun i hi x e => by
  unfold ownOk at h
  rw [List.all_eq_true] at h
  have q := h i hi
  unfold slot at e
  cases hs : s[i]? with
  | none => rw [hs] at e; cases e
  | some o =>
    rw [hs] at e q
    cases o with
    | none => cases e
    | some y => cases e; exact of_decide_eq_true q
/-- behind a block: its own names are again what they were -/
theorem Rep.backS {own : List Nat} {G0 H0 : Hp} {s0 : LS} (r0 : Rep K F G0 s0 σ H0) (ok : ownOk s0 own = true) (sm : Same G0 G) (hl : s0.length = s.length) (r : Rep K F G (wipeS s own) (L2.wipe σ own) H) : Rep K F G (LP.backS s0 s own) σ H := by
  have at_ : ∀ j x, slot (LP.backS s0 s own) j = some x → (j ∈ own ∧ slot s0 j = some x ∧ x.m = .fz) ∨ (j ∉ own ∧ slot (wipeS s own) j = some x) := fun j x h => by
    rw [backS_slot s0 s hl] at h
    split at h
    · rename_i hj; exact .inl ⟨hj, h, ownOk_inv ok j hj x h⟩
    · rename_i hj; exact .inr ⟨hj, by rw [wipeS_slot, if_neg hj]; exact h⟩
  have σat : ∀ j, j ∉ own → (L2.wipe σ own)[j]? = σ[j]? := fun j hj => by rw [wipe_get, if_neg (fun z => hj z.1)]
  refine ⟨r.fh, r.gh, r.fg, by rw [backS_len, ← hl]; exact r0.len, fun j x h m => ?_, fun j x h m => ?_, fun j x h m => ?_, fun j k x y a h1 h2 m1 m2 q1 q2 => ?_, r.tb⟩
  · rcases at_ j x h with ⟨_, h, _⟩ | ⟨hj, h⟩
    · obtain ⟨v, e, d⟩ := r0.fz j x h m
      exact ⟨v, e, d.mono sm⟩
    · obtain ⟨v, e, d⟩ := r.fz j x h m
      rw [σat j hj] at e
      exact ⟨v, e, d⟩
  · rcases at_ j x h with ⟨_, _, z⟩ | ⟨hj, h⟩
    · rw [z] at m; cases m
    · obtain ⟨v, e, d⟩ := r.ow j x h m
      rw [σat j hj] at e
      exact ⟨v, e, d⟩
  · rcases at_ j x h with ⟨_, _, z⟩ | ⟨hj, h⟩
    · rw [z] at m; cases m
    · obtain ⟨v, e, d⟩ := r.lk j x h m
      rw [σat j hj] at e
      exact ⟨v, e, d⟩
  · rcases at_ j x h1 with ⟨_, _, z⟩ | ⟨hj, h1⟩
    · rw [z] at m1; cases m1
    · rcases at_ k y h2 with ⟨_, _, z⟩ | ⟨hk, h2⟩
      · rw [z] at m2; cases m2
      · rw [← σat j hj] at q1
        rw [← σat k hk] at q2
        exact r.inj j k x y a h1 h2 m1 m2 q1 q2
/-! ### a cell that is held while something runs -/
structure Held (F G H : Hp) (s : LS) (σ : St) (p : Addr) (o : HO) : Prop where
  h : H p = some o
  f : F p = none
  g : G p = none
  no : NoOwn s σ p
theorem Held.after {p : Addr} {o : HO} {s' : LS} {G' H' : Hp} (hd : Held F G H s σ p o) (r : Rep K F G s σ H) (k : Keep s s') (sm : Same G G') (r' : Rep K (upd F p o) G' s' σ H') : Rep K F G' s' σ H' ∧ Held F G' H' s' σ p o := by
  refine ⟨r'.unhold (same_upd hd.f) fun i x hx m => ?_, r'.fh _ _ upd_same, hd.f, r'.fg _ _ upd_same, r'.noOwn_f upd_same⟩
  have lkx : x.m.isLock = true := by cases hz : x.m <;> rw [hz] at m <;> first | rfl | cases m
  obtain ⟨a, e, c⟩ := r.lk i x ((k.lk i x lkx).mpr hx) m
  exact ⟨a, e, c.mono sm fun _ z => z⟩
theorem Held.hold {p : Addr} {o : HO} (hd : Held F G H s σ p o) (r : Rep K F G s σ H) : Rep K (upd F p o) G s σ H := r.hold hd.h hd.g hd.f hd.no
/-- the held cell is changed -/
theorem Held.write {p : Addr} {o o' : HO} (hd : Held F G H s σ p o) (r : Rep K F G s σ H) (nt : ∀ ps, o ≠ .tbl ps := by intro _ z; cases z) : Rep K F G s σ (upd H p o') ∧ Held F G (upd H p o') s σ p o' := by
  have nf : ∀ b u, F b = some u → b ≠ p := fun b u e z => by rw [z, hd.f] at e; cases e
  have ng : ∀ b u, G b = some u → b ≠ p := fun b u e z => by rw [z, hd.g] at e; cases e
  refine ⟨⟨fun b u e => by rw [upd_ne (nf b u e)]; exact r.fh _ _ e, fun b u e => by rw [upd_ne (ng b u e)]; exact r.gh _ _ e, r.fg, r.len, r.fz, fun i x hx m => ?_, r.lk, r.inj, Zk.wr r.tb hd.h nt⟩, upd_same, hd.f, hd.g, hd.no⟩
  obtain ⟨a, e, f, g, c⟩ := r.ow i x hx m
  have ne : a ≠ p := fun z => hd.no i x hx m (by rw [e, z])
  exact ⟨a, e, f, g, c.mono (Same.refl _) fun u q => by rw [upd_ne ne]; exact q⟩
theorem Held.new {p : Addr} {o : HO} (r : Rep K F G s σ H) (n : H p = none) : Held F G (upd H p o) s σ p o := ⟨upd_same, r.fh.free n, r.gh.free n, r.noOwn_new n⟩
/-- known for ever, the held cell is still apart -/
theorem Held.known {p : Addr} {o : HO} {G' : Hp} (hd : Held F G H s σ p o) (g : G' p = none) : Held F G' H s σ p o := ⟨hd.h, hd.f, g, hd.no⟩
end
end LP

end
section
set_option Elab.async false
set_option linter.all false
set_option maxRecDepth 100000
set_option maxHeartbeats 2000000
/-! LP15: list comprehensions. -/
namespace LP
open PySem PySem.Spec L2
open PyProof.Rows hiding St
variable [Zk]
section
variable {K : PySem.W.Frag} {F G H : Hp} {s : LS} {σ : St}
theorem LockF.noOwn {F' : Hp} {s' sn : LS} {o : Option Nat} {p : Addr} (l : LockF K F G H s σ F' s' o) (k : Keep s' sn) (old : NoOwn sn σ p) (nf : F' p = none) : NoOwn (unlock sn o) σ p := by
  cases l with
  | no => exact old
  | lock e hm ea f g h l =>
    rename_i i m m' ds xs a
    have lk' : m'.isLock = true := by rcases hm with ⟨_, z⟩ | ⟨_, z⟩ <;> rw [z] <;> rfl
    have sni : slot sn i = some ⟨m', .list ds⟩ := (k.lk i _ lk').mp (by rw [slot_put e, if_pos rfl])
    have u : unlock sn (some i) = putS sn i ⟨m, .list ds⟩ := by
      simp only [unlock, sni]
      rcases hm with ⟨z1, z2⟩ | ⟨z1, z2⟩ <;> subst z1 z2 <;> rfl
    intro j y hy my z
    rw [u, slot_put sni] at hy
    split at hy
    · rename_i hj
      rw [← hj, ea] at z
      cases z
      rw [upd_same] at nf
      cases nf
    · exact old j y hy my z
/-- an item that has come -/
theorem yld_ok {x : V} {d : D} {Gj H' : Hp} {p : Addr} {o : HO} (r : Rep K F G s σ H) (sm : Same Gj G) (y : YD K Gj H x H' d) (hd : Held F G H s σ p o) : ∃ G', Same G G' ∧ Rep K F G' s σ H' ∧ Den K G' x d ∧ Held F G' H' s σ p o := by
  rcases y with ⟨rfl, h⟩ | ⟨T, xs, es, rfl, n, rfl, rfl, l⟩
  · exact ⟨G, Same.refl _, r, h.mono sm, hd⟩
  · have ne : p ≠ T := ne_of_none hd.h n
    have sg := same_upd (o := HO.tup xs) (r.gh.free n)
    exact ⟨upd G T (.tup xs), sg, r.newG n, .tup upd_same ((l.mono sm).mono sg), by rw [upd_ne ne]; exact hd.h, hd.f, by rw [upd_ne ne]; exact hd.g, hd.no⟩
theorem compL_drop {f : D → LS → Option (List D × LS)} {ds : List D} {i : Nat} {d : D} {s : LS} {r : List D × LS} (hd : ds[i]? = some d) (e : compL f (ds.drop i) s = some r) :
    ∃ r1 q, f d s = some r1 ∧ compL f (ds.drop (i + 1)) r1.2 = some q ∧ r = (r1.1 ++ q.1, q.2) := by
  have hl : i < ds.length := (List.getElem?_eq_some_iff.mp hd).1
  have ed : ds[i] = d := (List.getElem?_eq_some_iff.mp hd).2
  rw [List.drop_eq_getElem_cons hl, ed] at e
  simp only [compL, Option.bind_eq_some_iff, Option.map_eq_some_iff] at e
  obtain ⟨r1, h1, q, h2, h3⟩ := e
  exact ⟨r1, q, h1, h2, h3.symm⟩
theorem store_inv {i : Nat} {x : SV} {s s' : LS} (e : store s i x = some s') : ∀ j, slot s' j = if i = j then some x else slot s j := fun j => by
  unfold LP.store at e
  split at e
  · rename_i hf
    cases e
    unfold putS
    rw [slot_set]
    by_cases h : i = j
    · rw [if_pos ⟨h, free_len hf⟩, if_pos h]
    · rw [if_neg (fun z => h z.1), if_neg h]
  · cases e
theorem stores_off : ∀ {is : List Nat} {ds : List D} {s s' : LS}, stores s is ds = some s' → (∀ i, i ∉ is → slot s' i = slot s i) ∧ ∀ i ∈ is, ∀ y, slot s' i = some y → y.m = .fz
  | [], [], s, s', e => by
    cases e
    exact ⟨fun _ _ => rfl, fun i hi => by cases hi⟩
  | i :: is, d :: ds, s, s', e => by
    simp only [stores, Option.bind_eq_some_iff] at e
    obtain ⟨s1, e1, e2⟩ := e
    obtain ⟨a, b⟩ := stores_off e2
    have at_ := store_inv e1
    refine ⟨fun j hj => ?_, fun j hj y hy => ?_⟩
    · have hj' : j ≠ i ∧ j ∉ is := by simpa using hj
      rw [a j hj'.2, at_, if_neg (Ne.symm hj'.1)]
    · by_cases hi : j ∈ is
      · exact b j hi y hy
      · rcases List.mem_cons.mp hj with z | z
        · rw [a j hi, at_, if_pos z.symm] at hy
          cases hy
          rfl
        · exact absurd z hi
  | [], _ :: _, s, s', e => by cases e
  | _ :: _, [], s, s', e => by cases e
theorem bindP_off {p : Pt} {d : D} {s s' : LS} (e : bindP s p d = some s') : ∀ i, i ∉ p.is → slot s' i = slot s i := fun i hi => by
  cases p with
  | v j =>
    have hi' : i ≠ j := by simpa [Pt.is] using hi
    rw [store_inv e, if_neg (Ne.symm hi')]
  | t is =>
    cases d with
    | tuple ds => exact (stores_off e).1 i hi
    | _ => cases e
theorem bindP_fz {p : Pt} {d : D} {s s' : LS} (e : bindP s p d = some s') : ∀ i ∈ p.is, ∀ y, slot s' i = some y → y.m = .fz := fun i hi y hy => by
  cases p with
  | v j =>
    have hi' : i = j := by simpa [Pt.is] using hi
    rw [store_inv e, if_pos hi'.symm] at hy
    cases hy
    rfl
  | t is =>
    cases d with
    | tuple ds => exact (stores_off e).2 i hi y hy
    | _ => cases e
end
section
variable {X : Cx} {cf : CF}
def lcF (cf : CF) (own : List Nat) (e : CE) (p : Pt) (c : CO) : D → LS → Option (List D × LS) := fun x s1 => (bindP (wipeS s1 own) p x).bind fun s2 => (evC cf c s2).bind fun k =>
        if k.1 then (evE cf e k.2).map fun y => ([y.1.d], y.2) else some ([], k.2)
theorem lcF_inv {own : List Nat} {e : CE} {p : Pt} {c : CO} {x : D} {s1 : LS} {r : List D × LS} (h : lcF cf own e p c x s1 = some r) : ∃ s2 k, bindP (wipeS s1 own) p x = some s2 ∧ evC cf c s2 = some k ∧
    ((k.1 = true ∧ ∃ y, evE cf e k.2 = some y ∧ r = ([y.1.d], y.2)) ∨ (k.1 = false ∧ r = ([], k.2))) := by
  simp only [lcF, Option.bind_eq_some_iff] at h
  obtain ⟨s2, h1, k, h2, h3⟩ := h
  refine ⟨s2, k, h1, h2, ?_⟩
  cases hk : k.1 with
  | true =>
    rw [hk, if_pos rfl] at h3
    simp only [Option.map_eq_some_iff] at h3
    obtain ⟨y, h3, h4⟩ := h3
    exact .inl ⟨rfl, y, h3, h4.symm⟩
  | false =>
    rw [hk, if_neg Bool.false_ne_true] at h3
    cases h3
    exact .inr ⟨rfl, rfl⟩
theorem lcF_keep {own : List Nat} {e : CE} {p : Pt} {c : CO} {x : D} {s1 : LS} {r : List D × LS} (h : lcF cf own e p c x s1 = some r) : KeepX own s1 r.2 := by
  obtain ⟨s2, k, h1, h2, h3⟩ := lcF_inv h
  have kk : KeepX own s1 k.2 := (wipeS_keep s1 own).trans ((bindP_keep h1).trans (evC_keep cf c s2 k.1 k.2 h2)).x
  rcases h3 with ⟨_, y, h3, rfl⟩ | ⟨_, rfl⟩
  · exact kk.trans (evE_keep cf e k.2 y.1 y.2 h3).x
  · exact kk
/-- a turn: the target, the test, the element -/
theorem lc_turn {own : List Nat} {e : CE} {p : Pt} {c : CO} {F Gi Hi : Hp} {si : LS} {σ : St} {d : D} {x : V} {r1 : List D × LS} {D0 : Addr} {acc : List V} {Z : Hp → Prop}
    (hp : ∀ i ∈ p.is, i ∈ own) (rep : Rep X.K F Gi (wipeS si own) (wipe σ own) Hi) (hd : Held F Gi Hi (wipeS si own) (wipe σ own) D0 (.lst acc)) (dx : Den X.K Gi x d) (ef : lcF cf own e p c d si = some r1)
    (q0 : ∀ H' G', r1.1 = [] → Same Gi G' → Rep X.K F G' (wipeS r1.2 own) (wipe σ own) H' → Held F G' H' (wipeS r1.2 own) (wipe σ own) D0 (.lst acc) → Z H')
    (q1 : ∀ H' G' v dv, r1.1 = [dv] → Same Gi G' → Rep X.K F G' (wipeS r1.2 own) (wipe σ own) H' → Held F G' H' (wipeS r1.2 own) (wipe σ own) D0 (.lst (acc ++ [v])) → Den X.K G' v dv → acc.length < sizeLine ∧ Z H') :
    gPt X.K p x (wipe σ own) Hi fun σ2 H2 => wipe σ2 own = wipe σ own ∧ TDB X.K (evC cf c) σ2 H2 fun b H3 =>
      if b = true then TDE X.K (evE cf e) σ2 H3 fun y H4 => ∃ acc', H4 D0 = some (.lst acc') ∧ acc'.length < sizeLine ∧ Z (upd H4 D0 (.lst (acc' ++ [y]))) else Z H3 := by
  obtain ⟨s2, k, h1, h2, h3⟩ := lcF_inv ef
  refine bind_ok rep dx h1 fun σ2 r2 off _ => ?_
  have ew : wipe σ2 own = wipe σ own := by rw [wipe_off (off.mono hp), wipe_wipe]
  refine ⟨ew, ?_⟩
  have hd2 : Held F Gi Hi s2 σ2 D0 (.lst acc) := by
    refine ⟨hd.h, hd.f, hd.g, fun i y hy my z => ?_⟩
    by_cases hi : i ∈ p.is
    · rw [bindP_fz h1 i hi y hy] at my
      cases my
    · rw [off.2 i hi] at z
      rw [bindP_off h1 i hi] at hy
      exact hd.no i y hy my z
  have r2h := hd2.hold r2
  refine ⟨_, Gi, s2, k.1, k.2, r2h, h2, fun H3 G3 sm3 r3 => ?_⟩
  obtain ⟨r3', hd3⟩ := hd2.after r2 (evC_keep cf c s2 k.1 k.2 h2) sm3 r3
  have fin : ∀ {H' G' : Hp} {s' : LS} {o : HO}, Rep X.K F G' s' σ2 H' → Held F G' H' s' σ2 D0 o → Rep X.K F G' (wipeS s' own) (wipe σ own) H' ∧ Held F G' H' (wipeS s' own) (wipe σ own) D0 o := fun {H' G' s' o} r h => by
    have rw_ := r.wipe own
    rw [ew] at rw_
    refine ⟨rw_, h.h, h.f, h.g, fun i y hy my z => ?_⟩
    rw [wipeS_slot] at hy
    split at hy
    · cases hy
    · rename_i hi
      rw [← ew, wipe_get, if_neg (fun w => hi w.1)] at z
      exact h.no i y hy my z
  rcases h3 with ⟨hk, y, h3, rfl⟩ | ⟨hk, rfl⟩
  · rw [hk, if_pos rfl]
    refine ⟨_, G3, k.2, y.1, y.2, r3, h3, fun v H4 G4 sm4 r4 rv => ?_⟩
    obtain ⟨G5, sm5, r5, dv⟩ := rv.den r4
    obtain ⟨r5', hd5⟩ := hd3.after r3' (evE_keep cf e k.2 y.1 y.2 h3) (sm4.trans sm5) r5
    obtain ⟨r6, hd6⟩ := hd5.write (o' := .lst (acc ++ [v])) r5'
    obtain ⟨r7, hd7⟩ := fin r6 hd6
    obtain ⟨hz, qz⟩ := q1 _ G5 v y.1.d rfl (sm3.trans (sm4.trans sm5)) r7 hd7 dv
    exact ⟨acc, hd5.h, hz, qz⟩
  · rw [hk, if_neg Bool.false_ne_true]
    obtain ⟨r7, hd7⟩ := fin r3' hd3
    exact q0 H3 G3 rfl sm3 r7 hd7
theorem lcp_core {own : List Nat} {e : CE} {p : Pt} {it : CI} {c : CO} (hp : ∀ i ∈ p.is, i ∈ own) : ∀ σ H Q, TDE X.K (evE cf (.lcp own e p it c)) σ H Q → tLc (TDI X.K (evI cf it)) (gPt X.K p) (TDB X.K (evC cf c)) (TDE X.K (evE cf e)) own σ H Q := by
  rintro σ H Q ⟨F, G, s, x, s', rep, ee, q⟩
  simp only [evE, Option.bind_eq_some_iff] at ee
  obtain ⟨⟨ds, o, s0⟩, e1, e2⟩ := ee
  split at e2
  · rename_i hok
    simp only [Option.bind_eq_some_iff] at e2
    obtain ⟨r, e3, e4⟩ := e2
    split at e4
    · rename_i hsz
      cases e4
      have hsz : r.1.length ≤ sizeLine := of_decide_eq_true hsz
      have e3 : compL (lcF cf own e p c) ds s0 = some r := e3
      refine ⟨F, G, s, ds, o, s0, rep, e1, fun J H1 G1 F1 s1 sm1 r1 lf r1' wd D0 nD => ?_⟩
      have nF1 : F1 D0 = none := r1'.fh.free nD
      -- the invariant
      refine lc_it wd (fun i Hi => ∃ (Gi : Hp) (si : LS) (acc : List V) (accD : List D) (rest : List D × LS), Same G1 Gi ∧ KeepX own s0 si ∧ Rep X.K F1 Gi (wipeS si own) (wipe σ own) Hi ∧ Held F1 Gi Hi (wipeS si own) (wipe σ own) D0 (.lst acc) ∧ DenL X.K Gi acc accD ∧
        compL (lcF cf own e p c) (ds.drop i) si = some rest ∧ r = (accD ++ rest.1, rest.2)) ?_ ?_ ?_ ?_
      · refine ⟨G1, s0, [], [], r, Same.refl _, .refl _ _, (r1'.wipe own).newH nD, Held.new (r1'.wipe own) nD, .nil, by rw [List.drop_zero]; exact e3, rfl⟩
      · rintro i Hi hi ⟨Gi, si, acc, accD, rest, sm, _, ri, _⟩
        exact ⟨sm.trans ri.gh, ri.fh⟩
      · rintro i x Hi H' hi ⟨Gi, si, acc, accD, rest, sm, kx, ri, hd, dl, ec, er⟩ ⟨d, hds, y⟩
        obtain ⟨r1, rq, ef, ecq, erest⟩ := compL_drop hds ec
        obtain ⟨Gj, smj, rj, dj, hdj⟩ := yld_ok ri sm y hd
        have hacc : acc.length + rest.1.length ≤ sizeLine := by
          rw [er] at hsz
          rw [List.length_append, ← dl.length] at hsz
          exact hsz
        have kx' : KeepX own s0 r1.2 := kx.trans (lcF_keep ef)
        have el : r = (accD ++ r1.1 ++ rq.1, rq.2) := by rw [er, erest, List.append_assoc]
        refine lc_turn (Z := fun H2 => ∃ (Gi : Hp) (si : LS) (acc : List V) (accD : List D) (rest : List D × LS), Same G1 Gi ∧ KeepX own s0 si ∧ Rep X.K F1 Gi (wipeS si own) (wipe σ own) H2 ∧ Held F1 Gi H2 (wipeS si own) (wipe σ own) D0 (.lst acc) ∧ DenL X.K Gi acc accD ∧
          compL (lcF cf own e p c) (ds.drop (i + 1)) si = some rest ∧ r = (accD ++ rest.1, rest.2)) hp rj hdj dj ef (fun H2 G2 hn sm2 r2 hd2 => ?_) (fun H2 G2 v dv z sm2 r2 hd2 dn => ⟨?_, ?_⟩)
        · exact ⟨G2, r1.2, acc, accD, rq, sm.trans (smj.trans sm2), kx', r2, hd2, dl.mono (smj.trans sm2), ecq, by rw [el, hn, List.append_nil]⟩
        · rw [erest, List.length_append, z] at hacc
          simp only [List.length_cons, List.length_nil] at hacc
          omega
        · exact ⟨G2, r1.2, acc ++ [v], accD ++ [dv], rq, sm.trans (smj.trans sm2), kx', r2, hd2, (dl.mono (smj.trans sm2)).append (.cons dn .nil), ecq, by rw [el, z]⟩
      · rintro Hn ⟨Gn, sn, acc, accD, rest, sm, kx, rn, hd, dl, ec, er⟩
        rw [List.drop_length] at ec
        cases ec
        have hr1 : r.1 = accD := by rw [er]; simp
        have hr2 : r.2 = sn := by rw [er]
        have rb := Rep.backS r1' hok sm kx.len rn
        have ru := lf.back r1 (backS_keep kx) (fun _ _ _ _ => rfl) sm rb
        rw [hr2] at q
        refine q _ Hn Gn (sm1.trans sm) ru ⟨D0, rfl, r1.fh.free nD, hd.g, ⟨acc, hd.h, by rw [hr1]; exact dl⟩, fun j y hy my z => ?_⟩
        -- no slot owns the new list
        have old : ∀ k w, slot (backS s0 sn own) k = some w → w.m.isOw = true → σ[k]? ≠ some (some (.ref D0)) := fun k w hw mw z => by
          rw [backS_slot s0 sn kx.len] at hw
          split at hw
          · rename_i hk
            rw [ownOk_inv hok k hk w hw] at mw
            cases mw
          · rename_i hk
            exact hd.no k w (by rw [wipeS_slot, if_neg hk]; exact hw) mw (by rw [wipe_get, if_neg (fun u => hk u.1)]; exact z)
        exact lf.noOwn (backS_keep kx) old nF1 j y hy my z
    · cases e4
  · cases e2
end
end LP

end
section
set_option Elab.async false
set_option linter.all false
set_option maxRecDepth 100000
set_option maxHeartbeats 2000000
/-! LP16: list comprehensions with two for. -/
namespace LP
open PySem PySem.Spec L2
open PyProof.Rows hiding St
variable [Zk]
/-- a thing that stays, walked -/
def TDZ (K : PySem.W.Frag) (ev : LS → Option (SV × LS)) : TI := fun σ H R => ∃ F G s x s' ds, Rep K F G s σ H ∧ ev s = some (x, s') ∧ listOf x.d = some ds ∧ ∀ J H' G', Same G G' → Rep K F G' s' σ H' → WalkD K J ds G' (fun _ => none) → R J H'
section
variable {X : Cx} {cf : CF} {tg : Expr}
theorem snd_iz {a : CE} {l : Expr} (ha : PE X l (TDE X.K (evE cf a))) : PI X tg l (TDZ X.K (evE cf a)) := by
  refine ((pi_list (pf ha)).or (pi_tup (pf ha))).imp fun σ H R ⟨F, G, s, x, s', ds, rep, e, el, q⟩ => ?_
  obtain ⟨m, d⟩ := x
  cases d with
  | list xs =>
    cases el
    refine .inl ⟨F, G, s, _, s', rep, e, fun v H1 G1 sm1 r1 d1 => ?_⟩
    cases d1 with
    | lst h l => exact ⟨_, rfl, ⟨_, r1.gh.seq h⟩, q _ H1 G1 sm1 r1 (walkD_list (fun H2 g _ => g.seq h) l)⟩
  | tuple xs =>
    cases el
    refine .inr ⟨F, G, s, _, s', rep, e, fun v H1 G1 sm1 r1 d1 => ?_⟩
    cases d1 with
    | tup h l => exact ⟨_, rfl, ⟨_, .inl (.inl (r1.gh _ _ h))⟩, q _ H1 G1 sm1 r1 (walkD_tup h l)⟩
  | _ => cases el
/-- the inner walk -/
theorem lc_in {J : It} {n : Nat} {G : Hp → Prop} {Y : Nat → Hp → V → Hp → Prop} (w : Walk J n G Y) {g : TG} {tt : TT} {te : TE} {vs : List Nat} {σ : St} {H1 : Hp} {D : Addr} {Nx : Hp → Prop} (Pv : Nat → Hp → Prop) (h0 : Pv 0 H1) (hG : ∀ i H, i ≤ n → Pv i H → G H)
    (hs : ∀ i x H H', i < n → Pv i H → Y i H x H' → g x (wipe σ vs) H' fun σ2 H2 => wipe σ2 vs = wipe σ vs ∧ tt σ2 H2 fun b H3 =>
      if b = true then te σ2 H3 fun y H4 => ∃ acc, H4 D = some (.lst acc) ∧ acc.length < sizeLine ∧ Pv (i + 1) (upd H4 D (.lst (acc ++ [y]))) else Pv (i + 1) H3) (hd : ∀ H, Pv n H → Nx H) :
    ∃ W : Nat → Nat → Hp → Prop, (∃ m, W 0 m H1) ∧ ∀ i m H, W i m H →
      (J.stop i H ∧ Nx H) ∨ (J.go i H ∧ ∃ Nx1 : Hp → Prop, (∀ H', Nx1 H' → ∃ m', m' < m ∧ W (i + 1) m' H') ∧ ∀ x H', J.yld i H x H' → g x (wipe σ vs) H' fun σ2 H2 => wipe σ2 vs = wipe σ vs ∧ tt σ2 H2 fun b H3 =>
        if b = true then te σ2 H3 fun y H4 => ∃ acc, H4 D = some (.lst acc) ∧ acc.length < sizeLine ∧ Nx1 (upd H4 D (.lst (acc ++ [y]))) else Nx1 H3) := by
  refine ⟨fun i m H => m = n - i ∧ i ≤ n ∧ Pv i H, ⟨n, by simp, Nat.zero_le _, h0⟩, ?_⟩
  rintro i m H ⟨rfl, hi, p⟩
  have q := hG i H hi p
  by_cases hlt : i < n
  · refine .inr ⟨w.goes i H hlt q, Pv (i + 1), fun H' p' => ⟨n - (i + 1), by omega, rfl, hlt, p'⟩, fun x H' y => hs i x H H' hlt p (w.yields i H x H' hlt q y)⟩
  · have e : i = n := by omega
    subst e
    exact .inl ⟨w.stops H q, hd H p⟩
def lc2F (cf : CF) (own own2 : List Nat) (e : CE) (p : Pt) (c : CO) (p2 : Pt) (a2 : CE) (c2 : CO) : D → LS → Option (List D × LS) := fun x s1 => (bindP (wipeS s1 own) p x).bind fun s2 => (evC cf c s2).bind fun k => if k.1 then
          (evE cf a2 k.2).bind fun y => (listOf y.1.d).bind fun ds2 => if ownOk y.2 own2 then (compL (lcF cf own2 e p2 c2) ds2 y.2).map fun q => (q.1, backS y.2 q.2 own2) else none
        else some ([], k.2)
theorem lc2F_inv {own own2 : List Nat} {e a2 : CE} {p p2 : Pt} {c c2 : CO} {x : D} {s1 : LS} {r : List D × LS} (h : lc2F cf own own2 e p c p2 a2 c2 x s1 = some r) : ∃ s2 k, bindP (wipeS s1 own) p x = some s2 ∧ evC cf c s2 = some k ∧
    ((k.1 = true ∧ ∃ y ds2 q, evE cf a2 k.2 = some y ∧ listOf y.1.d = some ds2 ∧ ownOk y.2 own2 = true ∧ compL (lcF cf own2 e p2 c2) ds2 y.2 = some q ∧ r = (q.1, backS y.2 q.2 own2)) ∨ (k.1 = false ∧ r = ([], k.2))) := by
  simp only [lc2F, Option.bind_eq_some_iff] at h
  obtain ⟨s2, h1, k, h2, h3⟩ := h
  refine ⟨s2, k, h1, h2, ?_⟩
  cases hk : k.1 with
  | true =>
    rw [hk, if_pos rfl] at h3
    simp only [Option.bind_eq_some_iff] at h3
    obtain ⟨y, h3, ds2, h4, h5⟩ := h3
    split at h5
    · rename_i ho
      simp only [Option.map_eq_some_iff] at h5
      obtain ⟨q, h5, h6⟩ := h5
      exact .inl ⟨rfl, y, ds2, q, h3, h4, ho, h5, h6.symm⟩
    · cases h5
  | false =>
    rw [hk, if_neg Bool.false_ne_true] at h3
    cases h3
    exact .inr ⟨rfl, rfl⟩
theorem compL_keepX {own : List Nat} {e : CE} {p : Pt} {c : CO} {ds : List D} {s : LS} {r : List D × LS} (h : compL (lcF cf own e p c) ds s = some r) : KeepX own s r.2 :=
  compL_keep (R := KeepX own) (fun s => .refl own s) (fun a b c => .trans) (fun x s1 r hr => lcF_keep hr) h
theorem lc2F_keep {own own2 : List Nat} {e a2 : CE} {p p2 : Pt} {c c2 : CO} {x : D} {s1 : LS} {r : List D × LS} (h : lc2F cf own own2 e p c p2 a2 c2 x s1 = some r) : KeepX own s1 r.2 := by
  obtain ⟨s2, k, h1, h2, h3⟩ := lc2F_inv h
  have kk : KeepX own s1 k.2 := (wipeS_keep s1 own).trans ((bindP_keep h1).trans (evC_keep cf c s2 k.1 k.2 h2)).x
  rcases h3 with ⟨_, y, ds2, q, h3, _, _, h4, rfl⟩ | ⟨_, rfl⟩
  · exact kk.trans ((evE_keep cf a2 k.2 y.1 y.2 h3).trans (backS_keep (compL_keepX h4))).x
  · exact kk
/-- the whole inner walk, from σ2 on -/
theorem lc_inner {own2 : List Nat} {e : CE} {p2 : Pt} {c2 : CO} {F G0 G1 H1 : Hp} {t0 : LS} {σ2 : St} {ds2 : List D} {q : List D × LS} {J : It} {D0 : Addr} {acc0 : List V} {Nx : Hp → Prop} (hp2 : ∀ i ∈ p2.is, i ∈ own2)
    (rep : Rep X.K F G1 t0 σ2 H1) (hd : Held F G1 H1 t0 σ2 D0 (.lst acc0)) (hok : ownOk t0 own2 = true) (wd : WalkD X.K J ds2 G0 (fun _ => none)) (sm0 : Same G0 G1) (eq : compL (lcF cf own2 e p2 c2) ds2 t0 = some q) (hsz : acc0.length + q.1.length ≤ sizeLine)
    (fin : ∀ H' G' acc', Same G1 G' → Rep X.K F G' (backS t0 q.2 own2) σ2 H' → Held F G' H' (backS t0 q.2 own2) σ2 D0 (.lst (acc0 ++ acc')) → DenL X.K G' acc' q.1 → Nx H') :
    ∃ W1 : Nat → Nat → Hp → Prop, (∃ m, W1 0 m H1) ∧ ∀ j k H, W1 j k H →
      (J.stop j H ∧ Nx H) ∨ (J.go j H ∧ ∃ Nx1 : Hp → Prop, (∀ H', Nx1 H' → ∃ k', k' < k ∧ W1 (j + 1) k' H') ∧ ∀ x H', J.yld j H x H' → gPt X.K p2 x (wipe σ2 own2) H' fun σ3 H5 => wipe σ3 own2 = wipe σ2 own2 ∧ TDB X.K (evC cf c2) σ3 H5 fun b H6 =>
        if b = true then TDE X.K (evE cf e) σ3 H6 fun y H7 => ∃ acc, H7 D0 = some (.lst acc) ∧ acc.length < sizeLine ∧ Nx1 (upd H7 D0 (.lst (acc ++ [y]))) else Nx1 H6) := by
  have wipeHeld : ∀ {Gx Hx : Hp} {sx : LS} {o : HO}, Held F Gx Hx sx σ2 D0 o → Held F Gx Hx (wipeS sx own2) (wipe σ2 own2) D0 o := fun {Gx Hx sx o} h => ⟨h.h, h.f, h.g, fun i y hy my z => by
    rw [wipeS_slot] at hy
    split at hy
    · cases hy
    · rename_i hi
      rw [wipe_get, if_neg (fun w => hi w.1)] at z
      exact h.no i y hy my z⟩
  refine lc_in wd (fun i Hi => ∃ (Gi : Hp) (si : LS) (acc : List V) (accD : List D) (rest : List D × LS), Same G1 Gi ∧ KeepX own2 t0 si ∧ Rep X.K F Gi (wipeS si own2) (wipe σ2 own2) Hi ∧ Held F Gi Hi (wipeS si own2) (wipe σ2 own2) D0 (.lst (acc0 ++ acc)) ∧ DenL X.K Gi acc accD ∧
        compL (lcF cf own2 e p2 c2) (ds2.drop i) si = some rest ∧ q = (accD ++ rest.1, rest.2)) ?_ ?_ ?_ ?_
  · exact ⟨G1, t0, [], [], q, Same.refl _, .refl _ _, rep.wipe own2, by rw [List.append_nil]; exact wipeHeld hd, .nil, by rw [List.drop_zero]; exact eq, rfl⟩
  · rintro i Hi hi ⟨Gi, si, acc, accD, rest, sm, _, ri, _⟩
    exact ⟨sm0.trans (sm.trans ri.gh), fun b o z => by cases z⟩
  · rintro i x Hi H' hi ⟨Gi, si, acc, accD, rest, sm, kx, ri, hdi, dl, ec, er⟩ ⟨d, hds, y⟩
    obtain ⟨r1, rq, ef, ecq, erest⟩ := compL_drop hds ec
    obtain ⟨Gj, smj, rj, dj, hdj⟩ := yld_ok ri (sm0.trans sm) y hdi
    have kx' : KeepX own2 t0 r1.2 := kx.trans (lcF_keep ef)
    have el : q = (accD ++ r1.1 ++ rq.1, rq.2) := by rw [er, erest, List.append_assoc]
    refine lc_turn (Z := fun H2 => ∃ (Gi : Hp) (si : LS) (acc : List V) (accD : List D) (rest : List D × LS), Same G1 Gi ∧ KeepX own2 t0 si ∧ Rep X.K F Gi (wipeS si own2) (wipe σ2 own2) H2 ∧ Held F Gi H2 (wipeS si own2) (wipe σ2 own2) D0 (.lst (acc0 ++ acc)) ∧ DenL X.K Gi acc accD ∧
        compL (lcF cf own2 e p2 c2) (ds2.drop (i + 1)) si = some rest ∧ q = (accD ++ rest.1, rest.2)) hp2 rj hdj dj ef (fun H2 G2 hn sm2 r2 hd2 => ?_) (fun H2 G2 v dv z sm2 r2 hd2 dn => ⟨?_, ?_⟩)
    · exact ⟨G2, r1.2, acc, accD, rq, sm.trans (smj.trans sm2), kx', r2, hd2, dl.mono (smj.trans sm2), ecq, by rw [el, hn, List.append_nil]⟩
    · have e1 : q.1 = accD ++ r1.1 ++ rq.1 := by rw [el]
      rw [e1, z] at hsz
      simp only [List.length_append, List.length_cons, List.length_nil, ← dl.length] at hsz ⊢
      omega
    · exact ⟨G2, r1.2, acc ++ [v], accD ++ [dv], rq, sm.trans (smj.trans sm2), kx', r2, by rw [← List.append_assoc]; exact hd2, (dl.mono (smj.trans sm2)).append (.cons dn .nil), ecq, by rw [el, z]⟩
  · rintro Hn ⟨Gn, sn, acc, accD, rest, sm, kx, rn, hdn, dl, ec, er⟩
    rw [List.drop_length] at ec
    cases ec
    have hr1 : q.1 = accD := by rw [er]; simp
    have hr2 : q.2 = sn := by rw [er]
    rw [hr2, hr1] at fin
    refine fin Hn Gn acc sm (Rep.backS rep hok sm kx.len rn) ⟨hdn.h, hdn.f, hdn.g, fun k w hw mw z => ?_⟩ dl
    rw [backS_slot t0 sn kx.len] at hw
    split at hw
    · rename_i hk
      rw [ownOk_inv hok k hk w hw] at mw
      cases mw
    · rename_i hk
      exact hdn.no k w (by rw [wipeS_slot, if_neg hk]; exact hw) mw (by rw [wipe_get, if_neg (fun u => hk u.1)]; exact z)
theorem lc2_core' {own own2 : List Nat} {e a2 : CE} {p p2 : Pt} {it : CI} {c c2 : CO} (hp : ∀ i ∈ p.is, i ∈ own) (hp2 : ∀ i ∈ p2.is, i ∈ own2) (h12 : ∀ i ∈ own2, i ∈ own) : ∀ σ H Q, TDE X.K (evE cf (.lc2 own own2 e p it c p2 a2 c2)) σ H Q →
    tLc2 (TDI X.K (evI cf it)) (gPt X.K p) (TDB X.K (evC cf c)) (TDZ X.K (evE cf a2)) (gPt X.K p2) (TDB X.K (evC cf c2)) (TDE X.K (evE cf e)) own own2 σ H Q := by
  rintro σ H Q ⟨F, G, s, x, s', rep, ee, q⟩
  simp only [evE, Option.bind_eq_some_iff] at ee
  obtain ⟨⟨ds, o, s0⟩, e1, e2⟩ := ee
  split at e2
  · rename_i hok
    simp only [Option.bind_eq_some_iff] at e2
    obtain ⟨r, e3, e4⟩ := e2
    split at e4
    · rename_i hsz
      cases e4
      have hsz : r.1.length ≤ sizeLine := of_decide_eq_true hsz
      have e3 : compL (lc2F cf own own2 e p c p2 a2 c2) ds s0 = some r := e3
      refine ⟨F, G, s, ds, o, s0, rep, e1, fun J H1 G1 F1 s1 sm1 r1 lf r1' wd D0 nD => ?_⟩
      have nF1 : F1 D0 = none := r1'.fh.free nD
      -- the outer invariant
      let Pv : Nat → Hp → Prop := fun i Hi => ∃ (Gi : Hp) (si : LS) (acc : List V) (accD : List D) (rest : List D × LS), Same G1 Gi ∧ KeepX own s0 si ∧ Rep X.K F1 Gi (wipeS si own) (wipe σ own) Hi ∧ Held F1 Gi Hi (wipeS si own) (wipe σ own) D0 (.lst acc) ∧ DenL X.K Gi acc accD ∧
        compL (lc2F cf own own2 e p c p2 a2 c2) (ds.drop i) si = some rest ∧ r = (accD ++ rest.1, rest.2)
      refine ⟨fun i m H => m = ds.length - i ∧ i ≤ ds.length ∧ Pv i H, ⟨ds.length, by simp, Nat.zero_le _, G1, s0, [], [], r, Same.refl _, .refl _ _, (r1'.wipe own).newH nD, Held.new (r1'.wipe own) nD, .nil, by rw [List.drop_zero]; exact e3, rfl⟩, ?_⟩
      rintro i m Hi ⟨rfl, hi, pv⟩
      obtain ⟨Gi, si, acc, accD, rest, sm, kx, ri, hd, dl, ec, er⟩ := pv
      have wg : Same G1 Hi ∧ Same F1 Hi := ⟨sm.trans ri.gh, ri.fh⟩
      by_cases hlt : i < ds.length
      · refine .inr ⟨wd.goes i Hi hlt wg, Pv (i + 1), fun H' p' => ⟨ds.length - (i + 1), by omega, rfl, hlt, p'⟩, fun x H' y => ?_⟩
        obtain ⟨d, hds, y⟩ := wd.yields i Hi x H' hlt wg y
        obtain ⟨rr, rq, ef, ecq, erest⟩ := compL_drop hds ec
        obtain ⟨Gj, smj, rj, dj, hdj⟩ := yld_ok ri sm y hd
        have kx' : KeepX own s0 rr.2 := kx.trans (lc2F_keep ef)
        have el : r = (accD ++ rr.1 ++ rq.1, rq.2) := by rw [er, erest, List.append_assoc]
        have hlen : acc.length + rr.1.length ≤ sizeLine := by
          have : r.1 = accD ++ rr.1 ++ rq.1 := by rw [el]
          rw [this] at hsz
          simp only [List.length_append, ← dl.length] at hsz
          omega
        obtain ⟨s2, k, h1, h2, h3⟩ := lc2F_inv ef
        refine bind_ok rj dj h1 fun σ2 r2 off _ => ?_
        have ew : wipe σ2 own = wipe σ own := by rw [wipe_off (off.mono hp), wipe_wipe]
        refine ⟨ew, ?_⟩
        have hd2 : Held F1 Gj H' s2 σ2 D0 (.lst acc) := by
          refine ⟨hdj.h, hdj.f, hdj.g, fun i y hy my z => ?_⟩
          by_cases hi : i ∈ p.is
          · rw [bindP_fz h1 i hi y hy] at my
            cases my
          · rw [off.2 i hi] at z
            rw [bindP_off h1 i hi] at hy
            exact hdj.no i y hy my z
        have r2h := hd2.hold r2
        refine ⟨_, Gj, s2, k.1, k.2, r2h, h2, fun H3 G3 sm3 r3 => ?_⟩
        obtain ⟨r3', hd3⟩ := hd2.after r2 (evC_keep cf c s2 k.1 k.2 h2) sm3 r3
        have finw : ∀ {Hx Gx : Hp} {sx : LS} {o : HO}, Rep X.K F1 Gx sx σ2 Hx → Held F1 Gx Hx sx σ2 D0 o → Rep X.K F1 Gx (wipeS sx own) (wipe σ own) Hx ∧ Held F1 Gx Hx (wipeS sx own) (wipe σ own) D0 o := fun {Hx Gx sx o} r h => by
          have rw_ := r.wipe own
          rw [ew] at rw_
          refine ⟨rw_, h.h, h.f, h.g, fun i y hy my z => ?_⟩
          rw [wipeS_slot] at hy
          split at hy
          · cases hy
          · rename_i hi
            rw [← ew, wipe_get, if_neg (fun w => hi w.1)] at z
            exact h.no i y hy my z
        rcases h3 with ⟨hk, y2, ds2, qq, h4, h5, h6, h7, rfl⟩ | ⟨hk, rfl⟩
        · rw [hk, if_pos rfl]
          refine ⟨_, G3, k.2, y2.1, y2.2, ds2, r3, h4, h5, fun J2 H4 G4 sm4 r4 wd2 => ?_⟩
          obtain ⟨r4', hd4⟩ := hd3.after r3' (evE_keep cf a2 k.2 y2.1 y2.2 h4) sm4 r4
          refine lc_inner hp2 r4' hd4 h6 wd2 (Same.refl _) h7 hlen fun H5 G5 acc' sm5 r5 hd5 dl5 => ?_
          obtain ⟨r6, hd6⟩ := finw r5 hd5
          exact ⟨G5, backS y2.2 qq.2 own2, acc ++ acc', accD ++ qq.1, rq, sm.trans (smj.trans (sm3.trans (sm4.trans sm5))), kx', r6, hd6, (dl.mono (smj.trans (sm3.trans (sm4.trans sm5)))).append dl5, ecq, el⟩
        · rw [hk, if_neg Bool.false_ne_true]
          obtain ⟨r6, hd6⟩ := finw r3' hd3
          exact ⟨G3, k.2, acc, accD, rq, sm.trans (smj.trans sm3), kx', r6, hd6, dl.mono (smj.trans sm3), ecq, by rw [el, List.append_nil]⟩
      · have ei : i = ds.length := by omega
        subst ei
        refine .inl ⟨wd.stops Hi wg, ?_⟩
        rw [List.drop_length] at ec
        cases ec
        have hr1 : r.1 = accD := by rw [er]; simp
        have hr2 : r.2 = si := by rw [er]
        have rb := Rep.backS r1' hok sm kx.len ri
        have ru := lf.back r1 (backS_keep kx) (fun _ _ _ _ => rfl) sm rb
        rw [hr2] at q
        refine q _ Hi Gi (sm1.trans sm) ru ⟨D0, rfl, r1.fh.free nD, hd.g, ⟨acc, hd.h, by rw [hr1]; exact dl⟩, fun j y hy my z => ?_⟩
        have old : ∀ k w, slot (backS s0 si own) k = some w → w.m.isOw = true → σ[k]? ≠ some (some (.ref D0)) := fun k w hw mw z => by
          rw [backS_slot s0 si kx.len] at hw
          split at hw
          · rename_i hk
            rw [ownOk_inv hok k hk w hw] at mw
            cases mw
          · rename_i hk
            exact hd.no k w (by rw [wipeS_slot, if_neg hk]; exact hw) mw (by rw [wipe_get, if_neg (fun u => hk u.1)]; exact z)
        exact lf.noOwn (backS_keep kx) old nF1 j y hy my z
    · cases e4
  · cases e2
end
end LP

end
section
set_option Elab.async false
set_option linter.all false
set_option maxRecDepth 100000
set_option maxHeartbeats 4000000
/-! LP17: set(list of ints), sorted. -/
namespace LP
open PySem PySem.Spec L2
open PyProof.Rows hiding St
variable [Zk]
/-- an empty set, as it is laid -/
abbrev zeroSet (w : World) : Obj := { cls := .type "set", dict := none, data := .set #[] 0 (.fresh 0 0 (!w.params.followText "set-order")) }
section
variable {P : Program} {w : World} {A : Around} {E : Value → Shared → Prop} {s : Shared}
theorem call_set_lstI {l : Addr} {items : Array Value} (ns : List Int) {Q : Value → Shared → Prop} (hh : A.handled = none) (hl : s.heap.IsList l items) (hit : IntsAre items.toList ns) (hb : ns.length + 1 < scanBound)
    (h : ∀ (h' : Heap) (tk c : Nat), SetR w h' s.heap.objs.size (fun j => decide (j ∈ ns)) c → c ≤ ns.length → (∀ b o, s.heap.get? b = some o → h'.get? b = some o) → Q (.ref s.heap.objs.size) { s with heap := h', toks := tk }) :
    wpAny (model P w) A (call (.type "set") [.ref l]) Q E s := by
  have isz : items.size = ns.length := by
    have q := IntsAre.length hit
    rwa [Array.length_toList] at q
  obtain ⟨c, tl, hmro⟩ := F.called_set.mro
  have hmade := F.called_set.made
  have hsub := F.called_set.sub
  refine wpAny_call (codeAny_of_tree ?_)
  show wpAny _ _ (callAny (.type "set") _) _ _ _
  refine wpAny_pure ⟨Code.quiet_builtin _ (by decide +kernel), codeAny_builtin F.entry_type_call ?_⟩
  rw [Around.under_plain (weight_type_call_type "set" [.ref l] []) rfl]
  have h1 := F.called_set.notType
  have h2 := F.called_set.canCreate
  have hct := F.typeCall_set_1 (.ref l)
  repeat (any_goals (first | assumption | wp_step))
  refine codeAny_mono (code_set_led1 (.ref l) (E := E) (Q₁ := fun obj t => obj = .ref s.heap.objs.size ∧ t = { s with heap := s.heap.push (zeroSet w) }) ⟨rfl, rfl⟩) fun r t hr => ?_
  cases r with
  | error e => exact hr
  | ok fl =>
    cases fl with
    | next => exact hr
    | brk => exact hr
    | cont => exact hr
    | ret obj =>
      obtain ⟨rfl, rfl⟩ := hr
      have hS : (s.heap.push (zeroSet w)).get? s.heap.objs.size = some (zeroSet w) := Heap.get?_push_size _ rfl
      have hT : Shared.TypeIs { s with heap := s.heap.push (zeroSet w) } (.ref s.heap.objs.size) "set" := ⟨_, hS, rfl⟩
      have hli := F.called_set.init.lookup
      have hbi := F.called_set.init.bind (.ref s.heap.objs.size)
      repeat (any_goals (first | assumption | wp_step))
      refine codeAny_mono (codeAny_call_builtin (R := wants (fun r t => r = .none ∧ ∃ h' tk c, t = { s with heap := h', toks := tk } ∧ SetR w h' s.heap.objs.size (fun j => decide (j ∈ ns)) c ∧ c ≤ ns.length ∧ (∀ b o, s.heap.get? b = some o → h'.get? b = some o)) E) F.called_set.init.plain F.entry_set_init (check_set_init_1 hT ?_)) fun r2 t2 hr2 => ?_
      · obtain ⟨ol, hol, hcl, nl, hdl⟩ := hl
        obtain ⟨ocls, odict, odata, oslots⟩ := ol
        simp only at hcl hdl
        subst hcl
        subst hdl
        have hol' : (s.heap.push (zeroSet w)).get? l = some { cls := .type "list", dict := odict, data := .seq items nl, slots := oslots } := Heap.get?_push_of_some _ hol
        have hsls := F.sub_list_set
        have hslf := F.sub_list_frozenset
        have hne : (Value.type "list" == Value.type "dict") = false := by decide
        have hl1 : (s.heap.push (zeroSet w)).IsList l items := ⟨_, hol', rfl, nl, rfl⟩
        unfold Builtin.«set.__init__» noKeywords Builtin.Frozenset.updateFrom
        generalize hPI : pyIter = PI
        wp_walk
        subst hPI
        refine wpAny_pyIter_list hl1 ?_
        refine wpAny_bind (wpAny_runValue ?_)
        have hlS : l < s.heap.objs.size := Heap.lt_size hol
        have hh3 : A.in1.in1.in1.handled = none := by simp [hh]
        have z1 : (s.heap.push (zeroSet w)).objs.size = s.heap.objs.size + 1 := Heap.size_push ..
        have neI : l ≠ (s.heap.push (zeroSet w)).objs.size := by
          rw [z1]
          exact Nat.ne_of_lt (Nat.lt_succ_of_lt hlS)
        have hSf : s.heap.objs.size ∉ [(s.heap.push (zeroSet w)).objs.size, l] := by
          rw [z1]
          simp only [List.mem_cons, List.not_mem_nil, or_false, not_or]
          exact ⟨Nat.ne_of_lt (Nat.lt_succ_self _), Nat.ne_of_gt hlS⟩
        have hval : ∀ (i : Nat) (v : Value), items[i]? = some v → ∃ k t, ns[i]? = some k ∧ v = .int k t := fun i v hv => by
          have hi : i < ns.length := by
            rw [← isz]
            exact (Array.getElem?_eq_some_iff.mp hv).1
          obtain ⟨t, e⟩ := PyProof.Rows.IntsAre.int_at hit i v (by rw [Array.getElem?_toList]; exact hv)
          refine ⟨ns[i], t, List.getElem?_eq_getElem hi, ?_⟩
          rw [e, List.getD_eq_getElem?_getD, List.getElem?_eq_getElem hi] <;> rfl
        refine set_update_ints ((Walks.list hh3 _ l neI items).toS) s.heap.objs.size hSf ns isz hb hval (items.size - 0) 0 _ (by omega) (Nat.zero_le _) ⟨⟨_, Heap.get?_push_size _ rfl, rfl, rfl⟩, (hl1.push _)⟩ ?hS0 ?hR
        case hS0 => exact ⟨0, Nat.le_refl 0, setR_new_at (Heap.get?_push_of_some _ hS)⟩
        case hR =>
          intro s' c' hm hc' hS'
          obtain ⟨h', g2, d', tk', os'⟩ := s'
          have eg : g2 = s.gens := hm.gens
          have ed : d' = s.drawn := hm.drawn
          have eo : os' = s.os := hm.os
          subst eg ed eo
          show wpAny _ _ _ _ _ _
          refine wpAny_pure ?_
          show wpAny _ _ (ret Value.none) _ _ _
          rw [isz] at hc'
          refine wpAny_pure ⟨rfl, h', tk', c', rfl, hS', hc', fun b o e => ?_⟩
          have hb0 : b < s.heap.objs.size := Heap.lt_size e
          refine hm.heap b o ?_ (Heap.get?_push_of_some _ (Heap.get?_push_of_some _ e))
          rw [z1]
          simp only [List.mem_cons, List.not_mem_nil, or_false, not_or]
          exact ⟨Nat.ne_of_lt hb0, Nat.ne_of_lt (Nat.lt_succ_of_lt hb0)⟩
      · cases r2 with
        | error e => exact hr2
        | ok fl =>
          cases fl with
          | next => exact hr2
          | brk => exact hr2
          | cont => exact hr2
          | ret v =>
            obtain ⟨rfl, h', tk, c, rfl, hS', hc', hk⟩ := hr2
            repeat (any_goals (first | assumption | wp_step))
            exact h h' tk c hS' hc' hk
end
end LP

end
section
set_option Elab.async false
set_option linter.all false
/-! LPL: sorted lists of ints. -/
namespace LP
/-! ### plain lists -/
theorem insI_mem (x k : Int) : ∀ l : List Int, k ∈ insI x l ↔ k = x ∨ k ∈ l
  | [] => by simp [insI]
  | y :: r => by
    unfold insI
    split
    · simp
    · rw [List.mem_cons, insI_mem x k r, List.mem_cons]
      constructor
      · rintro (h | h | h)
        · exact .inr (.inl h)
        · exact .inl h
        · exact .inr (.inr h)
      · rintro (h | h | h)
        · exact .inr (.inl h)
        · exact .inl h
        · exact .inr (.inr h)
theorem sortI_mem (k : Int) : ∀ l : List Int, k ∈ sortI l ↔ k ∈ l
  | [] => by simp [sortI]
  | x :: r => by
    unfold sortI
    rw [insI_mem, sortI_mem k r, List.mem_cons]
theorem dedup_mem (k : Int) : ∀ l : List Int, k ∈ dedup l ↔ k ∈ l
  | [] => by simp [dedup]
  | x :: r => by
    unfold dedup
    split
    · rename_i h
      rw [dedup_mem k r, List.mem_cons]
      constructor
      · exact .inr
      · rintro (z | z)
        · rw [z]; exact h
        · exact z
    · rw [List.mem_cons, dedup_mem k r, List.mem_cons]
theorem dedup_nodup : ∀ l : List Int, (dedup l).Nodup
  | [] => by simp [dedup]
  | x :: r => by
    unfold dedup
    split
    · exact dedup_nodup r
    · rename_i h
      exact List.nodup_cons.mpr ⟨fun z => h ((dedup_mem x r).mp z), dedup_nodup r⟩
theorem insI_lt (x : Int) : ∀ l : List Int, l.Pairwise (· < ·) → x ∉ l → (insI x l).Pairwise (· < ·)
  | [], _, _ => by simp [insI]
  | y :: r, h, hn => by
    unfold insI
    rw [List.pairwise_cons] at h
    have hxy : x ≠ y := fun z => hn (by rw [z]; exact List.mem_cons_self)
    split
    · rename_i hle
      refine List.pairwise_cons.mpr ⟨fun k hk => ?_, List.pairwise_cons.mpr h⟩
      rcases List.mem_cons.mp hk with z | z
      · rw [z]; omega
      · have := h.1 k z; omega
    · rename_i hle
      refine List.pairwise_cons.mpr ⟨fun k hk => ?_, insI_lt x r h.2 fun z => hn (List.mem_cons_of_mem _ z)⟩
      rcases (insI_mem x k r).mp hk with z | z
      · rw [z]; omega
      · exact h.1 k z
theorem sortI_lt : ∀ l : List Int, l.Nodup → (sortI l).Pairwise (· < ·)
  | [], _ => by simp [sortI]
  | x :: r, h => by
    rw [List.nodup_cons] at h
    exact insI_lt x _ (sortI_lt r h.2) fun z => h.1 ((sortI_mem x r).mp z)
theorem lt_ext : ∀ {a b : List Int}, a.Pairwise (· < ·) → b.Pairwise (· < ·) → (∀ k, k ∈ a ↔ k ∈ b) → a = b
  | [], [], _, _, _ => rfl
  | [], y :: b, _, _, h => absurd ((h y).mpr List.mem_cons_self) (by simp)
  | x :: a, [], _, _, h => absurd ((h x).mp List.mem_cons_self) (by simp)
  | x :: a, y :: b, ha, hb, h => by
    rw [List.pairwise_cons] at ha hb
    have e : x = y := by
      rcases List.mem_cons.mp ((h x).mp List.mem_cons_self) with z | z
      · exact z
      · rcases List.mem_cons.mp ((h y).mpr List.mem_cons_self) with u | u
        · exact u.symm
        · have := hb.1 x z; have := ha.1 y u; omega
    subst e
    rw [lt_ext ha.2 hb.2 fun k => ?_]
    constructor
    · intro hk
      rcases List.mem_cons.mp ((h k).mp (List.mem_cons_of_mem _ hk)) with z | z
      · have := ha.1 k hk; omega
      · exact z
    · intro hk
      rcases List.mem_cons.mp ((h k).mpr (List.mem_cons_of_mem _ hk)) with z | z
      · have := hb.1 k hk; omega
      · exact z
theorem sset_eq {ns out : List Int} (h : out.Pairwise (· < ·)) (hm : ∀ k : Int, k ∈ out ↔ decide (k ∈ ns) = true) : out = sortI (dedup ns) :=
  lt_ext h (sortI_lt _ (dedup_nodup ns)) fun k => by rw [hm, decide_eq_true_eq, sortI_mem, dedup_mem]
end LP

end
section
set_option Elab.async false
set_option linter.all false
set_option maxRecDepth 100000
set_option maxHeartbeats 4000000
/-! LP18: sorted(set(..)), sorted({.. for ..}) of ints. -/
namespace LP
open PySem PySem.Spec L2
open PyProof.Rows hiding St
variable [Zk]
section
variable {X : Cx} {cf : CF}
/-- set(e), e a list of ints -/
def rSetL (K : PySem.W.Frag) (w : World) : List V → Hp → VK → Prop := fun xs H Q => ∃ (a : Addr) (ns : List Int), xs = [.ref a] ∧ SqL K H a (ns.map V.int) ∧ ns.length < 64 ∧
  ∀ p c, H p = none → c ≤ ns.length → Q (.ref p) (upd H p (SetO w p (fun j => decide (j ∈ ns)) c))
theorem cr_setL (hc : X.calm = true) : CallR X (.type "set") (rSetL X.K X.w) := by
  intro pins s σ H xs us Q I r h
  obtain ⟨a, ns, rfl, sq, hl, q⟩ := h
  rw [Vals.ref1 r]
  obtain ⟨its, rv, pl, hz⟩ := I.list sq
  refine call_set_lstI ns (I.ok.hd hc) pl.isList (by simpa using ints_of_vals rv) (by unfold scanBound; omega) fun h' tk c hS hcl hk => ?_
  exact ⟨.ref s.heap.objs.size, upd H s.heap.objs.size (SetO X.w s.heap.objs.size (fun j => decide (j ∈ ns)) c), I.laid (t' := tk) (fun b u e => hk b u e) (Nat.le_refl _) (setO_new hS), rfl, q _ c (I.hok.fresh (Nat.le_refl _)) hcl⟩

/-- sorted(e), e comes to a set of ints -/
theorem pe_sortedS {l : Expr} {t : TE} {p pos : Pos} (hc : X.calm = true) (hg : Gl X "sorted") (hm : X.mg "sorted" = none) (ha : PE X l t) (hs : nst l = true) : PE X (.Call (.Name "sorted" p) [l] [] pos) (tCB (rSortedSet X.w) (tCons t tNil)) :=
  pe_callB (cr_sortedSet hc) hg hm (by decide +kernel) (pa_cons ha pa_nil (nst_star hs _ _)) (by decide +kernel) (by decide +kernel) (nst_star hs _ _)
theorem snd_sset {a : CE} {l : Expr} {p p2 pos pos2 : Pos} (hc : X.calm = true) (hg : Gl X "sorted") (hm : X.mg "sorted" = none) (hg2 : Gl X "set") (hm2 : X.mg "set" = none) (ha : PE X l (TDO X.K fun s => opA a (evE cf a s) s)) (hs : nst l = true) :
    PE X (.Call (.Name "sorted" p) [.Call (.Name "set" p2) [l] [] pos2] [] pos) (TDE X.K (evE cf (.b1 .sset a))) := by
  have h2 : PE X (.Call (.Name "set" p2) [l] [] pos2) (tCB (rSetL X.K X.w) (tCons (TDO X.K fun s => opA a (evE cf a s) s) tNil)) := pe_callTy (cr_setL hc) hg2 hm2 (by decide +kernel) (pa_cons ha pa_nil (nst_star hs _ _)) (by decide +kernel) (by decide +kernel) (nst_star hs _ _)
  refine (pe_sortedS hc hg hm h2 rfl).imp fun σ H Q ⟨F, G, s, x, s', rep, e, q⟩ => ?_
  simp only [evE, Option.bind_eq_some_iff, Option.map_eq_some_iff] at e
  obtain ⟨y, e1, dx, e2, rr, e3, e4⟩ := e
  cases e4
  refine ⟨F, G, s, y.1, y.2, rep, e1, fun v H1 G1 sm1 r1 o1 => ?_⟩
  cases dx with
  | list ds =>
    simp only [b1D, onInts, Option.bind_eq_some_iff] at e3
    obtain ⟨ns, e5, e6⟩ := e3
    obtain ⟨hl, e6⟩ := ite_some e6
    cases e6
    obtain ⟨p0, xs, rfl, sq, dl⟩ := (o1.read r1 e2).list r1.gh
    rw [dl.ints e5] at sq
    refine ⟨p0, ns, rfl, sq, hl, fun p1 c n1 hcl => ⟨p1, _, c, rfl, upd_same, by omega, fun out p2 hp hmem hlen n2 => ?_⟩⟩
    rw [sset_eq hp hmem]
    exact (q.mono sm1).newL (r1.newH n1) (denL_ints _) n2
  | _ => cases e3
/-! ### {elt for target in iter if ..}, elt an int -/
def tSi (w : World) (wi : TI) (g : TG) (tt : TT) (te : TE) (vs : List Nat) : TE := fun σ H Q => wi σ H fun J H1 => ∀ D0, H1 D0 = none → ∃ W : Nat → Nat → Hp → Prop, (∃ m, W 0 m (upd H1 D0 (SetO w D0 (fun _ => false) 0))) ∧ ∀ i m H, W i m H →
  (J.stop i H ∧ Q (.ref D0) H) ∨ (J.go i H ∧ ∃ Nx : Hp → Prop, (∀ H', Nx H' → ∃ m', m' < m ∧ W (i + 1) m' H') ∧ ∀ x H', J.yld i H x H' → g x (wipe σ vs) H' fun σ2 H2 => wipe σ2 vs = wipe σ vs ∧ tt σ2 H2 fun b H3 =>
    if b = true then te σ2 H3 fun y H4 => ∃ (k : Int) (S : Int → Bool) (n : Nat), y = .int k ∧ H4 D0 = some (SetO w D0 S n) ∧ n + 1 < scanBound ∧ Nx (upd H4 D0 (SetO w D0 (fun j => S j || decide (j = k)) (if S k = true then n else n + 1))) else Nx H3)
theorem addI_ok {pins : List (Addr × Obj)} {σ : L2.St} {H : Hp} {s : Shared} {E : Value → Shared → Prop} {D0 : Addr} {S : Int → Bool} {n : Nat} {k : Int} {tk : Tok} {Q : Value → Shared → Prop} (I : Inv X pins σ H s) (hD : H D0 = some (SetO X.w D0 S n)) (room : n + 1 < scanBound)
    (q : ∀ s', Inv X pins σ (upd H D0 (SetO X.w D0 (fun j => S j || decide (j = k)) (if S k = true then n else n + 1))) s' → Q .none s') : wpAny (model X.prog X.w) X.A (call (.builtin "set.add") [.ref D0, .int k tk]) Q E s := by
  refine setR_add (setO_get I hD) room fun h2 sb new => ?_
  have there : ∃ u, h2.get? D0 = some u := by
    obtain ⟨o, _, _, _, ho, _⟩ := new
    exact ⟨o, ho⟩
  exact q _ (I.write (e := D0) (t' := s.toks + 1) (by rw [hD]; trivial) (.inl rfl) (fun b u hb hu => (sb.2 b hb).trans hu) there (setO_new new))
theorem si_core {pins : List (Addr × Obj)} {s : Shared} {σ : L2.St} {H : Hp} {Q : VK} {elt tg iter : Expr} {ifs : List Expr} {scope : Scope} {own : List (PySem.Str × Nat)} {pos pos' : Pos} {wi : TI} {g : TG} {tt : TT} {te : TE} {use : Option (Value → Sem Unit)} {Qf : Value → Shared → Prop}
    (calm : X.calm = true) (nd : X.N.Nodup) (I : Inv X pins σ H s) (hi : PI X tg iter wi) (ok : BlkOk X.N X.env.scope scope own)
    (hg : ∀ (z : Shared) (H0 : Hp) (C : Addr) (cl : List (PySem.Str × Addr)) (fp : List Addr), PG (X.blk z H0 scope (compEnvC scope cl C X.env) fp) tg g) (ht : ∀ (z : Shared) (H0 : Hp) (C : Addr) (cl : List (PySem.Str × Addr)) (fp : List Addr), PTs (X.blk z H0 scope (compEnvC scope cl C X.env) fp) ifs tt)
    (he : ∀ (z : Shared) (H0 : Hp) (C : Addr) (cl : List (PySem.Str × Addr)) (fp : List Addr), PE (X.blk z H0 scope (compEnvC scope cl C X.env) fp) elt te) (hs : ∀ x, foldedSetIterable iter X.env x = pure x)
    (h : tSi X.w wi g tt te (own.map (·.2)) σ H Q)
    (fini : ∀ D0 C s' m H', Inv X pins σ H' s' → Q (.ref D0) H' → s'.heap.Ns C m → FpOk X pins H' C → compPost (model X.prog X.w) X.A X.xe use Qf (.ref D0) C (.ok .next) s') :
    wpAny (model X.prog X.w) X.A (comprehension (.SetComp elt [⟨tg, iter, ifs, 0⟩] scope pos) scope X.env pos' (newSet (.type "set")) false (eval iter X.env) use) Qf X.xe s := by
  have cells : ∀ y ∈ scope.names, y.2 = .free → ∃ c, X.env.cells.lookup y.1 = some c := fun y hy e => (ok.free y hy e).elim (fun k => I.ok.has _ (.inl k)) fun k => I.ok.has _ (.inr k)
  refine wpAny_comprehension_free (use := use) rfl hs (closure_ok cells) ok.kind (fun y hy e => by rw [ok.uniq y hy, e]) (thn (hi.run pins s σ H _ I h) fun xv sa hx => thn hx fun itv sb hb => ?_)
  obtain ⟨it, fp, tn, J, Hb, e, Ib, T, stb, fb, q⟩ := hb
  subst e
  refine PpSet.newSet_ok (newEnv_comp ?_)
  generalize hD : sb.heap.objs.size = D0
  obtain ⟨W, ⟨m0, w0⟩, turn⟩ := q D0 (Ib.hok.fresh (Nat.le_of_eq hD))
  generalize hsc : ({ sb with heap := sb.heap.push (zeroSet X.w) } : Shared) = sc
  generalize hHc : upd Hb D0 (SetO X.w D0 (fun _ => false) 0) = Hc at w0
  have hpc : sc.heap = sb.heap.push (zeroSet X.w) := by rw [← hsc]
  have Ic : Inv X pins σ Hc sc := by
    rw [← hsc, ← hHc]
    refine Ib.laid (t' := sb.toks) (fun b o e => Heap.get?_push_of_some _ e) (Nat.le_of_eq hD) ?_
    rw [← hD]
    exact setO_new (setR_fresh X.w)
  have fc : ∀ b ∈ fp, FpOk X pins Hc b ∧ b < sc.heap.objs.size := fun b hb => by
    obtain ⟨o, eo, _⟩ := T.obj _ _ stb b hb
    have lt : b < sb.heap.objs.size := Heap.lt_size eo
    have ne : b ≠ D0 := by rw [← hD]; exact Nat.ne_of_lt lt
    refine ⟨⟨?_, (fb b hb).2⟩, by rw [hpc, Heap.size_push]; exact Nat.lt_succ_of_lt lt⟩
    rw [← hHc, upd_ne ne]
    exact (fb b hb).1
  have stc : tn 0 sc.heap := T.keep _ _ _ stb fun b _ o eo => by rw [hpc]; exact Heap.get?_push_of_some _ eo
  have Id := block_start Ic ok nd fc
  generalize hC : sc.heap.objs.size = C0 at Id
  generalize hcl : cellsFrom (C0 + 1) scope.names (cloFrom X.env.cells scope.names []) = cl at Id
  have pg := hg sc Hc C0 cl fp
  have pt := ht sc Hc C0 cl fp
  have pe := he sc Hc C0 cl fp
  show codeAny _ _ (.compStart (.SetComp elt [⟨tg, iter, ifs, 0⟩] scope pos) 0 (.ref it) (.ref D0) (compEnvC scope cl C0 X.env)) (compPost (model X.prog X.w) X.A X.xe use Qf (.ref D0) C0) { sc with heap := pushCells (sc.heap.push { cls := .type "dict", data := .dict #[] }) scope.names }
  generalize hce : compEnvC scope cl C0 X.env = ce at Id pg pt pe ⊢
  have loc : ce.locals = C0 := by rw [← hce]; rfl
  generalize hsd : ({ sc with heap := pushCells (sc.heap.push { cls := .type "dict", data := .dict #[] }) scope.names } : Shared) = sd at Id ⊢
  have std : tn 0 sd.heap := T.keep _ _ _ stc fun b _ o eo => by rw [← hsd]; exact pushCells_keeps _ _ _ _ (Heap.get?_push_of_some _ eo)
  have foot : ∀ {σ' : L2.St} {H' : Hp} {s' : Shared}, Inv (X.blk sc Hc scope ce fp) [] σ' H' s' → (∀ b ∈ fp, H' b = none) → ∀ b ∈ fp, FpOk (X.blk sc Hc scope ce fp) [] H' b := fun {σ' H' s'} I' hn b hb =>
    ⟨hn b hb, (I'.ok.exf b hb).1, I'.ok.exfs b hb, .inl hb, fun x c e => (I'.ok.exf b hb).2 x c e, fun p hp => absurd (show p ∈ ([] : List (Addr × Obj)) ++ [] from hp) (by simp)⟩
  have whole : codeAny (model X.prog X.w) X.A (.compLoop (.SetComp elt [⟨tg, iter, ifs, 0⟩] scope pos) 0 (.ref it) (.ref D0) ce) (compPost (model X.prog X.w) X.A X.xe use Qf (.ref D0) C0) sd := by
    refine PpSet.compLoopS_any (fun n s' => ∃ i H', Inv (X.blk sc Hc scope ce fp) [] (wipe σ (own.map (·.2))) H' s' ∧ tn i s'.heap ∧ (∀ b ∈ fp, H' b = none) ∧ W i n H') ?_ m0 ⟨0, Hc, Id, std, fun b hb => (fc b hb).1.1, w0⟩
    rintro n se ⟨i, He, Ie, ste, ne, we⟩
    rcases turn i n He we with ⟨stop, qq⟩ | ⟨go, Nx, hNx, step⟩
    · refine thnF (T.done (X.blk sc Hc scope ce fp) rfl rfl rfl calm i [] se _ He (fun _ _ => False) Ie (foot Ie ne) ste stop) fun r sf ⟨hr, If⟩ => ?_
      subst hr
      have Ig : Inv X pins σ He sf := Ic.call' (ch := fp) If.os If.base If.hok If.bare fun b hb => ⟨(fc b hb).1.2.2.2.1, (fc b hb).1.2.1, (fc b hb).1.2.2.2.2.1, (fc b hb).1.2.2.2.2.2⟩
      have nC : He C0 = none := by
        rw [← loc]
        exact If.free
      obtain ⟨m, hn, _⟩ := If.loc
      have hn : sf.heap.Ns ce.locals m := hn
      rw [loc] at hn
      refine fini D0 C0 sf m He Ig qq hn ?_
      rw [← hC]
      rw [← hC] at nC
      exact Ic.fpOk (Nat.le_refl _) nC
    · refine thnF (T.item (X.blk sc Hc scope ce fp) rfl rfl rfl calm i [] se _ He (fun _ _ => False) Ie (foot Ie ne) ste go) fun r sf ⟨u, hr, hf⟩ => ?_
      subst hr
      refine thnF hf fun _ sg ⟨x, Hg, Ig, rg, yg, stg, ng⟩ => ?_
      have Ig' := Ig.pinned (foot Ig ng) (T.obj _ _ stg)
      refine thnF (pg.run _ sg _ Hg x u _ Ig' rg (step x Hg yg)) fun _ sh ⟨σh, Hh, Ih, hwh, qh⟩ => ?_
      refine thnF (pt.run _ sh σh Hh _ Ih qh) fun b si ⟨Hi, Ii, qi⟩ => ?_
      have fin : ∀ {s' : Shared} {H' : Hp}, Inv (X.blk sc Hc scope ce fp) ([] ++ pinsAt fp sg.heap) σh H' s' → Nx H' → ∃ m, m < n ∧ ∃ i H', Inv (X.blk sc Hc scope ce fp) [] (wipe σ (own.map (·.2))) H' s' ∧ tn i s'.heap ∧ (∀ b ∈ fp, H' b = none) ∧ W i m H' := fun {s' H'} I' nx => by
        obtain ⟨m', hm, w'⟩ := hNx H' nx
        have still : ∀ b ∈ fp, ∀ o, sg.heap.get? b = some o → s'.heap.get? b = some o ∧ H' b = none := fun b hb o eo => by
          have z := I'.pin (b, o) (List.mem_append_right _ (List.mem_append_right _ (mem_pinsAt hb eo)))
          exact ⟨z.1, z.2.1⟩
        have hl : (wipe σ (own.map (·.2))).length = σh.length := by rw [← hwh, wipe_length]
        refine ⟨m', hm, i + 1, H', (I'.unpinned (pins := [])).weak hl (fun j v ej => ?_), T.keep _ _ _ stg fun b hb o eo => (still b hb o eo).1, fun b hb => ?_, w'⟩
        · rw [← hwh] at ej
          exact (wipe_some ej).1
        · obtain ⟨o, eo, _⟩ := T.obj _ _ stg b hb
          exact (still b hb o eo).2
      cases b with
      | false => exact fin Ii qi
      | true =>
        refine thnF (pe.run _ si σh Hi _ Ii qi) fun z sj ⟨yv, Hj, Ij, rj, k, S0, n0, ey, hDj, hzj, nx⟩ => ?_
        subst ey
        obtain ⟨tk, rfl⟩ := rj
        exact addI_ok (X := X.blk sc Hc scope ce fp) Ij hDj hzj fun sk Ik => fin Ik nx
  exact PpSet.codeAny_compStart_set whole (T.self X.A 0 _ _ _ std whole)
theorem pe_si {elt tg iter : Expr} {ifs : List Expr} {scope : Scope} {own : List (PySem.Str × Nat)} {pos : Pos} {wi : TI} {g : TG} {tt : TT} {te : TE} (calm : X.calm = true) (nd : X.N.Nodup) (hi : PI X tg iter wi) (ok : BlkOk X.N X.env.scope scope own)
    (hg : ∀ (z : Shared) (H0 : Hp) (C : Addr) (cl : List (PySem.Str × Addr)) (fp : List Addr), PG (X.blk z H0 scope (compEnvC scope cl C X.env) fp) tg g) (ht : ∀ (z : Shared) (H0 : Hp) (C : Addr) (cl : List (PySem.Str × Addr)) (fp : List Addr), PTs (X.blk z H0 scope (compEnvC scope cl C X.env) fp) ifs tt)
    (he : ∀ (z : Shared) (H0 : Hp) (C : Addr) (cl : List (PySem.Str × Addr)) (fp : List Addr), PE (X.blk z H0 scope (compEnvC scope cl C X.env) fp) elt te) (hs : ∀ x, foldedSetIterable iter X.env x = pure x) :
    PE X (.SetComp elt [⟨tg, iter, ifs, 0⟩] scope pos) (tSi X.w wi g tt te (own.map (·.2))) := by
  refine ⟨fun pins s σ H Q I h => ?_⟩
  rw [PpSet.eval_SetComp]
  refine si_core calm nd I hi ok hg ht he hs h fun D0 C s' m H' I' q hn f => ⟨m, hn, fun h2 sb => ?_⟩
  obtain ⟨f0, f1, f2, f3, f4, f5⟩ := f
  exact ⟨.ref D0, H', I'.turned (t' := s'.toks) (fun b o hb eo => (sb.2 b hb).trans eo) f0 f1 f3 f4 f5, rfl, q⟩
end
end LP

end
section
set_option Elab.async false
set_option linter.all false
set_option maxRecDepth 100000
set_option maxHeartbeats 2000000
/-! LP19: sorted({.. for ..}); {'k': e, ..}. -/
namespace LP
open PySem PySem.Spec L2
open PyProof.Rows hiding St
variable [Zk]
section
variable {X : Cx} {cf : CF}
theorem si_in {J : It} {n : Nat} {G : Hp → Prop} {Y : Nat → Hp → V → Hp → Prop} (wk : Walk J n G Y) {w : World} {g : TG} {tt : TT} {te : TE} {vs : List Nat} {σ : St} {H1 : Hp} {D0 : Addr} {Qd : Hp → Prop} (Pv : Nat → Hp → Prop) (start : Pv 0 H1) (hG : ∀ i H, i ≤ n → Pv i H → G H)
    (hs : ∀ i x H H', i < n → Pv i H → Y i H x H' → g x (wipe σ vs) H' fun σ2 H2 => wipe σ2 vs = wipe σ vs ∧ tt σ2 H2 fun b H3 =>
      if b = true then te σ2 H3 fun y H4 => ∃ (k : Int) (S : Int → Bool) (n : Nat), y = .int k ∧ H4 D0 = some (SetO w D0 S n) ∧ n + 1 < scanBound ∧ Pv (i + 1) (upd H4 D0 (SetO w D0 (fun j => S j || decide (j = k)) (if S k = true then n else n + 1))) else Pv (i + 1) H3) (hd : ∀ H, Pv n H → Qd H) :
    ∃ W : Nat → Nat → Hp → Prop, (∃ m, W 0 m H1) ∧ ∀ i m H, W i m H →
      (J.stop i H ∧ Qd H) ∨ (J.go i H ∧ ∃ Nx : Hp → Prop, (∀ H', Nx H' → ∃ m', m' < m ∧ W (i + 1) m' H') ∧ ∀ x H', J.yld i H x H' → g x (wipe σ vs) H' fun σ2 H2 => wipe σ2 vs = wipe σ vs ∧ tt σ2 H2 fun b H3 =>
        if b = true then te σ2 H3 fun y H4 => ∃ (k : Int) (S : Int → Bool) (n : Nat), y = .int k ∧ H4 D0 = some (SetO w D0 S n) ∧ n + 1 < scanBound ∧ Nx (upd H4 D0 (SetO w D0 (fun j => S j || decide (j = k)) (if S k = true then n else n + 1))) else Nx H3) := by
  refine ⟨fun i m H => m = n - i ∧ i ≤ n ∧ Pv i H, ⟨n, rfl, Nat.zero_le _, start⟩, fun i m H hW => ?_⟩
  obtain ⟨rfl, hi, p⟩ := hW
  have hg := hG i H hi p
  by_cases hlt : i < n
  · exact .inr ⟨wk.goes i H hlt hg, Pv (i + 1), fun H' p' => ⟨n - (i + 1), by omega, rfl, hlt, p'⟩, fun x H' y => hs i x H H' hlt p (wk.yields i H x H' hlt hg y)⟩
  · have : i = n := by omega
    subst this
    exact .inl ⟨wk.stops H hg, hd H p⟩
theorem set_more (ns : List Int) (k : Int) : (fun j => decide (j ∈ ns) || decide (j = k)) = fun j => decide (j ∈ ns ++ [k]) := by
  funext j
  by_cases h1 : j ∈ ns <;> by_cases h2 : j = k <;> simp [h1, h2]
theorem asInts_app : ∀ {a b : List D} {ns : List Int}, asInts (a ++ b) = some ns → ∃ n1 n2, asInts a = some n1 ∧ asInts b = some n2 ∧ ns = n1 ++ n2
  | [], b, ns, h => ⟨[], ns, rfl, h, rfl⟩
  | x :: a, b, ns, h => by
    cases x with
    | int i =>
      simp only [List.cons_append, asInts, Option.map_eq_some_iff] at h
      obtain ⟨m, h1, h2⟩ := h
      obtain ⟨n1, n2, e1, e2, e3⟩ := asInts_app h1
      exact ⟨i :: n1, n2, by simp [asInts, e1], e2, by rw [← h2, e3]; rfl⟩
    | _ => simp [asInts] at h
/-- a turn: the target, the test, the element -/
theorem si_turn {own : List Nat} {e : CE} {p : Pt} {c : CO} {F Gi Hi : Hp} {si : LS} {σ : St} {d : D} {x : V} {r1 : List D × LS} {D0 : Addr} {ns n1 : List Int} {cn : Nat} {Z : Hp → Prop}
    (hp : ∀ i ∈ p.is, i ∈ own) (rep : Rep X.K F Gi (wipeS si own) (wipe σ own) Hi) (hd : Held F Gi Hi (wipeS si own) (wipe σ own) D0 (SetO X.w D0 (fun j => decide (j ∈ ns)) cn)) (hcn : cn ≤ ns.length) (hl : ns.length + r1.1.length < 64) (dx : Den X.K Gi x d) (ef : lcF cf own e p c d si = some r1) (ei : asInts r1.1 = some n1)
    (q0 : ∀ H' G' c', Same Gi G' → Rep X.K F G' (wipeS r1.2 own) (wipe σ own) H' → c' ≤ (ns ++ n1).length → Held F G' H' (wipeS r1.2 own) (wipe σ own) D0 (SetO X.w D0 (fun j => decide (j ∈ ns ++ n1)) c') → Z H') :
    gPt X.K p x (wipe σ own) Hi fun σ2 H2 => wipe σ2 own = wipe σ own ∧ TDB X.K (evC cf c) σ2 H2 fun b H3 =>
      if b = true then TDE X.K (evE cf e) σ2 H3 fun y H4 => ∃ (k : Int) (S : Int → Bool) (n : Nat), y = .int k ∧ H4 D0 = some (SetO X.w D0 S n) ∧ n + 1 < scanBound ∧ Z (upd H4 D0 (SetO X.w D0 (fun j => S j || decide (j = k)) (if S k = true then n else n + 1))) else Z H3 := by
  obtain ⟨s2, k, h1, h2, h3⟩ := lcF_inv ef
  refine bind_ok rep dx h1 fun σ2 r2 off _ => ?_
  have ew : wipe σ2 own = wipe σ own := by rw [wipe_off (off.mono hp), wipe_wipe]
  refine ⟨ew, ?_⟩
  have hd2 : Held F Gi Hi s2 σ2 D0 (SetO X.w D0 (fun j => decide (j ∈ ns)) cn) := by
    refine ⟨hd.h, hd.f, hd.g, fun i y hy my z => ?_⟩
    by_cases hi : i ∈ p.is
    · rw [bindP_fz h1 i hi y hy] at my
      cases my
    · rw [off.2 i hi] at z
      rw [bindP_off h1 i hi] at hy
      exact hd.no i y hy my z
  have r2h := hd2.hold r2
  refine ⟨_, Gi, s2, k.1, k.2, r2h, h2, fun H3 G3 sm3 r3 => ?_⟩
  obtain ⟨r3', hd3⟩ := hd2.after r2 (evC_keep cf c s2 k.1 k.2 h2) sm3 r3
  have fin : ∀ {H' G' : Hp} {s' : LS} {o : HO}, Rep X.K F G' s' σ2 H' → Held F G' H' s' σ2 D0 o → Rep X.K F G' (wipeS s' own) (wipe σ own) H' ∧ Held F G' H' (wipeS s' own) (wipe σ own) D0 o := fun {H' G' s' o} r h => by
    have rw_ := r.wipe own
    rw [ew] at rw_
    refine ⟨rw_, h.h, h.f, h.g, fun i y hy my z => ?_⟩
    rw [wipeS_slot] at hy
    split at hy
    · cases hy
    · rename_i hi
      rw [← ew, wipe_get, if_neg (fun w => hi w.1)] at z
      exact h.no i y hy my z
  rcases h3 with ⟨hk, y, h3, rfl⟩ | ⟨hk, rfl⟩
  · rw [hk, if_pos rfl]
    refine ⟨_, G3, k.2, y.1, y.2, r3, h3, fun v H4 G4 sm4 r4 rv => ?_⟩
    obtain ⟨G5, sm5, r5, dv⟩ := rv.den r4
    obtain ⟨r5', hd5⟩ := hd3.after r3' (evE_keep cf e k.2 y.1 y.2 h3) (sm4.trans sm5) r5
    obtain ⟨⟨ym, yd⟩, ys⟩ := y
    cases yd with
    | int i =>
      simp only [asInts, Option.map_eq_some_iff] at ei
      obtain ⟨m, em, rfl⟩ := ei
      cases em
      cases dv
      obtain ⟨r6, hd6⟩ := hd5.write (o' := SetO X.w D0 (fun j => decide (j ∈ ns ++ [i])) (if decide (i ∈ ns) = true then cn else cn + 1)) r5'
      obtain ⟨r7, hd7⟩ := fin r6 hd6
      simp only [List.length_cons, List.length_nil] at hl
      refine ⟨i, _, cn, rfl, hd5.h, by unfold scanBound; omega, ?_⟩
      rw [set_more]
      refine q0 _ G5 _ (sm3.trans (sm4.trans sm5)) r7 ?_ hd7
      rw [List.length_append]
      simp only [List.length_cons, List.length_nil]
      split <;> omega
    | _ => simp [asInts] at ei
  · rw [hk, if_neg Bool.false_ne_true]
    obtain ⟨r7, hd7⟩ := fin r3' hd3
    cases ei
    exact q0 H3 G3 cn sm3 r7 (by simpa using hcn) (by rw [List.append_nil]; exact hd7)
theorem scp_core {own : List Nat} {e : CE} {p : Pt} {it : CI} {c : CO} (hp : ∀ i ∈ p.is, i ∈ own) : ∀ σ H Q, TDE X.K (evE cf (.scp own e p it c)) σ H Q → tCB (rSortedSet X.w) (tCons (tSi X.w (TDI X.K (evI cf it)) (gPt X.K p) (TDB X.K (evC cf c)) (TDE X.K (evE cf e)) own) tNil) σ H Q := by
  rintro σ H Q ⟨F, G, s, x, s', rep, ee, q⟩
  simp only [evE, Option.bind_eq_some_iff] at ee
  obtain ⟨⟨ds, o, s0⟩, e1, e2⟩ := ee
  obtain ⟨hok, e2⟩ := ite_some e2
  simp only [Option.bind_eq_some_iff] at e2
  obtain ⟨r, e3, ns, e4, e5⟩ := e2
  obtain ⟨h64, e5⟩ := ite_some e5
  cases e5
  have e3 : compL (lcF cf own e p c) ds s0 = some r := e3
  have hlen : ∀ {l : List D} {m : List Int}, asInts l = some m → m.length = l.length := fun {l} => by
    induction l with
    | nil => intro m h; cases h; rfl
    | cons a l ih =>
      intro m h
      cases a with
      | int i =>
        simp only [asInts, Option.map_eq_some_iff] at h
        obtain ⟨u, h1, rfl⟩ := h
        simp [ih h1]
      | _ => simp [asInts] at h
  refine ⟨F, G, s, ds, o, s0, rep, e1, fun J H1 G1 F1 s1 sm1 r1 lf r1' wd D0 nD => ?_⟩
  have nF1 : F1 D0 = none := r1'.fh.free nD
  refine si_in wd (fun i Hi => ∃ (Gi : Hp) (si : LS) (n0 : List Int) (c0 : Nat) (accD : List D) (rest : List D × LS), Same G1 Gi ∧ KeepX own s0 si ∧ Rep X.K F1 Gi (wipeS si own) (wipe σ own) Hi ∧ c0 ≤ n0.length ∧ Held F1 Gi Hi (wipeS si own) (wipe σ own) D0 (SetO X.w D0 (fun j => decide (j ∈ n0)) c0) ∧ asInts accD = some n0 ∧
    compL (lcF cf own e p c) (ds.drop i) si = some rest ∧ r = (accD ++ rest.1, rest.2)) ?_ ?_ ?_ ?_
  · have e0 : (fun _ => false : Int → Bool) = fun j => decide (j ∈ ([] : List Int)) := by funext j; simp
    rw [e0]
    exact ⟨G1, s0, [], 0, [], r, Same.refl _, .refl _ _, (r1'.wipe own).newH nD, Nat.le_refl _, Held.new (r1'.wipe own) nD, rfl, by rw [List.drop_zero]; exact e3, rfl⟩
  · rintro i Hi hi ⟨Gi, si, n0, c0, accD, rest, sm, _, ri, _⟩
    exact ⟨sm.trans ri.gh, ri.fh⟩
  · rintro i x Hi H' hi ⟨Gi, si, n0, c0, accD, rest, sm, kx, ri, hc0, hd, ea, ec, er⟩ ⟨d, hds, y⟩
    obtain ⟨r1, rq, ef, ecq, erest⟩ := compL_drop hds ec
    obtain ⟨Gj, smj, rj, dj, hdj⟩ := yld_ok ri sm y hd
    have kx' : KeepX own s0 r1.2 := kx.trans (lcF_keep ef)
    have el : r = (accD ++ r1.1 ++ rq.1, rq.2) := by rw [er, erest, List.append_assoc]
    have e4' := e4
    rw [el] at e4'
    obtain ⟨na, nb, ea1, eb1, rfl⟩ := asInts_app e4'
    obtain ⟨na0, n1, ea2, en1, rfl⟩ := asInts_app ea1
    rw [ea] at ea2
    cases ea2
    refine si_turn (Z := fun H2 => ∃ (Gi : Hp) (si : LS) (n0 : List Int) (c0 : Nat) (accD : List D) (rest : List D × LS), Same G1 Gi ∧ KeepX own s0 si ∧ Rep X.K F1 Gi (wipeS si own) (wipe σ own) H2 ∧ c0 ≤ n0.length ∧ Held F1 Gi H2 (wipeS si own) (wipe σ own) D0 (SetO X.w D0 (fun j => decide (j ∈ n0)) c0) ∧ asInts accD = some n0 ∧
      compL (lcF cf own e p c) (ds.drop (i + 1)) si = some rest ∧ r = (accD ++ rest.1, rest.2)) hp rj hdj hc0 ?_ dj ef en1 (fun H2 G2 c2 sm2 r2 hc2 hd2 => ?_)
    · rw [← hlen en1]
      simp only [List.length_append] at h64
      omega
    · exact ⟨G2, r1.2, _, c2, accD ++ r1.1, rq, sm.trans (smj.trans sm2), kx', r2, hc2, hd2, ea1, ecq, el⟩
  · rintro Hn ⟨Gn, sn, n0, c0, accD, rest, sm, kx, rn, hc0, hd, ea, ec, er⟩
    rw [List.drop_length] at ec
    cases ec
    have hr1 : r.1 = accD := by rw [er]; simp
    have hr2 : r.2 = sn := by rw [er]
    rw [hr1, ea] at e4
    cases e4
    have rb := Rep.backS r1' hok sm kx.len rn
    have ru := lf.back r1 (backS_keep kx) (fun _ _ _ _ => rfl) sm rb
    rw [hr2] at q
    refine ⟨D0, _, c0, rfl, hd.h, by omega, fun out p2 hp2 hm2 hl2 n2 => ?_⟩
    rw [sset_eq hp2 hm2]
    exact (q.mono (sm1.trans sm)).newL ru (denL_ints _) n2
/-! ### {'k': e, ..} -/
def CK.len : CK → Nat
  | .nil => 0
  | .cons _ _ r => r.len + 1
theorem evK_len : ∀ {c : CK} {s s' : LS} {ds : List (D × D)}, evK cf c s = some (ds, s') → ds.length = c.len
  | .nil, s, s', ds, h => by cases h; rfl
  | .cons k e r, s, s', ds, h => by
    simp only [evK, Option.bind_eq_some_iff] at h
    obtain ⟨y, e1, z, e2, e3⟩ := h
    obtain ⟨_, e3⟩ := ite_some e3
    cases e3
    rw [List.length_cons, evK_len e2]
    rfl
theorem DenK.length {K : PySem.W.Frag} {G : Hp} : ∀ {ks : List (Key × V)} {kvs : List (D × D)}, DenK K G ks kvs → ks.length = kvs.length
  | _, _, .nil => rfl
  | _, _, .cons _ l => by rw [List.length_cons, List.length_cons, l.length]
theorem snd_dic {kvs : CK} {keys : List (Option Expr)} {vals : List Expr} {pos : Pos} (h : Pairs X cf pos keys vals kvs) (h15 : kvs.len ≤ 15) (hall : keys.all (·.isSome) = true) (hl : keys.length = vals.length) (h0 : keys ≠ []) (hz : keys.length ≤ 15) : PE X (.Dict keys vals pos) (TDE X.K (evE cf (.dic kvs))) := by
  obtain ⟨trs, h1, h2⟩ := h
  refine (pe_disp h1 hall hl h0 hz).imp fun σ H Q ⟨F, G, s, x, s', rep, e, q⟩ => ?_
  simp only [evE, Option.bind_eq_some_iff] at e
  obtain ⟨y, e1, e2⟩ := e
  cases e2
  intro p n
  have hd : Held F G (upd H p (.dK [])) s σ p (.dK []) := Held.new rep n
  have r0 := rep.newH (o := HO.dK []) n
  refine h2 σ _ _ ⟨_, G, s, y.1, y.2, hd.hold r0, e1, fun ks H1 G1 sm1 r1 d1 ap => ?_⟩
  obtain ⟨r1', hd1⟩ := hd.after r0 (evK_keep cf kvs s y.1 y.2 e1) sm1 r1
  refine ⟨hd1.h, ks, rfl, by rw [d1.length, evK_len e1]; exact h15, ?_⟩
  rw [merge_apart ks [] ap (fun _ _ q hq => by cases hq)]
  obtain ⟨r2, hd2⟩ := hd1.write (o' := HO.dK ([] ++ ks)) r1'
  exact q _ _ G1 sm1 r2 ⟨p, rfl, hd2.f, hd2.g, ⟨ks, by rw [hd2.h]; rfl, d1⟩, hd2.no⟩
end
end LP

end
section
set_option Elab.async false
set_option linter.all false
set_option maxRecDepth 100000
set_option maxHeartbeats 4000000
/-! LX0: an own exception made with its field's name. -/
namespace PySem.LXK
open PySem PySem.Spec PyProof.Rows PySem.HandSPX
section
variable {M : Model} {A : Around} {E : Value → Shared → Prop} {h : Heap} {g : Array GenState} {d : Drawn} {t : Nat} {os : OsState}
variable {nm q : Str} {C N : Addr} {bs bm bmB : List Value} {hdct : Bool} {sn : List Str} {sub : List Value} {ab : Bool} {col : Option Bool} {dd : Option Addr} {k0 k1 k2 k3 k5 : Option Value} {B newId initId : String}
theorem lx_check_new (F : ExcBaseFacts B newId initId bmB) (hT : ∀ X : String, bm.contains (.type X) = bmB.contains (.type X)) {rest : List Value} {kw : List (Str × Value)} {Q : Unit → Shared → Prop}
    (hC : h.get? C = some (excClassObj nm q C N bs bm hdct sn sub ab col dd k0 k1 k2 k3 k5 newId)) (hq : Q () ⟨h, g, d, t, os⟩) : wpAny M A (checkBuiltinCall newId ⟨.ref C :: rest, kw⟩) Q E ⟨h, g, d, t, os⟩ := by
  have hcont : (Value.ref C :: bm).contains (.type B) = true := by rw [List.contains_cons, hT, F.hasB, Bool.or_true]
  have hstar := F.noStar
  simp only [checkBuiltinCall, F.newKind, F.newSplit, F.newRow]
  repeat (first | refine wpAny_loadPart_at hC ?_ | (refine wpAny_isSubtype_exc hC ?_; rw [hcont]) | refine wpAny_staticBase_exc hC ?_ | refine wpAny_madeBy_exc hC ?_ | simp only [bne_self_eq_false, Bool.false_eq_true, if_false] | wp_step)
  exact hq
end
section
variable {prog : Program} {w : World} {A : Around} {E : Value → Shared → Prop} {R : Result → Shared → Prop} {h : Heap} {g : Array GenState} {d : Drawn} {t : Nat} {os : OsState}
variable {nm q : Str} {C N : Addr} {bs bm bmB : List Value} {hdct : Bool} {sn : List Str} {sub : List Value} {ab : Bool} {col : Option Bool} {dd : Option Addr} {k0 k1 k2 k3 k5 : Option Value} {B newId initId : String}
theorem lx_new (F : ExcBaseFacts B newId initId bmB) (hT : ∀ X : String, bm.contains (.type X) = bmB.contains (.type X)) {rest : List Value} {kw : List (Str × Value)}
    (hC : h.get? C = some (excClassObj nm q C N bs bm hdct sn sub ab col dd k0 k1 k2 k3 k5 newId))
    (hq : R (.ok (.ret (.ref (h.objs.size + 1)))) ⟨(h.push { cls := .type "tuple", data := .seq rest.toArray }).push
      { cls := .ref C, data := .fields #[.ref h.objs.size, .none, .none, .none, .bool false, .none] }, g, d, t, os⟩) (hrest : rest.length ≤ sizeLine) :
    codeAny (model prog w) A (.builtin newId ⟨.ref C :: rest, kw⟩) R ⟨h, g, d, t, os⟩ := by
  have hends := F.ends
  have hcB : (Value.ref C :: bm).contains (.type B) = true := by rw [List.contains_cons, hT, F.hasB, Bool.or_true]
  have hcA : (Value.ref C :: bm).contains (.type "AttributeError") = false := by rw [List.contains_cons, hT, F.noAttr]; rfl
  have hcN : (Value.ref C :: bm).contains (.type "NameError") = false := by rw [List.contains_cons, hT, F.noName]; rfl
  refine codeAny_builtinAt F.entry ?_
  unfold Builtin.«BaseException.__new__»
  refine wpAt_bind ?_
  show wpAt _ _ _ (stack >>= _) _ _ _
  refine wpAt_bind (wpAt_stack fun p below => wpAt_of_wpAny ?_)
  wp_walk
  refine wpAt_of_wpAny ?_
  rw [F.owner]
  repeat (first | with_reducible refine wpAny_madeHere_exc F.canon hC ?_ | with_reducible refine wpAny_loadPart_at hC ?_ | (with_reducible refine wpAny_isSubtype_exc hC ?_; first | rw [hcB] | rw [hcA] | rw [hcN]) | wp_step)
  show R _ _
  rw [Heap.size_push]
  exact hq
theorem lx_type_call (F : ExcBaseFacts B newId initId bmB) (hT : ∀ X : String, bm.contains (.type X) = bmB.contains (.type X)) {rest : List Value} {kw : List (Str × Value)} {fI : Addr} {Q : Fin → Shared → Prop}
    (hC : h.get? C = some (excClassObj nm q C N bs bm hdct sn sub ab col dd k0 k1 k2 k3 k5 newId))
    (hi : W.Looks (model prog w) h (typeLookup (.ref C) "__init__") (some (.ref fI))) (hb : ∀ self, W.Looks (model prog w) h (bindSpecial (.ref fI) self) (.ref fI, [self])) (hrest : rest.length ≤ sizeLine)
    (hq : codeAny (model prog w) A (.call (.ref fI) ⟨.ref (h.objs.size + 1) :: rest, kw⟩)
      (fun r s' => match r with | .ok (.ret v) => v = .none ∧ Q (.done (.ret (.ref (h.objs.size + 1)))) s' | .ok _ => False | .error e => E e s')
      ⟨(h.push (W.kdv_tup rest)).push (excO C h.objs.size), g, d, t, os⟩) :
    wpAny (model prog w) A (Builtin.«type.__call__» ⟨.ref C :: rest, kw⟩) Q E ⟨h, g, d, t, os⟩ := by
  repeat (first | with_reducible refine wpAny_loadPart_at hC ?_ | with_reducible refine wpAny_madeBy_exc hC ?_ | wp_step)
  refine codeAny_call_builtin_code (Code.quiet_builtin _ F.quiet) (lx_check_new F hT hC ?_)
  refine lx_new F hT hC ?_ hrest
  show wpAny _ _ _ _ _ _
  have k : ∀ b o, h.get? b = some o → ((h.push (W.kdv_tup rest)).push (excO C h.objs.size)).get? b = some o := fun b o e => Heap.get?_push_of_some _ (Heap.get?_push_of_some _ e)
  have hC₁ := k _ _ hC
  have hget : ((h.push (W.kdv_tup rest)).push (excO C h.objs.size)).get? (h.objs.size + 1) = some (excO C h.objs.size) := by heap_get
  have hcC : (Value.ref C :: bm).contains (.ref C) = true := by simp
  have i1 := hi.keeps k
  have b1 := (hb (.ref (h.objs.size + 1))).keeps k
  unfold isInstance
  repeat (first | with_reducible refine wpAny_loadPart_at hget ?_ | (with_reducible refine wpAny_isSubtype_exc hC₁ ?_; rw [hcC]) | wp_step)
  show wpAny _ _ (typeLookup (.ref C) _) _ _ _
  refine i1.at ?_
  refine wpAny_holding (wpAny_bind (b1.at ?_))
  refine wpAny_bind (wpAny_call (codeAny_mono hq fun r s' z => ?_))
  rcases r with e | (v | _ | _ | _) <;> first | exact z | exact z.elim | skip
  obtain ⟨rfl, z⟩ := z
  first
    | exact wpAny_pure (wpAny_pure z)
    | (wp_walk; exact z)
theorem lx_call (F : ExcBaseFacts B newId initId bmB) (hT : ∀ X : String, bm.contains (.type X) = bmB.contains (.type X)) {rest : List Value} {kw : List (Str × Value)} {fI : Addr}
    (hC : h.get? C = some (excClassObj nm q C N bs bm hdct sn sub ab col dd k0 k1 k2 k3 k5 newId))
    (hi : W.Looks (model prog w) h (typeLookup (.ref C) "__init__") (some (.ref fI))) (hb : ∀ self, W.Looks (model prog w) h (bindSpecial (.ref fI) self) (.ref fI, [self])) (hrest : rest.length ≤ sizeLine)
    (hq : codeAny (model prog w) (A.under (.builtin "type.__call__" ⟨.ref C :: rest, kw⟩)) (.call (.ref fI) ⟨.ref (h.objs.size + 1) :: rest, kw⟩) (W.InitBack (h.objs.size + 1) R)
      ⟨(h.push (W.kdv_tup rest)).push (excO C h.objs.size), g, d, t, os⟩) :
    codeAny (model prog w) A (.call (.ref C) ⟨rest, kw⟩) R ⟨h, g, d, t, os⟩ := by
  have f1 := tc_lookup
  have f2 := tc_bind (.ref C)
  have hTy : (⟨h, g, d, t, os⟩ : Shared).TypeIs (.ref C) "type" := ⟨_, hC, rfl⟩
  refine codeAny_of_tree ?_
  show wpAny _ _ (callAny (.ref C) _) _ _ _
  repeat (any_goals (first | assumption | with_reducible refine wpAny_loadPart_at hC ?_ | wp_step))
  refine ⟨rfl, ?_⟩
  refine codeAny_call_builtin_at (Code.quiet_builtin _ (by decide +kernel)) entry_typeCall (wpAny_check_type_call_sub hC (lx_type_call F hT hC hi hb hrest ?_))
  refine codeAny_mono hq fun r s' z => ?_
  rcases r with e | (v | _ | _ | _) <;> exact z
end
end PySem.LXK

end
section
set_option Elab.async false
set_option linter.all false
set_option maxRecDepth 100000
set_option maxHeartbeats 4000000
/-! LX1: an own exception is made: its __init__ says super().__init__(text), then keeps one field, or none. -/
namespace LP
open PySem PySem.Spec L2
open PyProof.Rows hiding St
/-- what the written part says of the class at C and of its __init__ -/
structure XI (K : PySem.W.Frag) (file : Str) (C : Addr) (B newId initId : String) (bmB : List Value) (fI cc cda : Addr) (me : Str) (more : List Str) (qual : Str) (fd : FuncData) : Prop where
  cl : PySem.W.excInitIn K C bmB newId = true
  lk : ∃ oc od osl, K.lookup fI = some ⟨oc, od, .func fd, osl⟩
  shape : ∃ name params body scope dV kV doc pm an ct, fd = PySem.W.ksFn name qual params body scope dV kV doc pm an (.ref cda) ct cc ∧ (∃ ar, (params.posonlyargs ++ params.args).head? = some ar ∧ ar.arg = me) ∧
    scope.kind = .function ∧ scope.isCoroutine = false ∧ scope.isGenerator = false ∧ (∀ x ∈ scope.names, x.2 ≠ .cell) ∧ scope.names.lookup ("super" : Str) = some .globalImplicit ∧ scope.names.lookup ("__class__" : Str) = some .free ∧
    scope.names.lookup me = some .local ∧ ∀ y ∈ more, scope.names.lookup y = some .local
  cod : PySem.W.codeIn K (.ref cda) qual = true
  cdo : ∃ ccl cdd vs ccs tf, K.lookup cda = some ⟨ccl, cdd, .fields vs, ccs⟩ ∧ vs[2]? = some (.str file tf)
  cell : ∃ cl cld csl, K.lookup cc = some ⟨cl, cld, .cell (some (.ref C)), csl⟩
  sub : PySem.W.mroIn K C (.ref C) = some true
  subB : PySem.W.subIn K (.ref C) (.type B) = some true
  nos : PySem.W.nsIn K mainGlobals "super" = some none
  opq : PySem.W.nsIn K cStatics "thirdparty.any" = some none
  ini : PySem.W.ks_superIn K C C "__init__" = some (some (.builtin initId))
section
variable {P : Program} {w : World} {K : PySem.W.Frag} {mg : Str → Option Value} {base : Heap} {A : Around} {s : Shared} {file : Str} {C : Addr} {B newId initId : String} {bmB : List Value} {fI cc cda a : Addr} {me : Str} {more : List Str} {qual : Str} {fd : FuncData}
/-- the call of the wrapper that super().__init__ is -/
theorem wrap_call {E : Value → Shared → Prop} {u t0 : Addr} {rest : List Value} {Q : Value → Shared → Prop} (FB : ExcBaseFacts B newId initId bmB) (cl : PySem.W.excInitIn K C bmB newId = true) (X : K.In s.heap)
    (hu : s.heap.get? u = some (PySem.W.kxs_mw initId a)) (he : s.heap.get? a = some (PySem.HandSPX.excO C t0)) (hz : rest.length ≤ sizeLine)
    (h : ∀ h' t1, (∀ b o, b ≠ a → s.heap.get? b = some o → h'.get? b = some o) → h'.get? a = some (PySem.HandSPX.excO C t1) → Q .none { s with heap := h' }) :
    wpAny (model P w) A (call (.ref u) rest) Q E s := by
  obtain ⟨nm, N', qn, bs, bm, hd, sn, sb, ab, co, dd, k0, k1, k2, k3, k5, hC, _⟩ := PySem.W.excInit_of X cl
  obtain ⟨hh, g, d, tk, os⟩ := s
  refine wpAny_call (codeAny_of_tree ?_)
  show wpAny _ A.in1 (callAny (.ref u) { pos := rest, kw := [] }) _ _ _
  unfold callAny
  refine wpAny_bind (wpAny_load hu ?_)
  have t1 : (Value.type "method-wrapper" == Value.type "method" || Value.type "method-wrapper" == Value.type "builtin_function_or_method" || Value.type "method-wrapper" == Value.type "method-wrapper") = true := by decide
  simp only [PySem.W.kxs_mw, t1, if_true]
  refine PySem.W.KFB.if_so (by decide) (wpAny_bind (PySem.W.check_bound_init FB.toExcCallFacts hC he rfl (wpAny_bind (wpAny_pure (wpAny_pure ?_)))))
  exact ⟨plainId_quiet FB.init.plain _, codeAny_builtin FB.initEntry (PySem.W.exc_init_tree (cls := .ref C) (t0 := t0) (dv := none) (c2 := .none) (c3 := .none) (b4 := .bool false) he hz fun h' k e _ => h h' _ k e)⟩
/-- the run of __init__: first super().__init__(text); rest: what stands behind it -/
theorem init_super {ar : Args} {us : List Value} {R : Result → Shared → Prop} {outer : List Env} {H : Hp} {t0 : Addr} {rest : List Stmt} {tx : Str} {j : Nat} {p0 p1 p2 p3 p4 p5 : Pos} (FB : ExcBaseFacts B newId initId bmB) (KF : PySem.W.KxsFacts B initId) (T : XI K file C B newId initId bmB fI cc cda me more qual fd)
    (hbody : fd.body = .stmts (.Expr (.Call (.Attribute (.Call (.Name "super" p0) [] [] p1) "__init__" p2) [.Constant (.str tx) j p3] [] p4) p5 :: rest)) (hline : (p2.endLine == p4.line) = true) (hfile : (P.main.file : Str) = file) (htop : (P.main.scope.names.lookup ("super" : Str)).isSome = false)
    (e0 : Env0 P w K mg base A outer s H) (hr : A.depth < recursionLimit) (hbind : BindsTo s fd ar ((me :: more).zip (.ref a :: us))) (hme : ((me :: more).zip (Value.ref a :: us)).reverse.lookup me = some (.ref a))
    (he : s.heap.get? a = some (PySem.HandSPX.excO C t0)) (hne : a ≠ C)
    (h : ∀ (h1 : Heap) (t1 : Addr) (tk : Nat), (∀ b o, b ≠ a → s.heap.get? b = some o → h1.get? b = some o) → h1.get? a = some (PySem.HandSPX.excO C t1) → h1.Ns s.heap.objs.size (fun x => ((me :: more).zip (Value.ref a :: us)).reverse.lookup x) →
      wpAny (model P w) (A.deeper (callEnv fd s.heap.objs.size fI)) (execs rest (callEnv fd s.heap.objs.size fI)) (fun f s' => R (.ok (.ret (match f with | .ret v => v | _ => .none))) s')
        (fun e s' => wpAny (model P w) (A.deeper (callEnv fd s.heap.objs.size fI)) (leaving (callEnv fd s.heap.objs.size fI) e) (fun _ s'' => R (.error e) s'') (fun e' s'' => R (.error e') s'') s') { s with heap := h1, toks := tk }) :
    codeAny (model P w) A (.call (.ref fI) ar) R s := by
  obtain ⟨name, params, body', scope, dV, kV, doc, pm, an, ct, rfl, ⟨ar, har, ear⟩, sk, sco, sge, scl, ss, scc, sme, smo⟩ := T.shape
  have hb' : FuncBody.stmts body' = .stmts _ := hbody
  cases hb'
  obtain ⟨oc, od, osl, lk⟩ := T.lk
  obtain ⟨ccl, cdd, vs, ccs, tf, lkc, hvs⟩ := T.cdo
  obtain ⟨cl, cld, csl, lcell⟩ := T.cell
  have KX : K.In s.heap := e0.mod.kin.keeps fun b o e => (e0.bs b o e).1
  have lim : s.heap.NoLimit := e0.mod.nolimit.keeps fun b o e => (e0.bs b o e).1
  obtain ⟨mb, hmb, hbb⟩ := e0.mod.blt
  refine ks_codeAny_call_defAt (fd := PySem.W.ksFn name qual params _ scope dV kV doc pm an (.ref cda) ct cc) (binds := (me :: more).zip (Value.ref a :: us)) hr (KX _ _ lk) rfl lim (PySem.W.codeRec_of KX T.cod) rfl hbind scl (fun y hy => ?_) (fun h0 hns hk => ?_) sco sge sk
  · have := (List.of_mem_zip hy).1
    rcases List.mem_cons.mp this with z | z
    · rw [z]; exact sme
    · exact smo _ z
  have X0 : K.In h0 := fun b o e => hk b o (KX b o e)
  have gl0 : h0.Ns mainGlobals mg := (e0.mod.glob.keeps fun b o e => (e0.bs b o e).1).keeps hk
  have bl0 : h0.Ns builtinsNs mb := (hmb.keeps fun b o e => (e0.bs b o e).1).keeps hk
  have hea := hk a _ he
  have inst : PySem.W.InstAt h0 a (PySem.HandSPX.excO C t0) C none := ⟨hea, rfl, rfl, trivial⟩
  obtain ⟨cdD, hcD⟩ : ∃ cd, PySem.W.clsIn K C = some cd := by
    have z := T.sub
    unfold PySem.W.mroIn at z
    cases q : PySem.W.clsIn K C with
    | none => rw [q] at z; cases z
    | some cd => exact ⟨cd, rfl⟩
  obtain ⟨oD, oD1, oD2⟩ : ∃ o, h0.get? C = some o ∧ o.data = .cls cdD := by
    unfold PySem.W.clsIn at hcD
    split at hcD
    · rename_i ho
      cases hcD
      exact ⟨_, X0 _ _ ho, rfl⟩
    · cases hcD
  refine ks_wpAt_execs_cons (ks_wpAt_Expr_any ?_ (by show (scope.kind == .module && _) = false; rw [sk]; rfl) rfl)
  rw [arm_eval_Call]
  refine _root_.PySem.wpAt_bind (ks_wpAt_super_base (of := ⟨oc, od, _, osl⟩) (oc := ⟨ccl, cdd, .fields vs, ccs⟩) ss scc (by decide) rfl (X0 _ _ lk) rfl har rfl (X0 _ _ lkc) rfl hvs (by rw [hfile]; simp) htop ?_)
  refine PySem.W.ks_loadName_global sk ss (Calls.loadGlobal_builtin gl0 (PySem.W.mg_none_of (e0.mod.kin) e0.mod.glob T.nos) bl0 ((hbb _ (by decide +kernel)).trans (by decide +kernel)) ⟨rfl, ?_⟩)
  refine wpAny_loadName_free sk scc rfl ⟨_, X0 _ _ lcell, rfl⟩ ?_
  rw [ear]
  refine wpAny_loadName_local sk sme hns hme (ks_wpAny_isType_cls oD1 oD2 ⟨rfl, ?_⟩)
  refine ks_wpAny_call_super oD1 oD2 hea rfl (fun c z => by cases z) (PySem.W.looks_mroIn X0 T.sub) fun h1 e1 k1 => ?_
  have X1 : K.In h1 := fun b o e => k1 b o (X0 b o e)
  refine _root_.PySem.wpAt_of_wpAny (wpAny_bind (wpAny_standAt ?_))
  have hform : ∀ env : Env, methodCallForm 1 (backTo p4 (starEach [.Constant (.str tx) j p3] env)) (backToKw p4 (keywordEach [] env)) = true := fun _ => rfl
  unfold methodCall
  rw [show ([.Constant (.str tx) j p3] : List Expr).length + ([] : List Keyword).length = 1 from rfl, hform]
  have inst1 : PySem.W.InstAt h1 a (PySem.HandSPX.excO C t0) C none := ⟨k1 _ _ hea, rfl, rfl, trivial⟩
  have hI : PySem.W.Looks (model P w) h1 (isInstance (.ref a) (.type B)) true := inst1.type.andThen (PySem.W.looks_subIn X1 T.subB)
  have hini := T.ini
  unfold PySem.W.ks_superIn at hini
  rw [hcD] at hini
  refine wpAny_bind (wpAny_holding (PySem.W.kxs_getMethod KF e1 (PySem.W.looks_opaque X1 T.opq) (l₀ := cdD.mro) (fun A Q E s k q => wpAny_bind ((PySem.W.looks_clsIn X1 hcD) A _ E s k (wpAny_pure q))) rfl X1 hini hI hne (by decide) ?_))
  have hpos : ∀ env, methodCallPos true (.Call (.Name "super" p0) [] [] p1) env p2 p4 = pure p4 := fun env => by unfold methodCallPos; simp [hline]
  refine wpAny_bind (wpAny_of_eq (hpos _) ?_)
  refine PySem.W.kxs_callWith (i := initId) (x := a) (by rfl) (Calls.evalArgs_plain (Calls.spliced_cons (Calls.Constant_str (k := j) (pos := p3) (Calls.spliced_nil ⟨?_, ?_⟩))))
  · exact Heap.get?_push_at rfl rfl
  · refine wrap_call (t0 := t0) FB T.cl (fun b o e => Heap.get?_push_of_some _ (X1 b o e)) (Heap.get?_push_at rfl rfl) (Heap.get?_push_of_some _ (k1 _ _ hea)) (by show 1 ≤ sizeLine; rw [sizeLine_eq]; omega) fun h2 t1 k2 e2 => ?_
    have kk : ∀ b o, b ≠ a → h0.get? b = some o → h2.get? b = some o := fun b o nb e => k2 b o nb (Heap.get?_push_of_some _ (k1 b o e))
    have nL : s.heap.objs.size ≠ a := fun z => Nat.lt_irrefl _ (z ▸ Heap.lt_size he)
    refine _root_.PySem.wpAt_of_wpAny (h h2 t1 _ (fun b o nb e => kk b o nb (hk b o e)) e2 ?_)
    obtain ⟨o, es, ep, ho, r⟩ := hns
    exact ⟨o, es, ep, kk _ _ nL ho, r⟩
/-- what is written of a class whose instances keep a field -/
structure XW (K : PySem.W.Frag) (C : Addr) (f : Str) : Prop where
  cls : ∃ cd, PySem.W.clsIn K C = some cd ∧ PySem.HandSPX.refsVE cd.mro = true ∧ cd.hasDict = true
  sa : PySem.W.findIn K (.ref C) "__setattr__" = some (some (.builtin "object.__setattr__"))
  no : PySem.W.findIn K (.ref C) f = some none
theorem init_f {ar : Args} {u : Value} {y : V} {Q : VK} {E : XK} {CX : CXT} {outer : List Env} {H : Hp} {tx x f : Str} {j : Nat} {p0 p1 p2 p3 p4 p5 p6 p7 p8 p9 : Pos} (FB : ExcBaseFacts B newId initId bmB) (KF : PySem.W.KxsFacts B initId) (T : XI K file C B newId initId bmB fI cc cda me [x] qual fd) (W : XW K C f)
    (hbody : fd.body = .stmts [.Expr (.Call (.Attribute (.Call (.Name "super" p0) [] [] p1) "__init__" p2) [.Constant (.str tx) j p3] [] p4) p5, .Assign [.Attribute (.Name me p6) f p7] (.Name x p8) p9]) (hline : (p2.endLine == p4.line) = true) (hfile : (P.main.file : Str) = file) (htop : (P.main.scope.names.lookup ("super" : Str)).isSome = false)
    (hmx : me ≠ x) (hd1 : (me == ("__debug__" : Str)) = false) (hd2 : (x == ("__debug__" : Str)) = false)
    (e0 : Env0 P w K mg base A outer s H) (hr : A.depth < recursionLimit) (hbind : BindsTo s fd ar ([me, x].zip [.ref a, u])) (he : H a = some (exo a C none)) (ry : RelV y u)
    (h : ∀ dx, H dx = none → dx ≠ a → Q .non (upd (upd H dx (exd dx [(f, y)])) a (exo a C (some dx)))) : codeAny (model P w) A (.call (.ref fI) ar) (CR CX outer P w H s Q E) s := by
  obtain ⟨t0, hoa⟩ := exo_at e0.hok he
  have KX : K.In s.heap := e0.mod.kin.keeps fun b o e => (e0.bs b o e).1
  obtain ⟨cd, hcd, hmr, hhd⟩ := W.cls
  have hne : a ≠ C := fun z => by
    unfold PySem.W.clsIn at hcd
    split at hcd
    · rename_i ho
      have e := KX _ _ ho
      rw [← z, hoa] at e
      cases e
    · cases hcd
  have lkx : ([me, x].zip [Value.ref a, u]).reverse.lookup x = some u := by simp
  have lkm : ([me, x].zip [Value.ref a, u]).reverse.lookup me = some (.ref a) := by
    have : (me == x) = false := by simpa using hmx
    simp [List.lookup, this]
  refine init_super (more := [x]) (us := [u]) FB KF T hbody hline hfile htop e0 hr hbind lkm hoa hne fun h1 t1 tk k1 e1 hns => ?_
  obtain ⟨name, params, body', scope, dV, kV, doc, pm, an, ct, rfl, _, sk, _, _, _, _, _, sme, smo⟩ := T.shape
  have smx := smo x List.mem_cons_self
  have aL : ∀ {b : Addr} {o : Obj}, s.heap.get? b = some o → b ≠ s.heap.objs.size := fun {b o} q => Nat.ne_of_lt (Heap.lt_size q)
  have X1 : K.In h1 := fun b o e => k1 b o (fun z => by
    have q := (e0.bs b o (e0.mod.kin b o e)).2
    rw [z, he] at q
    cases q) (KX b o e)
  refine wpAny_execs_cons (plainObj_wpAny_Assign_Attribute (wpAny_Name (wpAny_loadName_local sk smx hns lkx (wpAny_Name (wpAny_loadName_local sk sme hns lkm ?_) hd1)) hd2) (by rfl))
  refine PySem.W.set_plain X1 (ox := PySem.HandSPX.excO C t1) (od := none) ⟨e1, rfl, rfl, trivial⟩ W.sa ?_
  refine PySem.HandSPX.exc_osa X1 e1 hcd hmr hhd W.no fun h2 tk2 dx k2 dn dne hx hn => wpAny_execs_nil ?_
  have hsz : s.heap.objs.size ≤ dx := by
    refine Nat.le_trans ?_ dn
    obtain ⟨o, _, _, ho, _⟩ := hns
    exact Nat.le_of_lt (Heap.lt_size ho)
  have hnd : H dx = none := e0.hok.fresh hsz
  have na : ∀ {b : Addr}, H b = none → b ≠ a := fun {b} n z => by rw [z, he] at n; cases n
  have nd : ∀ {b : Addr} {o : Obj}, s.heap.get? b = some o → b ≠ dx := fun {b o} q => Nat.ne_of_lt (Nat.lt_of_lt_of_le (Heap.lt_size q) hsz)
  have kk : ∀ b o, b ≠ a → s.heap.get? b = some o → h2.get? b = some o := fun b o nb q => k2 b o nb (k1 b o nb q)
  refine ⟨.non, _, rfl, e0.bare, ?_, fun b o q => ?_, rfl, h dx hnd dne⟩
  · exact {
      keep := fun b o q n _ _ => kk b o (na n) q
      slot := fun b o q n _ _ => ⟨o.slots, kk b o (na n) q⟩
      free := fun b o q n _ => (upd_ne (na n)).trans ((upd_ne (nd q)).trans n)
      there := fun b o q _ => by
        by_cases hb : b = a
        · rw [hb]; exact ⟨_, hx⟩
        · exact ⟨o, kk b o hb q⟩
      tups := fun b xs q => (upd_ne (at_ne he q exo_tup)).trans ((upd_ne (ne_of_none q hnd)).trans q)
      frzs := fun b o v q => (upd_ne (at_ne he q exo_frz)).trans ((upd_ne (ne_of_none q hnd)).trans q)
      tbls := fun b ps q => ⟨#[], by rw [upd_ne (at_ne he q exo_tbl), upd_ne (ne_of_none q hnd), q]; simp⟩ }
  · by_cases hb : b = a
    · subst hb
      rw [upd_same] at q
      cases q
      exact exo_ok hx
    · rw [upd_ne hb] at q
      by_cases hd : b = dx
      · subst hd
        rw [upd_same] at q
        cases q
        exact exd_ok hn (relO_put (fs := []) ry fun g => True.intro)
      · rw [upd_ne hd] at q
        refine (e0.hok b o q).stay (fun c v hc z => kk c v ?_ z) (fun c hc => (upd_ne (at_ne he hc exo_own)).trans ((upd_ne (ne_of_none hc hnd)).trans hc)) fun c xs hc => (upd_ne (at_ne he hc exo_tup)).trans ((upd_ne (ne_of_none hc hnd)).trans hc)
        rcases hc with hc | hc
        · rw [hc]; exact hb
        · exact at_ne he hc exo_own
/-- .. without a field -/
theorem init_0 {Q : VK} {E : XK} {CX : CXT} {outer : List Env} {H : Hp} {tx : Str} {j : Nat} {p0 p1 p2 p3 p4 p5 : Pos} (FB : ExcBaseFacts B newId initId bmB) (KF : PySem.W.KxsFacts B initId) (T : XI K file C B newId initId bmB fI cc cda me [] qual fd)
    (hbody : fd.body = .stmts [.Expr (.Call (.Attribute (.Call (.Name "super" p0) [] [] p1) "__init__" p2) [.Constant (.str tx) j p3] [] p4) p5]) (hline : (p2.endLine == p4.line) = true) (hfile : (P.main.file : Str) = file) (htop : (P.main.scope.names.lookup ("super" : Str)).isSome = false)
    (e0 : Env0 P w K mg base A outer s H) (hr : A.depth < recursionLimit) (hbind : BindsTo s fd ⟨[.ref a], []⟩ ([me].zip [.ref a])) (he : H a = some (exo a C none)) (h : Q .non H) : codeAny (model P w) A (.call (.ref fI) ⟨[.ref a], []⟩) (CR CX outer P w H s Q E) s := by
  obtain ⟨t0, hoa⟩ := exo_at e0.hok he
  have KX : K.In s.heap := e0.mod.kin.keeps fun b o e => (e0.bs b o e).1
  have hne : a ≠ C := fun z => by
    have q := T.sub
    unfold PySem.W.mroIn PySem.W.clsIn at q
    split at q
    · rename_i ho
      have e := KX _ _ ho
      rw [← z, hoa] at e
      cases e
    · cases q
  refine init_super (more := []) (us := []) FB KF T hbody hline hfile htop e0 hr hbind (by simp) hoa hne fun h1 t1 tk k1 e1 hns => wpAny_execs_nil ?_
  have na : ∀ {b : Addr}, H b = none → b ≠ a := fun {b} n z => by rw [z, he] at n; cases n
  refine ⟨.non, H, rfl, e0.bare, ?_, fun b o q => ?_, rfl, h⟩
  · exact {
      keep := fun b o q n _ _ => k1 b o (na n) q
      slot := fun b o q n _ _ => ⟨o.slots, k1 b o (na n) q⟩
      free := fun b o q n _ => n
      there := fun b o q _ => by
        by_cases hb : b = a
        · rw [hb]; exact ⟨_, e1⟩
        · exact ⟨o, k1 b o hb q⟩
      tups := fun b xs q => q
      frzs := fun b o v q => q
      tbls := fun b ps q => ⟨#[], by rw [q]; simp⟩ }
  · by_cases hb : b = a
    · subst hb
      rw [he] at q
      cases q
      exact exo_ok e1
    · refine (e0.hok b o q).stay (fun c v hc z => k1 c v ?_ z) (fun c hc => hc) fun c xs hc => hc
      rcases hc with hc | hc
      · rw [hc]; exact hb
      · exact at_ne he hc exo_own
end
/-- C(us): the object is laid, __init__ runs, the rest is the callers' -/
theorem mk_core {X : Cx} {pins : List (Addr × Obj)} {σ : St} {H1 : Hp} {s : Shared} {C fI : Addr} {B newId initId : String} {bmB : List Value} {k : Nat} {us : List Value} {kw : List (Str × Value)} {Q : Value → Shared → Prop} {Qi : Addr → Hp → Prop} (FB : ExcBaseFacts B newId initId bmB)
    (cl : PySem.W.excInitIn X.K C bmB newId = true) (iC : PySem.W.findIn X.K (.ref C) "__init__" = some (some (.ref fI))) (tI : PySem.W.typeIn X.K (.ref fI) = some (.type "function")) (I1 : Inv X pins σ H1 s) (hr : Room (k + 1) X.A) (hus : us.length ≤ sizeLine)
    (run : ∀ (A : Around) (s : Shared) (H : Hp) (a : Addr), Env0 X.prog X.w X.K X.mg X.base A X.stack s H → A.depth < recursionLimit → H1 a = none → H = upd H1 a (exo a C none) →
      codeAny (model X.prog X.w) A (.call (.ref fI) ⟨.ref a :: us, kw⟩) (CR (fun _ _ _ _ _ _ => False) X.stack X.prog X.w H s (fun v H' => v = .non ∧ Qi a H') (fun _ _ _ => False)) s)
    (h : ∀ (a : Addr) (H2 : Hp) (hp2 h2 : Heap) (g2 : Array GenState) (d2 : Drawn) (t2 : Nat), s.heap.objs.size ≤ a → (∀ b o, s.heap.get? b = some o → hp2.get? b = some o) → Un (frs X.stack) [] (upd H1 a (exo a C none)) H2 hp2 h2 → HOk X.prog X.w H2 h2 → AllBare g2 → Qi a H2 → Q (.ref a) ⟨h2, g2, d2, t2, s.os⟩) :
    wpAny (model X.prog X.w) X.A (call (.ref C) us kw) Q X.xe s := by
  obtain ⟨nm, N, qn, bs, bm, hd, sn, sb, ab, co, dd, k0, k1, k2, k3, k5, hC, hT⟩ := PySem.W.excInit_of I1.kIn cl
  obtain ⟨hp, g, dr, tk, os⟩ := s
  have hsz : hp.objs.size ≤ hp.objs.size + 1 := Nat.le_succ _
  have hn : H1 (hp.objs.size + 1) = none := I1.hok.fresh hsz
  have kk : ∀ b o, hp.get? b = some o → ((hp.push (PySem.W.kdv_tup us)).push (PySem.HandSPX.excO C hp.objs.size)).get? b = some o := fun b o e => Heap.get?_push_of_some _ (Heap.get?_push_of_some _ e)
  have at_ : ((hp.push (PySem.W.kdv_tup us)).push (PySem.HandSPX.excO C hp.objs.size)).get? (hp.objs.size + 1) = some (PySem.HandSPX.excO C hp.objs.size) := by heap_get
  have I2 := I1.laid (t' := tk) (a := hp.objs.size + 1) (o := exo (hp.objs.size + 1) C none) (h' := (hp.push (PySem.W.kdv_tup us)).push (PySem.HandSPX.excO C hp.objs.size)) kk hsz (exo_ok at_)
  refine wpAny_call (PySem.LXK.lx_call FB hT hC (PySem.W.looks_findIn I1.kIn iC) (fun self => PySem.W.bind_fn I1.kIn self tI) hus (codeAny_mono (run _ _ _ _ (I2.env0.make C us kw) (hr.make C us kw).depth hn rfl) fun r s' hq => ?_))
  cases r with
  | error e => exact False.elim hq
  | ok fl =>
    cases fl with
    | ret u =>
      obtain ⟨v, H2, os2, bare2, un2, hok2, rv, ev, q⟩ := hq
      subst ev
      obtain ⟨h2, g2, d2, t2, os'⟩ := s'
      have eo : os' = os := os2
      subst eo
      exact ⟨rv, h _ H2 _ h2 g2 d2 t2 hsz kk un2 hok2 bare2 q⟩
    | _ => exact False.elim hq
end LP

end
section
set_option Elab.async false
set_option linter.all false
set_option maxRecDepth 100000
set_option maxHeartbeats 4000000
/-! LX2: exceptions as values: made, asked, read, raised. -/
namespace LP
open PySem PySem.Spec L2
open PyProof.Rows hiding St
variable [Zk]
/-- the built-in classes that are named -/
def bltX (c : Str) : Option String := if c = "ValueError" then some "ValueError" else if c = "LookupError" then some "LookupError" else if c = "IndexError" then some "IndexError" else if c = "KeyError" then some "KeyError" else if c = "Exception" then some "Exception" else none
def clsV (K : PySem.W.Frag) (c : Str) : Value := match bltX c with
  | some t => .type t
  | none => .ref (He.ga K c)
/-- what is known of an own exception class: C its address -/
structure XcF (P : Program) (K : PySem.W.Frag) (mg : Str → Option Value) (k : Nat) (x : Str) (fo : Option Str) (tests : List Str) : Prop where
  gl : mg x = some (.ref (He.ga K x))
  kC : PySem.W.keepIn K (.ref (He.ga K x)) = true
  tyC : PySem.W.typeIn K (.ref (He.ga K x)) = some (.type "type")
  xf : XfC K (He.ga K x)
  no : ∀ f, fo = some f → PySem.W.findIn K (.ref (He.ga K x)) f = some none
  ca : PySem.W.findIn K (.ref (He.ga K x)) "__class__" = some (some (.builtin "object.__class__"))
  cg : PySem.W.specialIn K (.builtin "object.__class__") "__get__" = some (some (.builtin "getset_descriptor.__get__"))
  ct : PySem.W.takesIn K (.builtin "object.__class__") = some true
  cm : PySem.W.mroIn K (He.ga K x) (.type "object") = some true
  is : ∀ c ∈ tests, PySem.W.kitOne K (.ref (He.ga K x)) (clsV K c) = some (decide (c ∈ exUp k))
  em : ∀ c ∈ tests, PySem.W.exmOne K (.ref (He.ga K x)) (clsV K c) = some (decide (c ∈ exUp k))
  ini : ∃ (fI : Addr) (B newId initId : String) (bmB : List Value), ExcBaseFacts B newId initId bmB ∧ PySem.W.excInitIn K (He.ga K x) bmB newId = true ∧ PySem.W.findIn K (.ref (He.ga K x)) "__init__" = some (some (.ref fI)) ∧ PySem.W.typeIn K (.ref fI) = some (.type "function") ∧
    (∀ f, fo = some f → ∀ (w : World) (base : Heap) (A : Around) (outer : List Env) (s : Shared) (H : Hp) (a : Addr) (u : Value) (y : V) (Q : VK) (E : XK) (CX : CXT) (ar : Args), (ar = ⟨[.ref a, u], []⟩ ∨ ar = ⟨[.ref a], [(f, u)]⟩) → Env0 P w K mg base A outer s H → A.depth < recursionLimit → H a = some (exo a (He.ga K x) none) → RelV y u →
      (∀ dx, H dx = none → dx ≠ a → Q .non (upd (upd H dx (exd dx [(f, y)])) a (exo a (He.ga K x) (some dx)))) → codeAny (model P w) A (.call (.ref fI) ar) (CR CX outer P w H s Q E) s) ∧
    (fo = none → ∀ (w : World) (base : Heap) (A : Around) (outer : List Env) (s : Shared) (H : Hp) (a : Addr) (Q : VK) (E : XK) (CX : CXT), Env0 P w K mg base A outer s H → A.depth < recursionLimit → H a = some (exo a (He.ga K x) none) → Q .non H → codeAny (model P w) A (.call (.ref fI) ⟨[.ref a], []⟩) (CR CX outer P w H s Q E) s)
section
variable {X : Cx} {k : Nat} {x f : Str} {tests : List Str}
/-- C(u): the object is there, its field kept, it stays for ever -/
theorem mk_val (T : XcF X.prog X.K X.mg k x (some f) tests) {us : List Value} {kw : List (Str × Value)} {pins : List (Addr × Obj)} {σ : St} {H1 : Hp} {s : Shared} {u : Value} {y : V} {n : Nat} {Q : VK} (I : Inv X pins σ H1 s) (hr : Room (n + 1) X.A) (ry : RelV y u) (hkw : (us = [u] ∧ kw = []) ∨ (us = [] ∧ kw = [(f, u)]))
    (h : ∀ a dx, H1 a = none → H1 dx = none → dx ≠ a → Q (.ref a) (upd (upd H1 dx (.xd [(f, y)])) a (ExA a (He.ga X.K x) (some dx)))) : wpAny (model X.prog X.w) X.A (call (.ref (He.ga X.K x)) us kw) (EP X pins σ Q) X.xe s := by
  obtain ⟨fI, B, newId, initId, bmB, FB, cl, iC, tI, run, _⟩ := T.ini
  refine mk_core (k := n) (Qi := fun a H' => ∃ dx, H1 a = none ∧ H1 dx = none ∧ dx ≠ a ∧ H' = upd (upd (upd H1 a (exo a (He.ga X.K x) none)) dx (exd dx [(f, y)])) a (exo a (He.ga X.K x) (some dx))) FB cl iC tI I hr (by rcases hkw with ⟨rfl, _⟩ | ⟨rfl, _⟩ <;> (rw [sizeLine_eq]; simp)) (fun A s' H a e0 hd hn eH => ?_) fun a H2 hp2 h2 g2 d2 t2 hsz kk un hok bare q => ?_
  · subst eH
    exact run f rfl X.w X.base A X.stack s' _ a u y _ _ _ _ (by rcases hkw with ⟨rfl, rfl⟩ | ⟨rfl, rfl⟩ <;> first | exact .inl rfl | exact .inr rfl) e0 hd upd_same ry fun dx hx hne => ⟨rfl, dx, hn, by rw [upd_ne hne] at hx; exact hx, hne, rfl⟩
  · obtain ⟨dx, hn, hdx, hne, rfl⟩ := q
    -- the state as the promise has it
    have ea : upd (upd (upd H1 a (exo a (He.ga X.K x) none)) dx (exd dx [(f, y)])) a (exo a (He.ga X.K x) (some dx)) a = some (exo a (He.ga X.K x) (some dx)) := upd_same
    have ed : upd (upd (upd H1 a (exo a (He.ga X.K x) none)) dx (exd dx [(f, y)])) a (exo a (He.ga X.K x) (some dx)) dx = some (exd dx [(f, y)]) := by rw [upd_ne hne, upd_same]
    obtain ⟨t0, hoa⟩ := exo_at hok ea
    obtain ⟨mA, hns, rel⟩ := exd_at hok ed
    refine ⟨.ref a, _, ?_, rfl, h a dx hn hdx hne⟩
    have nold : ∀ {b : Addr} {o : Obj}, s.heap.get? b = some o → b ≠ a := fun {b o} z => Nat.ne_of_lt (Nat.lt_of_lt_of_le (Heap.lt_size z) hsz)
    have H0 : ∀ {b : Addr}, b ≠ a → upd H1 a (exo a (He.ga X.K x) none) b = H1 b := fun hb => upd_ne hb
    have nd : ∀ {b : Addr} {o : Obj}, s.heap.get? b = some o → H1 b = none → b ≠ dx := fun {b o} z n e => by
      have q := un.free b o (kk b o z) (by rw [H0 (nold z)]; exact n) (by simp)
      rw [e, ed] at q
      cases q
    have at1 : ∀ {b : Addr}, b ≠ a → b ≠ dx → upd (upd H1 dx (.xd [(f, y)])) a (ExA a (He.ga X.K x) (some dx)) b = H1 b := fun h1 h2 => by rw [upd_ne h1, upd_ne h2]
    have nt : ∀ {b : Addr} {o : HO}, H1 b = some o → b ≠ a ∧ b ≠ dx := fun e => ⟨ne_of_none e hn, ne_of_none e hdx⟩
    have U : Un (frs X.stack) [] H1 (upd (upd H1 dx (.xd [(f, y)])) a (ExA a (He.ga X.K x) (some dx))) s.heap h2 := {
      keep := fun b o z n hf hx => un.keep b o (kk b o z) (by rw [H0 (nold z)]; exact n) hf hx
      slot := fun b o z n hf hx => un.slot b o (kk b o z) (by rw [H0 (nold z)]; exact n) hf hx
      free := fun b o z n hx => (at1 (nold z) (nd z n)).trans n
      there := fun b o z hx => un.there b o (kk b o z) hx
      tups := fun b xs z => (at1 (nt z).1 (nt z).2).trans z
      frzs := fun b o v z => (at1 (nt z).1 (nt z).2).trans z
      tbls := fun b ps z => ⟨#[], by rw [at1 (nt z).1 (nt z).2, z]; simp⟩ }
    refine I.call' (ch := []) rfl U (fun b o z => ?_) bare (fun b z => absurd z (by simp))
    by_cases hb : b = a
    · subst hb
      rw [upd_same] at z
      cases z
      exact ⟨⟨_, _, hoa, rfl, rfl, rfl⟩, ⟨_, hoa⟩, fun _ _ ⟨o, v, q, r⟩ k => ⟨o, v, k o q, r⟩⟩
    · rw [upd_ne hb] at z
      by_cases hd : b = dx
      · subst hd
        rw [upd_same] at z
        cases z
        exact ⟨mA, hns, rel⟩
      · rw [upd_ne hd] at z
        have zz := hok b o (by rw [upd_ne hb, upd_ne hd, upd_ne hb]; exact z)
        refine zz.stay (fun c v _ r => r) (fun c q => ?_) fun c xs q => ?_
        · by_cases hc : c = a
          · rw [hc, upd_same] at q; cases q
          · by_cases hc2 : c = dx
            · rw [hc2, upd_ne hne, upd_same] at q; cases q
            · rw [upd_ne hc, upd_ne hc2, upd_ne hc] at q
              rw [at1 hc hc2]; exact q
        · by_cases hc : c = a
          · rw [hc, upd_same] at q; cases q
          · by_cases hc2 : c = dx
            · rw [hc2, upd_ne hne, upd_same] at q; cases q
            · rw [upd_ne hc, upd_ne hc2, upd_ne hc] at q
              rw [at1 hc hc2]; exact q
/-- .. without a field -/
theorem mk_val0 (T : XcF X.prog X.K X.mg k x none tests) {pins : List (Addr × Obj)} {σ : St} {H1 : Hp} {s : Shared} {n : Nat} {Q : VK} (I : Inv X pins σ H1 s) (hr : Room (n + 1) X.A)
    (h : ∀ a, H1 a = none → Q (.ref a) (upd H1 a (ExA a (He.ga X.K x) none))) : wpAny (model X.prog X.w) X.A (call (.ref (He.ga X.K x)) []) (EP X pins σ Q) X.xe s := by
  obtain ⟨fI, B, newId, initId, bmB, FB, cl, iC, tI, _, run⟩ := T.ini
  refine mk_core (k := n) (Qi := fun a H' => H1 a = none ∧ H' = upd H1 a (exo a (He.ga X.K x) none)) FB cl iC tI I hr (Nat.zero_le _) (fun A s' H a e0 hd hn eH => ?_) fun a H2 hp2 h2 g2 d2 t2 hsz kk un hok bare q => ?_
  · subst eH
    exact run rfl X.w X.base A X.stack s' _ a _ _ _ e0 hd upd_same ⟨rfl, hn, rfl⟩
  · obtain ⟨hn, rfl⟩ := q
    obtain ⟨t0, hoa⟩ := exo_at hok (upd_same : upd H1 a (exo a (He.ga X.K x) none) a = _)
    refine ⟨.ref a, _, ?_, rfl, h a hn⟩
    have nold : ∀ {b : Addr} {o : Obj}, s.heap.get? b = some o → b ≠ a := fun {b o} z => Nat.ne_of_lt (Nat.lt_of_lt_of_le (Heap.lt_size z) hsz)
    have U : Un (frs X.stack) [] H1 (upd H1 a (ExA a (He.ga X.K x) none)) s.heap h2 := {
      keep := fun b o z n hf hx => un.keep b o (kk b o z) (by rw [upd_ne (nold z)]; exact n) hf hx
      slot := fun b o z n hf hx => un.slot b o (kk b o z) (by rw [upd_ne (nold z)]; exact n) hf hx
      free := fun b o z n hx => (upd_ne (nold z)).trans n
      there := fun b o z hx => un.there b o (kk b o z) hx
      tups := fun b xs z => (upd_ne (ne_of_none z hn)).trans z
      frzs := fun b o v z => (upd_ne (ne_of_none z hn)).trans z
      tbls := fun b ps z => ⟨#[], by rw [upd_ne (ne_of_none z hn), z]; simp⟩ }
    refine I.call' (ch := []) rfl U (fun b o z => ?_) bare (fun b z => absurd z (by simp))
    by_cases hb : b = a
    · subst hb
      rw [upd_same] at z
      cases z
      exact ⟨⟨_, _, hoa, rfl, rfl, rfl⟩, ⟨_, hoa⟩, fun _ _ ⟨o, v, q, r⟩ k => ⟨o, v, k o q, r⟩⟩
    · rw [upd_ne hb] at z
      refine (hok b o (by rw [upd_ne hb]; exact z)).stay (fun c v _ r => r) (fun c q => ?_) fun c xs q => ?_
      · by_cases hc : c = a
        · rw [hc, upd_same] at q; cases q
        · rw [upd_ne hc] at q ⊢; exact q
      · by_cases hc : c = a
        · rw [hc, upd_same] at q; cases q
        · rw [upd_ne hc] at q ⊢; exact q
theorem raisesX {fo : Option Str} (T : XcF X.prog X.K X.mg k x fo tests) : Raises X (.ref (He.ga X.K x)) := raises_own T.xf.exC T.tyC
/-- C(u), to be raised -/
theorem mk_air (T : XcF X.prog X.K X.mg k x (some f) tests) {pins : List (Addr × Obj)} {σ : St} {H1 : Hp} {s : Shared} {u : Value} {y : V} {n : Nat} {Q : XK} (I : Inv X pins σ H1 s) (hr : Room (n + 1) X.A) (ry : RelV y u)
    (h : ∀ dx, H1 dx = none → Q (.ref (He.ga X.K x)) (some dx) (upd H1 dx (.xd [(f, y)]))) : wpAny (model X.prog X.w) X.A (call (.ref (He.ga X.K x)) [u]) (MkP X pins σ Q) X.xe s := by
  obtain ⟨fI, B, newId, initId, bmB, FB, cl, iC, tI, run, _⟩ := T.ini
  refine mk_core (k := n) (Qi := fun a H' => ∃ dx, H1 a = none ∧ H1 dx = none ∧ dx ≠ a ∧ H' = upd (upd (upd H1 a (exo a (He.ga X.K x) none)) dx (exd dx [(f, y)])) a (exo a (He.ga X.K x) (some dx))) FB cl iC tI I hr (by show 1 ≤ sizeLine; rw [sizeLine_eq]; omega) (fun A s' H a e0 hd hn eH => ?_) fun a H2 hp2 h2 g2 d2 t2 hsz kk un hok bare q => ?_
  · subst eH
    exact run f rfl X.w X.base A X.stack s' _ a u y _ _ _ _ (.inl rfl) e0 hd upd_same ry fun dx hx hne => ⟨rfl, dx, hn, by rw [upd_ne hne] at hx; exact hx, hne, rfl⟩
  · obtain ⟨dx, hn, hdx, hne, rfl⟩ := q
    refine mk_end (raisesX T) (t1 := s.toks) (d1 := s.drawn) (g1 := s.gens) (os1 := s.os) I hsz kk un hok rfl bare upd_same (by rw [upd_ne hne, upd_same]) hdx ?_
    have e : upd (del (upd (upd (upd H1 a (exo a (He.ga X.K x) none)) dx (exd dx [(f, y)])) a (exo a (He.ga X.K x) (some dx))) a) dx (.xd [(f, y)]) = upd H1 dx (.xd [(f, y)]) := by
      funext b
      by_cases hb : b = dx
      · rw [hb, upd_same, upd_same]
      · rw [upd_ne hb, upd_ne hb]
        by_cases hba : b = a
        · rw [hba, del_same, hn]
        · rw [del_ne hba, upd_ne hba, upd_ne hb, upd_ne hba]
    rw [e]
    exact h dx hdx
theorem mk_air0 (T : XcF X.prog X.K X.mg k x none tests) {pins : List (Addr × Obj)} {σ : St} {H1 : Hp} {s : Shared} {n : Nat} {Q : XK} (I : Inv X pins σ H1 s) (hr : Room (n + 1) X.A)
    (h : Q (.ref (He.ga X.K x)) none H1) : wpAny (model X.prog X.w) X.A (call (.ref (He.ga X.K x)) []) (MkP X pins σ Q) X.xe s := by
  obtain ⟨fI, B, newId, initId, bmB, FB, cl, iC, tI, _, run⟩ := T.ini
  refine mk_core (k := n) (Qi := fun a H' => H1 a = none ∧ H' = upd H1 a (exo a (He.ga X.K x) none)) FB cl iC tI I hr (Nat.zero_le _) (fun A s' H a e0 hd hn eH => ?_) fun a H2 hp2 h2 g2 d2 t2 hsz kk un hok bare q => ?_
  · subst eH
    exact run rfl X.w X.base A X.stack s' _ a _ _ _ e0 hd upd_same ⟨rfl, hn, rfl⟩
  · obtain ⟨hn, rfl⟩ := q
    obtain ⟨t0, hoa⟩ := exo_at hok (upd_same : upd H1 a (exo a (He.ga X.K x) none) a = _)
    obtain ⟨G, ga, gb⟩ := restrict h2 fun b => decide (b ≠ a)
    have gk : ∀ b, b ≠ a → G.get? b = h2.get? b := fun b hb => ga b (decide_eq_true hb)
    have ge : G.get? a = none := gb a (by simp)
    have nold : ∀ {b : Addr} {o : Obj}, s.heap.get? b = some o → b ≠ a := fun {b o} z => Nat.ne_of_lt (Nat.lt_of_lt_of_le (Heap.lt_size z) hsz)
    have U : Un (frs X.stack) [] H1 H1 s.heap G := {
      keep := fun b o z n hf hx => (gk b (nold z)).trans (un.keep b o (kk b o z) (by rw [upd_ne (nold z)]; exact n) hf hx)
      slot := fun b o z n hf hx => by rw [gk b (nold z)]; exact un.slot b o (kk b o z) (by rw [upd_ne (nold z)]; exact n) hf hx
      free := fun b o z n hx => n
      there := fun b o z hx => by rw [gk b (nold z)]; exact un.there b o (kk b o z) hx
      tups := fun b xs z => z
      frzs := fun b o v z => z
      tbls := fun b ps z => ⟨#[], by rw [z]; simp⟩ }
    have hokG : HOk X.prog X.w H1 G := fun b o z => by
      have hb : b ≠ a := ne_of_none z hn
      refine (hok b o (by rw [upd_ne hb]; exact z)).stay (fun c v hc r => ?_) (fun c q => ?_) fun c xs q => ?_
      · refine (gk c ?_).trans r
        rcases hc with hc | hc
        · rw [hc]; exact hb
        · intro e
          rw [e, upd_same] at hc
          cases hc
      · by_cases hc : c = a
        · rw [hc, upd_same] at q; cases q
        · rw [upd_ne hc] at q; exact q
      · by_cases hc : c = a
        · rw [hc, upd_same] at q; cases q
        · rw [upd_ne hc] at q; exact q
    have J : Inv X pins σ H1 ⟨G, g2, d2, t2, s.os⟩ := I.call' (ch := []) rfl U hokG bare (fun b z => absurd z (by simp))
    refine ⟨a, _, _, ⟨G, g2, d2, t2, s.os⟩, H1, _, none, rfl, J, fun b o z => ?_, ge, hoa, ⟨rfl, rfl⟩, rfl, rfl, hn, rfl, bare, raisesX T, h⟩
    by_cases hb : b = a
    · rw [hb, ge] at z; cases z
    · exact (gk b hb).symm.trans z
end
end LP

end
section
set_option Elab.async false
set_option linter.all false
set_option maxRecDepth 100000
set_option maxHeartbeats 4000000
/-! LX3: exceptions in expressions. -/
namespace LP
open PySem PySem.Spec L2
open PyProof.Rows hiding St
variable [Zk]
section
variable {X : Cx} {cf : CF}
theorem snd_isB {a : CE} {b : Bool} {l : Expr} {j : Nat} {pos pos' : Pos} (ha : PE X l (TDO X.K fun s => opA a (evE cf a s) s)) (hm : behindInMarks .Is (.Constant (.bool b) j pos') = false) :
    PE X (.Compare l [.Is] [.Constant (.bool b) j pos'] pos) (TDE X.K (evE cf (.isB a b))) ∧ PT X (.Compare l [.Is] [.Constant (.bool b) j pos'] pos) (TDB X.K fun s => tst (evE cf (.isB a b) s)) := by
  have core : ∀ (R : VK) σ H, TDE X.K (evE cf (.isB a b)) σ H R → tOp rIsB (TDO X.K fun s => opA a (evE cf a s) s) (tC (.bl b)) σ H R := by
    rintro R σ H ⟨F, G, s, x, s', rep, e, q⟩
    simp only [evE, Option.bind_eq_some_iff, Option.map_eq_some_iff] at e
    obtain ⟨y, e1, d, e2, r, e3, e4⟩ := e
    cases e4
    refine ⟨F, G, s, y.1, y.2, rep, e1, fun v H1 G1 sm1 r1 o1 => ?_⟩
    cases d with
    | bool c =>
      cases e3
      have ev := (o1.read r1 e2).bool
      subst ev
      refine ⟨c, b, rfl, rfl, ?_⟩
      have := (q.mono sm1).fz r1 (.bl _)
      rw [show (decide (c = b)) = (c == b) by cases c <;> cases b <;> rfl]
      exact this
    | _ => cases e3
  constructor
  · exact (pe_cmpR op_isBl ha pe_bl hm).imp fun σ H Q h => core Q σ H h
  · refine (pt_cmpR op_isBl ha pe_bl hm).imp fun σ H Q ⟨F, G, s, b', s', rep, e, q⟩ => ?_
    obtain ⟨m, e⟩ := tst_inv e
    exact core _ σ H ⟨F, G, s, _, s', rep, e, fun v H' G' sm r rv => ⟨b', rv.bool, q H' G' sm r⟩⟩
/-! ### an exception is made -/
theorem mkX_inv {k : Nat} {ds : List D} {x : D} (h : mkX k ds = some x) : (∃ m f d, exTab[k]? = some (m, some f) ∧ ds = [d] ∧ x = xoD k d) ∨ ∃ m, exTab[k]? = some (m, none) ∧ ds = [] ∧ x = xoD k .none := by
  unfold mkX at h
  split at h
  · rename_i m f d e
    cases h
    exact .inl ⟨m, f, d, e, rfl, rfl⟩
  · rename_i m e
    cases h
    exact .inr ⟨m, e, rfl, rfl⟩
  · cases h
/-- what is known of all own classes -/
def XcA (P : Program) (K : PySem.W.Frag) (mg : Str → Option Value) : Prop := ∀ k ∈ Zk.xs, ∀ x fo, exTab[k]? = some (x, fo) → XcF P K mg k x fo Zk.ts
theorem snd_mkx {k : Nat} {x : Str} {as : CEs} {e : Expr} {p pos : Pos} (hx : XcA X.prog X.K X.mg) (hk : k ∈ Zk.xs) (hn : (exTab[k]?).map (·.1) = some x) (hr : Room 1 X.A) (hg : Gl X x) (hdb : (x == ("__debug__" : Str)) = false)
    (ha : PA X [e] (TDL X.K (evEs cf as))) (hs : nst e = true) : PE X (.Call (.Name x p) [e] [] pos) (TDE X.K (evE cf (.mkx k false as))) := by
  refine ⟨fun pins s σ H Q I ⟨F, G, s0, y, s1, rep, ev, q⟩ => ?_⟩
  simp only [evE, Option.bind_eq_some_iff, Option.map_eq_some_iff] at ev
  obtain ⟨r, e1, d, e2, e3⟩ := ev
  cases e3
  obtain ⟨fo, hfo⟩ : ∃ fo, exTab[k]? = some (x, fo) := by
    cases z : exTab[k]? with
    | none => rw [z] at hn; cases hn
    | some p => rw [z] at hn; cases hn; exact ⟨_, rfl⟩
  have T := hx k hk x fo hfo
  refine wpAny_Call_Name_kw (ld_glob I hg T.gl ?_ hdb)
  refine PySem.W.callWith_K (h₀ := X.base) I.ok.mod.kin T.kC (thn (ha.run pos pins s σ H _ I ⟨F, G, s0, r.1, r.2, rep, e1, fun xs H1 G1 sm1 r1 d1 => (⟨G1, sm1, r1, d1⟩ : ∃ G1, Same G G1 ∧ Rep X.K F G1 r.2 σ H1 ∧ DenL X.K G1 xs r.1)⟩) fun us z ⟨vs, H1, I1, rv, G1, sm1, r1, d1⟩ => ⟨I1.kIn, ?_⟩) (nst_star hs _ _) (by rfl)
  rcases mkX_inv e2 with ⟨m, f, d0, et, ed, rfl⟩ | ⟨m, et, ed, rfl⟩
  · rw [hfo] at et
    cases et
    rw [ed] at d1
    cases d1 with
    | cons dv dn =>
      cases dn
      cases rv with
      | cons rv1 rn =>
        cases rn
        rename_i vv _ _
        refine mk_val T I1 hr rv1 (.inl ⟨rfl, rfl⟩) fun a dx hna hnd hne => ?_
        have g1 : G1 dx = none := r1.gh.free hnd
        have r2 := r1.newG (o := .xd [(f, vv)]) hnd
        have hna2 : upd H1 dx (.xd [(f, vv)]) a = none := by rw [upd_ne (Ne.symm hne)]; exact hna
        have r3 := r2.newG (o := ExA a (He.ga X.K x) (some dx)) hna2
        refine q _ _ _ ((sm1.trans (same_upd g1)).trans (same_upd (r2.gh.free hna2))) r3 ?_
        refine Den.exc hk hfo upd_same (by rw [upd_ne hne, upd_same]) (dv.mono ((same_upd g1).trans (same_upd (r2.gh.free hna2))))
  · rw [ed] at d1
    cases d1
    cases rv
    rw [hfo] at et
    cases et
    refine mk_val0 T I1 hr fun a hna => ?_
    exact q _ _ _ (sm1.trans (same_upd (r1.gh.free hna))) (r1.newG hna) (Den.exn hk hfo upd_same)
theorem snd_mkx0 {k : Nat} {x : Str} {p pos : Pos} (hx : XcA X.prog X.K X.mg) (hk : k ∈ Zk.xs) (hn : (exTab[k]?).map (·.1) = some x) (hr : Room 1 X.A) (hg : Gl X x) (hdb : (x == ("__debug__" : Str)) = false) :
    PE X (.Call (.Name x p) [] [] pos) (TDE X.K (evE cf (.mkx k false .nil))) := by
  refine ⟨fun pins s σ H Q I ⟨F, G, s0, y, s1, rep, ev, q⟩ => ?_⟩
  simp only [evE, evEs, Option.bind_some, Option.map_eq_some_iff] at ev
  obtain ⟨d, e2, e3⟩ := ev
  cases e3
  obtain ⟨fo, hfo⟩ : ∃ fo, exTab[k]? = some (x, fo) := by
    cases z : exTab[k]? with
    | none => rw [z] at hn; cases hn
    | some p => rw [z] at hn; cases hn; exact ⟨_, rfl⟩
  have T := hx k hk x fo hfo
  rcases mkX_inv e2 with ⟨m, f, d0, et, ed, rfl⟩ | ⟨m, et, ed, rfl⟩
  · cases ed
  · rw [hfo] at et
    cases et
    refine wpAny_Call_Name_kw (ld_glob I hg T.gl ?_ hdb)
    refine PySem.W.callWith_K0 I.kIn T.kC (mk_val0 T I hr fun a hna => ?_)
    exact q _ _ _ (same_upd (rep.gh.free hna)) (rep.newG hna) (Den.exn hk hfo upd_same)
/-- C(f = e) -/
theorem snd_mkxK {k : Nat} {x f : Str} {c : CE} {e : Expr} {p pos kp : Pos} (hx : XcA X.prog X.K X.mg) (hk : k ∈ Zk.xs) (hfo : exTab[k]? = some (x, some f)) (hr : Room 1 X.A) (hg : Gl X x) (hdb : (x == ("__debug__" : Str)) = false)
    (ha : PE X e (TDE X.K (evE cf c))) : PE X (.Call (.Name x p) [] [⟨some f, e, kp⟩] pos) (TDE X.K (evE cf (.mkx k true (.cons c .nil)))) := by
  refine ⟨fun pins s σ H Q I ⟨F, G, s0, y, s1, rep, ev, q⟩ => ?_⟩
  simp only [evE, evEs, Option.bind_eq_some_iff, Option.map_eq_some_iff] at ev
  obtain ⟨r, ⟨z, ez, q1, e1, rfl⟩, d, e2, e3⟩ := ev
  cases e1
  cases e3
  have T := hx k hk x _ hfo
  refine wpAny_Call_Name_kw (ld_glob I hg T.gl ?_ hdb)
  have hkw : PK X [⟨some f, e, kp⟩] _ := pk_cons (pf ha) pk_nil
  refine PySem.W.callWith_KW0 (h₀ := X.base) I.ok.mod.kin T.kC rfl (thn (hkw.run pos pins s σ H (fun xs H1 => ∃ v G1, xs = [v] ∧ Same G G1 ∧ Rep X.K F G1 z.2 σ H1 ∧ Den X.K G1 v z.1.d) I ⟨F, G, s0, z.1, z.2, rep, ez, fun v H1 G1 sm1 r1 d1 => ⟨v, G1, rfl, sm1, r1, d1⟩⟩) fun us z2 ⟨vs, H1, I1, rv, v, G1, ev, sm1, r1, dv⟩ => ⟨I1.kIn, ?_⟩)
  subst ev
  rcases mkX_inv e2 with ⟨m, f', d0, et, ed, rfl⟩ | ⟨m, et, ed, rfl⟩
  · rw [hfo] at et
    cases et
    cases ed
    cases rv with
    | cons rv1 rn =>
      cases rn
      refine mk_val T I1 hr rv1 (.inr ⟨rfl, rfl⟩) fun a dx hna hnd hne => ?_
      have g1 : G1 dx = none := r1.gh.free hnd
      have r2 := r1.newG (o := .xd [(f, v)]) hnd
      have hna2 : upd H1 dx (.xd [(f, v)]) a = none := by rw [upd_ne (Ne.symm hne)]; exact hna
      have r3 := r2.newG (o := ExA a (He.ga X.K x) (some dx)) hna2
      refine q _ _ _ ((sm1.trans (same_upd g1)).trans (same_upd (r2.gh.free hna2))) r3 ?_
      exact Den.exc hk hfo upd_same (by rw [upd_ne hne, upd_same]) (dv.mono ((same_upd g1).trans (same_upd (r2.gh.free hna2))))
  · cases ed
/-! ### an exception is asked, read -/
theorem exa_at {P : Program} {w : World} {H : Hp} {h : Heap} {a C : Addr} {d : Option Addr} (hok : HOk P w H h) (e : H a = some (ExA a C d)) : ∃ (oe : Obj) (vs : Array Value), h.get? a = some oe ∧ oe.cls = .ref C ∧ oe.dict = d ∧ oe.data = .fields vs := by
  have z : ObjOk P w H h a (.ext fun h => ∃ (oe : Obj) (vs : Array Value), h.get? a = some oe ∧ oe.cls = .ref C ∧ oe.dict = d ∧ oe.data = .fields vs) := hok a _ e
  exact z.1
/-- what an exception's data say of the heap -/
theorem Den.exo {K : PySem.W.Frag} {G : Hp} {v : V} {x : D} {k : Nat} {d : D} (h : Den K G v x) (e : exOf x = some (k, d)) : ∃ a m, v = .ref a ∧ k ∈ Zk.xs ∧ ((∃ f dx u, exTab[k]? = some (m, some f) ∧ G a = some (ExA a (He.ga K m) (some dx)) ∧ G dx = some (.xd [(f, u)]) ∧ Den K G u d) ∨
    (exTab[k]? = some (m, none) ∧ G a = some (ExA a (He.ga K m) none) ∧ d = .none)) := by
  cases h with
  | exc h0 h1 h2 h3 h4 =>
    cases e
    exact ⟨_, _, rfl, h0, .inl ⟨_, _, _, h1, h2, h3, h4⟩⟩
  | exn h0 h1 h2 =>
    cases e
    exact ⟨_, _, rfl, h0, .inr ⟨h1, h2, rfl⟩⟩
  | dic q l =>
    cases l with
    | nil => cases e
    | cons _ _ => cases e
  | clo _ _ _ _ _ => cases e
  | _ => cases e
def cV (K : PySem.W.Frag) (c : Str) : V := match bltX c with
  | some t => .ty t
  | none => .ref (He.ga K c)
theorem cV_rel {K : PySem.W.Frag} {c : Str} : ∀ u, RelV (cV K c) u → u = clsV K c := fun u h => by
  unfold cV at h
  unfold clsV
  cases hb : bltX c with
  | some t => rw [hb] at h; exact h
  | none => rw [hb] at h; exact h
def rIsX (K : PySem.W.Frag) (c : Str) : List V → Hp → VK → Prop := fun vs H Q => ∃ F G s σ v x b, vs = [v, cV K c] ∧ Rep K F G s σ H ∧ Den K G v x ∧ isUp [c] x = some b ∧ Post K F G s σ ⟨.fz, .bool b⟩ Q
theorem cr_isX {c : Str} (hx : XcA X.prog X.K X.mg) (hc : c ∈ Zk.ts) : CallR X (.builtin "isinstance") (rIsX X.K c) := by
  intro pins s0 τ H xs' us Q I rv h
  obtain ⟨F, G, s, σ, v, x, b, rfl, rep, hd, hb, post⟩ := h
  simp only [isUp, Option.map_eq_some_iff] at hb
  obtain ⟨⟨k, d⟩, e1, e2⟩ := hb
  have e2 : decide (c ∈ exUp k) = b := by simpa using e2
  obtain ⟨a, m, rfl, hkx, hh⟩ := hd.exo e1
  have hm : ∃ fo dd, exTab[k]? = some (m, fo) ∧ H a = some (ExA a (He.ga X.K m) dd) ∧ ∀ dx, dd = some dx → ∃ f u, H dx = some (.xd [(f, u)]) := by
    rcases hh with ⟨f, dx, u, h1, h2, h3, h4⟩ | ⟨h1, h2, h3⟩
    · exact ⟨_, _, h1, rep.gh _ _ h2, fun dy e => by cases e; exact ⟨_, _, rep.gh _ _ h3⟩⟩
    · exact ⟨_, _, h1, rep.gh _ _ h2, fun dy e => by cases e⟩
  obtain ⟨fo, dd, h1, h2, h3⟩ := hm
  have T := hx k hkx m fo h1
  obtain ⟨oe, vs, o1, o2, o3, o4⟩ := exa_at I.hok h2
  cases rv with
  | cons r1 rr =>
    cases rr with
    | cons r2 rr =>
      cases rr
      cases r1
      rw [cV_rel _ r2]
      have inst : ∃ od, PySem.W.InstAt s0.heap a oe (He.ga X.K m) od := by
        cases dd with
        | none => exact ⟨none, o1, o2, by unfold PySem.W.notCls; rw [o4] <;> rfl, by rw [o3]; trivial⟩
        | some dx =>
          obtain ⟨f, u, hu⟩ := h3 dx rfl
          obtain ⟨mA, ⟨ob, es, ep, e, _⟩, _⟩ : ∃ mA, s0.heap.Ns1 dx mA ∧ _ := I.hok dx _ hu
          exact ⟨some ob, o1, o2, by unfold PySem.W.notCls; rw [o4] <;> rfl, by rw [o3]; exact e⟩
      obtain ⟨od, inst⟩ := inst
      have hcl : (PySem.W.clsIn X.K (He.ga X.K m)).isSome = true := by
        obtain ⟨cd, hc, _⟩ := PySem.W.any_some T.xf.hdC
        rw [hc]
        rfl
      refine PySem.W.kia_one (PySem.W.kitx_exc hcl T.xf.ga T.xf.gg T.xf.exC T.ca T.cg T.ct T.cm) I.kIn inst (T.is c hc) (fun z => nomatch z) fun tk => ⟨.bl _, H, I.kept (t' := tk) fun _ _ z => z, rfl, ?_⟩
      rw [e2]
      exact post.fz rep (.bl _)
theorem snd_isX {a : CE} {c : Str} {l : Expr} {p p2 pos : Pos} (hx : XcA X.prog X.K X.mg) (hc : c ∈ Zk.ts) (hg : Gl X "isinstance") (hm : X.mg "isinstance" = none) (hC : PE X (.Name c p2) (tC (cV X.K c)))
    (ha : PE X l (TDE X.K (evE cf a))) (hs : nst l = true) : PE X (.Call (.Name "isinstance" p) [l, .Name c p2] [] pos) (TDE X.K (evE cf (.isX a [c]))) := by
  refine (pe_callB (cr_isX hx hc) hg hm (by decide +kernel) (pa_cons (pf ha) (pa_cons hC pa_nil) (nst_star hs _ _)) (by decide +kernel) (by decide +kernel) (nst_star hs _ _)).imp fun σ H Q ⟨F, G, s, x, s', rep, e, q⟩ => ?_
  simp only [evE, Option.bind_eq_some_iff, Option.map_eq_some_iff] at e
  obtain ⟨y, e1, b, e2, e3⟩ := e
  cases e3
  exact ⟨F, G, s, y.1, y.2, rep, e1, fun v H1 G1 sm1 r1 d1 => ⟨F, G1, y.2, σ, v, y.1.d, b, rfl, r1, d1, e2, q.mono sm1⟩⟩
/-- what isinstance sees of an exception -/
theorem kit_exo {k : Nat} {d : D} {pins : List (Addr × Obj)} {τ : St} {s0 : Shared} {F G H : Hp} {s : LS} {σ : St} {v : V} {x : D} (hx : XcA X.prog X.K X.mg) (I : Inv X pins τ H s0) (rep : Rep X.K F G s σ H) (hd : Den X.K G v x) (e1 : exOf x = some (k, d)) :
    ∃ a m fo oe od, v = .ref a ∧ k ∈ Zk.xs ∧ exTab[k]? = some (m, fo) ∧ PySem.W.InstAt s0.heap a oe (He.ga X.K m) od ∧ PySem.W.KitX X.K (.ref a) (.ref (He.ga X.K m)) (fun h => PySem.W.InstAt h a oe (He.ga X.K m) od) := by
  obtain ⟨a, m, rfl, hkx, hh⟩ := hd.exo e1
  have hm : ∃ fo dd, exTab[k]? = some (m, fo) ∧ H a = some (ExA a (He.ga X.K m) dd) ∧ ∀ dx, dd = some dx → ∃ f u, H dx = some (.xd [(f, u)]) := by
    rcases hh with ⟨f, dx, u, h1, h2, h3, h4⟩ | ⟨h1, h2, h3⟩
    · exact ⟨_, _, h1, rep.gh _ _ h2, fun dy e => by cases e; exact ⟨_, _, rep.gh _ _ h3⟩⟩
    · exact ⟨_, _, h1, rep.gh _ _ h2, fun dy e => by cases e⟩
  obtain ⟨fo, dd, h1, h2, h3⟩ := hm
  have T := hx k hkx m fo h1
  obtain ⟨oe, vs, o1, o2, o3, o4⟩ := exa_at I.hok h2
  have inst : ∃ od, PySem.W.InstAt s0.heap a oe (He.ga X.K m) od := by
    cases dd with
    | none => exact ⟨none, o1, o2, by unfold PySem.W.notCls; rw [o4] <;> rfl, by rw [o3]; trivial⟩
    | some dx =>
      obtain ⟨f, u, hu⟩ := h3 dx rfl
      obtain ⟨mA, ⟨ob, es, ep, e, _⟩, _⟩ : ∃ mA, s0.heap.Ns1 dx mA ∧ _ := I.hok dx _ hu
      exact ⟨some ob, o1, o2, by unfold PySem.W.notCls; rw [o4] <;> rfl, by rw [o3]; exact e⟩
  obtain ⟨od, inst⟩ := inst
  have hcl : (PySem.W.clsIn X.K (He.ga X.K m)).isSome = true := by
    obtain ⟨cd, hc, _⟩ := PySem.W.any_some T.xf.hdC
    rw [hc]
    rfl
  exact ⟨a, m, fo, oe, od, rfl, hkx, h1, inst, PySem.W.kitx_exc hcl T.xf.ga T.xf.gg T.xf.exC T.ca T.cg T.ct T.cm⟩
def rIsX2 (K : PySem.W.Frag) (c1 c2 : Str) : List V → Hp → VK → Prop := fun vs H Q => ∃ F G s σ v x b tp, vs = [v, .ref tp] ∧ H tp = some (.tup [cV K c1, cV K c2]) ∧ Rep K F G s σ H ∧ Den K G v x ∧ isUp [c1, c2] x = some b ∧ Post K F G s σ ⟨.fz, .bool b⟩ Q
theorem cr_isX2 {c1 c2 : Str} (hx : XcA X.prog X.K X.mg) (hc1 : c1 ∈ Zk.ts) (hc2 : c2 ∈ Zk.ts) : CallR X (.builtin "isinstance") (rIsX2 X.K c1 c2) := by
  intro pins s0 τ H xs' us Q I rv h
  obtain ⟨F, G, s, σ, v, x, b, tp, rfl, ht, rep, hd, hb, post⟩ := h
  simp only [isUp, Option.map_eq_some_iff] at hb
  obtain ⟨⟨k, d⟩, e1, e2⟩ := hb
  obtain ⟨a, m, fo, oe, od, rfl, hkx, h1, inst, Z⟩ := kit_exo hx I rep hd e1
  have T := hx k hkx m fo h1
  cases rv with
  | cons r1 rr =>
    cases rr with
    | cons r2 rr =>
      cases rr
      cases r1
      cases r2
      obtain ⟨_, its, rvt, o, o1, o2, n, o3⟩ := (show ObjOk X.prog X.w H s0.heap tp (.tup [cV X.K c1, cV X.K c2]) from I.hok tp _ ht)
      have e3 : its = [clsV X.K c1, clsV X.K c2] := by
        cases rvt with
        | cons q1 qq =>
          cases qq with
          | cons q2 qq =>
            cases qq
            rw [cV_rel _ q1, cV_rel _ q2]
      subst e3
      obtain ⟨oc, odd, dt, sl⟩ := o
      simp only at o2 o3
      subst o2 o3
      have ek : PySem.W.kitAny X.K (.ref (He.ga X.K m)) [clsV X.K c1, clsV X.K c2] = some b := by
        rw [PySem.W.kitAny, T.is c1 hc1]
        have e2 : (decide (c1 ∈ exUp k) || (decide (c2 ∈ exUp k) || false)) = b := e2
        rw [Bool.or_false] at e2
        cases z1 : decide (c1 ∈ exUp k) with
        | true => rw [z1] at e2; simp only [Bool.true_or] at e2; subst e2; rfl
        | false =>
          rw [z1] at e2
          simp only [Bool.false_or] at e2
          show PySem.W.kitAny X.K _ [clsV X.K c2] = _
          rw [PySem.W.kitAny, T.is c2 hc2]
          cases z2 : decide (c2 ∈ exUp k) with
          | true => rw [z2] at e2; subst e2; rfl
          | false => rw [z2] at e2; subst e2; rfl
      exact PySem.W.kia_tup Z I.kIn inst o1 ek (fun z => nomatch z) fun tk => ⟨.bl _, H, I.kept (t' := tk) fun _ _ z => z, rfl, post.fz rep (.bl _)⟩
theorem snd_isX2 {a : CE} {c1 c2 : Str} {l : Expr} {p p1 p2 pt pos : Pos} {kt : Nat} (hx : XcA X.prog X.K X.mg) (hc1 : c1 ∈ Zk.ts) (hc2 : c2 ∈ Zk.ts) (hg : Gl X "isinstance") (hm : X.mg "isinstance" = none) (hC1 : PE X (.Name c1 p1) (tC (cV X.K c1))) (hC2 : PE X (.Name c2 p2) (tC (cV X.K c2)))
    (ha : PE X l (TDE X.K (evE cf a))) (hs : nst l = true) : PE X (.Call (.Name "isinstance" p) [l, .Tuple [.Name c1 p1, .Name c2 p2] kt pt] [] pos) (TDE X.K (evE cf (.isX a [c1, c2]))) := by
  refine (pe_callB (cr_isX2 hx hc1 hc2) hg hm (by decide +kernel) (pa_cons (pf ha) (pa_cons (pe_tup (pa_cons hC1 (pa_cons hC2 pa_nil))) pa_nil) (nst_star hs _ _)) (by decide +kernel) (by decide +kernel) (nst_star hs _ _)).imp fun σ H Q ⟨F, G, s, x, s', rep, e, q⟩ => ?_
  simp only [evE, Option.bind_eq_some_iff, Option.map_eq_some_iff] at e
  obtain ⟨y, e1, b, e2, e3⟩ := e
  cases e3
  refine ⟨F, G, s, y.1, y.2, rep, e1, fun v H1 G1 sm1 r1 d1 => ⟨by rw [sizeLine_eq]; simp, fun p hp => ?_⟩⟩
  have r2 := r1.newG (o := .tup [cV X.K c1, cV X.K c2]) hp
  have g1 := same_upd (o := .tup [cV X.K c1, cV X.K c2]) (r1.gh.free hp)
  exact ⟨F, _, y.2, σ, v, y.1.d, b, p, rfl, upd_same, r2, d1.mono g1, e2, q.mono (sm1.trans g1)⟩
theorem snd_fld {a : CE} {f : Str} {l : Expr} {pos : Pos} (hx : XcA X.prog X.K X.mg) (ha : PE X l (TDE X.K (evE cf a))) (hb : attributeBase l f X.env (eval l X.env) = eval l X.env) :
    PE X (.Attribute l f pos) (TDE X.K (evE cf (.fld a f))) := by
  refine ⟨fun pins s σ H Q I ⟨F, G, s0, y, s1, rep, ev, q⟩ => ?_⟩
  simp only [evE, Option.bind_eq_some_iff, Option.map_eq_some_iff] at ev
  obtain ⟨z, e1, d, e2, e3⟩ := ev
  cases e3
  refine attr_of hb (thn ((pf ha).run pins s σ H _ I ⟨F, G, s0, z.1, z.2, rep, e1, fun v H1 G1 sm1 r1 d1 => (⟨G1, sm1, r1, d1⟩ : ∃ G1, Same G G1 ∧ Rep X.K F G1 z.2 σ H1 ∧ Den X.K G1 v z.1.d)⟩) fun u s2 ⟨v, H1, I1, rv, G1, sm1, r1, d1⟩ => ?_)
  simp only [fldOf, Option.bind_eq_some_iff] at e2
  obtain ⟨⟨k, dd⟩, e3, e4⟩ := e2
  obtain ⟨a0, m, rfl, hkx, hh⟩ := d1.exo e3
  rcases hh with ⟨g, dx, w, h1, h2, h3, h4⟩ | ⟨h1, h2, h3⟩
  · simp only [h1] at e4
    obtain ⟨hg, e4⟩ := ite_some e4
    cases e4
    subst hg
    have T := hx k hkx m _ h1
    obtain ⟨oe, vs, o1, o2, o3, o4⟩ := exa_at I1.hok (r1.gh _ _ h2)
    cases rv
    obtain ⟨mA, hns, hr⟩ : ∃ mA, s2.heap.Ns1 dx mA ∧ _ := I1.hok dx _ (r1.gh _ _ h3)
    obtain ⟨od, ho, hl⟩ := lookIn_ns hns
    obtain ⟨uu, hu, ru⟩ := RelO.some_of (v := w) (o := mA g) (by have := hr g; rwa [show ([(g, w)] : List (Str × V)).lookup g = some w by simp] at this)
    have inst : PySem.W.InstAt s2.heap a0 oe (He.ga X.K m) (some od) := ⟨o1, o2, by unfold PySem.W.notCls; rw [o4] <;> rfl, by rw [o3]; exact ho⟩
    exact HandSPX.exc_get I1.kIn inst T.xf.ga T.xf.gg T.xf.exC (PySem.W.findObj_own T.xf.hdC (T.no g rfl) rfl (by rw [hl, hu])) (handed_of ru) ⟨w, H1, I1.tok _, ru, (q.mono sm1).fz r1 h4⟩
  · simp only [h1] at e4
    cases e4
end
end LP

end
section
set_option Elab.async false
set_option linter.all false
set_option maxRecDepth 100000
set_option maxHeartbeats 2000000
/-! LP20: a checker: this expression is that core term. -/
namespace LP
open PySem PySem.Spec L2
open PyProof.Rows hiding St
variable [Zk]
inductive GV where
  | int (i : Int) | str (x : Str)
  deriving DecidableEq
/-- what is known where a text stands -/
structure CC where
  sc : Scope
  N : List Str
  fn : Str → Bool
  bn : List Str
  gs : List (Str × GV)
  fs : List (Str × Nat × Nat)
def CC.blk (cc : CC) (scope : Scope) : CC := { cc with sc := relS scope cc.sc, fn := fun x => scope.names.lookup x == some .cell }
def CC.vis (cc : CC) (x : Str) : Bool := match cc.sc.names.lookup x with
  | some .local => true
  | some .cell => true
  | some .free => true
  | _ => false
def CC.loc (cc : CC) (x : Str) : Bool := match cc.sc.names.lookup x with
  | some .local => true
  | some .cell => cc.fn x
  | _ => false
def CC.glo (cc : CC) (x : Str) : Bool := match cc.sc.names.lookup x with
  | some .globalImplicit => true
  | _ => false
def CC.blt (cc : CC) (x : Str) : Bool := cc.glo x && decide (x ∈ cc.bn)
def notOdd (x : Str) : Bool := !(x == ("__debug__" : Str)) && !(x == ("__classdict__" : Str))
def CC.name (cc : CC) (i : Nat) (x : Str) : Bool := decide (cc.N[i]? = some x) && cc.vis x && notOdd x
def CC.targ (cc : CC) (i : Nat) (x : Str) : Bool := decide (cc.N[i]? = some x) && cc.loc x
def B1.nm : B1 → Str
  | .len => "len"
  | .tuple => "tuple"
  | .list => "list"
  | .int => "int"
  | .minL => "min"
  | .maxL => "max"
  | .sum => "sum"
  | .all => "all"
  | .any => "any"
  | .sorted => "sorted"
  | .sset => "set"
  | .repr => "repr"
  | .str => "str"
  | .abs => "abs"
  | .minT => "min"
def B1.one : B1 → Bool
  | .sset => false
  | _ => true
def call1 : Expr → Option (Str × Expr)
  | .Call (.Name x _) [l] [] _ => some (x, l)
  | _ => none
def call2 : Expr → Option (Str × Expr × Expr)
  | .Call (.Name x _) [l, r] [] _ => some (x, l, r)
  | _ => none
def call3 : Expr → Option (Str × Expr × Expr × Expr)
  | .Call (.Name x _) [l, r, m] [] _ => some (x, l, r, m)
  | _ => none
def callM : Expr → Option (Str × Expr × Expr × Bool)
  | .Call (.Attribute l x apos) [r] [] pos => some (x, l, r, apos.endLine == pos.line)
  | _ => none
theorem call3_inv {e : Expr} {x : Str} {l r m : Expr} (h : call3 e = some (x, l, r, m)) : ∃ p pos, e = .Call (.Name x p) [l, r, m] [] pos := by
  unfold call3 at h
  split at h
  · cases h; exact ⟨_, _, rfl⟩
  · cases h
theorem callM_inv {e : Expr} {x : Str} {l r : Expr} {k : Bool} (h : callM e = some (x, l, r, k)) : ∃ apos pos, e = .Call (.Attribute l x apos) [r] [] pos ∧ k = (apos.endLine == pos.line) := by
  unfold callM at h
  split at h
  · cases h; exact ⟨_, _, rfl, rfl⟩
  · cases h
theorem call1_inv {e : Expr} {x : Str} {l : Expr} (h : call1 e = some (x, l)) : ∃ p pos, e = .Call (.Name x p) [l] [] pos := by
  unfold call1 at h
  split at h
  · cases h; exact ⟨_, _, rfl⟩
  · cases h
theorem call2_inv {e : Expr} {x : Str} {l r : Expr} (h : call2 e = some (x, l, r)) : ∃ p pos, e = .Call (.Name x p) [l, r] [] pos := by
  unfold call2 at h
  split at h
  · cases h; exact ⟨_, _, rfl⟩
  · cases h
def isTwo : Expr → Str → Str → Bool
  | .Tuple [.Name x _, .Name y _] _ _, c1, c2 => decide (x = c1) && decide (y = c2)
  | _, _, _ => false
theorem isTwo_inv {r : Expr} {c1 c2 : Str} (h : isTwo r c1 c2 = true) : ∃ p1 p2 k p, r = .Tuple [.Name c1 p1, .Name c2 p2] k p := by
  unfold isTwo at h
  split at h
  · simp only [Bool.and_eq_true, decide_eq_true_eq] at h
    obtain ⟨rfl, rfl⟩ := h
    exact ⟨_, _, _, _, rfl⟩
  · cases h
def isName : Expr → Str → Bool
  | .Name x _, y => decide (x = y)
  | _, _ => false
theorem isName_inv {e : Expr} {y : Str} (h : isName e y = true) : ∃ p, e = .Name y p := by
  unfold isName at h
  split at h
  · exact ⟨_, by rw [of_decide_eq_true h]⟩
  · cases h
def okNames (cc : CC) : List Nat → List Expr → Bool
  | [], [] => true
  | i :: is, .Name x _ :: es => cc.targ i x && okNames cc is es
  | _, _ => false
def okPt (cc : CC) : Pt → Expr → Bool
  | .v i, .Name x _ => cc.targ i x
  | .t is, .Tuple es _ _ => okNames cc is es
  | _, _ => false
def ownN (cc : CC) (own : List Nat) : List (Str × Nat) := own.map fun i => ((cc.N[i]?).getD (Str.ofString ""), i)
def isTuple : Expr → Bool
  | .Tuple _ _ _ => true
  | _ => false
def CEs.len : CEs → Nat
  | .nil => 0
  | .cons _ r => r.len + 1
  | .star _ r => r.len + 1
def CEs.plain : CEs → Bool
  | .nil => true
  | .cons _ r => r.plain
  | .star _ _ => false
mutual
/-- it can be a test -/
def CE.test : CE → Bool
  | .v _ => true
  | .bl _ => true
  | .cmp _ _ _ => true
  | .ch2 _ _ _ _ _ => true
  | .ch3 _ _ _ _ _ _ _ => true
  | .isN _ => true
  | .isNN _ => true
  | .not a => a.test
  | .and es => es.test
  | .or es => es.test
  | .call _ _ => true
  | .b1 _ _ => true
  | .isI _ _ => true
  | .idx _ _ => true
  | .isB _ _ => true
  | .isX _ _ => true
  | _ => false
def CEs.test : CEs → Bool
  | .nil => true
  | .cons e r => e.test && r.test
  | .star _ _ => false
end
mutual
def okE (cc : CC) : CE → Expr → Bool
  | .v i, e => match e with
    | .Name x _ => cc.name i x
    | _ => false
  | .non, e => match e with
    | .Constant .none _ _ => true
    | _ => false
  | .bl b, e => match e with
    | .Constant (.bool c) _ _ => decide (b = c)
    | _ => false
  | .int i, e => match e with
    | .Constant (.int j) _ _ => decide (i = j)
    | _ => false
  | .str x, e => match e with
    | .Constant (.str y) _ _ => decide (x = y)
    | _ => false
  | .gI x i, e => match e with
    | .Name y _ => decide (x = y) && cc.glo x && notOdd x && decide (cc.gs.lookup x = some (.int i))
    | _ => false
  | .gS x t, e => match e with
    | .Name y _ => decide (x = y) && cc.glo x && notOdd x && decide (cc.gs.lookup x = some (.str t))
    | _ => false
  | .tup es, e => match e with
    | .Tuple ls _ _ => okEs cc es ls
    | _ => false
  | .lst es, e => match e with
    | .List ls _ => okEs cc es ls
    | _ => false
  | .bin op a b, e => match e with
    | .BinOp l o r _ => decide (o = op.op) && (okE cc a l && okE cc b r)
    | _ => false
  | .neg a, e => match e with
    | .UnaryOp .USub l _ => okE cc a l
    | _ => false
  | .cmp op a b, e => match e with
    | .Compare l [o] [r] _ => decide (o = op.op) && (okE cc a l && okE cc b r)
    | _ => false
  | .ch2 o1 o2 a b c, e => match e with
    | .Compare l [p1, p2] [r, t] _ => decide (p1 = o1.op) && (decide (p2 = o2.op) && (okE cc a l && (okE cc b r && okE cc c t)))
    | _ => false
  | .ch3 o1 o2 o3 a b c d, e => match e with
    | .Compare l [p1, p2, p3] [r, t, u] _ => decide (p1 = o1.op) && (decide (p2 = o2.op) && (decide (p3 = o3.op) && (okE cc a l && (okE cc b r && (okE cc c t && okE cc d u)))))
    | _ => false
  | .isN a, e => match e with
    | .Compare l [.Is] [.Constant .none _ _] _ => okE cc a l
    | _ => false
  | .isNN a, e => match e with
    | .Compare l [.IsNot] [.Constant .none _ _] _ => okE cc a l
    | _ => false
  | .and es, e => match e with
    | .BoolOp .And ls _ => es.plain && okEs cc es ls
    | _ => false
  | .or es, e => match e with
    | .BoolOp .Or ls _ => es.plain && okEs cc es ls
    | _ => false
  | .not a, e => match e with
    | .UnaryOp .Not l _ => okE cc a l
    | _ => false
  | .ite c a b, e => match e with
    | .IfExp t l r _ => c.test && (okE cc c t && (okE cc a l && okE cc b r))
    | _ => false
  | .idx a i, e => match e with
    | .Subscript l r _ => okE cc a l && okE cc i r
    | _ => false
  | .slc a lo hi, e => match e with
    | .Subscript l (.Slice u v none _) _ => okE cc a l && (okO cc lo u && okO cc hi v)
    | _ => false
  | .rev a, e => match e with
    | .Subscript l (.Slice none none (some (.UnaryOp .USub (.Constant (.int 1) _ _) _)) _) _ => okE cc a l
    | _ => false
  | .call f as, e => match e with
    | .Call (.Name x _) ls [] _ => cc.glo x && (notOdd x && (decide (cc.fs.lookup x = some (f, as.len)) && (as.plain && okEs cc as ls)))
    | _ => false
  | .b1 f a, e => match call1 e with
    | some (x, l) => if f.one then decide (x = f.nm) && (cc.blt f.nm && okE cc a l) else match call1 l with
      | some (y, l2) => decide (x = "sorted") && (decide (y = "set") && (cc.blt "sorted" && (cc.blt "set" && okE cc a l2)))
      | none => false
    | none => false
  | .b2 f a b, e => if f.meth then match callM e with
      | some (x, l, r, k) => decide (x = Str.ofString f.nm) && (k && (noC0 l && (okE cc a l && okE cc b r)))
      | none => false
    else match call2 e with
      | some (x, l, r) => decide (x = Str.ofString f.nm) && (cc.blt (Str.ofString f.nm) && (okE cc a l && okE cc b r))
      | none => false
  | .isI a t, e => match call2 e with
    | some (x, l, r) => decide (x = "isinstance") && (cc.blt "isinstance" && (cc.blt (Str.ofString t.nm) && (isName r (Str.ofString t.nm) && okE cc a l)))
    | none => false
  | .lrg b, e => match call1 e with
    | some (x, l) => match call1 l with
      | some (y, l2) => decide (x = "list") && (decide (y = "range") && (cc.blt "list" && (cc.blt "range" && okE cc b l2)))
      | none => false
    | none => false
  | .lcp own x p it c, e => match e with
    | .ListComp elt [⟨tg, iter, ifs, 0⟩] scope _ => okI cc it tg iter && (blkC cc.N cc.sc scope (ownN cc own) && (okPt (cc.blk scope) p tg && (p.is.all (fun i => decide (i ∈ own)) && (okC (cc.blk scope) c ifs && okE (cc.blk scope) x elt))))
    | _ => false
  | .lc2 own own2 x p it c p2 a2 c2, e => match e with
    | .ListComp elt [⟨tg, iter, ifs, 0⟩, ⟨tg2, iter2, ifs2, 0⟩] scope _ => okI cc it tg iter && (blkC cc.N cc.sc scope (ownN cc own) && (okPt (cc.blk scope) p tg && (p.is.all (fun i => decide (i ∈ own)) && (okC (cc.blk scope) c ifs &&
        (okE (cc.blk scope) a2 iter2 && (okPt (cc.blk scope) p2 tg2 && (p2.is.all (fun i => decide (i ∈ own2)) && (own2.all (fun i => decide (i ∈ own)) && (okC (cc.blk scope) c2 ifs2 && okE (cc.blk scope) x elt)))))))))
    | _ => false
  | .scp own x p it c, e => match call1 e with
    | some (y, l) => match l with
      | .SetComp elt [⟨tg, iter, ifs, 0⟩] scope _ => decide (y = "sorted") && (cc.blt "sorted" && (okI cc it tg iter && (blkC cc.N cc.sc scope (ownN cc own) && (okPt (cc.blk scope) p tg && (p.is.all (fun i => decide (i ∈ own)) && (okC (cc.blk scope) c ifs && okE (cc.blk scope) x elt))))))
      | _ => false
    | none => false
  | .dic kvs, e => match e with
    | .Dict ks vs _ => decide (kvs.len ≤ 15) && okK cc kvs ks vs
    | _ => false
  | .isB a b, e => match e with
    | .Compare l [.Is] [.Constant (.bool c) _ _] _ => decide (b = c) && okE cc a l
    | _ => false
  | .mkx k kw as, e => match e with
    | .Call (.Name x _) ls [] _ => !kw && (decide ((exTab[k]?).map (·.1) = some x) && (decide (k ∈ Zk.xs) && (cc.glo x && (notOdd x && (decide (ls.length ≤ 1) && (as.plain && okEs cc as ls))))))
    | .Call (.Name x _) [] [⟨some f, l, _⟩] _ => kw && (decide (exTab[k]? = some (x, some f)) && (decide (k ∈ Zk.xs) && (cc.glo x && (notOdd x && (as.plain && okEs cc as [l])))))
    | _ => false
  | .isX a cs, e => match call2 e with
    | some (x, l, r) => match cs with
      | [c] => decide (x = "isinstance") && (cc.blt "isinstance" && (isName r c && (decide (c ∈ Zk.ts) && (cc.glo c && (notOdd c && okE cc a l)))))
      | [c1, c2] => decide (x = "isinstance") && (cc.blt "isinstance" && (isTwo r c1 c2 && (decide (c1 ∈ Zk.ts) && (decide (c2 ∈ Zk.ts) && (cc.glo c1 && (cc.glo c2 && (notOdd c1 && (notOdd c2 && okE cc a l))))))))
      | _ => false
    | none => false
  | .fld a f, e => match e with
    | .Attribute l g _ => decide (g = f) && (noC0 l && okE cc a l)
    | _ => false
  | .lam _ _, _ => false
  | .cav _ _, _ => false
def okEs (cc : CC) : CEs → List Expr → Bool
  | .nil, l => match l with
    | [] => true
    | _ => false
  | .cons a r, l => match l with
    | e :: es => okE cc a e && okEs cc r es
    | [] => false
  | .star a r, l => match l with
    | .Starred e _ :: es => okE cc a e && okEs cc r es
    | _ => false
def okO (cc : CC) : CO → Option Expr → Bool
  | .no, o => match o with
    | none => true
    | _ => false
  | .yes a, o => match o with
    | some e => okE cc a e
    | none => false
def okC (cc : CC) : CO → List Expr → Bool
  | .no, o => match o with
    | [] => true
    | _ => false
  | .yes a, o => match o with
    | [e] => a.test && okE cc a e
    | _ => false
def okI (cc : CC) : CI → Expr → Expr → Bool
  | .e a, _, e => okE cc a e
  | .rg1 a, _, e => match call1 e with
    | some (x, l) => decide (x = "range") && (cc.blt "range" && okE cc a l)
    | none => false
  | .rg2 a b, _, e => match call2 e with
    | some (x, l, r) => decide (x = "range") && (cc.blt "range" && (okE cc a l && okE cc b r))
    | none => false
  | .enu a, tg, e => match call1 e with
    | some (x, l) => isTuple tg && (decide (x = "enumerate") && (cc.blt "enumerate" && okE cc a l))
    | none => false
  | .zip a b, tg, e => match call2 e with
    | some (x, l, r) => isTuple tg && (decide (x = "zip") && (cc.blt "zip" && (okE cc a l && okE cc b r)))
    | none => false
  | .zip3 a b c, tg, e => match call3 e with
    | some (x, l, r, m) => isTuple tg && (decide (x = "zip") && (cc.blt "zip" && (okE cc a l && (okE cc b r && okE cc c m))))
    | none => false
def okK (cc : CC) : CK → List (Option Expr) → List Expr → Bool
  | .nil, ks, vs => match ks, vs with
    | [], [] => true
    | _, _ => false
  | .cons k a r, ks, vs => match ks, vs with
    | some (.Constant (.str x) _ _) :: ks, v :: vs => decide (k = x) && (okE cc a v && okK cc r ks vs)
    | _, _ => false
end
end LP

end
section
set_option Elab.async false
set_option linter.all false
set_option maxRecDepth 100000
set_option maxHeartbeats 2000000
/-! LP21: the checker is right. -/
namespace LP
open PySem PySem.Spec L2
open PyProof.Rows hiding St
variable [Zk]
/-- the context is as the checker thinks -/
structure XOk (X : Cx) (cf : CF) (cc : CC) : Prop where
  sc : X.env.scope = cc.sc
  fn : X.fn = cc.fn
  N : X.N = cc.N
  nd : cc.N.Nodup
  calm : X.calm = true
  gu : X.A.guards = some []
  un : X.A.units + 70 < cLine
  sm : SmB X.base
  bn : ∀ x ∈ cc.bn, X.mg x = none
  gi : ∀ x i, cc.gs.lookup x = some (.int i) → ∃ u, X.mg x = some u ∧ RelV (.int i) u
  gs : ∀ x i, cc.gs.lookup x = some (.str i) → ∃ u, X.mg x = some u ∧ RelV (.str i) u
  fs : ∀ x f n, cc.fs.lookup x = some (f, n) → ∃ k a fd ps, FnG X.prog X.w X.K X.mg X.base k a fd ps (spX X.K cf n f) ∧ Room k X.A ∧ X.mg x = some (.ref a) ∧ PySem.W.keepIn X.K (.ref a) = true ∧ Binds X.K fd ps []
  xc : XcA X.prog X.K X.mg
  rm : Room 1 X.A
  tc : ∀ c ∈ Zk.ts, (∃ t, bltX c = some t ∧ X.mg c = none) ∨ (bltX c = none ∧ X.mg c = some (.ref (He.ga X.K c)))
structure Snd (X : Cx) (cf : CF) (c : CE) (e : Expr) : Prop where
  pe : PE X e (TDE X.K (evE cf c))
  po : PE X e (TDO X.K fun s => opA c (evE cf c s) s)
  pt : c.test = true → PT X e (TDB X.K fun s => tst (evE cf c s))
  ns : nst e = true
section
variable {X : Cx} {cf : CF} {cc : CC}
theorem XOk.blk (x : XOk X cf cc) (z : Shared) (H0 : Hp) (scope : Scope) (C : Addr) (cl : List (PySem.Str × Addr)) (fp : List Addr) : XOk (X.blk z H0 scope (compEnvC scope cl C X.env) fp) cf (cc.blk scope) :=
  ⟨by show relS scope X.env.scope = relS scope cc.sc; rw [x.sc], rfl, x.N, x.nd, x.calm, x.gu, x.un, x.sm, x.bn, x.gi, x.gs, x.fs, x.xc, x.rm, x.tc⟩
theorem XOk.vis (x : XOk X cf cc) {n : Str} (h : cc.vis n = true) : Vis X.env.scope n := by
  unfold CC.vis at h
  unfold Vis
  rw [x.sc]
  split at h
  · exact .inl (by assumption)
  · exact .inr (.inl (by assumption))
  · exact .inr (.inr (by assumption))
  · cases h
theorem XOk.glo (x : XOk X cf cc) {n : Str} (h : cc.glo n = true) : Gl X n := by
  unfold CC.glo at h
  show X.env.scope.names.lookup n = some .globalImplicit
  rw [x.sc]
  split at h
  · assumption
  · cases h
theorem XOk.blt (x : XOk X cf cc) {n : Str} (h : cc.blt n = true) : Gl X n ∧ X.mg n = none := by
  unfold CC.blt at h
  rw [Bool.and_eq_true] at h
  exact ⟨x.glo h.1, x.bn n (of_decide_eq_true h.2)⟩
theorem notOdd_inv {n : Str} (h : notOdd n = true) : (n == ("__debug__" : Str)) = false ∧ (n == ("__classdict__" : Str)) = false := by
  unfold notOdd at h
  rw [Bool.and_eq_true, Bool.not_eq_true', Bool.not_eq_true'] at h
  exact h
theorem XOk.name (x : XOk X cf cc) {i : Nat} {n : Str} (h : cc.name i n = true) : X.N[i]? = some n ∧ Vis X.env.scope n ∧ (n == ("__debug__" : Str)) = false ∧ (n == ("__classdict__" : Str)) = false := by
  unfold CC.name at h
  rw [Bool.and_eq_true, Bool.and_eq_true] at h
  exact ⟨by rw [x.N]; exact of_decide_eq_true h.1.1, x.vis h.1.2, notOdd_inv h.2⟩
theorem XOk.loc (x : XOk X cf cc) {n : Str} (h : cc.loc n = true) : L2.Loc X.env.scope n ∧ (X.fn n = true ∨ X.env.scope.names.lookup n = some .local) := by
  unfold CC.loc at h
  unfold L2.Loc
  rw [x.sc, x.fn]
  split at h
  · exact ⟨.inl (by assumption), .inr (by assumption)⟩
  · exact ⟨.inr (by assumption), .inl h⟩
  · cases h
theorem XOk.targ (x : XOk X cf cc) {i : Nat} {n : Str} {pos : Pos} (h : cc.targ i n = true) : PG X (.Name n pos) (gName i) := by
  unfold CC.targ at h
  rw [Bool.and_eq_true] at h
  obtain ⟨l, f⟩ := x.loc h.2
  exact pg_name (by rw [x.N]; exact x.nd) (by rw [x.N]; exact of_decide_eq_true h.1) l f
theorem okNames_len (X : Cx) : ∀ {is : List Nat} {es : List Expr}, okNames cc is es = true → (assignEach es X.env).length = is.length ∧ (assignEach es X.env).findIdx? (·.1) = none
  | [], [], _ => ⟨rfl, rfl⟩
  | i :: is, .Name x p :: es, h => by
    unfold okNames at h
    rw [Bool.and_eq_true] at h
    obtain ⟨a, b⟩ := okNames_len X h.2
    have e : assignEach (Expr.Name x p :: es) X.env = (false, assign (.Name x p) X.env) :: assignEach es X.env := rfl
    rw [e]
    refine ⟨by rw [List.length_cons, List.length_cons, a], ?_⟩
    rw [List.findIdx?_cons, b]
    rfl
  | [], e :: es, h => by cases e <;> cases h
  | i :: is, [], h => by cases h
theorem okNames_snd (x : XOk X cf cc) : ∀ {is : List Nat} {es : List Expr}, okNames cc is es = true → PGs X es (gNames is)
  | [], [], _ => pgs_nil
  | i :: is, .Name y p :: es, h => by
    unfold okNames at h
    rw [Bool.and_eq_true] at h
    exact pgs_cons (x.targ h.1) (okNames_snd x h.2)
  | [], e :: es, h => by cases e <;> cases h
  | i :: is, [], h => by cases h
theorem okPt_snd (x : XOk X cf cc) {p : Pt} {e : Expr} (h : okPt cc p e = true) : PG X e (gPt X.K p) := by
  unfold okPt at h
  split at h
  · exact x.targ h
  · obtain ⟨a, b⟩ := okNames_len X h
    exact pg_tup x.calm (okNames_snd x h) a b
  · cases h
theorem fold_nst {e : Expr} (h : nst e = true) (env : Env) (v : Value) : foldedSetIterable e env v = pure v := by
  cases e <;> first | rfl | cases h
theorem ownN_ix (own : List Nat) : (ownN cc own).map (·.2) = own := by
  unfold ownN
  rw [List.map_map]
  exact List.map_id' own
theorem nst_any {env : Env} {pos : Pos} : ∀ {es : List Expr}, (∀ e ∈ es, nst e = true) → (backTo pos (starEach es env)).any (·.1) = false
  | [], _ => rfl
  | e :: es, h => by
    rw [nst_star (h e List.mem_cons_self)]
    show (false || (backTo pos (starEach es env)).any (·.1)) = false
    rw [nst_any fun a ha => h a (List.mem_cons_of_mem _ ha)]
    rfl
theorem evAs_len : ∀ {as : CEs} {s s' : LS} {os : List Opd}, evAs cf as s = some (os, s') → os.length = as.len
  | .nil, s, s', os, h => by cases h; rfl
  | .cons e r, s, s', os, h => by
    simp only [evAs, Option.bind_eq_some_iff, Option.map_eq_some_iff] at h
    obtain ⟨y, e1, z, e2, e3⟩ := h
    cases e3
    rw [List.length_cons, evAs_len e2]
    rfl
  | .star _ _, s, s', os, h => by cases h
theorem b1_snd (x : XOk X cf cc) {f : B1} {a : CE} {l : Expr} {p pos : Pos} (hf : f.one = true) (hb : cc.blt f.nm = true) (ha : PE X l (TDO X.K fun s => opA a (evE cf a s) s)) (hs : nst l = true) : PE X (.Call (.Name f.nm p) [l] [] pos) (TDE X.K (evE cf (.b1 f a))) := by
  obtain ⟨hg, hm⟩ := x.blt hb
  cases f with
  | len => exact snd_b1 cr_len hg hm (by decide +kernel) (by decide +kernel) (by decide +kernel) ha hs
  | tuple => exact snd_b1T cr_tuple hg hm (by decide +kernel) (by decide +kernel) (by decide +kernel) ha hs
  | list => exact snd_b1T cr_list hg hm (by decide +kernel) (by decide +kernel) (by decide +kernel) ha hs
  | int => exact snd_b1T cr_int hg hm (by decide +kernel) (by decide +kernel) (by decide +kernel) ha hs
  | minL => exact snd_b1 (cr_minL x.calm) hg hm (by decide +kernel) (by decide +kernel) (by decide +kernel) ha hs
  | minT => exact snd_b1 (cr_minT x.calm x.un) hg hm (by decide +kernel) (by decide +kernel) (by decide +kernel) ha hs
  | maxL => exact snd_b1 (cr_maxL x.calm) hg hm (by decide +kernel) (by decide +kernel) (by decide +kernel) ha hs
  | sum => exact snd_b1 (cr_sumL x.calm) hg hm (by decide +kernel) (by decide +kernel) (by decide +kernel) ha hs
  | all => exact snd_b1 (cr_allL x.calm) hg hm (by decide +kernel) (by decide +kernel) (by decide +kernel) ha hs
  | any => exact snd_b1 (cr_anyL x.calm) hg hm (by decide +kernel) (by decide +kernel) (by decide +kernel) ha hs
  | sorted => exact snd_b1 cr_sortedL hg hm (by decide +kernel) (by decide +kernel) (by decide +kernel) ha hs
  | sset => cases hf
  | repr => exact snd_b1 (cr_repr x.sm x.gu x.un) hg hm (by decide +kernel) (by decide +kernel) (by decide +kernel) ha hs
  | str => exact snd_b1T cr_str hg hm (by decide +kernel) (by decide +kernel) (by decide +kernel) ha hs
  | abs => exact snd_b1 cr_abs hg hm (by decide +kernel) (by decide +kernel) (by decide +kernel) ha hs
theorem Snd.of {c : CE} {e : Expr} (hp : PE X e (TDE X.K (evE cf c))) (hv : ∀ i, c ≠ .v i) (ht : c.test = true → PT X e (TDB X.K fun s => tst (evE cf c s))) (hn : nst e = true) : Snd X cf c e := ⟨hp, po_of hp hv, ht, hn⟩
theorem nst_marks {op : CmpOp} {e : Expr} (h : nst e = true) : behindInMarks op e = false := by
  cases e <;> first | rfl | cases h
theorem pts_no : PTs X [] (TDB X.K (evC cf .no)) := ⟨fun pins s σ H Q I ⟨F, G, s0, b, s1, rep, e, q⟩ => by
  cases e
  exact pts_nil.run pins s σ H Q I (q H G (Same.refl _) rep)⟩
end
theorem okE_cls {X : Cx} {cf : CF} {cc : CC} {c : Str} {p : Pos} (x : XOk X cf cc) (h3 : c ∈ Zk.ts) (h4 : cc.glo c = true) (h5 : notOdd c = true) : PE X (.Name c p) (tC (cV X.K c)) := by
  rcases x.tc c h3 with ⟨t, e1, e2⟩ | ⟨e1, e2⟩
  · unfold cV
    rw [e1]
    have hbn : bootBuiltins c = some (.type t) ∧ c ≠ "__name__" := by
      unfold bltX at e1
      repeat' split at e1
      all_goals first | (rename_i hq; cases e1; subst hq; exact ⟨by decide +kernel, by decide +kernel⟩) | cases e1
    exact pe_bltn (x.glo h4) e2 hbn.1 rfl hbn.2 (notOdd_inv h5).1
  · unfold cV
    rw [e1]
    exact pe_glob (x.glo h4) e2 rfl (notOdd_inv h5).1
mutual
theorem okE_snd : ∀ (c : CE) {X : Cx} {cf : CF} {cc : CC} {e : Expr}, XOk X cf cc → okE cc c e = true → Snd X cf c e
  | .v i, X, cf, cc, e, x, h => by
    unfold okE at h
    split at h
    · obtain ⟨h1, h2, h3, h4⟩ := x.name h
      exact ⟨pe_name h1 h2 h3 h4, po_name h1 h2 h3 h4, fun _ => pt_plain (pe_name h1 h2 h3 h4) fun _ => rfl, rfl⟩
    · cases h
  | .non, X, cf, cc, e, x, h => by
    unfold okE at h
    split at h
    · exact .of (pe_const pe_non (fun _ => .non) fun _ => rfl) (fun _ z => by cases z) (fun z => by cases z) rfl
    · cases h
  | .bl b, X, cf, cc, e, x, h => by
    unfold okE at h
    split at h
    · rw [← of_decide_eq_true h]
      rename_i _ j pos
      have hp : PE X (.Constant (.bool b) j pos) (TDE X.K (evE cf (.bl b))) := pe_const pe_bl (fun _ => .bl b) fun _ => rfl
      exact .of hp (fun _ z => by cases z) (fun _ => pt_plain hp fun _ => rfl) rfl
    · cases h
  | .int i, X, cf, cc, e, x, h => by
    unfold okE at h
    split at h
    · rw [← of_decide_eq_true h]
      exact .of (pe_const pe_int (fun _ => .int i) fun _ => rfl) (fun _ z => by cases z) (fun z => by cases z) rfl
    · cases h
  | .str y, X, cf, cc, e, x, h => by
    unfold okE at h
    split at h
    · rw [← of_decide_eq_true h]
      exact .of (pe_const pe_str (fun _ => .str y) fun _ => rfl) (fun _ z => by cases z) (fun z => by cases z) rfl
    · cases h
  | .gI y i, X, cf, cc, e, x, h => by
    unfold okE at h
    split at h
    · simp only [Bool.and_eq_true, decide_eq_true_eq] at h
      obtain ⟨⟨⟨h0, h1⟩, h2⟩, h3⟩ := h
      subst h0
      obtain ⟨u, hu, ru⟩ := x.gi _ _ h3
      exact .of (pe_const (pe_glob (x.glo h1) hu ru (notOdd_inv h2).1) (fun _ => .int i) fun _ => rfl) (fun _ z => by cases z) (fun z => by cases z) rfl
    · cases h
  | .gS y t, X, cf, cc, e, x, h => by
    unfold okE at h
    split at h
    · simp only [Bool.and_eq_true, decide_eq_true_eq] at h
      obtain ⟨⟨⟨h0, h1⟩, h2⟩, h3⟩ := h
      subst h0
      obtain ⟨u, hu, ru⟩ := x.gs _ _ h3
      exact .of (pe_const (pe_glob (x.glo h1) hu ru (notOdd_inv h2).1) (fun _ => .str t) fun _ => rfl) (fun _ z => by cases z) (fun z => by cases z) rfl
    · cases h
  | .tup es, X, cf, cc, e, x, h => by
    unfold okE at h
    split at h
    · exact .of (snd_tup (okEs_L es x h)) (fun _ z => by cases z) (fun z => by cases z) rfl
    · cases h
  | .lst es, X, cf, cc, e, x, h => by
    unfold okE at h
    split at h
    · exact .of (snd_lst (okEs_L es x h)) (fun _ z => by cases z) (fun z => by cases z) rfl
    · cases h
  | .bin op a b, X, cf, cc, e, x, h => by
    unfold okE at h
    split at h
    · simp only [Bool.and_eq_true, decide_eq_true_eq] at h
      obtain ⟨h0, h1, h2⟩ := h
      subst h0
      exact .of (snd_bin (okE_snd a x h1).po (okE_snd b x h2).po) (fun _ z => by cases z) (fun z => by cases z) rfl
    · cases h
  | .neg a, X, cf, cc, e, x, h => by
    unfold okE at h
    split at h
    · exact .of (snd_neg (okE_snd a x h).pe) (fun _ z => by cases z) (fun z => by cases z) rfl
    · cases h
  | .cmp op a b, X, cf, cc, e, x, h => by
    unfold okE at h
    split at h
    · simp only [Bool.and_eq_true, decide_eq_true_eq] at h
      obtain ⟨h0, h1, h2⟩ := h
      subst h0
      have hh := snd_cmp (op := op) (pos := by assumption) (Nat.lt_of_le_of_lt (by omega) x.un) (okE_snd a x h1).po (okE_snd b x h2).po (nst_marks (okE_snd b x h2).ns)
      exact .of hh.1 (fun _ z => by cases z) (fun _ => hh.2) rfl
    · cases h
  | .ch2 o1 o2 a b c, X, cf, cc, e, x, h => by
    unfold okE at h
    split at h
    · simp only [Bool.and_eq_true, decide_eq_true_eq] at h
      obtain ⟨h0, h0', h1, h2, h3⟩ := h
      subst h0 h0'
      have hh := snd_ch2 (o1 := o1) (o2 := o2) (pos := by assumption) (Nat.lt_of_le_of_lt (by omega) x.un) (okE_snd a x h1).pe (okE_snd b x h2).pe (okE_snd c x h3).pe (nst_marks (okE_snd c x h3).ns)
      exact .of hh.1 (fun _ z => by cases z) (fun _ => hh.2) rfl
    · cases h
  | .ch3 o1 o2 o3 a b c d, X, cf, cc, e, x, h => by
    unfold okE at h
    split at h
    · simp only [Bool.and_eq_true, decide_eq_true_eq] at h
      obtain ⟨h0, h0', h0'', h1, h2, h3, h4⟩ := h
      subst h0 h0' h0''
      have hh := snd_ch3 (o1 := o1) (o2 := o2) (o3 := o3) (pos := by assumption) (Nat.lt_of_le_of_lt (by omega) x.un) (okE_snd a x h1).pe (okE_snd b x h2).pe (okE_snd c x h3).pe (okE_snd d x h4).pe (nst_marks (okE_snd d x h4).ns)
      exact .of hh.1 (fun _ z => by cases z) (fun _ => hh.2) rfl
    · cases h
  | .isN a, X, cf, cc, e, x, h => by
    unfold okE at h
    split at h
    · rename_i l j p1 p2
      have hh := snd_isN (j := j) (pos := p2) (pos' := p1) (okE_snd a x h).po
      exact .of hh.1 (fun _ z => by cases z) (fun _ => hh.2) rfl
    · cases h
  | .isNN a, X, cf, cc, e, x, h => by
    unfold okE at h
    split at h
    · rename_i l j p1 p2
      have hh := snd_isNN (j := j) (pos := p2) (pos' := p1) (okE_snd a x h).po
      exact .of hh.1 (fun _ z => by cases z) (fun _ => hh.2) rfl
    · cases h
  | .and es, X, cf, cc, e, x, h => by
    unfold okE at h
    split at h
    · rw [Bool.and_eq_true] at h
      exact .of ((okEs_and es x h.1 h.2).1.imp fun σ H Q z => z) (fun _ z => by cases z) (fun z => ((okEs_and es x h.1 h.2).2 z).pt.imp fun σ H Q z => z) rfl
    · cases h
  | .or es, X, cf, cc, e, x, h => by
    unfold okE at h
    split at h
    · rw [Bool.and_eq_true] at h
      exact .of ((okEs_or es x h.1 h.2).1.imp fun σ H Q z => z) (fun _ z => by cases z) (fun z => ((okEs_or es x h.1 h.2).2 z).pt.imp fun σ H Q z => z) rfl
    · cases h
  | .not a, X, cf, cc, e, x, h => by
    unfold okE at h
    split at h
    · exact .of (snd_not (okE_snd a x h).pe) (fun _ z => by cases z) (fun z => snd_notT ((okE_snd a x h).pt z)) rfl
    · cases h
  | .ite c a b, X, cf, cc, e, x, h => by
    unfold okE at h
    split at h
    · simp only [Bool.and_eq_true] at h
      obtain ⟨h0, h1, h2, h3⟩ := h
      exact .of (snd_ite ((okE_snd c x h1).pt h0) (okE_snd a x h2).pe (okE_snd b x h3).pe) (fun _ z => by cases z) (fun z => by cases z) rfl
    · cases h
  | .idx a i, X, cf, cc, e, x, h => by
    unfold okE at h
    split at h
    · simp only [Bool.and_eq_true] at h
      have hp := snd_idx (pos := by assumption) (Nat.lt_of_le_of_lt (by omega) x.un) (okE_snd a x h.1).po (okE_snd i x h.2).pe (okE_snd i x h.2).ns
      exact .of hp (fun _ z => by cases z) (fun _ => pt_plain hp fun _ => rfl) rfl
    · cases h
  | .slc a lo hi, X, cf, cc, e, x, h => by
    unfold okE at h
    split at h
    · simp only [Bool.and_eq_true] at h
      exact .of (snd_slc (okE_snd a x h.1).po (okO_snd lo x h.2.1) (okO_snd hi x h.2.2)) (fun _ z => by cases z) (fun z => by cases z) rfl
    · cases h
  | .rev a, X, cf, cc, e, x, h => by
    unfold okE at h
    split at h
    · exact .of (snd_rev (okE_snd a x h).po) (fun _ z => by cases z) (fun z => by cases z) rfl
    · cases h
  | .call f as, X, cf, cc, e, x, h => by
    unfold okE at h
    split at h
    · rename_i y p ls pos
      simp only [Bool.and_eq_true, decide_eq_true_eq] at h
      obtain ⟨h1, h2, h3, h4, h5⟩ := h
      obtain ⟨k, a, fd, ps, F, hr, hm, hk, hb⟩ := x.fs _ _ _ h3
      obtain ⟨hA, hns⟩ := okEs_A as x h4 h5
      have hp : PE X (.Call (.Name y p) ls [] pos) (TDE X.K (evE cf (.call f as))) := by
        cases ls with
        | nil =>
          cases as with
          | nil =>
            refine (pe_callG0 (LamX.takes0 (X := X)) F hr x.gu (x.glo h1) hm hk hb (notOdd_inv h2).1).imp fun σ H Q q => ?_
            obtain ⟨F0, G0, s0, os, s1, rep, ea, qa⟩ := call_core (fun _ _ _ _ => False) (fun s os s' e => evAs_len e) σ H Q q
            cases ea
            exact qa [] H G0 (Same.refl _) rep .nil
          | cons _ _ => unfold okEs at h5; cases h5
          | star _ _ => unfold okEs at h5; cases h5
        | cons l ls =>
          refine (pe_callG (LamX.takes0 (X := X)) F hr x.gu (x.glo h1) hm hk hb hA (notOdd_inv h2).1 (nst_star (hns _ List.mem_cons_self) _ _) (nst_any fun e he => hns e (List.mem_cons_of_mem _ he))).imp ?_
          exact call_core (fun _ _ _ _ => False) fun s os s' e => evAs_len e
      exact .of hp (fun _ z => by cases z) (fun _ => pt_plain hp fun _ => rfl) rfl
    · cases h
  | .b1 f a, X, cf, cc, e, x, h => by
    unfold okE at h
    split at h
    · rename_i y l he
      obtain ⟨p, pos, rfl⟩ := call1_inv he
      split at h
      · rename_i hf
        simp only [Bool.and_eq_true, decide_eq_true_eq] at h
        obtain ⟨h0, h1, h2⟩ := h
        subst h0
        have hp := b1_snd (p := p) (pos := pos) x hf h1 (okE_snd a x h2).po (okE_snd a x h2).ns
        exact .of hp (fun _ z => by cases z) (fun _ => pt_plain hp fun _ => rfl) rfl
      · rename_i hf
        have hf : f = .sset := by cases f <;> first | rfl | exact absurd rfl hf
        subst hf
        split at h
        · rename_i y2 l2 he2
          obtain ⟨p2, pos2, rfl⟩ := call1_inv he2
          simp only [Bool.and_eq_true, decide_eq_true_eq] at h
          obtain ⟨h0, h0', h1, h2, h3⟩ := h
          subst h0 h0'
          have hp := snd_sset (p := p) (pos := pos) (p2 := p2) (pos2 := pos2) x.calm (x.blt h1).1 (x.blt h1).2 (x.blt h2).1 (x.blt h2).2 (okE_snd a x h3).po (okE_snd a x h3).ns
          exact .of hp (fun _ z => by cases z) (fun _ => pt_plain hp fun _ => rfl) rfl
        · cases h
    · cases h
  | .b2 f a b, X, cf, cc, e, x, h => by
    unfold okE at h
    split at h
    · rename_i hf
      split at h
      · rename_i y l r k he
        obtain ⟨apos, pos, rfl, rfl⟩ := callM_inv he
        simp only [Bool.and_eq_true, decide_eq_true_eq] at h
        obtain ⟨h0, hl, h1, h2, h3⟩ := h
        subst h0
        cases f with
        | min => cases hf
        | max => cases hf
        | join => exact .of (snd_join (okE_snd a x h2).pe (okE_snd b x h3).pe (okE_snd b x h3).ns h1 hl) (fun _ z => by cases z) (fun z => by cases z) rfl
        | split => exact .of (snd_split (okE_snd a x h2).pe (okE_snd b x h3).pe (okE_snd b x h3).ns h1 hl) (fun _ z => by cases z) (fun z => by cases z) rfl
        | index => exact .of (snd_index (Nat.lt_of_le_of_lt (by omega) x.un) (okE_snd a x h2).pe (okE_snd b x h3).pe (okE_snd b x h3).ns h1 hl) (fun _ z => by cases z) (fun z => by cases z) rfl
      · cases h
    · rename_i hf
      split at h
      · rename_i y l r he
        obtain ⟨p, pos, rfl⟩ := call2_inv he
        simp only [Bool.and_eq_true, decide_eq_true_eq] at h
        obtain ⟨h0, h1, h2, h3⟩ := h
        subst h0
        exact .of (snd_b2 x.calm (Bool.eq_false_iff.mpr hf) (x.blt h1).1 (x.blt h1).2 (okE_snd a x h2).pe (okE_snd b x h3).pe (okE_snd a x h2).ns (okE_snd b x h3).ns) (fun _ z => by cases z) (fun z => by cases z) rfl
      · cases h
  | .isI a t, X, cf, cc, e, x, h => by
    unfold okE at h
    split at h
    · rename_i y l r he
      obtain ⟨p, pos, rfl⟩ := call2_inv he
      simp only [Bool.and_eq_true, decide_eq_true_eq] at h
      obtain ⟨h0, h1, h2, h3, h4⟩ := h
      subst h0
      obtain ⟨p2, rfl⟩ := isName_inv h3
      have hp := snd_isI (p := p) (p2 := p2) (pos := pos) (x.blt h1).1 (x.blt h1).2 (x.blt h2).1 (x.blt h2).2 (okE_snd a x h4).po (okE_snd a x h4).ns
      exact .of hp (fun _ z => by cases z) (fun _ => pt_plain hp fun _ => rfl) rfl
    · cases h
  | .lrg b, X, cf, cc, e, x, h => by
    unfold okE at h
    split at h
    · rename_i y l he
      obtain ⟨p, pos, rfl⟩ := call1_inv he
      split at h
      · rename_i y2 l2 he2
        obtain ⟨p2, pos2, rfl⟩ := call1_inv he2
        simp only [Bool.and_eq_true, decide_eq_true_eq] at h
        obtain ⟨h0, h0', h1, h2, h3⟩ := h
        subst h0 h0'
        exact .of (snd_lrg x.calm (x.blt h1).1 (x.blt h1).2 (x.blt h2).1 (x.blt h2).2 (okE_snd b x h3).pe (okE_snd b x h3).ns) (fun _ z => by cases z) (fun z => by cases z) rfl
      · cases h
    · cases h
  | .lcp own y p it c, X, cf, cc, e, x, h => by
    unfold okE at h
    split at h
    · simp only [Bool.and_eq_true] at h
      obtain ⟨h1, h2, h3, h4, h5, h6⟩ := h
      obtain ⟨hi, hn⟩ := okI_snd it x h1
      have hp := pe_lc (g := gPt X.K p) (tt := TDB X.K (evC cf c)) (te := TDE X.K (evE cf y)) (pos := by assumption) x.calm (by rw [x.N]; exact x.nd) hi (by rw [x.N, x.sc]; exact blkOk_by h2) (fun z H0 C cl fp => okPt_snd (x.blk z H0 _ C cl fp) h3) (fun z H0 C cl fp => okC_snd c (x.blk z H0 _ C cl fp) h5) (fun z H0 C cl fp => (okE_snd y (x.blk z H0 _ C cl fp) h6).pe) (fun v => fold_nst hn _ v)
      rw [ownN_ix] at hp
      exact .of (hp.imp (lcp_core fun i hi => of_decide_eq_true (List.all_eq_true.mp h4 i hi))) (fun _ z => by cases z) (fun z => by cases z) rfl
    · cases h
  | .lc2 own own2 y p it c p2 a2 c2, X, cf, cc, e, x, h => by
    unfold okE at h
    split at h
    · simp only [Bool.and_eq_true] at h
      obtain ⟨h1, h2, h3, h4, h5, h6, h7, h8, h9, h10, h11⟩ := h
      obtain ⟨hi, hn⟩ := okI_snd it x h1
      have hsub : ∀ i ∈ own2, i ∈ own := fun i hi => of_decide_eq_true (List.all_eq_true.mp h9 i hi)
      have hn2 : nst _ = true := (okE_snd a2 (x.blk X.s_0 (fun _ => none) _ 0 [] []) h6).ns
      have hp := pe_lc2 (g := gPt X.K p) (tt := TDB X.K (evC cf c)) (te := TDE X.K (evE cf y)) (g1 := gPt X.K p2) (tt1 := TDB X.K (evC cf c2)) (wi1 := TDZ X.K (evE cf a2)) (pos := by assumption) (vs1 := own2) x.calm (by rw [x.N]; exact x.nd) hi (by rw [x.N, x.sc]; exact blkOk_by h2) (by rw [ownN_ix]; exact hsub) (fun z H0 C cl fp => okPt_snd (x.blk z H0 _ C cl fp) h3) (fun z H0 C cl fp => okC_snd c (x.blk z H0 _ C cl fp) h5)
        (fun z H0 C cl fp => snd_iz (okE_snd a2 (x.blk z H0 _ C cl fp) h6).pe) (fun z H0 C cl fp => okPt_snd (x.blk z H0 _ C cl fp) h7) (fun z H0 C cl fp => okC_snd c2 (x.blk z H0 _ C cl fp) h10) (fun z H0 C cl fp => (okE_snd y (x.blk z H0 _ C cl fp) h11).pe) (fun v => fold_nst hn _ v) (fun env v => fold_nst hn2 env v)
      rw [ownN_ix] at hp
      exact .of (hp.imp (lc2_core' (fun i hi => of_decide_eq_true (List.all_eq_true.mp h4 i hi)) (fun i hi => of_decide_eq_true (List.all_eq_true.mp h8 i hi)) hsub)) (fun _ z => by cases z) (fun z => by cases z) rfl
    · cases h
  | .scp own y p it c, X, cf, cc, e, x, h => by
    unfold okE at h
    split at h
    · rename_i nm l he
      obtain ⟨pp, pos, rfl⟩ := call1_inv he
      split at h
      · simp only [Bool.and_eq_true, decide_eq_true_eq] at h
        obtain ⟨h0, hb, h1, h2, h3, h4, h5, h6⟩ := h
        subst h0
        obtain ⟨hi, hn⟩ := okI_snd it x h1
        have hp := pe_si (g := gPt X.K p) (tt := TDB X.K (evC cf c)) (te := TDE X.K (evE cf y)) (pos := by assumption) x.calm (by rw [x.N]; exact x.nd) hi (by rw [x.N, x.sc]; exact blkOk_by h2) (fun z H0 C cl fp => okPt_snd (x.blk z H0 _ C cl fp) h3) (fun z H0 C cl fp => okC_snd c (x.blk z H0 _ C cl fp) h5) (fun z H0 C cl fp => (okE_snd y (x.blk z H0 _ C cl fp) h6).pe) (fun v => fold_nst hn _ v)
        rw [ownN_ix] at hp
        exact .of ((pe_sortedS x.calm (x.blt hb).1 (x.blt hb).2 hp rfl).imp (scp_core fun i hi => of_decide_eq_true (List.all_eq_true.mp h4 i hi))) (fun _ z => by cases z) (fun z => by cases z) rfl
      · cases h
    · cases h
  | .dic kvs, X, cf, cc, e, x, h => by
    unfold okE at h
    split at h
    · simp only [Bool.and_eq_true, decide_eq_true_eq] at h
      obtain ⟨h15, h1⟩ := h
      obtain ⟨hP, ha, hl, hk⟩ := okK_snd kvs x h1 (pos := by assumption)
      refine .of ?_ (fun _ z => by cases z) (fun z => by cases z) rfl
      cases kvs with
      | nil =>
        unfold okK at h1
        split at h1
        · exact snd_dic0
        · cases h1
      | cons k a r =>
        refine snd_dic hP h15 ha hl (fun z => ?_) (by rw [hk]; exact h15)
        rw [z] at hk
        cases hk
    · cases h
  | .isB a b, X, cf, cc, e, x, h => by
    unfold okE at h
    split at h
    · simp only [Bool.and_eq_true, decide_eq_true_eq] at h
      obtain ⟨h0, h1⟩ := h
      subst h0
      rename_i l j p1 p2
      have hh := snd_isB (b := b) (j := j) (pos := p2) (pos' := p1) (okE_snd a x h1).po rfl
      exact .of hh.1 (fun _ z => by cases z) (fun _ => hh.2) rfl
    · cases h
  | .mkx k kw as, X, cf, cc, e, x, h => by
    unfold okE at h
    split at h
    · simp only [Bool.and_eq_true, decide_eq_true_eq, Bool.not_eq_true'] at h
      obtain ⟨h0, h1, h2, h3, h4, h5, h6, h7⟩ := h
      subst h0
      rename_i y p ls pos
      obtain ⟨hA, hns⟩ := okEs_A as x h6 h7
      have hL := okEs_L as x h7
      match ls, h5, h7, hns, hL with
      | [], _, h7, _, _ =>
        cases as with
        | nil => exact .of (snd_mkx0 x.xc h2 h1 x.rm (x.glo h3) (notOdd_inv h4).1) (fun _ z => by cases z) (fun z => by cases z) rfl
        | cons _ _ => unfold okEs at h7; cases h7
        | star _ _ => cases h6
      | [e], _, _, hns, hL => exact .of (snd_mkx x.xc h2 h1 x.rm (x.glo h3) (notOdd_inv h4).1 hL (hns e List.mem_cons_self)) (fun _ z => by cases z) (fun z => by cases z) rfl
      | _ :: _ :: _, h5, _, _, _ => simp at h5
    · simp only [Bool.and_eq_true, decide_eq_true_eq] at h
      obtain ⟨h0, h1, h2, h3, h4, h6, h7⟩ := h
      subst h0
      rename_i y p f l kp pos
      cases as with
      | nil => unfold okEs at h7; cases h7
      | star _ _ => cases h6
      | cons a r =>
        unfold okEs at h7
        rw [Bool.and_eq_true] at h7
        cases r with
        | nil => exact .of (snd_mkxK x.xc h2 h1 x.rm (x.glo h3) (notOdd_inv h4).1 (okE_snd a x h7.1).pe) (fun _ z => by cases z) (fun z => by cases z) rfl
        | cons _ _ => exact absurd h7.2 (by unfold okEs; exact Bool.false_ne_true)
        | star _ _ => exact absurd h7.2 (by unfold okEs; exact Bool.false_ne_true)
    · cases h
  | .isX a cs, X, cf, cc, e, x, h => by
    unfold okE at h
    split at h
    · rename_i y l r he
      obtain ⟨p, pos, rfl⟩ := call2_inv he
      split at h
      · rename_i c
        simp only [Bool.and_eq_true, decide_eq_true_eq] at h
        obtain ⟨h0, h1, h2, h3, h4, h5, h6⟩ := h
        subst h0
        obtain ⟨p2, rfl⟩ := isName_inv h2
        have hC := okE_cls (p := p2) x h3 h4 h5
        have hp : PE X (.Call (.Name "isinstance" p) [l, .Name c p2] [] pos) (TDE X.K (evE cf (.isX a [c]))) := snd_isX x.xc h3 (x.blt h1).1 (x.blt h1).2 hC (okE_snd a x h6).pe (okE_snd a x h6).ns
        exact .of hp (fun _ z => by cases z) (fun _ => pt_plain hp fun _ => rfl) rfl
      · rename_i c1 c2
        simp only [Bool.and_eq_true, decide_eq_true_eq] at h
        obtain ⟨h0, h1, h2, h3, h3', h4, h4', h5, h5', h6⟩ := h
        subst h0
        obtain ⟨p1, p2, kt, pt, rfl⟩ := isTwo_inv h2
        have hp : PE X (.Call (.Name "isinstance" p) [l, .Tuple [.Name c1 p1, .Name c2 p2] kt pt] [] pos) (TDE X.K (evE cf (.isX a [c1, c2]))) := snd_isX2 x.xc h3 h3' (x.blt h1).1 (x.blt h1).2 (okE_cls x h3 h4 h5) (okE_cls x h3' h4' h5') (okE_snd a x h6).pe (okE_snd a x h6).ns
        exact .of hp (fun _ z => by cases z) (fun _ => pt_plain hp fun _ => rfl) rfl
      · cases h
    · cases h
  | .fld a f, X, cf, cc, e, x, h => by
    unfold okE at h
    split at h
    · simp only [Bool.and_eq_true, decide_eq_true_eq] at h
      obtain ⟨h0, h1, h2⟩ := h
      subst h0
      exact .of (snd_fld x.xc (okE_snd a x h2).pe (base_id h1 _ _ _)) (fun _ z => by cases z) (fun z => by cases z) rfl
    · cases h
  | .lam _ _, X, cf, cc, e, x, h => by cases h
  | .cav _ _, X, cf, cc, e, x, h => by cases h
theorem okEs_L : ∀ (c : CEs) {X : Cx} {cf : CF} {cc : CC} {e : List Expr}, XOk X cf cc → okEs cc c e = true → PA X e (TDL X.K (evEs cf c))
  | .nil, X, cf, cc, e, x, h => by
    unfold okEs at h
    split at h
    · exact snd_nil
    · cases h
  | .cons a r, X, cf, cc, e, x, h => by
    unfold okEs at h
    split at h
    · rw [Bool.and_eq_true] at h
      exact snd_cons (okE_snd a x h.1).pe (okEs_L r x h.2) (okE_snd a x h.1).ns
    · cases h
  | .star a r, X, cf, cc, e, x, h => by
    unfold okEs at h
    split at h
    · rw [Bool.and_eq_true] at h
      exact snd_star (okE_snd a x h.1).pe (okEs_L r x h.2)
    · cases h
theorem okEs_A : ∀ (c : CEs) {X : Cx} {cf : CF} {cc : CC} {e : List Expr}, XOk X cf cc → c.plain = true → okEs cc c e = true → PA X e (TDA X.K (evAs cf c)) ∧ ∀ a ∈ e, nst a = true
  | .nil, X, cf, cc, e, x, hp, h => by
    unfold okEs at h
    split at h
    · exact ⟨snd_anil, fun a ha => by cases ha⟩
    · cases h
  | .cons a r, X, cf, cc, e, x, hp, h => by
    unfold okEs at h
    split at h
    · rw [Bool.and_eq_true] at h
      obtain ⟨h1, h2⟩ := okEs_A r x hp h.2
      refine ⟨snd_acons (okE_snd a x h.1).po h1 (okE_snd a x h.1).ns, fun b hb => ?_⟩
      rcases List.mem_cons.mp hb with z | z
      · rw [z]; exact (okE_snd a x h.1).ns
      · exact h2 b z
    · cases h
  | .star a r, X, cf, cc, e, x, hp, h => by cases hp
theorem okEs_and : ∀ (c : CEs) {X : Cx} {cf : CF} {cc : CC} {e : List Expr} {pos : Pos}, XOk X cf cc → c.plain = true → okEs cc c e = true → PE X (.BoolOp .And e pos) (TDE X.K (evAnd cf c)) ∧ (c.test = true → PW X (.BoolOp .And e pos) (TDB X.K fun s => tst (evAnd cf c s)))
  | .nil, X, cf, cc, e, pos, x, hp, h => by
    have no : ∀ {σ H Q}, ¬ TDE X.K (evAnd cf .nil) σ H Q := fun ⟨F, G, s, y, s', rep, e, q⟩ => by cases e
    exact ⟨⟨fun pins s σ H Q I q => absurd q no⟩, fun _ => ⟨fun wh pins s σ H Q I ⟨F, G, s, y, s', rep, e, q⟩ => by cases e⟩⟩
  | .cons a .nil, X, cf, cc, e, pos, x, hp, h => by
    unfold okEs at h
    split at h
    · rw [Bool.and_eq_true] at h
      have h2 := h.2
      unfold okEs at h2
      split at h2
      · exact ⟨snd_and1 (okE_snd a x h.1).pe, fun ht => snd_and1T ((okE_snd a x h.1).pt (by simp only [CEs.test, Bool.and_eq_true] at ht; exact ht.1))⟩
      · cases h2
    · cases h
  | .cons a (.cons b r), X, cf, cc, e, pos, x, hp, h => by
    unfold okEs at h
    split at h
    · rw [Bool.and_eq_true] at h
      have h2 := h.2
      rename_i l ls
      cases ls with
      | nil => unfold okEs at h2; cases h2
      | cons l2 ls =>
        obtain ⟨i1, i2⟩ := okEs_and (.cons b r) (pos := pos) x hp h2
        refine ⟨snd_and2 (okE_snd a x h.1).pe i1, fun ht => ?_⟩
        have ht : a.test = true ∧ (CEs.cons b r).test = true := by
          rw [show (CEs.cons a (.cons b r)).test = (a.test && (CEs.cons b r).test) from rfl, Bool.and_eq_true] at ht
          exact ht
        exact snd_and2T ((okE_snd a x h.1).pt ht.1) (i2 ht.2)
    · cases h
  | .cons a (.star b r), X, cf, cc, e, pos, x, hp, h => by cases hp
  | .star a r, X, cf, cc, e, pos, x, hp, h => by cases hp
theorem okEs_or : ∀ (c : CEs) {X : Cx} {cf : CF} {cc : CC} {e : List Expr} {pos : Pos}, XOk X cf cc → c.plain = true → okEs cc c e = true → PE X (.BoolOp .Or e pos) (TDE X.K (evOr cf c)) ∧ (c.test = true → PW X (.BoolOp .Or e pos) (TDB X.K fun s => tst (evOr cf c s)))
  | .nil, X, cf, cc, e, pos, x, hp, h => by
    have no : ∀ {σ H Q}, ¬ TDE X.K (evOr cf .nil) σ H Q := fun ⟨F, G, s, y, s', rep, e, q⟩ => by cases e
    exact ⟨⟨fun pins s σ H Q I q => absurd q no⟩, fun _ => ⟨fun wh pins s σ H Q I ⟨F, G, s, y, s', rep, e, q⟩ => by cases e⟩⟩
  | .cons a .nil, X, cf, cc, e, pos, x, hp, h => by
    unfold okEs at h
    split at h
    · rw [Bool.and_eq_true] at h
      have h2 := h.2
      unfold okEs at h2
      split at h2
      · exact ⟨snd_or1 (okE_snd a x h.1).pe, fun ht => snd_or1T ((okE_snd a x h.1).pt (by simp only [CEs.test, Bool.and_eq_true] at ht; exact ht.1))⟩
      · cases h2
    · cases h
  | .cons a (.cons b r), X, cf, cc, e, pos, x, hp, h => by
    unfold okEs at h
    split at h
    · rw [Bool.and_eq_true] at h
      have h2 := h.2
      rename_i l ls
      cases ls with
      | nil => unfold okEs at h2; cases h2
      | cons l2 ls =>
        obtain ⟨i1, i2⟩ := okEs_or (.cons b r) (pos := pos) x hp h2
        refine ⟨snd_or2 (okE_snd a x h.1).pe i1, fun ht => ?_⟩
        have ht : a.test = true ∧ (CEs.cons b r).test = true := by
          rw [show (CEs.cons a (.cons b r)).test = (a.test && (CEs.cons b r).test) from rfl, Bool.and_eq_true] at ht
          exact ht
        exact snd_or2T ((okE_snd a x h.1).pt ht.1) (i2 ht.2)
    · cases h
  | .cons a (.star b r), X, cf, cc, e, pos, x, hp, h => by cases hp
  | .star a r, X, cf, cc, e, pos, x, hp, h => by cases hp
theorem okO_snd : ∀ (c : CO) {X : Cx} {cf : CF} {cc : CC} {e : Option Expr}, XOk X cf cc → okO cc c e = true → PO X e (TDP X.K (evO cf c))
  | .no, X, cf, cc, e, x, h => by
    unfold okO at h
    split at h
    · exact snd_no
    · cases h
  | .yes a, X, cf, cc, e, x, h => by
    unfold okO at h
    split at h
    · exact snd_yes (okE_snd a x h).pe
    · cases h
theorem okC_snd : ∀ (c : CO) {X : Cx} {cf : CF} {cc : CC} {e : List Expr}, XOk X cf cc → okC cc c e = true → PTs X e (TDB X.K (evC cf c))
  | .no, X, cf, cc, e, x, h => by
    unfold okC at h
    split at h
    · exact pts_no
    · cases h
  | .yes a, X, cf, cc, e, x, h => by
    unfold okC at h
    split at h
    · rw [Bool.and_eq_true] at h
      exact pts_one ((okE_snd a x h.2).pt h.1)
    · cases h
theorem okI_snd : ∀ (c : CI) {X : Cx} {cf : CF} {cc : CC} {tg e : Expr}, XOk X cf cc → okI cc c tg e = true → PI X tg e (TDI X.K (evI cf c)) ∧ nst e = true
  | .e a, X, cf, cc, tg, e, x, h => by
    unfold okI at h
    exact ⟨snd_ie (okE_snd a x h).po, (okE_snd a x h).ns⟩
  | .rg1 a, X, cf, cc, tg, e, x, h => by
    unfold okI at h
    split at h
    · rename_i y l he
      obtain ⟨p, pos, rfl⟩ := call1_inv he
      simp only [Bool.and_eq_true, decide_eq_true_eq] at h
      obtain ⟨h0, h1, h2⟩ := h
      subst h0
      exact ⟨snd_rg1 (x.blt h1).1 (x.blt h1).2 (okE_snd a x h2).pe (okE_snd a x h2).ns, rfl⟩
    · cases h
  | .rg2 a b, X, cf, cc, tg, e, x, h => by
    unfold okI at h
    split at h
    · rename_i y l r he
      obtain ⟨p, pos, rfl⟩ := call2_inv he
      simp only [Bool.and_eq_true, decide_eq_true_eq] at h
      obtain ⟨h0, h1, h2, h3⟩ := h
      subst h0
      exact ⟨snd_rg2 (x.blt h1).1 (x.blt h1).2 (okE_snd a x h2).pe (okE_snd b x h3).pe (okE_snd a x h2).ns (okE_snd b x h3).ns, rfl⟩
    · cases h
  | .enu a, X, cf, cc, tg, e, x, h => by
    unfold okI at h
    split at h
    · rename_i y l he
      obtain ⟨p, pos, rfl⟩ := call1_inv he
      simp only [Bool.and_eq_true, decide_eq_true_eq] at h
      obtain ⟨h0, h1, h2, h3⟩ := h
      subst h1
      cases tg <;> first | (cases h0; done) | exact ⟨snd_enu (x.blt h2).1 (x.blt h2).2 (okE_snd a x h3).po (okE_snd a x h3).ns, rfl⟩
    · cases h
  | .zip a b, X, cf, cc, tg, e, x, h => by
    unfold okI at h
    split at h
    · rename_i y l r he
      obtain ⟨p, pos, rfl⟩ := call2_inv he
      simp only [Bool.and_eq_true, decide_eq_true_eq] at h
      obtain ⟨h0, h1, h2, h3, h4⟩ := h
      subst h1
      cases tg <;> first | (cases h0; done) | exact ⟨snd_zip (x.blt h2).1 (x.blt h2).2 (okE_snd a x h3).pe (okE_snd b x h4).pe (okE_snd a x h3).ns (okE_snd b x h4).ns, rfl⟩
    · cases h
  | .zip3 a b c, X, cf, cc, tg, e, x, h => by
    unfold okI at h
    split at h
    · rename_i y l r m he
      obtain ⟨p, pos, rfl⟩ := call3_inv he
      simp only [Bool.and_eq_true, decide_eq_true_eq] at h
      obtain ⟨h0, h1, h2, h3, h4, h5⟩ := h
      subst h1
      cases tg <;> first | (cases h0; done) | exact ⟨snd_zip3 (x.blt h2).1 (x.blt h2).2 (okE_snd a x h3).pe (okE_snd b x h4).pe (okE_snd c x h5).pe (okE_snd a x h3).ns (okE_snd b x h4).ns (okE_snd c x h5).ns, rfl⟩
    · cases h
theorem okK_snd : ∀ (c : CK) {X : Cx} {cf : CF} {cc : CC} {ks : List (Option Expr)} {vs : List Expr} {pos : Pos}, XOk X cf cc → okK cc c ks vs = true → Pairs X cf pos ks vs c ∧ ks.all (·.isSome) = true ∧ ks.length = vs.length ∧ ks.length = c.len
  | .nil, X, cf, cc, ks, vs, pos, x, h => by
    unfold okK at h
    split at h
    · exact ⟨snd_knil, rfl, rfl, rfl⟩
    · cases h
  | .cons k a r, X, cf, cc, ks, vs, pos, x, h => by
    unfold okK at h
    split at h
    · simp only [Bool.and_eq_true, decide_eq_true_eq] at h
      obtain ⟨h0, h1, h2⟩ := h
      subst h0
      obtain ⟨i1, i2, i3, i4⟩ := okK_snd r x h2 (pos := pos)
      exact ⟨snd_kcons (okE_snd a x h1).pe i1, by rw [List.all_cons, i2]; rfl, by rw [List.length_cons, List.length_cons, i3], by rw [List.length_cons, i4]; rfl⟩
    · cases h
end
end LP

end
section
set_option Elab.async false
set_option linter.all false
set_option maxRecDepth 100000
set_option maxHeartbeats 4000000
/-! LX4: expressions that raise. -/
namespace LP
open PySem PySem.Spec L2
open PyProof.Rows hiding St
variable [Zk]
section
variable {X : Cx} {cf : CF} {cc : CC} {W : WX}
theorem TXE.two {ev ev1 ev2 : LS → Option (D × LS)} (h : ∀ s r, ev s = some r → ev1 s = some r ∨ ev2 s = some r) {e : Expr} (h1 : PE X e (TXE X.K W ev1)) (h2 : PE X e (TXE X.K W ev2)) : PE X e (TXE X.K W ev) := by
  refine ⟨fun pins s σ H Q I ⟨F, G, s0, x, s', rep, ee, q⟩ => ?_⟩
  rcases h s0 _ ee with z | z
  · exact h1.run pins s σ H Q I ⟨F, G, s0, x, s', rep, z, q⟩
  · exact h2.run pins s σ H Q I ⟨F, G, s0, x, s', rep, z, q⟩
theorem TXA.two {ev ev1 ev2 : LS → Option (D × LS)} (h : ∀ s r, ev s = some r → ev1 s = some r ∨ ev2 s = some r) {e : List Expr} (h1 : PA X e (TXA X.K W ev1)) (h2 : PA X e (TXA X.K W ev2)) : PA X e (TXA X.K W ev) := by
  refine ⟨fun pos pins s σ H Q I ⟨F, G, s0, x, s', rep, ee, q⟩ => ?_⟩
  rcases h s0 _ ee with z | z
  · exact h1.run pos pins s σ H Q I ⟨F, G, s0, x, s', rep, z, q⟩
  · exact h2.run pos pins s σ H Q I ⟨F, G, s0, x, s', rep, z, q⟩
theorem TXE.never {e : Expr} {t : TE} (h : PE X e t) : PE X e (TXE X.K W fun _ => none) := h.imp fun σ H Q ⟨F, G, s, x, s', rep, ee, q⟩ => by cases ee
theorem TXA.never {e : List Expr} {t : TA} (h : PA X e t) : PA X e (TXA X.K W fun _ => none) := h.imp fun σ H Q ⟨F, G, s, x, s', rep, ee, q⟩ => by cases ee
/-- a built-in called on what raises -/
theorem callB_x {l : Expr} {x : Str} {c : Value} {p pos : Pos} {ev : LS → Option (D × LS)} (hk : (∃ id, c = .builtin id) ∨ ∃ id, c = .type id) (hg : Gl X x) (hm : X.mg x = none) (hv : bootBuiltins x = some c) (hn : x ≠ "__name__") (hdb : (x == ("__debug__" : Str)) = false) (ha : PE X l (TXE X.K W ev)) (hs : nst l = true) :
    PE X (.Call (.Name x p) [l] [] pos) (TXE X.K W ev) := by
  have no : CallR X c (fun _ _ _ => False) := fun pins s τ H xs us Q I rv h => h.elim
  rcases hk with ⟨id, rfl⟩ | ⟨id, rfl⟩
  · exact (pe_callB no hg hm hv (pa_cons ha pa_nil (nst_star hs _ _)) hn hdb (nst_star hs _ _)).imp fun σ H Q z => z
  · exact (pe_callTy no hg hm hv (pa_cons ha pa_nil (nst_star hs _ _)) hn hdb (nst_star hs _ _)).imp fun σ H Q z => z
theorem b1_boot (f : B1) : ∃ c : Value, bootBuiltins f.nm = some c ∧ ((∃ id, c = .builtin id) ∨ ∃ id, c = .type id) ∧ f.nm ≠ "__name__" ∧ (f.nm == ("__debug__" : Str)) = false := by
  cases f
  · exact ⟨.builtin "len", by decide +kernel, .inl ⟨_, rfl⟩, by decide +kernel, by decide +kernel⟩
  · exact ⟨.type "tuple", by decide +kernel, .inr ⟨_, rfl⟩, by decide +kernel, by decide +kernel⟩
  · exact ⟨.type "list", by decide +kernel, .inr ⟨_, rfl⟩, by decide +kernel, by decide +kernel⟩
  · exact ⟨.type "int", by decide +kernel, .inr ⟨_, rfl⟩, by decide +kernel, by decide +kernel⟩
  · exact ⟨.builtin "min", by decide +kernel, .inl ⟨_, rfl⟩, by decide +kernel, by decide +kernel⟩
  · exact ⟨.builtin "max", by decide +kernel, .inl ⟨_, rfl⟩, by decide +kernel, by decide +kernel⟩
  · exact ⟨.builtin "sum", by decide +kernel, .inl ⟨_, rfl⟩, by decide +kernel, by decide +kernel⟩
  · exact ⟨.builtin "all", by decide +kernel, .inl ⟨_, rfl⟩, by decide +kernel, by decide +kernel⟩
  · exact ⟨.builtin "any", by decide +kernel, .inl ⟨_, rfl⟩, by decide +kernel, by decide +kernel⟩
  · exact ⟨.builtin "sorted", by decide +kernel, .inl ⟨_, rfl⟩, by decide +kernel, by decide +kernel⟩
  · exact ⟨.type "set", by decide +kernel, .inr ⟨_, rfl⟩, by decide +kernel, by decide +kernel⟩
  · exact ⟨.builtin "repr", by decide +kernel, .inl ⟨_, rfl⟩, by decide +kernel, by decide +kernel⟩
  · exact ⟨.type "str", by decide +kernel, .inr ⟨_, rfl⟩, by decide +kernel, by decide +kernel⟩
  · exact ⟨.builtin "abs", by decide +kernel, .inl ⟨_, rfl⟩, by decide +kernel, by decide +kernel⟩
  · exact ⟨.builtin "min", by decide +kernel, .inl ⟨_, rfl⟩, by decide +kernel, by decide +kernel⟩
end
mutual
theorem okE_x : ∀ (c : CE) {X : Cx} {cf : CF} {cc : CC} {e : Expr} {W : WX}, XOk X cf cc → Takes X W → okE cc c e = true → PE X e (TXE X.K W (xE cf c))
  | .call f as, X, cf, cc, e, W, x, tk, h => by
    have hx := h
    unfold okE at h
    split at h
    · rename_i y p ls pos
      simp only [Bool.and_eq_true, decide_eq_true_eq] at h
      obtain ⟨h1, h2, h3, h4, h5⟩ := h
      obtain ⟨k, a, fd, ps, F, hr, hm, hk, hb⟩ := x.fs _ _ _ h3
      obtain ⟨hA, hns⟩ := okEs_A as x h4 h5
      refine TXE.two (ev1 := fun s => xAs cf as s) (ev2 := fun s => (evAs cf as s).bind fun r => (callX cf f r.1 r.2).map fun x => (x, r.2)) (fun s r e => ?_) ?_ ?_
      · simp only [xE] at e
        rcases orX_inv e with z | ⟨_, z⟩
        · exact .inl z
        · exact .inr z
      · cases ls with
        | nil =>
          cases as with
          | nil => exact TXE.never (okE_snd (.call f .nil) x hx).pe
          | cons _ _ => unfold okEs at h5; cases h5
          | star _ _ => unfold okEs at h5; cases h5
        | cons l ls => exact (pe_callG tk F hr x.gu (x.glo h1) hm hk hb (okAs_x as x tk h4 h5) (notOdd_inv h2).1 (nst_star (hns _ List.mem_cons_self) _ _) (nst_any fun e he => hns e (List.mem_cons_of_mem _ he))).imp fun σ H Q z => z
      · cases ls with
        | nil =>
          cases as with
          | nil =>
            refine (pe_callG0 tk F hr x.gu (x.glo h1) hm hk hb (notOdd_inv h2).1).imp fun σ H Q q => ?_
            obtain ⟨F0, G0, s0, os, s1, rep, ea, qa⟩ := callx_core (as := .nil) (fun s os s' e => evAs_len e) σ H Q q
            cases ea
            exact qa [] H G0 (Same.refl _) rep .nil
          | cons _ _ => unfold okEs at h5; cases h5
          | star _ _ => unfold okEs at h5; cases h5
        | cons l ls => exact (pe_callG tk F hr x.gu (x.glo h1) hm hk hb hA (notOdd_inv h2).1 (nst_star (hns _ List.mem_cons_self) _ _) (nst_any fun e he => hns e (List.mem_cons_of_mem _ he))).imp (callx_core fun s os s' e => evAs_len e)
    · cases h
  | .idx a i, X, cf, cc, e, W, x, tk, h => by
    unfold okE at h
    split at h
    · simp only [Bool.and_eq_true] at h
      exact (pe_ix ix_seq (okE_x a x tk h.1) (pf (okE_snd i x h.2).pe) (nst_ix (okE_snd i x h.2).ns)).imp fun σ H Q z => z
    · cases h
  | .isN a, X, cf, cc, e, W, x, tk, h => by
    unfold okE at h
    split at h
    · exact (pe_cmp (pc_isN (okE_x a x tk h)) rfl).imp fun σ H Q z => z
    · cases h
  | .isNN a, X, cf, cc, e, W, x, tk, h => by
    unfold okE at h
    split at h
    · exact (pe_cmp (pc_notN (okE_x a x tk h)) rfl).imp fun σ H Q z => z
    · cases h
  | .b1 f a, X, cf, cc, e, W, x, tk, h => by
    have hx := h
    unfold okE at h
    split at h
    · rename_i y l he
      obtain ⟨p, pos, rfl⟩ := call1_inv he
      split at h
      · rename_i hf
        simp only [Bool.and_eq_true, decide_eq_true_eq] at h
        obtain ⟨h0, h1, h2⟩ := h
        subst h0
        obtain ⟨c, c1, c2, c3, c4⟩ := b1_boot f
        exact callB_x c2 (x.blt h1).1 (x.blt h1).2 c1 c3 c4 (okE_x a x tk h2) (okE_snd a x h2).ns
      · split at h
        · rename_i z l2 he2
          obtain ⟨p2, pos2, rfl⟩ := call1_inv he2
          simp only [Bool.and_eq_true, decide_eq_true_eq] at h
          obtain ⟨h0, h1, h2, h3, h4⟩ := h
          subst h0 h1
          refine callB_x (c := .builtin "sorted") (.inl ⟨_, rfl⟩) (x.blt h2).1 (x.blt h2).2 (by decide +kernel) (by decide +kernel) (by decide +kernel) ?_ rfl
          exact callB_x (c := .type "set") (.inr ⟨_, rfl⟩) (x.blt h3).1 (x.blt h3).2 (by decide +kernel) (by decide +kernel) (by decide +kernel) (okE_x a x tk h4) (okE_snd a x h4).ns
        · cases h
    · cases h
  | .lcp own y p it c, X, cf, cc, e, W, x, tk, h => by
    have hx := h
    cases it with
    | e a =>
      unfold okE at h
      split at h
      · rename_i elt tg iter ifs scope pos
        simp only [Bool.and_eq_true] at h
        obtain ⟨h1, h2, h3, h4, h5, h6⟩ := h
        have h1 : okE cc a iter = true := h1
        have hi : PI X tg iter (iList X.K (TXE X.K W (xE cf a))) := pi_list (okE_x a x tk h1)
        have hn := (okE_snd a x h1).ns
        have hp := pe_lc (g := gPt X.K p) (tt := TDB X.K (evC cf c)) (te := TDE X.K (evE cf y)) (pos := pos) x.calm (by rw [x.N]; exact x.nd) hi (by rw [x.N, x.sc]; exact blkOk_by h2) (fun z H0 C cl fp => okPt_snd (x.blk z H0 _ C cl fp) h3) (fun z H0 C cl fp => okC_snd c (x.blk z H0 _ C cl fp) h5) (fun z H0 C cl fp => (okE_snd y (x.blk z H0 _ C cl fp) h6).pe) (fun v => fold_nst hn _ v)
        exact hp.imp fun σ H Q z => z
      · cases h
    | _ => exact TXE.never (okE_snd _ x hx).pe
  | .v _, X, cf, cc, e, W, x, tk, h | .non, X, cf, cc, e, W, x, tk, h | .bl _, X, cf, cc, e, W, x, tk, h | .int _, X, cf, cc, e, W, x, tk, h | .str _, X, cf, cc, e, W, x, tk, h | .gI _ _, X, cf, cc, e, W, x, tk, h | .gS _ _, X, cf, cc, e, W, x, tk, h | .tup _, X, cf, cc, e, W, x, tk, h | .lst _, X, cf, cc, e, W, x, tk, h
  | .bin _ _ _, X, cf, cc, e, W, x, tk, h | .neg _, X, cf, cc, e, W, x, tk, h | .cmp _ _ _, X, cf, cc, e, W, x, tk, h | .ch2 _ _ _ _ _, X, cf, cc, e, W, x, tk, h | .ch3 _ _ _ _ _ _ _, X, cf, cc, e, W, x, tk, h | .and _, X, cf, cc, e, W, x, tk, h | .or _, X, cf, cc, e, W, x, tk, h | .not _, X, cf, cc, e, W, x, tk, h | .ite _ _ _, X, cf, cc, e, W, x, tk, h
  | .slc _ _ _, X, cf, cc, e, W, x, tk, h | .rev _, X, cf, cc, e, W, x, tk, h | .b2 _ _ _, X, cf, cc, e, W, x, tk, h | .isI _ _, X, cf, cc, e, W, x, tk, h | .lrg _, X, cf, cc, e, W, x, tk, h | .lc2 _ _ _ _ _ _ _ _ _, X, cf, cc, e, W, x, tk, h | .scp _ _ _ _ _, X, cf, cc, e, W, x, tk, h | .dic _, X, cf, cc, e, W, x, tk, h
  | .isB _ _, X, cf, cc, e, W, x, tk, h | .mkx _ _ _, X, cf, cc, e, W, x, tk, h | .isX _ _, X, cf, cc, e, W, x, tk, h | .fld _ _, X, cf, cc, e, W, x, tk, h | .lam _ _, X, cf, cc, e, W, x, tk, h | .cav _ _, X, cf, cc, e, W, x, tk, h => TXE.never (okE_snd _ x h).pe
theorem okAs_x : ∀ (c : CEs) {X : Cx} {cf : CF} {cc : CC} {e : List Expr} {W : WX}, XOk X cf cc → Takes X W → c.plain = true → okEs cc c e = true → PA X e (TXA X.K W (xAs cf c))
  | .nil, X, cf, cc, e, W, x, tk, hp, h => TXA.never (okEs_A .nil x hp h).1
  | .cons a r, X, cf, cc, e, W, x, tk, hp, h => by
    unfold okEs at h
    split at h
    · rw [Bool.and_eq_true] at h
      rename_i l ls
      have sa := okE_snd a x h.1
      refine TXA.two (ev1 := fun s => xE cf a s) (ev2 := fun s => (opA a (evE cf a s) s).bind fun y => xAs cf r y.2) (fun s q e => ?_) ?_ ?_
      · simp only [xAs] at e
        rcases orX_inv e with z | ⟨_, z⟩
        · exact .inl z
        · exact .inr z
      · exact (pa_cons (okE_x a x tk h.1) (okEs_A r x hp h.2).1 (nst_star sa.ns _ _)).imp fun σ H Q z => z
      · refine (pa_cons sa.po (okAs_x r x tk hp h.2) (nst_star sa.ns _ _)).imp fun σ H Q ⟨F, G, s, y, s', rep, e, q⟩ => ?_
        simp only [Option.bind_eq_some_iff] at e
        obtain ⟨z, e1, e2⟩ := e
        exact ⟨F, G, s, z.1, z.2, rep, e1, fun v H1 G1 sm1 r1 o1 => ⟨F, G1, z.2, y, s', r1, e2, fun cls dd H2 G2 sm2 r2 er => q cls dd H2 G2 (sm1.trans sm2) r2 er⟩⟩
    · cases h
  | .star _ _, X, cf, cc, e, W, x, tk, hp, h => by cases hp
end
end LP

end
section
set_option Elab.async false
set_option linter.all false
set_option maxRecDepth 100000
set_option maxHeartbeats 2000000
/-! LP22: statements: what they keep, what they come to. -/
namespace LP
open PySem PySem.Spec L2
open PyProof.Rows hiding St
variable [Zk]
/-! ### plain: what a run keeps -/
section
variable {cf : CF}
theorem evR_keep {c : CE} {s s' : LS} {x : SV} (h : evR cf c s = some (x, s')) : Keep s s' := by
  unfold evR at h
  split at h
  · split at h
    · rename_i i d e
      cases h
      refine Keep.set (fun z hz => ?_) (fun z hz => by cases hz) (fun z hz m => ?_)
      · rw [e] at hz; cases hz; rfl
      · rw [e] at hz; cases hz; cases m
    · exact leak_keep h
  · exact evE_keep cf _ _ _ _ h
theorem asgE_keep {p : Pt} {x : SV × LS} {s' : LS} (h : asgE p x = some s') : Keep x.2 s' := by
  unfold asgE at h
  split at h
  · obtain ⟨hm, h⟩ := ite_some h
    exact store_keep hm h
  · exact bindP_keep h
theorem parS_keep : ∀ {is : List Nat} {xs : List SV} {s s' : LS}, parS s is xs = some s' → Keep s s'
  | [], [], s, s', h => by cases h; exact .refl _
  | i :: is, x :: xs, s, s', h => by
    unfold parS at h
    obtain ⟨hm, h⟩ := ite_some h
    simp only [Option.bind_eq_some_iff] at h
    obtain ⟨s1, h1, h2⟩ := h
    exact (store_keep hm h1).trans (parS_keep h2)
  | [], _ :: _, s, s', h => by cases h
  | _ :: _, [], s, s', h => by cases h
theorem evPs_keep : ∀ {c : CEs} {s s' : LS} {xs : List SV}, evPs cf c s = some (xs, s') → Keep s s'
  | .nil, s, s', xs, h => by cases h; exact .refl _
  | .cons e r, s, s', xs, h => by
    simp only [evPs, Option.bind_eq_some_iff, Option.map_eq_some_iff] at h
    obtain ⟨y, e1, z, e2, e3⟩ := h
    cases e3
    exact (evE_keep cf e s y.1 y.2 e1).trans (evPs_keep e2)
  | .star _ _, s, s', xs, h => by cases h
theorem put_keep {s : LS} {i : Nat} {m : Md} {d d' : D} (h : slot s i = some ⟨m, d⟩) (hm : m = .ow ∨ m = .io) : Keep s (putS s i ⟨m, d'⟩) := by
  refine Keep.set (fun z hz => ?_) (fun z hz => ?_) (fun z hz m => ?_)
  · rw [h] at hz; cases hz; rcases hm with q | q <;> rw [q] <;> rfl
  · cases hz; rcases hm with q | q <;> rw [q] <;> rfl
  · rw [h] at hz; cases hz; exact ⟨_, rfl, m⟩
theorem appS_inv {s s' : LS} {i : Nat} {y : D} (h : appS s i y = some s') : ∃ m xs, slot s i = some ⟨m, .list xs⟩ ∧ (m = .ow ∨ m = .io) ∧ xs.length + 1 ≤ sizeLine ∧ s' = putS s i ⟨m, .list (xs ++ [y])⟩ := by
  simp only [appS, Option.bind_eq_some_iff] at h
  obtain ⟨⟨m, d⟩, e, h⟩ := h
  cases m with
  | ow =>
    cases d with
    | list xs =>
      obtain ⟨hz, h⟩ := ite_some h
      cases h
      exact ⟨_, _, e, .inl rfl, of_decide_eq_true hz, rfl⟩
    | _ => cases h
  | io =>
    cases d with
    | list xs =>
      obtain ⟨hz, h⟩ := ite_some h
      cases h
      exact ⟨_, _, e, .inr rfl, of_decide_eq_true hz, rfl⟩
    | _ => cases h
  | _ => cases d <;> cases h
theorem setiS_inv {s s' : LS} {i : Nat} {k y : D} (h : setiS s i k y = some s') : ∃ m d d', slot s i = some ⟨m, d⟩ ∧ (m = .ow ∨ m = .io) ∧ setD d k y = some d' ∧ s' = putS s i ⟨m, d'⟩ := by
  simp only [setiS, Option.bind_eq_some_iff] at h
  obtain ⟨⟨m, d⟩, e, h⟩ := h
  cases m with
  | ow =>
    simp only [Option.map_eq_some_iff] at h
    obtain ⟨d', h1, h2⟩ := h
    exact ⟨_, _, d', e, .inl rfl, h1, h2.symm⟩
  | io =>
    simp only [Option.map_eq_some_iff] at h
    obtain ⟨d', h1, h2⟩ := h
    exact ⟨_, _, d', e, .inr rfl, h1, h2.symm⟩
  | _ => cases h
theorem dropN_keep {s s' : LS} {n : Option Nat} (h : dropN s n = some s') : Keep s s' := by
  cases n with
  | none => cases h; exact .refl _
  | some n =>
    obtain ⟨hf, h⟩ := ite_some h
    cases h
    exact Keep.set (fun z hz => (free_inv hf z hz).1) (fun z hz => by cases hz) (fun z hz m => by rw [(free_inv hf z hz).2] at m; cases m)
theorem ueV_new {x : D} {e : UE} {v : SV} (h : ueV x e = some v) : v.m.isNew = true := by
  cases e with
  | a u => simp only [ueV, Option.map_eq_some_iff] at h; obtain ⟨d, _, rfl⟩ := h; rfl
  | l us =>
    obtain ⟨_, h⟩ := ite_some h
    rw [Option.map_eq_some_iff] at h
    obtain ⟨d, _, rfl⟩ := h
    rfl
theorem evU_keep {x : D} {s : LS} {u : US} {fl : Fl} (h : evU x s u = some fl) : Keep s fl.st := by
  cases u with
  | asg i e =>
    simp only [evU, Option.bind_eq_some_iff, Option.map_eq_some_iff] at h
    obtain ⟨v, h1, s', h2, rfl⟩ := h
    exact store_keep (ueV_new h1) h2
  | app i e =>
    simp only [evU, Option.bind_eq_some_iff] at h
    obtain ⟨x0, h0, h⟩ := h
    obtain ⟨_, h⟩ := ite_some h
    simp only [Option.bind_eq_some_iff, Option.map_eq_some_iff] at h
    obtain ⟨v, h1, s', h2, rfl⟩ := h
    obtain ⟨m, xs, e1, hm, _, e2⟩ := appS_inv h2
    rw [e2]
    exact put_keep e1 hm
  | seti i k e =>
    simp only [evU, Option.bind_eq_some_iff, Option.map_eq_some_iff] at h
    obtain ⟨v, h1, _, _, s', h2, rfl⟩ := h
    obtain ⟨m, d, d', e1, hm, _, e2⟩ := setiS_inv h2
    rw [e2]
    exact put_keep e1 hm
  | ret e =>
    simp only [evU, Option.map_eq_some_iff] at h
    obtain ⟨v, h1, rfl⟩ := h
    exact .refl _
  | keep i =>
    simp only [evU, Option.bind_eq_some_iff, Option.map_eq_some_iff] at h
    obtain ⟨v, h1, s', h2, rfl⟩ := h
    exact store_keep rfl h2
theorem Fl.st_map (f : LS → LS) (fl : Fl) : (fl.map f).st = f fl.st := by cases fl <;> rfl
mutual
theorem evS_keep : ∀ (c : CS) (s : LS) (fl : Fl), evS cf c s = some fl → Keep s fl.st
  | .asg p e, s, fl, h => by
    simp only [evS, Option.bind_eq_some_iff, Option.map_eq_some_iff] at h
    obtain ⟨x, h1, s', h2, h3⟩ := h
    subst h3
    exact (evE_keep cf e s x.1 x.2 h1).trans (asgE_keep h2)
  | .par is es, s, fl, h => by
    simp only [evS, Option.bind_eq_some_iff, Option.map_eq_some_iff] at h
    obtain ⟨x, h1, s', h2, h3⟩ := h
    subst h3
    exact (evPs_keep h1).trans (parS_keep h2)
  | .app i e, s, fl, h => by
    simp only [evS, Option.bind_eq_some_iff] at h
    obtain ⟨x0, h0, h⟩ := h
    obtain ⟨_, h⟩ := ite_some h
    simp only [Option.bind_eq_some_iff, Option.map_eq_some_iff] at h
    obtain ⟨x, h1, s', h2, h3⟩ := h
    subst h3
    obtain ⟨m, xs, e1, hm, _, e2⟩ := appS_inv h2
    rw [e2]
    exact (evE_keep cf e s x.1 x.2 h1).trans (put_keep e1 hm)
  | .seti i k e, s, fl, h => by
    simp only [evS, Option.bind_eq_some_iff, Option.map_eq_some_iff] at h
    obtain ⟨x, h1, _, _, y, h1', s', h2, h3⟩ := h
    subst h3
    obtain ⟨m, d, d', e1, hm, _, e2⟩ := setiS_inv h2
    rw [e2]
    exact ((evE_keep cf e s x.1 x.2 h1).trans (evE_keep cf k x.2 y.1 y.2 h1')).trans (put_keep e1 hm)
  | .ex e, s, fl, h => by
    simp only [evS, Option.map_eq_some_iff] at h
    obtain ⟨x, h1, h3⟩ := h
    subst h3
    exact evE_keep cf e s x.1 x.2 h1
  | .ret e, s, fl, h => by
    simp only [evS, Option.map_eq_some_iff] at h
    obtain ⟨x, h1, h3⟩ := h
    subst h3
    exact evR_keep h1
  | .retN, s, fl, h => by cases h; exact .refl _
  | .ite c a b, s, fl, h => by
    simp only [evS, Option.bind_eq_some_iff] at h
    obtain ⟨x, h1, h2⟩ := h
    have k1 := tst_keep h1 fun y s1 e => evE_keep cf c s y s1 e
    split at h2
    · exact k1.trans (evSs_keep a _ _ h2)
    · exact k1.trans (evSs_keep b _ _ h2)
  | .for_ p it b, s, fl, h => by
    simp only [evS, Option.bind_eq_some_iff, Option.map_eq_some_iff] at h
    obtain ⟨w, h1, fl0, h2, h3⟩ := h
    subst h3
    obtain ⟨s1, k1, l1⟩ := evI_keep cf it s w.1 w.2.1 w.2.2 h1
    rw [Fl.st_map]
    refine k1.trans (unlock_keep l1 (forL_keep (fun x s2 r hr => ?_) h2))
    simp only [Option.bind_eq_some_iff] at hr
    obtain ⟨s3, h4, h5⟩ := hr
    exact (bindP_keep h4).trans (evSs_keep b _ _ h5)
  | .whl c b, s, fl, h => by
    simp only [evS] at h
    exact whL_keep (fun s1 k s2 e => tst_keep e fun y s3 e3 => evE_keep cf c s1 y s3 e3) (fun s1 r e => evSs_keep b s1 r e) h
  | .pass, s, fl, h => by cases h; exact .refl _
  | .brk, s, fl, h => by cases h; exact .refl _
  | .cont, s, fl, h => by cases h; exact .refl _
  | .nev, s, fl, h => by cases h
  | .rx st, s, fl, h => by
    simp only [evS] at h
    split at h
    · rename_i x s1 e
      cases h
      exact xS_keep cf st s x s1 e
    · exact evS_keep st s fl h
  | .rai k as, s, fl, h => by
    simp only [evS, Option.bind_eq_some_iff, Option.map_eq_some_iff] at h
    obtain ⟨r, h1, x, _, h3⟩ := h
    subst h3
    exact evEs_keep cf as s r.1 r.2 h1
  | .try_ b cs n u, s, fl, h => by
    simp only [evS, Option.bind_eq_some_iff] at h
    obtain ⟨f0, h1, h2⟩ := h
    have k1 := evSs_keep b s f0 h1
    cases f0 with
    | ex x s1 =>
      simp only at h2
      split at h2
      · simp only [Option.bind_eq_some_iff] at h2
        obtain ⟨s2, h3, h4⟩ := h2
        exact k1.trans ((dropN_keep h3).trans (evU_keep h4))
      · cases h2
    | _ => cases h2; exact k1
theorem evSs_keep : ∀ (c : CSs) (s : LS) (fl : Fl), evSs cf c s = some fl → Keep s fl.st
  | .nil, s, fl, h => by cases h; exact .refl _
  | .cons a r, s, fl, h => by
    simp only [evSs, Option.bind_eq_some_iff] at h
    obtain ⟨f0, h1, h2⟩ := h
    have k1 := evS_keep a s f0 h1
    cases f0 with
    | nx s' => exact k1.trans (evSs_keep r _ _ h2)
    | rt v s' => cases h2; exact k1
    | bk s' => cases h2; exact k1
    | ct s' => cases h2; exact k1
    | ex x s' => cases h2; exact k1
end
end
/-! ### pinned slots -/
def Md.pin (m : Md) : Bool := m.isLock || m.isIn
def Pin (s : LS) (σ σ' : St) : Prop := ∀ (j : Nat) (x : SV), slot s j = some x → x.m.pin = true → σ'[j]? = σ[j]?
theorem Pin.refl (s : LS) (σ : St) : Pin s σ σ := fun _ _ _ _ => rfl
theorem Keep.pin {s s' : LS} (k : Keep s s') {j : Nat} {x : SV} (h : slot s j = some x) (m : x.m.pin = true) : ∃ y, slot s' j = some y ∧ y.m.pin = true := by
  unfold Md.pin at m
  rw [Bool.or_eq_true] at m
  rcases m with m | m
  · exact ⟨x, (k.lk j x m).mp h, by unfold Md.pin; rw [m]; rfl⟩
  · obtain ⟨y, h1, m1⟩ := k.io j x h m
    exact ⟨y, h1, by unfold Md.pin; rw [m1, Bool.or_true]⟩
theorem Pin.trans {s s1 : LS} {σ σ1 σ2 : St} (a : Pin s σ σ1) (k : Keep s s1) (b : Pin s1 σ1 σ2) : Pin s σ σ2 := fun j x h m => by
  obtain ⟨y, h1, m1⟩ := k.pin h m
  rw [b j y h1 m1, a j x h m]
theorem Pin.of {s s1 : LS} {σ σ2 : St} (k : Keep s s1) (b : Pin s1 σ σ2) : Pin s σ σ2 := (Pin.refl s σ).trans k b
theorem pin_set {s : LS} {i : Nat} {σ : St} {v : Option V} (hf : free s i = true) : Pin s σ (σ.set i v) := fun j x h m => by
  rw [List.getElem?_set, if_neg]
  rintro rfl
  obtain ⟨a, b⟩ := free_inv hf x h
  unfold Md.pin at m
  rw [a, b] at m
  cases m
theorem locked_pin {s s1 : LS} {o : Option Nat} {σ σ' : St} (l : Locked s s1 o) (p : Pin s1 σ σ') : Pin s σ σ' := by
  cases o with
  | none => rw [l.none_ rfl] at p; exact p
  | some i =>
    obtain ⟨d, m, m', e, e1, hm⟩ := l.some_ i rfl
    intro j x h mx
    by_cases hj : i = j
    · subst hj
      refine p i ⟨m', d⟩ ?_ ?_
      · rw [e1, slot_put e, if_pos rfl]
      · rcases hm with ⟨_, z⟩ | ⟨_, z⟩ <;> rw [z] <;> rfl
    · exact p j x (by rw [e1, slot_put e, if_neg hj]; exact h) mx
section
variable {K : PySem.W.Frag} {F G H : Hp} {s : LS} {σ : St}
/-- a slot's own cell is changed -/
theorem Rep.wr {i : Nat} {m : Md} {d d' : D} {a : Addr} {o : HO} (r : Rep K F G s σ H) (e : slot s i = some ⟨m, d⟩) (hm : m.isOw = true) (ea : σ[i]? = some (some (.ref a))) (c : Cell K G (upd H a o) a d') : Rep K F G (putS s i ⟨m, d'⟩) σ (upd H a o) := by
  obtain ⟨a', ea', f, g, _⟩ := r.ow i _ e hm
  rw [ea] at ea'
  cases ea'
  have at_ : ∀ j z, slot (putS s i ⟨m, d'⟩) j = some z → (i = j ∧ z = ⟨m, d'⟩) ∨ (i ≠ j ∧ slot s j = some z) := fun j z q => by
    rw [slot_put e] at q
    split at q
    · rename_i w; exact .inl ⟨w, (Option.some.inj q).symm⟩
    · rename_i w; exact .inr ⟨w, q⟩
  have nfz : m.isFz = false := by cases m <;> first | rfl | cases hm
  have nlk : m.isLk = false := by cases m <;> first | rfl | cases hm
  refine ⟨fun b u q => ?_, fun b u q => ?_, r.fg, by unfold putS; rw [List.length_set]; exact r.len, fun j z q mz => ?_, fun j z q mz => ?_, fun j z q mz => ?_, fun j k z w b q1 q2 m1 m2 p1 p2 => ?_, ?_⟩
  · rw [upd_ne (fun z => by rw [z, f] at q; cases q)]; exact r.fh _ _ q
  · rw [upd_ne (fun z => by rw [z, g] at q; cases q)]; exact r.gh _ _ q
  · rcases at_ j z q with ⟨_, ez⟩ | ⟨_, ez⟩
    · rw [ez] at mz; rw [show Md.isFz m = true from mz] at nfz; cases nfz
    · exact r.fz j z ez mz
  · rcases at_ j z q with ⟨hj, ez⟩ | ⟨hj, ez⟩
    · rw [← hj, ez]; exact ⟨a, ea, f, g, c⟩
    · obtain ⟨b, e1, f1, g1, c1⟩ := r.ow j z ez mz
      have ne : b ≠ a := fun w => hj (r.inj i j _ z a e ez hm mz ea (by rw [e1, w]))
      exact ⟨b, e1, f1, g1, c1.mono (Same.refl _) fun u p => by rw [upd_ne ne]; exact p⟩
  · rcases at_ j z q with ⟨_, ez⟩ | ⟨_, ez⟩
    · rw [ez] at mz; rw [show Md.isLk m = true from mz] at nlk; cases nlk
    · exact r.lk j z ez mz
  · have back : ∀ j z, slot (putS s i ⟨m, d'⟩) j = some z → z.m.isOw = true → ∃ z', slot s j = some z' ∧ z'.m.isOw = true := fun j z q mz => by
      rcases at_ j z q with ⟨hj, ez⟩ | ⟨_, ez⟩
      · rw [← hj]; exact ⟨_, e, hm⟩
      · exact ⟨z, ez, mz⟩
    obtain ⟨z', a1, b1⟩ := back j z q1 m1
    obtain ⟨w', a2, b2⟩ := back k w q2 m2
    exact r.inj j k z' w' b a1 a2 b1 b2 p1 p2
  · obtain ⟨a2, ea2, _, _, c0⟩ := r.ow i _ e hm
    rw [ea] at ea2
    cases ea2
    cases d with
    | list ds => obtain ⟨xs, hh, _⟩ := c0; exact Zk.wr r.tb hh (fun ps z => by cases z)
    | dict kvs => obtain ⟨ks, hh, _⟩ := c0; exact Zk.wr r.tb hh (fun ps z => by cases z)
    | _ => exact c0.elim
/-- a slot forgotten -/
theorem Rep.drop (r : Rep K F G s σ H) (i : Nat) : Rep K F G (s.set i none) σ H := by
  have at_ : ∀ j z, slot (s.set i none) j = some z → slot s j = some z := fun j z q => by
    rw [slot_set] at q
    split at q
    · cases q
    · exact q
  exact ⟨r.fh, r.gh, r.fg, by rw [List.length_set]; exact r.len, fun j z q => r.fz j z (at_ j z q), fun j z q => r.ow j z (at_ j z q), fun j z q => r.lk j z (at_ j z q), fun j k z w b q1 q2 => r.inj j k z w b (at_ j z q1) (at_ k w q2), r.tb⟩
theorem RV.new {v : V} {x : SV} (q : RV K F G H s σ v x) : x.m.isNew = true := by
  obtain ⟨m, d⟩ := x
  cases m <;> first | rfl | exact q.elim
end
/-! ### what statements come to -/
def EndOk (K : PySem.W.Frag) (F G : Hp) (s : LS) (σ : St) (D : Ends) (W : WX) : Fl → Prop
  | .nx s' => ∀ σ' H' G', Same G G' → Pin s σ σ' → Rep K F G' s' σ' H' → D.nx σ' H'
  | .bk s' => ∀ σ' H' G', Same G G' → Pin s σ σ' → Rep K F G' s' σ' H' → D.bk σ' H'
  | .ct s' => ∀ σ' H' G', Same G G' → Pin s σ σ' → Rep K F G' s' σ' H' → D.ct σ' H'
  | .rt x s' => ∀ v σ' H' G', Same G G' → Pin s σ σ' → Rep K F G' s' σ' H' → RV K F G' H' s' σ' v x → D.rt v H'
  | .ex x s' => ∀ cls dd σ' H' G', Same G G' → Pin s σ σ' → Rep K F G' s' σ' H' → ExR K G' cls dd x → W cls dd σ' H'
def TDS (K : PySem.W.Frag) (W : WX) (ev : LS → Option Fl) : TS := fun D σ H => ∃ F G s fl, Rep K F G s σ H ∧ ev s = some fl ∧ EndOk K F G s σ D W fl
theorem EndOk.mono {K : PySem.W.Frag} {F G G1 : Hp} {s s1 : LS} {σ σ1 : St} {D : Ends} {W : WX} {fl : Fl} (h : EndOk K F G s σ D W fl) (sm : Same G G1) (k : Keep s s1) (p : Pin s σ σ1) : EndOk K F G1 s1 σ1 D W fl := by
  cases fl with
  | nx s' => exact fun σ' H' G' sm' p' r => h σ' H' G' (sm.trans sm') (p.trans k p') r
  | bk s' => exact fun σ' H' G' sm' p' r => h σ' H' G' (sm.trans sm') (p.trans k p') r
  | ct s' => exact fun σ' H' G' sm' p' r => h σ' H' G' (sm.trans sm') (p.trans k p') r
  | rt x s' => exact fun v σ' H' G' sm' p' r q => h v σ' H' G' (sm.trans sm') (p.trans k p') r q
  | ex x s' => exact fun cls dd σ' H' G' sm' p' r q => h cls dd σ' H' G' (sm.trans sm') (p.trans k p') r q
theorem _root_.L2.PS.imp {X : Cx} {e : Stmt} {t t' : TS} (h : PS X e t) (i : ∀ D σ H, t' D σ H → t D σ H) : PS X e t' := ⟨fun pins s σ H D I q => h.run pins s σ H D I (i _ _ _ q)⟩
theorem _root_.L2.PSs.imp {X : Cx} {e : List Stmt} {t t' : TS} (h : PSs X e t) (i : ∀ D σ H, t' D σ H → t D σ H) : PSs X e t' := ⟨fun pins s σ H D I q => h.run pins s σ H D I (i _ _ _ q)⟩
section
variable {X : Cx} {cf : CF} {W : WX}
theorem st_nil : PSs X [] (TDS X.K W (evSs cf .nil)) := pss_nil.imp fun D σ H ⟨F, G, s, fl, rep, e, q⟩ => by
  cases e
  exact q σ H G (Same.refl _) (.refl _ _) rep
theorem st_cons {a : CS} {r : CSs} {st : Stmt} {rest : List Stmt} (h1 : PS X st (TDS X.K W (evS cf a))) (h2 : PSs X rest (TDS X.K W (evSs cf r))) : PSs X (st :: rest) (TDS X.K W (evSs cf (.cons a r))) := by
  refine (pss_cons h1 h2).imp fun D σ H ⟨F, G, s, fl, rep, e, q⟩ => ?_
  simp only [evSs, Option.bind_eq_some_iff] at e
  obtain ⟨f0, e1, e2⟩ := e
  have k1 := evS_keep a s f0 e1
  refine ⟨F, G, s, f0, rep, e1, ?_⟩
  cases f0 with
  | nx s' => exact fun σ' H' G' sm p r' => ⟨F, G', s', fl, r', e2, q.mono sm k1 p⟩
  | bk s' => cases e2; exact q
  | ct s' => cases e2; exact q
  | rt x s' => cases e2; exact q
  | ex x s' => cases e2; exact q
theorem st_pass {pos : Pos} : PS X (.Pass pos) (TDS X.K W (evS cf .pass)) := ps_pass.imp fun D σ H ⟨F, G, s, fl, rep, e, q⟩ => by
  cases e
  exact q σ H G (Same.refl _) (.refl _ _) rep
theorem st_brk {pos : Pos} : PS X (.Break pos) (TDS X.K W (evS cf .brk)) := ps_break.imp fun D σ H ⟨F, G, s, fl, rep, e, q⟩ => by
  cases e
  exact q σ H G (Same.refl _) (.refl _ _) rep
theorem st_cont {pos : Pos} : PS X (.Continue pos) (TDS X.K W (evS cf .cont)) := ps_continue.imp fun D σ H ⟨F, G, s, fl, rep, e, q⟩ => by
  cases e
  exact q σ H G (Same.refl _) (.refl _ _) rep
theorem st_nev {st : Stmt} : PS X st (TDS X.K W (evS cf .nev)) := ps_never.imp fun D σ H ⟨F, G, s, fl, rep, e, q⟩ => by cases e
theorem st_ex {e : CE} {l : Expr} {pos : Pos} (h : PE X l (TDE X.K (evE cf e))) (hs : swapsWith l none pos.line X.env = pure false) : PS X (.Expr l pos) (TDS X.K W (evS cf (.ex e))) := by
  refine (ps_expr h hs).imp fun D σ H ⟨F, G, s, fl, rep, ee, q⟩ => ?_
  simp only [evS, Option.map_eq_some_iff] at ee
  obtain ⟨x, e1, e2⟩ := ee
  subst e2
  exact ⟨F, G, s, x.1, x.2, rep, e1, fun v H1 G1 sm1 r1 rv => q σ H1 G1 sm1 (.refl _ _) r1⟩
theorem st_retN {pos : Pos} : PS X (.Return none pos) (TDS X.K W (evS cf .retN)) := ps_retN.imp fun D σ H ⟨F, G, s, fl, rep, e, q⟩ => by
  cases e
  exact q .non σ H G (Same.refl _) (.refl _ _) rep .non
theorem st_ret {e : CE} {l : Expr} {pos : Pos} (h : PE X l (TDE X.K (evE cf e))) (hn : ∀ i, e ≠ .v i) : PS X (.Return (some l) pos) (TDS X.K W (evS cf (.ret e))) := by
  refine (ps_ret h).imp fun D σ H ⟨F, G, s, fl, rep, ee, q⟩ => ?_
  simp only [evS, Option.map_eq_some_iff] at ee
  obtain ⟨x, e1, e2⟩ := ee
  subst e2
  have e1' : evE cf e s = some x := by
    cases e <;> first | exact e1 | exact absurd rfl (hn _)
  exact ⟨F, G, s, x.1, x.2, rep, e1', fun v H1 G1 sm1 r1 rv => q v σ H1 G1 sm1 (.refl _ _) r1 rv⟩
theorem st_retV {i : Nat} {x : Str} {p pos : Pos} (hN : X.N[i]? = some x) (hv : Vis X.env.scope x) (h1 : (x == ("__debug__" : Str)) = false) (h2 : (x == ("__classdict__" : Str)) = false) : PS X (.Return (some (.Name x p)) pos) (TDS X.K W (evS cf (.ret (.v i)))) := by
  refine (ps_ret (pe_var hN hv h1 h2)).imp fun D σ H ⟨F, G, s, fl, rep, ee, q⟩ => ?_
  simp only [evS, evR, Option.map_eq_some_iff] at ee
  obtain ⟨y, e1, e2⟩ := ee
  subst e2
  split at e1
  · rename_i d es
    cases e1
    obtain ⟨a, ea, f, g, c⟩ := rep.ow i _ es rfl
    refine ⟨.ref a, ea, q (.ref a) σ H G (Same.refl _) (.refl _ _) (rep.drop i) ⟨a, rfl, f, g, c, fun j z hz mz z2 => ?_⟩⟩
    rw [slot_set] at hz
    split at hz
    · cases hz
    · rename_i hne
      exact hne ⟨rep.inj i j _ z a es hz rfl mz ea z2, slot_lt es⟩
  · obtain ⟨v, G', e1', sm, r1, hm, d⟩ := leak_ok rep e1
    refine ⟨v, e1', q v σ H G' sm (.refl _ _) r1 ?_⟩
    obtain ⟨⟨m, d'⟩, s'⟩ := y
    simp only at hm
    subst hm
    exact d
theorem st_ite {c : CE} {a b : CSs} {l : Expr} {p r : List Stmt} {pos : Pos} (hc : PT X l (TDB X.K fun s => tst (evE cf c s))) (ha : PSs X p (TDS X.K W (evSs cf a))) (hb : PSs X r (TDS X.K W (evSs cf b))) : PS X (.If l p r pos) (TDS X.K W (evS cf (.ite c a b))) := by
  refine (ps_if hc ha hb).imp fun D σ H ⟨F, G, s, fl, rep, ee, q⟩ => ?_
  simp only [evS, Option.bind_eq_some_iff] at ee
  obtain ⟨⟨k, s1⟩, e1, e2⟩ := ee
  have k1 := tst_keep e1 fun y s2 e => evE_keep cf c s y s2 e
  refine ⟨F, G, s, k, s1, rep, e1, fun H1 G1 sm1 r1 => ?_⟩
  cases k with
  | true => exact ⟨F, G1, s1, fl, r1, e2, q.mono sm1 k1 (.refl _ _)⟩
  | false => exact ⟨F, G1, s1, fl, r1, e2, q.mono sm1 k1 (.refl _ _)⟩
/-! ### name = e -/
theorem asg_core {i : Nat} {e : CE} : ∀ D σ H, TDS X.K W (evS cf (.asg (.v i) e)) D σ H → tAsg (TDE X.K (evE cf e)) (gName i) D σ H := by
  rintro D σ H ⟨F, G, s, fl, rep, ee, q⟩
  simp only [evS, Option.bind_eq_some_iff, Option.map_eq_some_iff] at ee
  obtain ⟨x, e1, s', e2, e3⟩ := ee
  subst e3
  obtain ⟨hm, e2⟩ := ite_some e2
  have k1 := evE_keep cf e s x.1 x.2 e1
  refine ⟨F, G, s, x.1, x.2, rep, e1, fun v H1 G1 sm1 r1 rv => ?_⟩
  have hf : free x.2 i = true := by
    unfold store at e2
    exact (ite_some e2).1
  exact q _ H1 G1 sm1 (.of k1 (pin_set hf)) (r1.store e2 rv)
theorem asgT_core {is : List Nat} {e : CE} : ∀ D σ H, TDS X.K W (evS cf (.asg (.t is) e)) D σ H → tAsg (TDF X.K (evE cf e)) (gPt X.K (.t is)) D σ H := by
  rintro D σ H ⟨F, G, s, fl, rep, ee, q⟩
  simp only [evS, Option.bind_eq_some_iff, Option.map_eq_some_iff] at ee
  obtain ⟨x, e1, s', e2, e3⟩ := ee
  subst e3
  have e2 : bindP x.2 (.t is) x.1.d = some s' := e2
  have k1 := evE_keep cf e s x.1 x.2 e1
  refine ⟨F, G, s, x.1, x.2, rep, e1, fun v H1 G1 sm1 r1 d1 => ?_⟩
  refine bind_ok r1 d1 e2 fun σ' r2 off tch => q σ' H1 G1 sm1 (.of k1 fun j y hy my => ?_) r2
  refine off.2 j (tch j y hy ?_ ?_)
  · intro z; rw [z] at my; cases my
  · intro z; rw [z] at my; cases my
/-! ### a, b = x, y -/
def RVs (K : PySem.W.Frag) (F G H : Hp) (s : LS) (σ : St) : List V → List SV → Prop
  | [], [] => True
  | v :: vs, x :: xs => RV K F G H s σ v x ∧ (x.m = .ow → ∀ (j : Nat) (w : V) (y : SV), vs[j]? = some w → xs[j]? = some y → y.m = .ow → w ≠ v) ∧ RVs K F G H s σ vs xs
  | _, _ => False
def TDR (K : PySem.W.Frag) (ev : LS → Option (List SV × LS)) : TA := fun σ H Q => ∃ F G s xs s', Rep K F G s σ H ∧ ev s = some (xs, s') ∧ ∀ vs H' G', Same G G' → Rep K F G' s' σ H' → RVs K F G' H' s' σ vs xs → Q vs H'
theorem RVs.unhold {K : PySem.W.Frag} {F G H : Hp} {s : LS} {σ : St} {p : Addr} {o : HO} (f : F p = none) : ∀ {vs : List V} {xs : List SV}, RVs K (upd F p o) G H s σ vs xs → RVs K F G H s σ vs xs ∧ ∀ (j : Nat) (w : V) (y : SV), vs[j]? = some w → xs[j]? = some y → y.m = .ow → w ≠ .ref p
  | [], [], h => ⟨h, fun j w y e => by simp at e⟩
  | v :: vs, x :: xs, h => by
    obtain ⟨h1, h2, h3⟩ := h
    obtain ⟨i1, i2⟩ := RVs.unhold f h3
    have sub : ∀ b, upd F p o b = none → F b = none := fun b e => by
      by_cases hb : b = p
      · rw [hb]; exact f
      · rw [upd_ne hb] at e; exact e
    obtain ⟨m, d⟩ := x
    cases m with
    | fz =>
      refine ⟨⟨h1, h2, i1⟩, fun j w y ew ey my => ?_⟩
      cases j with
      | zero => simp at ey; subst ey; cases my
      | succ j => exact i2 j w y (by simpa using ew) (by simpa using ey) my
    | ow =>
      obtain ⟨p', e, f', g, c, no⟩ := h1
      subst e
      refine ⟨⟨⟨p', rfl, sub _ f', g, c, no⟩, h2, i1⟩, fun j w y ew ey my => ?_⟩
      cases j with
      | zero =>
        simp at ew
        subst ew
        intro z
        cases z
        rw [upd_same] at f'
        cases f'
      | succ j => exact i2 j w y (by simpa using ew) (by simpa using ey) my
    | _ => exact h1.elim
  | [], _ :: _, h => h.elim
  | _ :: _, [], h => h.elim
theorem RV.grow {K : PySem.W.Frag} {F G H H' : Hp} {s : LS} {σ : St} {v : V} {x : SV} (q : RV K F G H s σ v x) (sm : Same H H') : RV K F G H' s σ v x := by
  obtain ⟨m, d⟩ := x
  cases m with
  | fz => exact q
  | ow =>
    obtain ⟨p, e, f, g, c, no⟩ := q
    exact ⟨p, e, f, g, c.mono (Same.refl _) fun o z => sm _ _ z, no⟩
  | _ => exact q.elim
theorem RVs.grow {K : PySem.W.Frag} {F G H H' : Hp} {s : LS} {σ : St} (sm : Same H H') : ∀ {vs : List V} {xs : List SV}, RVs K F G H s σ vs xs → RVs K F G H' s σ vs xs
  | [], [], h => h
  | v :: vs, x :: xs, h => ⟨h.1.grow sm, h.2.1, RVs.grow sm h.2.2⟩
  | [], _ :: _, h => h.elim
  | _ :: _, [], h => h.elim
theorem RVs.len {K : PySem.W.Frag} {F G H : Hp} {s : LS} {σ : St} : ∀ {vs : List V} {xs : List SV}, RVs K F G H s σ vs xs → vs.length = xs.length
  | [], [], h => rfl
  | v :: vs, x :: xs, h => by rw [List.length_cons, List.length_cons, RVs.len h.2.2]
  | [], _ :: _, h => h.elim
  | _ :: _, [], h => h.elim
theorem st_pnil : PA X [] (TDR X.K (evPs cf .nil)) := pa_nil.imp fun σ H Q ⟨F, G, s, x, s', rep, e, q⟩ => by
  cases e
  exact q [] H G (Same.refl _) rep trivial
theorem st_pcons {c : CE} {cs : CEs} {l : Expr} {ls : List Expr} (ha : PE X l (TDE X.K (evE cf c))) (hr : PA X ls (TDR X.K (evPs cf cs))) (hs : nst l = true) : PA X (l :: ls) (TDR X.K (evPs cf (.cons c cs))) := by
  refine (pa_cons ha hr (nst_star hs _ _)).imp fun σ H Q ⟨F, G, s, xs, s', rep, e, q⟩ => ?_
  simp only [evPs, Option.bind_eq_some_iff, Option.map_eq_some_iff] at e
  obtain ⟨y, e1, z, e2, e3⟩ := e
  cases e3
  refine ⟨F, G, s, y.1, y.2, rep, e1, fun v H1 G1 sm1 r1 rv => ?_⟩
  obtain ⟨⟨m, d⟩, ys⟩ := y
  cases m with
  | fz =>
    refine ⟨F, G1, ys, z.1, z.2, r1, e2, fun vs H2 G2 sm2 r2 rvs => q _ H2 G2 (sm1.trans sm2) r2 ⟨?_, (fun w => by cases w), rvs⟩⟩
    have rv : Den X.K G1 v d := rv
    exact rv.mono sm2
  | ow =>
    obtain ⟨p, ep, f, g, c0, no⟩ := rv
    subst ep
    obtain ⟨o, ho⟩ := c0.at
    have hd : Held F G1 H1 ys σ p o := ⟨ho, f, g, no⟩
    refine ⟨_, G1, ys, z.1, z.2, hd.hold r1, e2, fun vs H2 G2 sm2 r2 rvs => ?_⟩
    obtain ⟨r3, hd3⟩ := hd.after r1 (evPs_keep e2) sm2 r2
    obtain ⟨i1, i2⟩ := RVs.unhold f rvs
    exact q _ H2 G2 (sm1.trans sm2) r3 ⟨⟨p, rfl, hd3.f, hd3.g, c0.mono sm2 fun u w => by rw [ho] at w; cases w; exact hd3.h, hd3.no⟩, fun _ j w y ew ey my => i2 j w y ew ey my, i1⟩
  | _ => exact rv.elim
def setAll (σ : St) : List Nat → List V → St
  | i :: is, v :: vs => setAll (σ.set i (some v)) is vs
  | _, _ => σ
theorem gNames_of {Q : St → Hp → Prop} {H : Hp} : ∀ {is : List Nat} {vs : List V} {σ : St}, vs.length = is.length → Q (setAll σ is vs) H → gNames is vs σ H Q
  | [], [], σ, _, q => ⟨rfl, q⟩
  | i :: is, v :: vs, σ, hl, q => ⟨v, vs, rfl, gNames_of (by simpa using hl) q⟩
  | [], _ :: _, _, hl, _ => by cases hl
  | _ :: _, [], _, hl, _ => by cases hl
theorem par_ok {K : PySem.W.Frag} {F G H : Hp} : ∀ {is : List Nat} {vs : List V} {xs : List SV} {s s' : LS} {σ : St}, Rep K F G s σ H → RVs K F G H s σ vs xs → parS s is xs = some s' → Rep K F G s' (setAll σ is vs) H ∧ Pin s σ (setAll σ is vs) ∧ vs.length = is.length
  | [], [], [], s, s', σ, r, _, e => by cases e; exact ⟨r, .refl _ _, rfl⟩
  | i :: is, v :: vs, x :: xs, s, s', σ, r, q, e => by
    obtain ⟨q1, q2, q3⟩ := q
    simp only [parS] at e
    obtain ⟨hm, e⟩ := ite_some e
    simp only [Option.bind_eq_some_iff] at e
    obtain ⟨s1, e1, e2⟩ := e
    have r1 := r.store e1 q1
    have at_ := store_inv e1
    have hf : free s i = true := by unfold store at e1; exact (ite_some e1).1
    have hlt : i < σ.length := by rw [r.len]; exact free_len hf
    have more : ∀ {vs : List V} {xs : List SV}, RVs K F G H s σ vs xs → (x.m = .ow → ∀ (j : Nat) (w : V) (y : SV), vs[j]? = some w → xs[j]? = some y → y.m = .ow → w ≠ v) → RVs K F G H s1 (σ.set i (some v)) vs xs := fun {vs} => by
      induction vs with
      | nil =>
        intro xs h _
        cases xs with
        | nil => exact h
        | cons _ _ => exact h.elim
      | cons w vs ih =>
        intro xs h hne
        cases xs with
        | nil => exact h.elim
        | cons y xs =>
          obtain ⟨h1, h2, h3⟩ := h
          refine ⟨?_, h2, ih h3 fun mx j w' y' ew ey my => hne mx (j + 1) w' y' (by simpa using ew) (by simpa using ey) my⟩
          obtain ⟨my, dy⟩ := y
          cases my with
          | fz => exact h1
          | ow =>
            obtain ⟨p, ep, f, g, c, no⟩ := h1
            refine ⟨p, ep, f, g, c, fun j z hz mz e3 => ?_⟩
            rw [at_] at hz
            split at hz
            · rename_i hj
              cases hz
              rw [← hj, List.getElem?_set_self hlt] at e3
              have mx : x.m = .ow := by
                cases hx : x.m <;> rw [hx] at mz hm <;> first | rfl | (cases mz; done) | (cases hm; done)
              refine hne mx 0 w ⟨.ow, dy⟩ rfl rfl rfl ?_
              rw [ep]
              exact (Option.some.inj (Option.some.inj e3)).symm
            · rename_i hj
              rw [List.getElem?_set_ne hj] at e3
              exact no j z hz mz e3
          | _ => exact h1.elim
    obtain ⟨a, b, c⟩ := par_ok r1 (more q3 q2) e2
    refine ⟨a, fun j y hy my => ?_, by rw [List.length_cons, List.length_cons, c]⟩
    have p1 := pin_set (v := some v) (σ := σ) hf
    exact (Pin.trans p1 (store_keep hm e1) b) j y hy my
  | [], [], _ :: _, s, s', σ, r, q, e => by cases e
  | [], _ :: _, [], s, s', σ, r, q, e => q.elim
  | [], _ :: _, _ :: _, s, s', σ, r, q, e => by cases e
  | _ :: _, [], [], s, s', σ, r, q, e => by cases e
  | _ :: _, [], _ :: _, s, s', σ, r, q, e => q.elim
  | _ :: _, _ :: _, [], s, s', σ, r, q, e => q.elim
theorem st_parG {is : List Nat} {es : CEs} {ts ls : List Expr} {k1 k2 : Nat} {p1 p2 pos : Pos} (hc : X.calm = true) (hg : PGs X ts (gNames is)) (hn : (assignEach ts X.env).length = is.length) (hst : (assignEach ts X.env).findIdx? (·.1) = none) (ha : PA X ls (TDR X.K (evPs cf es))) (h64 : is.length ≤ 1000)
    (hs : swapsWithSole [.Tuple ts k1 p1] (.Tuple ls k2 p2) pos.line X.env = pure false) (hw : swappedStores [.Tuple ts k1 p1] (.Tuple ls k2 p2) X.env = pure none) : PS X (.Assign [.Tuple ts k1 p1] (.Tuple ls k2 p2) pos) (TDS X.K W (evS cf (.par is es))) := by
  refine (ps_asg (pe_tup ha) (pg_tup hc hg hn hst) hs hw).imp fun D σ H ⟨F, G, s, fl, rep, ee, q⟩ => ?_
  simp only [evS, Option.bind_eq_some_iff, Option.map_eq_some_iff] at ee
  obtain ⟨x, e1, s', e2, e3⟩ := ee
  subst e3
  refine ⟨F, G, s, x.1, x.2, rep, e1, fun vs H1 G1 sm1 r1 rvs => ?_⟩
  have hz : vs.length = is.length := (par_ok r1 rvs e2).2.2
  refine ⟨by rw [hz, sizeLine_eq]; omega, fun p n => ⟨p, vs, rfl, .inl (.inl upd_same), hz, gNames_of hz ?_⟩⟩
  have r2 := r1.newH (o := HO.tup vs) n
  obtain ⟨a, b, c⟩ := par_ok r2 (rvs.grow (same_upd n)) e2
  exact q _ _ G1 sm1 (.of (evPs_keep e1) b) a
theorem st_par2 {i j : Nat} {es : CEs} {x y : Str} {a b : Expr} {px py pt : Pos} {kt k2 : Nat} {pt2 pos : Pos} (hc : X.calm = true) (hN : X.N.Nodup) (hi : X.N[i]? = some x) (hj : X.N[j]? = some y) (hij : i ≠ j) (hx : X.env.scope.names.lookup x = some .local) (hy : X.env.scope.names.lookup y = some .local)
    (ha : PA X [a, b] (TDR X.K (evPs cf es))) (hw : swappedStores [.Tuple [.Name x px, .Name y py] kt pt] (.Tuple [a, b] k2 pt2) X.env = pure (some [x, y])) : PS X (.Assign [.Tuple [.Name x px, .Name y py] kt pt] (.Tuple [a, b] k2 pt2) pos) (TDS X.K W (evS cf (.par [i, j] es))) := by
  refine (ps_par hc hN hi hj hij hx hy ha hw).imp fun D σ H ⟨F, G, s, fl, rep, ee, q⟩ => ?_
  simp only [evS, Option.bind_eq_some_iff, Option.map_eq_some_iff] at ee
  obtain ⟨x, e1, s', e2, e3⟩ := ee
  subst e3
  refine ⟨F, G, s, x.1, x.2, rep, e1, fun vs H1 G1 sm1 r1 rvs => ?_⟩
  obtain ⟨a, b, c⟩ := par_ok r1 rvs e2
  match vs, c with
  | [v, w], _ => exact ⟨v, w, rfl, q _ H1 G1 sm1 (.of (evPs_keep e1) b) a⟩
theorem st_par3 {i j k : Nat} {es : CEs} {x y z : Str} {a b c : Expr} {px py pz pt : Pos} {kt k2 : Nat} {pt2 pos : Pos} (hc : X.calm = true) (hN : X.N.Nodup) (hi : X.N[i]? = some x) (hj : X.N[j]? = some y) (hk : X.N[k]? = some z) (hij : i ≠ j) (hik : i ≠ k) (hjk : j ≠ k) (hx : X.env.scope.names.lookup x = some .local) (hy : X.env.scope.names.lookup y = some .local) (hz : X.env.scope.names.lookup z = some .local)
    (ha : PA X [a, b, c] (TDR X.K (evPs cf es))) (hw : swappedStores [.Tuple [.Name x px, .Name y py, .Name z pz] kt pt] (.Tuple [a, b, c] k2 pt2) X.env = pure (some [x, y, z])) : PS X (.Assign [.Tuple [.Name x px, .Name y py, .Name z pz] kt pt] (.Tuple [a, b, c] k2 pt2) pos) (TDS X.K W (evS cf (.par [i, j, k] es))) := by
  refine (ps_par3 hc hN hi hj hk hij hik hjk hx hy hz ha hw).imp fun D σ H ⟨F, G, s, fl, rep, ee, q⟩ => ?_
  simp only [evS, Option.bind_eq_some_iff, Option.map_eq_some_iff] at ee
  obtain ⟨x, e1, s', e2, e3⟩ := ee
  subst e3
  refine ⟨F, G, s, x.1, x.2, rep, e1, fun vs H1 G1 sm1 r1 rvs => ?_⟩
  obtain ⟨a, b, c⟩ := par_ok r1 rvs e2
  match vs, c with
  | [u, v, w], _ => exact ⟨u, v, w, rfl, q _ H1 G1 sm1 (.of (evPs_keep e1) b) a⟩
end
end LP

end
section
set_option Elab.async false
set_option linter.all false
set_option maxRecDepth 100000
set_option maxHeartbeats 2000000
/-! LP23: x.append(e), x[k] = e, for, while. -/
namespace LP
open PySem PySem.Spec L2
open PyProof.Rows hiding St
variable [Zk]
theorem _root_.L2.PG.imp {X : Cx} {e : Expr} {t t' : TG} (h : PG X e t) (i : ∀ v σ H Q, t' v σ H Q → t v σ H Q) : PG X e t' := ⟨fun pins s σ H v u Q I r q => h.run pins s σ H v u Q I r (i _ _ _ _ q)⟩
theorem PSet.or {X : Cx} {t t' : TSet} (h : PSet X t) (h' : PSet X t') : PSet X (fun o i v H Q => t o i v H Q ∨ t' o i v H Q) := fun pins s σ H o i v ov iv u Q I r1 r2 r3 q => q.elim (h pins s σ H o i v ov iv u Q I r1 r2 r3) (h' pins s σ H o i v ov iv u Q I r1 r2 r3)
section
variable {K : PySem.W.Frag} {F G H : Hp} {s : LS} {σ : St}
theorem slot_sig {i : Nat} {x : SV} (r : Rep K F G s σ H) (h : slot s i = some x) : ∃ v, σ[i]? = some (some v) ∧ RdT K G H v x.d := by
  have : OR K G σ ((σ[i]?).join.getD .non) (.loc i) := by
    obtain ⟨v, hv⟩ : ∃ v, σ[i]? = some (some v) := by
      cases hm : x.m with
      | fz => obtain ⟨v, e, _⟩ := r.fz i x h (by rw [hm]; rfl); exact ⟨v, e⟩
      | fi => obtain ⟨v, e, _⟩ := r.fz i x h (by rw [hm]; rfl); exact ⟨v, e⟩
      | ow => obtain ⟨v, e, _⟩ := r.ow i x h (by rw [hm]; rfl); exact ⟨_, e⟩
      | io => obtain ⟨v, e, _⟩ := r.ow i x h (by rw [hm]; rfl); exact ⟨_, e⟩
      | lk => obtain ⟨v, e, _⟩ := r.lk i x h (by rw [hm]; rfl); exact ⟨_, e⟩
      | li => obtain ⟨v, e, _⟩ := r.lk i x h (by rw [hm]; rfl); exact ⟨_, e⟩
    show σ[i]? = some (some _)
    rw [hv]
    rfl
  exact ⟨_, this, OR.read r this (by simp [getO, h])⟩
theorem isOw_of {m : Md} (h : m = .ow ∨ m = .io) : m.isOw = true := by rcases h with h | h <;> rw [h] <;> rfl
theorem denK_has {k : Str} : ∀ {ks : List (Key × V)} {kvs : List (D × D)}, DenK K G ks kvs → (ks.any fun kv => decide (kv.1 = Sum.inr k)) = dHas k kvs
  | _, _, .nil => rfl
  | _, _, .cons (x := x) hd l => by
    simp only [List.any_cons, dHas, denK_has l]
    rw [key_rr]
theorem denK_rep {k : Str} {v : V} {y : D} (h : Den K G v y) : ∀ {ks : List (Key × V)} {kvs : List (D × D)}, DenK K G ks kvs → DenK K G (ks.map fun kv => if kv.1 = Sum.inr k then (kv.1, v) else kv) (dRep k y kvs)
  | _, _, .nil => .nil
  | _, _, .cons (x := x) hd l => by
    simp only [List.map_cons, dRep]
    by_cases hx : x = k
    · rw [if_pos hx, if_pos (by rw [hx])]
      exact .cons h (denK_rep h l)
    · rw [if_neg hx, if_neg (fun z => hx (Sum.inr.inj z))]
      exact .cons hd (denK_rep h l)
theorem DenK.app {ks ks' : List (Key × V)} {kvs kvs' : List (D × D)} : DenK K G ks kvs → DenK K G ks' kvs' → DenK K G (ks ++ ks') (kvs ++ kvs')
  | .nil, r => r
  | .cons h l, r => .cons h (DenK.app l r)
theorem denK_put {k : Str} {v : V} {y : D} {ks : List (Key × V)} {kvs : List (D × D)} (h : Den K G v y) (l : DenK K G ks kvs) : DenK K G (putK ks (.inr k) v) (dPut k y kvs) := by
  unfold putK dPut
  rw [denK_has l]
  by_cases hk : dHas k kvs = true
  · rw [if_pos hk, if_pos hk]
    exact denK_rep h l
  · rw [if_neg hk, if_neg hk]
    exact l.app (.cons h .nil)
/-- behind a walk, the state of names may have moved -/
theorem LockF.noOwn' {F' : Hp} {s' sn : LS} {σn : St} {o : Option Nat} {p : Addr} (l : LockF K F G H s σ F' s' o) (k : Keep s' sn) (pin : ∀ j x, slot s' j = some x → x.m.isLock = true → σn[j]? = σ[j]?) (old : NoOwn sn σn p) (nf : F' p = none) : NoOwn (unlock sn o) σn p := by
  cases l with
  | no => exact old
  | lock e hm ea f g h l =>
    rename_i i m m' ds xs a
    have lk' : m'.isLock = true := by rcases hm with ⟨_, z⟩ | ⟨_, z⟩ <;> rw [z] <;> rfl
    have s'i : slot (putS s i ⟨m', .list ds⟩) i = some ⟨m', .list ds⟩ := by rw [slot_put e, if_pos rfl]
    have sni : slot sn i = some ⟨m', .list ds⟩ := (k.lk i _ lk').mp s'i
    have u : unlock sn (some i) = putS sn i ⟨m, .list ds⟩ := by
      simp only [unlock, sni]
      rcases hm with ⟨z1, z2⟩ | ⟨z1, z2⟩ <;> subst z1 z2 <;> rfl
    intro j y hy my z
    rw [u, slot_put sni] at hy
    split at hy
    · rename_i hj
      rw [← hj, pin i _ s'i lk', ea] at z
      cases z
      rw [upd_same] at nf
      cases nf
    · exact old j y hy my z
theorem LockF.sub {F' : Hp} {s' : LS} {o : Option Nat} (l : LockF K F G H s σ F' s' o) : ∀ b, F' b = none → F b = none := fun b h => by
  cases l with
  | no => exact h
  | lock e hm ea f g hh l =>
    rename_i i m m' ds xs a
    by_cases hb : b = a
    · rw [hb]; exact f
    · rw [upd_ne hb] at h; exact h
theorem LockF.locked {F' : Hp} {s' : LS} {o : Option Nat} (l : LockF K F G H s σ F' s' o) : Locked s s' o := by
  cases l with
  | no => exact ⟨fun _ => rfl, fun i e => by cases e⟩
  | lock e hm ea f g hh l => exact ⟨(fun z => by cases z), fun j z => by cases z; exact ⟨_, _, _, e, rfl, hm⟩⟩
end
section
variable {X : Cx} {cf : CF} {W : WX}
/-! ### x.append(e) -/
theorem st_app {i : Nat} {e : CE} {x : Str} {l : Expr} {p apos cpos pos : Pos} (hN : X.N[i]? = some x) (hv : Vis X.env.scope x) (h1 : (x == ("__debug__" : Str)) = false) (h2 : (x == ("__classdict__" : Str)) = false) (ha : PE X l (TDE X.K (evE cf e))) (hs : nst l = true)
    (hline : (apos.endLine == cpos.line) = true) : PS X (.Expr (.Call (.Attribute (.Name x p) "append" apos) [l] [] cpos) pos) (TDS X.K W (evS cf (.app i e))) := by
  have hfew : ((backTo cpos (starEach [l] X.env)).all (fun x => !x.1) && (backToKw cpos (keywordEach [] X.env)).all (fun x => x.1.isSome) && decide (([l] : List Expr).length + ([] : List Keyword).length + (if ([] : List Keyword).isEmpty then 0 else 1) < 30)) = true := by
    rw [nst_star hs]
    rfl
  have hp := pe_bm (T := "list") (name := "append") F.plainAttrs_list F.slot_list_append F.type_list_append (r := rAppend) mt_append (pe_var (pos := p) hN hv h1 h2) (pa_cons (pf ha) pa_nil (nst_star hs _ _)) rfl hfew hline (nst_star hs _ _) rfl
  refine (ps_expr (pos := pos) hp rfl).imp fun D σ H ⟨F, G, s, fl, rep, ee, q⟩ => ?_
  simp only [evS, Option.bind_eq_some_iff] at ee
  obtain ⟨x0, h0, ee⟩ := ee
  obtain ⟨ht, ee⟩ := ite_some ee
  simp only [Option.bind_eq_some_iff, Option.map_eq_some_iff] at ee
  obtain ⟨y, e1, s', e2, e3⟩ := ee
  subst e3
  obtain ⟨m, xs, es, hm, hz, rfl⟩ := appS_inv e2
  obtain ⟨v, ev, rd⟩ := slot_sig rep h0
  obtain ⟨m0, d0⟩ := x0
  cases d0 with
  | list ds =>
    obtain ⟨a0, xs0, rfl, sq0, _⟩ := rd.list rep.gh
    refine ⟨.ref a0, ev, .inl ⟨rfl, xs0, sq0⟩, F, G, s, y.1, y.2, rep, e1, fun w H1 G1 sm1 r1 d1 => ?_⟩
    obtain ⟨a, ea, f, g, vs, hh, dl⟩ := r1.ow i _ es (isOw_of hm)
    rw [ev] at ea
    cases ea
    refine ⟨a0, vs, w, rfl, rfl, hh, by rw [dl.length]; omega, ?_⟩
    refine q σ _ G1 sm1 (.refl _ _) (r1.wr es (isOw_of hm) ev ⟨vs ++ [w], upd_same, dl.append (.cons d1 .nil)⟩)
  | _ => cases ht
/-! ### x[k] = e -/
theorem sub_asg {o i : Expr} (h : nst i = true) (env : Env) (pos : Pos) (v : Value) : assign (.Subscript o i pos) env v = (do
      let ov ← holding [v] (eval o env)
      let iv ← holding [v, ov] (eval i env)
      standAt pos
      holding [v, ov, iv] (setItem ov iv v)
      release [v, ov, iv] []) := by
  cases i <;> first | rfl | cases h
theorem sole_sub {o i e : Expr} {pos : Pos} {n : Nat} {env : Env} : swapsWithSole [.Subscript o i pos] e n env = pure false := by cases e <;> rfl
theorem swap_sub {o i e : Expr} {pos : Pos} {env : Env} : swappedStores [.Subscript o i pos] e env = pure none := by cases e <;> rfl
theorem st_seti {i : Nat} {k e : CE} {x : Str} {l r : Expr} {p tpos pos : Pos} (hu : X.A.units + 1 < cLine) (hN : X.N[i]? = some x) (hv : Vis X.env.scope x) (h1 : (x == ("__debug__" : Str)) = false) (h2 : (x == ("__classdict__" : Str)) = false) (hk : PE X l (TDE X.K (evE cf k))) (ha : PE X r (TDE X.K (evE cf e))) (hs : nst l = true) :
    PS X (.Assign [.Subscript (.Name x p) l tpos] r pos) (TDS X.K W (evS cf (.seti i k e))) := by
  refine (ps_asg (pf ha) (pg_sub (pe_var hN hv h1 h2) (pf hk) (PSet.or set_list (set_dict hu)) (sub_asg hs _ _)) sole_sub swap_sub rfl).imp fun D σ H ⟨F, G, s, fl, rep, ee, q⟩ => ?_
  simp only [evS, Option.bind_eq_some_iff, Option.map_eq_some_iff] at ee
  obtain ⟨y, e1, y0, hy0, z, e1', s', e2, e3⟩ := ee
  subst e3
  obtain ⟨m, d, d', es, hm, hsd, rfl⟩ := setiS_inv e2
  refine ⟨F, G, s, y.1, y.2, rep, e1, fun w H1 G1 sm1 r1 d1 => ?_⟩
  obtain ⟨⟨zm, zd⟩, zs⟩ := z
  have es : slot zs i = some ⟨m, d⟩ := es
  obtain ⟨v, ev, _⟩ := slot_sig r1 hy0
  refine ⟨v, ev, F, G1, y.2, _, _, r1, e1', fun u H2 G2 sm2 r2 d2 => ?_⟩
  obtain ⟨a, ea, f, g, c⟩ := r2.ow i _ es (isOw_of hm)
  rw [ev] at ea
  cases ea
  have dw := d1.mono sm2
  cases d with
  | list ds =>
    cases zd with
    | int j =>
      simp only [setD, Option.map_eq_some_iff] at hsd
      obtain ⟨n, hn, rfl⟩ := hsd
      obtain ⟨vs, hh, dl⟩ := c
      refine .inl ⟨a, vs, j, n, rfl, d2.isInt, hh, by rw [dl.length]; exact hn, ?_⟩
      exact q σ _ G2 (sm1.trans sm2) (.refl _ _) (r2.wr es (isOw_of hm) ev ⟨_, upd_same, dl.set dw n⟩)
    | _ => cases hsd
  | dict kvs =>
    cases zd with
    | str t =>
      obtain ⟨hl, hsd⟩ := ite_some hsd
      cases hsd
      obtain ⟨ks, hh, dl⟩ := c
      cases d2
      refine .inr ⟨a, _, rfl, DPut.k (k := Sum.inr t) hh (by rw [dl.length, sizeLine_eq]; omega), ?_⟩
      exact q σ _ G2 (sm1.trans sm2) (.refl _ _) (r2.wr es (isOw_of hm) ev ⟨_, upd_same, denK_put dw dl⟩)
    | _ => cases hsd
  | _ => cases hsd
/-! ### for -/
def forF (cf : CF) (p : Pt) (b : CSs) : D → LS → Option Fl := fun x s1 => (bindP s1 p x).bind fun s2 => evSs cf b s2
theorem forF_keep {p : Pt} {b : CSs} {x : D} {s : LS} {r : Fl} (h : forF cf p b x s = some r) : Keep s r.st := by
  simp only [forF, Option.bind_eq_some_iff] at h
  obtain ⟨s2, h1, h2⟩ := h
  exact (bindP_keep h1).trans (evSs_keep b _ _ h2)
/-- an item that has come -/
theorem yld_rep {K : PySem.W.Frag} {F G H Gj H' : Hp} {s : LS} {σ : St} {x : V} {d : D} (r : Rep K F G s σ H) (sm : Same Gj G) (y : YD K Gj H x H' d) : ∃ G', Same G G' ∧ Rep K F G' s σ H' ∧ Den K G' x d := by
  rcases y with ⟨rfl, h⟩ | ⟨T, xs, es, rfl, n, rfl, rfl, l⟩
  · exact ⟨G, Same.refl _, r, h.mono sm⟩
  · have sg := same_upd (o := HO.tup xs) (r.gh.free n)
    exact ⟨upd G T (.tup xs), sg, r.newG n, .tup upd_same ((l.mono sm).mono sg)⟩
theorem Pin.lock {s : LS} {σ σ' : St} (p : Pin s σ σ') : ∀ j x, slot s j = some x → x.m.isLock = true → σ'[j]? = σ[j]? := fun j x h m => p j x h (by unfold Md.pin; rw [m]; rfl)
theorem for_core {p : Pt} {it : CI} {b : CSs} : ∀ D σ H, TDS X.K W (evS cf (.for_ p it b)) D σ H → tFor (TDI X.K (evI cf it)) (gPt X.K p) (TDS X.K W (evSs cf b)) D σ H := by
  rintro D σ H ⟨F, G, s, fl, rep, ee, q⟩
  simp only [evS, Option.bind_eq_some_iff, Option.map_eq_some_iff] at ee
  obtain ⟨⟨ds, o, s0⟩, e1, fl0, e2, e3⟩ := ee
  subst e3
  have e2 : forL (forF cf p b) ds s0 = some fl0 := e2
  obtain ⟨sx, kx, lx⟩ := evI_keep cf it s ds o s0 e1
  refine ⟨F, G, s, ds, o, s0, rep, e1, fun J H1 G1 F1 s1 sm1 r1 lf r1' wd => ?_⟩
  -- behind the walk
  have pinS : ∀ {σn : St}, Pin s0 σ σn → Pin s σ σn := fun {σn} pn => Pin.of kx (locked_pin lx pn)
  have out : ∀ {σn : St} {Hn Gn : Hp} {sn : LS}, Same G1 Gn → Keep s0 sn → Pin s0 σ σn → Rep X.K F1 Gn sn σn Hn → Rep X.K F Gn (unlock sn o) σn Hn := fun {σn Hn Gn sn} sm k pn r => lf.back r1 k pn.lock sm r
  refine for_it wd (fun i σi Hi => ∃ (Gi : Hp) (si : LS), Same G1 Gi ∧ Keep s0 si ∧ Pin s0 σ σi ∧ Rep X.K F1 Gi si σi Hi ∧ forL (forF cf p b) (ds.drop i) si = some fl0) ?_ ?_ ?_ ?_
  · exact ⟨G1, s0, Same.refl _, .refl _, .refl _ _, r1', by rw [List.drop_zero]; exact e2⟩
  · rintro i σi Hi hi ⟨Gi, si, sm, _, _, ri, _⟩
    exact ⟨sm.trans ri.gh, ri.fh⟩
  · rintro i x σi Hi H' hi ⟨Gi, si, sm, ki, pi, ri, ei⟩ ⟨d, hds, y⟩
    obtain ⟨Gj, smj, rj, dj⟩ := yld_rep ri sm y
    have hl : i < ds.length := (List.getElem?_eq_some_iff.mp hds).1
    have ed : ds[i] = d := (List.getElem?_eq_some_iff.mp hds).2
    rw [List.drop_eq_getElem_cons hl, ed] at ei
    simp only [forL, Option.bind_eq_some_iff] at ei
    obtain ⟨f1, ef, ei⟩ := ei
    have kf := forF_keep ef
    simp only [forF, Option.bind_eq_some_iff] at ef
    obtain ⟨s2, h1, h2⟩ := ef
    refine bind_ok rj dj h1 fun σ2 r2 off tch => ?_
    have p2 : Pin si σi σ2 := fun j z hz mz => off.2 j (tch j z hz (fun w => by rw [w] at mz; cases mz) (fun w => by rw [w] at mz; cases mz))
    have k2 := bindP_keep h1
    refine ⟨F1, Gj, s2, f1, r2, h2, ?_⟩
    have pp : ∀ {σ3 : St}, Pin s2 σ2 σ3 → Pin s0 σ σ3 := fun {σ3} p3 => (pi.trans ki p2).trans (ki.trans k2) p3
    cases f1 with
    | nx s3 => exact fun σ3 H3 G3 sm3 p3 r3 => ⟨G3, s3, sm.trans (smj.trans sm3), ki.trans kf, pp p3, r3, ei⟩
    | ct s3 => exact fun σ3 H3 G3 sm3 p3 r3 => ⟨G3, s3, sm.trans (smj.trans sm3), ki.trans kf, pp p3, r3, ei⟩
    | bk s3 =>
      cases ei
      exact fun σ3 H3 G3 sm3 p3 r3 => q σ3 H3 G3 (sm1.trans (sm.trans (smj.trans sm3))) (pinS (pp p3)) (out (sm.trans (smj.trans sm3)) (ki.trans kf) (pp p3) r3)
    | ex x s3 =>
      cases ei
      exact fun cls dd σ3 H3 G3 sm3 p3 r3 er => q cls dd σ3 H3 G3 (sm1.trans (sm.trans (smj.trans sm3))) (pinS (pp p3)) (out (sm.trans (smj.trans sm3)) (ki.trans kf) (pp p3) r3) er
    | rt v s3 =>
      cases ei
      refine fun w σ3 H3 G3 sm3 p3 r3 rv => q w σ3 H3 G3 (sm1.trans (sm.trans (smj.trans sm3))) (pinS (pp p3)) (out (sm.trans (smj.trans sm3)) (ki.trans kf) (pp p3) r3) ?_
      obtain ⟨m, dd⟩ := v
      cases m with
      | fz => exact rv
      | ow =>
        obtain ⟨p0, ep, f, g, c, no⟩ := rv
        exact ⟨p0, ep, lf.sub _ f, g, c, lf.noOwn' (ki.trans kf) (pp p3).lock no f⟩
      | _ => exact rv.elim
  · rintro σn Hn ⟨Gn, sn, sm, kn, pn, rn, en⟩
    rw [List.drop_length] at en
    cases en
    exact q σn Hn Gn (sm1.trans sm) (pinS pn) (out sm kn pn rn)
theorem st_for {p : Pt} {it : CI} {b : CSs} {tg iter : Expr} {body : List Stmt} {pos : Pos} (hp : PassesOwn (model X.prog X.w) X.A X.env X.xe) (hc : X.calm = true) (hi : PI X tg iter (TDI X.K (evI cf it))) (hg : PG X tg (gPt X.K p)) (hb : PSs X body (TDS X.K W (evSs cf b))) (hs : nst iter = true) : PS X (.For tg iter body [] pos) (TDS X.K W (evS cf (.for_ p it b))) :=
  (ps_for hp hc hi hg hb (fun v => fold_nst hs _ v)).imp for_core
/-! ### while -/
theorem while_core {c : CE} {b : CSs} : ∀ D σ H, TDS X.K W (evS cf (.whl c b)) D σ H → tWhile (TDB X.K fun s => tst (evE cf c s)) (TDS X.K W (evSs cf b)) D σ H := by
  rintro D σ H ⟨F, G, s, fl, rep, ee, q⟩
  simp only [evS] at ee
  refine ⟨fun m σi Hi => ∃ (Gi : Hp) (si : LS), Same G Gi ∧ Keep s si ∧ Pin s σ σi ∧ Rep X.K F Gi si σi Hi ∧ whL (fun s => tst (evE cf c s)) (fun s => evSs cf b s) m si = some fl, ⟨WF, G, s, Same.refl _, .refl _, .refl _ _, rep, ee⟩, ?_⟩
  rintro m σi Hi ⟨Gi, si, sm, ki, pi, ri, ei⟩
  cases m with
  | zero => cases ei
  | succ n =>
    simp only [whL, Option.bind_eq_some_iff] at ei
    obtain ⟨⟨k, s1⟩, e1, e2⟩ := ei
    have k1 := tst_keep e1 fun y s2 e => evE_keep cf c si y s2 e
    refine ⟨F, Gi, si, k, s1, ri, e1, fun H1 G1 sm1 r1 => ?_⟩
    cases k with
    | false =>
      cases e2
      exact q σi H1 G1 (sm.trans sm1) pi r1
    | true =>
      simp only [Option.bind_eq_some_iff] at e2
      obtain ⟨f1, e3, e4⟩ := e2
      have kf := evSs_keep b s1 f1 e3
      have kk := (ki.trans k1).trans kf
      have pp : ∀ {σ3 : St}, Pin s1 σi σ3 → Pin s σ σ3 := fun {σ3} p3 => pi.trans (ki.trans k1) p3
      refine ⟨fun σ' H' => ∃ (Gi : Hp) (si : LS), Same G Gi ∧ Keep s si ∧ Pin s σ σ' ∧ Rep X.K F Gi si σ' H' ∧ whL (fun s => tst (evE cf c s)) (fun s => evSs cf b s) n si = some fl, fun σ' H' w => ⟨n, Nat.lt_succ_self n, w⟩, F, G1, s1, f1, r1, e3, ?_⟩
      cases f1 with
      | nx s3 => exact fun σ3 H3 G3 sm3 p3 r3 => ⟨G3, s3, sm.trans (sm1.trans sm3), kk, pp p3, r3, e4⟩
      | ct s3 => exact fun σ3 H3 G3 sm3 p3 r3 => ⟨G3, s3, sm.trans (sm1.trans sm3), kk, pp p3, r3, e4⟩
      | bk s3 =>
        cases e4
        exact fun σ3 H3 G3 sm3 p3 r3 => q σ3 H3 G3 (sm.trans (sm1.trans sm3)) (pp p3) r3
      | ex x s3 =>
        cases e4
        exact fun cls dd σ3 H3 G3 sm3 p3 r3 er => q cls dd σ3 H3 G3 (sm.trans (sm1.trans sm3)) (pp p3) r3 er
      | rt v s3 =>
        cases e4
        exact fun w σ3 H3 G3 sm3 p3 r3 rv => q w σ3 H3 G3 (sm.trans (sm1.trans sm3)) (pp p3) r3 rv
theorem st_whl {c : CE} {b : CSs} {l : Expr} {body : List Stmt} {pos : Pos} (hp : PassesOwn (model X.prog X.w) X.A X.env X.xe) (hc : PT X l (TDB X.K fun s => tst (evE cf c s))) (hb : PSs X body (TDS X.K W (evSs cf b))) : PS X (.While l body [] pos) (TDS X.K W (evS cf (.whl c b))) :=
  (ps_while hp hc hb).imp while_core
end
end LP

end
section
set_option Elab.async false
set_option linter.all false
set_option maxRecDepth 100000
set_option maxHeartbeats 4000000
/-! LX5: statements that raise. -/
namespace LP
open PySem PySem.Spec L2
open PyProof.Rows hiding St
variable [Zk]
/-- a statement whose own expression raises -/
def TXS (K : PySem.W.Frag) (W : WX) (ev : LS → Option (D × LS)) : TS := fun _ σ H => ∃ F G s x s', Rep K F G s σ H ∧ ev s = some (x, s') ∧ ∀ cls dd H' G', Same G G' → Rep K F G' s' σ H' → ExR K G' cls dd x → W cls dd σ H'
def TXT (K : PySem.W.Frag) (W : WX) (ev : LS → Option (D × LS)) : TT := fun σ H _ => ∃ F G s x s', Rep K F G s σ H ∧ ev s = some (x, s') ∧ ∀ cls dd H' G', Same G G' → Rep K F G' s' σ H' → ExR K G' cls dd x → W cls dd σ H'
section
variable {X : Cx} {cf : CF} {cc : CC} {W : WX}
theorem TXS.never {st : Stmt} {t : TS} (h : PS X st t) : PS X st (TXS X.K W fun _ => none) := h.imp fun D σ H ⟨F, G, s, x, s', rep, ee, q⟩ => by cases ee
theorem st_rx {c : CS} {st : Stmt} (h : PS X st (TDS X.K W (evS cf c))) (hx : PS X st (TXS X.K W (xS cf c))) : PS X st (TDS X.K W (evS cf (.rx c))) := by
  refine ⟨fun pins s σ H D I ⟨F, G, s0, fl, rep, e, q⟩ => ?_⟩
  simp only [evS] at e
  split at e
  · rename_i x s1 e1
    cases e
    exact hx.run pins s σ H D I ⟨F, G, s0, x, s1, rep, e1, fun cls dd H' G' sm r er => q cls dd σ H' G' sm (.refl _ _) r er⟩
  · exact h.run pins s σ H D I ⟨F, G, s0, fl, rep, e, q⟩
/-- C(e) to be raised -/
theorem pmk_x {k : Nat} {x : Str} {as : CEs} {ls : List Expr} {p pos : Pos} (hx : XcA X.prog X.K X.mg) (hk : k ∈ Zk.xs) (hn : (exTab[k]?).map (·.1) = some x) (hr : Room 1 X.A) (hg : Gl X x) (hdb : (x == ("__debug__" : Str)) = false)
    (ha : PA X ls (TDL X.K (evEs cf as))) (hl : (ls = [] ∧ as = .nil) ∨ ∃ e, ls = [e] ∧ nst e = true) : PMk X (.Call (.Name x p) ls [] pos) (fun σ H Q => ∃ F G s y s', Rep X.K F G s σ H ∧ ((evEs cf as s).bind fun r => (mkX k r.1).map fun z => (z, r.2)) = some (y, s') ∧
      ∀ cls dd H' G', Same G G' → Rep X.K F G' s' σ H' → ExR X.K G' cls dd y → Q cls dd H') := by
  intro pins s σ H Q I ⟨F, G, s0, y, s', rep, ev, q⟩
  simp only [Option.bind_eq_some_iff, Option.map_eq_some_iff] at ev
  obtain ⟨r, e1, d, e2, e3⟩ := ev
  cases e3
  obtain ⟨fo, hfo⟩ : ∃ fo, exTab[k]? = some (x, fo) := by
    cases z : exTab[k]? with
    | none => rw [z] at hn; cases hn
    | some p => rw [z] at hn; cases hn; exact ⟨_, rfl⟩
  have T := hx k hk x fo hfo
  refine wpAny_Call_Name_kw (ld_glob I hg T.gl ?_ hdb)
  have fin : ∀ us z, AP X pins σ (fun xs H1 => ∃ G1, Same G G1 ∧ Rep X.K F G1 r.2 σ H1 ∧ DenL X.K G1 xs r.1) us z → wpAny (model X.prog X.w) X.A (call (.ref (He.ga X.K x)) us) (MkP X pins σ Q) X.xe z := by
    rintro us z ⟨vs, H1, I1, rv, G1, sm1, r1, d1⟩
    rcases mkX_inv e2 with ⟨m, f, d0, et, ed, rfl⟩ | ⟨m, et, ed, rfl⟩
    · rw [hfo] at et
      cases et
      rw [ed] at d1
      match d1, rv with
      | .cons (v := vv) dv .nil, .cons rv1 .nil =>
        refine mk_air T I1 hr rv1 fun dx hnd => ?_
        have g1 : G1 dx = none := r1.gh.free hnd
        exact q _ _ _ (upd G1 dx (.xd [(f, vv)])) (sm1.trans (same_upd g1)) (r1.newG hnd) ⟨k, d0, rfl, hk, .inl ⟨x, f, dx, vv, hfo, rfl, rfl, upd_same, dv.mono (same_upd g1)⟩⟩
    · rw [ed] at d1
      cases d1
      cases rv
      rw [hfo] at et
      cases et
      exact mk_air0 T I1 hr (q _ _ _ G1 sm1 r1 ⟨k, .none, rfl, hk, .inr ⟨x, hfo, rfl, rfl, rfl⟩⟩)
  have hrun := ha.run pos pins s σ H _ I ⟨F, G, s0, r.1, r.2, rep, e1, fun xs H1 G1 sm1 r1 d1 => (⟨G1, sm1, r1, d1⟩ : ∃ G1, Same G G1 ∧ Rep X.K F G1 r.2 σ H1 ∧ DenL X.K G1 xs r.1)⟩
  rcases hl with ⟨rfl, rfl⟩ | ⟨e, rfl, hs⟩
  · cases e1
    exact PySem.W.callWith_K0 I.kIn T.kC (fin [] s ⟨[], H, I, .nil, G, Same.refl _, rep, .nil⟩)
  · exact PySem.W.callWith_K (h₀ := X.base) I.ok.mod.kin T.kC (thn hrun fun us z hz => ⟨(by obtain ⟨vs, H1, I1, _⟩ := hz; exact I1.kIn), fin us z hz⟩) (nst_star hs _ _) (by rfl)
theorem st_rai {k : Nat} {x : Str} {as : CEs} {ls : List Expr} {p pos pos2 : Pos} (hc : X.calm = true) (tk : Takes X W) (hx : XcA X.prog X.K X.mg) (hk : k ∈ Zk.xs) (hn : (exTab[k]?).map (·.1) = some x) (hr : Room 1 X.A) (hg : Gl X x) (hdb : (x == ("__debug__" : Str)) = false)
    (ha : PA X ls (TDL X.K (evEs cf as))) (hl : (ls = [] ∧ as = .nil) ∨ ∃ e, ls = [e] ∧ nst e = true) : PS X (.Raise (some (.Call (.Name x p) ls [] pos)) none pos2) (TDS X.K W (evS cf (.rai k as))) := by
  refine (ps_raise hc tk (pmk_x hx hk hn hr hg hdb ha hl)).imp fun D σ H ⟨F, G, s, fl, rep, e, q⟩ => ?_
  simp only [evS, Option.bind_eq_some_iff, Option.map_eq_some_iff] at e
  obtain ⟨r, e1, y, e2, rfl⟩ := e
  exact ⟨F, G, s, y, r.2, rep, by simp only [e1, Option.bind_some, e2, Option.map_some], fun cls dd H' G' sm r' er => q cls dd σ H' G' sm (.refl _ _) r' er⟩
theorem app_x {i : Nat} {e : CE} {x : Str} {l : Expr} {p apos cpos pos : Pos} (hN : X.N[i]? = some x) (hv : Vis X.env.scope x) (h1 : (x == ("__debug__" : Str)) = false) (h2 : (x == ("__classdict__" : Str)) = false) (ha : PE X l (TXE X.K W (xE cf e))) (hs : nst l = true)
    (hline : (apos.endLine == cpos.line) = true) : PS X (.Expr (.Call (.Attribute (.Name x p) "append" apos) [l] [] cpos) pos) (TXS X.K W (xS cf (.app i e))) := by
  have hfew : ((backTo cpos (starEach [l] X.env)).all (fun x => !x.1) && (backToKw cpos (keywordEach [] X.env)).all (fun x => x.1.isSome) && decide (([l] : List Expr).length + ([] : List Keyword).length + (if ([] : List Keyword).isEmpty then 0 else 1) < 30)) = true := by
    rw [nst_star hs]
    rfl
  have hp := pe_bm (T := "list") (name := "append") F.plainAttrs_list F.slot_list_append F.type_list_append (r := rAppend) mt_append (pe_var (pos := p) hN hv h1 h2) (pa_cons ha pa_nil (nst_star hs _ _)) rfl hfew hline (nst_star hs _ _) rfl
  refine (ps_expr (pos := pos) hp rfl).imp fun D σ H ⟨F, G, s, y, s', rep, ee, q⟩ => ?_
  simp only [xS, Option.bind_eq_some_iff] at ee
  obtain ⟨x0, h0, ee⟩ := ee
  obtain ⟨ht, ee⟩ := ite_some ee
  obtain ⟨v, ev, rd⟩ := slot_sig rep h0
  obtain ⟨m0, d0⟩ := x0
  cases d0 with
  | list ds =>
    obtain ⟨a0, xs0, rfl, sq0, _⟩ := rd.list rep.gh
    exact ⟨.ref a0, ev, .inl ⟨rfl, xs0, sq0⟩, F, G, s, y, s', rep, ee, q⟩
  | _ => cases ht
end
end LP

end
section
set_option Elab.async false
set_option linter.all false
set_option maxRecDepth 100000
set_option maxHeartbeats 4000000
/-! LX7: try .. except T as e, where the exception may be kept. -/
namespace LP
open PySem PySem.Spec L2
open PyProof.Rows hiding St
variable [Zk]
/-- the classes that a clause names are looked up, the exception is held against them -/
def HTest (X : Cx) (t : Expr) (cs : List Str) : Prop := ∀ (a : Addr) (oe : Obj) (pn : List (Addr × Obj)) (σ : St) (H : Hp) (s : Shared) (cls : Value) (b : Bool) (Q : Bool → Shared → Prop) (E E' : Value → Shared → Prop),
  Inv (X.suite a ((a, oe) :: pn)) [] σ H s → oe.cls = cls → PySem.W.exmAny X.K cls (cs.map (clsV X.K)) = some b → (∀ h', (∀ b o, s.heap.get? b = some o → h'.get? b = some o) → Q b { s with heap := h' }) →
  wpAny (model X.prog X.w) (X.A.mark (some (.ref a))) (eval t X.env) (fun c s1 => wpAny (model X.prog X.w) (X.A.mark (some (.ref a))) (excMatches (.ref a) c) Q E s1) E' s
/-- a class by its name -/
def NamesC (X : Cx) (c : Str) : Prop := Gl X c ∧ (c == ("__debug__" : Str)) = false ∧ ((X.mg c = some (clsV X.K c)) ∨ (X.mg c = none ∧ bootBuiltins c = some (clsV X.K c) ∧ c ≠ "__name__"))
section
variable {X : Cx}
theorem ld_cls {A : Around} {xe : Value → Shared → Prop} {c : Str} {p : Pos} {pn : List (Addr × Obj)} {a : Addr} {pins : List (Addr × Obj)} {σ : St} {H : Hp} {s : Shared} {Q : Value → Shared → Prop} {E : Value → Shared → Prop} (hc : NamesC X c) (I : Inv (X.suite a pn) pins σ H s) (q : Q (clsV X.K c) s) :
    wpAny (model X.prog X.w) (X.A.mark (some (.ref a))) (eval (.Name c p) X.env) Q E s := by
  obtain ⟨hg, hd, hm | ⟨hm, hv, hn⟩⟩ := hc
  · exact ld_glob (X := X.suite a pn) I hg hm q hd
  · exact ld_blt (X := X.suite a pn) I hg hm hv q hn hd
theorem pinAt {a : Addr} {oe : Obj} {pn : List (Addr × Obj)} {σ : St} {H : Hp} {s : Shared} (I : Inv (X.suite a ((a, oe) :: pn)) [] σ H s) : s.heap.get? a = some oe ∧ H a = none := by
  have z := I.pin (a, oe) (List.mem_append_left _ List.mem_cons_self)
  exact ⟨z.1, z.2.1⟩
theorem test_name {c : Str} {p : Pos} (hc : NamesC X c) : HTest X (.Name c p) [c] := by
  intro a oe pn σ H s cls b Q E E' I hcl hx q
  obtain ⟨ha, _⟩ := pinAt I
  have LT : PySem.W.Looks (model X.prog X.w) s.heap (typeOf (.ref a)) cls := fun A Q E s k q => wpAny_typeOf_ref (k _ _ ha) (by rw [hcl]; exact q)
  obtain ⟨b1, d1, x1, y1, z1⟩ := PySem.W.exmAny_cons hx
  have y1 : some false = some d1 := y1
  cases y1
  rw [Bool.or_false] at z1
  subst z1
  exact ld_cls (A := X.A) (xe := X.xe) hc I ((PySem.W.exm_one I.kIn LT x1).here (q s.heap fun _ _ e => e))
theorem test_two {c1 c2 : Str} {p1 p2 p : Pos} {k : Nat} (h1 : NamesC X c1) (h2 : NamesC X c2) : HTest X (.Tuple [.Name c1 p1, .Name c2 p2] k p) [c1, c2] := by
  intro a oe pn σ H s cls b Q E E' I hcl hx q
  obtain ⟨ha, _⟩ := pinAt I
  refine wpAny_Tuple ?_
  show wpAny _ _ (spliced ((false, eval (.Name c1 p1) X.env) :: (false, eval (.Name c2 p2) X.env) :: [])) _ _ _
  refine Calls.spliced_cons (ld_cls (A := X.A) (xe := X.xe) h1 I (Calls.spliced_cons (ld_cls (A := X.A) (xe := X.xe) h2 I (Calls.spliced_nil ⟨by show 2 ≤ sizeLine; rw [sizeLine_eq]; omega, ?_⟩))))
  have kp : ∀ b o, s.heap.get? b = some o → (s.heap.push { cls := .type "tuple", data := .seq [clsV X.K c1, clsV X.K c2].toArray }).get? b = some o := fun b o e => Heap.get?_push_of_some _ e
  have LT : PySem.W.Looks (model X.prog X.w) (s.heap.push { cls := .type "tuple", data := .seq [clsV X.K c1, clsV X.K c2].toArray }) (typeOf (.ref a)) cls := fun A Q E s k q => wpAny_typeOf_ref (k _ _ (kp _ _ ha)) (by rw [hcl]; exact q)
  exact (PySem.W.exm_tup2 (I.kIn.keeps kp) LT (Heap.get?_push_size s.heap rfl) hx).here (q _ kp)
/-- more objects do not touch it -/
theorem flying_ext {B h h' : Heap} {l : List Env} {a : Addr} {Z : Obj → Prop} (x : HandSPX.FlyingZ B l a Z h) (k : ∀ b o, h.get? b = some o → h'.get? b = some o) : HandSPX.FlyingZ B l a Z h' := by
  obtain ⟨x1, x2, x3, oe, vs, T, oT, ts, y1, y2, y3, y4, y5, y6, y7, y8, y9⟩ := x
  exact ⟨fun b o e => k b o (x1 b o e), x2, Heap.FunFrames.of_keeps (fun b o e _ => ⟨o, k b o e, rfl⟩) x3, oe, vs, T, oT, ts, k _ _ y1, y2, y3, y4, y5, y6, k _ _ y7, y8, y9⟩
/-- the exception, from now on a thing of ours -/
theorem Inv.keepX {pins : List (Addr × Obj)} {σ : St} {H : Hp} {s : Shared} {a C : Addr} {d : Option Addr} {oe : Obj} {vs : Array Value} (I : Inv X pins σ H s) (h0 : X.s_0.heap.get? a = none) (ha : s.heap.get? a = some oe) (hn : H a = none) (hz : Zc (.ref C) d oe) (hd : oe.data = .fields vs) (nL : a ≠ X.env.locals) (nC : ∀ x c, X.env.cells.lookup x = some c → c ≠ a) (hp : ∀ p ∈ X.pn ++ pins, p.1 ≠ a) :
    Inv X pins σ (upd H a (ExA a C d)) s := by
  have neO : ∀ {b : Addr} {o : HO}, H b = some o → b ≠ a := fun e => ne_of_none e hn
  refine ⟨I.ok, I.os, I.bare, ⟨I.base.keep, I.base.slot, fun b o e n hx => ?_, I.base.there, fun b xs e => ?_, fun b o u e => ?_, fun b ps e => ?_⟩, I.loc, I.cell, ?_, fun x c e => ?_, fun p hq => ?_, fun b o e => ?_, I.len⟩
  · rw [upd_ne (fun z => by rw [z, h0] at e; cases e)]
    exact I.base.free b o e n hx
  · have q := I.base.tups b xs e
    rw [upd_ne (neO q)]; exact q
  · have q := I.base.frzs b o u e
    rw [upd_ne (neO q)]; exact q
  · obtain ⟨m, q⟩ := I.base.tbls b ps e
    exact ⟨m, by rw [upd_ne (neO q)]; exact q⟩
  · rw [upd_ne (Ne.symm nL)]; exact I.free
  · rw [upd_ne (nC x c e)]; exact I.freeC x c e
  · obtain ⟨z1, z2, z3⟩ := I.pin p hq
    exact ⟨z1, by rw [upd_ne (hp p hq)]; exact z2, z3⟩
  · by_cases hb : b = a
    · subst hb
      rw [upd_same] at e
      cases e
      exact ⟨⟨oe, vs, ha, hz.1, hz.2, hd⟩, ⟨oe, ha⟩, fun _ _ ⟨o, v, q, r⟩ k => ⟨o, v, k o q, r⟩⟩
    · rw [upd_ne hb] at e
      refine (I.hok b o e).stay (fun c v _ r => r) (fun c q => ?_) fun c xs q => ?_
      · rw [upd_ne (neO q)]; exact q
      · rw [upd_ne (neO q)]; exact q
/-- what is wished of the body's exception: i the clause's name -/
def wTry (K : PySem.W.Frag) (cs : List Str) (i : Nat) (ts : Addr → Value → Option Addr → TS) (D : Ends) : WX := fun cls d σ H =>
  PySem.W.exmAny K cls (cs.map (clsV K)) = some true ∧ ∀ a, H a = none → ts a cls d { nx := fun σ' H' => D.nx (σ'.set i none) H' ∨ ∃ C, cls = .ref C ∧ (H' a = none → D.nx (σ'.set i none) (upd H' a (ExA a C d))), rt := D.rt, bk := fun σ' H' => D.bk (σ'.set i none) H', ct := fun σ' H' => D.ct (σ'.set i none) H' } (σ.set i (some (.ref a))) H
theorem ps_tryA {t : Expr} {cs : List Str} {n : Str} {i : Nat} {body suite : List Stmt} {b₀ : Stmt} {pos pos' : Pos} {tb : WX → TS} {ts : Addr → Value → Option Addr → TS} (hs : X.stack = X.env :: X.outer) (hf : X.env.frame = some X.env.locals) (hex : X.ex = []) (hN : X.N.Nodup) (hi : X.N[i]? = some n) (hln : X.env.kindOf n = some .local) (ht : HTest X t cs)
    (hb : ∀ (W : WX) (pn : List (Addr × Obj)) (xe : Value → Shared → Prop), Takes (X.tr pn xe) W → PassesOwn (model X.prog X.w) X.A X.env xe → PSs (X.tr pn xe) body (tb W))
    (hsu : ∀ (a : Addr) (oe : Obj) (cls : Value) (d : Option Addr) (pn : List (Addr × Obj)), Zc cls d oe → (∃ vs, oe.data = .fields vs) → PSs (X.suite a ((a, oe) :: pn)) (b₀ :: suite) (ts a cls d)) :
    PS X (.Try body [.ExceptHandler (some t) (some n) (b₀ :: suite) pos'] [] [] pos) (fun D σ H => tb (wTry X.K cs i ts D) D σ H) := by
  refine ⟨fun pins s σ H D I h => ?_⟩
  have ok := I.ok
  have hfr : X.A.frames = some (X.env :: X.outer) := ok.frames.trans (by rw [hs])
  refine wpAny_Try_except (wpAny_mono ((hb (wTry X.K cs i ts D) (X.pn ++ pins) (fun e s1 => wpAny (model X.prog X.w) X.A (noteFrame e X.env) (fun _ s2 => wpAny (model X.prog X.w) X.A (setFlight e none) (fun _ s3 =>
    wpAny (model X.prog X.w) X.A (handleBy e X.env [.ExceptHandler (some t) (some n) (b₀ :: suite) pos']) (SP X pins D) X.xe s3) X.xe s2) X.xe s1) (fun u s' air => ?_) PassesOwn.looking).run [] s σ H D (I.toTry _) h) (fun fl s1 hsp => ?_) fun _ _ z => z)
  · obtain ⟨a, B, sI, pins', σ1, H1, cls, d, rfl, J0, nb, up, sky, na, os, ag, hm, hyes⟩ := air
    have J : Inv X pins σ1 H1 sI := J0.ofTry ok
    have skyE : Sky B (X.env :: X.outer) a (Zc cls d) X.env.locals s'.heap := hs ▸ sky
    show wpAny (model X.prog X.w) X.A (noteFrame (.ref a) X.env) _ _ _
    refine Sky.land Zc.steady hfr hf skyE fun h3 fl3 up3 => ?_
    have P3 : Inv X pins σ1 H1 { s' with heap := h3 } := J.landed nb fl3.1 (up.trans up3) os ag
    obtain ⟨ob3, vs3, w3, z3, y3⟩ := fl3.there
    have nfr : a ∉ frs (X.env :: X.outer) := fun hm => by
      obtain ⟨_, o', e', hnf⟩ := fl3.2.2.1.mem hm
      rw [w3] at e'
      cases e'
      exact hnf _ y3
    have noL : a ≠ X.env.locals := fun z => nfr (List.mem_filterMap.mpr ⟨X.env, List.mem_cons_self, by rw [hf, z]⟩)
    have noF : a ∉ X.fs := fun hm => by
      obtain ⟨e, he, q⟩ := List.mem_filterMap.mp hm
      exact nfr (List.mem_filterMap.mpr ⟨e, List.mem_cons_of_mem _ he, q⟩)
    -- it is none of the entry's objects
    have new0 : X.s_0.heap.get? a = none := by
      cases e : X.s_0.heap.get? a with
      | none => rfl
      | some o =>
        obtain ⟨o', e1⟩ := J.base.there a o e (by rw [hex]; simp)
        have z := nb a o' e1 (by rw [hs]; exact nfr)
        rw [fl3.2.1] at z
        cases z
    have U3 := P3.suite w3 y3 na noL noF
    refine wpAny_handleBy_cons (codeAny_handlers_test (ht a ob3 (X.pn ++ pins) σ1 H1 _ cls true _ _ _ U3 z3.1 hm fun h3' k3 => ?_)) (by intro q; cases q)
    have fl3' := flying_ext fl3 k3
    have up3' : s'.heap.UpToSlots h3' := up3.trans (Heap.UpToSlots.of_keeps k3)
    refine codeAny_handlers_suite_as (HandSPX.lands_againZ fl3' fun h4 fl4 up4 => ?_)
    have P4 : Inv X pins σ1 H1 { s' with heap := h4 } := J.landed nb fl4.1 ((up.trans up3').trans up4) os ag
    obtain ⟨ob4, vs4, w4, z4, y4⟩ := fl4.there
    have U4 := P4.suite w4 y4 na noL noF
    refine store_ok (X := X.suite a ((a, ob4) :: (X.pn ++ pins))) (v := .ref a) U4 hN hi (.inl hln) rfl (fun s5 U5 => ?_) (.inr hln)
    refine wpAny_mono ((hsu a ob4 cls d (X.pn ++ pins) z4 ⟨_, y4⟩).run [] s5 _ H1 _ U5 (hyes a na)) (fun fl s6 hsp => ?_) fun _ _ z => z.elim
    have fin : ∀ {σq : St} {Hq : Hp} {Q : Shared → Prop}, Inv (X.suite a ((a, ob4) :: (X.pn ++ pins))) [] σq Hq s6 → (∀ s7, Inv X pins (σq.set i none) Hq s7 → s7.heap.get? a = some ob4 → Q s7) →
        wpAny (model X.prog X.w) X.A (do bindName X.env n .none; unbindBehindTheSuite X.env n pos') (fun _ s7 => Q s7) X.xe s6 := fun {σq Hq Q} U6 hq => by
      have U6' : Inv (X.tr ((a, ob4) :: (X.pn ++ pins)) X.xe) [] σq Hq s6 := ⟨ok.toTry _ _, U6.os, U6.bare, U6.base, U6.loc, U6.cell, U6.free, U6.freeC, U6.pin, U6.hok, U6.len⟩
      refine gone_ok (X := X.tr ((a, ob4) :: (X.pn ++ pins)) X.xe) U6' hN hi hln fun s7 P7 => ?_
      have z := P7.pin (a, ob4) (List.mem_append_left _ List.mem_cons_self)
      exact hq s7 ⟨ok, P7.os, P7.bare, P7.base, P7.loc, P7.cell, P7.free, P7.freeC, fun p hp => P7.pin p (List.mem_append_left _ (List.mem_cons_of_mem _ hp)), P7.hok, P7.len⟩ z.1
    cases fl with
    | next =>
      obtain ⟨σq, Hq, U6, qq⟩ := hsp
      obtain ⟨_, hn6⟩ := pinAt U6
      rcases qq with qq | ⟨C, rfl, qq⟩
      · exact fin U6 fun s7 P7 _ => ⟨_, _, P7, qq⟩
      · refine fin U6 fun s7 P7 z7 => ⟨_, _, Inv.keepX P7 new0 z7 hn6 z4 y4 noL (fun x c e z => ?_) (fun p hp z => ?_), qq hn6⟩
        · obtain ⟨v, o, ho, hdc⟩ := P7.cell x c e
          rw [z, z7] at ho
          cases ho
          rw [y4] at hdc
          cases hdc
        · have e1 := (J.pin p hp).1
          rw [z] at e1
          have z2 := nb a _ e1 (by rw [hs]; exact nfr)
          rw [fl3.2.1] at z2
          cases z2
    | brk =>
      obtain ⟨σq, Hq, U6, qq⟩ := hsp
      exact fin U6 fun s7 P7 _ => ⟨_, _, P7, qq⟩
    | cont =>
      obtain ⟨σq, Hq, U6, qq⟩ := hsp
      exact fin U6 fun s7 P7 _ => ⟨_, _, P7, qq⟩
    | ret u =>
      obtain ⟨vq, σq, Hq, U6, rq, qq⟩ := hsp
      exact fin U6 fun s7 P7 _ => ⟨_, _, _, P7, rq, qq⟩
  · cases fl with
    | next =>
      obtain ⟨σe, Hh, Je, q⟩ := hsp
      exact wpAny_execs_nil ⟨σe, Hh, Je.ofTry ok, q⟩
    | brk =>
      obtain ⟨σe, Hh, Je, q⟩ := hsp
      exact ⟨σe, Hh, Je.ofTry ok, q⟩
    | cont =>
      obtain ⟨σe, Hh, Je, q⟩ := hsp
      exact ⟨σe, Hh, Je.ofTry ok, q⟩
    | ret u =>
      obtain ⟨v, σe, Hh, Je, r, q⟩ := hsp
      exact ⟨v, σe, Hh, Je.ofTry ok, r, q⟩
end
end LP

end
section
set_option Elab.async false
set_option linter.all false
set_option maxRecDepth 100000
set_option maxHeartbeats 4000000
/-! LX8: except suites. -/
namespace LP
open PySem PySem.Spec L2
open PyProof.Rows hiding St
variable [Zk]
section
variable {X : Cx} {cf : CF} {cc : CC} {W : WX}
/-- a slot that is not told may hold anything -/
theorem Rep.setσ {K : PySem.W.Frag} {F G H : Hp} {s : LS} {σ : St} {n : Nat} {v : Option V} (r : Rep K F G s σ H) (hn : slot s n = none) : Rep K F G s (σ.set n v) H := by
  have ne : ∀ {i : Nat} {x : SV}, slot s i = some x → (σ.set n v)[i]? = σ[i]? := fun {i x} e => by
    rw [List.getElem?_set, if_neg]
    rintro rfl
    rw [hn] at e
    cases e
  refine ⟨r.fh, r.gh, r.fg, by rw [List.length_set]; exact r.len, fun i x e m => ?_, fun i x e m => ?_, fun i x e m => ?_, fun i j x y a e1 e2 m1 m2 q1 q2 => ?_, r.tb⟩
  · rw [ne e]; exact r.fz i x e m
  · rw [ne e]; exact r.ow i x e m
  · rw [ne e]; exact r.lk i x e m
  · rw [ne e1] at q1
    rw [ne e2] at q2
    exact r.inj i j x y a e1 e2 m1 m2 q1 q2
/-- what an except suite reads of the exception -/
def TUA (K : PySem.W.Frag) (cls : Value) (d : Option Addr) (u : UA) : TE := fun σ H Q => ∃ F G s x dd, Rep K F G s σ H ∧ ExR K G cls d x ∧ uaD x u = some dd ∧ ∀ v, Den K G v dd → Q v H
def okUA (e : Option Str) : UA → Expr → Bool
  | .non, .Constant .none _ _ => true
  | .bl b, .Constant (.bool c) _ _ => decide (b = c)
  | .str x, .Constant (.str y) _ _ => decide (x = y)
  | .fld f, .Attribute (.Name n _) g _ => decide (g = f) && decide (e = some n)
  | _, _ => false
/-- the name e stands in slot n -/
structure NmAt (X : Cx) (e : Str) (n : Nat) : Prop where
  ix : X.N[n]? = some e
  vis : Vis X.env.scope e
  d1 : (e == ("__debug__" : Str)) = false
  d2 : (e == ("__classdict__" : Str)) = false
/-- .. and holds the exception -/
def TUX (K : PySem.W.Frag) (a : Addr) (n : Option Nat) (cls : Value) (d : Option Addr) (u : UA) : TE := fun σ H Q => (∀ i, n = some i → σ[i]? = some (some (.ref a))) ∧ TUA K cls d u σ H Q
theorem pe_ua {a : Addr} {oe : Obj} {pn : List (Addr × Obj)} {cls : Value} {d : Option Addr} {e : Option Str} {n : Option Nat} {u : UA} {l : Expr} (hx : XcA X.prog X.K X.mg) (hz : Zc cls d oe) (hf : ∃ vs, oe.data = .fields vs) (hn : ∀ y, e = some y → ∃ i, n = some i ∧ NmAt X y i) (hu : okUA e u l = true) :
    PE (X.suite a ((a, oe) :: pn)) l (TUX X.K a n cls d u) ∧ nst l = true := by
  cases u with
  | non =>
    cases l with
    | Constant c j p =>
      cases c with
      | none => exact ⟨pe_non.imp fun σ H Q ⟨_, F, G, s, x, dd, rep, er, eu, q⟩ => by cases eu; exact q _ .non, rfl⟩
      | _ => cases hu
    | _ => cases hu
  | bl b =>
    cases l with
    | Constant c j p =>
      cases c with
      | bool c =>
        have e1 : b = c := of_decide_eq_true hu
        subst e1
        exact ⟨pe_bl.imp fun σ H Q ⟨_, F, G, s, x, dd, rep, er, eu, q⟩ => by cases eu; exact q _ (.bl _), rfl⟩
      | _ => cases hu
    | _ => cases hu
  | str t =>
    cases l with
    | Constant c j p =>
      cases c with
      | str c =>
        have e1 : t = c := of_decide_eq_true hu
        subst e1
        exact ⟨pe_str.imp fun σ H Q ⟨_, F, G, s, x, dd, rep, er, eu, q⟩ => by cases eu; exact q _ (.str _), rfl⟩
      | _ => cases hu
    | _ => cases hu
  | fld f =>
    cases l with
    | Attribute o g p =>
      cases o with
      | Name y py =>
        simp only [okUA, Bool.and_eq_true, decide_eq_true_eq] at hu
        obtain ⟨e1, e2⟩ := hu
        subst e1
        obtain ⟨i, hi, nm⟩ := hn y e2
        refine ⟨⟨fun pins s σ H Q I ⟨hσ, F, G, s0, x, dd, rep, er, eu, q⟩ => ?_⟩, rfl⟩
        obtain ⟨k, d0, rfl, hk, er⟩ := er
        simp only [uaD, fldOf, Option.bind_eq_some_iff] at eu
        obtain ⟨⟨k', d'⟩, e3, e4⟩ := eu
        have e3 : some (k, d0) = some (k', d') := e3
        cases e3
        rcases er with ⟨m, f, dx, v, h1, h2, h3, h4, h5⟩ | ⟨m, h1, _⟩
        · simp only [h1] at e4
          obtain ⟨hg, e4⟩ := ite_some e4
          cases e4
          subst hg
          have T := hx k hk m _ h1
          exact (pe_xf (X := X) (a := a) (C := He.ga X.K m) T.xf (T.no f rfl) hz hf (pe_var (X := X.suite a ((a, oe) :: pn)) nm.ix nm.vis nm.d1 nm.d2)).run pins s σ H Q I ⟨.ref a, hσ i hi, rfl, h2, dx, [(f, v)], v, h3, rep.gh _ _ h4, by simp, q v h5⟩
        · simp only [h1] at e4
          cases e4
      | _ => cases hu
    | _ => cases hu
def okUAs (e : Option Str) : List UA → List Expr → Bool
  | [], [] => true
  | u :: us, l :: ls => okUA e u l && okUAs e us ls
  | _, _ => false
def TUL (K : PySem.W.Frag) (a : Addr) (n : Option Nat) (cls : Value) (d : Option Addr) (us : List UA) : TA := fun σ H Q => (∀ i, n = some i → σ[i]? = some (some (.ref a))) ∧ ∃ F G s x ds, Rep K F G s σ H ∧ ExR K G cls d x ∧ uaDs x us = some ds ∧ ∀ vs, DenL K G vs ds → Q vs H
theorem pa_ua {a : Addr} {oe : Obj} {pn : List (Addr × Obj)} {cls : Value} {d : Option Addr} {e : Option Str} {n : Option Nat} (hx : XcA X.prog X.K X.mg) (hz : Zc cls d oe) (hf : ∃ vs, oe.data = .fields vs) (hn : ∀ y, e = some y → ∃ i, n = some i ∧ NmAt X y i) :
    ∀ {us : List UA} {ls : List Expr}, okUAs e us ls = true → PA (X.suite a ((a, oe) :: pn)) ls (TUL X.K a n cls d us)
  | [], [], _ => pa_nil.imp fun σ H Q ⟨_, F, G, s, x, ds, rep, er, eu, q⟩ => by cases eu; exact q [] .nil
  | u :: us, l :: ls, h => by
    simp only [okUAs, Bool.and_eq_true] at h
    obtain ⟨h1, h2⟩ := pe_ua (pn := pn) hx hz hf hn h.1
    refine (pa_cons h1 (pa_ua hx hz hf hn h.2) (nst_star h2 _ _)).imp fun σ H Q ⟨hσ, F, G, s, x, ds, rep, er, eu, q⟩ => ?_
    simp only [uaDs, Option.bind_eq_some_iff, Option.map_eq_some_iff] at eu
    obtain ⟨dd, e1, ds', e2, rfl⟩ := eu
    exact ⟨hσ, F, G, s, x, dd, rep, er, e1, fun v hv => ⟨hσ, F, G, s, x, ds', rep, er, e2, fun vs hvs => q _ (.cons hv hvs)⟩⟩
  | [], _ :: _, h => by cases h
  | _ :: _, [], h => by cases h
def okUE (e : Option Str) : UE → Expr → Bool
  | .a u, l => okUA e u l
  | .l us, .List ls _ => okUAs e us ls
  | _, _ => false
def TUV (K : PySem.W.Frag) (a : Addr) (n : Option Nat) (cls : Value) (d : Option Addr) (u : UE) : TE := fun σ H Q => (∀ i, n = some i → σ[i]? = some (some (.ref a))) ∧ ∃ F G s x v, Rep K F G s σ H ∧ ExR K G cls d x ∧ ueV x u = some v ∧ Post K F G s σ v Q
theorem uaDs_len {x : D} : ∀ {us : List UA} {ds : List D}, uaDs x us = some ds → ds.length = us.length
  | [], ds, h => by cases h; rfl
  | u :: us, ds, h => by
    simp only [uaDs, Option.bind_eq_some_iff, Option.map_eq_some_iff] at h
    obtain ⟨dd, e1, ds', e2, rfl⟩ := h
    rw [List.length_cons, List.length_cons, uaDs_len e2]
theorem pe_ue {a : Addr} {oe : Obj} {pn : List (Addr × Obj)} {cls : Value} {d : Option Addr} {e : Option Str} {n : Option Nat} {u : UE} {l : Expr} (hx : XcA X.prog X.K X.mg) (hz : Zc cls d oe) (hf : ∃ vs, oe.data = .fields vs) (hn : ∀ y, e = some y → ∃ i, n = some i ∧ NmAt X y i) (hu : okUE e u l = true) :
    PE (X.suite a ((a, oe) :: pn)) l (TUV X.K a n cls d u) ∧ nst l = true := by
  cases u with
  | a u =>
    obtain ⟨h1, h2⟩ := pe_ua (pn := pn) hx hz hf hn hu
    refine ⟨h1.imp fun σ H Q ⟨hσ, F, G, s, x, v, rep, er, eu, q⟩ => ?_, h2⟩
    simp only [ueV, Option.map_eq_some_iff] at eu
    obtain ⟨dd, e1, rfl⟩ := eu
    exact ⟨hσ, F, G, s, x, dd, rep, er, e1, fun v hv => q.fz rep hv⟩
  | l us =>
    cases l with
    | List ls p =>
      refine ⟨(pe_lst (pa_ua (pn := pn) hx hz hf hn hu)).imp fun σ H Q ⟨hσ, F, G, s, x, v, rep, er, eu, q⟩ => ?_, rfl⟩
      simp only [ueV] at eu
      obtain ⟨hl, eu⟩ := ite_some eu
      rw [Option.map_eq_some_iff] at eu
      obtain ⟨ds, e1, rfl⟩ := eu
      refine ⟨hσ, F, G, s, x, ds, rep, er, e1, fun vs hv => ⟨?_, fun p hp => q.newL rep hv hp⟩⟩
      rw [hv.length, uaDs_len e1, sizeLine_eq]
      omega
    | _ => cases hu
/-! ### the suites -/
/-- the suite's reading: e's slot is n -/
def TSU (K : PySem.W.Frag) (a : Addr) (n : Option Nat) (cls : Value) (d : Option Addr) (u : US) : TS := fun D σ H => (∀ i, n = some i → σ[i]? = some (some (.ref a))) ∧ ∃ F G s x fl, Rep K F G s σ H ∧ ExR K G cls d x ∧ evU x s u = some fl ∧
  (match u with
    | .keep i => ∀ s1, store s i ⟨.fz, x⟩ = some s1 → D.nx (σ.set i (some (.ref a))) H
    | _ => EndOk K F G s σ D (fun _ _ _ _ => False) fl)
def okU (cc : CC) (e : Option Str) (n : Option Nat) : US → Stmt → Bool
  | .asg i u, st => match st with
    | .Assign [.Name x _] l _ => cc.targ i x && (decide (n ≠ some i) && okUE e u l)
    | _ => false
  | .app i u, st => match st with
    | .Expr (.Call (.Attribute (.Name x _) m ap) [l] [] cp) _ => decide (m = "append") && (cc.name i x && (okUE e u l && (ap.endLine == cp.line)))
    | _ => false
  | .seti i k u, st => match st with
    | .Assign [.Subscript (.Name x _) (.Constant (.int j) _ _) _] l _ => cc.name i x && (decide (j = k) && okUA e u l)
    | _ => false
  | .ret u, st => match st with
    | .Return (some l) _ => okUE e u l
    | _ => false
  | .keep i, st => match st with
    | .Assign [.Name x _] (.Name y _) _ => cc.targ i x && (decide (n ≠ some i) && decide (e = some y))
    | _ => false
theorem ue_comp {e : Option Str} {u : UE} {l : Expr} (h : okUE e u l = true) : ∀ {tg : Expr} {k : Nat} {env : Env}, swapsWith l (some tg) k env = pure false := by
  intro tg k env
  cases u with
  | a u => cases u <;> cases l <;> first | rfl | cases h
  | l us => cases l <;> first | rfl | cases h
theorem ua_comp {e : Option Str} {u : UA} {l : Expr} (h : okUA e u l = true) : ∀ {tg : Expr} {k : Nat} {env : Env}, swapsWith l (some tg) k env = pure false := by
  intro tg k env
  cases u <;> cases l <;> first | rfl | cases h
theorem swap_any {x : Str} {p : Pos} {v : Expr} {env : Env} : swappedStores [.Name x p] v env = pure none := by cases v <;> rfl
theorem targS {a : Addr} {pn : List (Addr × Obj)} (x : XOk X cf cc) {i : Nat} {n : Str} {pos : Pos} (h : cc.targ i n = true) : PG (X.suite a pn) (.Name n pos) (gName i) := by
  unfold CC.targ at h
  rw [Bool.and_eq_true] at h
  obtain ⟨l, f⟩ := x.loc h.2
  exact pg_name (X := X.suite a pn) (by show X.N.Nodup; rw [x.N]; exact x.nd) (by show X.N[i]? = some n; rw [x.N]; exact of_decide_eq_true h.1) l f
theorem pss_u {a : Addr} {oe : Obj} {pn : List (Addr × Obj)} {cls : Value} {d : Option Addr} {e : Option Str} {n : Option Nat} {u : US} {st : Stmt} (x : XOk X cf cc) (hz : Zc cls d oe) (hf : ∃ vs, oe.data = .fields vs) (hn : ∀ y, e = some y → ∃ i, n = some i ∧ NmAt X y i) (hu : okU cc e n u st = true) :
    PSs (X.suite a ((a, oe) :: pn)) [st] (TSU X.K a n cls d u) := by
  refine pss_one ?_
  cases u with
  | asg i u =>
    simp only [okU] at hu
    split at hu
    · rename_i y py l pos
      simp only [Bool.and_eq_true, decide_eq_true_eq] at hu
      obtain ⟨h1, h2, h3⟩ := hu
      have hs : swapsWith l (some (.Name y py)) pos.line X.env = pure false := ue_comp h3
      refine (ps_asg (pe_ue (pn := pn) x.xc hz hf hn h3).1 (targS x h1) hs swap_any rfl).imp fun D σ H ⟨hσ, F, G, s, z, fl, rep, er, ev, q⟩ => ?_
      simp only [evU, Option.bind_eq_some_iff, Option.map_eq_some_iff] at ev
      obtain ⟨v, e1, s', e2, rfl⟩ := ev
      refine ⟨hσ, F, G, s, z, v, rep, er, e1, fun w H1 G1 sm1 r1 rv => ?_⟩
      have hf : free s i = true := by
        unfold store at e2
        exact (ite_some e2).1
      exact q _ H1 G1 sm1 (pin_set hf) (r1.store e2 rv)
    · cases hu
  | app i u =>
    simp only [okU] at hu
    split at hu
    · rename_i y py m ap l cp pos
      simp only [Bool.and_eq_true, decide_eq_true_eq] at hu
      obtain ⟨h1, h2, h3, h4⟩ := hu
      subst h1
      obtain ⟨n1, n2, n3, n4⟩ := x.name h2
      obtain ⟨pe, hs⟩ := pe_ue (a := a) (pn := pn) x.xc hz hf hn h3
      have hfew : ((backTo cp (starEach [l] X.env)).all (fun x => !x.1) && (backToKw cp (keywordEach [] X.env)).all (fun x => x.1.isSome) && decide (([l] : List Expr).length + ([] : List Keyword).length + (if ([] : List Keyword).isEmpty then 0 else 1) < 30)) = true := by
        rw [nst_star hs]
        rfl
      have hp := pe_bm (X := X.suite a ((a, oe) :: pn)) (T := "list") (name := "append") F.plainAttrs_list F.slot_list_append F.type_list_append (r := rAppend) mt_append (pe_var (X := X.suite a ((a, oe) :: pn)) (pos := py) n1 n2 n3 n4) (pa_cons pe pa_nil (nst_star hs _ _)) rfl hfew h4 (nst_star hs _ _) rfl
      refine (ps_expr (pos := pos) hp rfl).imp fun D σ H ⟨hσ, F, G, s, z, fl, rep, er, ev, q⟩ => ?_
      simp only [evU, Option.bind_eq_some_iff] at ev
      obtain ⟨x0, h0, ev⟩ := ev
      obtain ⟨ht, ev⟩ := ite_some ev
      simp only [Option.bind_eq_some_iff, Option.map_eq_some_iff] at ev
      obtain ⟨v, e1, s', e2, rfl⟩ := ev
      obtain ⟨m, xs, es, hm, hzz, rfl⟩ := appS_inv e2
      obtain ⟨w, ew, rd⟩ := slot_sig rep h0
      obtain ⟨m0, d0⟩ := x0
      cases d0 with
      | list ds =>
        obtain ⟨a0, xs0, rfl, sq0, _⟩ := rd.list rep.gh
        refine ⟨.ref a0, ew, .inl ⟨rfl, xs0, sq0⟩, hσ, F, G, s, z, v, rep, er, e1, fun w H1 G1 sm1 r1 rv => ?_⟩
        obtain ⟨G2, sm2, r2, d2⟩ := rv.den r1
        obtain ⟨a1, ea, f, g, vs, hh, dl⟩ := r2.ow i _ es (isOw_of hm)
        rw [ew] at ea
        cases ea
        refine ⟨a0, vs, w, rfl, rfl, hh, by rw [dl.length]; omega, ?_⟩
        exact q σ _ G2 (sm1.trans sm2) (.refl _ _) (r2.wr es (isOw_of hm) ew ⟨vs ++ [w], upd_same, dl.append (.cons d2 .nil)⟩)
      | _ => cases ht
    · cases hu
  | seti i k u =>
    simp only [okU] at hu
    split at hu
    · rename_i y py j kk pk ps l pos
      simp only [Bool.and_eq_true, decide_eq_true_eq] at hu
      obtain ⟨h1, h2, h3⟩ := hu
      subst h2
      obtain ⟨n1, n2, n3, n4⟩ := x.name h1
      obtain ⟨pe, hs⟩ := pe_ua (a := a) (pn := pn) x.xc hz hf hn h3
      refine (ps_asg pe (pg_sub (X := X.suite a ((a, oe) :: pn)) (pe_var (X := X.suite a ((a, oe) :: pn)) (pos := py) n1 n2 n3 n4) (pe_int (X := X.suite a ((a, oe) :: pn)) (i := j) (j := kk) (pos := pk)) (PSet.or set_list (set_dict (X := X.suite a ((a, oe) :: pn)) (Nat.lt_of_le_of_lt (by show X.A.units + 1 ≤ X.A.units + 70; omega) x.un))) (sub_asg rfl _ _)) sole_sub swap_sub rfl).imp fun D σ H ⟨hσ, F, G, s, z, fl, rep, er, ev, q⟩ => ?_
      simp only [evU, Option.bind_eq_some_iff, Option.map_eq_some_iff] at ev
      obtain ⟨dd, e1, x0, h0, s', e2, rfl⟩ := ev
      obtain ⟨m, d1, d2, es, hm, hsd, rfl⟩ := setiS_inv e2
      refine ⟨hσ, F, G, s, z, dd, rep, er, e1, fun w hw => ?_⟩
      obtain ⟨v, evv, _⟩ := slot_sig rep h0
      refine ⟨v, evv, ?_⟩
      obtain ⟨a1, ea, f, g, c⟩ := rep.ow i _ es (isOw_of hm)
      rw [evv] at ea
      cases ea
      cases d1 with
      | list ds =>
        simp only [setD, Option.map_eq_some_iff] at hsd
        obtain ⟨nn, hnn, rfl⟩ := hsd
        obtain ⟨vs, hh, dl⟩ := c
        refine .inl ⟨a1, vs, j, nn, rfl, rfl, hh, by rw [dl.length]; exact hnn, ?_⟩
        exact q σ _ G (Same.refl _) (.refl _ _) (rep.wr es (isOw_of hm) evv ⟨_, upd_same, dl.set hw nn⟩)
      | _ => cases hsd
    · cases hu
  | ret u =>
    simp only [okU] at hu
    split at hu
    · rename_i l pos
      refine (ps_ret (pe_ue (pn := pn) x.xc hz hf hn hu).1).imp fun D σ H ⟨hσ, F, G, s, z, fl, rep, er, ev, q⟩ => ?_
      simp only [evU, Option.map_eq_some_iff] at ev
      obtain ⟨v, e1, rfl⟩ := ev
      exact ⟨hσ, F, G, s, z, v, rep, er, e1, fun w H1 G1 sm1 r1 rv => q w σ H1 G1 sm1 (.refl _ _) r1 rv⟩
    · cases hu
  | keep i =>
    simp only [okU] at hu
    split at hu
    · rename_i y py z pz pos
      simp only [Bool.and_eq_true, decide_eq_true_eq] at hu
      obtain ⟨h1, h2, h3⟩ := hu
      obtain ⟨j, hj, nm⟩ := hn z h3
      refine (ps_asg (pe_var (X := X.suite a ((a, oe) :: pn)) (i := j) nm.ix nm.vis nm.d1 nm.d2) (targS x h1) (by rfl) swap_any rfl).imp fun D σ H ⟨hσ, F, G, s, w, fl, rep, er, ev, q⟩ => ?_
      simp only [evU, Option.bind_eq_some_iff, Option.map_eq_some_iff] at ev
      obtain ⟨_, _, s', e2, rfl⟩ := ev
      exact ⟨.ref a, hσ j hj, q s' e2⟩
    · cases hu
/-! ### the statement -/
def okT (cc : CC) (cs : List Str) (t : Expr) : Bool := match cs, t with
  | [c], .Name x _ => decide (x = c) && (decide (c ∈ Zk.ts) && (cc.glo c && notOdd c))
  | [c1, c2], .Tuple [.Name x1 _, .Name x2 _] _ _ => decide (x1 = c1) && (decide (x2 = c2) && (decide (c1 ∈ Zk.ts) && (decide (c2 ∈ Zk.ts) && (cc.glo c1 && (cc.glo c2 && (notOdd c1 && notOdd c2))))))
  | _, _ => false
theorem blt_boot {c : Str} {t : String} (e1 : bltX c = some t) : bootBuiltins c = some (.type t) ∧ c ≠ "__name__" := by
  unfold bltX at e1
  repeat' split at e1
  all_goals first | (rename_i hq; cases e1; subst hq; exact ⟨by decide +kernel, by decide +kernel⟩) | cases e1
theorem namesC (x : XOk X cf cc) {c : Str} (h1 : c ∈ Zk.ts) (h2 : cc.glo c = true) (h3 : notOdd c = true) : NamesC X c := by
  refine ⟨x.glo h2, (notOdd_inv h3).1, ?_⟩
  rcases x.tc c h1 with ⟨t, e1, e2⟩ | ⟨e1, e2⟩
  · refine .inr ⟨e2, ?_⟩
    unfold clsV
    rw [e1]
    exact blt_boot e1
  · refine .inl ?_
    unfold clsV
    rw [e1]
    exact e2
theorem okT_test (x : XOk X cf cc) {cs : List Str} {t : Expr} (h : okT cc cs t = true) : HTest X t cs ∧ ∀ c ∈ cs, c ∈ Zk.ts := by
  unfold okT at h
  split at h
  · simp only [Bool.and_eq_true, decide_eq_true_eq] at h
    obtain ⟨h0, h1, h2, h3⟩ := h
    subst h0
    exact ⟨test_name (namesC x h1 h2 h3), fun c hc => by rw [List.mem_singleton.mp hc]; exact h1⟩
  · simp only [Bool.and_eq_true, decide_eq_true_eq] at h
    obtain ⟨h0, h0', h1, h1', h2, h2', h3, h3'⟩ := h
    subst h0 h0'
    refine ⟨test_two (namesC x h1 h2 h3) (namesC x h1' h2' h3'), fun c hc => ?_⟩
    simp only [List.mem_cons, List.not_mem_nil, or_false] at hc
    rcases hc with z | z <;> rw [z] <;> assumption
  · cases h
/-- the exception is one of the clause's classes -/
theorem exm_of {K : PySem.W.Frag} {G : Hp} {cls : Value} {dd : Option Addr} {x : D} {cs : List Str} (hx : XcA X.prog X.K X.mg) (hK : K = X.K) (hc : ∀ c ∈ cs, c ∈ Zk.ts) (er : ExR K G cls dd x) (hu : isUp cs x = some true) : PySem.W.exmAny K cls (cs.map (clsV K)) = some true ∧ ∃ C, cls = .ref C := by
  subst hK
  obtain ⟨k, d, rfl, hk, er⟩ := er
  have hm : ∃ m fo, exTab[k]? = some (m, fo) ∧ cls = .ref (He.ga X.K m) := by
    rcases er with ⟨m, f, dx, v, h1, h2, _⟩ | ⟨m, h1, h2, _⟩
    · exact ⟨m, _, h1, h2⟩
    · exact ⟨m, _, h1, h2⟩
  obtain ⟨m, fo, h1, rfl⟩ := hm
  have T := hx k hk m fo h1
  have hu : (cs.any fun c => decide (c ∈ exUp k)) = true := by
    have : isUp cs (.dict [(.int k, d)]) = some (cs.any fun c => decide (c ∈ exUp k)) := rfl
    rw [this] at hu
    exact Option.some.inj hu
  refine ⟨?_, _, rfl⟩
  have all : ∀ l : List Str, (∀ c ∈ l, c ∈ Zk.ts) → PySem.W.exmAny X.K (.ref (He.ga X.K m)) (l.map (clsV X.K)) = some (l.any fun c => decide (c ∈ exUp k)) := by
    intro l
    induction l with
    | nil => intro _; rfl
    | cons c r ih =>
      intro hl
      rw [List.map_cons, PySem.W.exmAny, T.em c (hl c List.mem_cons_self), ih fun c hc => hl c (List.mem_cons_of_mem _ hc)]
      rfl
  rw [all cs hc, hu]
/-- the clause's own slot stays empty -/
theorem evU_slot {z : D} {s : LS} {u : US} {fl : Fl} {n : Nat} (hn : slot s n = none) (h : evU z s u = some fl) (hu : ∀ i e, u = .asg i e → n ≠ i) (hk : ∀ i, u ≠ .keep i) : (∃ s', fl = .nx s' ∧ slot s' n = none) ∨ ∃ v s', fl = .rt v s' ∧ slot s' n = none := by
  have nput : ∀ {i : Nat} {x y : SV}, slot s i = some x → slot (putS s i y) n = none := fun {i x y} e => by
    rw [slot_put e, if_neg]
    · exact hn
    · rintro rfl
      rw [hn] at e
      cases e
  cases u with
  | asg i e =>
    simp only [evU, Option.bind_eq_some_iff, Option.map_eq_some_iff] at h
    obtain ⟨v, h1, s', h2, rfl⟩ := h
    unfold store at h2
    obtain ⟨_, h2⟩ := ite_some h2
    cases h2
    refine .inl ⟨_, rfl, ?_⟩
    unfold putS
    rw [slot_set, if_neg (fun z => hu i e rfl z.1.symm)]
    exact hn
  | app i e =>
    simp only [evU, Option.bind_eq_some_iff] at h
    obtain ⟨x0, h0, h⟩ := h
    obtain ⟨_, h⟩ := ite_some h
    simp only [Option.bind_eq_some_iff, Option.map_eq_some_iff] at h
    obtain ⟨v, h1, s', h2, rfl⟩ := h
    obtain ⟨m, xs, e1, hm, _, e2⟩ := appS_inv h2
    exact .inl ⟨_, rfl, by rw [e2]; exact nput e1⟩
  | seti i k e =>
    simp only [evU, Option.bind_eq_some_iff, Option.map_eq_some_iff] at h
    obtain ⟨v, h1, _, _, s', h2, rfl⟩ := h
    obtain ⟨m, d, d', e1, hm, _, e2⟩ := setiS_inv h2
    exact .inl ⟨_, rfl, by rw [e2]; exact nput e1⟩
  | ret e =>
    simp only [evU, Option.map_eq_some_iff] at h
    obtain ⟨v, h1, rfl⟩ := h
    exact .inr ⟨_, _, rfl, hn⟩
  | keep i => exact absurd rfl (hk i)
/-- body and clause of a try -/
theorem st_tryA {b : CSs} {cs : List Str} {n : Nat} {e : Str} {u : US} {t : Expr} {body : List Stmt} {su : Stmt} {pos pos' : Pos} (x : XOk X cf cc) (hs : X.stack = X.env :: X.outer) (hf : X.env.frame = some X.env.locals) (hex : X.ex = []) (hloc : X.env.kindOf e = some .local) (hnm : cc.name n e = true) (ht : okT cc cs t = true)
    (hb : ∀ (W : WX) (pn : List (Addr × Obj)) (xe : Value → Shared → Prop), Takes (X.tr pn xe) W → PassesOwn (model X.prog X.w) X.A X.env xe → PSs (X.tr pn xe) body (TDS X.K W (evSs cf b))) (hu : okU cc (some e) (some n) u su = true) :
    PS X (.Try body [.ExceptHandler (some t) (some e) [su] pos'] [] [] pos) (TDS X.K W (evS cf (.try_ b cs (some n) u))) := by
  obtain ⟨n1, n2, n3, n4⟩ := x.name hnm
  obtain ⟨hT, hts⟩ := okT_test x ht
  have nm : NmAt X e n := ⟨n1, n2, n3, n4⟩
  refine (ps_tryA (ts := fun a cls d => TSU X.K a (some n) cls d u) hs hf hex (by rw [x.N]; exact x.nd) n1 hloc hT hb (fun a oe cls d pn hz hfl => pss_u x hz hfl (fun y hy => ⟨n, rfl, by cases hy; exact nm⟩) hu)).imp fun D σ H ⟨F, G, s, fl, rep, ev, q⟩ => ?_
  simp only [evS, Option.bind_eq_some_iff] at ev
  obtain ⟨f0, e1, e2⟩ := ev
  have k0 := evSs_keep b s f0 e1
  refine ⟨F, G, s, f0, rep, e1, ?_⟩
  cases f0 with
  | nx s1 => cases e2; exact q
  | rt v s1 => cases e2; exact q
  | bk s1 => cases e2; exact q
  | ct s1 => cases e2; exact q
  | ex y s1 =>
    simp only at e2
    split at e2
    · rename_i hup
      simp only [Option.bind_eq_some_iff] at e2
      obtain ⟨s2, e3, e4⟩ := e2
      intro cls dd σ1 H1 G1 sm1 p1 r1 er
      obtain ⟨hm, C, hC⟩ := exm_of x.xc rfl hts er hup
      refine ⟨hm, fun a ha => ?_⟩
      obtain ⟨hfr, e3⟩ := ite_some e3
      cases e3
      have sn : slot (s1.set n none) n = none := by
        rw [slot_set]
        split
        · rfl
        · rename_i hh
          cases z : slot s1 n with
          | none => rfl
          | some w => exact absurd ⟨rfl, slot_lt z⟩ hh
      have hln : n < σ1.length := by
        rw [r1.len]
        unfold free at hfr
        cases z : s1[n]? with
        | none => rw [z] at hfr; cases hfr
        | some w => exact (List.getElem?_eq_some_iff.mp z).1
      have k1 : Keep s1 (s1.set n none) := dropN_keep (n := some n) (by show (if free s1 n = true then some (s1.set n none) else none) = _; rw [if_pos hfr])
      have ra : Rep X.K F G1 (s1.set n none) (σ1.set n (some (.ref a))) H1 := (r1.drop n).setσ sn
      have pa : Pin s σ (σ1.set n (some (.ref a))) := p1.trans k0 (pin_set hfr)
      -- behind the suite
      have pin2 : ∀ {σ2 : St}, Pin (s1.set n none) (σ1.set n (some (.ref a))) σ2 → Pin s σ (σ2.set n none) := fun {σ2} p2 => by
        have z : Pin s σ σ2 := pa.trans (k0.trans k1) p2
        intro j w hj mj
        rw [List.getElem?_set, if_neg]
        · exact z j w hj mj
        · rintro rfl
          obtain ⟨w', h1, h2⟩ := k0.pin hj mj
          obtain ⟨a1, a2⟩ := free_inv hfr w' h1
          unfold Md.pin at h2
          rw [a1, a2] at h2
          cases h2
      refine ⟨fun i hi => by cases hi; rw [List.getElem?_set_self hln], F, G1, s1.set n none, y, fl, ra, er, e4, ?_⟩
      have fin : ((∃ s', fl = .nx s' ∧ slot s' n = none) ∨ ∃ v s', fl = .rt v s' ∧ slot s' n = none) → EndOk X.K F G1 (s1.set n none) (σ1.set n (some (.ref a))) { nx := fun σ' H' => D.nx (σ'.set n none) H' ∨ ∃ C, cls = .ref C ∧ (H' a = none → D.nx (σ'.set n none) (upd H' a (ExA a C dd))), rt := D.rt, bk := fun σ' H' => D.bk (σ'.set n none) H', ct := fun σ' H' => D.ct (σ'.set n none) H' } (fun _ _ _ _ => False) fl := by
        rintro (⟨s3, rfl, h3⟩ | ⟨v, s3, rfl, h3⟩)
        · exact fun σ2 H2 G2 sm2 p2 r2 => .inl (q _ H2 G2 (sm1.trans sm2) (pin2 p2) (r2.setσ h3))
        · exact fun w σ2 H2 G2 sm2 p2 r2 rv => q w σ2 H2 G2 (sm1.trans sm2) (pa.trans (k0.trans k1) p2) r2 rv
      cases u with
      | keep i =>
        intro s3 e5
        right
        refine ⟨C, hC, fun hna => ?_⟩
        simp only [evU, Option.bind_eq_some_iff, Option.map_eq_some_iff] at e4
        obtain ⟨_, _, s4, e6, rfl⟩ := e4
        rw [e5] at e6
        cases e6
        have hfi : free (s1.set n none) i = true := by
          unfold store at e5
          exact (ite_some e5).1
        have g1 : G1 a = none := r1.gh.free ha
        subst hC
        have dn : Den X.K (upd G1 a (ExA a C dd)) (.ref a) y := by
          obtain ⟨k, d0, rfl, hk, er⟩ := er
          rcases er with ⟨m, f, dx, v, h1, h2, h3, h4, h5⟩ | ⟨m, h1, h2, h3, h4⟩
          · cases h2
            subst h3
            exact .exc hk h1 upd_same (by rw [upd_ne (ne_of_none h4 g1)]; exact h4) (h5.mono (same_upd g1))
          · cases h2
            subst h3 h4
            exact .exn hk h1 upd_same
        have rb := ra.newG (o := ExA a C dd) ha
        have rc := rb.store e5 (show RV X.K F _ _ _ _ (.ref a) ⟨.fz, y⟩ from dn)
        have si : slot s3 n = none := by
          have hni : n ≠ i := by
            simp only [okU] at hu
            split at hu
            · simp only [Bool.and_eq_true, decide_eq_true_eq] at hu
              exact fun z => hu.2.1 (by rw [z])
            · cases hu
          unfold store at e5
          obtain ⟨_, e5⟩ := ite_some e5
          cases e5
          unfold putS
          rw [slot_set, if_neg (fun z => hni z.1.symm)]
          exact sn
        exact q _ _ _ (sm1.trans (same_upd g1)) (pin2 (pin_set hfi)) (rc.setσ si)
      | asg i w =>
        have hni : n ≠ i := by
          simp only [okU] at hu
          split at hu
          · simp only [Bool.and_eq_true, decide_eq_true_eq] at hu
            exact fun z => hu.2.1 (by rw [z])
          · cases hu
        exact fin (evU_slot sn e4 (fun j e he => by cases he; exact hni) (fun j he => by cases he))
      | app i w => exact fin (evU_slot sn e4 (fun j e he => by cases he) (fun j he => by cases he))
      | seti i k w => exact fin (evU_slot sn e4 (fun j e he => by cases he) (fun j he => by cases he))
      | ret w => exact fin (evU_slot sn e4 (fun j e he => by cases he) (fun j he => by cases he))
    · cases e2
end
end LP

end
section
set_option Elab.async false
set_option linter.all false
set_option maxRecDepth 100000
set_option maxHeartbeats 4000000
/-! LX9: try .. except T, without a name. -/
namespace LP
open PySem PySem.Spec L2
open PyProof.Rows hiding St
variable [Zk]
section
variable {X : Cx} {cf : CF} {cc : CC} {W : WX}
/-- the facts of a def's own context -/
structure Dfx (X : Cx) : Prop where
  stk : X.stack = X.env :: X.outer
  frm : X.env.frame = some X.env.locals
  exx : X.ex = []
def wTryB (K : PySem.W.Frag) (cs : List Str) (ts : Addr → Value → Option Addr → TS) (D : Ends) : WX := fun cls d σ H =>
  PySem.W.exmAny K cls (cs.map (clsV K)) = some true ∧ ∀ a, H a = none → ts a cls d D σ H
theorem ps_tryB {t : Expr} {cs : List Str} {body suite : List Stmt} {b₀ : Stmt} {pos pos' : Pos} {tb : WX → TS} {ts : Addr → Value → Option Addr → TS} (hs : X.stack = X.env :: X.outer) (hf : X.env.frame = some X.env.locals) (ht : HTest X t cs)
    (hb : ∀ (W : WX) (pn : List (Addr × Obj)) (xe : Value → Shared → Prop), Takes (X.tr pn xe) W → PassesOwn (model X.prog X.w) X.A X.env xe → PSs (X.tr pn xe) body (tb W))
    (hsu : ∀ (a : Addr) (oe : Obj) (cls : Value) (d : Option Addr) (pn : List (Addr × Obj)), Zc cls d oe → (∃ vs, oe.data = .fields vs) → PSs (X.suite a ((a, oe) :: pn)) (b₀ :: suite) (ts a cls d)) :
    PS X (.Try body [.ExceptHandler (some t) none (b₀ :: suite) pos'] [] [] pos) (fun D σ H => tb (wTryB X.K cs ts D) D σ H) := by
  refine ⟨fun pins s σ H D I h => ?_⟩
  have ok := I.ok
  have hfr : X.A.frames = some (X.env :: X.outer) := ok.frames.trans (by rw [hs])
  refine wpAny_Try_except (wpAny_mono ((hb (wTryB X.K cs ts D) (X.pn ++ pins) (fun e s1 => wpAny (model X.prog X.w) X.A (noteFrame e X.env) (fun _ s2 => wpAny (model X.prog X.w) X.A (setFlight e none) (fun _ s3 =>
    wpAny (model X.prog X.w) X.A (handleBy e X.env [.ExceptHandler (some t) none (b₀ :: suite) pos']) (SP X pins D) X.xe s3) X.xe s2) X.xe s1) (fun u s' air => ?_) PassesOwn.looking).run [] s σ H D (I.toTry _) h) (fun fl s1 hsp => ?_) fun _ _ z => z)
  · obtain ⟨a, B, sI, pins', σ1, H1, cls, d, rfl, J0, nb, up, sky, na, os, ag, hm, hyes⟩ := air
    have J : Inv X pins σ1 H1 sI := J0.ofTry ok
    have skyE : Sky B (X.env :: X.outer) a (Zc cls d) X.env.locals s'.heap := hs ▸ sky
    show wpAny (model X.prog X.w) X.A (noteFrame (.ref a) X.env) _ _ _
    refine Sky.land Zc.steady hfr hf skyE fun h3 fl3 up3 => ?_
    have P3 : Inv X pins σ1 H1 { s' with heap := h3 } := J.landed nb fl3.1 (up.trans up3) os ag
    obtain ⟨ob3, vs3, w3, z3, y3⟩ := fl3.there
    have nfr : a ∉ frs (X.env :: X.outer) := fun hm => by
      obtain ⟨_, o', e', hnf⟩ := fl3.2.2.1.mem hm
      rw [w3] at e'
      cases e'
      exact hnf _ y3
    have noL : a ≠ X.env.locals := fun z => nfr (List.mem_filterMap.mpr ⟨X.env, List.mem_cons_self, by rw [hf, z]⟩)
    have noF : a ∉ X.fs := fun hm => by
      obtain ⟨e, he, q⟩ := List.mem_filterMap.mp hm
      exact nfr (List.mem_filterMap.mpr ⟨e, List.mem_cons_of_mem _ he, q⟩)
    have U3 := P3.suite w3 y3 na noL noF
    refine wpAny_handleBy_cons (codeAny_handlers_test (ht a ob3 (X.pn ++ pins) σ1 H1 _ cls true _ _ _ U3 z3.1 hm fun h3' k3 => ?_)) (by intro q; cases q)
    have fl3' := flying_ext fl3 k3
    have up3' : s'.heap.UpToSlots h3' := up3.trans (Heap.UpToSlots.of_keeps k3)
    refine codeAny_handlers_suite (HandSPX.lands_againZ fl3' fun h4 fl4 up4 => ?_)
    have P4 : Inv X pins σ1 H1 { s' with heap := h4 } := J.landed nb fl4.1 ((up.trans up3').trans up4) os ag
    obtain ⟨ob4, vs4, w4, z4, y4⟩ := fl4.there
    have U4 := P4.suite w4 y4 na noL noF
    refine wpAny_mono ((hsu a ob4 cls d (X.pn ++ pins) z4 ⟨_, y4⟩).run [] _ _ H1 _ U4 (hyes a na)) (fun fl s6 hsp => ?_) fun _ _ z => z.elim
    have fin : ∀ {σq : St} {Hq : Hp}, Inv (X.suite a ((a, ob4) :: (X.pn ++ pins))) [] σq Hq s6 → Inv X pins σq Hq s6 := fun {σq Hq} U6 =>
      ⟨ok, U6.os, U6.bare, U6.base, U6.loc, U6.cell, U6.free, U6.freeC, fun p hp => U6.pin p (List.mem_append_left _ (List.mem_cons_of_mem _ hp)), U6.hok, U6.len⟩
    cases fl with
    | next =>
      obtain ⟨σq, Hq, U6, qq⟩ := hsp
      exact ⟨_, _, fin U6, qq⟩
    | brk =>
      obtain ⟨σq, Hq, U6, qq⟩ := hsp
      exact ⟨_, _, fin U6, qq⟩
    | cont =>
      obtain ⟨σq, Hq, U6, qq⟩ := hsp
      exact ⟨_, _, fin U6, qq⟩
    | ret u =>
      obtain ⟨vq, σq, Hq, U6, rq, qq⟩ := hsp
      exact ⟨_, _, _, fin U6, rq, qq⟩
  · cases fl with
    | next =>
      obtain ⟨σe, Hh, Je, q⟩ := hsp
      exact wpAny_execs_nil ⟨σe, Hh, Je.ofTry ok, q⟩
    | brk =>
      obtain ⟨σe, Hh, Je, q⟩ := hsp
      exact ⟨σe, Hh, Je.ofTry ok, q⟩
    | cont =>
      obtain ⟨σe, Hh, Je, q⟩ := hsp
      exact ⟨σe, Hh, Je.ofTry ok, q⟩
    | ret u =>
      obtain ⟨v, σe, Hh, Je, r, q⟩ := hsp
      exact ⟨v, σe, Hh, Je.ofTry ok, r, q⟩
theorem st_tryB {b : CSs} {cs : List Str} {u : US} {t : Expr} {body : List Stmt} {su : Stmt} {pos pos' : Pos} (x : XOk X cf cc) (df : Dfx X) (ht : okT cc cs t = true)
    (hb : ∀ (W : WX) (pn : List (Addr × Obj)) (xe : Value → Shared → Prop), Takes (X.tr pn xe) W → PassesOwn (model X.prog X.w) X.A X.env xe → PSs (X.tr pn xe) body (TDS X.K W (evSs cf b))) (hu : okU cc none none u su = true) :
    PS X (.Try body [.ExceptHandler (some t) none [su] pos'] [] [] pos) (TDS X.K W (evS cf (.try_ b cs none u))) := by
  obtain ⟨hT, hts⟩ := okT_test x ht
  refine (ps_tryB (ts := fun a cls d => TSU X.K a none cls d u) df.stk df.frm hT hb (fun a oe cls d pn hz hfl => pss_u x hz hfl (fun y hy => by cases hy) hu)).imp fun D σ H ⟨F, G, s, fl, rep, ev, q⟩ => ?_
  simp only [evS, Option.bind_eq_some_iff] at ev
  obtain ⟨f0, e1, e2⟩ := ev
  have k0 := evSs_keep b s f0 e1
  refine ⟨F, G, s, f0, rep, e1, ?_⟩
  cases f0 with
  | nx s1 => cases e2; exact q
  | rt v s1 => cases e2; exact q
  | bk s1 => cases e2; exact q
  | ct s1 => cases e2; exact q
  | ex y s1 =>
    simp only at e2
    split at e2
    · rename_i hup
      simp only [Option.bind_eq_some_iff] at e2
      obtain ⟨s2, e3, e4⟩ := e2
      have e3 : some s1 = some s2 := e3
      obtain rfl : s1 = s2 := Option.some.inj e3
      intro cls dd σ1 H1 G1 sm1 p1 r1 er
      obtain ⟨hm, C, hC⟩ := exm_of x.xc rfl hts er hup
      refine ⟨hm, fun a ha => ?_⟩
      refine ⟨(fun i hi => by cases hi), F, G1, s1, y, fl, r1, er, e4, ?_⟩
      have fin : ((∃ s', fl = .nx s') ∨ ∃ v s', fl = .rt v s') → EndOk X.K F G1 s1 σ1 D (fun _ _ _ _ => False) fl := by
        rintro (⟨s3, rfl⟩ | ⟨v, s3, rfl⟩)
        · exact fun σ2 H2 G2 sm2 p2 r2 => q _ H2 G2 (sm1.trans sm2) (p1.trans k0 p2) r2
        · exact fun w σ2 H2 G2 sm2 p2 r2 rv => q w σ2 H2 G2 (sm1.trans sm2) (p1.trans k0 p2) r2 rv
      have shape : (∃ s', fl = .nx s') ∨ ∃ v s', fl = .rt v s' := by
        cases u with
        | asg i w =>
          simp only [evU, Option.bind_eq_some_iff, Option.map_eq_some_iff] at e4
          obtain ⟨_, _, s', _, rfl⟩ := e4
          exact .inl ⟨_, rfl⟩
        | app i w =>
          simp only [evU, Option.bind_eq_some_iff] at e4
          obtain ⟨x0, h0, e4⟩ := e4
          obtain ⟨_, e4⟩ := ite_some e4
          simp only [Option.bind_eq_some_iff, Option.map_eq_some_iff] at e4
          obtain ⟨_, _, s', _, rfl⟩ := e4
          exact .inl ⟨_, rfl⟩
        | seti i k w =>
          simp only [evU, Option.bind_eq_some_iff, Option.map_eq_some_iff] at e4
          obtain ⟨_, _, _, _, s', _, rfl⟩ := e4
          exact .inl ⟨_, rfl⟩
        | ret w =>
          simp only [evU, Option.map_eq_some_iff] at e4
          obtain ⟨_, _, rfl⟩ := e4
          exact .inr ⟨_, _, rfl⟩
        | keep i =>
          simp only [okU] at hu
          split at hu
          · simp at hu
          · cases hu
      cases u with
      | keep i =>
        simp only [okU] at hu
        split at hu
        · simp at hu
        · cases hu
      | asg i w => exact fin shape
      | app i w => exact fin shape
      | seti i k w => exact fin shape
      | ret w => exact fin shape
    · cases e2
/-- the same facts inside the body -/
theorem XOk.tr {pn : List (Addr × Obj)} {xe : Value → Shared → Prop} (x : XOk X cf cc) : XOk (X.tr pn xe) cf cc := ⟨x.sc, x.fn, x.N, x.nd, x.calm, x.gu, x.un, x.sm, x.bn, x.gi, x.gs, x.fs, x.xc, x.rm, x.tc⟩
theorem Dfx.tr {pn : List (Addr × Obj)} {xe : Value → Shared → Prop} (d : Dfx X) : Dfx (X.tr pn xe) := ⟨d.stk, d.frm, d.exx⟩
end
end LP

end
section
set_option Elab.async false
set_option linter.all false
set_option maxRecDepth 100000
set_option maxHeartbeats 2000000
/-! LP24: the checker of statements. -/
namespace LP
open PySem PySem.Spec L2
open PyProof.Rows hiding St
variable [Zk]
/-! ### how a, b = x, y stores -/
theorem swap2 {env : Env} {x y : Str} {px py pt pt2 : Pos} {a b : Expr} {kt k2 : Nat} (hk : env.scope.kind = .function) (hx : env.scope.names.lookup x = some .local) (hy : env.scope.names.lookup y = some .local) (hl : py.line = px.line) (hxy : x ≠ y)
    (ha : nst a = true) (hb : nst b = true) (hf : (foldedForSure 8 a && foldedForSure 8 b) = false) (hc : (constantsAlone 8 a && constantsAlone 8 b) = false) : swappedStores [.Tuple [.Name x px, .Name y py] kt pt] (.Tuple [a, b] k2 pt2) env = pure (some [x, y]) := by
  have kx : env.kindOf x = some .local := hx
  have ky : env.kindOf y = some .local := hy
  have bk : env.blockKind = .function := by unfold Env.blockKind; rw [hk]; rfl
  have hd : ([x, y] : List Str).eraseDups = [x, y] := by
    have : (y == x) = false := by simpa using Ne.symm hxy
    simp [List.eraseDups_cons, this]
  unfold swappedStores
  dsimp only
  rw [if_neg (by simp [bk]), if_neg]
  · simp only [List.filterMap, List.head?, Option.map, Option.getD, Expr.pos, List.length, List.all_cons, List.all_nil, Bool.and_true, hf, hc]
    simp [kx, ky, hl, hd]
  · intro h
    rw [List.any_eq_true] at h
    obtain ⟨e, he, h⟩ := h
    simp only [List.mem_cons, List.not_mem_nil, or_false] at he
    rcases he with rfl | rfl
    · cases e <;> first | (cases h; done) | cases ha
    · cases e <;> first | (cases h; done) | cases hb
theorem swap3 {env : Env} {x y z : Str} {px py pz pt pt2 : Pos} {a b c : Expr} {kt k2 : Nat} (hk : env.scope.kind = .function) (hx : env.scope.names.lookup x = some .local) (hy : env.scope.names.lookup y = some .local) (hz : env.scope.names.lookup z = some .local) (hl : py.line = px.line) (hl2 : pz.line = px.line) (hxy : x ≠ y) (hxz : x ≠ z) (hyz : y ≠ z)
    (ha : nst a = true) (hb : nst b = true) (hcc : nst c = true) (hf : (foldedForSure 8 a && (foldedForSure 8 b && foldedForSure 8 c)) = false) (hc : (constantsAlone 8 a && (constantsAlone 8 b && constantsAlone 8 c)) = false) : swappedStores [.Tuple [.Name x px, .Name y py, .Name z pz] kt pt] (.Tuple [a, b, c] k2 pt2) env = pure (some [x, y, z]) := by
  have kx : env.kindOf x = some .local := hx
  have ky : env.kindOf y = some .local := hy
  have kz : env.kindOf z = some .local := hz
  have bk : env.blockKind = .function := by unfold Env.blockKind; rw [hk]; rfl
  have hd : ([x, y, z] : List Str).eraseDups = [x, y, z] := by
    have h1 : (y == x) = false := by simpa using Ne.symm hxy
    have h2 : (z == x) = false := by simpa using Ne.symm hxz
    have h3 : (z == y) = false := by simpa using Ne.symm hyz
    simp [List.eraseDups_cons, h1, h2, h3]
  unfold swappedStores
  dsimp only
  rw [if_neg (by simp [bk]), if_neg]
  · simp only [List.filterMap, List.head?, Option.map, Option.getD, Expr.pos, List.length, List.all_cons, List.all_nil, Bool.and_true, hf, hc]
    simp [kx, ky, kz, hl, hl2, hd]
  · intro h
    rw [List.any_eq_true] at h
    obtain ⟨e, he, h⟩ := h
    simp only [List.mem_cons, List.not_mem_nil, or_false] at he
    rcases he with rfl | rfl | rfl
    · cases e <;> first | (cases h; done) | cases ha
    · cases e <;> first | (cases h; done) | cases hb
    · cases e <;> first | (cases h; done) | cases hcc
/-- some name is no plain local, or all that is stored is folded -/
def swNo (sc : Scope) (ts vs : List Expr) : Bool := (ts.any fun
  | .Name x _ => (match sc.names.lookup x with
    | some .local => false
    | _ => true)
  | _ => true) || vs.all (foldedForSure 8) || decide (3 < ts.length)
theorem filterMap_short {α β : Type} {f : α → Option β} : ∀ {l : List α}, (∃ a ∈ l, f a = none) → (l.filterMap f).length ≠ l.length
  | [], h => by obtain ⟨a, ha, _⟩ := h; cases ha
  | x :: l, h => by
    obtain ⟨a, ha, e⟩ := h
    have hle := List.length_filterMap_le f l
    rcases List.mem_cons.mp ha with z | z
    · subst z
      rw [List.filterMap_cons_none e, List.length_cons]
      omega
    · have := filterMap_short ⟨a, z, e⟩
      cases hx : f x with
      | none => rw [List.filterMap_cons_none hx, List.length_cons]; omega
      | some y => rw [List.filterMap_cons_some hx, List.length_cons, List.length_cons]; omega
theorem swap_no {env : Env} {ts vs : List Expr} {kt k2 : Nat} {pt pt2 : Pos} (h : swNo env.scope ts vs = true) : swappedStores [.Tuple ts kt pt] (.Tuple vs k2 pt2) env = pure none := by
  unfold swappedStores
  dsimp only
  split
  · rfl
  · split
    · rfl
    · split
      · rfl
      · rename_i h1 h2 h3
        split
        · rfl
        · exfalso
          rename_i h4
          unfold swNo at h
          rw [Bool.or_eq_true, Bool.or_eq_true] at h
          rcases h with (h | h) | h
          · rw [List.any_eq_true] at h
            obtain ⟨e, he, hh⟩ := h
            refine h3 ?_
            rw [Bool.or_eq_true]
            left
            rw [bne_iff_ne]
            refine filterMap_short ⟨e, he, ?_⟩
            cases e with
            | Name x p =>
              simp only
              rw [if_neg]
              intro q
              rw [Bool.and_eq_true] at q
              have q2 : env.kindOf x = some .local := by simpa using q.1
              have q1 : env.scope.names.lookup x = some .local := q2
              simp only [q1] at hh
              cases hh
            | _ => rfl
          · exact h4 h
          · have := of_decide_eq_true h
            refine h1 ?_
            have e2 : (ts.length == 2) = false := by simp; omega
            have e3 : (ts.length == 3) = false := by simp; omega
            rw [e2, e3]
            rfl
/-! ### the checker -/
def isComp : Expr → Bool
  | .ListComp _ _ _ _ => true
  | .SetComp _ _ _ _ => true
  | .DictComp _ _ _ _ _ => true
  | _ => false
def isTup : Expr → Bool
  | .Tuple _ _ _ => true
  | _ => false
def isLoc (sc : Scope) (x : Str) : Bool := match sc.names.lookup x with
  | some .local => true
  | _ => false
theorem isLoc_inv {sc : Scope} {x : Str} (h : isLoc sc x = true) : sc.names.lookup x = some .local := by
  unfold isLoc at h
  split at h
  · assumption
  · cases h
/-- is the block's own name laid aside late: name = [.. for ..] on one line -/
def swB (sc : Scope) (x : Str) (px : Pos) (scope : Scope) (pos : Pos) : Bool := isLoc sc x && (px.line == pos.line) && !(scope.names.any fun (n, k) => n == x && (k == .local || k == .cell))
theorem swB_no {env : Env} {elt : Expr} {gs : List Comprehension} {scope : Scope} {pos px : Pos} {x : Str} {l : Nat} (h : swB env.scope x px scope pos = false) : swapsWith (.ListComp elt gs scope pos) (some (.Name x px)) l env = pure false := by
  unfold swapsWith
  show pure _ = pure false
  congr 1
  unfold swB at h
  have e : (env.kindOf x == some NameKind.local) = isLoc env.scope x := by
    unfold isLoc
    show (env.scope.names.lookup x == some NameKind.local) = _
    cases hq : env.scope.names.lookup x with
    | none => rfl
    | some k => cases k <;> rfl
  show (env.blockKind == ScopeKind.function && (env.kindOf x == some NameKind.local) && (px.line == pos.line) && !(scope.names.any fun (n, k) => n == x && (k == .local || k == .cell))) = false
  rw [e]
  cases env.blockKind == ScopeKind.function with
  | false => rfl
  | true => exact h
def swYes (sc : Scope) : List Nat → List Expr → List Expr → Bool
  | [i, j], [.Name x px, .Name y py], [a, b] => isLoc sc x && (isLoc sc y && (decide (py.line = px.line) && (decide (x ≠ y) && (decide (i ≠ j) && (!(foldedForSure 8 a && foldedForSure 8 b) && !(constantsAlone 8 a && constantsAlone 8 b))))))
  | [i, j, k], [.Name x px, .Name y py, .Name z pz], [a, b, c] => isLoc sc x && (isLoc sc y && (isLoc sc z && (decide (py.line = px.line) && (decide (pz.line = px.line) && (decide (x ≠ y) && (decide (x ≠ z) && (decide (y ≠ z) && (decide (i ≠ j) && (decide (i ≠ k) && (decide (j ≠ k) && (!(foldedForSure 8 a && (foldedForSure 8 b && foldedForSure 8 c)) && !(constantsAlone 8 a && (constantsAlone 8 b && constantsAlone 8 c)))))))))))))
  | _, _, _ => false
def isCallE : Expr → Bool
  | .Call _ _ _ _ => true
  | _ => false
/-- it is a statement whose own expression may raise -/
def rxOk : CS → Stmt → Bool
  | .asg (.v _) _, .Assign _ v _ => !isComp v
  | .asg (.t _) _, _ => true
  | .ex _, _ => true
  | .ret _, _ => true
  | .app _ _, _ => true
  | .seti _ _ _, _ => true
  | .par _ _, _ => true
  | .ite (.isN _) _ _, _ => true
  | .ite (.isNN _) _ _, _ => true
  | .ite (.call _ _) _ _, _ => true
  | _, _ => false
mutual
def okS (cc : CC) : CS → Stmt → Bool
  | .asg p e, st => match st with
    | .Assign [tg] v _ => (match p with
      | .v i => (match tg with
        | .Name x px => cc.targ i x && (okE cc e v && (!isComp v || (match v with
          | .ListComp _ [_] scope pos => true
          | .ListComp _ [_, _] scope pos => true
          | _ => false)))
        | _ => false)
      | .t is => okPt cc (.t is) tg && (okE cc e v && !isTup v))
    | _ => false
  | .par is es, st => match st with
    | .Assign [.Tuple ts _ _] (.Tuple vs _ _) _ => okNames cc is ts && (es.plain && (okEs cc es vs && (decide (is.length ≤ 1000) && (swNo cc.sc ts vs || swYes cc.sc is ts vs))))
    | _ => false
  | .app i e, st => match st with
    | .Expr (.Call (.Attribute (.Name x _) m ap) [l] [] cp) _ => decide (m = "append") && (cc.name i x && (okE cc e l && (ap.endLine == cp.line)))
    | _ => false
  | .seti i k e, st => match st with
    | .Assign [.Subscript (.Name x _) l _] r _ => cc.name i x && (okE cc k l && okE cc e r)
    | _ => false
  | .ex e, st => match st with
    | .Expr l _ => isCallE l && okE cc e l
    | _ => false
  | .ret e, st => match st with
    | .Return (some l) _ => okE cc e l
    | _ => false
  | .retN, st => match st with
    | .Return none _ => true
    | _ => false
  | .ite c a b, st => match st with
    | .If l p r _ => c.test && (okE cc c l && (okSs cc a p && okSs cc b r))
    | _ => false
  | .for_ p it b, st => match st with
    | .For tg iter body [] _ => okI cc it tg iter && (okPt cc p tg && okSs cc b body)
    | _ => false
  | .whl c b, st => match st with
    | .While l body [] _ => c.test && (okE cc c l && okSs cc b body)
    | _ => false
  | .pass, st => match st with
    | .Pass _ => true
    | _ => false
  | .brk, st => match st with
    | .Break _ => true
    | _ => false
  | .cont, st => match st with
    | .Continue _ => true
    | _ => false
  | .nev, _ => true
  | .rx c, st => rxOk c st && okS cc c st
  | .rai k as, st => match st with
    | .Raise (some (.Call (.Name x _) ls [] _)) none _ => decide ((exTab[k]?).map (·.1) = some x) && (decide (k ∈ Zk.xs) && (cc.glo x && (notOdd x && (decide (ls.length ≤ 1) && (as.plain && okEs cc as ls)))))
    | _ => false
  | .try_ b cs n u, st => match st with
    | .Try body [.ExceptHandler (some t) e [su] _] [] [] _ => okT cc cs t && (okSs cc b body && (match n, e with
      | some i, some y => decide (cc.sc.names.lookup y = some .local) && (cc.name i y && okU cc (some y) (some i) u su)
      | none, none => okU cc none none u su
      | _, _ => false))
    | _ => false
def okSs (cc : CC) : CSs → List Stmt → Bool
  | .nil, l => match l with
    | [] => true
    | _ => false
  | .cons a r, l => match l with
    | s :: ss => okS cc a s && okSs cc r ss
    | [] => false
end
section
variable {X : Cx} {cf : CF} {cc : CC} {W : WX}
theorem okEs_P : ∀ (c : CEs) {X : Cx} {cf : CF} {cc : CC} {e : List Expr}, XOk X cf cc → c.plain = true → okEs cc c e = true → PA X e (TDR X.K (evPs cf c)) ∧ ∀ a ∈ e, nst a = true
  | .nil, X, cf, cc, e, x, hp, h => by
    unfold okEs at h
    split at h
    · exact ⟨st_pnil, fun a ha => by cases ha⟩
    · cases h
  | .cons a r, X, cf, cc, e, x, hp, h => by
    unfold okEs at h
    split at h
    · rw [Bool.and_eq_true] at h
      obtain ⟨h1, h2⟩ := okEs_P r x hp h.2
      refine ⟨st_pcons (okE_snd a x h.1).pe h1 (okE_snd a x h.1).ns, fun b hb => ?_⟩
      rcases List.mem_cons.mp hb with z | z
      · rw [z]; exact (okE_snd a x h.1).ns
      · exact h2 b z
    · cases h
  | .star a r, X, cf, cc, e, x, hp, h => by cases hp
theorem sw_plain {v : Expr} {tg : Expr} {l : Nat} {env : Env} (h : isComp v = false) : swapsWith v (some tg) l env = pure false := by
  cases v <;> first | rfl | cases h
theorem sole_tup {v : Expr} {ts : List Expr} {k : Nat} {p : Pos} {l : Nat} {env : Env} : swapsWithSole [.Tuple ts k p] v l env = pure false := by
  cases v <;> rfl
theorem swap_notup {v : Expr} {ts : List Expr} {k : Nat} {p : Pos} {env : Env} (h : isTup v = false) : swappedStores [.Tuple ts k p] v env = pure none := by
  cases v <;> first | rfl | cases h
theorem swap_notarg {v : Expr} {x : Str} {p : Pos} {env : Env} : swappedStores [.Name x p] v env = pure none := by
  cases v <;> rfl
theorem asg_any {i : Nat} {e : CE} {x : Str} {px pos : Pos} {v : Expr} (ok : XOk X cf cc) (ht : cc.targ i x = true) (he : okE cc e v = true) (hs : swapsWith v (some (.Name x px)) pos.line X.env = pure false) : PS X (.Assign [.Name x px] v pos) (TDS X.K W (evS cf (.asg (.v i) e))) :=
  (ps_asg (okE_snd e ok he).pe (ok.targ ht) hs swap_notarg rfl).imp asg_core
theorem asg_lcp {i : Nat} {own : List Nat} {y : CE} {p : Pt} {it : CI} {c : CO} {x : Str} {px pos pos2 : Pos} {elt : Expr} {g1 : Comprehension} {scope : Scope} (ok : XOk X cf cc) (ht : cc.targ i x = true) (he : okE cc (.lcp own y p it c) (.ListComp elt [g1] scope pos2) = true)
    (hk : cc.sc.kind = .function) (hs : swB cc.sc x px scope pos2 = true) : PS X (.Assign [.Name x px] (.ListComp elt [g1] scope pos2) pos) (TDS X.K W (evS cf (.asg (.v i) (.lcp own y p it c)))) := by
  unfold okE at he
  split at he
  · rename_i elt' tg iter ifs scope' pos' heq
    cases heq
    simp only [Bool.and_eq_true] at he
    obtain ⟨h1, h2, h3, h4, h5, h6⟩ := he
    obtain ⟨hi, hn⟩ := okI_snd it ok h1
    unfold swB at hs
    rw [Bool.and_eq_true, Bool.and_eq_true, Bool.not_eq_true'] at hs
    obtain ⟨⟨s1, s2⟩, s3⟩ := hs
    unfold CC.targ at ht
    rw [Bool.and_eq_true] at ht
    have hl : X.env.scope.names.lookup x = some .local := by rw [ok.sc]; exact isLoc_inv s1
    have hp := ps_setLc (g := gPt X.K p) (tt := TDB X.K (evC cf c)) (te := TDE X.K (evE cf y)) (py := px) (pos := pos2) (spos := pos) (i := i) ok.calm (by rw [ok.N]; exact ok.nd) (by rw [ok.N]; exact of_decide_eq_true ht.1) hl (sw_true (by rw [ok.sc]; exact hk) hl s2 s3) hi (by rw [ok.N, ok.sc]; exact blkOk_by h2) (fun z H0 C cl fp => okPt_snd (ok.blk z H0 _ C cl fp) h3) (fun z H0 C cl fp => okC_snd c (ok.blk z H0 _ C cl fp) h5) (fun z H0 C cl fp => (okE_snd y (ok.blk z H0 _ C cl fp) h6).pe) (fun v => fold_nst hn _ v)
    rw [ownN_ix] at hp
    exact hp.imp fun D σ H q => lcp_core (fun i hi => of_decide_eq_true (List.all_eq_true.mp h4 i hi)) _ _ _ (asg_core D σ H q)
  · cases he
theorem asg_lc2 {i : Nat} {own own2 : List Nat} {y a2 : CE} {p p2 : Pt} {it : CI} {c c2 : CO} {x : Str} {px pos pos2 : Pos} {elt : Expr} {g1 g2 : Comprehension} {scope : Scope} (ok : XOk X cf cc) (ht : cc.targ i x = true) (he : okE cc (.lc2 own own2 y p it c p2 a2 c2) (.ListComp elt [g1, g2] scope pos2) = true)
    (hk : cc.sc.kind = .function) (hs : swB cc.sc x px scope pos2 = true) : PS X (.Assign [.Name x px] (.ListComp elt [g1, g2] scope pos2) pos) (TDS X.K W (evS cf (.asg (.v i) (.lc2 own own2 y p it c p2 a2 c2)))) := by
  unfold okE at he
  split at he
  · rename_i elt' tg iter ifs tg2 iter2 ifs2 scope' pos' heq
    cases heq
    simp only [Bool.and_eq_true] at he
    obtain ⟨h1, h2, h3, h4, h5, h6, h7, h8, h9, h10, h11⟩ := he
    obtain ⟨hi, hn⟩ := okI_snd it ok h1
    have hsub : ∀ i ∈ own2, i ∈ own := fun i hi => of_decide_eq_true (List.all_eq_true.mp h9 i hi)
    have hn2 : nst _ = true := (okE_snd a2 (ok.blk X.s_0 (fun _ => none) _ 0 [] []) h6).ns
    unfold swB at hs
    rw [Bool.and_eq_true, Bool.and_eq_true, Bool.not_eq_true'] at hs
    obtain ⟨⟨s1, s2⟩, s3⟩ := hs
    unfold CC.targ at ht
    rw [Bool.and_eq_true] at ht
    have hl : X.env.scope.names.lookup x = some .local := by rw [ok.sc]; exact isLoc_inv s1
    have hp := ps_setLc2 (g := gPt X.K p) (tt := TDB X.K (evC cf c)) (te := TDE X.K (evE cf y)) (g1 := gPt X.K p2) (tt1 := TDB X.K (evC cf c2)) (wi1 := TDZ X.K (evE cf a2)) (vs1 := own2) (py := px) (pos := pos2) (spos := pos) (i := i) ok.calm (by rw [ok.N]; exact ok.nd) (by rw [ok.N]; exact of_decide_eq_true ht.1) hl (sw_true (by rw [ok.sc]; exact hk) hl s2 s3) hi (by rw [ok.N, ok.sc]; exact blkOk_by h2) (by rw [ownN_ix]; exact hsub) (fun z H0 C cl fp => okPt_snd (ok.blk z H0 _ C cl fp) h3) (fun z H0 C cl fp => okC_snd c (ok.blk z H0 _ C cl fp) h5)
      (fun z H0 C cl fp => snd_iz (okE_snd a2 (ok.blk z H0 _ C cl fp) h6).pe) (fun z H0 C cl fp => okPt_snd (ok.blk z H0 _ C cl fp) h7) (fun z H0 C cl fp => okC_snd c2 (ok.blk z H0 _ C cl fp) h10) (fun z H0 C cl fp => (okE_snd y (ok.blk z H0 _ C cl fp) h11).pe) (fun v => fold_nst hn _ v) (fun env v => fold_nst hn2 env v)
    rw [ownN_ix] at hp
    exact hp.imp fun D σ H q => lc2_core' (fun i hi => of_decide_eq_true (List.all_eq_true.mp h4 i hi)) (fun i hi => of_decide_eq_true (List.all_eq_true.mp h8 i hi)) hsub _ _ _ (asg_core D σ H q)
  · cases he
theorem asg_comp {i : Nat} {e : CE} {x : Str} {px pos pos2 : Pos} {elt : Expr} {gs : List Comprehension} {scope : Scope} (ok : XOk X cf cc) (ht : cc.targ i x = true) (he : okE cc e (.ListComp elt gs scope pos2) = true) (hk : cc.sc.kind = .function) (hg : gs.length = 1 ∨ gs.length = 2) : PS X (.Assign [.Name x px] (.ListComp elt gs scope pos2) pos) (TDS X.K W (evS cf (.asg (.v i) e))) := by
  cases hs : swB cc.sc x px scope pos2 with
  | false => exact asg_any ok ht he (swB_no (by rw [ok.sc]; exact hs))
  | true =>
    cases e with
    | lcp own y p it c =>
      match gs, hg with
      | [g1], _ => exact asg_lcp ok ht he hk hs
      | [g1, g2], _ =>
        unfold okE at he
        split at he <;> first | (cases he; done) | (rename_i hq; cases hq)
    | lc2 own own2 y p it c p2 a2 c2 =>
      match gs, hg with
      | [g1], _ =>
        unfold okE at he
        split at he <;> first | (cases he; done) | (rename_i hq; cases hq)
      | [g1, g2], _ => exact asg_lc2 ok ht he hk hs
    | b1 f a => unfold okE at he; cases he
    | b2 f a b => unfold okE at he; cases f <;> cases he
    | isI a t => unfold okE at he; cases he
    | lrg a => unfold okE at he; cases he
    | scp own y p it c => unfold okE at he; cases he
    | _ => unfold okE at he; cases he
end
/-- what stands on the right of a, b = x, y raises -/
theorem okPs_x : ∀ (c : CEs) {X : Cx} {cf : CF} {cc : CC} {e : List Expr} {W : WX}, XOk X cf cc → Takes X W → c.plain = true → okEs cc c e = true → PA X e (TXA X.K W (xPs cf c))
  | .nil, X, cf, cc, e, W, x, tk, hp, h => TXA.never (okEs_A .nil x hp h).1
  | .cons a r, X, cf, cc, e, W, x, tk, hp, h => by
    unfold okEs at h
    split at h
    · rw [Bool.and_eq_true] at h
      rename_i l ls
      have sa := okE_snd a x h.1
      refine TXA.two (ev1 := fun s => xE cf a s) (ev2 := fun s => (evE cf a s).bind fun y => xPs cf r y.2) (fun s q e => ?_) ?_ ?_
      · simp only [xPs] at e
        rcases orX_inv e with z | ⟨_, z⟩
        · exact .inl z
        · exact .inr z
      · exact (pa_cons (okE_x a x tk h.1) (okEs_A r x hp h.2).1 (nst_star sa.ns _ _)).imp fun σ H Q z => z
      · refine (pa_cons (pf sa.pe) (okPs_x r x tk hp h.2) (nst_star sa.ns _ _)).imp fun σ H Q ⟨F, G, s, y, s', rep, e, q⟩ => ?_
        simp only [Option.bind_eq_some_iff] at e
        obtain ⟨z, e1, e2⟩ := e
        exact ⟨F, G, s, z.1, z.2, rep, e1, fun v H1 G1 sm1 r1 o1 => ⟨F, G1, z.2, y, s', r1, e2, fun cls dd H2 G2 sm2 r2 er => q cls dd H2 G2 (sm1.trans sm2) r2 er⟩⟩
    · cases h
  | .star _ _, X, cf, cc, e, W, x, tk, hp, h => by cases hp
theorem okS_x (c : CS) {X : Cx} {cf : CF} {cc : CC} {st : Stmt} {W : WX} (x : XOk X cf cc) (tk : Takes X W) (hk : cc.sc.kind = .function) (hr : rxOk c st = true) (h : okS cc c st = true) (hs : PS X st (TDS X.K W (evS cf c))) : PS X st (TXS X.K W (xS cf c)) := by
  cases c with
  | asg p e =>
    unfold okS at h
    split at h
    · rename_i tg v pos
      cases p with
      | v i =>
        simp only at h
        split at h
        · rename_i y px
          simp only [Bool.and_eq_true] at h
          obtain ⟨h1, h2, h3⟩ := h
          have hc : isComp v = false := by simpa [rxOk] using hr
          have hs' : swapsWith v (some (.Name y px)) pos.line X.env = pure false := sw_plain hc
          exact (ps_asg (okE_x e x tk h2) (x.targ h1) hs' swap_notarg rfl).imp fun D σ H z => z
        · cases h
      | t is =>
        simp only [Bool.and_eq_true, Bool.not_eq_true'] at h
        obtain ⟨h1, h2, h3⟩ := h
        have hg := okPt_snd x h1
        cases tg with
        | Tuple ts k p => exact (ps_asg (okE_x e x tk h2) hg sole_tup (swap_notup h3) rfl).imp fun D σ H z => z
        | _ => unfold okPt at h1; cases h1
    · cases h
  | ex e =>
    unfold okS at h
    split at h
    · rename_i l pos
      simp only [Bool.and_eq_true] at h
      refine (ps_expr (okE_x e x tk h.2) ?_).imp fun D σ H z => z
      cases l <;> first | rfl | cases h.1
    · cases h
  | ret e =>
    unfold okS at h
    split at h
    · exact (ps_ret (okE_x e x tk h)).imp fun D σ H z => z
    · cases h
  | seti i k e =>
    unfold okS at h
    split at h
    · simp only [Bool.and_eq_true] at h
      obtain ⟨h2, h3, h4⟩ := h
      obtain ⟨n1, n2, n3, n4⟩ := x.name h2
      exact (ps_asg (okE_x e x tk h4) (pg_sub (pe_var n1 n2 n3 n4) (pf (okE_snd k x h3).pe) (PSet.or set_list (set_dict (Nat.lt_of_le_of_lt (by omega) x.un))) (sub_asg (okE_snd k x h3).ns _ _)) sole_sub swap_sub rfl).imp fun D σ H z => z
    · cases h
  | app i e =>
    unfold okS at h
    split at h
    · simp only [Bool.and_eq_true, decide_eq_true_eq] at h
      obtain ⟨h1, h2, h3, h4⟩ := h
      subst h1
      obtain ⟨n1, n2, n3, n4⟩ := x.name h2
      exact app_x n1 n2 n3 n4 (okE_x e x tk h3) (okE_snd e x h3).ns h4
    · cases h
  | par is es =>
    unfold okS at h
    split at h
    · rename_i ts k1 p1 vs k2 p2 pos
      simp only [Bool.and_eq_true, Bool.or_eq_true, decide_eq_true_eq] at h
      obtain ⟨h1, h2, h3, h4, h5⟩ := h
      obtain ⟨_, hns⟩ := okEs_P es x h2 h3
      have hA := okPs_x es x tk h2 h3
      obtain ⟨l1, l2⟩ := okNames_len X h1
      rcases h5 with h5 | h5
      · exact (ps_asg (pe_tup hA) (pg_tup x.calm (okNames_snd x h1) l1 l2) sole_tup (swap_no (by rw [x.sc]; exact h5))).imp fun D σ H z => z
      · unfold swYes at h5
        have kf : X.env.scope.kind = .function := by rw [x.sc]; exact hk
        have loc : ∀ {n : Str}, isLoc cc.sc n = true → X.env.scope.names.lookup n = some .local := fun {n} q => by rw [x.sc]; exact isLoc_inv q
        have ix : ∀ {i : Nat} {n : Str}, cc.targ i n = true → X.N[i]? = some n := fun {i n} q => by
          unfold CC.targ at q
          rw [Bool.and_eq_true] at q
          rw [x.N]
          exact of_decide_eq_true q.1
        have nd : X.N.Nodup := by rw [x.N]; exact x.nd
        split at h5
        · rename_i i j n1 q1 n2 q2 a b
          simp only [Bool.and_eq_true, decide_eq_true_eq, Bool.not_eq_true'] at h5
          obtain ⟨a1, a2, a3, a4, a5, a6, a7⟩ := h5
          simp only [okNames, Bool.and_eq_true] at h1
          exact (ps_par x.calm nd (ix h1.1) (ix h1.2.1) a5 (loc a1) (loc a2) hA (swap2 kf (loc a1) (loc a2) a3 a4 (hns _ (by simp)) (hns _ (by simp)) a6 a7)).imp fun D σ H z => z
        · rename_i i j k n1 q1 n2 q2 n3 q3 a b c
          simp only [Bool.and_eq_true, decide_eq_true_eq, Bool.not_eq_true'] at h5
          obtain ⟨a1, a2, a3, a4, a5, a6, a7, a8, a9, a10, a11, a12, a13⟩ := h5
          simp only [okNames, Bool.and_eq_true] at h1
          exact (ps_par3 x.calm nd (ix h1.1) (ix h1.2.1) (ix h1.2.2.1) a9 a10 a11 (loc a1) (loc a2) (loc a3) hA (swap3 kf (loc a1) (loc a2) (loc a3) a4 a5 a6 a7 a8 (hns _ (by simp)) (hns _ (by simp)) (hns _ (by simp)) a12 a13)).imp fun D σ H z => z
        · cases h5
    · cases h
  | ite c a b =>
    unfold okS at h
    split at h
    · rename_i l p r pos
      simp only [Bool.and_eq_true] at h
      obtain ⟨h1, h2, h3, h4⟩ := h
      have hT : PT X l (TXT X.K W (xE cf c)) := by
        cases c with
        | isN a =>
          unfold okE at h2
          split at h2
          · exact (pt_cmp (pc_isN (okE_x a x tk h2)) rfl).imp fun σ H Q z => z
          · cases h2
        | isNN a =>
          unfold okE at h2
          split at h2
          · exact (pt_cmp (pc_notN (okE_x a x tk h2)) rfl).imp fun σ H Q z => z
          · cases h2
        | call f as =>
          have h2' := h2
          unfold okE at h2'
          split at h2'
          · exact (pt_val (okE_x (.call f as) x tk h2) fun _ => rfl).imp fun σ H Q z => z
          · cases h2'
        | _ => cases hr
      exact (ps_if (t := tNever) (u := tNever) hT pss_never pss_never).imp fun D σ H z => z
    · cases h
  | _ => exact TXS.never hs
mutual
theorem okS_snd : ∀ (c : CS) {X : Cx} {cf : CF} {cc : CC} {st : Stmt} {W : WX}, XOk X cf cc → Dfx X → Takes X W → PassesOwn (model X.prog X.w) X.A X.env X.xe → cc.sc.kind = .function → okS cc c st = true → PS X st (TDS X.K W (evS cf c))
  | .asg p e, X, cf, cc, st, W, x, df, tk, hp, hk, h => by
    unfold okS at h
    split at h
    · rename_i tg v pos
      split at h
      · rename_i i
        split at h
        · rename_i y px
          simp only [Bool.and_eq_true, Bool.or_eq_true, Bool.not_eq_true'] at h
          obtain ⟨h1, h2, h3⟩ := h
          cases hc : isComp v with
          | false => exact asg_any x h1 h2 (sw_plain hc)
          | true =>
            rw [hc] at h3
            rcases h3 with h3 | h3
            · cases h3
            · split at h3
              · exact asg_comp x h1 h2 hk (.inl rfl)
              · exact asg_comp x h1 h2 hk (.inr rfl)
              · cases h3
        · cases h
      · rename_i is
        simp only [Bool.and_eq_true, Bool.not_eq_true'] at h
        obtain ⟨h1, h2, h3⟩ := h
        have hg := okPt_snd x h1
        have he := (okE_snd e x h2).pe
        cases tg with
        | Tuple ts k p => exact (ps_asg (pf he) hg sole_tup (swap_notup h3) rfl).imp asgT_core
        | _ => unfold okPt at h1; cases h1
    · cases h
  | .par is es, X, cf, cc, st, W, x, df, tk, hp, hk, h => by
    unfold okS at h
    split at h
    · rename_i ts k1 p1 vs k2 p2 pos
      simp only [Bool.and_eq_true, Bool.or_eq_true, decide_eq_true_eq] at h
      obtain ⟨h1, h2, h3, h4, h5⟩ := h
      obtain ⟨hA, hns⟩ := okEs_P es x h2 h3
      obtain ⟨l1, l2⟩ := okNames_len X h1
      rcases h5 with h5 | h5
      · exact st_parG x.calm (okNames_snd x h1) l1 l2 hA h4 sole_tup (swap_no (by rw [x.sc]; exact h5))
      · unfold swYes at h5
        have kf : X.env.scope.kind = .function := by rw [x.sc]; exact hk
        have loc : ∀ {n : Str}, isLoc cc.sc n = true → X.env.scope.names.lookup n = some .local := fun {n} q => by rw [x.sc]; exact isLoc_inv q
        have ix : ∀ {i : Nat} {n : Str}, cc.targ i n = true → X.N[i]? = some n := fun {i n} q => by
          unfold CC.targ at q
          rw [Bool.and_eq_true] at q
          rw [x.N]
          exact of_decide_eq_true q.1
        have nd : X.N.Nodup := by rw [x.N]; exact x.nd
        split at h5
        · rename_i i j n1 q1 n2 q2 a b
          simp only [Bool.and_eq_true, decide_eq_true_eq, Bool.not_eq_true'] at h5
          obtain ⟨a1, a2, a3, a4, a5, a6, a7⟩ := h5
          simp only [okNames, Bool.and_eq_true] at h1
          exact st_par2 x.calm nd (ix h1.1) (ix h1.2.1) a5 (loc a1) (loc a2) hA (swap2 kf (loc a1) (loc a2) a3 a4 (hns _ (by simp)) (hns _ (by simp)) a6 a7)
        · rename_i i j k n1 q1 n2 q2 n3 q3 a b c
          simp only [Bool.and_eq_true, decide_eq_true_eq, Bool.not_eq_true'] at h5
          obtain ⟨a1, a2, a3, a4, a5, a6, a7, a8, a9, a10, a11, a12, a13⟩ := h5
          simp only [okNames, Bool.and_eq_true] at h1
          exact st_par3 x.calm nd (ix h1.1) (ix h1.2.1) (ix h1.2.2.1) a9 a10 a11 (loc a1) (loc a2) (loc a3) hA (swap3 kf (loc a1) (loc a2) (loc a3) a4 a5 a6 a7 a8 (hns _ (by simp)) (hns _ (by simp)) (hns _ (by simp)) a12 a13)
        · cases h5
    · cases h
  | .app i e, X, cf, cc, st, W, x, df, tk, hp, hk, h => by
    unfold okS at h
    split at h
    · simp only [Bool.and_eq_true, decide_eq_true_eq] at h
      obtain ⟨h1, h2, h3, h4⟩ := h
      subst h1
      obtain ⟨n1, n2, n3, n4⟩ := x.name h2
      exact st_app n1 n2 n3 n4 (okE_snd e x h3).pe (okE_snd e x h3).ns h4
    · cases h
  | .seti i k e, X, cf, cc, st, W, x, df, tk, hp, hk, h => by
    unfold okS at h
    split at h
    · simp only [Bool.and_eq_true] at h
      obtain ⟨h2, h3, h4⟩ := h
      obtain ⟨n1, n2, n3, n4⟩ := x.name h2
      exact st_seti (Nat.lt_of_le_of_lt (by omega) x.un) n1 n2 n3 n4 (okE_snd k x h3).pe (okE_snd e x h4).pe (okE_snd k x h3).ns
    · cases h
  | .ex e, X, cf, cc, st, W, x, df, tk, hp, hk, h => by
    unfold okS at h
    split at h
    · rename_i l pos
      simp only [Bool.and_eq_true] at h
      refine st_ex (okE_snd e x h.2).pe ?_
      cases l <;> first | rfl | cases h.1
    · cases h
  | .ret e, X, cf, cc, st, W, x, df, tk, hp, hk, h => by
    unfold okS at h
    split at h
    · rename_i l pos
      by_cases hv : ∃ i, e = .v i
      · obtain ⟨i, rfl⟩ := hv
        unfold okE at h
        split at h
        · obtain ⟨n1, n2, n3, n4⟩ := x.name h
          exact st_retV n1 n2 n3 n4
        · cases h
      · exact st_ret (okE_snd e x h).pe fun i z => hv ⟨i, z⟩
    · cases h
  | .retN, X, cf, cc, st, W, x, df, tk, hp, hk, h => by
    unfold okS at h
    split at h
    · exact st_retN
    · cases h
  | .ite c a b, X, cf, cc, st, W, x, df, tk, hp, hk, h => by
    unfold okS at h
    split at h
    · simp only [Bool.and_eq_true] at h
      obtain ⟨h1, h2, h3, h4⟩ := h
      exact st_ite ((okE_snd c x h2).pt h1) (okSs_snd a x df tk hp hk h3) (okSs_snd b x df tk hp hk h4)
    · cases h
  | .for_ p it b, X, cf, cc, st, W, x, df, tk, hp, hk, h => by
    unfold okS at h
    split at h
    · simp only [Bool.and_eq_true] at h
      obtain ⟨h1, h2, h3⟩ := h
      obtain ⟨hi, hn⟩ := okI_snd it x h1
      exact st_for hp x.calm hi (okPt_snd x h2) (okSs_snd b x df tk hp hk h3) hn
    · cases h
  | .whl c b, X, cf, cc, st, W, x, df, tk, hp, hk, h => by
    unfold okS at h
    split at h
    · simp only [Bool.and_eq_true] at h
      obtain ⟨h1, h2, h3⟩ := h
      exact st_whl hp ((okE_snd c x h2).pt h1) (okSs_snd b x df tk hp hk h3)
    · cases h
  | .pass, X, cf, cc, st, W, x, df, tk, hp, hk, h => by
    unfold okS at h
    split at h
    · exact st_pass
    · cases h
  | .brk, X, cf, cc, st, W, x, df, tk, hp, hk, h => by
    unfold okS at h
    split at h
    · exact st_brk
    · cases h
  | .cont, X, cf, cc, st, W, x, df, tk, hp, hk, h => by
    unfold okS at h
    split at h
    · exact st_cont
    · cases h
  | .nev, X, cf, cc, st, W, x, df, tk, hp, hk, h => st_nev
  | .rx c, X, cf, cc, st, W, x, df, tk, hp, hk, h => by
    unfold okS at h
    rw [Bool.and_eq_true] at h
    exact st_rx (okS_snd c x df tk hp hk h.2) (okS_x c x tk hk h.1 h.2 (okS_snd c x df tk hp hk h.2))
  | .rai k as, X, cf, cc, st, W, x, df, tk, hp, hk, h => by
    unfold okS at h
    split at h
    · simp only [Bool.and_eq_true, decide_eq_true_eq] at h
      obtain ⟨h1, h2, h3, h4, h5, h6, h7⟩ := h
      rename_i y p ls pos pos2
      obtain ⟨hA, hns⟩ := okEs_A as x h6 h7
      refine st_rai x.calm tk x.xc h2 h1 x.rm (x.glo h3) (notOdd_inv h4).1 (okEs_L as x h7) ?_
      match ls, h5, h7, hns with
      | [], _, h7, _ =>
        cases as with
        | nil => exact .inl ⟨rfl, rfl⟩
        | cons _ _ => unfold okEs at h7; cases h7
        | star _ _ => cases h6
      | [e], _, _, hns => exact .inr ⟨e, rfl, hns e List.mem_cons_self⟩
      | _ :: _ :: _, h5, _, _ => simp at h5
    · cases h
  | .try_ b cs n u, X, cf, cc, st, W, x, df, tk, hp, hk, h => by
    unfold okS at h
    split at h
    · simp only [Bool.and_eq_true] at h
      obtain ⟨h1, h2, h3⟩ := h
      have hb : ∀ (W : WX) (pn : List (Addr × Obj)) (xe : Value → Shared → Prop), Takes (X.tr pn xe) W → PassesOwn (model X.prog X.w) X.A X.env xe → PSs (X.tr pn xe) _ (TDS X.K W (evSs cf b)) := fun W pn xe tk' hp' => okSs_snd b (X := X.tr pn xe) x.tr df.tr tk' hp' hk h2
      split at h3
      · simp only [Bool.and_eq_true, decide_eq_true_eq] at h3
        exact st_tryA x df.stk df.frm df.exx (by unfold Env.kindOf; rw [x.sc]; exact h3.1) h3.2.1 h1 hb h3.2.2
      · exact st_tryB x df h1 hb h3
      · cases h3
    · cases h
theorem okSs_snd : ∀ (c : CSs) {X : Cx} {cf : CF} {cc : CC} {st : List Stmt} {W : WX}, XOk X cf cc → Dfx X → Takes X W → PassesOwn (model X.prog X.w) X.A X.env X.xe → cc.sc.kind = .function → okSs cc c st = true → PSs X st (TDS X.K W (evSs cf c))
  | .nil, X, cf, cc, st, W, x, df, tk, hp, hk, h => by
    unfold okSs at h
    split at h
    · exact st_nil
    · cases h
  | .cons a r, X, cf, cc, st, W, x, df, tk, hp, hk, h => by
    unfold okSs at h
    split at h
    · rw [Bool.and_eq_true] at h
      exact st_cons (okS_snd a x df tk hp hk h.1) (okSs_snd r x df tk hp hk h.2)
    · cases h
end
end LP

end
section
set_option Elab.async false
set_option linter.all false
set_option maxRecDepth 100000
set_option maxHeartbeats 2000000
/-! LP25: defs by their core terms; the law's end. -/
namespace LP
open PySem PySem.Spec L2
open PyProof.Rows hiding St
variable [Zk]
/-- what the written part holds is not tracked -/
def NoK (K : PySem.W.Frag) (H : Hp) : Prop := ∀ b o, K.lookup b = some o → H b = none
section
variable {P : Program} {w : World} {K : PySem.W.Frag} {mg : Str → Option Value} {base : Heap} {x qual : Str} {params : Arguments} {body : List Stmt} {scope : Scope} {dvs : List V} {kws : List (Str × V)} {f : Addr} {fd : FuncData}
/-- a def by its body, where no repr is running -/
theorem okG {N ps : List Str} {k : Nat} {sp : Sp} (F : FunD K x qual params body scope dvs kws f fd) (S : FnScope N ps scope) (len : ∀ vs H Q E, sp vs H Q E → vs.length = ps.length)
    (go : ∀ (cdv : Value) (A : Around) (outer : List Env) (s : Shared) (H : Hp) (vs : List V) (Q : VK) (E : XK), Room k (A.deeper (envOfC qual scope s.heap.objs.size f cdv)) → A.guards = some [] → sp vs H Q E →
      ∃ t, PSs (cxOf (L2.CX P w) P w K mg base N qual scope f cdv A outer s H E) body t ∧ t { nx := fun _ H' => NoK K H' → Q .non H', rt := fun v H' => NoK K H' → Q v H' } (start N vs) H) : FnG P w K mg base (k + 1) f fd ps sp := by
  obtain ⟨oc, od, dV, kV, doc, pm, an, cdv, ct, osl, rfl, lk, hcd, _, _⟩ := F.ex
  refine ⟨len, fun A outer s H args us vs Q E room gu e0 bnd rel hsp => ?_⟩
  have inK : K.In s.heap := e0.mod.kin.keeps fun b o e => (e0.bs b o e).1
  have nol : s.heap.NoLimit := e0.mod.nolimit.keeps fun b o e => (e0.bs b o e).1
  have kinds : ∀ y ∈ ps.zip us, scope.names.lookup y.1 = some .local ∨ (scope.names.lookup y.1 = some .cell ∧ ((cellsFrom (s.heap.objs.size + 1) scope.names []).lookup y.1).isSome = true) := by
    rintro ⟨n, v⟩ hy
    refine (S.par n (List.of_mem_zip hy).1).imp id fun q => ⟨q, PySem.W.cellsFrom_some _ _ _ (.inl q)⟩
  refine codeAny_call_function room.depth (inK _ _ lk) rfl S.co S.gen rfl (PySem.W.codeRec_of inK hcd) (bnd _ _ _ _ ?_)
  refine wpAny_newFunctionEnv_cells S.kind kinds fun env he s1 ic => ?_
  subst he
  refine ⟨nol.keeps ic.toInCall.keep, codeAny_func ?_⟩
  obtain ⟨t, ht, hq⟩ := go cdv A outer s H vs Q E (room.deeper _) gu hsp
  have I0 : Inv (cxOf (L2.CX P w) P w K mg base N qual scope f cdv A outer s H E) [] (start N vs) H s1 := inv_start S room.hd e0 (len _ _ _ _ hsp) rel ic
  have done : ∀ {σ' : St} {H' : Hp} {s' : Shared} {v : V} {u : Value}, Inv (cxOf (L2.CX P w) P w K mg base N qual scope f cdv A outer s H E) [] σ' H' s' → RelV v u → (NoK K H' → Q v H') → L2.CE outer P w H s Q u s' :=
    fun {σ' H' s' v u} J rv q => ⟨v, H', J.os, J.bare, J.base, J.hok, rv, q fun b o hb => (J.bs b o (J.ok.mod.kin b o hb)).2⟩
  refine wpAny_mono (ht.run [] s1 (start N vs) H _ I0 hq) (fun fl s' hs => ?_) fun e s' hs => hs
  cases fl with
  | ret u =>
    obtain ⟨v, σ', H', J, rv, q⟩ := hs
    exact done J rv q
  | next =>
    obtain ⟨σ', H', J, q⟩ := hs
    exact done (v := V.non) (u := Value.none) J rfl q
  | brk =>
    obtain ⟨_, _, _, z⟩ := hs
    exact False.elim z
  | cont =>
    obtain ⟨_, _, _, z⟩ := hs
    exact False.elim z
end
/-! ### a def's core term -/
theorem Rep.pad {K : PySem.W.Frag} {F G H : Hp} {s : LS} {σ : St} (r : Rep K F G s σ H) (n : Nat) : Rep K F G (s ++ List.replicate n none) (σ ++ List.replicate n none) H := by
  have at_ : ∀ i x, slot (s ++ List.replicate n none) i = some x → slot s i = some x ∧ i < σ.length := fun i x h => by
    by_cases hi : i < s.length
    · unfold slot at h ⊢
      rw [List.getElem?_append_left hi] at h
      exact ⟨h, by rw [r.len]; exact hi⟩
    · unfold slot at h
      rw [List.getElem?_append_right (by omega), List.getElem?_replicate] at h
      split at h <;> cases h
  have σat : ∀ i, i < σ.length → (σ ++ List.replicate n none)[i]? = σ[i]? := fun i hi => List.getElem?_append_left hi
  refine ⟨r.fh, r.gh, r.fg, by simp [r.len], fun i x h m => ?_, fun i x h m => ?_, fun i x h m => ?_, fun i j x y a h1 h2 m1 m2 q1 q2 => ?_, r.tb⟩
  · rw [σat i (at_ i x h).2]; exact r.fz i x (at_ i x h).1 m
  · rw [σat i (at_ i x h).2]; exact r.ow i x (at_ i x h).1 m
  · rw [σat i (at_ i x h).2]; exact r.lk i x (at_ i x h).1 m
  · rw [σat i (at_ i x h1).2] at q1
    rw [σat j (at_ j y h2).2] at q2
    exact r.inj i j x y a (at_ i x h1).1 (at_ j y h2).1 m1 m2 q1 q2
theorem slot_pad {as : List SV} {n i : Nat} {x : SV} (h : as[i]? = some x) : slot (as.map some ++ List.replicate n none) i = some x := by
  have hi : i < as.length := (List.getElem?_eq_some_iff.mp h).1
  unfold slot
  rw [List.getElem?_append_left (by simpa using hi), List.getElem?_map, h]
  rfl
theorem sig_pad {vs : List V} {n i : Nat} {v : V} (h : vs[i]? = some v) : (vs.map some ++ List.replicate n none)[i]? = some (some v) := by
  have hi : i < vs.length := (List.getElem?_eq_some_iff.mp h).1
  rw [List.getElem?_append_left (by simpa using hi), List.getElem?_map, h]
  rfl
theorem Den.noCell {K : PySem.W.Frag} {G H : Hp} {p : Addr} {d d' : D} (h : Den K G (.ref p) d) (g : G p = none) (c : Cell K G H p d') (nk : NoK K H) : False := by
  obtain ⟨o, ho⟩ := c.at
  cases h with
  | lst h l =>
    rcases h with (h | ⟨ob, h⟩) | ⟨ob, _, _, h, _⟩
    · rw [g] at h; cases h
    · rw [g] at h; cases h
    · rw [nk p ob h] at ho; cases ho
  | tup h l => rw [g] at h; cases h
  | dic h l => rw [g] at h; cases h
  | exc _ _ h _ _ => rw [g] at h; cases h
  | exn _ _ h => rw [g] at h; cases h
  | clo _ h _ _ _ => rw [g] at h; cases h
/-- .. that it raises -/
theorem sp_raise {K : PySem.W.Frag} {cf : CF} {fn : Fn} {i : Nat} {cf1 : CF} {N : List Str} {vs : List V} {H : Hp} {D : Ends} {E : XK} (hcf : ∀ as r, cf1 i as = some r → runFn cf fn as = some r) (hN : fn.ns = N.length) (h : spR K cf1 fn.np i vs H E) :
    TDS K (fun cls d _ H' => E cls d H') (evSs cf fn.body) D (start N vs) H := by
  obtain ⟨F, G, as, x, outs, e, la, am, rep, q⟩ := h
  have e := hcf _ _ e
  unfold runFn at e
  obtain ⟨_, e⟩ := ite_some e
  rw [Option.bind_eq_some_iff] at e
  obtain ⟨fl, e1, e2⟩ := e
  have lv : vs.length = as.length := by
    have := rep.len
    simpa using this
  have es : start N vs = vs.map some ++ List.replicate (fn.ns - fn.np) none := by
    unfold L2.start
    rw [hN, lv, la]
  rw [es]
  refine ⟨F, G, _, fl, rep.pad _, e1, ?_⟩
  cases fl with
  | nx s' => cases e2
  | bk s' => cases e2
  | ct s' => cases e2
  | rt v s' =>
    cases e2
    exact fun u σ' H' G' sm pn r' rv => rv.elim
  | ex y s' =>
    cases e2
    exact fun cls dd σ' H' G' sm pn r' er => q cls dd H' G' sm r'.fh r'.gh r'.fg r'.tb er
/-- the promise of a def, from its body's reading -/
theorem sp_body {K : PySem.W.Frag} {cf : CF} {fn : Fn} {i : Nat} {cf1 : CF} {N : List Str} {vs : List V} {H : Hp} {Q : VK} {E : XK} (hcf : ∀ as r, cf1 i as = some r → runFn cf fn as = some r) (hN : fn.ns = N.length) (h : spX K cf1 fn.np i vs H Q E) :
    TDS K (fun cls d _ H' => E cls d H') (evSs cf fn.body) { nx := fun _ H' => NoK K H' → Q .non H', rt := fun v H' => NoK K H' → Q v H' } (start N vs) H := by
  rcases h with ⟨F, G, as, r, e, nx, la, am, rep, q⟩ | h
  rotate_left
  · exact sp_raise hcf hN h
  have e := hcf _ _ e
  unfold runFn at e
  obtain ⟨_, e⟩ := ite_some e
  rw [Option.bind_eq_some_iff] at e
  obtain ⟨fl, e1, e2⟩ := e
  have lv : vs.length = as.length := by
    have := rep.len
    simpa using this
  have es : start N vs = vs.map some ++ List.replicate (fn.ns - fn.np) none := by
    unfold L2.start
    rw [hN, lv, la]
  rw [es]
  refine ⟨F, G, _, fl, rep.pad _, e1, ?_⟩
  have kp := evSs_keep fn.body _ fl e1
  have outs : ∀ {s' : LS} {σ' : St} {H' G' : Hp}, Pin (as.map some ++ List.replicate (fn.ns - fn.np) none) (vs.map some ++ List.replicate (fn.ns - fn.np) none) σ' → Rep K F G' s' σ' H' → OutRep K F G' H' vs as (s'.take fn.np) := fun {s' σ' H' G'} pn r' => by
    intro i x y hx mx hy
    have hi : i < as.length := (List.getElem?_eq_some_iff.mp hx).1
    obtain ⟨v, hv⟩ : ∃ v, vs[i]? = some v := ⟨vs[i], List.getElem?_eq_getElem (by omega)⟩
    have sv : σ'[i]? = some (some v) := by
      rw [pn i x (slot_pad hx) (by rw [mx]; rfl)]
      exact sig_pad hv
    have sl : slot s' i = some y := by
      unfold slot
      rw [List.getElem?_take_of_lt (by omega)] at hy
      rw [hy]
      rfl
    refine ⟨fun m => ?_, fun m => ?_⟩
    · obtain ⟨a, ea, f, g, c⟩ := r'.ow i y sl (by rw [m]; rfl)
      rw [sv] at ea
      cases ea
      exact ⟨a, hv, f, g, c⟩
    · obtain ⟨u, eu, d⟩ := r'.fz i y sl (by rw [m]; rfl)
      rw [sv] at eu
      cases eu
      exact ⟨v, hv, d⟩
  cases fl with
  | nx s' =>
    cases e2
    exact fun σ' H' G' sm pn r' nk => q .non H' G' sm r'.fh r'.gh r'.fg (outs pn r') Den.non r'.tb
  | rt v s' =>
    cases e2
    refine fun u σ' H' G' sm pn r' rv nk => q u H' G' sm r'.fh r'.gh r'.fg (outs pn r') ?_ r'.tb
    obtain ⟨m, d⟩ := v
    cases m with
    | fz => exact rv
    | ow =>
      obtain ⟨p, ep, f, g, c, no⟩ := rv
      refine ⟨p, ep, f, g, c, fun i y hy my ev => ?_⟩
      have sy := slot_pad (n := fn.ns - fn.np) hy
      have sv : σ'[i]? = some (some (.ref p)) := by
        rw [pn i y sy (by rw [my]; rfl)]
        exact sig_pad ev
      obtain ⟨z, hz, mz⟩ := kp.io i y sy (by rw [my]; rfl)
      have hz : slot s' i = some z := hz
      cases hm : z.m with
      | io => exact no i z hz (by rw [hm]; rfl) sv
      | fi =>
        obtain ⟨u', eu, dd⟩ := r'.fz i z hz (by rw [hm]; rfl)
        rw [sv] at eu
        cases eu
        exact dd.noCell g c nk
      | _ => rw [hm] at mz; cases mz
    | _ => exact rv.elim
  | bk s' => cases e2
  | ct s' => cases e2
  | ex x s' => cases e2; cases nx
/-- one def of the text with its core term -/
structure FD where
  nm : Str
  N : List Str
  pa : Arguments
  bd : List Stmt
  sc : Scope
  fn : Fn
def FD.ps (d : FD) : List Str := d.N.take d.fn.np
def fsOf : Nat → List FD → List (Str × Nat × Nat)
  | _, [] => []
  | n, d :: r => (d.nm, n, d.fn.np) :: fsOf (n + 1) r
theorem fsOf_inv {x : Str} {i np : Nat} : ∀ {l : List FD} {n : Nat}, (fsOf n l).lookup x = some (i, np) → ∃ j d, i = n + j ∧ l[j]? = some d ∧ d.nm = x ∧ d.fn.np = np
  | [], n, h => by cases h
  | d :: r, n, h => by
    unfold fsOf at h
    rw [List.lookup_cons] at h
    cases hx : (x == d.nm) with
    | true =>
      rw [hx] at h
      cases h
      exact ⟨0, d, rfl, rfl, (beq_iff_eq.mp hx).symm, rfl⟩
    | false =>
      rw [hx] at h
      obtain ⟨j, d', h1, h2, h3, h4⟩ := fsOf_inv h
      exact ⟨j + 1, d', by omega, by simpa using h2, h3, h4⟩
def ccOf (l : List FD) (bn : List Str) (gs : List (Str × GV)) (d : FD) : CC := ⟨d.sc, d.N, fun _ => true, bn, gs, fsOf 0 l⟩
/-- the look at one def -/
def FD.ok (l : List FD) (bn : List Str) (gs : List (Str × GV)) (d : FD) : Bool := C8.scC d.N d.ps d.sc && (decide (d.fn.ns = d.N.length) && (decide (d.fn.np ≤ d.N.length) && okSs (ccOf l bn gs d) d.fn.body d.bd))
def tabOf (l : List FD) : List Fn := l.map (·.fn)
/-- what is known of the module -/
structure ModOk (P : Program) (K : PySem.W.Frag) (mg : Str → Option Value) (l : List FD) (bn : List Str) (gs : List (Str × GV)) : Prop where
  hbn : ∀ x ∈ bn, mg x = none
  hgi : ∀ x i, gs.lookup x = some (.int i) → ∃ u, mg x = some u ∧ RelV (.int i) u
  hgs : ∀ x i, gs.lookup x = some (.str i) → ∃ u, mg x = some u ∧ RelV (.str i) u
  hfs : ∀ (i : Nat) (d : FD), l[i]? = some d → ∃ f fd, FunD K d.nm d.nm d.pa d.bd d.sc [] [] f fd ∧ mg d.nm = some (.ref f) ∧ Binds K fd d.ps []
  hok : ∀ d ∈ l, d.ok l bn gs = true
  hxc : XcA P K mg
  htc : ∀ c ∈ Zk.ts, (∃ t, bltX c = some t ∧ mg c = none) ∨ (bltX c = none ∧ mg c = some (.ref (He.ga K c)))
theorem lvl {P : Program} {w : World} {K : PySem.W.Frag} {mg : Str → Option Value} {base : Heap} {l : List FD} {bn : List Str} {gs : List (Str × GV)} (M : ModOk P K mg l bn gs) (sm : SmB base) : ∀ (n i : Nat) (d : FD) (f : Addr) (fd : FuncData), l[i]? = some d → FunD K d.nm d.nm d.pa d.bd d.sc [] [] f fd → FnG P w K mg base (n + 1) f fd d.ps (spX K (callF (tabOf l) n) d.fn.np i)
  | 0, i, d, f, fd, hd, F => by
    have no : ∀ vs H Q E, ¬ spX K (callF (tabOf l) 0) d.fn.np i vs H Q E := fun vs H Q E h => by
      rcases h with ⟨F, G, as, r, e, _⟩ | ⟨F, G, as, x, o, e, _⟩ <;> cases e
    exact ⟨fun vs H Q E h => absurd h (no vs H Q E), fun A outer s H args us vs Q E _ _ _ _ _ h => absurd h (no vs H Q E)⟩
  | n + 1, i, d, f, fd, hd, F => by
    have hok := M.hok d (List.mem_of_getElem? hd)
    unfold FD.ok at hok
    simp only [Bool.and_eq_true, decide_eq_true_eq] at hok
    obtain ⟨h1, h2, h3, h4⟩ := hok
    have S := C8.fnScope_by h1
    have lp : d.ps.length = d.fn.np := by unfold FD.ps; rw [List.length_take]; omega
    refine okG F S (fun vs H Q E hsp => ?_) (fun cdv A outer s H vs Q E room gu hsp => ⟨TDS K (fun cls d _ H' => E cls d H') (evSs (callF (tabOf l) n) d.fn.body), ?_, sp_body (fun as r e => ?_) h2 hsp⟩)
    · rcases hsp with ⟨F', G', as, r, e, _, la, am, rep, _⟩ | ⟨F', G', as, x, o, e, la, am, rep, _⟩
      · have := rep.len
        simp only [List.length_map] at this
        rw [lp, this, la]
      · have := rep.len
        simp only [List.length_map] at this
        rw [lp, this, la]
    · refine okSs_snd (cc := ccOf l bn gs d) d.fn.body ⟨rfl, rfl, rfl, S.nd, rfl, gu, ?_, sm, M.hbn, M.hgi, M.hgs, fun x g m hx => ?_, M.hxc, room.mono (by omega), M.htc⟩ ⟨rfl, rfl, rfl⟩ (takes_of (E₁ := fun e' s'' => L2.CX P w outer H s E e' s'') rfl rfl rfl rfl) (passes_of (K := fun e s'' => L2.CX P w outer H s E e s'') rfl) S.kind h4
      · have := room.un
        show (A.deeper _).units + 70 < cLine
        omega
      · obtain ⟨j, d', rfl, hj, rfl, rfl⟩ := fsOf_inv hx
        obtain ⟨f', fd', F', mg', b'⟩ := M.hfs j d' hj
        rw [Nat.zero_add]
        exact ⟨n + 1, f', fd', d'.ps, lvl M sm n j d' f' fd' hj F', room, mg', F'.kp, b'⟩
    · unfold callF at e
      unfold tabOf at e
      rw [List.getElem?_map, hd] at e
      exact e
/-! ### the law's end -/
/-- the law's own call, at the heap behind the top -/
theorem end_call {P : Program} {w : World} {K : PySem.W.Frag} {mg mb : Str → Option Value} {k : Nat} {fa a : Addr} {fd : FuncData} {x : Str} {sp : Sp} {s1 : Shared} {vs : List Value} {ns : List Int}
    (inK : K.In s1.heap) (hns : s1.heap.Ns mainGlobals mg) (hb : s1.heap.Ns builtinsNs mb) (hbb : ∀ y : Str, y ≠ "__name__" → mb y = bootBuiltins y) (nol : s1.heap.NoLimit) (hg : s1.gens = #[])
    (ha : s1.heap.get? a = some { cls := .type "list", data := .seq vs.toArray }) (hi : IntsAre vs ns) (hl : ns.length ≤ sizeLine) (room : Room k callerA)
    (F : ∀ base : Heap, SmB base → FnG P w K mg base k fa fd [x] sp) (hsm : SmB s1.heap) (hbind : ∀ (s : Shared) (u : Value), BindsTo s fd ⟨[u], []⟩ [(x, u)])
    (hsp : ∀ H : Hp, Only H → SqL K H a (ns.map V.int) → sp [.ref a] H (fun v _ => v = .bl true) fun _ _ _ => False) :
    codeAny (model P w) callerA (.call (.ref fa) ⟨[.ref a], []⟩) (fun r s' => r = .ok (.ret (.bool true)) ∧ OldK s1.heap s'.heap ∧ s'.os = s1.os ∧ AllBare s'.gens) s1 := by
  have rv := vals_ints hi
  -- the script is tracked as it is, unless it is an object of the written part
  obtain ⟨H, only, sq, hok, hA, hK⟩ : ∃ H : Hp, Only H ∧ SqL K H a (ns.map V.int) ∧ HOk P w H s1.heap ∧ (∀ b, H b ≠ none → b = a) ∧ (H a ≠ none → K.lookup a = none) := by
    cases hk : K.lookup a with
    | some o =>
      have eo := inK a o hk
      rw [ha] at eo
      cases eo
      refine ⟨fun _ => none, fun _ => .inl rfl, .inr ⟨_, vs.toArray, _, hk, rfl, rfl, rfl, ?_, by simpa using rv⟩, (fun b u z => by cases z), fun b z => absurd rfl z, fun z => absurd rfl z⟩
      rw [List.size_toArray, hi.length]
      exact hl
    | none =>
      refine ⟨upd (fun _ => none) a (.frz { cls := .type "list", data := .seq vs.toArray } (.lst (ns.map V.int))), fun b => ?_, .inl (.inr ⟨_, upd_same⟩), fun b u z => ?_, fun b z => ?_, fun _ => rfl⟩
      · by_cases e : b = a
        · rw [e]; exact .inr ⟨_, _, upd_same⟩
        · exact .inl (upd_ne e)
      · by_cases e : b = a
        · rw [e, upd_same] at z
          cases z
          rw [e]
          exact ⟨ha, by rw [List.length_map]; exact hl, vs, _, rv, ha⟩
        · rw [upd_ne e] at z; cases z
      · by_cases e : b = a
        · exact e
        · exact absurd (upd_ne e) z
  have offD : ∀ {b : Addr} {o : Obj} {es : Array DictEntry} {ep : Nat}, s1.heap.get? b = some o → o.data = .dict es ep → H b = none := fun {b o es ep} e d => by
    cases q : H b with
    | none => rfl
    | some u =>
      have eb : b = a := hA b (by rw [q]; simp)
      rw [eb, ha] at e
      cases e
      cases d
  have nsB : ∀ {b : Addr} {m : Str → Option Value}, s1.heap.Ns b m → (hidT s1.heap H).Ns b m := fun {b m} ⟨o, es, ep, e, d, r⟩ => ⟨o, es, ep, hidT_get e (offD e d), d, r⟩
  have kB : K.In (hidT s1.heap H) := fun b o e => hidT_get (inK b o e) (by
    cases q : H b with
    | none => rfl
    | some u =>
      have eb : b = a := hA b (by rw [q]; simp)
      have ek := hK (by rw [← eb, q]; simp)
      rw [eb, ek] at e
      cases e)
  have modB : Mod K mg (hidT s1.heap H) := ⟨kB, nsB hns, ⟨mb, nsB hb, hbb⟩, nol.elim fun mc z => ⟨mc, nsB z.1, z.2⟩⟩
  have e0 : Env0 P w K mg (hidT s1.heap H) callerA [] s1 H := ⟨rfl, modB, fun b o e => of_hidT e, Nat.le_of_eq (hidT_size _ _), trivial, fun b hb => absurd (show b ∈ ([] : List Addr) from hb) (by simp), hok, .of_eq hg⟩
  have smB : SmB (hidT s1.heap H) := by
    obtain ⟨o, es, ep, e1, e2⟩ := hsm
    exact ⟨o, es, ep, hidT_get e1 (offD e1 e2), e2⟩
  refine codeAny_mono ((F _ smB).run callerA [] s1 H ⟨[.ref a], []⟩ [.ref a] [.ref a] _ _ room rfl e0 (hbind s1 (.ref a)) (.cons rfl .nil) (hsp H only sq)) fun r s' h => ?_
  cases r with
  | error e =>
    obtain ⟨_, _, _, _, _, _, _, _, _, _, _, _, z⟩ := h
    exact z.elim
  | ok fl =>
    cases fl with
    | ret u =>
      obtain ⟨v, H', os, bare, un, hok', ru, q⟩ := h
      have q : v = .bl true := q
      rw [q] at ru
      obtain rfl : u = Value.bool true := ru
      refine ⟨rfl, OldK.of_keep fun b o e => ?_, os, bare⟩
      rcases only b with z | ⟨ob, xs, z⟩
      · exact un.keep b o e z (fun m => absurd (show b ∈ ([] : List Addr) from m) (by simp)) (by simp)
      · have e1 := (hok b _ z).1
        have e2 := (hok' b _ (un.frzs b ob _ z)).1
        rw [e] at e1
        cases e1
        exact e2
    | next => exact False.elim h
    | brk => exact False.elim h
    | cont => exact False.elim h
/-- a law: the written part, the defs, and the law's answer by the evaluator -/
theorem end_walk {l : PySem.W.OpenLaw} {n k : Nat} {q : Program} {loose : List Str} {XP : (Str → Option Value) → Heap → Prop} {YP : World → Heap → Prop} {d : DefRec} {x : Str} {defs : List FD} {bn : List Str} {gs : List (Str × GV)} {li : Nat} {dl : FD}
    (hn : l.most = some n) (hn2 : n ≤ sizeLine) (hdf : d.params.defaults = []) (room : Room (k + 1) callerA) (hli : defs[li]? = some dl) (hps : dl.ps = [x]) (hnm : dl.nm = d.name) (himp : importsNone q = true)
    (F : ∀ (w : World) (mg : Str → Option Value) (h : Heap), YP w h → h.Ns mainGlobals mg → ∃ K : PySem.W.Frag, K.In h ∧ ModOk l.prog K mg defs bn gs ∧ ∀ f fd, FunD K dl.nm dl.nm dl.pa dl.bd dl.sc [] [] f fd → ∀ (s : Shared) (u : Value), BindsTo s fd ⟨[u], []⟩ [(x, u)])
    (hzz : ∀ (K : PySem.W.Frag) (G H : Hp), Zk.z K G H) (law : ∀ ns : List Int, ns.length ≤ n → ∃ o, callF (tabOf defs) k li [⟨.fz, .list (ns.map .int)⟩] = some (⟨.fz, .bool true⟩, o)) :
    PySem.W.WalkO q loose XP YP l.row.toRowW d [] (fun f vs => PySem.call f vs) := by
  refine Att.attach_call hn hdf fun w s0 s1 mg mb fa o pm cd doc a vs ns G Y ho hd hcd hmg hobj hints hlen hg => ?_
  obtain ⟨K, inK, M, hb⟩ := F w mg _ Y G.T.g
  obtain ⟨f, fd, FL, mgf, _⟩ := M.hfs li dl hli
  rw [hnm] at mgf
  have e := hmg.symm.trans mgf
  cases e
  have L : ∀ base : Heap, SmB base → FnG l.prog w K mg base (k + 1) fa fd [x] (spX K (callF (tabOf defs) k) dl.fn.np li) := fun base sm => by
    rw [← hps]
    exact lvl M sm k li dl fa fd hli FL
  have hsm : SmB s1.heap := by
    obtain ⟨mm, ⟨o, es, ep, e1, e2, _⟩, _⟩ := (G.T.seer himp).mods
    exact ⟨o, es, ep, e1, e2⟩
  refine end_call inK G.T.g G.T.b G.T.builtins G.T.nolimit hg hobj hints (Nat.le_trans hlen hn2) room L hsm (hb fa fd FL) fun H only sq => ?_
  obtain ⟨out, ev⟩ := law ns hlen
  have np1 : dl.fn.np = 1 := by
    have h1 := M.hok dl (List.mem_of_getElem? hli)
    unfold FD.ok at h1
    simp only [Bool.and_eq_true, decide_eq_true_eq] at h1
    have h2 : dl.ps.length = 1 := by rw [hps]; rfl
    unfold FD.ps at h2
    rw [List.length_take] at h2
    omega
  have dn : Den K H (.ref a) (.list (ns.map PyData.int)) := .lst sq (denL_ints ns)
  refine .inl ⟨fun _ => none, H, _, _, ev, rfl, by rw [np1]; rfl, fun y hy => ?_, ⟨(fun b o z => by cases z), Same.refl _, (fun b o z => by cases z), rfl, fun i y hy my => ?_, fun i y hy my => ?_, fun i y hy my => ?_, fun i j y z b hy hz my => ?_, hzz K H H⟩, fun v H' G' _ _ _ _ _ res _ => ?_⟩
  · rw [List.mem_singleton.mp hy]; exact .inl rfl
  · match i, hy with
    | 0, hy =>
      cases hy
      exact ⟨.ref a, rfl, dn⟩
    | i + 1, hy => cases hy
  · match i, hy with
    | 0, hy => cases hy; cases my
    | i + 1, hy => cases hy
  · match i, hy with
    | 0, hy => cases hy; cases my
    | i + 1, hy => cases hy
  · match i, hy with
    | 0, hy => cases hy; cases my
    | i + 1, hy => cases hy
  · have res : Den K G' v (.bool true) := res
    cases res
    rfl
end LP

end
section
set_option Elab.async false
set_option linter.all false
set_option maxRecDepth 100000
set_option maxHeartbeats 4000000
/-! LX6: the own exception classes, read off the head. -/
namespace LP
open PySem PySem.Spec L2
open PyProof.Rows hiding St
/-- an own exception class: its number, its __init__ -/
structure XD where
  k : Nat
  x : Str
  fo : Option Str
  pa : Arguments
  bd : List Stmt
  sc : Scope
  me : Str
  mo : List Str
def XD.qual (d : XD) : Str := d.x ++ ("." : Str) ++ ("__init__" : Str)
def bmVE : List Value := [.type "ValueError", .type "Exception", .type "BaseException", .type "object"]
def bmLE : List Value := [.type "LookupError", .type "Exception", .type "BaseException", .type "object"]
/-- ValueError, or LookupError where there is no field -/
def XD.B (d : XD) : String := if d.fo.isSome then "ValueError" else "LookupError"
def XD.nw (d : XD) : String := if d.fo.isSome then "ValueError.__new__" else "LookupError.__new__"
def XD.it (d : XD) : String := if d.fo.isSome then "ValueError.__init__" else "LookupError.__init__"
def XD.bm (d : XD) : List Value := if d.fo.isSome then bmVE else bmLE
abbrev FnI : Type := Option (Str × Str × Arguments × FuncBody × Scope × Addr × Addr)
def fnI (K : PySem.W.Frag) (d : XD) : FnI := match K.lookup (He.ma K (He.ga K d.x) "__init__") with
  | some ⟨_, _, .func fd, _⟩ => some (fd.name, fd.qualname, fd.params, fd.body, fd.scope, fd.globals, fd.builtins)
  | _ => none
def XD.val (d : XD) : FnI := some ("__init__", d.qual, d.pa, .stmts d.bd, d.sc, mainGlobals, builtinsNs)
def eqB (a b : Option Bool) : Bool := decide (a = b)
def eqV (a b : Option Value) : Bool := decide (a = b)
def cellB (K : PySem.W.Frag) (C cc : Addr) : Bool := match K.lookup cc with
  | some ⟨_, _, .cell (some (.ref D)), _⟩ => decide (D = C)
  | _ => false
def codeB (K : PySem.W.Frag) (file : Str) (cda : Addr) : Bool := match K.lookup cda with
  | some ⟨_, _, .fields vs, _⟩ => (match (vs[2]? : Option Value) with
    | some (Value.str f _) => decide (f = file)
    | _ => false)
  | _ => false
/-- the function's closure, code, defaults -/
def fdB (K : PySem.W.Frag) (file : Str) (C : Addr) (qual : Str) (fd : FuncData) : Bool := (match fd.closure with
  | [(n, cc)] => decide (n = ("__class__" : Str)) && cellB K C cc
  | _ => false) && ((match fd.code with
  | .ref cda => PySem.W.codeIn K (.ref cda) qual && codeB K file cda
  | _ => false) && (match fd.defaults with
  | .none => true
  | _ => false))
def funB (K : PySem.W.Frag) (file : Str) (C fI : Addr) (qual : Str) : Bool := match K.lookup fI with
  | some ⟨_, _, .func fd, _⟩ => fdB K file C qual fd
  | _ => false
def wrB (K : PySem.W.Frag) (C : Addr) (f : Str) : Bool := (match PySem.W.clsIn K C with
  | some cd => PySem.HandSPX.refsVE cd.mro && cd.hasDict
  | none => false) && (He.eqO (PySem.W.findIn K (.ref C) "__setattr__") (some (some (.builtin "object.__setattr__"))) && He.eqO (PySem.W.findIn K (.ref C) f) (some none))
def XD.clB (K : PySem.W.Frag) (ts : List Str) (d : XD) : Bool :=
  He.eqO (PySem.W.nsIn K mainGlobals d.x) (some (some (.ref (He.ga K d.x)))) && (PySem.W.keepIn K (.ref (He.ga K d.x)) && (eqV (PySem.W.typeIn K (.ref (He.ga K d.x))) (some (.type "type")) && (xfB K (He.ga K d.x) &&
    (He.eqO (PySem.W.findIn K (.ref (He.ga K d.x)) "__class__") (some (some (.builtin "object.__class__"))) && (He.eqO (PySem.W.specialIn K (.builtin "object.__class__") "__get__") (some (some (.builtin "getset_descriptor.__get__"))) &&
      (eqB (PySem.W.takesIn K (.builtin "object.__class__")) (some true) && (eqB (PySem.W.mroIn K (He.ga K d.x) (.type "object")) (some true) &&
        ts.all fun c => eqB (PySem.W.kitOne K (.ref (He.ga K d.x)) (clsV K c)) (some (decide (c ∈ exUp d.k))) && eqB (PySem.W.exmOne K (.ref (He.ga K d.x)) (clsV K c)) (some (decide (c ∈ exUp d.k))))))))))
def XD.inB (K : PySem.W.Frag) (file : Str) (d : XD) : Bool :=
  PySem.W.excInitIn K (He.ga K d.x) d.bm d.nw && (He.eqO (PySem.W.findIn K (.ref (He.ga K d.x)) "__init__") (some (some (.ref (He.ma K (He.ga K d.x) "__init__")))) && (eqV (PySem.W.typeIn K (.ref (He.ma K (He.ga K d.x) "__init__"))) (some (.type "function")) &&
    (funB K file (He.ga K d.x) (He.ma K (He.ga K d.x) "__init__") d.qual && (eqB (PySem.W.mroIn K (He.ga K d.x) (.ref (He.ga K d.x))) (some true) && (eqB (PySem.W.subIn K (.ref (He.ga K d.x)) (.type d.B)) (some true) &&
      (He.eqO (PySem.W.nsIn K mainGlobals "super") (some none) && (He.eqO (PySem.W.nsIn K cStatics "thirdparty.any") (some none) && (He.eqO (PySem.W.ks_superIn K (He.ga K d.x) (He.ga K d.x) "__init__") (some (some (.builtin d.it))) &&
        (match d.fo with
          | some f => wrB K (He.ga K d.x) f
          | none => true)))))))))
/-- the text of __init__ -/
def XD.txB (d : XD) : Bool := decide (d.sc.kind = .function) && (!d.sc.isCoroutine && (!d.sc.isGenerator && (d.sc.names.all (fun y => !decide (y.2 = .cell)) && (decide (d.sc.names.lookup ("super" : Str) = some .globalImplicit) && (decide (d.sc.names.lookup ("__class__" : Str) = some .free) &&
  (decide (d.sc.names.lookup d.me = some .local) && (d.mo.all (fun y => decide (d.sc.names.lookup y = some .local)) && (decide (((d.pa.posonlyargs ++ d.pa.args).head?).map (·.arg) = some d.me) && (!(d.me == ("__debug__" : Str)) &&
    (match d.fo, d.mo, d.bd with
      | some f, [y], [.Expr (.Call (.Attribute (.Call (.Name s _) [] [] _) i p2) [.Constant (.str _) _ _] [] p4) _, .Assign [.Attribute (.Name m _) g _] (.Name z _) _] =>
        decide (s = ("super" : Str)) && (decide (i = ("__init__" : Str)) && (decide (m = d.me) && (decide (g = f) && (decide (z = y) && ((p2.endLine == p4.line) && (decide (d.me ≠ y) && !(y == ("__debug__" : Str))))))))
      | none, [], [.Expr (.Call (.Attribute (.Call (.Name s _) [] [] _) i p2) [.Constant (.str _) _ _] [] p4) _] => decide (s = ("super" : Str)) && (decide (i = ("__init__" : Str)) && (p2.endLine == p4.line))
      | _, _, _ => false))))))))))
def XD.Bd (d : XD) : Prop := ∀ (kV doc pm : Value) (an : Option Addr) (cdv ct : Value) (cc : Addr) (us : List Value), us.length = d.mo.length + 1 → bindArgs (PySem.W.ksFn "__init__" d.qual d.pa d.bd d.sc .none kV doc pm an cdv ct cc) ⟨us, []⟩ = pure ((d.me :: d.mo).zip us)
/-- .. by the field's name -/
def XD.Bk (d : XD) : Prop := ∀ f, d.fo = some f → ∀ (kV doc pm : Value) (an : Option Addr) (cdv ct : Value) (cc : Addr) (u0 u : Value), bindArgs (PySem.W.ksFn "__init__" d.qual d.pa d.bd d.sc .none kV doc pm an cdv ct cc) ⟨[u0], [(f, u)]⟩ = pure ((d.me :: d.mo).zip [u0, u])
theorem baV {a b : Bool} (h : (a && b) = true) : a = true ∧ b = true := Bool.and_eq_true_iff.mp h
theorem eqB_ok {a b : Option Bool} (h : eqB a b = true) : a = b := of_decide_eq_true h
theorem eqV_ok {a b : Option Value} (h : eqV a b = true) : a = b := of_decide_eq_true h
theorem XD.init {K : PySem.W.Frag} {file : Str} {d : XD} (hI : d.inB K file = true) (hT : d.txB = true) (hv : fnI K d = d.val) :
    ∃ cc cda kV doc pm an ct fd, fd = PySem.W.ksFn "__init__" d.qual d.pa d.bd d.sc .none kV doc pm an (.ref cda) ct cc ∧ XI K file (He.ga K d.x) d.B d.nw d.it d.bm (He.ma K (He.ga K d.x) "__init__") cc cda d.me d.mo d.qual fd ∧ (∀ f, d.fo = some f → XW K (He.ga K d.x) f) := by
  unfold XD.inB at hI
  obtain ⟨i1, hI⟩ := baV hI
  obtain ⟨i2, hI⟩ := baV hI
  obtain ⟨i3, hI⟩ := baV hI
  obtain ⟨i4, hI⟩ := baV hI
  obtain ⟨i5, hI⟩ := baV hI
  obtain ⟨i6, hI⟩ := baV hI
  obtain ⟨i7, hI⟩ := baV hI
  obtain ⟨i8, hI⟩ := baV hI
  obtain ⟨i9, i10⟩ := baV hI
  unfold XD.txB at hT
  simp only [Bool.and_eq_true, decide_eq_true_eq, Bool.not_eq_true', List.all_eq_true, decide_eq_false_iff_not] at hT
  obtain ⟨t1, t2, t3, t4, t5, t6, t7, t8, t9, t10, _⟩ := hT
  unfold fnI at hv
  unfold funB at i4
  cases hl : K.lookup (He.ma K (He.ga K d.x) "__init__") with
  | none => rw [hl] at i4; cases i4
  | some o =>
    obtain ⟨oc, od, dt, osl⟩ := o
    rw [hl] at i4 hv
    cases dt with
    | func fd =>
      obtain ⟨n1, n2, n3, n4, n5, n6, n7, n8, n9, n10, n11, n12, n13, n14, n15⟩ := fd
      have hv : (some (n1, n2, n3, n4, n5, n6, n15) : FnI) = d.val := hv
      unfold XD.val at hv
      simp only [Option.some.injEq, Prod.mk.injEq] at hv
      obtain ⟨v1, v2, v3, v4, v5, v6, v7⟩ := hv
      subst v1 v2 v3 v4 v5 v6 v7
      simp only [fdB] at i4
      obtain ⟨j1, j2⟩ := baV i4
      obtain ⟨j2, j3⟩ := baV j2
      -- the closure
      obtain ⟨cc, ec, jc⟩ : ∃ cc, n7 = [(("__class__" : Str), cc)] ∧ cellB K (He.ga K d.x) cc = true := by
        match n7, j1 with
        | [(n, cc)], j1 =>
          obtain ⟨a, b⟩ := baV j1
          exact ⟨cc, by rw [of_decide_eq_true a], b⟩
        | [], j1 => cases j1
        | _ :: _ :: _, j1 => cases j1
      obtain ⟨cda, ed, jd, je⟩ : ∃ cda, n13 = .ref cda ∧ PySem.W.codeIn K (.ref cda) d.qual = true ∧ codeB K file cda = true := by
        cases n13 with
        | ref cda =>
          obtain ⟨a, b⟩ := baV j2
          exact ⟨cda, rfl, a, b⟩
        | _ => cases j2
      have e8 : n8 = .none := by
        cases n8 with
        | none => rfl
        | _ => cases j3
      subst ec ed e8
      refine ⟨cc, cda, n9, n10, n11, n12, n14, _, rfl, ⟨i1, ⟨oc, od, osl, hl⟩, ⟨_, _, _, _, _, _, _, _, _, _, rfl, ?_, t1, t2, t3, t4, t5, t6, t7, t8⟩, jd, ?_, ?_, eqB_ok i5, eqB_ok i6, He.eqO_ok i7, He.eqO_ok i8, He.eqO_ok i9⟩, fun f hf => ?_⟩
      · rw [Option.map_eq_some_iff] at t9
        obtain ⟨ar, a1, a2⟩ := t9
        exact ⟨ar, a1, a2⟩
      · unfold codeB at je
        split at je
        · rename_i vs _ ho
          split at je
          · rename_i f tk hf
            rw [of_decide_eq_true je] at hf
            exact ⟨_, _, _, _, tk, ho, hf⟩
          · cases je
        · cases je
      · unfold cellB at jc
        split at jc
        · rename_i D _ ho
          rw [of_decide_eq_true jc] at ho
          exact ⟨_, _, _, ho⟩
        · cases jc
      · rw [hf] at i10
        have i10 : wrB K (He.ga K d.x) f = true := i10
        unfold wrB at i10
        obtain ⟨a, b⟩ := baV i10
        obtain ⟨b, c⟩ := baV b
        split at a
        · rename_i cd hc
          obtain ⟨a1, a2⟩ := baV a
          exact ⟨⟨cd, hc, a1, a2⟩, He.eqO_ok b, He.eqO_ok c⟩
        · cases a
    | _ => cases i4
theorem XD.facts {P : Program} {K : PySem.W.Frag} {mg : Str → Option Value} {h : Heap} {ts : List Str} {d : XD} (X : K.In h) (G : h.Ns mainGlobals mg) (hx : exTab[d.k]? = some (d.x, d.fo)) (hC : d.clB K ts = true) (hI : d.inB K P.main.file = true) (hT : d.txB = true) (hv : fnI K d = d.val) (hb : d.Bd) (hbk : d.Bk)
    (htop : (P.main.scope.names.lookup ("super" : Str)).isSome = false) : XcF P K mg d.k d.x d.fo ts := by
  have hI' := hI
  have hT' := hT
  unfold XD.clB at hC
  obtain ⟨c1, hC⟩ := baV hC
  obtain ⟨c2, hC⟩ := baV hC
  obtain ⟨c3, hC⟩ := baV hC
  obtain ⟨c4, hC⟩ := baV hC
  obtain ⟨c5, hC⟩ := baV hC
  obtain ⟨c6, hC⟩ := baV hC
  obtain ⟨c7, hC⟩ := baV hC
  obtain ⟨c8, c9⟩ := baV hC
  obtain ⟨cc, cda, kV, doc, pm, an, ct, fd, efd, T, W⟩ := XD.init hI hT hv
  have hall := List.all_eq_true.mp c9
  have hw : ∀ f, d.fo = some f → PySem.W.findIn K (.ref (He.ga K d.x)) f = some none := fun f hf => (W f hf).no
  unfold XD.inB at hI
  obtain ⟨i1, hI⟩ := baV hI
  obtain ⟨i2, hI⟩ := baV hI
  obtain ⟨i3, _⟩ := baV hI
  have bind : ∀ (s : Shared) (us : List Value), us.length = d.mo.length + 1 → BindsTo s fd ⟨us, []⟩ ((d.me :: d.mo).zip us) := fun s us hl M A Q E h => by
    rw [efd, hb kV doc pm an (.ref cda) ct cc us hl]
    exact wpAny_pure h
  have bindk : ∀ (s : Shared) (f : Str), d.fo = some f → ∀ u0 u : Value, BindsTo s fd ⟨[u0], [(f, u)]⟩ ((d.me :: d.mo).zip [u0, u]) := fun s f hf u0 u M A Q E h => by
    rw [efd, hbk f hf kV doc pm an (.ref cda) ct cc u0 u]
    exact wpAny_pure h
  have hbd : fd.body = .stmts d.bd := by rw [efd]
  unfold XD.txB at hT
  simp only [Bool.and_eq_true, decide_eq_true_eq, Bool.not_eq_true', List.all_eq_true, decide_eq_false_iff_not] at hT
  obtain ⟨t1, t2, t3, t4, t5, t6, t7, t8, t9, t10, tx⟩ := hT
  have FBs : ExcBaseFacts d.B d.nw d.it d.bm ∧ PySem.W.KxsFacts d.B d.it := by
    unfold XD.B XD.nw XD.it XD.bm
    cases d.fo with
    | some f => exact ⟨PySem.F.excBase_ValueError, PySem.W.kxs_ValueError⟩
    | none => exact ⟨PySem.F.excBase_LookupError, PySem.W.kxs_LookupError⟩
  refine ⟨PySem.W.mg_of X G (He.eqO_ok c1), c2, eqV_ok c3, xfB_ok c4, hw, He.eqO_ok c5, He.eqO_ok c6, eqB_ok c7, eqB_ok c8, fun c hc => eqB_ok (baV (hall c hc)).1, fun c hc => eqB_ok (baV (hall c hc)).2,
    He.ma K (He.ga K d.x) "__init__", d.B, d.nw, d.it, d.bm, FBs.1, i1, He.eqO_ok i2, eqV_ok i3, fun f hf w base A outer s H a u y Q E CX ar har e0 hr he ry hq => ?_, fun hf w base A outer s H a Q E CX e0 hr he hq => ?_⟩
  · rw [hf] at tx
    split at tx
    · rename_i f' y' s' p0 p1 i' p2 tx' j p3 p4 p5 m' p6 g' p7 z' p8 p9 e1 e2 e3
      cases e1
      simp only [Bool.and_eq_true, decide_eq_true_eq, Bool.not_eq_true'] at tx
      obtain ⟨a1, a2, a3, a4, a5, a6, a7, a8⟩ := tx
      subst a1 a2 a4 a5
      rw [e2] at T
      have hbd' := hbd
      rw [e3, a3] at hbd'
      exact init_f FBs.1 FBs.2 T (W _ hf) hbd' a6 rfl htop a7 t10 a8 e0 hr (by
        rcases har with rfl | rfl
        · have := bind s [.ref a, u] (by rw [e2]; rfl); rw [e2] at this; exact this
        · have := bindk s _ hf (.ref a) u; rw [e2] at this; exact this) he ry hq
    · rename_i e1 _ _; cases e1
    · cases tx
  · rw [hf] at tx
    split at tx
    · rename_i e1 _ _; cases e1
    · rename_i s' p0 p1 i' p2 tx' j p3 p4 p5 e1 e2 e3
      simp only [Bool.and_eq_true, decide_eq_true_eq] at tx
      obtain ⟨a1, a2, a6⟩ := tx
      subst a1 a2
      rw [e2] at T
      have hbd' := hbd
      rw [e3] at hbd'
      exact init_0 FBs.1 FBs.2 T hbd' a6 rfl htop e0 hr (by have := bind s [.ref a] (by rw [e2]; rfl); rw [e2] at this; exact this) he hq
    · cases tx
/-! ### the Hook -/
def asX (g : Addr → Option Obj) (n : Nat) : List Addr := cStatics :: He.asD g n
abbrev AlX : Type := He.AlD × Bool × List FnI
def tstB (K : PySem.W.Frag) (ts : List Str) : Bool := ts.all fun c => match bltX c with
  | some _ => He.eqO (PySem.W.nsIn K mainGlobals c) (some none)
  | none => He.eqO (PySem.W.nsIn K mainGlobals c) (some (some (.ref (He.ga K c))))
def obsX (file : Str) (ts : List Str) (xds : List XD) (fa : List He.Fa) (fn : List He.DefD) (K : PySem.W.Frag) : AlX := (He.obsD fa fn K, tstB K ts && xds.all (fun d => d.clB K ts && d.inB K file), xds.map (fnI K))
def valX (xds : List XD) (fn : List He.DefD) : AlX := (He.valD fn, true, xds.map XD.val)
def SaysX (file : Str) (ts : List Str) (xds : List XD) (fa : List He.Fa) (fn : List He.DefD) (K : PySem.W.Frag) : Prop := obsX file ts xds fa fn K = valX xds fn
def obsXG (n : Nat) (file : Str) (ts : List Str) (xds : List XD) (fa : List He.Fa) (fn : List He.DefD) (g : Addr → Option Obj) : AlX := obsX file ts xds fa fn (He.frG g (asX g n))
def hookX (n : Nat) (file : Str) (ts : List Str) (xds : List XD) (fa : List He.Fa) (fn : List He.DefD) : PySem.W.Hook where
  α := AlX
  obs := fun s => obsXG n file ts xds fa fn s.heap.get?
  val := fun _ => valX xds fn
  says := fun _ h => ∃ K : PySem.W.Frag, K.In h ∧ SaysX file ts xds fa fn K
  of := fun _ _ e => ⟨_, He.frG_in, e⟩
  keeps := fun _ _ _ ⟨K, hK, c⟩ k => ⟨K, PySem.W.Frag.In.keeps hK k, c⟩
theorem obsXG_eq {n : Nat} {file : Str} {ts : List Str} {xds : List XD} {fa : List He.Fa} {fn : List He.DefD} {g : Addr → Option Obj} {s : Shared} (h : ∀ a, g a = s.heap.get? a) : obsXG n file ts xds fa fn g = (hookX n file ts xds fa fn).obs s := by
  have e : g = s.heap.get? := funext h
  rw [e]
  rfl
section
variable {file : Str} {ts : List Str} {xds : List XD} {fa : List He.Fa} {fn : List He.DefD} {K : PySem.W.Frag}
theorem SaysX.d (c : SaysX file ts xds fa fn K) : He.SaysD fa fn K := congrArg (fun z : AlX => z.1) c
theorem SaysX.b (c : SaysX file ts xds fa fn K) : tstB K ts = true ∧ ∀ d ∈ xds, d.clB K ts = true ∧ d.inB K file = true := by
  have e : (tstB K ts && xds.all (fun d => d.clB K ts && d.inB K file)) = true := congrArg (fun z : AlX => z.2.1) c
  obtain ⟨a, b⟩ := baV e
  exact ⟨a, fun d hd => baV (List.all_eq_true.mp b d hd)⟩
theorem SaysX.v (c : SaysX file ts xds fa fn K) : ∀ d ∈ xds, fnI K d = d.val := fun d hd => by
  have e : xds.map (fnI K) = xds.map XD.val := congrArg (fun z : AlX => z.2.2) c
  obtain ⟨i, hi⟩ := List.mem_iff_getElem?.mp hd
  have e2 : (xds.map (fnI K))[i]? = (xds.map XD.val)[i]? := by rw [e]
  rw [List.getElem?_map, List.getElem?_map, hi] at e2
  exact Option.some.inj e2
end
/-- the classes of the text are those that the law names -/
def XOkB [Zk] (xds : List XD) : Bool := Zk.xs.all fun k => xds.any fun d => decide (d.k = k)
theorem xcA [Zk] {P : Program} {mg : Str → Option Value} {h : Heap} {xds : List XD} {fa : List He.Fa} {fn : List He.DefD} {K : PySem.W.Frag} (X : K.In h) (G : h.Ns mainGlobals mg) (c : SaysX P.main.file Zk.ts xds fa fn K) (hok : XOkB xds = true) (hx : ∀ d ∈ xds, exTab[d.k]? = some (d.x, d.fo)) (hT : (xds.all XD.txB) = true) (hb : ∀ d ∈ xds, d.Bd) (hbk : ∀ d ∈ xds, d.Bk)
    (htop : (P.main.scope.names.lookup ("super" : Str)).isSome = false) : XcA P K mg := fun k hk x fo e => by
  obtain ⟨d, hd, ed⟩ := List.any_eq_true.mp (List.all_eq_true.mp hok k hk)
  have ed := of_decide_eq_true ed
  subst ed
  have e2 := hx d hd
  rw [e] at e2
  cases e2
  exact XD.facts X G (hx d hd) (c.b.2 d hd).1 (c.b.2 d hd).2 (List.all_eq_true.mp hT d hd) (c.v d hd) (hb d hd) (hbk d hd) htop
theorem tcA {mg : Str → Option Value} {h : Heap} {K : PySem.W.Frag} {ts : List Str} (X : K.In h) (G : h.Ns mainGlobals mg) (c : tstB K ts = true) : ∀ c ∈ ts, (∃ t, bltX c = some t ∧ mg c = none) ∨ (bltX c = none ∧ mg c = some (.ref (He.ga K c))) := fun x hx => by
  have z := List.all_eq_true.mp c x hx
  split at z
  · rename_i t e
    exact .inl ⟨t, e, PySem.W.mg_none_of X G (He.eqO_ok z)⟩
  · rename_i e
    exact .inr ⟨e, PySem.W.mg_of X G (He.eqO_ok z)⟩
end LP

end
section
set_option Elab.async false
set_option linter.all false
set_option maxRecDepth 100000
set_option maxHeartbeats 2000000
/-! LP26: the head's facts. -/
namespace LP
open PySem PySem.Spec L2
open PyProof.Rows hiding St
variable [Zk]
def BindOk (d : FD) : Prop := ∀ (kV doc pm : Value) (an : Option Addr) (cdv ct : Value) (us : List Value), us.length = d.ps.length → bindArgs (PySem.W.fnOf d.nm d.nm d.pa d.bd d.sc .none kV doc pm an cdv ct) ⟨us, []⟩ = pure (d.ps.zip us)
def gFa : Str × GV → He.Fa
  | (x, .int i) => .int x i
  | (x, .str t) => .str x t
def faOf (defs : List FD) (bn : List Str) (gs : List (Str × GV)) : List He.Fa := defs.map (fun d => .glo d.nm) ++ (bn.map .free ++ gs.map gFa)
def fnOf (defs : List FD) : List He.DefD := defs.map fun d => ⟨(d.nm, none), d.nm, d.nm, d.pa, d.bd, d.sc, [], []⟩
theorem ball_nil {α : Type} {p : α → Prop} : ∀ d ∈ ([] : List α), p d := fun _ h => by cases h
theorem ball_cons {α : Type} {p : α → Prop} {a : α} {l : List α} (h : p a) (r : ∀ d ∈ l, p d) : ∀ d ∈ a :: l, p d := fun d hd => by
  rcases List.mem_cons.mp hd with z | z
  · rw [z]; exact h
  · exact r d z
theorem modOkX {P : Program} {defs : List FD} {bn : List Str} {gs : List (Str × GV)} {K : PySem.W.Frag} {h : Heap} {mg : Str → Option Value} (X : K.In h) (G : h.Ns mainGlobals mg) (c : He.SaysD (faOf defs bn gs) (fnOf defs) K) (hok : (defs.all fun d => d.ok defs bn gs) = true) (hb : ∀ d ∈ defs, BindOk d)
    (hxc : XcA P K mg) (htc : ∀ c ∈ Zk.ts, (∃ t, bltX c = some t ∧ mg c = none) ∨ (bltX c = none ∧ mg c = some (.ref (He.ga K c)))) : ModOk P K mg defs bn gs := by
  have fact : ∀ f ∈ faOf defs bn gs, f.ok K = true := fun f hf => by
    obtain ⟨i, hi⟩ := List.mem_iff_getElem?.mp hf
    exact c.fact i hi
  refine ⟨fun x hx => ?_, fun x i hx => ?_, fun x i hx => ?_, fun i d hd => ?_, fun d hd => List.all_eq_true.mp hok d hd, hxc, htc⟩
  · exact He.free_ok X G (fact (.free x) (List.mem_append_right _ (List.mem_append_left _ (List.mem_map_of_mem hx))))
  · obtain ⟨t, e⟩ := He.int_ok X G (fact (.int x i) (List.mem_append_right _ (List.mem_append_right _ (List.mem_map.mpr ⟨(x, .int i), PySem.mem_of_lookup hx, rfl⟩))))
    exact ⟨_, e, t, rfl⟩
  · obtain ⟨t, e⟩ := He.str_ok X G (fact (.str x i) (List.mem_append_right _ (List.mem_append_right _ (List.mem_map.mpr ⟨(x, .str i), PySem.mem_of_lookup hx, rfl⟩))))
    exact ⟨_, e, t, rfl⟩
  · have hd' : (fnOf defs)[i]? = some ⟨(d.nm, none), d.nm, d.nm, d.pa, d.bd, d.sc, [], []⟩ := by
      unfold fnOf
      rw [List.getElem?_map, hd]
      rfl
    obtain ⟨fd, F⟩ := c.def_ i hd'
    have F : FunD K d.nm d.nm d.pa d.bd d.sc [] [] (He.ga K d.nm) fd := F
    exact ⟨_, fd, F, He.glo_ok X G (fact (.glo d.nm) (List.mem_append_left _ (List.mem_map.mpr ⟨d, List.mem_of_getElem? hd, rfl⟩))), FunD.bindsN F (hb d (List.mem_of_getElem? hd))⟩
/-- a law without exceptions -/
theorem modOk {P : Program} {defs : List FD} {bn : List Str} {gs : List (Str × GV)} {K : PySem.W.Frag} {h : Heap} {mg : Str → Option Value} (X : K.In h) (G : h.Ns mainGlobals mg) (c : He.SaysD (faOf defs bn gs) (fnOf defs) K) (hok : (defs.all fun d => d.ok defs bn gs) = true) (hb : ∀ d ∈ defs, BindOk d)
    (h1 : (Zk.xs : List Nat) = []) (h2 : (Zk.ts : List Str) = []) : ModOk P K mg defs bn gs :=
  modOkX X G c hok hb (fun k hk => by rw [h1] at hk; cases hk) (fun c hc => by rw [h2] at hc; cases hc)
/-- a law with exceptions -/
theorem modOkE {P : Program} {defs : List FD} {bn : List Str} {gs : List (Str × GV)} {xds : List XD} {K : PySem.W.Frag} {h : Heap} {mg : Str → Option Value} (X : K.In h) (G : h.Ns mainGlobals mg) (c : SaysX P.main.file Zk.ts xds (faOf defs bn gs) (fnOf defs) K) (hok : (defs.all fun d => d.ok defs bn gs) = true) (hb : ∀ d ∈ defs, BindOk d)
    (hx1 : XOkB xds = true) (hx : ∀ d ∈ xds, exTab[d.k]? = some (d.x, d.fo)) (hT : (xds.all XD.txB) = true) (hbx : ∀ d ∈ xds, d.Bd) (hbk : ∀ d ∈ xds, d.Bk)
    (htop : (P.main.scope.names.lookup ("super" : Str)).isSome = false) : ModOk P K mg defs bn gs :=
  modOkX X G c.d hok hb (xcA X G c hx1 hx hT hbx hbk htop) (tcA X G c.b.1)
end LP

end
section
set_option Elab.async false
set_option linter.all false
/-! LP27: the evaluator by rewriting; loops. -/
namespace LP
open PySem
section
variable {cf : CF}
@[simp] theorem slot_z (x : Option SV) (s : LS) : slot (x :: s) 0 = x := by cases x <;> rfl
@[simp] theorem slot_s (x : Option SV) (s : LS) (i : Nat) : slot (x :: s) (i + 1) = slot s i := rfl
@[simp] theorem putS_z (x : Option SV) (s : LS) (y : SV) : putS (x :: s) 0 y = some y :: s := rfl
@[simp] theorem putS_s (x : Option SV) (s : LS) (i : Nat) (y : SV) : putS (x :: s) (i + 1) y = x :: putS s i y := rfl
@[simp] theorem free_s (x : Option SV) (s : LS) (i : Nat) : free (x :: s) (i + 1) = free s i := rfl
@[simp] theorem free_n (s : LS) : free (none :: s) 0 = true := rfl
@[simp] theorem free_f (d : D) (s : LS) : free (some ⟨.fz, d⟩ :: s) 0 = true := rfl
@[simp] theorem free_o (d : D) (s : LS) : free (some ⟨.ow, d⟩ :: s) 0 = true := rfl
@[simp] theorem store_eq (s : LS) (i : Nat) (x : SV) : store s i x = if free s i then some (putS s i x) else none := rfl
@[simp] theorem leak_fz (s : LS) (i : Nat) (d : D) (h : slot s i = some ⟨.fz, d⟩) : leak s i = some (⟨.fz, d⟩, s) := by simp [leak, h]
theorem leak_ow (s : LS) (i : Nat) (d : D) (h : slot s i = some ⟨.ow, d⟩) : leak s i = some (⟨.fz, d⟩, putS s i ⟨.fz, d⟩) := by simp [leak, h]
@[simp] theorem evE_v (i : Nat) (s : LS) : evE cf (.v i) s = leak s i := rfl
@[simp] theorem evE_non (s : LS) : evE cf .non s = some (⟨.fz, .none⟩, s) := rfl
@[simp] theorem evE_bl (b : Bool) (s : LS) : evE cf (.bl b) s = some (⟨.fz, .bool b⟩, s) := rfl
@[simp] theorem evE_int (i : Int) (s : LS) : evE cf (.int i) s = some (⟨.fz, .int i⟩, s) := rfl
@[simp] theorem evE_str (i : Str) (s : LS) : evE cf (.str i) s = some (⟨.fz, .str i⟩, s) := rfl
@[simp] theorem evE_gI (x : Str) (i : Int) (s : LS) : evE cf (.gI x i) s = some (⟨.fz, .int i⟩, s) := rfl
@[simp] theorem evE_gS (x : Str) (i : Str) (s : LS) : evE cf (.gS x i) s = some (⟨.fz, .str i⟩, s) := rfl
@[simp] theorem evE_tup (es : CEs) (s : LS) : evE cf (.tup es) s = (evEs cf es s).bind fun r => if szOk r.1.length then some (⟨.fz, .tuple r.1⟩, r.2) else none := rfl
@[simp] theorem evE_lst (es : CEs) (s : LS) : evE cf (.lst es) s = (evEs cf es s).bind fun r => if szOk r.1.length then some (⟨.ow, .list r.1⟩, r.2) else none := rfl
@[simp] theorem evE_bin (op : BOp) (a b : CE) (s : LS) : evE cf (.bin op a b) s = (opA a (evE cf a s) s).bind fun x => (opA b (evE cf b x.2) x.2).bind fun y =>
      (getO y.2 x.1).bind fun dx => (getO y.2 y.1).bind fun dy => (binD op dx dy).map fun r => (fresh r, y.2) := rfl
@[simp] theorem evE_neg (a : CE) (s : LS) : evE cf (.neg a) s = (evE cf a s).bind fun x => (int? x.1.d).map fun i => (⟨.fz, .int (-i)⟩, x.2) := rfl
@[simp] theorem evE_cmp (op : COp) (a b : CE) (s : LS) : evE cf (.cmp op a b) s = (opA a (evE cf a s) s).bind fun x => (opA b (evE cf b x.2) x.2).bind fun y =>
      (getO y.2 x.1).bind fun dx => (getO y.2 y.1).bind fun dy => (cmpD op dx dy).map fun r => (⟨.fz, .bool r⟩, y.2) := rfl
@[simp] theorem evE_ch2 (o1 o2 : COp) (a b c : CE) (s : LS) : evE cf (.ch2 o1 o2 a b c) s = (evE cf a s).bind fun x => (evE cf b x.2).bind fun y => (cmpD o1 x.1.d y.1.d).bind fun k =>
      if k then (evE cf c y.2).bind fun z => (cmpD o2 y.1.d z.1.d).map fun r => (⟨.fz, .bool r⟩, z.2) else some (⟨.fz, .bool false⟩, y.2) := rfl
@[simp] theorem evE_ch3 (o1 o2 o3 : COp) (a b c d : CE) (s : LS) : evE cf (.ch3 o1 o2 o3 a b c d) s = (evE cf a s).bind fun x => (evE cf b x.2).bind fun y => (cmpD o1 x.1.d y.1.d).bind fun k =>
      if k then (evE cf c y.2).bind fun z => (cmpD o2 y.1.d z.1.d).bind fun k2 =>
        if k2 then (evE cf d z.2).bind fun w => (cmpD o3 z.1.d w.1.d).map fun r => (⟨.fz, .bool r⟩, w.2) else some (⟨.fz, .bool false⟩, z.2)
      else some (⟨.fz, .bool false⟩, y.2) := rfl
@[simp] theorem evE_isN (a : CE) (s : LS) : evE cf (.isN a) s = (opA a (evE cf a s) s).bind fun x => (getO x.2 x.1).map fun d => (⟨.fz, .bool (isNone d)⟩, x.2) := rfl
@[simp] theorem evE_isNN (a : CE) (s : LS) : evE cf (.isNN a) s = (opA a (evE cf a s) s).bind fun x => (getO x.2 x.1).map fun d => (⟨.fz, .bool (!isNone d)⟩, x.2) := rfl
@[simp] theorem evE_and (es : CEs) (s : LS) : evE cf (.and es) s = evAnd cf es s := rfl
@[simp] theorem evE_or (es : CEs) (s : LS) : evE cf (.or es) s = evOr cf es s := rfl
@[simp] theorem evE_not (a : CE) (s : LS) : evE cf (.not a) s = (tst (evE cf a s)).map fun x => (⟨.fz, .bool (!x.1)⟩, x.2) := rfl
@[simp] theorem evE_ite (c a b : CE) (s : LS) : evE cf (.ite c a b) s = (tst (evE cf c s)).bind fun x => if x.1 then evE cf a x.2 else evE cf b x.2 := rfl
@[simp] theorem evE_idx (a i : CE) (s : LS) : evE cf (.idx a i) s = (opA a (evE cf a s) s).bind fun x => (evE cf i x.2).bind fun y => (getO y.2 x.1).bind fun dx => (idxD dx y.1.d).map fun r => (⟨.fz, r⟩, y.2) := rfl
@[simp] theorem evE_slc (a : CE) (lo hi : CO) (s : LS) : evE cf (.slc a lo hi) s = (opA a (evE cf a s) s).bind fun x => (evO cf lo x.2).bind fun y => (evO cf hi y.2).bind fun z =>
      (getO z.2 x.1).bind fun dx => (slcD dx y.1 z.1).map fun r => (fresh r, z.2) := rfl
@[simp] theorem evE_rev (a : CE) (s : LS) : evE cf (.rev a) s = (opA a (evE cf a s) s).bind fun x => (getO x.2 x.1).bind fun dx => (revD dx).map fun r => (fresh r, x.2) := rfl
@[simp] theorem evE_call (f : Nat) (as : CEs) (s : LS) : evE cf (.call f as) s = (evAs cf as s).bind fun r => callE cf f r.1 r.2 := rfl
@[simp] theorem evE_b1 (f : B1) (a : CE) (s : LS) : evE cf (.b1 f a) s = (opA a (evE cf a s) s).bind fun x => (getO x.2 x.1).bind fun dx => (b1D f dx).map fun r => (fresh r, x.2) := rfl
@[simp] theorem evE_b2 (f : B2) (a b : CE) (s : LS) : evE cf (.b2 f a b) s = (evE cf a s).bind fun x => (evE cf b x.2).bind fun y => (b2D f x.1.d y.1.d).map fun r => (⟨.fz, r⟩, y.2) := rfl
@[simp] theorem evE_isI (a : CE) (t : Ty) (s : LS) : evE cf (.isI a t) s = (opA a (evE cf a s) s).bind fun x => (getO x.2 x.1).bind fun d => if oddD d then none else some (⟨.fz, .bool (isTy d t)⟩, x.2) := rfl
@[simp] theorem evE_lrg (b : CE) (s : LS) : evE cf (.lrg b) s = (evE cf b s).bind fun y => (int? y.1.d).bind fun j =>
      if rgOk 0 j && szOk (j - 0).toNat then some (⟨.ow, .list (rgD 0 j)⟩, y.2) else none := rfl
@[simp] theorem evE_dic (kvs : CK) (s : LS) : evE cf (.dic kvs) s = (evK cf kvs s).bind fun r => some (⟨.ow, .dict r.1⟩, r.2) := rfl
@[simp] theorem evE_isB (a : CE) (b : Bool) (s : LS) : evE cf (.isB a b) s = (opA a (evE cf a s) s).bind fun x => (getO x.2 x.1).bind fun d => (isBool b d).map fun r => (⟨.fz, .bool r⟩, x.2) := rfl
@[simp] theorem evE_mkx (k : Nat) (w : Bool) (as : CEs) (s : LS) : evE cf (.mkx k w as) s = (evEs cf as s).bind fun r => (mkX k r.1).map fun x => (⟨.fz, x⟩, r.2) := rfl
@[simp] theorem evE_isX (a : CE) (cs : List Str) (s : LS) : evE cf (.isX a cs) s = (evE cf a s).bind fun x => (isUp cs x.1.d).map fun b => (⟨.fz, .bool b⟩, x.2) := rfl
@[simp] theorem evE_fld (a : CE) (f : Str) (s : LS) : evE cf (.fld a f) s = (evE cf a s).bind fun x => (fldOf f x.1.d).map fun d => (⟨.fz, d⟩, x.2) := rfl
@[simp] theorem oddD_non : oddD .none = false := rfl
@[simp] theorem oddD_bl (b : Bool) : oddD (.bool b) = false := rfl
@[simp] theorem oddD_int (i : Int) : oddD (.int i) = false := rfl
@[simp] theorem oddD_str (x : Str) : oddD (.str x) = false := rfl
@[simp] theorem oddD_list (x : List D) : oddD (.list x) = false := rfl
@[simp] theorem oddD_tuple (x : List D) : oddD (.tuple x) = false := rfl
@[simp] theorem oddD_dict0 : oddD (.dict []) = false := rfl
@[simp] theorem isX_fz : Md.isX .fz = false := rfl
@[simp] theorem isX_ow : Md.isX .ow = false := rfl
@[simp] theorem isX_lk : Md.isX .lk = true := rfl
@[simp] theorem isBool_b (b c : Bool) : isBool b (.bool c) = some (c == b) := rfl
@[simp] theorem orX_none {α : Type} (b : Option α) : orX none b = b := rfl
@[simp] theorem orX_some {α : Type} (x : α) (b : Option α) : orX (some x) b = some x := rfl
@[simp] theorem xE_call (f : Nat) (as : CEs) (s : LS) : xE cf (.call f as) s = orX (xAs cf as s) ((evAs cf as s).bind fun r => (callX cf f r.1 r.2).map fun x => (x, r.2)) := rfl
@[simp] theorem xE_idx a i s : xE cf (.idx a i) s = xE cf a s := rfl
@[simp] theorem xE_isN a s : xE cf (.isN a) s = xE cf a s := rfl
@[simp] theorem xE_isNN a s : xE cf (.isNN a) s = xE cf a s := rfl
@[simp] theorem xE_b1 f a s : xE cf (.b1 f a) s = xE cf a s := rfl
@[simp] theorem xE_lcp o e p it c s : xE cf (.lcp o e p it c) s = xI cf it s := rfl
@[simp] theorem xI_e a s : xI cf (.e a) s = xE cf a s := rfl
@[simp] theorem xI_rg1 a s : xI cf (.rg1 a) s = none := rfl
@[simp] theorem xI_rg2 a b s : xI cf (.rg2 a b) s = none := rfl
@[simp] theorem xI_enu a s : xI cf (.enu a) s = none := rfl
@[simp] theorem xI_zip a b s : xI cf (.zip a b) s = none := rfl
@[simp] theorem xI_zip3 a b c s : xI cf (.zip3 a b c) s = none := rfl
@[simp] theorem xE_v a0 s : xE cf (.v a0) s = none := rfl
@[simp] theorem xE_non s : xE cf (.non ) s = none := rfl
@[simp] theorem xE_bl a0 s : xE cf (.bl a0) s = none := rfl
@[simp] theorem xE_int a0 s : xE cf (.int a0) s = none := rfl
@[simp] theorem xE_str a0 s : xE cf (.str a0) s = none := rfl
@[simp] theorem xE_gI a0 a1 s : xE cf (.gI a0 a1) s = none := rfl
@[simp] theorem xE_gS a0 a1 s : xE cf (.gS a0 a1) s = none := rfl
@[simp] theorem xE_tup a0 s : xE cf (.tup a0) s = none := rfl
@[simp] theorem xE_lst a0 s : xE cf (.lst a0) s = none := rfl
@[simp] theorem xE_bin a0 a1 a2 s : xE cf (.bin a0 a1 a2) s = none := rfl
@[simp] theorem xE_neg a0 s : xE cf (.neg a0) s = none := rfl
@[simp] theorem xE_cmp a0 a1 a2 s : xE cf (.cmp a0 a1 a2) s = none := rfl
@[simp] theorem xE_ch2 a0 a1 a2 a3 a4 s : xE cf (.ch2 a0 a1 a2 a3 a4) s = none := rfl
@[simp] theorem xE_ch3 a0 a1 a2 a3 a4 a5 a6 s : xE cf (.ch3 a0 a1 a2 a3 a4 a5 a6) s = none := rfl
@[simp] theorem xE_and a0 s : xE cf (.and a0) s = none := rfl
@[simp] theorem xE_or a0 s : xE cf (.or a0) s = none := rfl
@[simp] theorem xE_not a0 s : xE cf (.not a0) s = none := rfl
@[simp] theorem xE_ite a0 a1 a2 s : xE cf (.ite a0 a1 a2) s = none := rfl
@[simp] theorem xE_slc a0 a1 a2 s : xE cf (.slc a0 a1 a2) s = none := rfl
@[simp] theorem xE_rev a0 s : xE cf (.rev a0) s = none := rfl
@[simp] theorem xE_b2 a0 a1 a2 s : xE cf (.b2 a0 a1 a2) s = none := rfl
@[simp] theorem xE_isI a0 a1 s : xE cf (.isI a0 a1) s = none := rfl
@[simp] theorem xE_lrg a0 s : xE cf (.lrg a0) s = none := rfl
@[simp] theorem xE_lc2 a0 a1 a2 a3 a4 a5 a6 a7 a8 s : xE cf (.lc2 a0 a1 a2 a3 a4 a5 a6 a7 a8) s = none := rfl
@[simp] theorem xE_scp a0 a1 a2 a3 a4 s : xE cf (.scp a0 a1 a2 a3 a4) s = none := rfl
@[simp] theorem xE_dic a0 s : xE cf (.dic a0) s = none := rfl
@[simp] theorem xE_isB a0 a1 s : xE cf (.isB a0 a1) s = none := rfl
@[simp] theorem xE_mkx a0 a1 a2 s : xE cf (.mkx a0 a1 a2) s = none := rfl
@[simp] theorem xE_isX a0 a1 s : xE cf (.isX a0 a1) s = none := rfl
@[simp] theorem xE_fld a0 a1 s : xE cf (.fld a0 a1) s = none := rfl
@[simp] theorem xE_lam a0 a1 s : xE cf (.lam a0 a1) s = none := rfl
@[simp] theorem xE_cav a0 a1 s : xE cf (.cav a0 a1) s = none := rfl
@[simp] theorem xAs_nil s : xAs cf .nil s = none := rfl
@[simp] theorem xAs_cons e r s : xAs cf (.cons e r) s = orX (xE cf e s) ((opA e (evE cf e s) s).bind fun x => xAs cf r x.2) := rfl
@[simp] theorem xPs_nil s : xPs cf .nil s = none := rfl
@[simp] theorem xPs_cons e r s : xPs cf (.cons e r) s = orX (xE cf e s) ((evE cf e s).bind fun x => xPs cf r x.2) := rfl
@[simp] theorem xS_asg p e s : xS cf (.asg p e) s = xE cf e s := rfl
@[simp] theorem xS_ex e s : xS cf (.ex e) s = xE cf e s := rfl
@[simp] theorem xS_ret e s : xS cf (.ret e) s = xE cf e s := rfl
@[simp] theorem xS_seti i k e s : xS cf (.seti i k e) s = xE cf e s := rfl
@[simp] theorem xS_par is es s : xS cf (.par is es) s = xPs cf es s := rfl
@[simp] theorem xS_ite c a b s : xS cf (.ite c a b) s = xE cf c s := rfl
@[simp] theorem xS_app i e s : xS cf (.app i e) s = (slot s i).bind fun x0 => if isTy x0.d .list then xE cf e s else none := rfl
def rxF (a : Option (D × LS)) (b : Option Fl) : Option Fl := match a with
  | some p => some (.ex p.1 p.2)
  | none => b
@[simp] theorem rxF_none (b : Option Fl) : rxF none b = b := rfl
@[simp] theorem rxF_some (x : D) (s : LS) (b : Option Fl) : rxF (some (x, s)) b = some (.ex x s) := rfl
@[simp] theorem evS_rx (st : CS) (s : LS) : evS cf (.rx st) s = rxF (xS cf st s) (evS cf st s) := by
  show (match xS cf st s with
    | some (x, s1) => some (Fl.ex x s1)
    | none => evS cf st s) = _
  cases xS cf st s <;> rfl
@[simp] theorem evS_rai (k : Nat) (as : CEs) (s : LS) : evS cf (.rai k as) s = (evEs cf as s).bind fun r => (mkX k r.1).map fun x => .ex x r.2 := rfl
def tryF (cs : List Str) (n : Option Nat) (u : US) (f : Fl) : Option Fl := match f with
  | .ex x s1 => match isUp cs x with
    | some true => (dropN s1 n).bind fun s2 => evU x s2 u
    | _ => none
  | fl => some fl
@[simp] theorem evS_try (b : CSs) (cs : List Str) (n : Option Nat) (u : US) (s : LS) : evS cf (.try_ b cs n u) s = (evSs cf b s).bind (tryF cs n u) := by
  show (evSs cf b s).bind _ = _
  congr 1
@[simp] theorem tryF_nx cs n u s : tryF cs n u (.nx s) = some (.nx s) := rfl
@[simp] theorem tryF_rt cs n u v s : tryF cs n u (.rt v s) = some (.rt v s) := rfl
@[simp] theorem evAnd_1 (e : CE) (s : LS) : evAnd cf (.cons e .nil) s = evE cf e s := rfl
@[simp] theorem evAnd_2 (e e2 : CE) (r : CEs) (s : LS) : evAnd cf (.cons e (.cons e2 r)) s = (tst (evE cf e s)).bind fun x => if x.1 then evAnd cf (.cons e2 r) x.2 else some (⟨.fz, .bool false⟩, x.2) := rfl
@[simp] theorem evOr_1 (e : CE) (s : LS) : evOr cf (.cons e .nil) s = evE cf e s := rfl
@[simp] theorem evOr_2 (e e2 : CE) (r : CEs) (s : LS) : evOr cf (.cons e (.cons e2 r)) s = (tst (evE cf e s)).bind fun x => if x.1 then some (⟨.fz, .bool true⟩, x.2) else evOr cf (.cons e2 r) x.2 := rfl
@[simp] theorem evEs_nil (s : LS) : evEs cf .nil s = some ([], s) := rfl
@[simp] theorem evEs_cons (e : CE) (r : CEs) (s : LS) : evEs cf (.cons e r) s = (evE cf e s).bind fun x => (evEs cf r x.2).map fun q => (x.1.d :: q.1, q.2) := rfl
@[simp] theorem evEs_star (e : CE) (r : CEs) (s : LS) : evEs cf (.star e r) s = (evE cf e s).bind fun x => (listOf x.1.d).bind fun xs => (evEs cf r x.2).map fun q => (xs ++ q.1, q.2) := rfl
@[simp] theorem evAs_nil (s : LS) : evAs cf .nil s = some ([], s) := rfl
@[simp] theorem evAs_cons (e : CE) (r : CEs) (s : LS) : evAs cf (.cons e r) s = (opA e (evE cf e s) s).bind fun x => (evAs cf r x.2).map fun q => (x.1 :: q.1, q.2) := rfl
@[simp] theorem evO_no (s : LS) : evO cf .no s = some (none, s) := rfl
@[simp] theorem evO_yes (e : CE) (s : LS) : evO cf (.yes e) s = (evE cf e s).bind fun x => (int? x.1.d).map fun i => (some i, x.2) := rfl
@[simp] theorem evC_no (s : LS) : evC cf .no s = some (true, s) := rfl
@[simp] theorem evC_yes (e : CE) (s : LS) : evC cf (.yes e) s = tst (evE cf e s) := rfl
@[simp] theorem evI_e (a : CE) (s : LS) : evI cf (.e a) s = (opA a (evE cf a s) s).bind fun x => lockO x.2 x.1 := rfl
@[simp] theorem evI_rg1 (a : CE) (s : LS) : evI cf (.rg1 a) s = (evE cf a s).bind fun x => (int? x.1.d).bind fun j => if rgOk 0 j then some (rgD 0 j, none, x.2) else none := rfl
@[simp] theorem evI_rg2 (a b : CE) (s : LS) : evI cf (.rg2 a b) s = (evE cf a s).bind fun x => (evE cf b x.2).bind fun y => (int? x.1.d).bind fun i => (int? y.1.d).bind fun j => if rgOk i j then some (rgD i j, none, y.2) else none := rfl
@[simp] theorem evI_enu (a : CE) (s : LS) : evI cf (.enu a) s = (opA a (evE cf a s) s).bind fun x => (lockO x.2 x.1).map fun w => (enumFrom 0 w.1, w.2) := rfl
@[simp] theorem evI_zip (a b : CE) (s : LS) : evI cf (.zip a b) s = (evE cf a s).bind fun x => (evE cf b x.2).bind fun y => match x.1.d, y.1.d with
    | .list xs, .list ys => some (zipD xs ys, none, y.2)
    | .tuple xs, .tuple ys => some (zipD xs ys, none, y.2)
    | _, _ => none := rfl
@[simp] theorem evI_zip3 (a b c : CE) (s : LS) : evI cf (.zip3 a b c) s = (evE cf a s).bind fun x => (evE cf b x.2).bind fun y => (evE cf c y.2).bind fun z => match x.1.d, y.1.d, z.1.d with
    | .tuple xs, .tuple ys, .tuple zs => some (zip3D xs ys zs, none, z.2)
    | _, _, _ => none := rfl
@[simp] theorem evK_nil (s : LS) : evK cf .nil s = some ([], s) := rfl
@[simp] theorem evK_cons (k : Str) (e : CE) (r : CK) (s : LS) : evK cf (.cons k e r) s = (evE cf e s).bind fun x => (evK cf r x.2).bind fun q => if (dLook k q.1).isNone then some ((.str k, x.1.d) :: q.1, q.2) else none := rfl
@[simp] theorem opA_v (i : Nat) (r : Option (SV × LS)) (s : LS) : opA (.v i) r s = (slot s i).map fun _ => (.loc i, s) := rfl
theorem opA_n {e : CE} (h : ∀ i, e ≠ .v i) (r : Option (SV × LS)) (s : LS) : opA e r s = r.map fun x => (.val x.1.d, x.2) := by
  cases e <;> first | rfl | exact absurd rfl (h _)
@[simp] theorem opA_int (i : Int) (r s) : opA (.int i) r s = r.map fun x => (.val x.1.d, x.2) := rfl
@[simp] theorem opA_non (r s) : opA .non r s = r.map fun x => (.val x.1.d, x.2) := rfl
@[simp] theorem opA_bl (b r s) : opA (.bl b) r s = r.map fun x => (.val x.1.d, x.2) := rfl
@[simp] theorem opA_str (b r s) : opA (.str b) r s = r.map fun x => (.val x.1.d, x.2) := rfl
@[simp] theorem opA_gI (x i r s) : opA (.gI x i) r s = r.map fun x => (.val x.1.d, x.2) := rfl
@[simp] theorem opA_gS (x i r s) : opA (.gS x i) r s = r.map fun x => (.val x.1.d, x.2) := rfl
@[simp] theorem opA_tup (x r s) : opA (.tup x) r s = r.map fun x => (.val x.1.d, x.2) := rfl
@[simp] theorem opA_lst (x r s) : opA (.lst x) r s = r.map fun x => (.val x.1.d, x.2) := rfl
@[simp] theorem opA_bin (x a b r s) : opA (.bin x a b) r s = r.map fun x => (.val x.1.d, x.2) := rfl
@[simp] theorem opA_neg (x r s) : opA (.neg x) r s = r.map fun x => (.val x.1.d, x.2) := rfl
@[simp] theorem opA_cmp (x a b r s) : opA (.cmp x a b) r s = r.map fun x => (.val x.1.d, x.2) := rfl
@[simp] theorem opA_ch2 (x y a b c r s) : opA (.ch2 x y a b c) r s = r.map fun x => (.val x.1.d, x.2) := rfl
@[simp] theorem opA_and (x r s) : opA (.and x) r s = r.map fun x => (.val x.1.d, x.2) := rfl
@[simp] theorem opA_or (x r s) : opA (.or x) r s = r.map fun x => (.val x.1.d, x.2) := rfl
@[simp] theorem opA_not (x r s) : opA (.not x) r s = r.map fun x => (.val x.1.d, x.2) := rfl
@[simp] theorem opA_isN (x r s) : opA (.isN x) r s = r.map fun x => (.val x.1.d, x.2) := rfl
@[simp] theorem opA_isNN (x r s) : opA (.isNN x) r s = r.map fun x => (.val x.1.d, x.2) := rfl
@[simp] theorem opA_ite (x a b r s) : opA (.ite x a b) r s = r.map fun x => (.val x.1.d, x.2) := rfl
@[simp] theorem opA_idx (x a r s) : opA (.idx x a) r s = r.map fun x => (.val x.1.d, x.2) := rfl
@[simp] theorem opA_slc (x a b r s) : opA (.slc x a b) r s = r.map fun x => (.val x.1.d, x.2) := rfl
@[simp] theorem opA_rev (x r s) : opA (.rev x) r s = r.map fun x => (.val x.1.d, x.2) := rfl
@[simp] theorem opA_call (x a r s) : opA (.call x a) r s = r.map fun x => (.val x.1.d, x.2) := rfl
@[simp] theorem opA_b1 (x a r s) : opA (.b1 x a) r s = r.map fun x => (.val x.1.d, x.2) := rfl
@[simp] theorem opA_b2 (x a b r s) : opA (.b2 x a b) r s = r.map fun x => (.val x.1.d, x.2) := rfl
@[simp] theorem opA_isI (x a r s) : opA (.isI x a) r s = r.map fun x => (.val x.1.d, x.2) := rfl
@[simp] theorem opA_lrg (x r s) : opA (.lrg x) r s = r.map fun x => (.val x.1.d, x.2) := rfl
@[simp] theorem opA_lcp (own e p it c r s) : opA (.lcp own e p it c) r s = r.map fun x => (.val x.1.d, x.2) := rfl
@[simp] theorem opA_lc2 (o1 o2 e p it c p2 a2 c2 r s) : opA (.lc2 o1 o2 e p it c p2 a2 c2) r s = r.map fun x => (.val x.1.d, x.2) := rfl
@[simp] theorem opA_scp (own e p it c r s) : opA (.scp own e p it c) r s = r.map fun x => (.val x.1.d, x.2) := rfl
@[simp] theorem opA_isB (x a r s) : opA (.isB x a) r s = r.map fun x => (.val x.1.d, x.2) := rfl
@[simp] theorem opA_mkx (x w a r s) : opA (.mkx x w a) r s = r.map fun x => (.val x.1.d, x.2) := rfl
@[simp] theorem opA_isX (x a r s) : opA (.isX x a) r s = r.map fun x => (.val x.1.d, x.2) := rfl
@[simp] theorem opA_fld (x a r s) : opA (.fld x a) r s = r.map fun x => (.val x.1.d, x.2) := rfl
@[simp] theorem opA_dic (x r s) : opA (.dic x) r s = r.map fun x => (.val x.1.d, x.2) := rfl
@[simp] theorem getO_v (s : LS) (d : D) : getO s (.val d) = some d := rfl
@[simp] theorem getO_l (s : LS) (i : Nat) : getO s (.loc i) = (slot s i).map (·.d) := rfl
@[simp] theorem tst_b (m : Md) (b : Bool) (s : LS) : tst (some (⟨m, .bool b⟩, s)) = some (b, s) := rfl
@[simp] theorem int?_i (i : Int) : int? (.int i) = some i := rfl
@[simp] theorem fresh_i (i : Int) : fresh (.int i) = ⟨.fz, .int i⟩ := rfl
@[simp] theorem fresh_b (i : Bool) : fresh (.bool i) = ⟨.fz, .bool i⟩ := rfl
@[simp] theorem fresh_s (i : Str) : fresh (.str i) = ⟨.fz, .str i⟩ := rfl
@[simp] theorem fresh_t (i : List D) : fresh (.tuple i) = ⟨.fz, .tuple i⟩ := rfl
@[simp] theorem fresh_l (i : List D) : fresh (.list i) = ⟨.ow, .list i⟩ := rfl
@[simp] theorem evSs_nil (s : LS) : evSs cf .nil s = some (.nx s) := rfl
@[simp] theorem evSs_cons (a : CS) (r : CSs) (s : LS) : evSs cf (.cons a r) s = (evS cf a s).bind fun
    | .nx s' => evSs cf r s'
    | f => some f := rfl
@[simp] theorem evS_asg (p : Pt) (e : CE) (s : LS) : evS cf (.asg p e) s = (evE cf e s).bind fun x => (asgE p x).map .nx := rfl
@[simp] theorem evS_par (is : List Nat) (es : CEs) (s : LS) : evS cf (.par is es) s = (evPs cf es s).bind fun r => (parS r.2 is r.1).map .nx := rfl
@[simp] theorem evS_app (i : Nat) (e : CE) (s : LS) : evS cf (.app i e) s = (slot s i).bind fun x0 => if isTy x0.d .list then (evE cf e s).bind fun y => (appS y.2 i y.1.d).map .nx else none := rfl
@[simp] theorem evS_seti (i : Nat) (k e : CE) (s : LS) : evS cf (.seti i k e) s = (evE cf e s).bind fun y => (slot y.2 i).bind fun _ => (evE cf k y.2).bind fun z => (setiS z.2 i z.1.d y.1.d).map .nx := rfl
@[simp] theorem evS_ex (e : CE) (s : LS) : evS cf (.ex e) s = (evE cf e s).map fun x => .nx x.2 := rfl
@[simp] theorem evS_ret (e : CE) (s : LS) : evS cf (.ret e) s = (evR cf e s).map fun x => .rt x.1 x.2 := rfl
@[simp] theorem evS_retN (s : LS) : evS cf .retN s = some (.rt ⟨.fz, .none⟩ s) := rfl
@[simp] theorem evS_ite (c : CE) (a b : CSs) (s : LS) : evS cf (.ite c a b) s = (tst (evE cf c s)).bind fun x => if x.1 then evSs cf a x.2 else evSs cf b x.2 := rfl
@[simp] theorem evS_for (p : Pt) (it : CI) (b : CSs) (s : LS) : evS cf (.for_ p it b) s = (evI cf it s).bind fun w => (forL (fun x s1 => (bindP s1 p x).bind fun s2 => evSs cf b s2) w.1 w.2.2).map (Fl.map fun t => unlock t w.2.1) := rfl
@[simp] theorem evS_pass (s : LS) : evS cf .pass s = some (.nx s) := rfl
@[simp] theorem evPs_nil (s : LS) : evPs cf .nil s = some ([], s) := rfl
@[simp] theorem evPs_cons (e : CE) (r : CEs) (s : LS) : evPs cf (.cons e r) s = (evE cf e s).bind fun x => (evPs cf r x.2).map fun q => (x.1 :: q.1, q.2) := rfl
@[simp] theorem parS_nil (s : LS) : parS s [] [] = some s := rfl
@[simp] theorem parS_cons (s : LS) (i : Nat) (is : List Nat) (x : SV) (xs : List SV) : parS s (i :: is) (x :: xs) = if x.m.isNew then (store s i x).bind fun s => parS s is xs else none := rfl
@[simp] theorem isNew_fz : Md.isNew .fz = true := rfl
@[simp] theorem isNew_ow : Md.isNew .ow = true := rfl
@[simp] theorem asgE_v (i : Nat) (x : SV × LS) : asgE (.v i) x = if x.1.m.isNew then store x.2 i x.1 else none := rfl
@[simp] theorem asgE_t (is : List Nat) (x : SV × LS) : asgE (.t is) x = bindP x.2 (.t is) x.1.d := rfl
@[simp] theorem bindP_v (s : LS) (i : Nat) (d : D) : bindP s (.v i) d = store s i ⟨.fz, d⟩ := rfl
@[simp] theorem bindP_t (s : LS) (is : List Nat) (ds : List D) : bindP s (.t is) (.tuple ds) = stores s is ds := rfl
@[simp] theorem stores_nil (s : LS) : stores s [] [] = some s := rfl
@[simp] theorem stores_cons (s : LS) (i : Nat) (is : List Nat) (d : D) (ds : List D) : stores s (i :: is) (d :: ds) = (store s i ⟨.fz, d⟩).bind fun s => stores s is ds := rfl
@[simp] theorem evR_v_ow (i : Nat) (s : LS) (d : D) (h : slot s i = some ⟨.ow, d⟩) : evR cf (.v i) s = some (⟨.ow, d⟩, s.set i none) := by simp [evR, h]
@[simp] theorem evR_v_fz (i : Nat) (s : LS) (d : D) (h : slot s i = some ⟨.fz, d⟩) : evR cf (.v i) s = some (⟨.fz, d⟩, s) := by simp [evR, h]
theorem evR_n {e : CE} (h : ∀ i, e ≠ .v i) (s : LS) : evR cf e s = evE cf e s := by
  cases e <;> first | rfl | exact absurd rfl (h _)
theorem callF_s {tab : List Fn} {n f : Nat} {as : List SV} {fn : Fn} (h : tab[f]? = some fn) : callF tab (n + 1) f as = runFn (callF tab n) fn as := by simp [callF, h]
end
/-! ### loops -/
theorem forL_rel {α : Type} {f : D → LS → Option Fl} (R : α → LS → Prop) (g : α → D → α) : ∀ {xs : List D} {a : α} {s : LS}, (∀ a s x, x ∈ xs → R a s → ∃ s', f x s = some (.nx s') ∧ R (g a x) s') → R a s → ∃ s', forL f xs s = some (.nx s') ∧ R (xs.foldl g a) s'
  | [], a, s, _, h => ⟨s, rfl, h⟩
  | x :: xs, a, s, hf, h => by
    obtain ⟨s1, e1, h1⟩ := hf a s x List.mem_cons_self h
    obtain ⟨s2, e2, h2⟩ := forL_rel R g (xs := xs) (fun a s y hy => hf a s y (List.mem_cons_of_mem _ hy)) h1
    exact ⟨s2, by simp [forL, e1, e2], h2⟩
theorem compL_rel {f : D → LS → Option (List D × LS)} (R : LS → Prop) (g : D → List D) : ∀ {xs : List D} {s : LS}, (∀ s x, x ∈ xs → R s → ∃ s', f x s = some (g x, s') ∧ R s') → R s → ∃ s', compL f xs s = some (xs.flatMap g, s') ∧ R s'
  | [], s, _, h => ⟨s, rfl, h⟩
  | x :: xs, s, hf, h => by
    obtain ⟨s1, e1, h1⟩ := hf s x List.mem_cons_self h
    obtain ⟨s2, e2, h2⟩ := compL_rel R g (xs := xs) (fun s y hy => hf s y (List.mem_cons_of_mem _ hy)) h1
    exact ⟨s2, by simp [compL, e1, e2], h2⟩
theorem backS_of {s0 s : LS} {own : List Nat} (h : wipeS s own = wipeS s0 own) : backS s0 s own = s0 := by
  have hl : s0.length = s.length := by
    have := congrArg List.length h
    rw [wipeS_len, wipeS_len] at this
    exact this.symm
  refine List.ext_getElem? fun j => ?_
  by_cases hj : j < s0.length
  · have a := backS_slot s0 s hl own j
    have b : slot (wipeS s own) j = slot (wipeS s0 own) j := by rw [h]
    rw [wipeS_slot, wipeS_slot] at b
    have e : slot (backS s0 s own) j = slot s0 j := by
      rw [a]
      split
      · rfl
      · rename_i hn
        rw [if_neg hn, if_neg hn] at b
        exact b
    unfold slot at e
    have hb : j < (backS s0 s own).length := by rw [backS_len, ← hl]; exact hj
    rw [List.getElem?_eq_getElem hj, List.getElem?_eq_getElem hb] at e ⊢
    simpa using e
  · have h1 : s0[j]? = none := List.getElem?_eq_none (by omega)
    have h2 : (backS s0 s own)[j]? = none := List.getElem?_eq_none (by rw [backS_len, ← hl]; omega)
    rw [h1, h2]
/-- a comprehension whose turns leave the other names as they are -/
theorem lcp_pure {cf : CF} {own : List Nat} {e : CE} {p : Pt} {it : CI} {c : CO} {s s0 : LS} {ds : List D} {o : Option Nat} (g : D → List D) (hi : evI cf it s = some (ds, o, s0)) (hok : ownOk s0 own = true)
    (ht : ∀ x ∈ ds, ∃ s', ((bindP (wipeS s0 own) p x).bind fun s2 => (evC cf c s2).bind fun k => if k.1 then (evE cf e k.2).map fun y => ([y.1.d], y.2) else some ([], k.2)) = some (g x, s') ∧ wipeS s' own = wipeS s0 own) (hz : szOk (ds.flatMap g).length = true) :
    evE cf (.lcp own e p it c) s = some (⟨.ow, .list (ds.flatMap g)⟩, unlock s0 o) := by
  obtain ⟨s', e1, e2⟩ := compL_rel (f := fun x s1 => (bindP (wipeS s1 own) p x).bind fun s2 => (evC cf c s2).bind fun k => if k.1 then (evE cf e k.2).map fun y => ([y.1.d], y.2) else some ([], k.2)) (fun s => wipeS s own = wipeS s0 own) g (xs := ds) (s := s0) (fun s1 x hx h => by
    rw [h]
    exact ht x hx) rfl
  show ((evI cf it s).bind _) = _
  rw [hi]
  show (if ownOk s0 own = true then _ else _) = _
  rw [if_pos hok, e1]
  show (if szOk (ds.flatMap g).length = true then _ else _) = _
  rw [if_pos hz, backS_of e2]
end LP

end
section
set_option Elab.async false
set_option linter.all false
set_option maxRecDepth 100000
/-! LP28: plain data: what can be compared, places. -/
namespace LP
open PySem
/-- plain, and at most n deep -/
def Sh (n : Nat) (d : D) : Prop := d.canLay0 = true ∧ d.depth ≤ n
theorem Sh.int (n : Nat) (i : Int) : Sh n (.int i) := ⟨rfl, Nat.zero_le _⟩
theorem Sh.bool (n : Nat) (i : Bool) : Sh n (.bool i) := ⟨rfl, Nat.zero_le _⟩
theorem Sh.none (n : Nat) : Sh n .none := ⟨rfl, Nat.zero_le _⟩
theorem Sh.all {n : Nat} : ∀ {xs : List D}, (∀ x ∈ xs, Sh n x) → PyData.canLayAll0 xs = true ∧ PyData.depthAll xs ≤ n
  | [], _ => ⟨rfl, Nat.zero_le _⟩
  | x :: xs, h => by
    obtain ⟨a, b⟩ := Sh.all (n := n) (xs := xs) fun y hy => h y (List.mem_cons_of_mem _ hy)
    obtain ⟨c, d⟩ := h x List.mem_cons_self
    simp only [PyData.canLayAll0, PyData.depthAll, Bool.and_eq_true]
    exact ⟨⟨c, a⟩, Nat.max_le.mpr ⟨d, b⟩⟩
theorem Sh.list {n : Nat} {xs : List D} (h : ∀ x ∈ xs, Sh n x) : Sh (n + 1) (.list xs) := by
  obtain ⟨a, b⟩ := Sh.all h
  exact ⟨by simpa [PyData.canLay0] using a, by simp only [PyData.depth]; omega⟩
theorem Sh.tup {n : Nat} {xs : List D} (h : ∀ x ∈ xs, Sh n x) : Sh (n + 1) (.tuple xs) := by
  obtain ⟨a, b⟩ := Sh.all h
  exact ⟨by simpa [PyData.canLay0] using a, by simp only [PyData.depth]; omega⟩
theorem Sh.ok {n : Nat} {d : D} (h : Sh n d) (hn : n ≤ 64) : SeqAt.shaped d = true := by
  unfold SeqAt.shaped
  simp only [Bool.and_eq_true, decide_eq_true_eq]
  exact ⟨h.1, Nat.le_trans h.2 hn⟩
theorem Sh.mono {m n : Nat} {d : D} (h : Sh m d) (hn : m ≤ n) : Sh n d := ⟨h.1, Nat.le_trans h.2 hn⟩
theorem Sh.pair (n : Nat) (p : Int × Int) : Sh (n + 1) (dPair p) := Sh.tup fun x hx => by
  simp only [List.mem_cons, List.not_mem_nil, or_false] at hx
  rcases hx with rfl | rfl <;> exact Sh.int _ _
theorem Sh.map {α : Type} {n : Nat} {f : α → D} (h : ∀ a, Sh n (f a)) (l : List α) : ∀ x ∈ l.map f, Sh n x := fun x hx => by
  obtain ⟨a, _, rfl⟩ := List.mem_map.mp hx
  exact h a
/-! ### == of plain data -/
mutual
theorem eqv_int_list : ∀ (a b : List Int), PyData.eqvAll (a.map .int) (b.map .int) = decide (a = b)
  | [], [] => rfl
  | [], _ :: _ => rfl
  | _ :: _, [] => rfl
  | x :: a, y :: b => by
    simp only [List.map_cons, PyData.eqvAll, PyData.eqv, eqv_int_list a b]
    by_cases h : x = y <;> by_cases h2 : a = b <;> simp [h, h2]
end
theorem eqv_pair (p q : Int × Int) : PyData.eqv (dPair p) (dPair q) = decide (p = q) := by
  obtain ⟨a, b⟩ := p
  obtain ⟨c, d⟩ := q
  simp only [dPair, PyData.eqv, PyData.eqvAll, Bool.and_true]
  by_cases h : a = c <;> by_cases h2 : b = d <;> simp [h, h2]
theorem eqv_map {α : Type} [DecidableEq α] {f : α → D} (h : ∀ a b, PyData.eqv (f a) (f b) = decide (a = b)) : ∀ (a b : List α), PyData.eqvAll (a.map f) (b.map f) = decide (a = b)
  | [], [] => rfl
  | [], _ :: _ => rfl
  | _ :: _, [] => rfl
  | x :: a, y :: b => by
    simp only [List.map_cons, PyData.eqvAll, h, eqv_map h a b]
    by_cases h : x = y <;> by_cases h2 : a = b <;> simp [h, h2]
theorem eqv_nil (l : List D) : PyData.eqvAll l [] = l.isEmpty := by cases l <;> rfl
section
variable (a b : Int)
@[simp] theorem cmp_eq : cmpD .eq (.int a) (.int b) = some (decide (a = b)) := by
  simp only [cmpD, (Sh.int 0 a).ok (by omega), (Sh.int 0 b).ok (by omega), Bool.and_self, if_true, PyData.eqv]
  rfl
@[simp] theorem cmp_ne : cmpD .ne (.int a) (.int b) = some (!decide (a = b)) := by
  simp only [cmpD, (Sh.int 0 a).ok (by omega), (Sh.int 0 b).ok (by omega), Bool.and_self, if_true, PyData.eqv]
  rfl
@[simp] theorem cmp_lt : cmpD .lt (.int a) (.int b) = some (decide (a < b)) := rfl
@[simp] theorem cmp_le : cmpD .le (.int a) (.int b) = some (decide (a ≤ b)) := rfl
@[simp] theorem cmp_gt : cmpD .gt (.int a) (.int b) = some (decide (b < a)) := rfl
@[simp] theorem cmp_ge : cmpD .ge (.int a) (.int b) = some (decide (b ≤ a)) := rfl
end
@[simp] theorem cmp_eqB (a b : Bool) : cmpD .eq (.bool a) (.bool b) = some (decide (a = b)) := by
  simp only [cmpD, (Sh.bool 0 a).ok (by omega), (Sh.bool 0 b).ok (by omega), Bool.and_self, if_true, PyData.eqv]
  cases a <;> cases b <;> rfl
@[simp] theorem cmp_neB (a b : Bool) : cmpD .ne (.bool a) (.bool b) = some (!decide (a = b)) := by
  simp only [cmpD, (Sh.bool 0 a).ok (by omega), (Sh.bool 0 b).ok (by omega), Bool.and_self, if_true, PyData.eqv]
  cases a <;> cases b <;> rfl
theorem eqvS (a b : Str) : PyData.eqv (.str a) (.str b) = decide (a = b) := by
  rw [Bool.eq_iff_iff]
  simp [PyData.eqv]
theorem cmp_eq_sh {n : Nat} {x y : D} (hx : Sh n x) (hy : Sh n y) (hn : n ≤ 64) : cmpD .eq x y = some (PyData.eqv x y) := by
  have h : (cmpD .eq x y = if SeqAt.shaped x && SeqAt.shaped y then some (PyData.eqv x y) else nilCmp x y) ∨ ∃ a b, x = .str a ∧ y = .str b := by
    cases x <;> cases y <;> first | exact .inl rfl | exact .inr ⟨_, _, rfl, rfl⟩
  rcases h with h | ⟨a, b, rfl, rfl⟩
  · simp only [h, hx.ok hn, hy.ok hn, Bool.and_self, if_true]
  · rw [eqvS]; rfl
theorem cmp_ne_sh {n : Nat} {x y : D} (hx : Sh n x) (hy : Sh n y) (hn : n ≤ 64) : cmpD .ne x y = some (!PyData.eqv x y) := by
  have h : (cmpD .ne x y = if SeqAt.shaped x && SeqAt.shaped y then some (!PyData.eqv x y) else (nilCmp x y).map (!·)) ∨ ∃ a b, x = .str a ∧ y = .str b := by
    cases x <;> cases y <;> first | exact .inl rfl | exact .inr ⟨_, _, rfl, rfl⟩
  rcases h with h | ⟨a, b, rfl, rfl⟩
  · simp only [h, hx.ok hn, hy.ok hn, Bool.and_self, if_true]
  · rw [eqvS]; rfl
/-- is a list empty -/
theorem cmp_ne_nil {n : Nat} {l : List D} (h : ∀ x ∈ l, Sh n x) (hn : n < 64) : cmpD .ne (.list l) (.list []) = some (!l.isEmpty) := by
  rw [cmp_ne_sh (Sh.list h) (Sh.list (xs := []) fun _ z => by cases z) hn, PyData.eqv, eqv_nil]
theorem cmp_eq_nil {n : Nat} {l : List D} (h : ∀ x ∈ l, Sh n x) (hn : n < 64) : cmpD .eq (.list l) (.list []) = some l.isEmpty := by
  rw [cmp_eq_sh (Sh.list h) (Sh.list (xs := []) fun _ z => by cases z) hn, PyData.eqv, eqv_nil]
/-- the same, whatever the list has -/
theorem cmp_ne_nilA (l : List D) : cmpD .ne (.list l) (.list []) = some (!l.isEmpty) := by
  show (if SeqAt.shaped (.list l) && SeqAt.shaped (.list []) then some (!PyData.eqv (.list l) (.list [])) else (nilCmp (.list l) (.list [])).map (!·)) = _
  split
  · rw [PyData.eqv, eqv_nil]
  · rfl
theorem cmp_eq_nilA (l : List D) : cmpD .eq (.list l) (.list []) = some l.isEmpty := by
  show (if SeqAt.shaped (.list l) && SeqAt.shaped (.list []) then some (PyData.eqv (.list l) (.list [])) else nilCmp (.list l) (.list [])) = _
  split
  · rw [PyData.eqv, eqv_nil]
  · rfl
/-! ### places -/
@[simp] theorem atI_0 {α : Type} (a : α) (l : List α) : L2.atI (a :: l) 0 = some a := by simp [L2.atI, L2.ixN]
@[simp] theorem atI_1 {α : Type} (a b : α) (l : List α) : L2.atI (a :: b :: l) 1 = some b := by
  unfold L2.atI L2.ixN
  rw [if_pos (by omega), if_pos (by simp only [List.length_cons]; omega)]
  rfl
theorem atI_last {α : Type} (l : List α) (a : α) : L2.atI (l ++ [a]) (-1) = some a := by
  have h : (-((l ++ [a]).length : Int)) ≤ -1 := by simp only [List.length_append, List.length_singleton]; omega
  unfold L2.atI L2.ixN
  rw [if_neg (by omega), if_pos h]
  have e : (-1 + ((l ++ [a]).length : Int)).toNat = l.length := by simp only [List.length_append, List.length_singleton]; omega
  show (l ++ [a])[(-1 + ((l ++ [a]).length : Int)).toNat]? = some a
  rw [e]
  simp
theorem ixN_last {α : Type} (l : List α) (a : α) : L2.ixN (l ++ [a]).length (-1) = some l.length := by
  have h : (-((l ++ [a]).length : Int)) ≤ -1 := by simp only [List.length_append, List.length_singleton]; omega
  unfold L2.ixN
  rw [if_neg (by omega), if_pos h]
  congr 1
  simp only [List.length_append, List.length_singleton]
  omega
theorem atI_nat {α : Type} {l : List α} {i : Nat} (h : i < l.length) : L2.atI l (i : Int) = some l[i] := by
  unfold L2.atI L2.ixN
  rw [if_pos (by omega), if_pos (by omega)]
  simp [h]
@[simp] theorem szOk_of {n : Nat} (h : n ≤ 1000000) : szOk n = true := by
  unfold szOk
  rw [decide_eq_true_eq]
  unfold sizeLine
  omega
theorem fm_nil {α β : Type} (l : List α) : (l.flatMap fun _ => ([] : List β)) = [] := by induction l <;> simp_all
end LP

end
section
set_option Elab.async false
set_option linter.all false
/-! LP29: comprehensions with two for, without side effects. -/
namespace LP
open PySem
theorem comp_in {cf : CF} {own2 : List Nat} {e : CE} {p2 : Pt} {c2 : CO} {k : LS} {ds2 : List D} (g : D → List D)
    (ht : ∀ x ∈ ds2, ∃ s', ((bindP (wipeS k own2) p2 x).bind fun t2 => (evC cf c2 t2).bind fun k2 => if k2.1 then (evE cf e k2.2).map fun y => ([y.1.d], y.2) else some ([], k2.2)) = some (g x, s') ∧ wipeS s' own2 = wipeS k own2) :
    ∃ q, compL (fun x2 t1 => (bindP (wipeS t1 own2) p2 x2).bind fun t2 => (evC cf c2 t2).bind fun k2 => if k2.1 then (evE cf e k2.2).map fun y => ([y.1.d], y.2) else some ([], k2.2)) ds2 k = some (ds2.flatMap g, q) ∧ backS k q own2 = k := by
  obtain ⟨s', e1, e2⟩ := compL_rel (f := fun x2 t1 => (bindP (wipeS t1 own2) p2 x2).bind fun t2 => (evC cf c2 t2).bind fun k2 => if k2.1 then (evE cf e k2.2).map fun y => ([y.1.d], y.2) else some ([], k2.2)) (fun s => wipeS s own2 = wipeS k own2) g (xs := ds2) (s := k) (fun s1 x hx h => by
    rw [h]
    exact ht x hx) rfl
  exact ⟨s', e1, backS_of e2⟩
theorem lc2_pure {cf : CF} {own own2 : List Nat} {e a2 : CE} {p p2 : Pt} {it : CI} {c c2 : CO} {s s0 : LS} {ds : List D} {o : Option Nat} (items : D → List D) (g : D → D → List D) (hi : evI cf it s = some (ds, o, s0)) (hok : ownOk s0 own = true)
    (ht : ∀ x ∈ ds, ∃ s2 k y k', bindP (wipeS s0 own) p x = some s2 ∧ evC cf c s2 = some (true, k) ∧ evE cf a2 k = some (y, k') ∧ listOf y.d = some (items x) ∧ ownOk k' own2 = true ∧ wipeS k' own = wipeS s0 own ∧
      ∀ x2 ∈ items x, ∃ s', ((bindP (wipeS k' own2) p2 x2).bind fun t2 => (evC cf c2 t2).bind fun k2 => if k2.1 then (evE cf e k2.2).map fun y => ([y.1.d], y.2) else some ([], k2.2)) = some (g x x2, s') ∧ wipeS s' own2 = wipeS k' own2)
    (hz : szOk (ds.flatMap fun x => (items x).flatMap (g x)).length = true) :
    evE cf (.lc2 own own2 e p it c p2 a2 c2) s = some (⟨.ow, .list (ds.flatMap fun x => (items x).flatMap (g x))⟩, unlock s0 o) := by
  have turn : ∀ s1, wipeS s1 own = wipeS s0 own → ∀ x ∈ ds, ∃ s', ((bindP (wipeS s1 own) p x).bind fun s2 => (evC cf c s2).bind fun k => if k.1 then
          (evE cf a2 k.2).bind fun y => (listOf y.1.d).bind fun ds2 => if ownOk y.2 own2 then (compL (fun x2 t1 => (bindP (wipeS t1 own2) p2 x2).bind fun t2 => (evC cf c2 t2).bind fun k2 =>
            if k2.1 then (evE cf e k2.2).map fun y => ([y.1.d], y.2) else some ([], k2.2)) ds2 y.2).map fun q => (q.1, backS y.2 q.2 own2) else none
        else some ([], k.2)) = some ((items x).flatMap (g x), s') ∧ wipeS s' own = wipeS s0 own := fun s1 h x hx => by
    obtain ⟨s2, k, y, k', h1, h2, h3, h4, h5, h6, h7⟩ := ht x hx
    obtain ⟨q, e1, e2⟩ := comp_in (cf := cf) (own2 := own2) (e := e) (p2 := p2) (c2 := c2) (k := k') (ds2 := items x) (g x) h7
    refine ⟨k', ?_, h6⟩
    rw [h, h1]
    simp only [Option.bind_some, h2, if_true, h3, h4, h5, e1, Option.map_some, e2]
  obtain ⟨s', e1, e2⟩ := compL_rel (fun s => wipeS s own = wipeS s0 own) (fun x => (items x).flatMap (g x)) (xs := ds) (s := s0) (fun s1 x hx h => turn s1 h x hx) rfl
  show ((evI cf it s).bind _) = _
  rw [hi]
  show (if ownOk s0 own = true then _ else _) = _
  rw [if_pos hok, e1]
  show (if szOk (ds.flatMap fun x => (items x).flatMap (g x)).length = true then _ else _) = _
  rw [if_pos hz, backS_of e2]
theorem scp_pure {cf : CF} {own : List Nat} {e : CE} {p : Pt} {it : CI} {c : CO} {s s0 : LS} {ds : List D} {o : Option Nat} {ns : List Int} (g : D → List D) (hi : evI cf it s = some (ds, o, s0)) (hok : ownOk s0 own = true)
    (ht : ∀ x ∈ ds, ∃ s', ((bindP (wipeS s0 own) p x).bind fun s2 => (evC cf c s2).bind fun k => if k.1 then (evE cf e k.2).map fun y => ([y.1.d], y.2) else some ([], k.2)) = some (g x, s') ∧ wipeS s' own = wipeS s0 own) (hn : asInts (ds.flatMap g) = some ns) (hz : ns.length < 64) :
    evE cf (.scp own e p it c) s = some (⟨.ow, .list ((sortI (dedup ns)).map .int)⟩, unlock s0 o) := by
  obtain ⟨s', e1, e2⟩ := compL_rel (f := fun x s1 => (bindP (wipeS s1 own) p x).bind fun s2 => (evC cf c s2).bind fun k => if k.1 then (evE cf e k.2).map fun y => ([y.1.d], y.2) else some ([], k.2)) (fun s => wipeS s own = wipeS s0 own) g (xs := ds) (s := s0) (fun s1 x hx h => by
    rw [h]
    exact ht x hx) rfl
  show ((evI cf it s).bind _) = _
  rw [hi]
  show (if ownOk s0 own = true then _ else _) = _
  rw [if_pos hok, e1]
  show ((asInts (ds.flatMap g)).bind fun ns => if ns.length < 64 then _ else _) = _
  rw [hn]
  show (if ns.length < 64 then _ else _) = _
  rw [if_pos hz, backS_of e2]
theorem asInts_map : ∀ ns : List Int, asInts (ns.map .int) = some ns
  | [] => rfl
  | n :: r => by simp [asInts, asInts_map r]
theorem forL_cnt {α β : Type} {f : D → LS → Option Fl} (enc : β → D) (R : Nat → α → LS → Prop) (g : α → β → α) (N : Nat) (L : List β) (hf : ∀ n a s x, x ∈ L → n < N → R n a s → ∃ s', f (enc x) s = some (.nx s') ∧ R (n + 1) (g a x) s') :
    ∀ (l : List β) (n : Nat) (a : α) (s : LS), (∀ x ∈ l, x ∈ L) → n + l.length ≤ N → R n a s → ∃ s', forL f (l.map enc) s = some (.nx s') ∧ R (n + l.length) (l.foldl g a) s'
  | [], n, a, s, _, _, h => ⟨s, rfl, h⟩
  | x :: l, n, a, s, hm, hl, h => by
    simp only [List.length_cons] at hl
    obtain ⟨s1, e1, h1⟩ := hf n a s x (hm x List.mem_cons_self) (by omega) h
    obtain ⟨s2, e2, h2⟩ := forL_cnt enc R g N L hf l (n + 1) (g a x) s1 (fun y hy => hm y (List.mem_cons_of_mem _ hy)) (by omega) h1
    refine ⟨s2, by simp [forL, e1, e2], ?_⟩
    rw [List.length_cons, List.foldl_cons, show n + (l.length + 1) = n + 1 + l.length by omega]
    exact h2
theorem sortI_length : ∀ l : List Int, (sortI l).length = l.length
  | [] => rfl
  | x :: r => by
    have ins : ∀ (x : Int) (l : List Int), (insI x l).length = l.length + 1 := fun x l => by
      induction l with
      | nil => rfl
      | cons y r ih =>
        unfold insI
        split
        · rfl
        · rw [List.length_cons, ih, List.length_cons]
    unfold sortI
    rw [ins, sortI_length r, List.length_cons]
theorem dedup_length : ∀ l : List Int, (dedup l).length ≤ l.length
  | [] => Nat.le_refl _
  | x :: r => by
    unfold dedup
    have := dedup_length r
    split <;> simp only [List.length_cons] <;> omega
end LP

end
section
set_option Elab.async false
set_option linter.all false
set_option maxHeartbeats 2000000
/-! LP30: expressions that leave all names as they are; comprehensions without a state. -/
namespace LP
open PySem
/-- names that hold a list or dict of the frame's own, or one handed in -/
def isBad : Option SV → Bool
  | some ⟨.ow, _⟩ => true
  | some ⟨.io, _⟩ => true
  | _ => false
def badFrom : Nat → LS → List Nat
  | _, [] => []
  | n, x :: s => if isBad x then n :: badFrom (n + 1) s else badFrom (n + 1) s
def badOf (s : LS) : List Nat := badFrom 0 s
def NB (B : List Nat) (s : LS) : Prop := ∀ i x, slot s i = some x → isBad (some x) = true → i ∈ B
theorem badFrom_at : ∀ (s : LS) (n i : Nat) (x : SV), slot s i = some x → isBad (some x) = true → n + i ∈ badFrom n s
  | [], n, i, x, h, _ => by cases h
  | y :: s, n, 0, x, h, hb => by
    rw [slot_z] at h
    subst h
    unfold badFrom
    rw [if_pos hb]
    exact List.mem_cons_self
  | y :: s, n, i + 1, x, h, hb => by
    rw [slot_s] at h
    have := badFrom_at s (n + 1) i x h hb
    rw [show n + (i + 1) = n + 1 + i by omega]
    unfold badFrom
    split
    · exact List.mem_cons_of_mem _ this
    · exact this
theorem NB_of (s : LS) : NB (badOf s) s := fun i x h hb => by
  have := badFrom_at s 0 i x h hb
  rwa [Nat.zero_add] at this
@[simp] theorem isBad_n : isBad none = false := rfl
@[simp] theorem isBad_fz (d : D) : isBad (some ⟨.fz, d⟩) = false := rfl
@[simp] theorem isBad_fi (d : D) : isBad (some ⟨.fi, d⟩) = false := rfl
@[simp] theorem isBad_lk (d : D) : isBad (some ⟨.lk, d⟩) = false := rfl
@[simp] theorem isBad_li (d : D) : isBad (some ⟨.li, d⟩) = false := rfl
@[simp] theorem isBad_ow (d : D) : isBad (some ⟨.ow, d⟩) = true := rfl
@[simp] theorem isBad_io (d : D) : isBad (some ⟨.io, d⟩) = true := rfl
@[simp] theorem badOf_eq (s : LS) : badOf s = badFrom 0 s := rfl
@[simp] theorem badFrom_nil (n : Nat) : badFrom n [] = [] := rfl
@[simp] theorem badFrom_cons (n : Nat) (x : Option SV) (s : LS) : badFrom n (x :: s) = if isBad x then n :: badFrom (n + 1) s else badFrom (n + 1) s := rfl
def isV : CE → Bool
  | .v _ => true
  | _ => false
def ptIn (own : List Nat) : Pt → Bool
  | .v i => own.contains i
  | .t is => is.all own.contains
mutual
def puE (B : List Nat) : CE → Bool
  | .v i => !B.contains i
  | .non => true
  | .bl _ => true
  | .int _ => true
  | .str _ => true
  | .gI _ _ => true
  | .gS _ _ => true
  | .tup es => puEs B es
  | .lst es => puEs B es
  | .bin _ a b => (isV a || puE B a) && (isV b || puE B b)
  | .neg a => puE B a
  | .cmp _ a b => (isV a || puE B a) && (isV b || puE B b)
  | .ch2 _ _ a b c => puE B a && (puE B b && puE B c)
  | .ch3 _ _ _ a b c d => puE B a && (puE B b && (puE B c && puE B d))
  | .isN a => isV a || puE B a
  | .isNN a => isV a || puE B a
  | .and es => puEs B es
  | .or es => puEs B es
  | .not a => puE B a
  | .ite c a b => puE B c && (puE B a && puE B b)
  | .idx a i => (isV a || puE B a) && puE B i
  | .slc a lo hi => (isV a || puE B a) && (puO B lo && puO B hi)
  | .rev a => isV a || puE B a
  | .call _ as => puEs B as
  | .b1 _ a => isV a || puE B a
  | .b2 _ a b => puE B a && puE B b
  | .isI a _ => isV a || puE B a
  | .lrg b => puE B b
  | .lcp own e p it c => ptIn own p && (puI B it && (puE B e && puO B c))
  | .lc2 own own2 e p it c p2 a2 c2 => ptIn own p && (ptIn own2 p2 && (puI B it && (puE B e && (puO B c && (puE B a2 && puO B c2)))))
  | .scp own e p it c => ptIn own p && (puI B it && (puE B e && puO B c))
  | .dic kvs => puK B kvs
  | .isB a _ => isV a || puE B a
  | .mkx _ _ as => puEs B as
  | .isX a _ => puE B a
  | .fld a _ => puE B a
  | .lam _ _ => false
  | .cav _ _ => false
def puEs (B : List Nat) : CEs → Bool
  | .nil => true
  | .cons e r => puE B e && puEs B r
  | .star e r => puE B e && puEs B r
def puO (B : List Nat) : CO → Bool
  | .no => true
  | .yes e => puE B e
def puI (B : List Nat) : CI → Bool
  | .e a => isV a || puE B a
  | .rg1 a => puE B a
  | .rg2 a b => puE B a && puE B b
  | .enu a => isV a || puE B a
  | .zip a b => puE B a && puE B b
  | .zip3 a b c => puE B a && (puE B b && puE B c)
def puK (B : List Nat) : CK → Bool
  | .nil => true
  | .cons _ e r => puE B e && puK B r
end
theorem ls_ext {s t : LS} (hl : s.length = t.length) (h : ∀ j, slot s j = slot t j) : s = t := by
  refine List.ext_getElem? fun j => ?_
  by_cases hj : j < s.length
  · have e := h j
    unfold slot at e
    rw [List.getElem?_eq_getElem hj, List.getElem?_eq_getElem (by omega)] at e ⊢
    simpa using e
  · rw [List.getElem?_eq_none (by omega), List.getElem?_eq_none (by omega)]
theorem NB.wipe {B : List Nat} {s : LS} (h : NB B s) (own : List Nat) : NB B (wipeS s own) := fun i x e hb => by
  rw [wipeS_slot] at e
  split at e
  · cases e
  · exact h i x e hb
theorem NB.put {B : List Nat} {s : LS} (h : NB B s) {i : Nat} {d : SV} (hd : isBad (some d) = false) : NB B (putS s i d) := fun j x e hb => by
  unfold putS at e
  rw [slot_set'] at e
  split at e
  · cases e; rw [hd] at hb; cases hb
  · exact h j x e hb
theorem wipe_put {s : LS} {own : List Nat} {i : Nat} {x : SV} (h : own.contains i = true) : wipeS (putS s i x) own = wipeS s own := by
  refine ls_ext (by rw [wipeS_len, wipeS_len]; exact List.length_set ..) fun j => ?_
  rw [wipeS_slot, wipeS_slot]
  split
  · rfl
  · rename_i hj
    unfold putS
    rw [slot_set', if_neg]
    rintro ⟨rfl, _⟩
    exact hj (by simpa using h)
theorem stores_pu {B own : List Nat} : ∀ {is : List Nat} {ds : List D} {s s' : LS}, stores s is ds = some s' → is.all own.contains = true → NB B s → wipeS s' own = wipeS s own ∧ NB B s'
  | [], [], s, s', h, _, nb => by cases h; exact ⟨rfl, nb⟩
  | i :: is, d :: ds, s, s', h, ho, nb => by
    simp only [stores, Option.bind_eq_some_iff, store] at h
    obtain ⟨t, h1, h2⟩ := h
    obtain ⟨_, h1⟩ := ite_some h1
    cases h1
    rw [List.all_cons, Bool.and_eq_true] at ho
    obtain ⟨a, b⟩ := stores_pu h2 ho.2 (nb.put rfl)
    exact ⟨by rw [a, wipe_put ho.1], b⟩
  | [], _ :: _, s, s', h, _, _ => by cases h
  | _ :: _, [], s, s', h, _, _ => by cases h
theorem bindP_pu {B own : List Nat} {p : Pt} {d : D} {s s' : LS} (h : bindP s p d = some s') (ho : ptIn own p = true) (nb : NB B s) : wipeS s' own = wipeS s own ∧ NB B s' := by
  cases p with
  | v i =>
    simp only [bindP, store] at h
    obtain ⟨_, h⟩ := ite_some h
    cases h
    exact ⟨wipe_put ho, nb.put rfl⟩
  | t is =>
    cases d <;> first | cases h | exact stores_pu h ho nb
theorem leak_pu {B : List Nat} {s s' : LS} {i : Nat} {x : SV} (nb : NB B s) (hi : (!B.contains i) = true) (h : leak s i = some (x, s')) : s' = s := by
  simp only [leak, Option.bind_eq_some_iff] at h
  obtain ⟨y, e, h⟩ := h
  have hb : isBad (some y) = false := by
    cases hq : isBad (some y) with
    | false => rfl
    | true =>
      have := nb i y e hq
      simp only [Bool.not_eq_true', List.contains_eq_mem, decide_eq_false_iff_not] at hi
      exact absurd this hi
  obtain ⟨m, d⟩ := y
  cases m <;> first | (cases h; done) | (cases h; rfl) | (simp at hb)
theorem opA_pu {e : CE} {r : Option (SV × LS)} {s s' : LS} {o : Opd} (hr : isV e = false → ∀ x s1, r = some (x, s1) → s1 = s) (h : opA e r s = some (o, s')) : s' = s := by
  cases hv : isV e with
  | true =>
    cases e <;> first | cases hv | skip
    simp only [opA, Option.map_eq_some_iff] at h
    obtain ⟨y, _, h⟩ := h
    cases h; rfl
  | false =>
    rw [opA_n (by rintro i rfl; cases hv)] at h
    simp only [Option.map_eq_some_iff] at h
    obtain ⟨y, e1, h⟩ := h
    cases h
    exact hr hv y.1 y.2 e1
theorem tst_pu {s s' : LS} {r : Option (SV × LS)} {b : Bool} (h : tst r = some (b, s')) (hr : ∀ x s1, r = some (x, s1) → s1 = s) : s' = s := by
  unfold tst at h
  split at h
  · cases h; exact hr _ _ rfl
  · cases h
theorem backs_pu {B : List Nat} : ∀ {os : List Opd} {rs : List (Option SV)} {s s' : LS}, NB B s → (∀ i, Opd.loc i ∈ os → i ∉ B) → backs s os rs = some s' → s' = s
  | [], rs, s, s', _, _, h => by cases rs <;> (cases h; rfl)
  | .val _ :: os, [], s, s', _, _, h => by cases h
  | .val _ :: os, r :: rs, s, s', nb, hb, h => backs_pu nb (fun i hi => hb i (List.mem_cons_of_mem _ hi)) h
  | .loc i :: os, [], s, s', _, _, h => by cases h
  | .loc i :: os, r :: rs, s, s', nb, hb, h => by
    have ih : backs s os rs = some s' → s' = s := backs_pu nb (fun i hi => hb i (List.mem_cons_of_mem _ hi))
    have hi := hb i List.mem_cons_self
    unfold backs at h
    split at h
    all_goals first | exact ih h | (rename_i e _; exact absurd (nb i _ e rfl) hi) | (rename_i e; exact absurd (nb i _ e rfl) hi) | (rename_i e _ _ _; exact absurd (nb i _ e rfl) hi) | (rename_i e _ _; exact absurd (nb i _ e rfl) hi)
theorem callE_pu {B : List Nat} {cf : CF} {f : Nat} {os : List Opd} {s s' : LS} {x : SV} (nb : NB B s) (hb : ∀ i, Opd.loc i ∈ os → i ∉ B) (h : callE cf f os s = some (x, s')) : s' = s := by
  unfold callE at h
  obtain ⟨_, h⟩ := ite_some h
  simp only [Option.bind_eq_some_iff] at h
  obtain ⟨vs, _, r, _, h⟩ := h
  obtain ⟨_, h⟩ := ite_else h
  rw [Option.map_eq_some_iff] at h
  obtain ⟨t, h, e⟩ := h
  cases e
  exact backs_pu nb hb h
theorem lockO_pu {B : List Nat} {s s1 : LS} {o : Opd} {xs : List D} {w : Option Nat} (nb : NB B s) (h : lockO s o = some (xs, w, s1)) : unlock s1 w = s ∧ NB B s1 := by
  cases o with
  | val d =>
    cases d <;> first | (cases h; exact ⟨rfl, nb⟩) | cases h
  | loc i =>
    simp only [lockO, Option.bind_eq_some_iff] at h
    obtain ⟨⟨m, d⟩, e, h⟩ := h
    have back : ∀ y : SV, putS (putS s i y) i ⟨m, d⟩ = s := fun y => by
      refine ls_ext (by unfold putS; rw [List.length_set, List.length_set]) fun j => ?_
      unfold putS
      rw [slot_set', slot_set', List.length_set]
      by_cases hj : i = j
      · subst hj
        by_cases hl : i < s.length
        · rw [if_pos ⟨rfl, hl⟩, e]
        · rw [if_neg (fun z => hl z.2), if_neg (fun z => hl z.2)]
      · rw [if_neg (fun z => hj z.1), if_neg (fun z => hj z.1)]
    have at_ : ∀ y : SV, slot (putS s i y) i = some y := fun y => by
      unfold putS
      have := slot_lt' e
      rw [slot_set', if_pos ⟨rfl, this⟩]
    cases d <;> first | (cases h; done) | skip
    · cases m <;> (simp only [] at h; cases h)
      all_goals first
        | exact ⟨rfl, nb⟩
        | (refine ⟨?_, nb.put rfl⟩; simp only [unlock, at_]; exact back _)
    · cases h; exact ⟨rfl, nb⟩
section
variable (cf : CF) (B : List Nat)
/-- the items of a walk without a state -/
def compP {α : Type} (f : α → Option (List D)) : List α → Option (List D)
  | [] => some []
  | x :: xs => (f x).bind fun r => (compP f xs).map fun q => r ++ q
theorem compL_pu {F : D → LS → Option (List D × LS)} {G : D → Option (List D)} {R : LS → Prop} (h : ∀ s1 x, R s1 → match G x with
    | none => F x s1 = none
    | some l => ∃ s2, F x s1 = some (l, s2) ∧ R s2) : ∀ {xs : List D} {s : LS}, R s → match compP G xs with
    | none => compL F xs s = none
    | some l => ∃ s', compL F xs s = some (l, s') ∧ R s'
  | [], s, r => ⟨s, rfl, r⟩
  | x :: xs, s, r => by
    have h1 := h s x r
    simp only [compP, compL]
    cases hg : G x with
    | none =>
      rw [hg] at h1
      simp only [] at h1
      rw [h1]
      rfl
    | some l =>
      rw [hg] at h1
      obtain ⟨s2, e2, r2⟩ := h1
      have ih := compL_pu h (xs := xs) r2
      rw [e2]
      simp only [Option.bind_some]
      cases hq : compP G xs with
      | none =>
        rw [hq] at ih
        simp only [] at ih
        rw [ih]
        rfl
      | some q =>
        rw [hq] at ih
        obtain ⟨s', e3, r3⟩ := ih
        rw [e3]
        exact ⟨s', rfl, r3⟩
/-- one turn of a comprehension -/
abbrev turnP (own : List Nat) (e : CE) (p : Pt) (c : CO) (s : LS) (x : D) : Option (List D) :=
  (bindP (wipeS s own) p x).bind fun s2 => (evC cf c s2).bind fun k => if k.1 then (evE cf e s2).map fun y => [y.1.d] else some []
theorem comp_pu {own : List Nat} {e : CE} {p : Pt} {c : CO} {s : LS} {xs : List D} (hp : ptIn own p = true) (nb : NB B s) (he : ∀ s x s', NB B s → evE cf e s = some (x, s') → s' = s) (hc : ∀ s x s', NB B s → evC cf c s = some (x, s') → s' = s) :
    match compP (turnP cf own e p c s) xs with
    | none => compL (fun x s1 => (bindP (wipeS s1 own) p x).bind fun s2 => (evC cf c s2).bind fun k => if k.1 then (evE cf e k.2).map fun y => ([y.1.d], y.2) else some ([], k.2)) xs s = none
    | some l => ∃ s', compL (fun x s1 => (bindP (wipeS s1 own) p x).bind fun s2 => (evC cf c s2).bind fun k => if k.1 then (evE cf e k.2).map fun y => ([y.1.d], y.2) else some ([], k.2)) xs s = some (l, s') ∧ wipeS s' own = wipeS s own := by
  refine compL_pu (R := fun s1 => wipeS s1 own = wipeS s own) (fun s1 x r => ?_) rfl
  rw [r]
  have dup : ∀ t, wipeS (wipeS t own) own = wipeS t own := fun t => ls_ext (by simp only [wipeS_len]) fun j => by
    rw [wipeS_slot, wipeS_slot]
    split <;> rfl
  unfold turnP
  cases hb : bindP (wipeS s own) p x with
  | none => rfl
  | some s2 =>
    obtain ⟨w2, nb2⟩ := bindP_pu hb hp (nb.wipe own)
    rw [dup] at w2
    simp only [Option.bind_some]
    cases hk : evC cf c s2 with
    | none => rfl
    | some k =>
      obtain ⟨k1, k2⟩ := k
      have := hc s2 k1 k2 nb2 hk
      subst this
      simp only [Option.bind_some]
      cases k1 with
      | false => exact ⟨k2, rfl, w2⟩
      | true =>
        simp only [if_true]
        cases hy : evE cf e k2 with
        | none => rfl
        | some y =>
          obtain ⟨y1, y2⟩ := y
          have := he k2 y1 y2 nb2 hy
          subst this
          exact ⟨y2, rfl, w2⟩
theorem or_v {a : CE} {b : Bool} (h : (isV a || b) = true) (hv : isV a = false) : b = true := by rw [hv] at h; exact h
mutual
theorem evE_pu : ∀ (c : CE) (s : LS) (x : SV) (s' : LS), NB B s → puE B c = true → evE cf c s = some (x, s') → s' = s
  | .v i, s, x, s', nb, pu, h => leak_pu nb pu h
  | .non, s, x, s', nb, pu, h => by cases h; rfl
  | .bl b, s, x, s', nb, pu, h => by cases h; rfl
  | .int i, s, x, s', nb, pu, h => by cases h; rfl
  | .str i, s, x, s', nb, pu, h => by cases h; rfl
  | .gI _ i, s, x, s', nb, pu, h => by cases h; rfl
  | .gS _ i, s, x, s', nb, pu, h => by cases h; rfl
  | .tup es, s, x, s', nb, pu, h => by
    simp only [evE, Option.bind_eq_some_iff] at h
    obtain ⟨r, h1, h2⟩ := h
    obtain ⟨_, h2⟩ := ite_some h2
    cases h2; exact evEs_pu es s r.1 r.2 nb pu h1
  | .lst es, s, x, s', nb, pu, h => by
    simp only [evE, Option.bind_eq_some_iff] at h
    obtain ⟨r, h1, h2⟩ := h
    obtain ⟨_, h2⟩ := ite_some h2
    cases h2; exact evEs_pu es s r.1 r.2 nb pu h1
  | .bin op a b, s, x, s', nb, pu, h => by
    simp only [evE, Option.bind_eq_some_iff, Option.map_eq_some_iff] at h
    obtain ⟨⟨y1, y2⟩, e1, ⟨z1, z2⟩, e2, dx, e3, dy, e4, rr, e5, e6⟩ := h
    cases e6
    simp only [puE, Bool.and_eq_true] at pu
    have := opA_pu (fun hv x s1 e => evE_pu a s x s1 nb (or_v pu.1 hv) e) e1
    subst this
    exact opA_pu (fun hv x s1 e => evE_pu b y2 x s1 nb (or_v pu.2 hv) e) e2
  | .neg a, s, x, s', nb, pu, h => by
    simp only [evE, Option.bind_eq_some_iff, Option.map_eq_some_iff] at h
    obtain ⟨y, e1, i, e2, e3⟩ := h
    cases e3
    exact evE_pu a s _ _ nb pu e1
  | .cmp op a b, s, x, s', nb, pu, h => by
    simp only [evE, Option.bind_eq_some_iff, Option.map_eq_some_iff] at h
    obtain ⟨⟨y1, y2⟩, e1, ⟨z1, z2⟩, e2, dx, e3, dy, e4, rr, e5, e6⟩ := h
    cases e6
    simp only [puE, Bool.and_eq_true] at pu
    have := opA_pu (fun hv x s1 e => evE_pu a s x s1 nb (or_v pu.1 hv) e) e1
    subst this
    exact opA_pu (fun hv x s1 e => evE_pu b y2 x s1 nb (or_v pu.2 hv) e) e2
  | .ch2 o1 o2 a b c, s, x, s', nb, pu, h => by
    simp only [evE, Option.bind_eq_some_iff] at h
    simp only [puE, Bool.and_eq_true] at pu
    obtain ⟨⟨y1, y2⟩, e1, ⟨z1, z2⟩, e2, k, e3, e4⟩ := h
    have := evE_pu a s _ _ nb pu.1 e1
    subst this
    have := evE_pu b y2 _ _ nb pu.2.1 e2
    subst this
    cases k with
    | false => cases e4; rfl
    | true =>
      simp only [if_true, Option.bind_eq_some_iff, Option.map_eq_some_iff] at e4
      obtain ⟨u, e4, rr, e5, e6⟩ := e4
      cases e6
      exact evE_pu c z2 _ _ nb pu.2.2 e4
  | .ch3 o1 o2 o3 a b c d, s, x, s', nb, pu, h => by
    simp only [evE, Option.bind_eq_some_iff] at h
    simp only [puE, Bool.and_eq_true] at pu
    obtain ⟨⟨y1, y2⟩, e1, ⟨z1, z2⟩, e2, k, e3, e4⟩ := h
    have := evE_pu a s _ _ nb pu.1 e1
    subst this
    have := evE_pu b y2 _ _ nb pu.2.1 e2
    subst this
    cases k with
    | false => cases e4; rfl
    | true =>
      simp only [if_true, Option.bind_eq_some_iff] at e4
      obtain ⟨⟨u1, u2⟩, e4, k2, e5, e6⟩ := e4
      have := evE_pu c z2 _ _ nb pu.2.2.1 e4
      subst this
      cases k2 with
      | false => cases e6; rfl
      | true =>
        simp only [if_true, Option.bind_eq_some_iff, Option.map_eq_some_iff] at e6
        obtain ⟨t, e6, rr, e7, e8⟩ := e6
        cases e8
        exact evE_pu d u2 _ _ nb pu.2.2.2 e6
  | .isN a, s, x, s', nb, pu, h => by
    simp only [evE, Option.bind_eq_some_iff, Option.map_eq_some_iff] at h
    obtain ⟨y, e1, d, e2, e3⟩ := h
    cases e3
    exact opA_pu (fun hv x s1 e => evE_pu a s x s1 nb (or_v pu hv) e) e1
  | .isNN a, s, x, s', nb, pu, h => by
    simp only [evE, Option.bind_eq_some_iff, Option.map_eq_some_iff] at h
    obtain ⟨y, e1, d, e2, e3⟩ := h
    cases e3
    exact opA_pu (fun hv x s1 e => evE_pu a s x s1 nb (or_v pu hv) e) e1
  | .and es, s, x, s', nb, pu, h => evAnd_pu es s x s' nb pu h
  | .or es, s, x, s', nb, pu, h => evOr_pu es s x s' nb pu h
  | .not a, s, x, s', nb, pu, h => by
    simp only [evE, Option.map_eq_some_iff] at h
    obtain ⟨y, e1, e2⟩ := h
    cases e2
    exact tst_pu e1 fun x s1 e => evE_pu a s x s1 nb pu e
  | .ite c a b, s, x, s', nb, pu, h => by
    simp only [evE, Option.bind_eq_some_iff] at h
    simp only [puE, Bool.and_eq_true] at pu
    obtain ⟨⟨k, s1⟩, e1, e2⟩ := h
    have := tst_pu e1 fun x s1 e => evE_pu c s x s1 nb pu.1 e
    subst this
    cases k with
    | true => exact evE_pu a s1 _ _ nb pu.2.1 e2
    | false => exact evE_pu b s1 _ _ nb pu.2.2 e2
  | .idx a i, s, x, s', nb, pu, h => by
    simp only [evE, Option.bind_eq_some_iff, Option.map_eq_some_iff] at h
    simp only [puE, Bool.and_eq_true] at pu
    obtain ⟨⟨y1, y2⟩, e1, z, e2, dx, e3, rr, e4, e5⟩ := h
    cases e5
    have := opA_pu (fun hv x s1 e => evE_pu a s x s1 nb (or_v pu.1 hv) e) e1
    subst this
    exact evE_pu i y2 _ _ nb pu.2 e2
  | .slc a lo hi, s, x, s', nb, pu, h => by
    simp only [evE, Option.bind_eq_some_iff, Option.map_eq_some_iff] at h
    simp only [puE, Bool.and_eq_true] at pu
    obtain ⟨⟨y1, y2⟩, e1, ⟨z1, z2⟩, e2, w, e3, dx, e4, rr, e5, e6⟩ := h
    cases e6
    have := opA_pu (fun hv x s1 e => evE_pu a s x s1 nb (or_v pu.1 hv) e) e1
    subst this
    have := evO_pu lo y2 _ _ nb pu.2.1 e2
    subst this
    exact evO_pu hi z2 _ _ nb pu.2.2 e3
  | .rev a, s, x, s', nb, pu, h => by
    simp only [evE, Option.bind_eq_some_iff, Option.map_eq_some_iff] at h
    obtain ⟨y, e1, dx, e2, rr, e3, e4⟩ := h
    cases e4
    exact opA_pu (fun hv x s1 e => evE_pu a s x s1 nb (or_v pu hv) e) e1
  | .call f as, s, x, s', nb, pu, h => by
    simp only [evE, Option.bind_eq_some_iff] at h
    obtain ⟨⟨r1, r2⟩, e1, e2⟩ := h
    obtain ⟨a1, a2⟩ := evAs_pu as s r1 r2 nb pu e1
    subst a1
    exact callE_pu nb a2 e2
  | .b1 f a, s, x, s', nb, pu, h => by
    simp only [evE, Option.bind_eq_some_iff, Option.map_eq_some_iff] at h
    obtain ⟨y, e1, dx, e2, rr, e3, e4⟩ := h
    cases e4
    exact opA_pu (fun hv x s1 e => evE_pu a s x s1 nb (or_v pu hv) e) e1
  | .b2 f a b, s, x, s', nb, pu, h => by
    simp only [evE, Option.bind_eq_some_iff, Option.map_eq_some_iff] at h
    simp only [puE, Bool.and_eq_true] at pu
    obtain ⟨⟨y1, y2⟩, e1, z, e2, rr, e3, e4⟩ := h
    cases e4
    have := evE_pu a s _ _ nb pu.1 e1
    subst this
    exact evE_pu b y2 _ _ nb pu.2 e2
  | .isI a t, s, x, s', nb, pu, h => by
    simp only [evE, Option.bind_eq_some_iff] at h
    obtain ⟨y, e1, d, e2, e3⟩ := h
    obtain ⟨_, e3⟩ := ite_else e3
    cases e3
    exact opA_pu (fun hv x s1 e => evE_pu a s x s1 nb (or_v pu hv) e) e1
  | .lrg b, s, x, s', nb, pu, h => by
    simp only [evE, Option.bind_eq_some_iff] at h
    obtain ⟨y, e1, j, e2, e3⟩ := h
    obtain ⟨_, e3⟩ := ite_some e3
    cases e3; exact evE_pu b s _ _ nb pu e1
  | .lcp own e p it c, s, x, s', nb, pu, h => by
    simp only [puE, Bool.and_eq_true] at pu
    simp only [evE, Option.bind_eq_some_iff] at h
    obtain ⟨⟨w1, w2, w3⟩, e1, e2⟩ := h
    obtain ⟨_, e2⟩ := ite_some e2
    simp only [Option.bind_eq_some_iff] at e2
    obtain ⟨r, e3, e4⟩ := e2
    obtain ⟨_, e4⟩ := ite_some e4
    cases e4
    obtain ⟨u, nb0⟩ := evI_pu it s w1 w2 w3 nb pu.2.1 e1
    have cp := comp_pu cf B (own := own) (e := e) (p := p) (c := c) (s := w3) (xs := w1) pu.1 nb0 (fun s x s' nb h => evE_pu e s x s' nb pu.2.2.1 h) fun s x s' nb h => evC_pu c s x s' nb pu.2.2.2 h
    rw [e3] at cp
    split at cp
    · cases cp
    · obtain ⟨s1, q1, q2⟩ := cp
      cases q1
      rw [backS_of q2]
      exact u
  | .lc2 own own2 e p it c p2 a2 c2, s, x, s', nb, pu, h => by
    simp only [puE, Bool.and_eq_true] at pu
    simp only [evE, Option.bind_eq_some_iff] at h
    obtain ⟨⟨w1, w2, w3⟩, e1, e2⟩ := h
    obtain ⟨_, e2⟩ := ite_some e2
    simp only [Option.bind_eq_some_iff] at e2
    obtain ⟨r, e3, e4⟩ := e2
    obtain ⟨_, e4⟩ := ite_some e4
    cases e4
    obtain ⟨u, nb0⟩ := evI_pu it s w1 w2 w3 nb pu.2.2.1 e1
    have dup : ∀ t, wipeS (wipeS t own) own = wipeS t own := fun t => ls_ext (by simp only [wipeS_len]) fun j => by
      rw [wipeS_slot, wipeS_slot]
      split <;> rfl
    have cp : wipeS r.2 own = wipeS w3 own := compL_keep (R := fun a b => wipeS a own = wipeS w3 own → wipeS b own = wipeS w3 own) (fun s h => h) (fun a b c h1 h2 h3 => h2 (h1 h3)) (fun x s1 r hr hw => by
      simp only [Option.bind_eq_some_iff] at hr
      obtain ⟨s2, h1, ⟨k1, k2⟩, h2, h3⟩ := hr
      rw [hw] at h1
      obtain ⟨b1, b2⟩ := bindP_pu h1 pu.1 (nb0.wipe own)
      rw [dup] at b1
      have := evC_pu c s2 _ _ b2 pu.2.2.2.2.1 h2
      subst this
      simp only [] at h3
      split at h3
      · simp only [Option.bind_eq_some_iff] at h3
        obtain ⟨⟨y1, y2⟩, h3, ds2, h30, h4⟩ := h3
        obtain ⟨_, h4a⟩ := ite_some h4
        simp only [Option.map_eq_some_iff] at h4a
        obtain ⟨q, h4b, h5⟩ := h4a
        cases h5
        have := evE_pu a2 k2 _ _ b2 pu.2.2.2.2.2.1 h3
        subst this
        have cq := comp_pu cf B (own := own2) (e := e) (p := p2) (c := c2) (s := y2) (xs := ds2) pu.2.1 b2 (fun s x s' nb h => evE_pu e s x s' nb pu.2.2.2.1 h) fun s x s' nb h => evC_pu c2 s x s' nb pu.2.2.2.2.2.2 h
        rw [h4b] at cq
        split at cq
        · cases cq
        · obtain ⟨s3, q1, q2⟩ := cq
          cases q1
          simp only []
          rw [backS_of q2]
          exact b1
      · cases h3
        exact b1) e3 rfl
    rw [backS_of cp]
    exact u
  | .scp own e p it c, s, x, s', nb, pu, h => by
    simp only [puE, Bool.and_eq_true] at pu
    simp only [evE, Option.bind_eq_some_iff] at h
    obtain ⟨⟨w1, w2, w3⟩, e1, e2⟩ := h
    obtain ⟨_, e2⟩ := ite_some e2
    simp only [Option.bind_eq_some_iff] at e2
    obtain ⟨r, e3, ns, e4, e5⟩ := e2
    obtain ⟨_, e5⟩ := ite_some e5
    cases e5
    obtain ⟨u, nb0⟩ := evI_pu it s w1 w2 w3 nb pu.2.1 e1
    have cp := comp_pu cf B (own := own) (e := e) (p := p) (c := c) (s := w3) (xs := w1) pu.1 nb0 (fun s x s' nb h => evE_pu e s x s' nb pu.2.2.1 h) fun s x s' nb h => evC_pu c s x s' nb pu.2.2.2 h
    rw [e3] at cp
    split at cp
    · cases cp
    · obtain ⟨s1, q1, q2⟩ := cp
      cases q1
      rw [backS_of q2]
      exact u
  | .dic kvs, s, x, s', nb, pu, h => by
    simp only [evE, Option.bind_eq_some_iff] at h
    obtain ⟨r, h1, h2⟩ := h
    cases h2
    exact evK_pu kvs s r.1 r.2 nb pu h1
  | .isB a b, s, x, s', nb, pu, h => by
    simp only [evE, Option.bind_eq_some_iff, Option.map_eq_some_iff] at h
    obtain ⟨y, e1, d, e2, _, _, e3⟩ := h
    cases e3
    exact opA_pu (fun hv x s1 e => evE_pu a s x s1 nb (or_v pu hv) e) e1
  | .mkx k w as, s, x, s', nb, pu, h => by
    simp only [evE, Option.bind_eq_some_iff, Option.map_eq_some_iff] at h
    obtain ⟨r, h1, d, _, h2⟩ := h
    cases h2
    exact evEs_pu as s r.1 r.2 nb pu h1
  | .isX a cs, s, x, s', nb, pu, h => by
    simp only [evE, Option.bind_eq_some_iff, Option.map_eq_some_iff] at h
    obtain ⟨y, e1, d, e2, e3⟩ := h
    cases e3
    exact evE_pu a s _ _ nb pu e1
  | .fld a f, s, x, s', nb, pu, h => by
    simp only [evE, Option.bind_eq_some_iff, Option.map_eq_some_iff] at h
    obtain ⟨y, e1, d, e2, e3⟩ := h
    cases e3
    exact evE_pu a s _ _ nb pu e1
  | .lam _ _, s, x, s', nb, pu, h => by cases h
  | .cav _ _, s, x, s', nb, pu, h => by cases h
theorem evAnd_pu : ∀ (c : CEs) (s : LS) (x : SV) (s' : LS), NB B s → puEs B c = true → evAnd cf c s = some (x, s') → s' = s
  | .nil, s, x, s', nb, pu, h => by cases h
  | .cons e .nil, s, x, s', nb, pu, h => by
    simp only [puEs, Bool.and_eq_true] at pu
    exact evE_pu e s x s' nb pu.1 h
  | .cons e (.cons e2 r), s, x, s', nb, pu, h => by
    unfold puEs at pu
    rw [Bool.and_eq_true] at pu
    simp only [evAnd, Option.bind_eq_some_iff] at h
    obtain ⟨⟨k, s1⟩, e1, e3⟩ := h
    have := tst_pu e1 fun x s1 h => evE_pu e s x s1 nb pu.1 h
    subst this
    cases k with
    | true => exact evAnd_pu (.cons e2 r) s1 _ _ nb pu.2 e3
    | false => cases e3; rfl
  | .cons _ (.star _ _), s, x, s', nb, pu, h => by cases h
  | .star _ _, s, x, s', nb, pu, h => by cases h
theorem evOr_pu : ∀ (c : CEs) (s : LS) (x : SV) (s' : LS), NB B s → puEs B c = true → evOr cf c s = some (x, s') → s' = s
  | .nil, s, x, s', nb, pu, h => by cases h
  | .cons e .nil, s, x, s', nb, pu, h => by
    simp only [puEs, Bool.and_eq_true] at pu
    exact evE_pu e s x s' nb pu.1 h
  | .cons e (.cons e2 r), s, x, s', nb, pu, h => by
    unfold puEs at pu
    rw [Bool.and_eq_true] at pu
    simp only [evOr, Option.bind_eq_some_iff] at h
    obtain ⟨⟨k, s1⟩, e1, e3⟩ := h
    have := tst_pu e1 fun x s1 h => evE_pu e s x s1 nb pu.1 h
    subst this
    cases k with
    | false => exact evOr_pu (.cons e2 r) s1 _ _ nb pu.2 e3
    | true => cases e3; rfl
  | .cons _ (.star _ _), s, x, s', nb, pu, h => by cases h
  | .star _ _, s, x, s', nb, pu, h => by cases h
theorem evEs_pu : ∀ (c : CEs) (s : LS) (x : List D) (s' : LS), NB B s → puEs B c = true → evEs cf c s = some (x, s') → s' = s
  | .nil, s, x, s', nb, pu, h => by cases h; rfl
  | .cons e r, s, x, s', nb, pu, h => by
    simp only [puEs, Bool.and_eq_true] at pu
    simp only [evEs, Option.bind_eq_some_iff, Option.map_eq_some_iff] at h
    obtain ⟨⟨y1, y2⟩, e1, z, e2, e3⟩ := h
    cases e3
    have := evE_pu e s _ _ nb pu.1 e1
    subst this
    exact evEs_pu r y2 _ _ nb pu.2 e2
  | .star e r, s, x, s', nb, pu, h => by
    simp only [puEs, Bool.and_eq_true] at pu
    simp only [evEs, Option.bind_eq_some_iff, Option.map_eq_some_iff] at h
    obtain ⟨⟨y1, y2⟩, e1, ys, e0, z, e2, e3⟩ := h
    cases e3
    have := evE_pu e s _ _ nb pu.1 e1
    subst this
    exact evEs_pu r y2 _ _ nb pu.2 e2
theorem evAs_pu : ∀ (c : CEs) (s : LS) (x : List Opd) (s' : LS), NB B s → puEs B c = true → evAs cf c s = some (x, s') → s' = s ∧ ∀ i, Opd.loc i ∈ x → i ∉ B
  | .nil, s, x, s', nb, pu, h => by cases h; exact ⟨rfl, fun i hi => by cases hi⟩
  | .cons e r, s, x, s', nb, pu, h => by
    simp only [puEs, Bool.and_eq_true] at pu
    simp only [evAs, Option.bind_eq_some_iff, Option.map_eq_some_iff] at h
    obtain ⟨⟨y1, y2⟩, e1, z, e2, e3⟩ := h
    cases e3
    have := opA_pu (fun hv x s1 h => evE_pu e s x s1 nb pu.1 h) e1
    subst this
    obtain ⟨a, b⟩ := evAs_pu r y2 _ _ nb pu.2 e2
    refine ⟨a, fun i hi => ?_⟩
    rcases List.mem_cons.mp hi with q | q
    · subst q
      cases hv : isV e with
      | false =>
        rw [opA_n (by rintro j rfl; cases hv)] at e1
        simp only [Option.map_eq_some_iff] at e1
        obtain ⟨_, _, q⟩ := e1
        cases q
      | true =>
        cases e <;> first | (cases hv; done) | skip
        simp only [opA, Option.map_eq_some_iff] at e1
        obtain ⟨_, _, q⟩ := e1
        cases q
        have := pu.1
        simpa [puE] using this
    · exact b i q
  | .star e r, s, x, s', nb, pu, h => by cases h
theorem evO_pu : ∀ (c : CO) (s : LS) (x : Option Int) (s' : LS), NB B s → puO B c = true → evO cf c s = some (x, s') → s' = s
  | .no, s, x, s', nb, pu, h => by cases h; rfl
  | .yes e, s, x, s', nb, pu, h => by
    simp only [evO, Option.bind_eq_some_iff, Option.map_eq_some_iff] at h
    obtain ⟨y, e1, k, e2, e3⟩ := h
    cases e3
    exact evE_pu e s _ _ nb pu e1
theorem evC_pu : ∀ (c : CO) (s : LS) (x : Bool) (s' : LS), NB B s → puO B c = true → evC cf c s = some (x, s') → s' = s
  | .no, s, x, s', nb, pu, h => by cases h; rfl
  | .yes e, s, x, s', nb, pu, h => tst_pu h fun x s1 h => evE_pu e s x s1 nb pu h
theorem evI_pu : ∀ (c : CI) (s : LS) (x : List D) (o : Option Nat) (s' : LS), NB B s → puI B c = true → evI cf c s = some (x, o, s') → unlock s' o = s ∧ NB B s'
  | .e a, s, x, o, s', nb, pu, h => by
    simp only [evI, Option.bind_eq_some_iff] at h
    obtain ⟨⟨y1, y2⟩, e1, e2⟩ := h
    have := opA_pu (fun hv x s1 h => evE_pu a s x s1 nb (or_v pu hv) h) e1
    subst this
    exact lockO_pu nb e2
  | .rg1 a, s, x, o, s', nb, pu, h => by
    simp only [evI, Option.bind_eq_some_iff] at h
    obtain ⟨⟨y1, y2⟩, e1, j, e2, e3⟩ := h
    obtain ⟨_, e3⟩ := ite_some e3
    cases e3
    have := evE_pu a s _ _ nb pu e1
    subst this
    exact ⟨rfl, nb⟩
  | .rg2 a b, s, x, o, s', nb, pu, h => by
    simp only [puI, Bool.and_eq_true] at pu
    simp only [evI, Option.bind_eq_some_iff] at h
    obtain ⟨⟨y1, y2⟩, e1, ⟨z1, z2⟩, e2, i, e3, j, e4, e5⟩ := h
    obtain ⟨_, e5⟩ := ite_some e5
    cases e5
    have := evE_pu a s _ _ nb pu.1 e1
    subst this
    have := evE_pu b y2 _ _ nb pu.2 e2
    subst this
    exact ⟨rfl, nb⟩
  | .enu a, s, x, o, s', nb, pu, h => by
    simp only [evI, Option.bind_eq_some_iff, Option.map_eq_some_iff] at h
    obtain ⟨⟨y1, y2⟩, e1, ⟨wx, wo, ws⟩, e2, e3⟩ := h
    cases e3
    have := opA_pu (fun hv x s1 h => evE_pu a s x s1 nb (or_v pu hv) h) e1
    subst this
    exact lockO_pu nb e2
  | .zip a b, s, x, o, s', nb, pu, h => by
    simp only [puI, Bool.and_eq_true] at pu
    simp only [evI, Option.bind_eq_some_iff] at h
    obtain ⟨⟨y1, y2⟩, e1, ⟨z1, z2⟩, e2, e3⟩ := h
    have := evE_pu a s _ _ nb pu.1 e1
    subst this
    have := evE_pu b y2 _ _ nb pu.2 e2
    subst this
    split at e3
    · cases e3; exact ⟨rfl, nb⟩
    · cases e3; exact ⟨rfl, nb⟩
    · cases e3
  | .zip3 a b c, s, x, o, s', nb, pu, h => by
    simp only [puI, Bool.and_eq_true] at pu
    simp only [evI, Option.bind_eq_some_iff] at h
    obtain ⟨⟨y1, y2⟩, e1, ⟨z1, z2⟩, e2, ⟨w1, w2⟩, e3, e4⟩ := h
    have := evE_pu a s _ _ nb pu.1 e1
    subst this
    have := evE_pu b y2 _ _ nb pu.2.1 e2
    subst this
    have := evE_pu c z2 _ _ nb pu.2.2 e3
    subst this
    split at e4
    · cases e4; exact ⟨rfl, nb⟩
    · cases e4
theorem evK_pu : ∀ (c : CK) (s : LS) (x : List (D × D)) (s' : LS), NB B s → puK B c = true → evK cf c s = some (x, s') → s' = s
  | .nil, s, x, s', nb, pu, h => by cases h; rfl
  | .cons k e r, s, x, s', nb, pu, h => by
    simp only [puK, Bool.and_eq_true] at pu
    simp only [evK, Option.bind_eq_some_iff] at h
    obtain ⟨⟨y1, y2⟩, e1, z, e2, e3⟩ := h
    obtain ⟨_, e3⟩ := ite_some e3
    cases e3
    have := evE_pu e s _ _ nb pu.1 e1
    subst this
    exact evK_pu r y2 _ _ nb pu.2 e2
end
/-- the look, as a thing to be shown by running it -/
inductive Pu (s : LS) (e : CE) : Prop
  | mk (h : puE (badOf s) e = true)
theorem Pu.h {s : LS} {e : CE} : Pu s e → puE (badOf s) e = true
  | .mk h => h
/-- a comprehension as a plain walk -/
theorem lcp_s {own : List Nat} {e : CE} {p : Pt} {it : CI} {c : CO} {s : LS} (pu0 : Pu s (.lcp own e p it c)) :
    evE cf (.lcp own e p it c) s = (evI cf it s).bind fun w => if ownOk w.2.2 own then (compP (turnP cf own e p c w.2.2) w.1).bind fun r => if szOk r.length then some (⟨.ow, .list r⟩, s) else none else none := by
  have nb := NB_of s
  have pu := pu0.h
  simp only [puE, Bool.and_eq_true] at pu
  simp only [evE]
  cases e1 : evI cf it s with
  | none => rfl
  | some w =>
    obtain ⟨w1, w2, w3⟩ := w
    obtain ⟨u, nb0⟩ := evI_pu cf (badOf s) it s w1 w2 w3 nb pu.2.1 e1
    simp only [Option.bind_some]
    cases ho : ownOk w3 own with
    | false => rfl
    | true =>
      simp only [if_true]
      have cp := comp_pu cf (badOf s) (own := own) (e := e) (p := p) (c := c) (s := w3) (xs := w1) pu.1 nb0 (fun s' x s'' nb h => evE_pu cf (badOf s) e s' x s'' nb pu.2.2.1 h) fun s' x s'' nb h => evC_pu cf (badOf s) c s' x s'' nb pu.2.2.2 h
      cases hq : compP (turnP cf own e p c w3) w1 with
      | none =>
        rw [hq] at cp
        simp only [] at cp
        rw [cp]
        rfl
      | some l =>
        rw [hq] at cp
        obtain ⟨s1, q1, q2⟩ := cp
        rw [q1]
        simp only [Option.bind_some, backS_of q2, u]
theorem scp_s {own : List Nat} {e : CE} {p : Pt} {it : CI} {c : CO} {s : LS} (pu0 : Pu s (.scp own e p it c)) :
    evE cf (.scp own e p it c) s = (evI cf it s).bind fun w => if ownOk w.2.2 own then (compP (turnP cf own e p c w.2.2) w.1).bind fun r => (asInts r).bind fun ns => if ns.length < 64 then some (⟨.ow, .list ((sortI (dedup ns)).map .int)⟩, s) else none else none := by
  have nb := NB_of s
  have pu := pu0.h
  simp only [puE, Bool.and_eq_true] at pu
  simp only [evE]
  cases e1 : evI cf it s with
  | none => rfl
  | some w =>
    obtain ⟨w1, w2, w3⟩ := w
    obtain ⟨u, nb0⟩ := evI_pu cf (badOf s) it s w1 w2 w3 nb pu.2.1 e1
    simp only [Option.bind_some]
    cases ho : ownOk w3 own with
    | false => rfl
    | true =>
      simp only [if_true]
      have cp := comp_pu cf (badOf s) (own := own) (e := e) (p := p) (c := c) (s := w3) (xs := w1) pu.1 nb0 (fun s' x s'' nb h => evE_pu cf (badOf s) e s' x s'' nb pu.2.2.1 h) fun s' x s'' nb h => evC_pu cf (badOf s) c s' x s'' nb pu.2.2.2 h
      cases hq : compP (turnP cf own e p c w3) w1 with
      | none =>
        rw [hq] at cp
        simp only [] at cp
        rw [cp]
        rfl
      | some l =>
        rw [hq] at cp
        obtain ⟨s1, q1, q2⟩ := cp
        rw [q1]
        simp only [Option.bind_some, backS_of q2, u]
/-- one turn of the outer for -/
abbrev turn2 (own own2 : List Nat) (e : CE) (p : Pt) (c : CO) (p2 : Pt) (a2 : CE) (c2 : CO) (s : LS) (x : D) : Option (List D) :=
  (bindP (wipeS s own) p x).bind fun s2 => (evC cf c s2).bind fun k => if k.1 then (evE cf a2 s2).bind fun y => (listOf y.1.d).bind fun ds2 => if ownOk s2 own2 then compP (turnP cf own2 e p2 c2 s2) ds2 else none else some []
theorem lc2_s {own own2 : List Nat} {e a2 : CE} {p p2 : Pt} {it : CI} {c c2 : CO} {s : LS} (pu0 : Pu s (.lc2 own own2 e p it c p2 a2 c2)) :
    evE cf (.lc2 own own2 e p it c p2 a2 c2) s = (evI cf it s).bind fun w => if ownOk w.2.2 own then (compP (turn2 cf own own2 e p c p2 a2 c2 w.2.2) w.1).bind fun r => if szOk r.length then some (⟨.ow, .list r⟩, s) else none else none := by
  have nb := NB_of s
  have pu := pu0.h
  simp only [puE, Bool.and_eq_true] at pu
  simp only [evE]
  cases e1 : evI cf it s with
  | none => rfl
  | some w =>
    obtain ⟨w1, w2, w3⟩ := w
    obtain ⟨u, nb0⟩ := evI_pu cf (badOf s) it s w1 w2 w3 nb pu.2.2.1 e1
    simp only [Option.bind_some]
    cases ho : ownOk w3 own with
    | false => rfl
    | true =>
      simp only [if_true]
      have dup : ∀ t, wipeS (wipeS t own) own = wipeS t own := fun t => ls_ext (by simp only [wipeS_len]) fun j => by
        rw [wipeS_slot, wipeS_slot]
        split <;> rfl
      have cp := compL_pu (F := fun x s1 => (bindP (wipeS s1 own) p x).bind fun s2 => (evC cf c s2).bind fun k => if k.1 then
          (evE cf a2 k.2).bind fun y => (listOf y.1.d).bind fun ds2 => if ownOk y.2 own2 then (compL (fun x2 t1 => (bindP (wipeS t1 own2) p2 x2).bind fun t2 => (evC cf c2 t2).bind fun k2 =>
            if k2.1 then (evE cf e k2.2).map fun y => ([y.1.d], y.2) else some ([], k2.2)) ds2 y.2).map fun q => (q.1, backS y.2 q.2 own2) else none
        else some ([], k.2)) (G := turn2 cf own own2 e p c p2 a2 c2 w3) (R := fun s1 => wipeS s1 own = wipeS w3 own) (fun s1 x r => by
          rw [r]
          unfold turn2
          cases hb : bindP (wipeS w3 own) p x with
          | none => rfl
          | some s2 =>
            obtain ⟨b1, b2⟩ := bindP_pu hb pu.1 (nb0.wipe own)
            rw [dup] at b1
            simp only [Option.bind_some]
            cases hk : evC cf c s2 with
            | none => rfl
            | some k =>
              obtain ⟨k1, k2⟩ := k
              have := evC_pu cf (badOf s) c s2 k1 k2 b2 pu.2.2.2.2.1 hk
              subst this
              simp only [Option.bind_some]
              cases k1 with
              | false => exact ⟨k2, rfl, b1⟩
              | true =>
                simp only [if_true]
                cases hy : evE cf a2 k2 with
                | none => rfl
                | some y =>
                  obtain ⟨y1, y2⟩ := y
                  have := evE_pu cf (badOf s) a2 k2 y1 y2 b2 pu.2.2.2.2.2.1 hy
                  subst this
                  simp only [Option.bind_some]
                  cases hd : listOf y1.d with
                  | none => rfl
                  | some ds2 =>
                    simp only [Option.bind_some]
                    cases ho2 : ownOk y2 own2 with
                    | false => rfl
                    | true =>
                      simp only [if_true]
                      have cq := comp_pu cf (badOf s) (own := own2) (e := e) (p := p2) (c := c2) (s := y2) (xs := ds2) pu.2.1 b2 (fun s' x s'' nb h => evE_pu cf (badOf s) e s' x s'' nb pu.2.2.2.1 h) fun s' x s'' nb h => evC_pu cf (badOf s) c2 s' x s'' nb pu.2.2.2.2.2.2 h
                      cases hq : compP (turnP cf own2 e p2 c2 y2) ds2 with
                      | none =>
                        rw [hq] at cq
                        simp only [] at cq
                        rw [cq]
                        rfl
                      | some l =>
                        rw [hq] at cq
                        obtain ⟨s3, q1, q2⟩ := cq
                        rw [q1]
                        simp only [Option.map_some, backS_of q2]
                        exact ⟨y2, rfl, b1⟩) (xs := w1) (s := w3) rfl
      cases hq : compP (turn2 cf own own2 e p c p2 a2 c2 w3) w1 with
      | none =>
        rw [hq] at cp
        simp only [] at cp
        rw [cp]
        rfl
      | some l =>
        rw [hq] at cp
        obtain ⟨s1, q1, q2⟩ := cp
        rw [q1]
        simp only [Option.bind_some, backS_of q2, u]
end
end LP

end
section
set_option Elab.async false
set_option linter.all false
set_option maxRecDepth 100000
/-! LP31: rewriting for comprehensions. -/
namespace LP
open PySem
@[simp] theorem compP_nil {α : Type} (f : α → Option (List D)) : compP f [] = some [] := rfl
theorem compP_map {α β : Type} (f : β → Option (List D)) (h : α → β) : ∀ l : List α, compP f (l.map h) = compP (fun a => f (h a)) l
  | [] => rfl
  | a :: l => by
    show (f (h a)).bind _ = (f (h a)).bind _
    rw [compP_map f h l]
theorem compP_some {α : Type} (g : α → List D) : ∀ l : List α, compP (fun a => some (g a)) l = some (l.flatMap g)
  | [] => rfl
  | a :: l => by
    simp only [compP, compP_some g l, Option.bind_some, Option.map_some, List.flatMap_cons]
theorem compP_congr {α : Type} {f g : α → Option (List D)} : ∀ {l : List α}, (∀ a ∈ l, f a = g a) → compP f l = compP g l
  | [], _ => rfl
  | a :: l, h => by
    simp only [compP, h a List.mem_cons_self, compP_congr fun b hb => h b (List.mem_cons_of_mem _ hb)]
theorem compP_of {α : Type} {f : α → Option (List D)} {g : α → List D} {l : List α} (h : ∀ a ∈ l, f a = some (g a)) : compP f l = some (l.flatMap g) := by
  rw [compP_congr h, compP_some]
theorem some_ite {α : Type} {c : Prop} [Decidable c] (a b : α) : (if c then some a else some b) = some (if c then a else b) := by split <;> rfl
theorem fmIf {α β : Type} (p : α → Prop) [DecidablePred p] (f : α → β) (l : List α) : (l.flatMap fun a => if p a then [f a] else []) = (l.filter fun a => decide (p a)).map f := by
  induction l with
  | nil => rfl
  | cons a l ih =>
    simp only [List.flatMap_cons, ih, List.filter_cons]
    by_cases h : p a <;> simp [h]
theorem fmOne {α β : Type} (f : α → β) (l : List α) : (l.flatMap fun a => [f a]) = l.map f := by
  induction l with
  | nil => rfl
  | cons a l ih => simp only [List.flatMap_cons, ih, List.map_cons, List.singleton_append]
theorem fmId {α : Type} (l : List α) : (l.flatMap fun a => [a]) = l := by rw [fmOne (fun a => a), List.map_id']
theorem fmMap {α β γ : Type} (f : α → List β) (h : β → γ) (l : List α) : (l.flatMap fun a => (f a).map h) = (l.flatMap f).map h := by
  induction l with
  | nil => rfl
  | cons a l ih => simp only [List.flatMap_cons, ih, List.map_append]
/-- is a slot free for the block's own name -/
def ownAt (s : LS) (i : Nat) : Bool := match s[i]? with
  | some none => true
  | some (some x) => decide (x.m = .fz)
  | none => false
theorem ownOk_n (s : LS) : ownOk s [] = true := rfl
theorem ownOk_c (s : LS) (i : Nat) (is : List Nat) : ownOk s (i :: is) = (ownAt s i && ownOk s is) := rfl
theorem ownAt_s (x : Option SV) (s : LS) (i : Nat) : ownAt (x :: s) (i + 1) = ownAt s i := rfl
theorem ownAt_n (s : LS) : ownAt (none :: s) 0 = true := rfl
theorem ownAt_f (d : D) (s : LS) : ownAt (some ⟨.fz, d⟩ :: s) 0 = true := rfl
theorem wipeS_n (s : LS) : wipeS s [] = s := rfl
theorem wipeS_c (s : LS) (i : Nat) (is : List Nat) : wipeS s (i :: is) = (wipeS s is).set i none := rfl
theorem evR_of {cf : CF} {e : CE} {s : LS} (h : ∀ i, e ≠ .v i) : evR cf e s = evE cf e s := evR_n h s
theorem mrgP {α β : Type} {c : Prop} [Decidable c] (a b : α) (s : β) : (if c then (a, s) else (b, s)) = (if c then a else b, s) := by split <;> rfl
theorem mrgS {c : Prop} [Decidable c] (m : Md) (a b : D) : (if c then (⟨m, a⟩ : SV) else ⟨m, b⟩) = ⟨m, if c then a else b⟩ := by split <;> rfl
theorem mrgB {c : Prop} [Decidable c] (a b : Bool) : (if c then PyData.bool a else .bool b) = .bool (if c then a else b) := by split <;> rfl
theorem mrgI {c : Prop} [Decidable c] (a b : Int) : (if c then PyData.int a else .int b) = .int (if c then a else b) := by split <;> rfl
theorem szOk_filter {α : Type} {p : α → Bool} {l : List α} (h : l.length ≤ 1000000) : szOk (l.filter p).length = true := szOk_of (Nat.le_trans (List.length_filter_le _ _) h)
theorem neNilI {α : Type} (f : α → Int) (l : List α) : cmpD .ne (.list (l.map fun a => PyData.int (f a))) (.list []) = some (!l.isEmpty) := by
  rw [cmp_ne_nil (n := 0) (Sh.map (fun a => Sh.int 0 _) l) (by omega), List.isEmpty_map]
theorem eqNilI {α : Type} (f : α → Int) (l : List α) : cmpD .eq (.list (l.map fun a => PyData.int (f a))) (.list []) = some l.isEmpty := by
  rw [cmp_eq_nil (n := 0) (Sh.map (fun a => Sh.int 0 _) l) (by omega), List.isEmpty_map]
theorem neNilII (l : List Int) : cmpD .ne (.list (l.map PyData.int)) (.list []) = some (!l.isEmpty) := neNilI (fun a => a) l
theorem eqNilII (l : List Int) : cmpD .eq (.list (l.map PyData.int)) (.list []) = some l.isEmpty := eqNilI (fun a => a) l
theorem filter_em {α : Type} (p : α → Bool) (l : List α) : (l.filter p).isEmpty = !l.any p := by
  induction l with
  | nil => rfl
  | cons a l ih =>
    rw [List.any_cons, List.filter_cons]
    cases h : p a
    · simpa using ih
    · simp
theorem idx_l (l : List D) (i : Int) : idxD (.list l) (.int i) = L2.atI l i := rfl
theorem idx_t (l : List D) (i : Int) : idxD (.tuple l) (.int i) = L2.atI l i := rfl
theorem free_om {α : Type} (h : α → D) (o : Option α) (s : LS) : free (Option.map (fun c => (⟨.fz, h c⟩ : SV)) o :: s) 0 = true := by cases o <;> rfl
theorem ownAt_om {α : Type} (h : α → D) (o : Option α) (s : LS) : ownAt (Option.map (fun c => (⟨.fz, h c⟩ : SV)) o :: s) 0 = true := by cases o <;> rfl
theorem isBad_om {α : Type} (h : α → D) (o : Option α) : isBad (Option.map (fun c => (⟨.fz, h c⟩ : SV)) o) = false := by cases o <;> rfl
theorem neNil0 : cmpD .ne (.list []) (.list []) = some false := by rfl
theorem eqNil0 : cmpD .eq (.list []) (.list []) = some true := by rfl
theorem free_oo {α : Type} (h : α → D) (o : Option α) (s : LS) : free (Option.map (fun c => (⟨.ow, h c⟩ : SV)) o :: s) 0 = true := by cases o <;> rfl
theorem free_o1 (o : Option D) (s : LS) : free (Option.map (fun c => (⟨.ow, c⟩ : SV)) o :: s) 0 = true := by cases o <;> rfl
theorem free_f1 (o : Option D) (s : LS) : free (Option.map (fun c => (⟨.fz, c⟩ : SV)) o :: s) 0 = true := by cases o <;> rfl
theorem ownAt_f1 (o : Option D) (s : LS) : ownAt (Option.map (fun c => (⟨.fz, c⟩ : SV)) o :: s) 0 = true := by cases o <;> rfl
theorem isBad_f1 (o : Option D) : isBad (Option.map (fun c => (⟨.fz, c⟩ : SV)) o) = false := by cases o <;> rfl
end LP

end
section
set_option Elab.async false
set_option linter.all false
namespace S
open PySem LP
/-- is_integer(0 value, 1 least, 2 most) -/
def is_integer : Fn := ⟨3, 3, (.cons (.ret (.and (.cons (.isI (.v 0) .int) (.cons (.not (.isI (.v 0) .bool)) (.cons (.ch2 .le .le (.v 1) (.v 0) (.v 2)) .nil)))))
  .nil)⟩
/-- is_work(0 value) -/
def is_work (c_is_integer : Nat) : Fn := ⟨1, 1, (.cons (.ite (.or (.cons (.not (.isI (.v 0) .tuple)) (.cons (.cmp .ne (.b1 .len (.v 0)) (.int 2)) (.cons (.not (.call c_is_integer (.cons (.idx (.v 0) (.int 0)) (.cons (.int 0) (.cons (.gI "MOST_DAY" 1000000000000000000000000000000) .nil))))) .nil)))) (.cons (.ret (.bl false))
  .nil) .nil)
  (.cons (.ret (.call c_is_integer (.cons (.idx (.v 0) (.int 1)) (.cons (.idx (.v 0) (.int 0)) (.cons (.gI "MOST_DAY" 1000000000000000000000000000000) .nil)))))
  .nil))⟩
/-- wrong_place(0 thing, 1 wrong, 2 number, 3 work) -/
def wrong_placeV0_c0 (c_is_work : Nat) (c_is_integer : Nat) : CE := (.lcp [2, 3] (.v 2) (.t [2, 3]) (.enu (.idx (.v 0) (.int 1))) (.yes (.not (.call c_is_work (.cons (.v 3) .nil)))))
def wrong_placeV0 (c_is_work : Nat) (c_is_integer : Nat) : Fn := ⟨1, 4, (.cons (.ite (.or (.cons (.not (.isI (.v 0) .tuple)) (.cons (.cmp .ne (.b1 .len (.v 0)) (.int 2)) .nil))) (.cons (.ret (.tup .nil))
  .nil) .nil)
  (.cons (.ite (.not (.call c_is_integer (.cons (.idx (.v 0) (.int 0)) (.cons (.int 1) (.cons (.gI "MOST_DAY" 1000000000000000000000000000000) .nil))))) (.cons (.ret (.tup (.cons (.int 0) .nil)))
  .nil) .nil)
  (.cons (.ite (.or (.cons (.not (.isI (.idx (.v 0) (.int 1)) .tuple)) (.cons (.cmp .gt (.b1 .len (.idx (.v 0) (.int 1))) (.gI "MOST_WORKS" 30)) .nil))) (.cons (.ret (.tup (.cons (.int 1) .nil)))
  .nil) .nil)
  (.cons (.asg (.v 1) (wrong_placeV0_c0 c_is_work c_is_integer))
  (.cons (.ret (.ite (.cmp .ne (.v 1) (.lst .nil)) (.tup (.cons (.int 1) (.cons (.idx (.v 1) (.int 0)) .nil))) .non))
  .nil)))))⟩
/-- need_plan(0 thing, 1 place) -/
def need_plan (c_wrong_place : Nat) : Fn := ⟨1, 2, (.cons (.asg (.v 1) (.call c_wrong_place (.cons (.v 0) .nil)))
  (.cons (.ite (.isNN (.v 1)) (.cons .nev
  .nil) .nil)
  (.cons (.ret (.v 0))
  .nil)))⟩
/-- joined(0 pairs, 1 found, 2 low, 3 high, 4 pair) -/
def joined_c0 : CE := (.lcp [4] (.v 4) (.v 4) (.e (.v 0)) (.yes (.cmp .le (.idx (.v 4) (.int 0)) (.idx (.v 4) (.int 1)))))
def joined_b0 : CSs := (.cons (.ite (.and (.cons (.cmp .ne (.v 1) (.lst .nil)) (.cons (.cmp .le (.v 2) (.bin .add (.idx (.idx (.v 1) (.neg (.int 1))) (.int 1)) (.int 1))) .nil))) (.cons (.seti 1 (.neg (.int 1)) (.tup (.cons (.idx (.idx (.v 1) (.neg (.int 1))) (.int 0)) (.cons (.b2 .max (.idx (.idx (.v 1) (.neg (.int 1))) (.int 1)) (.v 3)) .nil))))
  .nil) (.cons (.app 1 (.tup (.cons (.v 2) (.cons (.v 3) .nil))))
  .nil))
  .nil)
def joined : Fn := ⟨1, 5, (.cons (.asg (.v 1) (.lst .nil))
  (.cons (.for_ (.t [2, 3]) (.e (.b1 .sorted (joined_c0))) (joined_b0))
  (.cons (.ret (.b1 .tuple (.v 1)))
  .nil)))⟩
/-- common(0 one, 1 other, 2 low, 3 high, 4 less, 5 more) -/
def commonV0_c0 (c_joined : Nat) : CE := (.lc2 [2, 3, 4, 5] [4, 5] (.tup (.cons (.b2 .max (.v 2) (.v 4)) (.cons (.b2 .min (.v 3) (.v 5)) .nil))) (.t [2, 3]) (.e (.v 0)) .no (.t [4, 5]) (.v 1) .no)
def commonV0 (c_joined : Nat) : Fn := ⟨2, 6, (.cons (.ret (.call c_joined (.cons (commonV0_c0 c_joined) .nil)))
  .nil)⟩
/-- without(0 ranges, 1 first, 2 last) -/
def without (c_common : Nat) : Fn := ⟨3, 3, (.cons (.ret (.call c_common (.cons (.v 0) (.cons (.tup (.cons (.tup (.cons (.int 0) (.cons (.bin .sub (.v 1) (.int 1)) .nil))) (.cons (.tup (.cons (.bin .add (.v 2) (.int 1)) (.cons (.gI "MOST_DAY" 1000000000000000000000000000000) .nil))) .nil))) .nil))))
  .nil)⟩
/-- segments(0 plan, 1 first, 2 firsts, 3 found, 4 low, 5 last, 6 begin) -/
def segments_c0 : CE := (.lcp [6, 5] (.v 5) (.t [6, 5]) (.e (.idx (.v 0) (.int 1))) (.yes (.cmp .ge (.v 6) (.v 1))))
def segments_b0 : CSs := (.cons (.ite (.cmp .gt (.v 1) (.v 4)) (.cons (.app 3 (.tup (.cons (.v 4) (.cons (.bin .sub (.v 1) (.int 1)) (.cons (.b1 .minL (segments_c0)) .nil)))))
  .nil) .nil)
  (.cons (.asg (.v 4) (.v 1))
  .nil))
def segments_c1 : CE := (.scp [1, 5] (.v 1) (.t [1, 5]) (.e (.idx (.v 0) (.int 1))) .no)
def segments : Fn := ⟨1, 7, (.cons (.par [2, 3, 4] (.cons (segments_c1) (.cons (.lst .nil) (.cons (.int 0) .nil))))
  (.cons (.for_ (.v 1) (.e (.v 2)) (segments_b0))
  (.cons (.ret (.lst (.star (.v 3) (.cons (.tup (.cons (.v 4) (.cons (.gI "MOST_DAY" 1000000000000000000000000000000) (.cons (.gI "MOST_DAY" 1000000000000000000000000000000) .nil)))) .nil))))
  .nil)))⟩
/-- free_of(0 ranges, 1 barred) -/
def free_of (c_without : Nat) : Fn := ⟨2, 2, (.cons (.ret (.ite (.isN (.v 1)) (.v 0) (.call c_without (.cons (.v 0) (.cons (.idx (.v 1) (.int 0)) (.cons (.idx (.v 1) (.int 1)) .nil))))))
  .nil)⟩
/-- first_layer(0 plan, 1 barred, 2 first, 3 last) -/
def first_layer_c0 (c_free_of : Nat) : CE := (.lcp [2, 3] (.v 3) (.t [2, 3]) (.e (.idx (.v 0) (.int 1))) .no)
def first_layer (c_free_of : Nat) : Fn := ⟨2, 4, (.cons (.ret (.call c_free_of (.cons (.tup (.cons (.tup (.cons (.int 0) (.cons (.b1 .minL (.bin .add (.lst (.cons (.gI "MOST_DAY" 1000000000000000000000000000000) .nil)) (first_layer_c0 c_free_of))) .nil))) .nil)) (.cons (.v 1) .nil))))
  .nil)⟩
/-- next_layer(0 plan, 1 ranges, 2 barred, 3 found, 4 low, 5 high, 6 most, 7 less, 8 more) -/
def next_layer_b0 (c_free_of : Nat) (c_joined : Nat) (c_segments : Nat) (c_common : Nat) : CSs := (.cons (.app 3 (.tup (.cons (.bin .add (.v 7) (.idx (.v 0) (.int 0))) (.cons (.v 6) .nil))))
  .nil)
def next_layer_b1 (c_free_of : Nat) (c_joined : Nat) (c_segments : Nat) (c_common : Nat) : CSs := (.cons (.for_ (.t [7, 8]) (.e (.call c_common (.cons (.v 1) (.cons (.tup (.cons (.tup (.cons (.v 4) (.cons (.v 5) .nil))) .nil)) .nil)))) (next_layer_b0 c_free_of c_joined c_segments c_common))
  .nil)
def next_layer (c_free_of : Nat) (c_joined : Nat) (c_segments : Nat) (c_common : Nat) : Fn := ⟨3, 9, (.cons (.asg (.v 3) (.lst .nil))
  (.cons (.for_ (.t [4, 5, 6]) (.e (.call c_segments (.cons (.v 0) .nil))) (next_layer_b1 c_free_of c_joined c_segments c_common))
  (.cons (.ret (.call c_free_of (.cons (.call c_joined (.cons (.v 3) .nil)) (.cons (.v 2) .nil))))
  .nil)))⟩
/-- layers_to(0 plan, 1 many, 2 barred, 3 found) -/
def layers_to_b0 (c_next_layer : Nat) (c_first_layer : Nat) : CSs := (.cons (.app 3 (.call c_next_layer (.cons (.v 0) (.cons (.idx (.v 3) (.neg (.int 1))) (.cons (.v 2) .nil)))))
  .nil)
def layers_to (c_next_layer : Nat) (c_first_layer : Nat) : Fn := ⟨3, 4, (.cons (.asg (.v 3) (.lst (.cons (.call c_first_layer (.cons (.v 0) (.cons (.v 2) .nil))) .nil)))
  (.cons (.whl (.cmp .lt (.b1 .len (.v 3)) (.v 1)) (layers_to_b0 c_next_layer c_first_layer))
  (.cons (.ret (.slc (.v 3) .no (.yes (.v 1))))
  .nil)))⟩
/-- all_heads(0 plan, 1 barred, 2 ranges, 3 pair) -/
def all_heads_c0 (c_joined : Nat) (c_layers_to : Nat) : CE := (.lc2 [2, 3] [3] (.v 3) (.v 2) (.e (.call c_layers_to (.cons (.v 0) (.cons (.bin .add (.b1 .len (.idx (.v 0) (.int 1))) (.int 1)) (.cons (.v 1) .nil))))) .no (.v 3) (.v 2) .no)
def all_heads (c_joined : Nat) (c_layers_to : Nat) : Fn := ⟨2, 4, (.cons (.ret (.call c_joined (.cons (all_heads_c0 c_joined c_layers_to) .nil)))
  .nil)⟩
/-- layer(0 plan, 1 many) -/
def layer (c_layers_to : Nat) (c_is_integer : Nat) (c_need_plan : Nat) : Fn := ⟨2, 2, (.cons (.ex (.call c_need_plan (.cons (.v 0) .nil)))
  (.cons (.ite (.not (.call c_is_integer (.cons (.v 1) (.cons (.int 1) (.cons (.gI "MOST_OPENINGS" 1000) .nil))))) (.cons .nev
  .nil) .nil)
  (.cons (.ret (.idx (.call c_layers_to (.cons (.v 0) (.cons (.v 1) (.cons .non .nil)))) (.neg (.int 1))))
  .nil)))⟩
/-- heads(0 plan) -/
def heads (c_all_heads : Nat) (c_need_plan : Nat) : Fn := ⟨1, 1, (.cons (.ret (.call c_all_heads (.cons (.call c_need_plan (.cons (.v 0) .nil)) (.cons .non .nil))))
  .nil)⟩
/-- _law_begun(0 _law_script, 1 _law_k, 2 _law_cells, 3 _law_great, 4 _law_seed, 5 _law_cell) -/
def _law_begun_b0 : CSs := (.cons (.asg (.v 4) (.bin .mod (.b1 .int (.bin .add (.bin .mul (.v 4) (.int 48271)) (.v 5))) (.int 2147483647)))
  .nil)
def _law_begun_c0 : CE := (.lcp [5] (.v 5) (.v 5) (.e (.v 2)) (.yes (.cmp .ge (.v 5) (.bin .pow (.int 10) (.int 18)))))
def _law_begun : Fn := ⟨2, 6, (.cons (.asg (.v 2) (.bin .add (.slc (.v 0) (.yes (.v 1)) .no) (.slc (.v 0) .no (.yes (.v 1)))))
  (.cons (.asg (.v 3) (_law_begun_c0))
  (.cons (.asg (.v 4) (.bin .add (.int 97) (.v 1)))
  (.cons (.for_ (.v 5) (.e (.v 2)) (_law_begun_b0))
  (.cons (.ret (.dic (.cons "left" (.ite (.cmp .ne (.v 3) (.lst .nil)) (.idx (.v 3) (.int 0)) (.int 0)) (.cons "seed" (.v 4) (.cons "cells" (.bin .add (.v 2) (.lst (.cons (.bin .add (.bin .mul (.int 31) (.v 1)) (.int 5)) .nil))) (.cons "spot" (.int 0) .nil))))))
  .nil)))))⟩
/-- _law_draw(0 _law_m, 1 _law_many, 2 _law_spot, 3 _law_cell, 4 _law_blend, 5 _law_found, 6 _law_cells, 7 _law_added) -/
def _law_drawV0 : Fn := ⟨2, 8, (.cons (.ite (.cmp .gt (.idx (.v 0) (.str "left")) (.int 0)) (.cons (.asg (.v 5) (.bin .mod (.b1 .int (.idx (.v 0) (.str "left"))) (.v 1)))
  (.cons (.seti 0 (.str "left") (.bin .fdiv (.idx (.v 0) (.str "left")) (.v 1)))
  (.cons (.ret (.v 5))
  .nil))) .nil)
  (.cons (.asg (.v 2) (.idx (.v 0) (.str "spot")))
  (.cons (.seti 0 (.str "spot") (.bin .add (.v 2) (.int 1)))
  (.cons (.par [6, 7] (.cons (.idx (.v 0) (.str "cells")) (.cons (.bin .add (.idx (.v 0) (.str "seed")) (.bin .mul (.bin .mul (.int 40503) (.v 2)) (.v 2))) .nil)))
  (.cons (.asg (.v 3) (.idx (.v 6) (.bin .mod (.b1 .int (.v 2)) (.b1 .len (.v 6)))))
  (.cons (.asg (.v 4) (.bin .mod (.b1 .int (.bin .add (.bin .mul (.v 3) (.bin .add (.bin .mul (.int 2) (.v 2)) (.int 3))) (.v 7))) (.int 2147483647)))
  (.cons (.asg (.v 4) (.bin .mod (.b1 .int (.bin .add (.bin .add (.bin .mul (.v 4) (.v 4)) (.bin .mul (.int 69621) (.v 2))) (.idx (.v 0) (.str "seed")))) (.int 2147483629)))
  (.cons (.ret (.bin .mod (.bin .fdiv (.bin .mod (.b1 .int (.bin .add (.bin .mul (.v 4) (.int 48271)) (.v 2))) (.int 2147483647)) (.int 11)) (.v 1)))
  .nil))))))))⟩
/-- _law_of(0 _law_m, 1 _law_some) -/
def _law_of (c__law_draw : Nat) : Fn := ⟨2, 2, (.cons (.ret (.idx (.v 1) (.call c__law_draw (.cons (.v 0) (.cons (.b1 .len (.v 1)) .nil)))))
  .nil)⟩
/-- _law_plan(0 _law_m, 1 _law_most, 2 _law_many, 3 _law_works_so, 4 _law_turn, 5 _law_first) -/
def _law_plan_b0 (c__law_draw : Nat) (c__law_of : Nat) : CSs := (.cons (.asg (.v 5) (.call c__law_draw (.cons (.v 0) (.cons (.bin .add (.v 1) (.int 1)) .nil))))
  (.cons (.app 3 (.tup (.cons (.v 5) (.cons (.b2 .min (.v 1) (.bin .add (.v 5) (.call c__law_of (.cons (.v 0) (.cons (.lst (.cons (.int 0) (.cons (.int 1) (.cons (.int 2) (.cons (.int 3) (.cons (.call c__law_draw (.cons (.v 0) (.cons (.bin .add (.v 1) (.int 1)) .nil))) .nil)))))) .nil))))) .nil))))
  .nil))
def _law_plan (c__law_draw : Nat) (c__law_of : Nat) : Fn := ⟨3, 6, (.cons (.asg (.v 3) (.lst .nil))
  (.cons (.for_ (.v 4) (.rg1 (.call c__law_draw (.cons (.v 0) (.cons (.bin .add (.v 2) (.int 1)) .nil)))) (_law_plan_b0 c__law_draw c__law_of))
  (.cons (.ret (.tup (.cons (.bin .add (.int 1) (.call c__law_draw (.cons (.v 0) (.cons (.int 5) .nil)))) (.cons (.b1 .tuple (.v 3)) .nil))))
  .nil)))⟩
/-- _law_far_plan(0 _law_m, 1 _law_many, 2 _law_found, 3 _law_bar, 4 _law_works_so, 5 _law_wide, 6 _law_shift, 7 _law_first, 8 _law_last, 9 _law_begin) -/
def _law_far_plan_b0 (c__law_draw : Nat) (c__law_of : Nat) (c__law_plan : Nat) : CSs := (.cons (.asg (.v 9) (.bin .add (.bin .add (.bin .mul (.v 7) (.v 5)) (.v 6)) (.call c__law_draw (.cons (.v 0) (.cons (.int 3) .nil)))))
  (.cons (.app 2 (.tup (.cons (.v 9) (.cons (.b2 .max (.v 9) (.bin .add (.bin .add (.bin .mul (.v 8) (.v 5)) (.v 6)) (.call c__law_draw (.cons (.v 0) (.cons (.int 3) .nil))))) .nil))))
  .nil))
def _law_far_plan (c__law_draw : Nat) (c__law_of : Nat) (c__law_plan : Nat) : Fn := ⟨2, 10, (.cons (.asg (.t [3, 4]) (.call c__law_plan (.cons (.v 0) (.cons (.int 40) (.cons (.v 1) .nil)))))
  (.cons (.par [5, 6] (.cons (.call c__law_of (.cons (.v 0) (.cons (.lst (.cons (.int 1) (.cons (.bin .add (.bin .pow (.int 10) (.int 6)) (.int 3)) (.cons (.bin .add (.bin .pow (.int 10) (.int 27)) (.int 7)) .nil)))) .nil))) (.cons (.call c__law_draw (.cons (.v 0) (.cons (.bin .pow (.int 10) (.int 28)) .nil))) .nil)))
  (.cons (.asg (.v 2) (.lst .nil))
  (.cons (.for_ (.t [7, 8]) (.e (.v 4)) (_law_far_plan_b0 c__law_draw c__law_of c__law_plan))
  (.cons (.ret (.tup (.cons (.b2 .max (.int 1) (.bin .sub (.bin .mul (.v 3) (.v 5)) (.call c__law_draw (.cons (.v 0) (.cons (.int 3) .nil))))) (.cons (.b1 .tuple (.v 2)) .nil))))
  .nil)))))⟩
/-- _law_between(0 _law_plan_so, 1 _law_one, 2 _law_other, 3 _law_first, 4 _law_last) -/
def _law_between_c0 : CE := (.lcp [3, 4] (.int 1) (.t [3, 4]) (.e (.idx (.v 0) (.int 1))) (.yes (.and (.cons (.cmp .gt (.v 3) (.v 1)) (.cons (.cmp .lt (.v 4) (.v 2)) .nil)))))
def _law_between : Fn := ⟨3, 5, (.cons (.ret (.cmp .ne (_law_between_c0) (.lst .nil)))
  .nil)⟩
/-- _law_days(0 _law_plan_so, 1 _law_more, 2 _law_many, 3 _law_found, 4 _law_day, 5 _law_first, 6 _law_last, 7 _law_k) -/
def _law_days_c0 : CE := (.lcp [4] (.v 4) (.v 4) (.e (.v 3)) (.yes (.cmp .ge (.v 4) (.int 0))))
def _law_days_c1 : CE := (.lcp [5, 6] (.v 6) (.t [5, 6]) (.e (.idx (.v 0) (.int 1))) .no)
def _law_days_c2 : CE := (.lcp [7] (.bin .sub (.v 4) (.bin .mul (.v 7) (.idx (.v 0) (.int 0)))) (.v 7) (.rg1 (.bin .add (.v 2) (.int 1))) .no)
def _law_days_b0 : CSs := (.cons (.asg (.v 3) (.bin .add (.v 3) (_law_days_c2)))
  .nil)
def _law_days : Fn := ⟨3, 8, (.cons (.asg (.v 3) (.lst .nil))
  (.cons (.for_ (.v 4) (.e (.bin .add (_law_days_c1) (.v 1))) (_law_days_b0))
  (.cons (.ret (.b1 .sset (_law_days_c0)))
  .nil)))⟩
/-- _law_behind(0 _law_plan_so, 1 _law_days_here, 2 _law_now, 3 _law_found, 4 _law_day, 5 _law_there, 6 _law_t) -/
def _law_behind_c0 (c__law_between : Nat) : CE := (.lcp [6] (.v 6) (.v 6) (.e (.v 2)) (.yes (.and (.cons (.cmp .ge (.bin .sub (.v 6) (.v 4)) (.idx (.v 0) (.int 0))) (.cons (.not (.call c__law_between (.cons (.v 0) (.cons (.v 4) (.cons (.v 6) .nil))))) .nil)))))
def _law_behind_b0 (c__law_between : Nat) : CSs := (.cons (.asg (.v 5) (_law_behind_c0 c__law_between))
  (.cons (.ite (.cmp .ne (.v 5) (.lst .nil)) (.cons (.app 3 (.v 4))
  .nil) .nil)
  .nil))
def _law_behind (c__law_between : Nat) : Fn := ⟨3, 7, (.cons (.asg (.v 3) (.lst .nil))
  (.cons (.for_ (.v 4) (.e (.v 1)) (_law_behind_b0 c__law_between))
  (.cons (.ret (.v 3))
  .nil)))⟩
/-- _law_is_first(0 _law_plan_so, 1 _law_day, 2 _law_first, 3 _law_last) -/
def _law_is_first_c0 : CE := (.lcp [2, 3] (.int 1) (.t [2, 3]) (.e (.idx (.v 0) (.int 1))) (.yes (.cmp .lt (.v 3) (.v 1))))
def _law_is_first : Fn := ⟨2, 4, (.cons (.ret (.cmp .eq (_law_is_first_c0) (.lst .nil)))
  .nil)⟩
/-- _law_is_head(0 _law_plan_so, 1 _law_many, 2 _law_day, 3 _law_turn, 4 _law_days_here, 5 _law_now, 6 _law_one) -/
def _law_is_head_c0 (c__law_is_first : Nat) (c__law_behind : Nat) (c__law_days : Nat) : CE := (.lcp [6] (.v 6) (.v 6) (.e (.v 5)) (.yes (.call c__law_is_first (.cons (.v 0) (.cons (.v 6) .nil)))))
def _law_is_head_b0 (c__law_is_first : Nat) (c__law_behind : Nat) (c__law_days : Nat) : CSs := (.cons (.asg (.v 5) (.call c__law_behind (.cons (.v 0) (.cons (.v 4) (.cons (.v 5) .nil)))))
  .nil)
def _law_is_head (c__law_is_first : Nat) (c__law_behind : Nat) (c__law_days : Nat) : Fn := ⟨3, 7, (.cons (.par [4, 5] (.cons (.call c__law_days (.cons (.v 0) (.cons (.lst (.cons (.v 2) .nil)) (.cons (.v 1) .nil)))) (.cons (.lst (.cons (.v 2) .nil)) .nil)))
  (.cons (.for_ (.v 3) (.rg1 (.bin .sub (.v 1) (.int 1))) (_law_is_head_b0 c__law_is_first c__law_behind c__law_days))
  (.cons (.ret (.cmp .ne (_law_is_head_c0 c__law_is_first c__law_behind c__law_days) (.lst .nil)))
  .nil)))⟩
/-- _law_is_in(0 _law_pairs, 1 _law_day, 2 _law_low, 3 _law_high) -/
def _law_is_in_c0 : CE := (.lcp [2, 3] (.int 1) (.t [2, 3]) (.e (.v 0)) (.yes (.ch2 .le .le (.v 2) (.v 1) (.v 3))))
def _law_is_in : Fn := ⟨2, 4, (.cons (.ret (.cmp .ne (_law_is_in_c0) (.lst .nil)))
  .nil)⟩
/-- _law_are_ranges(0 _law_value, 1 _law_pair, 2 _law_one, 3 _law_other) -/
def _law_are_ranges_c0 : CE := (.lcp [2, 3] (.int 1) (.t [2, 3]) (.zip (.v 0) (.slc (.v 0) (.yes (.int 1)) .no)) (.yes (.cmp .ge (.bin .add (.idx (.v 2) (.int 1)) (.int 1)) (.idx (.v 3) (.int 0)))))
def _law_are_ranges_b0 : CSs := (.cons (.ite (.or (.cons (.not (.isI (.v 1) .tuple)) (.cons (.cmp .ne (.b1 .len (.v 1)) (.int 2)) (.cons (.not (.ch3 .le .le .le (.int 0) (.idx (.v 1) (.int 0)) (.idx (.v 1) (.int 1)) (.bin .pow (.int 10) (.int 30)))) .nil)))) (.cons (.ret (.bl false))
  .nil) .nil)
  .nil)
def _law_are_ranges : Fn := ⟨1, 4, (.cons (.ite (.not (.isI (.v 0) .tuple)) (.cons (.ret (.bl false))
  .nil) .nil)
  (.cons (.for_ (.v 1) (.e (.v 0)) (_law_are_ranges_b0))
  (.cons (.ret (.cmp .eq (_law_are_ranges_c0) (.lst .nil)))
  .nil)))⟩
/-- _law_looked(0 _law_m, 1 _law_plan_so, 2 _law_pairs, 3 _law_found, 4 _law_good, 5 _law_low, 6 _law_high, 7 _law_day, 8 _law_turn) -/
def _law_looked_c0 (c__law_of : Nat) (c__law_draw : Nat) : CE := (.lcp [8] (.call c__law_of (.cons (.v 0) (.cons (.v 4) .nil))) (.v 8) (.rg1 (.int 14)) .no)
def _law_looked_c1 (c__law_of : Nat) (c__law_draw : Nat) : CE := (.lcp [7] (.v 7) (.v 7) (.e (.v 3)) (.yes (.ch2 .le .le (.int 0) (.v 7) (.bin .pow (.int 10) (.int 30)))))
def _law_looked_b0 (c__law_of : Nat) (c__law_draw : Nat) : CSs := (.cons (.asg (.v 3) (.bin .add (.v 3) (.lst (.cons (.bin .sub (.v 5) (.int 1)) (.cons (.v 5) (.cons (.bin .add (.v 5) (.int 1)) (.cons (.bin .sub (.v 6) (.int 1)) (.cons (.v 6) (.cons (.bin .add (.v 6) (.int 1)) .nil)))))))))
  (.cons (.app 3 (.bin .add (.v 5) (.call c__law_draw (.cons (.v 0) (.cons (.bin .add (.bin .sub (.v 6) (.v 5)) (.int 1)) .nil)))))
  .nil))
def _law_looked (c__law_of : Nat) (c__law_draw : Nat) : Fn := ⟨3, 9, (.cons (.asg (.v 3) (.lst (.cons (.int 0) (.cons (.bin .pow (.int 10) (.int 30)) .nil))))
  (.cons (.for_ (.t [5, 6]) (.e (.bin .add (.b1 .list (.v 2)) (.b1 .list (.idx (.v 1) (.int 1))))) (_law_looked_b0 c__law_of c__law_draw))
  (.cons (.asg (.v 4) (_law_looked_c1 c__law_of c__law_draw))
  (.cons (.ret (_law_looked_c0 c__law_of c__law_draw))
  .nil))))⟩
/-- _law_right(0 _law_m, 1 _law_plan_so, 2 _law_many, 3 _law_days_here, 4 _law_told, 5 _law_looked_here, 6 _law_day) -/
def _law_rightV3_b0 (c__law_is_in : Nat) (c__law_is_head : Nat) (c__law_looked : Nat) (c_layer : Nat) (c__law_are_ranges : Nat) : CSs := (.cons (.ite (.cmp .ne (.call c__law_is_in (.cons (.v 4) (.cons (.v 6) .nil))) (.call c__law_is_head (.cons (.v 1) (.cons (.v 2) (.cons (.v 6) .nil))))) (.cons (.ret (.bl false))
  .nil) .nil)
  .nil)
def _law_rightV3 (c__law_is_in : Nat) (c__law_is_head : Nat) (c__law_looked : Nat) (c_layer : Nat) (c__law_are_ranges : Nat) : Fn := ⟨4, 7, (.cons (.asg (.v 4) (.call c_layer (.cons (.v 1) (.cons (.v 2) .nil))))
  (.cons (.ite (.or (.cons (.not (.call c__law_are_ranges (.cons (.v 4) .nil))) (.cons (.cmp .ne (.call c_layer (.cons (.v 1) (.cons (.v 2) .nil))) (.v 4)) .nil))) (.cons (.ret (.bl false))
  .nil) .nil)
  (.cons (.asg (.v 5) (.ite (.cmp .ne (.v 3) (.lst .nil)) (.v 3) (.call c__law_looked (.cons (.v 0) (.cons (.v 1) (.cons (.v 4) .nil))))))
  (.cons (.for_ (.v 6) (.e (.v 5)) (_law_rightV3_b0 c__law_is_in c__law_is_head c__law_looked c_layer c__law_are_ranges))
  (.cons (.ret (.bl true))
  .nil)))))⟩
/-- _law_heads_right(0 _law_m, 1 _law_plan_so, 2 _law_day, 3 _law_told, 4 _law_total, 5 _law_due, 6 _law_many) -/
def _law_heads_right_c0 (c__law_looked : Nat) (c__law_is_in : Nat) (c__law_is_head : Nat) (c_heads : Nat) (c__law_are_ranges : Nat) : CE := (.lcp [6] (.v 6) (.v 6) (.rg2 (.int 1) (.bin .add (.v 4) (.int 1))) (.yes (.call c__law_is_head (.cons (.v 1) (.cons (.v 6) (.cons (.v 2) .nil))))))
def _law_heads_right_b0 (c__law_looked : Nat) (c__law_is_in : Nat) (c__law_is_head : Nat) (c_heads : Nat) (c__law_are_ranges : Nat) : CSs := (.cons (.asg (.v 5) (.cmp .ne (_law_heads_right_c0 c__law_looked c__law_is_in c__law_is_head c_heads c__law_are_ranges) (.lst .nil)))
  (.cons (.ite (.cmp .ne (.call c__law_is_in (.cons (.v 3) (.cons (.v 2) .nil))) (.v 5)) (.cons (.ret (.bl false))
  .nil) .nil)
  .nil))
def _law_heads_right (c__law_looked : Nat) (c__law_is_in : Nat) (c__law_is_head : Nat) (c_heads : Nat) (c__law_are_ranges : Nat) : Fn := ⟨2, 7, (.cons (.par [3, 4] (.cons (.call c_heads (.cons (.v 1) .nil)) (.cons (.bin .add (.b1 .len (.idx (.v 1) (.int 1))) (.int 1)) .nil)))
  (.cons (.ite (.or (.cons (.not (.call c__law_are_ranges (.cons (.v 3) .nil))) (.cons (.cmp .ne (.call c_heads (.cons (.v 1) .nil)) (.v 3)) .nil))) (.cons (.ret (.bl false))
  .nil) .nil)
  (.cons (.for_ (.v 2) (.e (.slc (.call c__law_looked (.cons (.v 0) (.cons (.v 1) (.cons (.v 3) .nil)))) .no (.yes (.int 12)))) (_law_heads_right_b0 c__law_looked c__law_is_in c__law_is_head c_heads c__law_are_ranges))
  (.cons (.ret (.bl true))
  .nil))))⟩
/-- law(0 _law_script, 1 _law_k, 2 _law_m, 3 _law_many, 4 _law_near, 5 _law_far) -/
def lawV6_b0 (c__law_heads_right : Nat) (c__law_right : Nat) (c__law_far_plan : Nat) (c__law_plan : Nat) (c__law_begun : Nat) : CSs := (.cons (.ite (.or (.cons (.not (.call c__law_right (.cons (.v 2) (.cons (.v 4) (.cons (.v 3) (.cons (.lrg (.int 18)) .nil)))))) (.cons (.not (.call c__law_right (.cons (.v 2) (.cons (.v 5) (.cons (.v 3) (.cons (.lst .nil) .nil)))))) .nil))) (.cons (.ret (.bl false))
  .nil) .nil)
  .nil)
def lawV6_b1 (c__law_heads_right : Nat) (c__law_right : Nat) (c__law_far_plan : Nat) (c__law_plan : Nat) (c__law_begun : Nat) : CSs := (.cons (.asg (.v 2) (.call c__law_begun (.cons (.v 0) (.cons (.v 1) .nil))))
  (.cons (.par [4, 5] (.cons (.call c__law_plan (.cons (.v 2) (.cons (.int 14) (.cons (.int 4) .nil)))) (.cons (.call c__law_far_plan (.cons (.v 2) (.cons (.int 4) .nil))) .nil)))
  (.cons (.for_ (.v 3) (.e (.tup (.cons (.int 1) (.cons (.int 2) (.cons (.int 3) .nil))))) (lawV6_b0 c__law_heads_right c__law_right c__law_far_plan c__law_plan c__law_begun))
  (.cons (.ite (.or (.cons (.not (.call c__law_heads_right (.cons (.v 2) (.cons (.v 4) .nil)))) (.cons (.not (.call c__law_heads_right (.cons (.v 2) (.cons (.v 5) .nil)))) .nil))) (.cons (.ret (.bl false))
  .nil) .nil)
  .nil))))
def lawV6 (c__law_heads_right : Nat) (c__law_right : Nat) (c__law_far_plan : Nat) (c__law_plan : Nat) (c__law_begun : Nat) : Fn := ⟨1, 6, (.cons (.for_ (.v 1) (.rg1 (.bin .add (.int 1) (.b2 .min (.b1 .len (.v 0)) (.int 4)))) (lawV6_b1 c__law_heads_right c__law_right c__law_far_plan c__law_plan c__law_begun))
  (.cons (.ret (.bl true))
  .nil))⟩
/-- goal_of(0 plan, 1 first, 2 last) -/
def goal_of_c0 : CE := (.lcp [1, 2] (.v 1) (.t [1, 2]) (.e (.idx (.v 0) (.int 1))) .no)
def goal_of : Fn := ⟨1, 3, (.cons (.ret (.tup (.cons (.tup (.cons (.b1 .maxL (.bin .add (.lst (.cons (.int 0) .nil)) (goal_of_c0))) (.cons (.gI "MOST_DAY" 1000000000000000000000000000000) .nil))) .nil)))
  .nil)⟩
/-- fewest_in(0 plan, 1 barred, 2 number, 3 ranges) -/
def fewest_in_b0 (c_layers_to : Nat) (c_common : Nat) (c_goal_of : Nat) : CSs := (.cons (.ite (.cmp .ne (.call c_common (.cons (.v 3) (.cons (.call c_goal_of (.cons (.v 0) .nil)) .nil))) (.tup .nil)) (.cons (.ret (.bin .add (.v 2) (.int 1)))
  .nil) .nil)
  .nil)
def fewest_in (c_layers_to : Nat) (c_common : Nat) (c_goal_of : Nat) : Fn := ⟨2, 4, (.cons (.ite (.cmp .eq (.idx (.v 0) (.int 1)) (.tup .nil)) (.cons (.ret (.int 0))
  .nil) .nil)
  (.cons (.for_ (.t [2, 3]) (.enu (.call c_layers_to (.cons (.v 0) (.cons (.b1 .len (.idx (.v 0) (.int 1))) (.cons (.v 1) .nil))))) (fewest_in_b0 c_layers_to c_common c_goal_of))
  (.cons (.ret .non)
  .nil)))⟩
/-- can_be(0 plan) -/
def can_be (c_fewest_in : Nat) (c_need_plan : Nat) : Fn := ⟨1, 1, (.cons (.ret (.isNN (.call c_fewest_in (.cons (.call c_need_plan (.cons (.v 0) .nil)) (.cons .non .nil)))))
  .nil)⟩
/-- fewest(0 plan) -/
def fewest (c_fewest_in : Nat) (c_need_plan : Nat) : Fn := ⟨1, 1, (.cons (.ret (.call c_fewest_in (.cons (.call c_need_plan (.cons (.v 0) .nil)) (.cons .non .nil))))
  .nil)⟩
/-- _law_serves(0 _law_plan_so, 1 _law_days_here, 2 _law_first, 3 _law_last, 4 _law_day) -/
def _law_servesV0_c0 : CE := (.lcp [4] (.v 4) (.v 4) (.e (.v 1)) (.yes (.ch2 .le .le (.v 2) (.v 4) (.v 3))))
def _law_servesV0_b0 : CSs := (.cons (.ite (.cmp .eq (_law_servesV0_c0) (.lst .nil)) (.cons (.ret (.bl false))
  .nil) .nil)
  .nil)
def _law_servesV0 : Fn := ⟨2, 5, (.cons (.for_ (.t [2, 3]) (.e (.idx (.v 0) (.int 1))) (_law_servesV0_b0))
  (.cons (.ret (.bl true))
  .nil))⟩
/-- _law_rows(0 _law_bar, 1 _law_most, 2 _law_rows_here, 3 _law_found, 4 _law_fresh, 5 _law_row, 6 _law_begin, 7 _law_day) -/
def _law_rows_c0 : CE := (.lcp [7] (.bin .add (.v 5) (.tup (.cons (.v 7) .nil))) (.v 7) (.rg2 (.v 6) (.bin .add (.v 1) (.int 1))) .no)
def _law_rows_b0 : CSs := (.cons (.asg (.v 6) (.ite (.cmp .ne (.v 5) (.tup .nil)) (.bin .add (.idx (.v 5) (.neg (.int 1))) (.v 0)) (.int 0)))
  (.cons (.asg (.v 4) (.bin .add (.v 4) (_law_rows_c0)))
  .nil))
def _law_rows_b1 : CSs := (.cons (.asg (.v 4) (.lst .nil))
  (.cons (.for_ (.v 5) (.e (.v 2)) (_law_rows_b0))
  (.cons (.asg (.v 2) (.v 4))
  (.cons (.asg (.v 3) (.bin .add (.v 3) (.v 2)))
  .nil))))
def _law_rows : Fn := ⟨2, 8, (.cons (.par [2, 3] (.cons (.lst (.cons (.tup .nil) .nil)) (.cons (.lst (.cons (.tup .nil) .nil)) .nil)))
  (.cons (.whl (.cmp .ne (.v 2) (.lst .nil)) (_law_rows_b1))
  (.cons (.ret (.v 3))
  .nil)))⟩
/-- _law_all(0 _law_plan_so, 1 _law_most, 2 _law_row) -/
def _law_all_c0 (c__law_rows : Nat) (c__law_serves : Nat) : CE := (.lcp [2] (.v 2) (.v 2) (.e (.call c__law_rows (.cons (.idx (.v 0) (.int 0)) (.cons (.v 1) .nil)))) (.yes (.call c__law_serves (.cons (.v 0) (.cons (.v 2) .nil)))))
def _law_all (c__law_rows : Nat) (c__law_serves : Nat) : Fn := ⟨2, 3, (.cons (.ret (_law_all_c0 c__law_rows c__law_serves))
  .nil)⟩
/-- _law_fewest(0 _law_plan_so, 1 _law_now, 2 _law_many, 3 _law_days_here, 4 _law_goal, 5 _law_day, 6 _law_first, 7 _law_last) -/
def _law_fewest_c0 (c__law_behind : Nat) (c__law_is_first : Nat) (c__law_days : Nat) : CE := (.lcp [5] (.v 5) (.v 5) (.e (.v 1)) (.yes (.call c__law_is_first (.cons (.v 0) (.cons (.v 5) .nil)))))
def _law_fewest_b0 (c__law_behind : Nat) (c__law_is_first : Nat) (c__law_days : Nat) : CSs := (.cons (.ite (.cmp .ne (_law_fewest_c0 c__law_behind c__law_is_first c__law_days) (.lst .nil)) (.cons (.ret (.v 2))
  .nil) .nil)
  (.cons (.asg (.v 1) (.call c__law_behind (.cons (.v 0) (.cons (.v 3) (.cons (.v 1) .nil)))))
  .nil))
def _law_fewest_c1 (c__law_behind : Nat) (c__law_is_first : Nat) (c__law_days : Nat) : CE := (.lcp [5] (.v 5) (.v 5) (.e (.v 3)) (.yes (.cmp .ge (.v 5) (.v 4))))
def _law_fewest_c2 (c__law_behind : Nat) (c__law_is_first : Nat) (c__law_days : Nat) : CE := (.lcp [6, 7] (.v 6) (.t [6, 7]) (.e (.idx (.v 0) (.int 1))) .no)
def _law_fewest (c__law_behind : Nat) (c__law_is_first : Nat) (c__law_days : Nat) : Fn := ⟨1, 8, (.cons (.ite (.cmp .eq (.idx (.v 0) (.int 1)) (.tup .nil)) (.cons (.ret (.int 0))
  .nil) .nil)
  (.cons (.par [3, 4] (.cons (.call c__law_days (.cons (.v 0) (.cons (.lst .nil) (.cons (.b1 .len (.idx (.v 0) (.int 1))) .nil)))) (.cons (.b1 .maxL (_law_fewest_c2 c__law_behind c__law_is_first c__law_days)) .nil)))
  (.cons (.asg (.v 1) (_law_fewest_c1 c__law_behind c__law_is_first c__law_days))
  (.cons (.for_ (.v 2) (.rg2 (.int 1) (.bin .add (.b1 .len (.idx (.v 0) (.int 1))) (.int 1))) (_law_fewest_b0 c__law_behind c__law_is_first c__law_days))
  (.cons (.ret .non)
  .nil)))))⟩
/-- _law_told_right(0 _law_plan_so, 1 _law_due, 2 _law_told) -/
def _law_told_right (c_can_be : Nat) (c_fewest : Nat) : Fn := ⟨2, 3, (.cons (.asg (.v 2) (.lst (.cons (.call c_fewest (.cons (.v 0) .nil)) (.cons (.call c_fewest (.cons (.v 0) .nil)) (.cons (.call c_can_be (.cons (.v 0) .nil)) (.cons (.call c_can_be (.cons (.v 0) .nil)) .nil))))))
  (.cons (.ret (.cmp .eq (.b1 .repr (.v 2)) (.b1 .repr (.lst (.cons (.v 1) (.cons (.v 1) (.cons (.isNN (.v 1)) (.cons (.isNN (.v 1)) .nil))))))))
  .nil))⟩
/-- _law_same_right(0 _law_m, 1 _law_plan_so, 2 _law_due, 3 _law_turned, 4 _law_wider, 5 _law_bar, 6 _law_works_so, 7 _law_first, 8 _law_last) -/
def _law_same_right (c__law_told_right : Nat) (c__law_draw : Nat) (c__law_of : Nat) : Fn := ⟨3, 9, (.cons (.asg (.t [5, 6]) (.v 1))
  (.cons (.asg (.v 3) (.rev (.v 6)))
  (.cons (.ite (.or (.cons (.not (.call c__law_told_right (.cons (.tup (.cons (.v 5) (.cons (.v 3) .nil))) (.cons (.v 2) .nil)))) (.cons (.not (.call c__law_told_right (.cons (.tup (.cons (.v 5) (.cons (.bin .add (.v 6) (.slc (.v 3) .no (.yes (.int 1)))) .nil))) (.cons (.v 2) .nil)))) .nil))) (.cons (.ret (.bl false))
  .nil) .nil)
  (.cons (.ite (.cmp .eq (.v 6) (.tup .nil)) (.cons (.ret (.bl true))
  .nil) .nil)
  (.cons (.asg (.t [7, 8]) (.call c__law_of (.cons (.v 0) (.cons (.b1 .list (.v 6)) .nil))))
  (.cons (.asg (.v 4) (.tup (.cons (.b2 .max (.int 0) (.bin .sub (.v 7) (.call c__law_draw (.cons (.v 0) (.cons (.int 4) .nil))))) (.cons (.b2 .min (.bin .pow (.int 10) (.int 30)) (.bin .add (.v 8) (.call c__law_draw (.cons (.v 0) (.cons (.int 4) .nil))))) .nil))))
  (.cons (.ret (.call c__law_told_right (.cons (.tup (.cons (.v 5) (.cons (.bin .add (.v 6) (.tup (.cons (.v 4) .nil))) .nil))) (.cons (.v 2) .nil))))
  .nil)))))))⟩
/-- law(0 _law_script, 1 _law_k, 2 _law_m, 3 _law_turn, 4 _law_near, 5 _law_counts, 6 _law_due, 7 _law_far, 8 _law_row) -/
def lawV8_c0 (c__law_same_right : Nat) (c__law_told_right : Nat) (c__law_fewest : Nat) (c__law_far_plan : Nat) (c__law_all : Nat) (c__law_plan : Nat) (c__law_begun : Nat) : CE := (.lcp [8] (.b1 .len (.v 8)) (.v 8) (.e (.call c__law_all (.cons (.v 4) (.cons (.int 8) .nil)))) .no)
def lawV8_b0 (c__law_same_right : Nat) (c__law_told_right : Nat) (c__law_fewest : Nat) (c__law_far_plan : Nat) (c__law_all : Nat) (c__law_plan : Nat) (c__law_begun : Nat) : CSs := (.cons (.asg (.v 4) (.call c__law_plan (.cons (.v 2) (.cons (.int 8) (.cons (.int 5) .nil)))))
  (.cons (.asg (.v 5) (lawV8_c0 c__law_same_right c__law_told_right c__law_fewest c__law_far_plan c__law_all c__law_plan c__law_begun))
  (.cons (.asg (.v 6) (.ite (.cmp .ne (.v 5) (.lst .nil)) (.b1 .minL (.v 5)) .non))
  (.cons (.ite (.or (.cons (.not (.call c__law_told_right (.cons (.v 4) (.cons (.v 6) .nil)))) (.cons (.cmp .ne (.call c__law_fewest (.cons (.v 4) .nil)) (.v 6)) (.cons (.not (.call c__law_same_right (.cons (.v 2) (.cons (.v 4) (.cons (.v 6) .nil))))) .nil)))) (.cons (.ret (.bl false))
  .nil) .nil)
  (.cons (.asg (.v 7) (.call c__law_far_plan (.cons (.v 2) (.cons (.int 5) .nil))))
  (.cons (.asg (.v 6) (.call c__law_fewest (.cons (.v 7) .nil)))
  (.cons (.ite (.or (.cons (.not (.call c__law_told_right (.cons (.v 7) (.cons (.v 6) .nil)))) (.cons (.not (.call c__law_same_right (.cons (.v 2) (.cons (.v 7) (.cons (.v 6) .nil))))) .nil))) (.cons (.ret (.bl false))
  .nil) .nil)
  (.cons (.ite (.and (.cons (.isNN (.v 6)) (.cons (.cmp .gt (.v 6) (.b1 .len (.idx (.v 7) (.int 1)))) .nil))) (.cons (.ret (.bl false))
  .nil) .nil)
  .nil))))))))
def lawV8_b1 (c__law_same_right : Nat) (c__law_told_right : Nat) (c__law_fewest : Nat) (c__law_far_plan : Nat) (c__law_all : Nat) (c__law_plan : Nat) (c__law_begun : Nat) : CSs := (.cons (.asg (.v 2) (.call c__law_begun (.cons (.v 0) (.cons (.v 1) .nil))))
  (.cons (.for_ (.v 3) (.rg1 (.int 3)) (lawV8_b0 c__law_same_right c__law_told_right c__law_fewest c__law_far_plan c__law_all c__law_plan c__law_begun))
  .nil))
def lawV8 (c__law_same_right : Nat) (c__law_told_right : Nat) (c__law_fewest : Nat) (c__law_far_plan : Nat) (c__law_all : Nat) (c__law_plan : Nat) (c__law_begun : Nat) : Fn := ⟨1, 9, (.cons (.for_ (.v 1) (.rg1 (.bin .add (.int 1) (.b2 .min (.b1 .len (.v 0)) (.int 7)))) (lawV8_b1 c__law_same_right c__law_told_right c__law_fewest c__law_far_plan c__law_all c__law_plan c__law_begun))
  (.cons (.ret (.bl true))
  .nil))⟩
/-- are_apart(0 one, 1 other) -/
def are_apart : Fn := ⟨2, 2, (.cons (.ret (.or (.cons (.cmp .lt (.idx (.v 0) (.int 1)) (.idx (.v 1) (.int 0))) (.cons (.cmp .lt (.idx (.v 1) (.int 1)) (.idx (.v 0) (.int 0))) .nil))))
  .nil)⟩
/-- many_apart(0 works, 1 many, 2 end, 3 last, 4 first) -/
def many_apart_c0 : CE := (.lcp [4, 3] (.tup (.cons (.v 3) (.cons (.v 4) .nil))) (.t [4, 3]) (.e (.v 0)) .no)
def many_apart_b0 : CSs := (.cons (.ite (.cmp .gt (.v 4) (.v 2)) (.cons (.par [1, 2] (.cons (.bin .add (.v 1) (.int 1)) (.cons (.v 3) .nil)))
  .nil) .nil)
  .nil)
def many_apart : Fn := ⟨1, 5, (.cons (.par [1, 2] (.cons (.int 0) (.cons (.neg (.int 1)) .nil)))
  (.cons (.for_ (.t [3, 4]) (.e (.b1 .sorted (many_apart_c0))) (many_apart_b0))
  (.cons (.ret (.v 1))
  .nil)))⟩
/-- most_apart(0 plan, 1 wanted, 2 works, 3 found, 4 number, 5 work, 6 kept, 7 rest, 8 other, 9 one) -/
def most_apart_c0 (c_many_apart : Nat) (c_are_apart : Nat) (c_need_plan : Nat) : CE := (.lcp [9] (.call c_are_apart (.cons (.v 5) (.cons (.idx (.v 2) (.v 9)) .nil))) (.v 9) (.e (.v 3)) .no)
def most_apart_c1 (c_many_apart : Nat) (c_are_apart : Nat) (c_need_plan : Nat) : CE := (.lcp [9] (.call c_are_apart (.cons (.v 8) (.cons (.idx (.v 2) (.v 9)) .nil))) (.v 9) (.e (.v 6)) .no)
def most_apart_c2 (c_many_apart : Nat) (c_are_apart : Nat) (c_need_plan : Nat) : CE := (.lcp [8] (.v 8) (.v 8) (.e (.slc (.v 2) (.yes (.bin .add (.v 4) (.int 1))) .no)) (.yes (.b1 .all (most_apart_c1 c_many_apart c_are_apart c_need_plan))))
def most_apart_b0 (c_many_apart : Nat) (c_are_apart : Nat) (c_need_plan : Nat) : CSs := (.cons (.asg (.v 6) (.lst (.star (.v 3) (.cons (.v 4) .nil))))
  (.cons (.asg (.v 7) (most_apart_c2 c_many_apart c_are_apart c_need_plan))
  (.cons (.ite (.and (.cons (.b1 .all (most_apart_c0 c_many_apart c_are_apart c_need_plan)) (.cons (.cmp .eq (.bin .add (.b1 .len (.v 6)) (.call c_many_apart (.cons (.v 7) .nil))) (.v 1)) .nil))) (.cons (.asg (.v 3) (.v 6))
  .nil) .nil)
  .nil)))
def most_apart (c_many_apart : Nat) (c_are_apart : Nat) (c_need_plan : Nat) : Fn := ⟨1, 10, (.cons (.par [2, 3] (.cons (.idx (.call c_need_plan (.cons (.v 0) .nil)) (.int 1)) (.cons (.lst .nil) .nil)))
  (.cons (.asg (.v 1) (.call c_many_apart (.cons (.v 2) .nil)))
  (.cons (.for_ (.t [4, 5]) (.enu (.v 2)) (most_apart_b0 c_many_apart c_are_apart c_need_plan))
  (.cons (.ret (.b1 .tuple (.v 3)))
  .nil))))⟩
/-- _law_lots(0 _law_total, 1 _law_found, 2 _law_number, 3 _law_row) -/
def _law_lotsV0_c0 : CE := (.lcp [3] (.bin .add (.v 3) (.tup (.cons (.v 2) .nil))) (.v 3) (.e (.v 1)) .no)
def _law_lotsV0_b0 : CSs := (.cons (.asg (.v 1) (.bin .add (.v 1) (_law_lotsV0_c0)))
  .nil)
def _law_lotsV0 : Fn := ⟨1, 4, (.cons (.asg (.v 1) (.lst (.cons (.tup .nil) .nil)))
  (.cons (.for_ (.v 2) (.rg1 (.v 0)) (_law_lotsV0_b0))
  (.cons (.ret (.v 1))
  .nil)))⟩
/-- _law_are_apart(0 _law_works_so, 1 _law_row, 2 _law_spot, 3 _law_one, 4 _law_other) -/
def _law_are_apart_b0 : CSs := (.cons (.ite (.and (.cons (.cmp .le (.idx (.idx (.v 0) (.v 3)) (.int 0)) (.idx (.idx (.v 0) (.v 4)) (.int 1))) (.cons (.cmp .le (.idx (.idx (.v 0) (.v 4)) (.int 0)) (.idx (.idx (.v 0) (.v 3)) (.int 1))) .nil))) (.cons (.ret (.bl false))
  .nil) .nil)
  .nil)
def _law_are_apart_b1 : CSs := (.cons (.for_ (.v 4) (.e (.slc (.v 1) (.yes (.bin .add (.v 2) (.int 1))) .no)) (_law_are_apart_b0))
  .nil)
def _law_are_apart : Fn := ⟨2, 5, (.cons (.for_ (.t [2, 3]) (.enu (.v 1)) (_law_are_apart_b1))
  (.cons (.ret (.bl true))
  .nil))⟩
/-- law(0 _law_script, 1 _law_k, 2 _law_m, 3 _law_plan_so, 4 _law_good, 5 _law_most, 6 _law_due, 7 _law_many, 8 _law_row) -/
def lawV12_c0 (c__law_far_plan : Nat) (c__law_plan : Nat) (c_fewest : Nat) (c_most_apart : Nat) (c__law_lots : Nat) (c__law_are_apart : Nat) (c__law_begun : Nat) : CE := (.lcp [8] (.v 8) (.v 8) (.e (.v 4)) (.yes (.cmp .eq (.b1 .len (.v 8)) (.v 5))))
def lawV12_c1 (c__law_far_plan : Nat) (c__law_plan : Nat) (c_fewest : Nat) (c_most_apart : Nat) (c__law_lots : Nat) (c__law_are_apart : Nat) (c__law_begun : Nat) : CE := (.lcp [8] (.b1 .len (.v 8)) (.v 8) (.e (.v 4)) .no)
def lawV12_c2 (c__law_far_plan : Nat) (c__law_plan : Nat) (c_fewest : Nat) (c_most_apart : Nat) (c__law_lots : Nat) (c__law_are_apart : Nat) (c__law_begun : Nat) : CE := (.lcp [8] (.v 8) (.v 8) (.e (.call c__law_lots (.cons (.b1 .len (.idx (.v 3) (.int 1))) .nil))) (.yes (.call c__law_are_apart (.cons (.idx (.v 3) (.int 1)) (.cons (.v 8) .nil)))))
def lawV12_b0 (c__law_far_plan : Nat) (c__law_plan : Nat) (c_fewest : Nat) (c_most_apart : Nat) (c__law_lots : Nat) (c__law_are_apart : Nat) (c__law_begun : Nat) : CSs := (.cons (.asg (.v 4) (lawV12_c2 c__law_far_plan c__law_plan c_fewest c_most_apart c__law_lots c__law_are_apart c__law_begun))
  (.cons (.asg (.v 5) (.b1 .maxL (lawV12_c1 c__law_far_plan c__law_plan c_fewest c_most_apart c__law_lots c__law_are_apart c__law_begun)))
  (.cons (.asg (.v 6) (.b1 .minT (lawV12_c0 c__law_far_plan c__law_plan c_fewest c_most_apart c__law_lots c__law_are_apart c__law_begun)))
  (.cons (.ite (.cmp .ne (.b1 .repr (.lst (.cons (.call c_most_apart (.cons (.v 3) .nil)) (.cons (.call c_most_apart (.cons (.v 3) .nil)) .nil)))) (.b1 .repr (.lst (.cons (.v 6) (.cons (.v 6) .nil))))) (.cons (.ret (.bl false))
  .nil) .nil)
  (.cons (.asg (.v 7) (.call c_fewest (.cons (.v 3) .nil)))
  (.cons (.ite (.or (.cons (.cmp .ne (.call c_fewest (.cons (.tup (.cons (.int 1) (.cons (.idx (.v 3) (.int 1)) .nil))) .nil)) (.v 5)) (.cons (.and (.cons (.isNN (.v 7)) (.cons (.cmp .lt (.v 7) (.v 5)) .nil))) .nil))) (.cons (.ret (.bl false))
  .nil) .nil)
  .nil))))))
def lawV12_b1 (c__law_far_plan : Nat) (c__law_plan : Nat) (c_fewest : Nat) (c_most_apart : Nat) (c__law_lots : Nat) (c__law_are_apart : Nat) (c__law_begun : Nat) : CSs := (.cons (.asg (.v 2) (.call c__law_begun (.cons (.v 0) (.cons (.v 1) .nil))))
  (.cons (.for_ (.v 3) (.e (.tup (.cons (.call c__law_plan (.cons (.v 2) (.cons (.int 12) (.cons (.int 6) .nil)))) (.cons (.call c__law_plan (.cons (.v 2) (.cons (.int 30) (.cons (.int 6) .nil)))) (.cons (.call c__law_far_plan (.cons (.v 2) (.cons (.int 6) .nil))) .nil))))) (lawV12_b0 c__law_far_plan c__law_plan c_fewest c_most_apart c__law_lots c__law_are_apart c__law_begun))
  .nil))
def lawV12 (c__law_far_plan : Nat) (c__law_plan : Nat) (c_fewest : Nat) (c_most_apart : Nat) (c__law_lots : Nat) (c__law_are_apart : Nat) (c__law_begun : Nat) : Fn := ⟨1, 9, (.cons (.for_ (.v 1) (.rg1 (.bin .add (.int 1) (.b2 .min (.b1 .len (.v 0)) (.int 7)))) (lawV12_b1 c__law_far_plan c__law_plan c_fewest c_most_apart c__law_lots c__law_are_apart c__law_begun))
  (.cons (.ret (.bl true))
  .nil))⟩
/-- are_openings_of(0 plan, 1 value, 2 day, 3 one, 4 other) -/
def are_openings_of_c0 (c_is_integer : Nat) : CE := (.lcp [3, 4] (.cmp .ge (.bin .sub (.v 4) (.v 3)) (.idx (.v 0) (.int 0))) (.t [3, 4]) (.zip (.v 1) (.slc (.v 1) (.yes (.int 1)) .no)) .no)
def are_openings_of_c1 (c_is_integer : Nat) : CE := (.lcp [2] (.call c_is_integer (.cons (.v 2) (.cons (.int 0) (.cons (.gI "MOST_DAY" 1000000000000000000000000000000) .nil)))) (.v 2) (.e (.v 1)) .no)
def are_openings_of (c_is_integer : Nat) : Fn := ⟨2, 5, (.cons (.ite (.or (.cons (.not (.isI (.v 1) .tuple)) (.cons (.cmp .gt (.b1 .len (.v 1)) (.gI "MOST_OPENINGS" 1000)) .nil))) (.cons (.ret (.bl false))
  .nil) .nil)
  (.cons (.ite (.not (.b1 .all (are_openings_of_c1 c_is_integer))) (.cons (.ret (.bl false))
  .nil) .nil)
  (.cons (.ret (.b1 .all (are_openings_of_c0 c_is_integer)))
  .nil)))⟩
/-- do_serve_in(0 plan, 1 value, 2 first, 3 last, 4 day) -/
def do_serve_in_c0 (c_are_openings_of : Nat) : CE := (.lcp [4] (.ch2 .le .le (.v 2) (.v 4) (.v 3)) (.v 4) (.e (.v 1)) .no)
def do_serve_in_c1 (c_are_openings_of : Nat) : CE := (.lcp [2, 3] (.b1 .any (do_serve_in_c0 c_are_openings_of)) (.t [2, 3]) (.e (.idx (.v 0) (.int 1))) .no)
def do_serve_in (c_are_openings_of : Nat) : Fn := ⟨2, 5, (.cons (.ite (.not (.call c_are_openings_of (.cons (.v 0) (.cons (.v 1) .nil)))) (.cons (.ret (.bl false))
  .nil) .nil)
  (.cons (.ret (.b1 .all (do_serve_in_c1 c_are_openings_of)))
  .nil))⟩
/-- are_openings(0 plan, 1 value) -/
def are_openings (c_are_openings_of : Nat) (c_need_plan : Nat) : Fn := ⟨2, 2, (.cons (.ret (.call c_are_openings_of (.cons (.call c_need_plan (.cons (.v 0) .nil)) (.cons (.v 1) .nil))))
  .nil)⟩
/-- do_serve(0 plan, 1 value) -/
def do_serve (c_do_serve_in : Nat) (c_need_plan : Nat) : Fn := ⟨2, 2, (.cons (.ret (.call c_do_serve_in (.cons (.call c_need_plan (.cons (.v 0) .nil)) (.cons (.v 1) .nil))))
  .nil)⟩
/-- _law_is_day(0 _law_thing) -/
def _law_is_day : Fn := ⟨1, 1, (.cons (.ite (.or (.cons (.not (.isI (.v 0) .int)) (.cons (.isI (.v 0) .bool) .nil))) (.cons (.ret (.bl false))
  .nil) .nil)
  (.cons (.ret (.ch2 .le .le (.int 0) (.v 0) (.bin .pow (.int 10) (.int 30))))
  .nil))⟩
/-- _law_are(0 _law_plan_so, 1 _law_thing, 2 _law_bar, 3 _law_day, 4 _law_one, 5 _law_two) -/
def _law_are_c0 (c__law_is_day : Nat) : CE := (.lcp [4, 5] (.int 1) (.t [4, 5]) (.zip (.v 1) (.slc (.v 1) (.yes (.int 1)) .no)) (.yes (.cmp .lt (.bin .sub (.v 5) (.v 4)) (.v 2))))
def _law_are_c1 (c__law_is_day : Nat) : CE := (.lcp [3] (.v 3) (.v 3) (.e (.v 1)) (.yes (.not (.call c__law_is_day (.cons (.v 3) .nil)))))
def _law_are (c__law_is_day : Nat) : Fn := ⟨2, 6, (.cons (.ite (.or (.cons (.not (.isI (.v 1) .tuple)) (.cons (.cmp .gt (.b1 .len (.v 1)) (.int 1000)) .nil))) (.cons (.ret (.bl false))
  .nil) .nil)
  (.cons (.ite (.cmp .ne (_law_are_c1 c__law_is_day) (.lst .nil)) (.cons (.ret (.bl false))
  .nil) .nil)
  (.cons (.asg (.v 2) (.idx (.v 0) (.int 0)))
  (.cons (.ret (.cmp .eq (_law_are_c0 c__law_is_day) (.lst .nil)))
  .nil))))⟩
/-- _law_bent(0 _law_m, 1 _law_thing, 2 _law_some, 3 _law_at, 4 _law_pick) -/
def _law_bentV0 (c__law_bent : Nat) (c__law_of : Nat) (c__law_draw : Nat) : Fn := ⟨3, 5, (.cons (.ite (.and (.cons (.isI (.v 1) .int) (.cons (.not (.isI (.v 1) .bool)) (.cons (.cmp .gt (.call c__law_draw (.cons (.v 0) (.cons (.int 3) .nil))) (.int 0)) .nil)))) (.cons (.ret (.bin .add (.v 1) (.idx (.lst (.cons (.int 1) (.cons (.neg (.int 1)) (.cons (.int 2) (.cons (.neg (.int 5)) (.cons (.bin .pow (.int 10) (.int 30)) (.cons (.bin .sub (.int 0) (.bin .pow (.int 10) (.int 30))) .nil))))))) (.call c__law_draw (.cons (.v 0) (.cons (.int 6) .nil))))))
  .nil) .nil)
  (.cons (.ite (.or (.cons (.not (.isI (.v 1) .tuple)) (.cons (.cmp .eq (.v 1) (.tup .nil)) (.cons (.cmp .eq (.call c__law_draw (.cons (.v 0) (.cons (.int 9) .nil))) (.int 0)) .nil)))) (.cons (.ret (.call c__law_of (.cons (.v 0) (.cons (.v 2) .nil))))
  .nil) .nil)
  (.cons (.par [3, 4] (.cons (.call c__law_draw (.cons (.v 0) (.cons (.b1 .len (.v 1)) .nil))) (.cons (.call c__law_draw (.cons (.v 0) (.cons (.int 9) .nil))) .nil)))
  (.cons (.ite (.cmp .eq (.v 4) (.int 0)) (.cons (.ret (.bin .add (.slc (.v 1) .no (.yes (.v 3))) (.slc (.v 1) (.yes (.bin .add (.v 3) (.int 1))) .no)))
  .nil) .nil)
  (.cons (.ite (.cmp .eq (.v 4) (.int 1)) (.cons (.ret (.bin .add (.v 1) (.slc (.v 1) (.yes (.v 3)) (.yes (.bin .add (.v 3) (.int 1))))))
  .nil) .nil)
  (.cons (.ite (.cmp .eq (.v 4) (.int 2)) (.cons (.ret (.b1 .list (.v 1)))
  .nil) .nil)
  (.cons (.ite (.cmp .eq (.v 4) (.int 3)) (.cons (.ret (.rev (.v 1)))
  .nil) .nil)
  (.cons (.ite (.cmp .eq (.v 4) (.int 4)) (.cons (.ret (.bin .add (.bin .add (.slc (.v 1) .no (.yes (.v 3))) (.tup (.cons (.call c__law_of (.cons (.v 0) (.cons (.v 2) .nil))) .nil))) (.slc (.v 1) (.yes (.v 3)) .no)))
  .nil) .nil)
  (.cons (.ret (.bin .add (.bin .add (.slc (.v 1) .no (.yes (.v 3))) (.tup (.cons (.call c__law_bent (.cons (.v 0) (.cons (.idx (.v 1) (.v 3)) (.cons (.v 2) .nil)))) .nil))) (.slc (.v 1) (.yes (.bin .add (.v 3) (.int 1))) .no)))
  .nil)))))))))⟩
/-- _law_odds(0 _law_some) -/
def _law_oddsV1 : Fn := ⟨0, 1, (.cons (.asg (.v 0) (.lst (.cons .non (.cons (.bl true) (.cons (.int 0) (.cons (.int 5) (.cons (.str "") (.cons (.str "ab") (.cons (.lst .nil) (.cons (.lst (.cons (.int 0) (.cons (.int 9) .nil))) (.cons (.dic .nil) (.cons (.tup (.cons .non .nil)) (.cons (.tup (.cons (.bl true) .nil)) (.cons (.tup (.cons (.bl false) (.cons (.int 9) .nil))) (.cons (.tup (.cons (.str "0") .nil)) (.cons (.tup (.cons (.int 0) (.cons .non .nil))) .nil))))))))))))))))
  (.cons (.asg (.v 0) (.bin .add (.v 0) (.lst (.cons (.tup (.cons (.neg (.int 1)) .nil)) (.cons (.tup (.cons (.bin .add (.bin .pow (.int 10) (.int 30)) (.int 1)) .nil)) (.cons (.tup (.cons (.int 0) (.cons (.bin .add (.bin .pow (.int 10) (.int 30)) (.int 1)) .nil))) (.cons (.tup (.cons (.int 0) (.cons (.int 0) .nil))) (.cons (.tup (.cons (.tup (.cons (.int 0) .nil)) .nil)) (.cons (.tup (.cons (.tup (.cons (.int 0) (.cons (.int 9) .nil))) .nil)) (.cons (.tup (.cons (.int 0) (.cons (.tup (.cons (.int 9) .nil)) .nil))) .nil))))))))))
  (.cons (.ret (.bin .add (.v 0) (.lst (.cons (.tup (.cons (.int 3) (.cons (.tup .nil) .nil))) (.cons (.tup (.cons (.int 1) (.cons (.tup (.cons (.tup (.cons (.int 0) (.cons (.int 5) .nil))) .nil)) .nil))) (.cons (.tup (.cons (.int 9) (.cons (.int 0) .nil))) (.cons (.tup (.cons (.int 0) (.cons (.int 40) (.cons (.int 39) .nil)))) (.cons (.tup (.cons (.bin .pow (.int 10) (.int 60)) .nil)) (.cons (.tup (.cons (.int 0) (.cons (.bl true) .nil))) .nil)))))))))
  .nil)))⟩
/-- _law_right(0 _law_plan_so, 1 _law_thing, 2 _law_due, 3 _law_told_so, 4 _law_kept_so, 5 _law_is_so) -/
def _law_rightV1 (c_do_serve : Nat) (c_are_openings : Nat) (c__law_serves : Nat) (c__law_are : Nat) : Fn := ⟨2, 6, (.cons (.par [4, 5] (.cons (.b1 .repr (.lst (.cons (.v 0) (.cons (.v 1) .nil)))) (.cons (.call c__law_are (.cons (.v 0) (.cons (.v 1) .nil))) .nil)))
  (.cons (.asg (.v 2) (.bin .mul (.lst (.cons (.v 5) (.cons (.and (.cons (.v 5) (.cons (.call c__law_serves (.cons (.v 0) (.cons (.v 1) .nil))) .nil))) .nil))) (.int 2)))
  (.cons (.asg (.v 3) (.lst (.cons (.call c_are_openings (.cons (.v 0) (.cons (.v 1) .nil))) (.cons (.call c_do_serve (.cons (.v 0) (.cons (.v 1) .nil))) .nil))))
  (.cons (.asg (.v 3) (.bin .add (.v 3) (.lst (.cons (.call c_are_openings (.cons (.v 0) (.cons (.v 1) .nil))) (.cons (.call c_do_serve (.cons (.v 0) (.cons (.v 1) .nil))) .nil)))))
  (.cons (.ret (.and (.cons (.cmp .eq (.b1 .repr (.v 3)) (.b1 .repr (.v 2))) (.cons (.cmp .eq (.b1 .repr (.lst (.cons (.v 0) (.cons (.v 1) .nil)))) (.v 4)) .nil))))
  .nil)))))⟩
/-- _law_drawn_row(0 _law_m, 1 _law_plan_so, 2 _law_found, 3 _law_day, 4 _law_is_far, 5 _law_end) -/
def _law_drawn_row_c0 (c__law_days : Nat) (c__law_draw : Nat) : CE := (.lcp [3, 5] (.v 3) (.t [3, 5]) (.e (.idx (.v 1) (.int 1))) .no)
def _law_drawn_row_b0 (c__law_days : Nat) (c__law_draw : Nat) : CSs := (.cons (.asg (.v 4) (.or (.cons (.cmp .eq (.v 2) (.tup .nil)) (.cons (.cmp .ge (.bin .sub (.v 3) (.idx (.v 2) (.neg (.int 1)))) (.idx (.v 1) (.int 0))) .nil))))
  (.cons (.ite (.and (.cons (.cmp .eq (.call c__law_draw (.cons (.v 0) (.cons (.int 2) .nil))) (.int 0)) (.cons (.or (.cons (.v 4) (.cons (.cmp .eq (.call c__law_draw (.cons (.v 0) (.cons (.int 9) .nil))) (.int 0)) .nil))) .nil))) (.cons (.asg (.v 2) (.bin .add (.v 2) (.tup (.cons (.v 3) .nil))))
  .nil) .nil)
  .nil))
def _law_drawn_row (c__law_days : Nat) (c__law_draw : Nat) : Fn := ⟨2, 6, (.cons (.asg (.v 2) (.tup .nil))
  (.cons (.for_ (.v 3) (.e (.call c__law_days (.cons (.v 1) (.cons (_law_drawn_row_c0 c__law_days c__law_draw) (.cons (.int 1) .nil))))) (_law_drawn_row_b0 c__law_days c__law_draw))
  (.cons (.ret (.v 2))
  .nil)))⟩
/-- _law_far_right(0 _law_m, 1 _law_some, 2 _law_plan_so, 3 _law_near_so, 4 _law_ends, 5 _law_rows_here, 6 _law_row, 7 _law_again, 8 _law_day, 9 _law_end) -/
def _law_far_rightV0_b0 (c_do_serve : Nat) (c_are_openings : Nat) (c__law_of : Nat) (c__law_right : Nat) (c__law_bent : Nat) (c__law_drawn_row : Nat) (c__law_far_plan : Nat) : CSs := (.cons (.ite (.or (.cons (.not (.call c__law_right (.cons (.v 2) (.cons (.v 6) .nil)))) (.cons (.not (.call c__law_right (.cons (.v 3) (.cons (.v 6) .nil)))) .nil))) (.cons (.ret (.bl false))
  .nil) .nil)
  .nil)
def _law_far_rightV0_c0 (c_do_serve : Nat) (c_are_openings : Nat) (c__law_of : Nat) (c__law_right : Nat) (c__law_bent : Nat) (c__law_drawn_row : Nat) (c__law_far_plan : Nat) : CE := (.lcp [7] (.call c__law_bent (.cons (.v 0) (.cons (.call c__law_of (.cons (.v 0) (.cons (.v 5) .nil))) (.cons (.v 1) .nil)))) (.v 7) (.rg1 (.int 12)) .no)
def _law_far_rightV0_c1 (c_do_serve : Nat) (c_are_openings : Nat) (c__law_of : Nat) (c__law_right : Nat) (c__law_bent : Nat) (c__law_drawn_row : Nat) (c__law_far_plan : Nat) : CE := (.lcp [7] (.call c__law_drawn_row (.cons (.v 0) (.cons (.v 2) .nil))) (.v 7) (.rg1 (.int 6)) .no)
def _law_far_rightV0_c2 (c_do_serve : Nat) (c_are_openings : Nat) (c__law_of : Nat) (c__law_right : Nat) (c__law_bent : Nat) (c__law_drawn_row : Nat) (c__law_far_plan : Nat) : CE := (.lcp [8, 9] (.v 9) (.t [8, 9]) (.e (.idx (.v 2) (.int 1))) .no)
def _law_far_rightV0 (c_do_serve : Nat) (c_are_openings : Nat) (c__law_of : Nat) (c__law_right : Nat) (c__law_bent : Nat) (c__law_drawn_row : Nat) (c__law_far_plan : Nat) : Fn := ⟨2, 10, (.cons (.asg (.v 2) (.call c__law_far_plan (.cons (.v 0) (.cons (.int 4) .nil))))
  (.cons (.asg (.v 3) (.tup (.cons (.int 1) (.cons (.idx (.v 2) (.int 1)) .nil))))
  (.cons (.asg (.v 4) (.b1 .tuple (.b1 .sset (_law_far_rightV0_c2 c_do_serve c_are_openings c__law_of c__law_right c__law_bent c__law_drawn_row c__law_far_plan))))
  (.cons (.asg (.v 5) (.lst (.cons (.v 4) (.cons (.slc (.v 4) (.yes (.int 1)) .no) (.cons (.rev (.v 4)) (.cons (.bin .add (.v 4) (.slc (.v 4) (.yes (.neg (.int 1))) .no)) (.cons (.b1 .list (.v 4)) (.cons (.tup .nil) .nil))))))))
  (.cons (.asg (.v 5) (.bin .add (.v 5) (_law_far_rightV0_c1 c_do_serve c_are_openings c__law_of c__law_right c__law_bent c__law_drawn_row c__law_far_plan)))
  (.cons (.asg (.v 5) (.bin .add (.v 5) (_law_far_rightV0_c0 c_do_serve c_are_openings c__law_of c__law_right c__law_bent c__law_drawn_row c__law_far_plan)))
  (.cons (.for_ (.v 6) (.e (.bin .add (.v 5) (.lst (.cons (.call c__law_of (.cons (.v 0) (.cons (.v 1) .nil))) .nil)))) (_law_far_rightV0_b0 c_do_serve c_are_openings c__law_of c__law_right c__law_bent c__law_drawn_row c__law_far_plan))
  (.cons (.ret (.cmp .eq (.b1 .repr (.lst (.cons (.call c_are_openings (.cons (.v 3) (.cons (.v 4) .nil))) (.cons (.call c_do_serve (.cons (.v 3) (.cons (.v 4) .nil))) .nil)))) (.b1 .repr (.lst (.cons (.bl true) (.cons (.bl true) .nil))))))
  .nil))))))))⟩
/-- _law_hand_right(0 _law_rows_here, 1 _law_top, 2 _law_row, 3 _law_far, 4 _law_plan_so, 5 _law_one_so, 6 _law_thing, 7 _law_is_so, 8 _law_is_served, 9 _law_told_so, 10 _law_k) -/
def _law_hand_rightV0_b0 (c__law_right : Nat) (c_do_serve : Nat) (c_are_openings : Nat) : CSs := (.cons (.asg (.v 9) (.lst (.cons (.call c_are_openings (.cons (.v 5) (.cons (.v 6) .nil))) (.cons (.call c_do_serve (.cons (.v 5) (.cons (.v 6) .nil))) .nil))))
  (.cons (.ite (.or (.cons (.cmp .ne (.b1 .repr (.v 9)) (.b1 .repr (.lst (.cons (.v 7) (.cons (.v 8) .nil))))) (.cons (.not (.call c__law_right (.cons (.v 5) (.cons (.v 6) .nil)))) .nil))) (.cons (.ret (.bl false))
  .nil) .nil)
  .nil))
def _law_hand_rightV0_c0 (c__law_right : Nat) (c_do_serve : Nat) (c_are_openings : Nat) : CE := (.lcp [10] (.bin .mul (.int 3) (.v 10)) (.v 10) (.rg1 (.int 1000)) .no)
def _law_hand_rightV0 (c__law_right : Nat) (c_do_serve : Nat) (c_are_openings : Nat) : Fn := ⟨0, 11, (.cons (.par [1, 2] (.cons (.bin .pow (.int 10) (.int 30)) (.cons (.b1 .tuple (_law_hand_rightV0_c0 c__law_right c_do_serve c_are_openings)) .nil)))
  (.cons (.par [3, 4] (.cons (.tup (.cons (.v 1) (.cons (.tup (.cons (.tup (.cons (.int 0) (.cons (.v 1) .nil))) .nil)) .nil))) (.cons (.tup (.cons (.int 3) (.cons (.tup (.cons (.tup (.cons (.int 2) (.cons (.int 4) .nil))) (.cons (.tup (.cons (.int 8) (.cons (.int 8) .nil))) .nil))) .nil))) .nil)))
  (.cons (.asg (.v 0) (.lst (.cons (.tup (.cons (.v 3) (.cons (.tup .nil) (.cons (.bl true) (.cons (.bl false) .nil))))) (.cons (.tup (.cons (.v 3) (.cons (.tup (.cons (.int 0) .nil)) (.cons (.bl true) (.cons (.bl true) .nil))))) (.cons (.tup (.cons (.v 3) (.cons (.tup (.cons (.v 1) .nil)) (.cons (.bl true) (.cons (.bl true) .nil))))) .nil)))))
  (.cons (.asg (.v 0) (.bin .add (.v 0) (.lst (.cons (.tup (.cons (.v 3) (.cons (.tup (.cons (.int 0) (.cons (.v 1) .nil))) (.cons (.bl true) (.cons (.bl true) .nil))))) (.cons (.tup (.cons (.v 3) (.cons (.tup (.cons (.int 0) (.cons (.bin .sub (.v 1) (.int 1)) .nil))) (.cons (.bl false) (.cons (.bl false) .nil))))) .nil)))))
  (.cons (.asg (.v 0) (.bin .add (.v 0) (.lst (.cons (.tup (.cons (.v 3) (.cons (.tup (.cons (.int 1) (.cons (.v 1) .nil))) (.cons (.bl false) (.cons (.bl false) .nil))))) (.cons (.tup (.cons (.v 3) (.cons (.tup (.cons (.bin .add (.v 1) (.int 1)) .nil)) (.cons (.bl false) (.cons (.bl false) .nil))))) .nil)))))
  (.cons (.asg (.v 0) (.bin .add (.v 0) (.lst (.cons (.tup (.cons (.v 3) (.cons (.tup (.cons (.int 0) (.cons (.v 1) (.cons (.bin .mul (.int 2) (.v 1)) .nil)))) (.cons (.bl false) (.cons (.bl false) .nil))))) (.cons (.tup (.cons (.tup (.cons (.int 1) (.cons (.tup .nil) .nil))) (.cons (.tup .nil) (.cons (.bl true) (.cons (.bl true) .nil))))) .nil)))))
  (.cons (.asg (.v 0) (.bin .add (.v 0) (.lst (.cons (.tup (.cons (.v 4) (.cons (.tup (.cons (.int 2) (.cons (.int 8) .nil))) (.cons (.bl true) (.cons (.bl true) .nil))))) (.cons (.tup (.cons (.v 4) (.cons (.tup (.cons (.int 4) (.cons (.int 8) .nil))) (.cons (.bl true) (.cons (.bl true) .nil))))) .nil)))))
  (.cons (.asg (.v 0) (.bin .add (.v 0) (.lst (.cons (.tup (.cons (.v 4) (.cons (.tup (.cons (.int 4) (.cons (.int 7) .nil))) (.cons (.bl true) (.cons (.bl false) .nil))))) (.cons (.tup (.cons (.v 4) (.cons (.tup (.cons (.int 5) (.cons (.int 8) .nil))) (.cons (.bl true) (.cons (.bl false) .nil))))) .nil)))))
  (.cons (.asg (.v 0) (.bin .add (.v 0) (.lst (.cons (.tup (.cons (.v 4) (.cons (.tup (.cons (.int 2) (.cons (.int 4) (.cons (.int 8) .nil)))) (.cons (.bl false) (.cons (.bl false) .nil))))) (.cons (.tup (.cons (.v 4) (.cons (.tup (.cons (.int 2) (.cons (.int 5) (.cons (.int 8) (.cons (.int 11) .nil))))) (.cons (.bl true) (.cons (.bl true) .nil))))) .nil)))))
  (.cons (.asg (.v 0) (.bin .add (.v 0) (.lst (.cons (.tup (.cons (.v 4) (.cons (.tup (.cons (.int 1) (.cons (.int 8) .nil))) (.cons (.bl true) (.cons (.bl false) .nil))))) (.cons (.tup (.cons (.v 4) (.cons (.tup (.cons (.int 8) .nil)) (.cons (.bl true) (.cons (.bl false) .nil))))) .nil)))))
  (.cons (.asg (.v 0) (.bin .add (.v 0) (.lst (.cons (.tup (.cons (.v 4) (.cons (.tup (.cons (.int 8) (.cons (.int 4) .nil))) (.cons (.bl false) (.cons (.bl false) .nil))))) (.cons (.tup (.cons (.v 4) (.cons (.tup (.cons (.int 4) (.cons (.int 4) (.cons (.int 8) .nil)))) (.cons (.bl false) (.cons (.bl false) .nil))))) .nil)))))
  (.cons (.asg (.v 0) (.bin .add (.v 0) (.lst (.cons (.tup (.cons (.v 4) (.cons (.lst (.cons (.int 4) (.cons (.int 8) .nil))) (.cons (.bl false) (.cons (.bl false) .nil))))) (.cons (.tup (.cons (.v 4) (.cons (.tup (.cons (.int 3) (.cons (.int 6) (.cons (.int 9) .nil)))) (.cons (.bl true) (.cons (.bl false) .nil))))) .nil)))))
  (.cons (.asg (.v 0) (.bin .add (.v 0) (.lst (.cons (.tup (.cons (.tup (.cons (.int 3) (.cons (.tup .nil) .nil))) (.cons (.v 2) (.cons (.bl true) (.cons (.bl true) .nil))))) (.cons (.tup (.cons (.tup (.cons (.int 3) (.cons (.tup .nil) .nil))) (.cons (.bin .add (.v 2) (.tup (.cons (.int 3000) .nil))) (.cons (.bl false) (.cons (.bl false) .nil))))) .nil)))))
  (.cons (.asg (.v 0) (.bin .add (.v 0) (.lst (.cons (.tup (.cons (.tup (.cons (.int 4) (.cons (.tup .nil) .nil))) (.cons (.v 2) (.cons (.bl false) (.cons (.bl false) .nil))))) (.cons (.tup (.cons (.tup (.cons (.int 3) (.cons (.tup (.cons (.tup (.cons (.int 2997) (.cons (.int 2997) .nil))) .nil)) .nil))) (.cons (.v 2) (.cons (.bl true) (.cons (.bl true) .nil))))) .nil)))))
  (.cons (.asg (.v 0) (.bin .add (.v 0) (.lst (.cons (.tup (.cons (.tup (.cons (.int 3) (.cons (.tup (.cons (.tup (.cons (.int 2998) (.cons (.v 1) .nil))) .nil)) .nil))) (.cons (.v 2) (.cons (.bl true) (.cons (.bl false) .nil))))) (.cons (.tup (.cons (.tup (.cons (.int 1) (.cons (.tup .nil) .nil))) (.cons (.tup (.cons (.v 2) .nil)) (.cons (.bl false) (.cons (.bl false) .nil))))) .nil)))))
  (.cons (.for_ (.t [5, 6, 7, 8]) (.e (.v 0)) (_law_hand_rightV0_b0 c__law_right c_do_serve c_are_openings))
  (.cons (.ret (.bl true))
  .nil)))))))))))))))))⟩
/-- law(0 _law_script, 1 _law_k, 2 _law_some, 3 _law_few, 4 _law_m, 5 _law_plan_so, 6 _law_row, 7 _law_again) -/
def lawV1_b0 (c__law_hand_right : Nat) (c__law_far_right : Nat) (c__law_right : Nat) (c__law_bent : Nat) (c__law_of : Nat) (c__law_plan : Nat) (c__law_begun : Nat) (c__law_rows : Nat) (c__law_odds : Nat) : CSs := (.cons (.ite (.not (.call c__law_right (.cons (.v 5) (.cons (.call c__law_bent (.cons (.v 4) (.cons (.call c__law_of (.cons (.v 4) (.cons (.v 3) .nil))) (.cons (.v 2) .nil)))) .nil)))) (.cons (.ret (.bl false))
  .nil) .nil)
  .nil)
def lawV1_b1 (c__law_hand_right : Nat) (c__law_far_right : Nat) (c__law_right : Nat) (c__law_bent : Nat) (c__law_of : Nat) (c__law_plan : Nat) (c__law_begun : Nat) (c__law_rows : Nat) (c__law_odds : Nat) : CSs := (.cons (.ite (.not (.call c__law_right (.cons (.v 5) (.cons (.v 6) .nil)))) (.cons (.ret (.bl false))
  .nil) .nil)
  .nil)
def lawV1_b2 (c__law_hand_right : Nat) (c__law_far_right : Nat) (c__law_right : Nat) (c__law_bent : Nat) (c__law_of : Nat) (c__law_plan : Nat) (c__law_begun : Nat) (c__law_rows : Nat) (c__law_odds : Nat) : CSs := (.cons (.asg (.v 4) (.call c__law_begun (.cons (.v 0) (.cons (.v 1) .nil))))
  (.cons (.asg (.v 5) (.call c__law_plan (.cons (.v 4) (.cons (.int 6) (.cons (.int 4) .nil)))))
  (.cons (.for_ (.v 6) (.e (.bin .add (.bin .add (.v 3) (.v 2)) (.lst (.cons (.b1 .list (.call c__law_of (.cons (.v 4) (.cons (.v 3) .nil)))) (.cons (.v 3) .nil))))) (lawV1_b1 c__law_hand_right c__law_far_right c__law_right c__law_bent c__law_of c__law_plan c__law_begun c__law_rows c__law_odds))
  (.cons (.for_ (.v 7) (.rg1 (.int 12)) (lawV1_b0 c__law_hand_right c__law_far_right c__law_right c__law_bent c__law_of c__law_plan c__law_begun c__law_rows c__law_odds))
  (.cons (.ite (.or (.cons (.not (.call c__law_right (.cons (.v 5) (.cons (.v 5) .nil)))) (.cons (.not (.call c__law_far_right (.cons (.v 4) (.cons (.v 2) .nil)))) .nil))) (.cons (.ret (.bl false))
  .nil) .nil)
  .nil)))))
def lawV1 (c__law_hand_right : Nat) (c__law_far_right : Nat) (c__law_right : Nat) (c__law_bent : Nat) (c__law_of : Nat) (c__law_plan : Nat) (c__law_begun : Nat) (c__law_rows : Nat) (c__law_odds : Nat) : Fn := ⟨1, 8, (.cons (.par [2, 3] (.cons (.call c__law_odds .nil) (.cons (.call c__law_rows (.cons (.int 1) (.cons (.int 6) .nil))) .nil)))
  (.cons (.for_ (.v 1) (.rg1 (.bin .add (.int 1) (.b2 .min (.b1 .len (.v 0)) (.int 4)))) (lawV1_b2 c__law_hand_right c__law_far_right c__law_right c__law_bent c__law_of c__law_plan c__law_begun c__law_rows c__law_odds))
  (.cons (.ret (.call c__law_hand_right .nil))
  .nil)))⟩
/-- steps_from(0 plan, 1 day) -/
def steps_from (c_next_layer : Nat) (c_is_integer : Nat) (c_need_plan : Nat) : Fn := ⟨2, 2, (.cons (.ex (.call c_need_plan (.cons (.v 0) .nil)))
  (.cons (.ite (.not (.call c_is_integer (.cons (.v 1) (.cons (.int 0) (.cons (.gI "MOST_DAY" 1000000000000000000000000000000) .nil))))) (.cons .nev
  .nil) .nil)
  (.cons (.ret (.call c_next_layer (.cons (.v 0) (.cons (.tup (.cons (.tup (.cons (.v 1) (.cons (.v 1) .nil))) .nil)) (.cons .non .nil)))))
  .nil)))⟩
/-- _law_step(0 _law_plan_so, 1 _law_day, 2 _law_ends, 3 _law_low, 4 _law_high, 5 _law_first, 6 _law_last) -/
def _law_step_c0 : CE := (.lcp [5, 6] (.v 6) (.t [5, 6]) (.e (.idx (.v 0) (.int 1))) (.yes (.cmp .gt (.v 5) (.v 1))))
def _law_step : Fn := ⟨2, 7, (.cons (.asg (.v 2) (_law_step_c0))
  (.cons (.par [3, 4] (.cons (.bin .add (.v 1) (.idx (.v 0) (.int 0))) (.cons (.b1 .minL (.bin .add (.v 2) (.lst (.cons (.bin .pow (.int 10) (.int 30)) .nil)))) .nil)))
  (.cons (.ret (.ite (.cmp .le (.v 3) (.v 4)) (.tup (.cons (.tup (.cons (.v 3) (.cons (.v 4) .nil))) .nil)) (.tup .nil)))
  .nil)))⟩
/-- _law_united(0 _law_pairs, 1 _law_found, 2 _law_low, 3 _law_high) -/
def _law_united_b0 : CSs := (.cons (.ite (.and (.cons (.cmp .ne (.v 1) (.lst .nil)) (.cons (.cmp .le (.v 2) (.bin .add (.idx (.idx (.v 1) (.neg (.int 1))) (.int 1)) (.int 1))) .nil))) (.cons (.seti 1 (.neg (.int 1)) (.tup (.cons (.idx (.idx (.v 1) (.neg (.int 1))) (.int 0)) (.cons (.b2 .max (.idx (.idx (.v 1) (.neg (.int 1))) (.int 1)) (.v 3)) .nil))))
  .nil) (.cons (.app 1 (.tup (.cons (.v 2) (.cons (.v 3) .nil))))
  .nil))
  .nil)
def _law_united : Fn := ⟨1, 4, (.cons (.asg (.v 1) (.lst .nil))
  (.cons (.for_ (.t [2, 3]) (.e (.b1 .sorted (.v 0))) (_law_united_b0))
  (.cons (.ret (.b1 .tuple (.v 1)))
  .nil)))⟩
/-- _law_beyond(0 _law_plan_so, 1 _law_pairs, 2 _law_found, 3 _law_low, 4 _law_high, 5 _law_begins, 6 _law_begin, 7 _law_first, 8 _law_last) -/
def _law_beyond_b0 (c__law_united : Nat) (c__law_step : Nat) : CSs := (.cons (.asg (.v 2) (.bin .add (.v 2) (.b1 .list (.call c__law_step (.cons (.v 0) (.cons (.v 6) .nil))))))
  .nil)
def _law_beyond_c0 (c__law_united : Nat) (c__law_step : Nat) : CE := (.lcp [7, 8] (.v 7) (.t [7, 8]) (.e (.idx (.v 0) (.int 1))) (.yes (.ch2 .lt .le (.v 3) (.v 7) (.v 4))))
def _law_beyond_b1 (c__law_united : Nat) (c__law_step : Nat) : CSs := (.cons (.asg (.v 5) (.bin .add (.lst (.cons (.v 3) .nil)) (_law_beyond_c0 c__law_united c__law_step)))
  (.cons (.for_ (.v 6) (.e (.v 5)) (_law_beyond_b0 c__law_united c__law_step))
  .nil))
def _law_beyond (c__law_united : Nat) (c__law_step : Nat) : Fn := ⟨2, 9, (.cons (.asg (.v 2) (.lst .nil))
  (.cons (.for_ (.t [3, 4]) (.e (.v 1)) (_law_beyond_b1 c__law_united c__law_step))
  (.cons (.ret (.call c__law_united (.cons (.v 2) .nil)))
  .nil)))⟩
/-- _law_is_step(0 _law_plan_so, 1 _law_one, 2 _law_other) -/
def _law_is_step (c__law_between : Nat) : Fn := ⟨3, 3, (.cons (.ret (.and (.cons (.ch2 .le .le (.int 0) (.v 2) (.bin .pow (.int 10) (.int 30))) (.cons (.cmp .ge (.bin .sub (.v 2) (.v 1)) (.idx (.v 0) (.int 0))) (.cons (.not (.call c__law_between (.cons (.v 0) (.cons (.v 1) (.cons (.v 2) .nil))))) .nil)))))
  .nil)⟩
/-- _law_come(0 _law_plan_so, 1 _law_now, 2 _law_days_so, 3 _law_found, 4 _law_day, 5 _law_one) -/
def _law_come_c0 (c__law_is_step : Nat) : CE := (.lcp [5] (.v 5) (.v 5) (.e (.v 1)) (.yes (.call c__law_is_step (.cons (.v 0) (.cons (.v 5) (.cons (.v 4) .nil))))))
def _law_come_b0 (c__law_is_step : Nat) : CSs := (.cons (.ite (.cmp .ne (_law_come_c0 c__law_is_step) (.lst .nil)) (.cons (.app 3 (.v 4))
  .nil) .nil)
  .nil)
def _law_come (c__law_is_step : Nat) : Fn := ⟨3, 6, (.cons (.asg (.v 3) (.lst .nil))
  (.cons (.for_ (.v 4) (.e (.v 2)) (_law_come_b0 c__law_is_step))
  (.cons (.ret (.v 3))
  .nil)))⟩
/-- _law_borders(0 _law_plan_so, 1 _law_found, 2 _law_first, 3 _law_last, 4 _law_day) -/
def _law_borders_c0 : CE := (.lcp [4] (.v 4) (.v 4) (.e (.v 1)) (.yes (.ch2 .le .le (.int 0) (.v 4) (.bin .pow (.int 10) (.int 30)))))
def _law_borders_b0 : CSs := (.cons (.asg (.v 1) (.bin .add (.v 1) (.lst (.cons (.bin .sub (.v 4) (.int 1)) (.cons (.v 4) (.cons (.bin .add (.v 4) (.int 1)) .nil))))))
  .nil)
def _law_borders_b1 : CSs := (.cons (.for_ (.v 4) (.e (.tup (.cons (.v 2) (.cons (.v 3) (.cons (.bin .sub (.v 3) (.idx (.v 0) (.int 0))) .nil))))) (_law_borders_b0))
  .nil)
def _law_borders : Fn := ⟨1, 5, (.cons (.asg (.v 1) (.lst (.cons (.int 0) (.cons (.int 1) (.cons (.idx (.v 0) (.int 0)) (.cons (.bin .sub (.bin .pow (.int 10) (.int 30)) (.idx (.v 0) (.int 0))) (.cons (.bin .add (.bin .sub (.bin .pow (.int 10) (.int 30)) (.idx (.v 0) (.int 0))) (.int 1)) (.cons (.bin .sub (.bin .pow (.int 10) (.int 30)) (.int 1)) (.cons (.bin .pow (.int 10) (.int 30)) .nil)))))))))
  (.cons (.for_ (.t [2, 3]) (.e (.idx (.v 0) (.int 1))) (_law_borders_b1))
  (.cons (.ret (.b1 .sset (_law_borders_c0)))
  .nil)))⟩
/-- _law_steps_right(0 _law_plan_so, 1 _law_days_so, 2 _law_day, 3 _law_due, 4 _law_told_so, 5 _law_there) -/
def _law_steps_right_b0 (c__law_is_in : Nat) (c__law_is_step : Nat) (c__law_are_ranges : Nat) (c_steps_from : Nat) (c__law_step : Nat) : CSs := (.cons (.ite (.cmp .ne (.call c__law_is_in (.cons (.idx (.v 4) (.int 0)) (.cons (.v 5) .nil))) (.call c__law_is_step (.cons (.v 0) (.cons (.v 2) (.cons (.v 5) .nil))))) (.cons (.ret (.bl false))
  .nil) .nil)
  .nil)
def _law_steps_right_b1 (c__law_is_in : Nat) (c__law_is_step : Nat) (c__law_are_ranges : Nat) (c_steps_from : Nat) (c__law_step : Nat) : CSs := (.cons (.asg (.v 3) (.call c__law_step (.cons (.v 0) (.cons (.v 2) .nil))))
  (.cons (.asg (.v 4) (.lst (.cons (.call c_steps_from (.cons (.v 0) (.cons (.v 2) .nil))) (.cons (.call c_steps_from (.cons (.v 0) (.cons (.v 2) .nil))) .nil))))
  (.cons (.ite (.or (.cons (.cmp .ne (.b1 .repr (.v 4)) (.b1 .repr (.lst (.cons (.v 3) (.cons (.v 3) .nil))))) (.cons (.not (.call c__law_are_ranges (.cons (.idx (.v 4) (.int 0)) .nil))) .nil))) (.cons (.ret (.bl false))
  .nil) .nil)
  (.cons (.for_ (.v 5) (.e (.bin .add (.v 1) (.lst (.cons (.bin .add (.v 2) (.idx (.v 0) (.int 0))) (.cons (.bin .sub (.bin .add (.v 2) (.idx (.v 0) (.int 0))) (.int 1)) .nil))))) (_law_steps_right_b0 c__law_is_in c__law_is_step c__law_are_ranges c_steps_from c__law_step))
  .nil))))
def _law_steps_right (c__law_is_in : Nat) (c__law_is_step : Nat) (c__law_are_ranges : Nat) (c_steps_from : Nat) (c__law_step : Nat) : Fn := ⟨2, 6, (.cons (.for_ (.v 2) (.e (.v 1)) (_law_steps_right_b1 c__law_is_in c__law_is_step c__law_are_ranges c_steps_from c__law_step))
  (.cons (.ret (.bl true))
  .nil))⟩
/-- _law_layers_right(0 _law_plan_so, 1 _law_many, 2 _law_due, 3 _law_turn, 4 _law_told_so, 5 _law_first, 6 _law_last) -/
def _law_layers_right_b0 (c__law_beyond : Nat) (c__law_are_ranges : Nat) (c_layer : Nat) : CSs := (.cons (.asg (.v 4) (.lst (.cons (.call c_layer (.cons (.v 0) (.cons (.v 3) .nil))) (.cons (.call c_layer (.cons (.v 0) (.cons (.v 3) .nil))) .nil))))
  (.cons (.ite (.or (.cons (.cmp .ne (.b1 .repr (.v 4)) (.b1 .repr (.lst (.cons (.v 2) (.cons (.v 2) .nil))))) (.cons (.not (.call c__law_are_ranges (.cons (.idx (.v 4) (.int 0)) .nil))) .nil))) (.cons (.ret (.bl false))
  .nil) .nil)
  (.cons (.asg (.v 2) (.call c__law_beyond (.cons (.v 0) (.cons (.v 2) .nil))))
  .nil)))
def _law_layers_right_c0 (c__law_beyond : Nat) (c__law_are_ranges : Nat) (c_layer : Nat) : CE := (.lcp [5, 6] (.v 6) (.t [5, 6]) (.e (.idx (.v 0) (.int 1))) .no)
def _law_layers_right (c__law_beyond : Nat) (c__law_are_ranges : Nat) (c_layer : Nat) : Fn := ⟨2, 7, (.cons (.asg (.v 2) (.tup (.cons (.tup (.cons (.int 0) (.cons (.b1 .minL (.bin .add (_law_layers_right_c0 c__law_beyond c__law_are_ranges c_layer) (.lst (.cons (.bin .pow (.int 10) (.int 30)) .nil)))) .nil))) .nil)))
  (.cons (.for_ (.v 3) (.rg2 (.int 1) (.bin .add (.v 1) (.int 1))) (_law_layers_right_b0 c__law_beyond c__law_are_ranges c_layer))
  (.cons (.ret (.bl true))
  .nil)))⟩
/-- _law_near_right(0 _law_plan_so, 1 _law_most, 2 _law_many, 3 _law_days_so, 4 _law_now, 5 _law_turn, 6 _law_told_so, 7 _law_day) -/
def _law_near_rightV0_c0 (c__law_come : Nat) (c__law_is_in : Nat) (c_layer : Nat) (c__law_is_first : Nat) : CE := (.lcp [7] (.v 7) (.v 7) (.e (.v 3)) (.yes (.call c__law_is_in (.cons (.v 6) (.cons (.v 7) .nil)))))
def _law_near_rightV0_b0 (c__law_come : Nat) (c__law_is_in : Nat) (c_layer : Nat) (c__law_is_first : Nat) : CSs := (.cons (.asg (.v 6) (.call c_layer (.cons (.v 0) (.cons (.v 5) .nil))))
  (.cons (.ite (.cmp .ne (_law_near_rightV0_c0 c__law_come c__law_is_in c_layer c__law_is_first) (.v 4)) (.cons (.ret (.bl false))
  .nil) .nil)
  (.cons (.asg (.v 4) (.call c__law_come (.cons (.v 0) (.cons (.v 4) (.cons (.v 3) .nil)))))
  .nil)))
def _law_near_rightV0_c1 (c__law_come : Nat) (c__law_is_in : Nat) (c_layer : Nat) (c__law_is_first : Nat) : CE := (.lcp [7] (.v 7) (.v 7) (.e (.v 3)) (.yes (.call c__law_is_first (.cons (.v 0) (.cons (.v 7) .nil)))))
def _law_near_rightV0 (c__law_come : Nat) (c__law_is_in : Nat) (c_layer : Nat) (c__law_is_first : Nat) : Fn := ⟨3, 8, (.cons (.asg (.v 3) (.lrg (.bin .add (.v 1) (.int 1))))
  (.cons (.asg (.v 4) (_law_near_rightV0_c1 c__law_come c__law_is_in c_layer c__law_is_first))
  (.cons (.for_ (.v 5) (.rg2 (.int 1) (.bin .add (.v 2) (.int 1))) (_law_near_rightV0_b0 c__law_come c__law_is_in c_layer c__law_is_first))
  (.cons (.ret (.bl true))
  .nil))))⟩
/-- _law_hand(0 _law_told_so, 1 _law_due, 2 _law_wide, 3 _law_two, 4 _law_full, 5 _law_day, 6 _law_number, 7 _law_k) -/
def _law_handV1_c0 (c_steps_from : Nat) (c__law_layers_right : Nat) (c_layer : Nat) : CE := (.lcp [5] (.call c_steps_from (.cons (.tup (.cons (.int 3) (.cons (.v 3) .nil))) (.cons (.v 5) .nil))) (.v 5) (.e (.tup (.cons (.int 0) (.cons (.int 3) (.cons (.int 4) (.cons (.int 6) (.cons (.int 9) .nil))))))) .no)
def _law_handV1_c1 (c_steps_from : Nat) (c__law_layers_right : Nat) (c_layer : Nat) : CE := (.lcp [6] (.call c_layer (.cons (.tup (.cons (.int 3) (.cons (.v 3) .nil))) (.cons (.v 6) .nil))) (.v 6) (.e (.tup (.cons (.int 1) (.cons (.int 2) (.cons (.int 3) .nil))))) .no)
def _law_handV1_c2 (c_steps_from : Nat) (c__law_layers_right : Nat) (c_layer : Nat) : CE := (.lcp [7] (.tup (.cons (.bin .mul (.int 2) (.v 7)) (.cons (.bin .add (.bin .mul (.int 2) (.v 7)) (.int 1)) .nil))) (.v 7) (.rg1 (.int 30)) .no)
def _law_handV1 (c_steps_from : Nat) (c__law_layers_right : Nat) (c_layer : Nat) : Fn := ⟨0, 8, (.cons (.par [3, 4] (.cons (.tup (.cons (.tup (.cons (.int 4) (.cons (.int 5) .nil))) (.cons (.tup (.cons (.int 9) (.cons (.int 9) .nil))) .nil))) (.cons (.b1 .tuple (_law_handV1_c2 c_steps_from c__law_layers_right c_layer)) .nil)))
  (.cons (.asg (.v 0) (.bin .add (_law_handV1_c1 c_steps_from c__law_layers_right c_layer) (.lst (.cons (.call c_layer (.cons (.tup (.cons (.int 2) (.cons (.v 3) .nil))) (.cons (.int 2) .nil))) .nil))))
  (.cons (.asg (.v 1) (.lst (.cons (.tup (.cons (.tup (.cons (.int 0) (.cons (.int 5) .nil))) .nil)) (.cons (.tup (.cons (.tup (.cons (.int 3) (.cons (.int 5) .nil))) (.cons (.tup (.cons (.int 7) (.cons (.int 9) .nil))) .nil))) (.cons (.tup (.cons (.tup (.cons (.int 7) (.cons (.int 9) .nil))) (.cons (.tup (.cons (.int 12) (.cons (.bin .pow (.int 10) (.int 30)) .nil))) .nil))) (.cons (.tup (.cons (.tup (.cons (.int 2) (.cons (.int 9) .nil))) .nil)) .nil))))))
  (.cons (.ite (.cmp .ne (.b1 .repr (.v 0)) (.b1 .repr (.v 1))) (.cons (.ret (.bl false))
  .nil) .nil)
  (.cons (.asg (.v 0) (_law_handV1_c0 c_steps_from c__law_layers_right c_layer))
  (.cons (.ite (.cmp .ne (.b1 .repr (.v 0)) (.b1 .repr (.lst (.cons (.tup (.cons (.tup (.cons (.int 3) (.cons (.int 5) .nil))) .nil)) (.cons (.tup .nil) (.cons (.tup (.cons (.tup (.cons (.int 7) (.cons (.int 9) .nil))) .nil)) (.cons (.tup (.cons (.tup (.cons (.int 9) (.cons (.int 9) .nil))) .nil)) (.cons (.tup (.cons (.tup (.cons (.int 12) (.cons (.bin .pow (.int 10) (.int 30)) .nil))) .nil)) .nil)))))))) (.cons (.ret (.bl false))
  .nil) .nil)
  (.cons (.ite (.cmp .ne (.b1 .repr (.lst (.cons (.call c_layer (.cons (.tup (.cons (.int 1) (.cons (.v 4) .nil))) (.cons (.int 30) .nil))) (.cons (.call c_layer (.cons (.tup (.cons (.int 1) (.cons (.v 4) .nil))) (.cons (.int 31) .nil))) .nil)))) (.b1 .repr (.lst (.cons (.tup (.cons (.tup (.cons (.int 29) (.cons (.int 59) .nil))) .nil)) (.cons (.tup (.cons (.tup (.cons (.int 30) (.cons (.bin .pow (.int 10) (.int 30)) .nil))) .nil)) .nil))))) (.cons (.ret (.bl false))
  .nil) .nil)
  (.cons (.asg (.v 2) (.bin .add (.bin .pow (.int 10) (.int 27)) (.int 7)))
  (.cons (.asg (.v 0) (.lst (.cons (.call c_layer (.cons (.tup (.cons (.int 1) (.cons (.tup .nil) .nil))) (.cons (.int 1000) .nil))) (.cons (.call c_layer (.cons (.tup (.cons (.v 2) (.cons (.tup .nil) .nil))) (.cons (.int 1000) .nil))) (.cons (.call c_layer (.cons (.tup (.cons (.bin .pow (.int 10) (.int 30)) (.cons (.tup .nil) .nil))) (.cons (.int 2) .nil))) (.cons (.call c_layer (.cons (.tup (.cons (.bin .pow (.int 10) (.int 30)) (.cons (.tup .nil) .nil))) (.cons (.int 3) .nil))) .nil))))))
  (.cons (.asg (.v 1) (.lst (.cons (.tup (.cons (.tup (.cons (.int 999) (.cons (.bin .pow (.int 10) (.int 30)) .nil))) .nil)) (.cons (.tup (.cons (.tup (.cons (.bin .mul (.int 999) (.v 2)) (.cons (.bin .pow (.int 10) (.int 30)) .nil))) .nil)) (.cons (.tup (.cons (.tup (.cons (.bin .pow (.int 10) (.int 30)) (.cons (.bin .pow (.int 10) (.int 30)) .nil))) .nil)) (.cons (.tup .nil) .nil))))))
  (.cons (.ite (.or (.cons (.cmp .ne (.b1 .repr (.v 0)) (.b1 .repr (.v 1))) (.cons (.not (.call c__law_layers_right (.cons (.tup (.cons (.int 1) (.cons (.v 4) .nil))) (.cons (.int 5) .nil)))) .nil))) (.cons (.ret (.bl false))
  .nil) .nil)
  (.cons (.asg (.v 0) (.lst (.cons (.call c_steps_from (.cons (.tup (.cons (.int 1) (.cons (.tup .nil) .nil))) (.cons (.bin .pow (.int 10) (.int 30)) .nil))) (.cons (.call c_steps_from (.cons (.tup (.cons (.bin .pow (.int 10) (.int 30)) (.cons (.tup .nil) .nil))) (.cons (.int 0) .nil))) (.cons (.call c_steps_from (.cons (.tup (.cons (.bin .pow (.int 10) (.int 30)) (.cons (.tup .nil) .nil))) (.cons (.int 1) .nil))) .nil)))))
  (.cons (.ret (.cmp .eq (.b1 .repr (.v 0)) (.b1 .repr (.lst (.cons (.tup .nil) (.cons (.tup (.cons (.tup (.cons (.bin .pow (.int 10) (.int 30)) (.cons (.bin .pow (.int 10) (.int 30)) .nil))) .nil)) (.cons (.tup .nil) .nil)))))))
  .nil)))))))))))))⟩
/-- law(0 _law_script, 1 _law_k, 2 _law_m, 3 _law_kept, 4 _law_plan_so, 5 _law_near, 6 _law_far) -/
def lawV4_b0 (c__law_hand : Nat) (c__law_steps_right : Nat) (c__law_borders : Nat) (c__law_layers_right : Nat) (c__law_near_right : Nat) (c__law_far_plan : Nat) (c__law_plan : Nat) (c__law_begun : Nat) : CSs := (.cons (.ite (.not (.call c__law_layers_right (.cons (.v 4) (.cons (.bin .add (.b1 .len (.idx (.v 4) (.int 1))) (.int 3)) .nil)))) (.cons (.ret (.bl false))
  .nil) .nil)
  (.cons (.ite (.not (.call c__law_steps_right (.cons (.v 4) (.cons (.call c__law_borders (.cons (.v 4) .nil)) .nil)))) (.cons (.ret (.bl false))
  .nil) .nil)
  .nil))
def lawV4_b1 (c__law_hand : Nat) (c__law_steps_right : Nat) (c__law_borders : Nat) (c__law_layers_right : Nat) (c__law_near_right : Nat) (c__law_far_plan : Nat) (c__law_plan : Nat) (c__law_begun : Nat) : CSs := (.cons (.asg (.v 2) (.call c__law_begun (.cons (.v 0) (.cons (.v 1) .nil))))
  (.cons (.par [5, 6] (.cons (.call c__law_plan (.cons (.v 2) (.cons (.int 12) (.cons (.int 6) .nil)))) (.cons (.call c__law_far_plan (.cons (.v 2) (.cons (.int 6) .nil))) .nil)))
  (.cons (.asg (.v 3) (.b1 .repr (.lst (.cons (.v 5) (.cons (.v 6) .nil)))))
  (.cons (.ite (.or (.cons (.not (.call c__law_near_right (.cons (.v 5) (.cons (.int 18) (.cons (.bin .add (.b1 .len (.idx (.v 5) (.int 1))) (.int 3)) .nil))))) (.cons (.not (.call c__law_steps_right (.cons (.v 5) (.cons (.lrg (.int 16)) .nil)))) .nil))) (.cons (.ret (.bl false))
  .nil) .nil)
  (.cons (.for_ (.v 4) (.e (.tup (.cons (.v 5) (.cons (.v 6) .nil)))) (lawV4_b0 c__law_hand c__law_steps_right c__law_borders c__law_layers_right c__law_near_right c__law_far_plan c__law_plan c__law_begun))
  (.cons (.ite (.cmp .ne (.b1 .repr (.lst (.cons (.v 5) (.cons (.v 6) .nil)))) (.v 3)) (.cons (.ret (.bl false))
  .nil) .nil)
  .nil))))))
def lawV4 (c__law_hand : Nat) (c__law_steps_right : Nat) (c__law_borders : Nat) (c__law_layers_right : Nat) (c__law_near_right : Nat) (c__law_far_plan : Nat) (c__law_plan : Nat) (c__law_begun : Nat) : Fn := ⟨1, 7, (.cons (.for_ (.v 1) (.rg1 (.bin .add (.int 1) (.b2 .min (.b1 .len (.v 0)) (.int 4)))) (lawV4_b1 c__law_hand c__law_steps_right c__law_borders c__law_layers_right c__law_near_right c__law_far_plan c__law_plan c__law_begun))
  (.cons (.ret (.call c__law_hand .nil))
  .nil))⟩
/-- back_layer(0 plan, 1 ranges, 2 found, 3 low, 4 high, 5 most, 6 below) -/
def back_layer_b0 (c_joined : Nat) (c_segments : Nat) (c_common : Nat) : CSs := (.cons (.asg (.v 6) (.call c_common (.cons (.v 1) (.cons (.tup (.cons (.tup (.cons (.int 0) (.cons (.v 5) .nil))) .nil)) .nil))))
  (.cons (.ite (.cmp .ne (.v 6) (.tup .nil)) (.cons (.app 2 (.tup (.cons (.v 3) (.cons (.b2 .min (.v 4) (.bin .sub (.idx (.idx (.v 6) (.neg (.int 1))) (.int 1)) (.idx (.v 0) (.int 0)))) .nil))))
  .nil) .nil)
  .nil))
def back_layer (c_joined : Nat) (c_segments : Nat) (c_common : Nat) : Fn := ⟨2, 7, (.cons (.asg (.v 2) (.lst .nil))
  (.cons (.for_ (.t [3, 4, 5]) (.e (.call c_segments (.cons (.v 0) .nil))) (back_layer_b0 c_joined c_segments c_common))
  (.cons (.ret (.call c_joined (.cons (.v 2) .nil)))
  .nil)))⟩
/-- back_to(0 plan, 1 many, 2 found) -/
def back_to_b0 (c_back_layer : Nat) (c_goal_of : Nat) : CSs := (.cons (.app 2 (.call c_back_layer (.cons (.v 0) (.cons (.idx (.v 2) (.neg (.int 1))) .nil))))
  .nil)
def back_to (c_back_layer : Nat) (c_goal_of : Nat) : Fn := ⟨2, 3, (.cons (.asg (.v 2) (.lst (.cons (.call c_goal_of (.cons (.v 0) .nil)) .nil)))
  (.cons (.whl (.cmp .lt (.b1 .len (.v 2)) (.v 1)) (back_to_b0 c_back_layer c_goal_of))
  (.cons (.ret (.slc (.v 2) .no (.yes (.v 1))))
  .nil)))⟩
/-- all_backs(0 plan, 1 ranges, 2 pair) -/
def all_backs_c0 (c_joined : Nat) (c_back_to : Nat) : CE := (.lc2 [1, 2] [2] (.v 2) (.v 1) (.e (.call c_back_to (.cons (.v 0) (.cons (.bin .add (.b1 .len (.idx (.v 0) (.int 1))) (.int 1)) .nil)))) .no (.v 2) (.v 1) .no)
def all_backs (c_joined : Nat) (c_back_to : Nat) : Fn := ⟨1, 3, (.cons (.ret (.call c_joined (.cons (all_backs_c0 c_joined c_back_to) .nil)))
  .nil)⟩
/-- need_fewest(0 plan, 1 many) -/
def need_fewest (c_fewest_in : Nat) : Fn := ⟨1, 2, (.cons (.asg (.v 1) (.call c_fewest_in (.cons (.v 0) (.cons .non .nil))))
  (.cons (.ite (.isN (.v 1)) (.cons .nev
  .nil) .nil)
  (.cons (.ret (.v 1))
  .nil)))⟩
/-- need_days(0 plan, 1 first, 2 last) -/
def need_days (c_need_fewest : Nat) (c_is_integer : Nat) (c_need_plan : Nat) : Fn := ⟨3, 3, (.cons (.ex (.call c_need_plan (.cons (.v 0) .nil)))
  (.cons (.ite (.not (.call c_is_integer (.cons (.v 1) (.cons (.int 0) (.cons (.gI "MOST_DAY" 1000000000000000000000000000000) .nil))))) (.cons .nev
  .nil) .nil)
  (.cons (.ite (.not (.call c_is_integer (.cons (.v 2) (.cons (.v 1) (.cons (.gI "MOST_DAY" 1000000000000000000000000000000) .nil))))) (.cons .nev
  .nil) .nil)
  (.cons (.ex (.call c_need_fewest (.cons (.v 0) .nil)))
  .nil))))⟩
/-- can_open(0 plan, 1 first, 2 last) -/
def can_open (c_common : Nat) (c_all_backs : Nat) (c_all_heads : Nat) (c_need_days : Nat) : Fn := ⟨3, 3, (.cons (.ex (.call c_need_days (.cons (.v 0) (.cons (.v 1) (.cons (.v 2) .nil)))))
  (.cons (.ret (.cmp .ne (.call c_common (.cons (.call c_common (.cons (.call c_all_heads (.cons (.v 0) (.cons .non .nil))) (.cons (.call c_all_backs (.cons (.v 0) .nil)) .nil))) (.cons (.tup (.cons (.tup (.cons (.v 1) (.cons (.v 2) .nil))) .nil)) .nil))) (.tup .nil)))
  .nil))⟩
/-- must_open(0 plan, 1 first, 2 last) -/
def must_open (c_fewest_in : Nat) (c_need_days : Nat) : Fn := ⟨3, 3, (.cons (.ex (.call c_need_days (.cons (.v 0) (.cons (.v 1) (.cons (.v 2) .nil)))))
  (.cons (.ret (.isN (.call c_fewest_in (.cons (.v 0) (.cons (.tup (.cons (.v 1) (.cons (.v 2) .nil))) .nil)))))
  .nil))⟩
/-- needless(0 plan, 1 found, 2 number, 3 work) -/
def needless_b0 (c_fewest_in : Nat) (c_need_fewest : Nat) (c_need_plan : Nat) : CSs := (.cons (.ite (.isN (.call c_fewest_in (.cons (.tup (.cons (.idx (.v 0) (.int 0)) (.cons (.bin .add (.slc (.idx (.v 0) (.int 1)) .no (.yes (.v 2))) (.slc (.idx (.v 0) (.int 1)) (.yes (.bin .add (.v 2) (.int 1))) .no)) .nil))) (.cons (.v 3) .nil)))) (.cons (.app 1 (.v 2))
  .nil) .nil)
  .nil)
def needless (c_fewest_in : Nat) (c_need_fewest : Nat) (c_need_plan : Nat) : Fn := ⟨1, 4, (.cons (.ex (.call c_need_fewest (.cons (.call c_need_plan (.cons (.v 0) .nil)) .nil)))
  (.cons (.asg (.v 1) (.lst .nil))
  (.cons (.for_ (.t [2, 3]) (.enu (.idx (.v 0) (.int 1))) (needless_b0 c_fewest_in c_need_fewest c_need_plan))
  (.cons (.ret (.b1 .tuple (.v 1)))
  .nil))))⟩
/-- _law_serves(0 _law_plan_so, 1 _law_days, 2 _law_first, 3 _law_last, 4 _law_day) -/
def _law_servesV1_c0 : CE := (.lcp [4] (.v 4) (.v 4) (.e (.v 1)) (.yes (.ch2 .le .le (.v 2) (.v 4) (.v 3))))
def _law_servesV1_b0 : CSs := (.cons (.ite (.cmp .eq (_law_servesV1_c0) (.lst .nil)) (.cons (.ret (.bl false))
  .nil) .nil)
  .nil)
def _law_servesV1 : Fn := ⟨2, 5, (.cons (.for_ (.t [2, 3]) (.e (.idx (.v 0) (.int 1))) (_law_servesV1_b0))
  (.cons (.ret (.bl true))
  .nil))⟩
/-- _law_needless(0 _law_plan_so, 1 _law_rows_here, 2 _law_found, 3 _law_number, 4 _law_rest, 5 _law_some, 6 _law_row) -/
def _law_needless_c0 (c__law_serves : Nat) : CE := (.lcp [6] (.v 6) (.v 6) (.e (.v 5)) (.yes (.not (.call c__law_serves (.cons (.v 0) (.cons (.v 6) .nil))))))
def _law_needless_c1 (c__law_serves : Nat) : CE := (.lcp [6] (.v 6) (.v 6) (.e (.v 1)) (.yes (.call c__law_serves (.cons (.v 4) (.cons (.v 6) .nil)))))
def _law_needless_b0 (c__law_serves : Nat) : CSs := (.cons (.asg (.v 4) (.tup (.cons (.idx (.v 0) (.int 0)) (.cons (.bin .add (.slc (.idx (.v 0) (.int 1)) .no (.yes (.v 3))) (.slc (.idx (.v 0) (.int 1)) (.yes (.bin .add (.v 3) (.int 1))) .no)) .nil))))
  (.cons (.asg (.v 5) (_law_needless_c1 c__law_serves))
  (.cons (.ite (.cmp .eq (_law_needless_c0 c__law_serves) (.lst .nil)) (.cons (.app 2 (.v 3))
  .nil) .nil)
  .nil)))
def _law_needless (c__law_serves : Nat) : Fn := ⟨2, 7, (.cons (.asg (.v 2) (.lst .nil))
  (.cons (.for_ (.v 3) (.rg1 (.b1 .len (.idx (.v 0) (.int 1)))) (_law_needless_b0 c__law_serves))
  (.cons (.ret (.b1 .tuple (.v 2)))
  .nil)))⟩
/-- _law_right(0 _law_m, 1 _law_plan_so, 2 _law_rows_here, 3 _law_some, 4 _law_turn, 5 _law_far, 6 _law_due, 7 _law_one, 8 _law_other, 9 _law_has, 10 _law_again, 11 _law_row, 12 _law_day) -/
def _law_rightV4_b0 (c_needless : Nat) (c__law_needless : Nat) (c_must_open : Nat) (c_can_open : Nat) (c__law_draw : Nat) (c__law_of : Nat) (c__law_serves : Nat) : CSs := (.cons (.ite (.cmp .ne (.b1 .repr (.lst (.cons (.call c_can_open (.cons (.v 1) (.cons (.v 7) (.cons (.v 8) .nil)))) (.cons (.call c_must_open (.cons (.v 1) (.cons (.v 7) (.cons (.v 8) .nil)))) .nil)))) (.b1 .repr (.v 6))) (.cons (.ret (.bl false))
  .nil) .nil)
  .nil)
def _law_rightV4_c0 (c_needless : Nat) (c__law_needless : Nat) (c_must_open : Nat) (c_can_open : Nat) (c__law_draw : Nat) (c__law_of : Nat) (c__law_serves : Nat) : CE := (.lcp [12] (.v 12) (.v 12) (.e (.v 11)) (.yes (.ch2 .le .le (.v 7) (.v 12) (.v 8))))
def _law_rightV4_c1 (c_needless : Nat) (c__law_needless : Nat) (c_must_open : Nat) (c_can_open : Nat) (c__law_draw : Nat) (c__law_of : Nat) (c__law_serves : Nat) : CE := (.lcp [11] (.cmp .ne (_law_rightV4_c0 c_needless c__law_needless c_must_open c_can_open c__law_draw c__law_of c__law_serves) (.lst .nil)) (.v 11) (.e (.v 3)) .no)
def _law_rightV4_b1 (c_needless : Nat) (c__law_needless : Nat) (c_must_open : Nat) (c_can_open : Nat) (c__law_draw : Nat) (c__law_of : Nat) (c__law_serves : Nat) : CSs := (.cons (.asg (.v 7) (.call c__law_draw (.cons (.v 0) (.cons (.int 9) .nil))))
  (.cons (.asg (.v 8) (.b2 .min (.int 8) (.bin .add (.v 7) (.call c__law_of (.cons (.v 0) (.cons (.lst (.cons (.int 0) (.cons (.int 0) (.cons (.int 1) (.cons (.int 2) (.cons (.int 5) .nil)))))) .nil))))))
  (.cons (.asg (.v 9) (_law_rightV4_c1 c_needless c__law_needless c_must_open c_can_open c__law_draw c__law_of c__law_serves))
  (.cons (.asg (.v 6) (.lst (.cons (.cmp .isin (.bl true) (.v 9)) (.cons (.cmp .notin (.bl false) (.v 9)) .nil))))
  (.cons (.for_ (.v 10) (.rg1 (.int 2)) (_law_rightV4_b0 c_needless c__law_needless c_must_open c_can_open c__law_draw c__law_of c__law_serves))
  .nil)))))
def _law_rightV4_c2 (c_needless : Nat) (c__law_needless : Nat) (c_must_open : Nat) (c_can_open : Nat) (c__law_draw : Nat) (c__law_of : Nat) (c__law_serves : Nat) : CE := (.lcp [11] (.v 11) (.v 11) (.e (.v 2)) (.yes (.call c__law_serves (.cons (.v 1) (.cons (.v 11) .nil)))))
def _law_rightV4 (c_needless : Nat) (c__law_needless : Nat) (c_must_open : Nat) (c_can_open : Nat) (c__law_draw : Nat) (c__law_of : Nat) (c__law_serves : Nat) : Fn := ⟨3, 13, (.cons (.asg (.v 3) (_law_rightV4_c2 c_needless c__law_needless c_must_open c_can_open c__law_draw c__law_of c__law_serves))
  (.cons (.for_ (.v 4) (.rg1 (.int 8)) (_law_rightV4_b1 c_needless c__law_needless c_must_open c_can_open c__law_draw c__law_of c__law_serves))
  (.cons (.asg (.v 5) (.bin .add (.int 20) (.call c__law_draw (.cons (.v 0) (.cons (.bin .sub (.bin .pow (.int 10) (.int 30)) (.int 20)) .nil)))))
  (.cons (.ite (.cmp .ne (.lst (.cons (.call c_can_open (.cons (.v 1) (.cons (.v 5) (.cons (.v 5) .nil)))) (.cons (.call c_must_open (.cons (.v 1) (.cons (.v 5) (.cons (.bin .pow (.int 10) (.int 30)) .nil)))) .nil))) (.lst (.cons (.bl true) (.cons (.bl false) .nil)))) (.cons (.ret (.bl false))
  .nil) .nil)
  (.cons (.asg (.v 6) (.call c__law_needless (.cons (.v 1) (.cons (.v 2) .nil))))
  (.cons (.ret (.cmp .eq (.b1 .repr (.lst (.cons (.call c_needless (.cons (.v 1) .nil)) (.cons (.call c_needless (.cons (.v 1) .nil)) .nil)))) (.b1 .repr (.lst (.cons (.v 6) (.cons (.v 6) .nil))))))
  .nil))))))⟩
/-- law(0 _law_script, 1 _law_k, 2 _law_m, 3 _law_turn, 4 _law_plan_so, 5 _law_rows_here, 6 _law_row) -/
def lawV10_c0 (c__law_right : Nat) (c__law_serves : Nat) (c__law_rows : Nat) (c__law_plan : Nat) (c__law_begun : Nat) : CE := (.lcp [6] (.v 6) (.v 6) (.e (.v 5)) (.yes (.call c__law_serves (.cons (.v 4) (.cons (.v 6) .nil)))))
def lawV10_b0 (c__law_right : Nat) (c__law_serves : Nat) (c__law_rows : Nat) (c__law_plan : Nat) (c__law_begun : Nat) : CSs := (.cons (.asg (.v 4) (.call c__law_plan (.cons (.v 2) (.cons (.int 8) (.cons (.int 5) .nil)))))
  (.cons (.asg (.v 5) (.call c__law_rows (.cons (.idx (.v 4) (.int 0)) (.cons (.int 8) .nil))))
  (.cons (.ite (.and (.cons (.cmp .ne (lawV10_c0 c__law_right c__law_serves c__law_rows c__law_plan c__law_begun) (.lst .nil)) (.cons (.not (.call c__law_right (.cons (.v 2) (.cons (.v 4) (.cons (.v 5) .nil))))) .nil))) (.cons (.ret (.bl false))
  .nil) .nil)
  .nil)))
def lawV10_b1 (c__law_right : Nat) (c__law_serves : Nat) (c__law_rows : Nat) (c__law_plan : Nat) (c__law_begun : Nat) : CSs := (.cons (.asg (.v 2) (.call c__law_begun (.cons (.v 0) (.cons (.v 1) .nil))))
  (.cons (.for_ (.v 3) (.rg1 (.int 3)) (lawV10_b0 c__law_right c__law_serves c__law_rows c__law_plan c__law_begun))
  .nil))
def lawV10 (c__law_right : Nat) (c__law_serves : Nat) (c__law_rows : Nat) (c__law_plan : Nat) (c__law_begun : Nat) : Fn := ⟨1, 7, (.cons (.for_ (.v 1) (.rg1 (.bin .add (.int 1) (.b2 .min (.b1 .len (.v 0)) (.int 7)))) (lawV10_b1 c__law_right c__law_serves c__law_rows c__law_plan c__law_begun))
  (.cons (.ret (.bl true))
  .nil))⟩
/-- need_rule(0 plan, 1 rule) -/
def need_ruleV0 (c_need_plan : Nat) : Fn := ⟨2, 2, (.cons (.ex (.call c_need_plan (.cons (.v 0) .nil)))
  (.cons (.ite (.or (.cons (.not (.isI (.v 1) .str)) (.cons (.cmp .notin (.v 1) (.tup (.cons (.gS "LATE" "late") (.cons (.gS "EARLY" "early") .nil)))) .nil))) (.cons .nev
  .nil) .nil)
  .nil))⟩
/-- unmet(0 works, 1 found, 2 work, 3 day) -/
def unmet_c0 : CE := (.lcp [3] (.ch2 .le .le (.idx (.v 2) (.int 0)) (.v 3) (.idx (.v 2) (.int 1))) (.v 3) (.e (.v 1)) .no)
def unmet_c1 : CE := (.lcp [2] (.v 2) (.v 2) (.e (.v 0)) (.yes (.not (.b1 .any (unmet_c0)))))
def unmet : Fn := ⟨2, 4, (.cons (.ret (unmet_c1))
  .nil)⟩
/-- heard_late(0 plan, 1 found, 2 rest, 3 day, 4 first, 5 last) -/
def heard_late_c0 (c_unmet : Nat) : CE := (.lcp [4, 5] (.v 5) (.t [4, 5]) (.e (.v 2)) .no)
def heard_late_b0 (c_unmet : Nat) : CSs := (.cons (.asg (.v 3) (.b1 .minL (heard_late_c0 c_unmet)))
  (.cons (.ite (.and (.cons (.cmp .ne (.v 1) (.lst .nil)) (.cons (.cmp .lt (.bin .sub (.v 3) (.idx (.v 1) (.neg (.int 1)))) (.idx (.v 0) (.int 0))) .nil))) (.cons (.ret (.tup (.cons (.b1 .tuple (.v 1)) (.cons (.v 3) .nil))))
  .nil) .nil)
  (.cons (.app 1 (.v 3))
  (.cons (.asg (.v 2) (.call c_unmet (.cons (.idx (.v 0) (.int 1)) (.cons (.v 1) .nil))))
  .nil))))
def heard_late (c_unmet : Nat) : Fn := ⟨1, 6, (.cons (.par [1, 2] (.cons (.lst .nil) (.cons (.call c_unmet (.cons (.idx (.v 0) (.int 1)) (.cons (.lst .nil) .nil))) .nil)))
  (.cons (.whl (.cmp .ne (.v 2) (.lst .nil)) (heard_late_b0 c_unmet))
  (.cons (.ret (.tup (.cons (.b1 .tuple (.v 1)) (.cons .non .nil))))
  .nil)))⟩
/-- heard_early(0 plan, 1 found, 2 rest, 3 day, 4 due, 5 first, 6 last) -/
def heard_early_c0 (c_unmet : Nat) : CE := (.lcp [5, 6] (.v 6) (.t [5, 6]) (.e (.v 2)) .no)
def heard_early_c1 (c_unmet : Nat) : CE := (.lcp [5, 6] (.v 5) (.t [5, 6]) (.e (.v 2)) .no)
def heard_early_b0 (c_unmet : Nat) : CSs := (.cons (.asg (.v 3) (.b1 .minL (heard_early_c1 c_unmet)))
  (.cons (.ite (.cmp .ne (.v 1) (.lst .nil)) (.cons (.asg (.v 3) (.b2 .max (.v 3) (.bin .add (.idx (.v 1) (.neg (.int 1))) (.idx (.v 0) (.int 0)))))
  .nil) .nil)
  (.cons (.asg (.v 4) (.b1 .minL (heard_early_c0 c_unmet)))
  (.cons (.ite (.cmp .lt (.v 4) (.v 3)) (.cons (.ret (.tup (.cons (.b1 .tuple (.v 1)) (.cons (.v 4) .nil))))
  .nil) .nil)
  (.cons (.app 1 (.v 3))
  (.cons (.asg (.v 2) (.call c_unmet (.cons (.idx (.v 0) (.int 1)) (.cons (.v 1) .nil))))
  .nil))))))
def heard_early (c_unmet : Nat) : Fn := ⟨1, 7, (.cons (.par [1, 2] (.cons (.lst .nil) (.cons (.call c_unmet (.cons (.idx (.v 0) (.int 1)) (.cons (.lst .nil) .nil))) .nil)))
  (.cons (.whl (.cmp .ne (.v 2) (.lst .nil)) (heard_early_b0 c_unmet))
  (.cons (.ret (.tup (.cons (.b1 .tuple (.v 1)) (.cons .non .nil))))
  .nil)))⟩
/-- heard_in(0 plan, 1 rule) -/
def heard_in (c_heard_late : Nat) (c_heard_early : Nat) : Fn := ⟨2, 2, (.cons (.ret (.ite (.cmp .eq (.v 1) (.gS "LATE" "late")) (.call c_heard_late (.cons (.v 0) .nil)) (.call c_heard_early (.cons (.v 0) .nil))))
  .nil)⟩
/-- heard(0 plan, 1 rule) -/
def heard (c_heard_in : Nat) (c_need_rule : Nat) : Fn := ⟨2, 2, (.cons (.ex (.call c_need_rule (.cons (.v 0) (.cons (.v 1) .nil))))
  (.cons (.ret (.call c_heard_in (.cons (.v 0) (.cons (.v 1) .nil))))
  .nil))⟩
/-- loss(0 plan, 1 rule, 2 many, 3 found, 4 day) -/
def loss (c_heard_in : Nat) (c_need_fewest : Nat) (c_need_rule : Nat) : Fn := ⟨2, 5, (.cons (.ex (.call c_need_rule (.cons (.v 0) (.cons (.v 1) .nil))))
  (.cons (.asg (.v 2) (.call c_need_fewest (.cons (.v 0) .nil)))
  (.cons (.asg (.t [3, 4]) (.call c_heard_in (.cons (.v 0) (.cons (.v 1) .nil))))
  (.cons (.ret (.ite (.isN (.v 4)) (.bin .sub (.b1 .len (.v 3)) (.v 2)) .non))
  .nil))))⟩
/-- _law_waits(0 _law_plan_so, 1 _law_row, 2 _law_day, 3 _law_found, 4 _law_begin, 5 _law_end, 6 _law_one) -/
def _law_waits_c0 : CE := (.lcp [6] (.v 6) (.v 6) (.e (.v 1)) (.yes (.ch2 .le .le (.v 4) (.v 6) (.v 5))))
def _law_waits_b0 : CSs := (.cons (.ite (.and (.cons (.cmp .le (.v 4) (.v 2)) (.cons (.cmp .eq (_law_waits_c0) (.lst .nil)) .nil))) (.cons (.app 3 (.tup (.cons (.v 4) (.cons (.v 5) .nil))))
  .nil) .nil)
  .nil)
def _law_waits : Fn := ⟨3, 7, (.cons (.asg (.v 3) (.lst .nil))
  (.cons (.for_ (.t [4, 5]) (.e (.idx (.v 0) (.int 1))) (_law_waits_b0))
  (.cons (.ret (.v 3))
  .nil)))⟩
/-- _law_gone(0 _law_plan_so, 1 _law_rule_so, 2 _law_most, 3 _law_row, 4 _law_day, 5 _law_due, 6 _law_open_so, 7 _law_wants, 8 _law_waits_here, 9 _law_is_free, 10 _law_begin, 11 _law_end) -/
def _law_gone_c0 (c__law_waits : Nat) : CE := (.lcp [10, 11] (.int 1) (.t [10, 11]) (.e (.v 8)) (.yes (.cmp .ge (.v 11) (.v 4))))
def _law_gone_c1 (c__law_waits : Nat) : CE := (.lcp [10, 11] (.int 1) (.t [10, 11]) (.e (.v 8)) (.yes (.cmp .eq (.v 11) (.v 4))))
def _law_gone_b0 (c__law_waits : Nat) : CSs := (.cons (.par [8, 9] (.cons (.call c__law_waits (.cons (.v 0) (.cons (.v 3) (.cons (.v 4) .nil)))) (.cons (.or (.cons (.cmp .eq (.v 3) (.lst .nil)) (.cons (.cmp .ge (.bin .sub (.v 4) (.idx (.v 3) (.neg (.int 1)))) (.idx (.v 0) (.int 0))) .nil))) .nil)))
  (.cons (.asg (.v 5) (.cmp .ne (_law_gone_c1 c__law_waits) (.lst .nil)))
  (.cons (.asg (.v 6) (.cmp .ne (_law_gone_c0 c__law_waits) (.lst .nil)))
  (.cons (.asg (.v 7) (.ite (.cmp .eq (.v 1) (.str "late")) (.v 5) (.v 6)))
  (.cons (.ite (.and (.cons (.v 7) (.cons (.v 9) .nil))) (.cons (.app 3 (.v 4))
  .nil) (.cons (.ite (.v 5) (.cons (.ret (.tup (.cons (.b1 .tuple (.v 3)) (.cons (.v 4) .nil))))
  .nil) .nil)
  .nil))
  .nil)))))
def _law_gone (c__law_waits : Nat) : Fn := ⟨3, 12, (.cons (.asg (.v 3) (.lst .nil))
  (.cons (.for_ (.v 4) (.rg1 (.bin .add (.v 2) (.int 1))) (_law_gone_b0 c__law_waits))
  (.cons (.ret (.tup (.cons (.b1 .tuple (.v 3)) (.cons .non .nil))))
  .nil)))⟩
/-- _law_moved(0 _law_told, 1 _law_wide, 2 _law_shift, 3 _law_row, 4 _law_day, 5 _law_one) -/
def _law_movedV1_c0 : CE := (.lcp [5] (.bin .add (.bin .mul (.v 5) (.v 1)) (.v 2)) (.v 5) (.e (.v 3)) .no)
def _law_movedV1 : Fn := ⟨3, 6, (.cons (.asg (.t [3, 4]) (.v 0))
  (.cons (.ret (.tup (.cons (.b1 .tuple (_law_movedV1_c0)) (.cons (.ite (.isN (.v 4)) .non (.bin .add (.bin .mul (.v 4) (.v 1)) (.v 2))) .nil))))
  .nil))⟩
/-- _law_right(0 _law_m, 1 _law_plan_so, 2 _law_rule_so, 3 _law_due, 4 _law_works_so, 5 _law_far, 6 _law_many, 7 _law_more, 8 _law_wide, 9 _law_shift, 10 _law_begin, 11 _law_end) -/
def _law_rightV5_c0 (c_loss : Nat) (c_can_be : Nat) (c__law_fewest : Nat) (c_heard : Nat) (c__law_moved : Nat) (c__law_draw : Nat) (c__law_of : Nat) (c__law_gone : Nat) : CE := (.lcp [10, 11] (.tup (.cons (.bin .add (.bin .mul (.v 10) (.v 8)) (.v 9)) (.cons (.bin .add (.bin .mul (.v 11) (.v 8)) (.v 9)) .nil))) (.t [10, 11]) (.e (.idx (.v 1) (.int 1))) .no)
def _law_rightV5 (c_loss : Nat) (c_can_be : Nat) (c__law_fewest : Nat) (c_heard : Nat) (c__law_moved : Nat) (c__law_draw : Nat) (c__law_of : Nat) (c__law_gone : Nat) : Fn := ⟨3, 12, (.cons (.asg (.v 3) (.call c__law_gone (.cons (.v 1) (.cons (.v 2) (.cons (.int 13) .nil)))))
  (.cons (.ite (.cmp .ne (.b1 .repr (.lst (.cons (.call c_heard (.cons (.v 1) (.cons (.v 2) .nil))) (.cons (.call c_heard (.cons (.v 1) (.cons (.v 2) .nil))) .nil)))) (.b1 .repr (.lst (.cons (.v 3) (.cons (.v 3) .nil))))) (.cons (.ret (.bl false))
  .nil) .nil)
  (.cons (.par [8, 9] (.cons (.call c__law_of (.cons (.v 0) (.cons (.lst (.cons (.int 1) (.cons (.int 7) (.cons (.bin .pow (.int 10) (.int 28)) .nil)))) .nil))) (.cons (.call c__law_draw (.cons (.v 0) (.cons (.bin .pow (.int 10) (.int 29)) .nil))) .nil)))
  (.cons (.asg (.v 4) (.b1 .tuple (_law_rightV5_c0 c_loss c_can_be c__law_fewest c_heard c__law_moved c__law_draw c__law_of c__law_gone)))
  (.cons (.asg (.v 5) (.tup (.cons (.bin .mul (.idx (.v 1) (.int 0)) (.v 8)) (.cons (.v 4) .nil))))
  (.cons (.ite (.cmp .ne (.b1 .repr (.call c_heard (.cons (.v 5) (.cons (.v 2) .nil)))) (.b1 .repr (.call c__law_moved (.cons (.v 3) (.cons (.v 8) (.cons (.v 9) .nil)))))) (.cons (.ret (.bl false))
  .nil) .nil)
  (.cons (.asg (.v 6) (.call c__law_fewest (.cons (.v 1) .nil)))
  (.cons (.ite (.cmp .ne (.call c_can_be (.cons (.v 1) .nil)) (.isNN (.v 6))) (.cons (.ret (.bl false))
  .nil) .nil)
  (.cons (.asg (.v 7) (.ite (.and (.cons (.isNN (.v 6)) (.cons (.isN (.idx (.v 3) (.int 1))) .nil))) (.bin .sub (.b1 .len (.idx (.v 3) (.int 0))) (.v 6)) .non))
  (.cons (.ite (.and (.cons (.isNN (.v 6)) (.cons (.cmp .ne (.b1 .repr (.lst (.cons (.call c_loss (.cons (.v 1) (.cons (.v 2) .nil))) (.cons (.call c_loss (.cons (.v 5) (.cons (.v 2) .nil))) .nil)))) (.b1 .repr (.lst (.cons (.v 7) (.cons (.v 7) .nil))))) .nil))) (.cons (.ret (.bl false))
  .nil) .nil)
  (.cons (.ret (.or (.cons (.isNN (.v 6)) (.cons (.isNN (.idx (.v 3) (.int 1))) .nil))))
  .nil)))))))))))⟩
/-- law(0 _law_script, 1 _law_k, 2 _law_m, 3 _law_turn, 4 _law_plan_so) -/
def lawV13_b0 (c_loss : Nat) (c__law_right : Nat) (c__law_plan : Nat) (c__law_begun : Nat) : CSs := (.cons (.asg (.v 4) (.call c__law_plan (.cons (.v 2) (.cons (.int 12) (.cons (.int 5) .nil)))))
  (.cons (.ite (.or (.cons (.not (.call c__law_right (.cons (.v 2) (.cons (.v 4) (.cons (.str "late") .nil))))) (.cons (.not (.call c__law_right (.cons (.v 2) (.cons (.v 4) (.cons (.str "early") .nil))))) .nil))) (.cons (.ret (.bl false))
  .nil) .nil)
  (.cons (.ite (.cmp .ne (.call c_loss (.cons (.tup (.cons (.int 1) (.cons (.idx (.v 4) (.int 1)) .nil))) (.cons (.str "late") .nil))) (.int 0)) (.cons (.ret (.bl false))
  .nil) .nil)
  .nil)))
def lawV13_b1 (c_loss : Nat) (c__law_right : Nat) (c__law_plan : Nat) (c__law_begun : Nat) : CSs := (.cons (.asg (.v 2) (.call c__law_begun (.cons (.v 0) (.cons (.v 1) .nil))))
  (.cons (.for_ (.v 3) (.rg1 (.int 4)) (lawV13_b0 c_loss c__law_right c__law_plan c__law_begun))
  .nil))
def lawV13 (c_loss : Nat) (c__law_right : Nat) (c__law_plan : Nat) (c__law_begun : Nat) : Fn := ⟨1, 5, (.cons (.for_ (.v 1) (.rg1 (.bin .add (.int 1) (.b2 .min (.b1 .len (.v 0)) (.int 7)))) (lawV13_b1 c_loss c__law_right c__law_plan c__law_begun))
  (.cons (.ret (.bl true))
  .nil))⟩
/-- is_between(0 value, 1 least, 2 most) -/
def is_between : Fn := ⟨3, 3, (.cons (.ret (.and (.cons (.isI (.v 0) .int) (.cons (.not (.isI (.v 0) .bool)) (.cons (.ch2 .le .le (.v 1) (.v 0) (.v 2)) .nil)))))
  .nil)⟩
/-- is_pair_so(0 value, 1 lows, 2 highs, 3 one, 4 low, 5 high) -/
def is_pair_so_c0 (c_is_between : Nat) : CE := (.lcp [3, 4, 5] (.call c_is_between (.cons (.v 3) (.cons (.v 4) (.cons (.v 5) .nil)))) (.t [3, 4, 5]) (.zip3 (.v 0) (.v 1) (.v 2)) .no)
def is_pair_so (c_is_between : Nat) : Fn := ⟨3, 6, (.cons (.ite (.or (.cons (.not (.isI (.v 0) .tuple)) (.cons (.cmp .ne (.b1 .len (.v 0)) (.int 2)) .nil))) (.cons (.ret (.bl false))
  .nil) .nil)
  (.cons (.ret (.b1 .all (is_pair_so_c0 c_is_between)))
  .nil))⟩
/-- is_pipe(0 value) -/
def is_pipe (c_is_pair_so : Nat) : Fn := ⟨1, 1, (.cons (.ret (.and (.cons (.call c_is_pair_so (.cons (.v 0) (.cons (.tup (.cons (.int 1) (.cons (.int 1) .nil))) (.cons (.tup (.cons (.gI "MOST_AGE" 8) (.cons (.gI "MOST_AGE" 8) .nil))) .nil)))) (.cons (.cmp .le (.idx (.v 0) (.int 0)) (.idx (.v 0) (.int 1))) .nil))))
  .nil)⟩
/-- wrong_place(0 thing, 1 number, 2 pipe) -/
def wrong_placeV1_b0 (c_is_pair_so : Nat) (c_is_between : Nat) (c_is_pipe : Nat) : CSs := (.cons (.ite (.not (.call c_is_pipe (.cons (.v 2) .nil))) (.cons (.ret (.tup (.cons (.int 0) (.cons (.v 1) .nil))))
  .nil) .nil)
  .nil)
def wrong_placeV1 (c_is_pair_so : Nat) (c_is_between : Nat) (c_is_pipe : Nat) : Fn := ⟨1, 3, (.cons (.ite (.or (.cons (.not (.isI (.v 0) .tuple)) (.cons (.cmp .ne (.b1 .len (.v 0)) (.int 3)) .nil))) (.cons (.ret (.tup .nil))
  .nil) .nil)
  (.cons (.ite (.or (.cons (.not (.isI (.idx (.v 0) (.int 0)) .tuple)) (.cons (.not (.ch2 .le .le (.int 1) (.b1 .len (.idx (.v 0) (.int 0))) (.gI "MOST_PIPES" 3))) .nil))) (.cons (.ret (.tup (.cons (.int 0) .nil)))
  .nil) .nil)
  (.cons (.for_ (.t [1, 2]) (.enu (.idx (.v 0) (.int 0))) (wrong_placeV1_b0 c_is_pair_so c_is_between c_is_pipe))
  (.cons (.ite (.not (.call c_is_between (.cons (.idx (.v 0) (.int 1)) (.cons (.int 1) (.cons (.gI "MOST_BAR" 8) .nil))))) (.cons (.ret (.tup (.cons (.int 1) .nil)))
  .nil) .nil)
  (.cons (.ret (.ite (.or (.cons (.isN (.idx (.v 0) (.int 2))) (.cons (.call c_is_pair_so (.cons (.idx (.v 0) (.int 2)) (.cons (.tup (.cons (.int 1) (.cons (.int 0) .nil))) (.cons (.tup (.cons (.gI "MOST_GAP" 8) (.cons (.gI "MOST_WAIT" 4) .nil))) .nil)))) .nil))) .non (.tup (.cons (.int 2) .nil))))
  .nil)))))⟩
/-- need_street(0 thing, 1 place) -/
def need_street (c_wrong_place : Nat) : Fn := ⟨1, 2, (.cons (.asg (.v 1) (.call c_wrong_place (.cons (.v 0) .nil)))
  (.cons (.ite (.isNN (.v 1)) (.cons .nev
  .nil) .nil)
  (.cons (.ret (.v 0))
  .nil)))⟩
/-- are_numbers(0 value, 1 many, 2 one, 3 other) -/
def are_numbers_c0 (c_is_between : Nat) : CE := (.lcp [2, 3] (.cmp .lt (.v 2) (.v 3)) (.t [2, 3]) (.zip (.v 0) (.slc (.v 0) (.yes (.int 1)) .no)) .no)
def are_numbers_c1 (c_is_between : Nat) : CE := (.lcp [2] (.call c_is_between (.cons (.v 2) (.cons (.int 0) (.cons (.bin .sub (.v 1) (.int 1)) .nil)))) (.v 2) (.e (.v 0)) .no)
def are_numbers (c_is_between : Nat) : Fn := ⟨2, 4, (.cons (.ite (.or (.cons (.not (.isI (.v 0) .tuple)) (.cons (.not (.b1 .all (are_numbers_c1 c_is_between))) .nil))) (.cons (.ret (.bl false))
  .nil) .nil)
  (.cons (.ret (.b1 .all (are_numbers_c0 c_is_between)))
  .nil))⟩
/-- street_text(0 street, 1 words, 2 pipes, 3 bar, 4 calls, 5 least, 6 most) -/
def street_text_c0 (c_need_street : Nat) : CE := (.lcp [5, 6] (.bin .add (.bin .add (.b1 .str (.v 5)) (.gS "DASH" "-")) (.b1 .str (.v 6))) (.t [5, 6]) (.e (.v 2)) .no)
def street_text (c_need_street : Nat) : Fn := ⟨1, 7, (.cons (.asg (.t [2, 3, 4]) (.call c_need_street (.cons (.v 0) .nil)))
  (.cons (.asg (.v 1) (.bin .add (street_text_c0 c_need_street) (.lst (.cons (.gS "BAR" "bar") (.cons (.b1 .str (.v 3)) .nil)))))
  (.cons (.ret (.b2 .join (.gS "BLANK" " ") (.bin .add (.v 1) (.ite (.isN (.v 4)) (.lst (.cons (.gS "CALM" "calm") .nil)) (.lst (.cons (.gS "CALLS" "calls") (.cons (.b1 .str (.idx (.v 4) (.int 0))) (.cons (.b1 .str (.idx (.v 4) (.int 1))) .nil))))))))
  .nil)))⟩
/-- choice_text(0 choice, 1 number) -/
def choice_text_c0 (c_are_numbers : Nat) : CE := (.lcp [1] (.b1 .str (.v 1)) (.v 1) (.e (.v 0)) .no)
def choice_text (c_are_numbers : Nat) : Fn := ⟨1, 2, (.cons (.ite (.isN (.v 0)) (.cons (.ret (.gS "REST" "rest"))
  .nil) .nil)
  (.cons (.ite (.not (.call c_are_numbers (.cons (.v 0) (.cons (.gI "MOST_PIPES" 3) .nil)))) (.cons .nev
  .nil) .nil)
  (.cons (.ret (.ite (.cmp .ne (.v 0) (.tup .nil)) (.b2 .join (.gS "PLUS" "+") (choice_text_c0 c_are_numbers)) (.gS "OPEN" "open")))
  .nil)))⟩
/-- words_in(0 text) -/
def words_in : Fn := ⟨1, 1, (.cons (.ite (.not (.isI (.v 0) .str)) (.cons .nev
  .nil) .nil)
  (.cons (.ret (.b2 .split (.v 0) (.gS "BLANK" " ")))
  .nil))⟩
/-- is_figure(0 word) -/
def is_figure : Fn := ⟨1, 1, (.cons (.ret (.and (.cons (.cmp .eq (.b1 .len (.v 0)) (.int 1)) (.cons (.cmp .isin (.v 0) (.gS "FIGURES" "0123456789")) .nil))))
  .nil)⟩
/-- is_pipe_word(0 word, 1 parts, 2 part) -/
def is_pipe_word_c0 (c_is_figure : Nat) : CE := (.lcp [2] (.call c_is_figure (.cons (.v 2) .nil)) (.v 2) (.e (.v 1)) .no)
def is_pipe_word (c_is_figure : Nat) : Fn := ⟨1, 3, (.cons (.asg (.v 1) (.b2 .split (.v 0) (.gS "DASH" "-")))
  (.cons (.ret (.and (.cons (.cmp .eq (.b1 .len (.v 1)) (.int 2)) (.cons (.b1 .all (is_pipe_word_c0 c_is_figure)) .nil))))
  .nil))⟩
/-- is_street_word(0 words, 1 number, 2 word, 3 place) -/
def is_street_word (c_is_figure : Nat) (c_is_pipe_word : Nat) : Fn := ⟨2, 4, (.cons (.asg (.v 2) (.idx (.v 0) (.v 1)))
  (.cons (.ite (.cmp .notin (.gS "BAR" "bar") (.slc (.v 0) .no (.yes (.v 1)))) (.cons (.ret (.or (.cons (.and (.cons (.cmp .lt (.v 1) (.gI "MOST_PIPES" 3)) (.cons (.call c_is_pipe_word (.cons (.v 2) .nil)) .nil))) (.cons (.and (.cons (.ch2 .lt .le (.int 0) (.v 1) (.gI "MOST_PIPES" 3)) (.cons (.cmp .eq (.v 2) (.gS "BAR" "bar")) .nil))) .nil))))
  .nil) .nil)
  (.cons (.asg (.v 3) (.bin .sub (.v 1) (.b2 .index (.v 0) (.gS "BAR" "bar"))))
  (.cons (.ite (.cmp .eq (.v 3) (.int 2)) (.cons (.ret (.cmp .isin (.v 2) (.tup (.cons (.gS "CALLS" "calls") (.cons (.gS "CALM" "calm") .nil)))))
  .nil) .nil)
  (.cons (.ite (.and (.cons (.cmp .gt (.v 3) (.int 2)) (.cons (.cmp .eq (.idx (.v 0) (.bin .add (.bin .sub (.v 1) (.v 3)) (.int 2))) (.gS "CALM" "calm")) .nil))) (.cons (.ret (.bl false))
  .nil) .nil)
  (.cons (.ret (.and (.cons (.cmp .le (.v 3) (.int 4)) (.cons (.call c_is_figure (.cons (.v 2) .nil)) .nil))))
  .nil))))))⟩
/-- lacks_words(0 words, 1 rest) -/
def lacks_words : Fn := ⟨1, 2, (.cons (.ite (.cmp .notin (.gS "BAR" "bar") (.v 0)) (.cons (.ret (.bl true))
  .nil) .nil)
  (.cons (.asg (.v 1) (.slc (.v 0) (.yes (.bin .add (.b2 .index (.v 0) (.gS "BAR" "bar")) (.int 1))) .no))
  (.cons (.ret (.or (.cons (.cmp .lt (.b1 .len (.v 1)) (.int 2)) (.cons (.and (.cons (.cmp .eq (.idx (.v 1) (.int 1)) (.gS "CALLS" "calls")) (.cons (.cmp .lt (.b1 .len (.v 1)) (.int 4)) .nil))) .nil))))
  .nil)))⟩
/-- read_street(0 text, 1 words, 2 number, 3 spot, 4 pipes, 5 calls, 6 word, 7 part) -/
def read_street_c0 (c_need_street : Nat) (c_lacks_words : Nat) (c_is_street_word : Nat) (c_words_in : Nat) : CE := (.lcp [7] (.b1 .int (.v 7)) (.v 7) (.e (.b2 .split (.v 6) (.gS "DASH" "-"))) .no)
def read_street_c1 (c_need_street : Nat) (c_lacks_words : Nat) (c_is_street_word : Nat) (c_words_in : Nat) : CE := (.lcp [6] (.b1 .tuple (read_street_c0 c_need_street c_lacks_words c_is_street_word c_words_in)) (.v 6) (.e (.slc (.v 1) .no (.yes (.v 3)))) .no)
def read_street_b0 (c_need_street : Nat) (c_lacks_words : Nat) (c_is_street_word : Nat) (c_words_in : Nat) : CSs := (.cons (.ite (.not (.call c_is_street_word (.cons (.v 1) (.cons (.v 2) .nil)))) (.cons .nev
  .nil) .nil)
  .nil)
def read_street (c_need_street : Nat) (c_lacks_words : Nat) (c_is_street_word : Nat) (c_words_in : Nat) : Fn := ⟨1, 8, (.cons (.asg (.v 1) (.call c_words_in (.cons (.v 0) .nil)))
  (.cons (.for_ (.v 2) (.rg1 (.b1 .len (.v 1))) (read_street_b0 c_need_street c_lacks_words c_is_street_word c_words_in))
  (.cons (.ite (.call c_lacks_words (.cons (.v 1) .nil)) (.cons .nev
  .nil) .nil)
  (.cons (.asg (.v 3) (.b2 .index (.v 1) (.gS "BAR" "bar")))
  (.cons (.asg (.v 4) (.b1 .tuple (read_street_c1 c_need_street c_lacks_words c_is_street_word c_words_in)))
  (.cons (.asg (.v 5) (.ite (.cmp .eq (.idx (.v 1) (.bin .add (.v 3) (.int 2))) (.gS "CALM" "calm")) .non (.tup (.cons (.b1 .int (.idx (.v 1) (.bin .add (.v 3) (.int 3)))) (.cons (.b1 .int (.idx (.v 1) (.bin .add (.v 3) (.int 4)))) .nil)))))
  (.cons (.ret (.call c_need_street (.cons (.tup (.cons (.v 4) (.cons (.b1 .int (.idx (.v 1) (.bin .add (.v 3) (.int 1)))) (.cons (.v 5) .nil)))) .nil)))
  .nil)))))))⟩
/-- read_choice(0 text, 1 words, 2 found, 3 part) -/
def read_choice_c0 (c_are_numbers : Nat) (c_is_figure : Nat) (c_words_in : Nat) : CE := (.lcp [3] (.call c_is_figure (.cons (.v 3) .nil)) (.v 3) (.e (.b2 .split (.idx (.v 1) (.int 0)) (.gS "PLUS" "+"))) .no)
def read_choice_c1 (c_are_numbers : Nat) (c_is_figure : Nat) (c_words_in : Nat) : CE := (.lcp [3] (.b1 .int (.v 3)) (.v 3) (.e (.b2 .split (.idx (.v 1) (.int 0)) (.gS "PLUS" "+"))) .no)
def read_choice (c_are_numbers : Nat) (c_is_figure : Nat) (c_words_in : Nat) : Fn := ⟨1, 4, (.cons (.asg (.v 1) (.call c_words_in (.cons (.v 0) .nil)))
  (.cons (.ite (.cmp .isin (.idx (.v 1) (.int 0)) (.tup (.cons (.gS "REST" "rest") (.cons (.gS "OPEN" "open") .nil)))) (.cons (.asg (.v 2) (.ite (.cmp .eq (.idx (.v 1) (.int 0)) (.gS "REST" "rest")) .non (.tup .nil)))
  .nil) (.cons (.ite (.not (.b1 .all (read_choice_c0 c_are_numbers c_is_figure c_words_in))) (.cons .nev
  .nil) (.cons (.asg (.v 2) (.b1 .tuple (read_choice_c1 c_are_numbers c_is_figure c_words_in)))
  .nil))
  .nil))
  (.cons (.ite (.cmp .gt (.b1 .len (.v 1)) (.int 1)) (.cons .nev
  .nil) .nil)
  (.cons (.ite (.and (.cons (.isNN (.v 2)) (.cons (.not (.call c_are_numbers (.cons (.v 2) (.cons (.gI "MOST_PIPES" 3) .nil)))) .nil))) (.cons .nev
  .nil) .nil)
  (.cons (.ret (.v 2))
  .nil)))))⟩
/-- _law_wide_street(0 _law_m, 1 _law_pipes, 2 _law_k, 3 _law_calls, 4 _law_low) -/
def _law_wide_street_b0 (c__law_draw : Nat) : CSs := (.cons (.asg (.v 4) (.bin .add (.int 1) (.call c__law_draw (.cons (.v 0) (.cons (.int 8) .nil)))))
  (.cons (.app 1 (.tup (.cons (.v 4) (.cons (.bin .add (.v 4) (.call c__law_draw (.cons (.v 0) (.cons (.bin .sub (.int 9) (.v 4)) .nil)))) .nil))))
  .nil))
def _law_wide_street (c__law_draw : Nat) : Fn := ⟨1, 5, (.cons (.asg (.v 1) (.lst .nil))
  (.cons (.for_ (.v 2) (.rg1 (.bin .add (.int 1) (.call c__law_draw (.cons (.v 0) (.cons (.int 3) .nil))))) (_law_wide_street_b0 c__law_draw))
  (.cons (.asg (.v 3) (.ite (.cmp .gt (.call c__law_draw (.cons (.v 0) (.cons (.int 3) .nil))) (.int 0)) (.tup (.cons (.bin .add (.int 1) (.call c__law_draw (.cons (.v 0) (.cons (.int 8) .nil)))) (.cons (.call c__law_draw (.cons (.v 0) (.cons (.int 5) .nil))) .nil))) .non))
  (.cons (.ret (.tup (.cons (.b1 .tuple (.v 1)) (.cons (.bin .add (.int 1) (.call c__law_draw (.cons (.v 0) (.cons (.int 8) .nil)))) (.cons (.v 3) .nil)))))
  .nil))))⟩
/-- _law_written(0 _law_street, 1 _law_words, 2 _law_low, 3 _law_high) -/
def _law_writtenV0_c0 : CE := (.lcp [2, 3] (.bin .add (.bin .add (.b1 .str (.v 2)) (.str "-")) (.b1 .str (.v 3))) (.t [2, 3]) (.e (.idx (.v 0) (.int 0))) .no)
def _law_writtenV0 : Fn := ⟨1, 4, (.cons (.asg (.v 1) (.bin .add (_law_writtenV0_c0) (.lst (.cons (.str "bar") (.cons (.b1 .str (.idx (.v 0) (.int 1))) .nil)))))
  (.cons (.ite (.isN (.idx (.v 0) (.int 2))) (.cons (.ret (.b2 .join (.str " ") (.bin .add (.v 1) (.lst (.cons (.str "calm") .nil)))))
  .nil) .nil)
  (.cons (.ret (.b2 .join (.str " ") (.bin .add (.v 1) (.lst (.cons (.str "calls") (.cons (.b1 .str (.idx (.idx (.v 0) (.int 2)) (.int 0))) (.cons (.b1 .str (.idx (.idx (.v 0) (.int 2)) (.int 1))) .nil)))))))
  .nil)))⟩
/-- _law_all_lots(0 _law_rows, 1 _law_k, 2 _law_row) -/
def _law_all_lots_c0 : CE := (.lcp [2] (.bin .add (.v 2) (.tup (.cons (.v 1) .nil))) (.v 2) (.e (.v 0)) .no)
def _law_all_lots_b0 : CSs := (.cons (.asg (.v 0) (.bin .add (.v 0) (_law_all_lots_c0)))
  .nil)
def _law_all_lots : Fn := ⟨0, 3, (.cons (.asg (.v 0) (.lst (.cons (.tup .nil) .nil)))
  (.cons (.for_ (.v 1) (.rg1 (.int 3)) (_law_all_lots_b0))
  (.cons (.ret (.bin .add (.lst (.cons .non .nil)) (.v 0)))
  .nil)))⟩
/-- _law_lot_written(0 _law_lot, 1 _law_k) -/
def _law_lot_written_c0 : CE := (.lcp [1] (.b1 .str (.v 1)) (.v 1) (.e (.v 0)) .no)
def _law_lot_written : Fn := ⟨1, 2, (.cons (.ite (.isN (.v 0)) (.cons (.ret (.str "rest"))
  .nil) .nil)
  (.cons (.ret (.ite (.cmp .eq (.v 0) (.tup .nil)) (.str "open") (.b2 .join (.str "+") (_law_lot_written_c0))))
  .nil))⟩
/-- _law_street_right(0 _law_street, 1 _law_due, 2 _law_kept, 3 _law_told) -/
def _law_street_right (c_read_street : Nat) (c_street_text : Nat) : Fn := ⟨2, 4, (.cons (.asg (.v 2) (.b1 .repr (.v 0)))
  (.cons (.asg (.v 3) (.lst (.cons (.call c_street_text (.cons (.v 0) .nil)) (.cons (.call c_read_street (.cons (.v 1) .nil)) (.cons (.call c_street_text (.cons (.v 0) .nil)) (.cons (.call c_read_street (.cons (.v 1) .nil)) .nil))))))
  (.cons (.ret (.and (.cons (.cmp .eq (.b1 .repr (.v 3)) (.b1 .repr (.lst (.cons (.v 1) (.cons (.v 0) (.cons (.v 1) (.cons (.v 0) .nil))))))) (.cons (.cmp .eq (.b1 .repr (.v 0)) (.v 2)) .nil))))
  .nil)))⟩
/-- law(0 _law_script, 1 _law_k, 2 _law_lot, 3 _law_some, 4 _law_lots, 5 _law_m, 6 _law_turn, 7 _law_due, 8 _law_told, 9 _law_street) -/
def lawV28_c0 (c_choice_text : Nat) (c__law_street_right : Nat) (c__law_all_lots : Nat) (c_read_choice : Nat) (c__law_lot_written : Nat) (c__law_written : Nat) (c__law_wide_street : Nat) (c__law_begun : Nat) : CE := (.lcp [2] (.call c_choice_text (.cons (.v 2) .nil)) (.v 2) (.e (.v 4)) .no)
def lawV28_b0 (c_choice_text : Nat) (c__law_street_right : Nat) (c__law_all_lots : Nat) (c_read_choice : Nat) (c__law_lot_written : Nat) (c__law_written : Nat) (c__law_wide_street : Nat) (c__law_begun : Nat) : CSs := (.cons (.ite (.not (.call c__law_street_right (.cons (.v 9) (.cons (.v 7) .nil)))) (.cons (.ret (.bl false))
  .nil) .nil)
  .nil)
def lawV28_b1 (c_choice_text : Nat) (c__law_street_right : Nat) (c__law_all_lots : Nat) (c_read_choice : Nat) (c__law_lot_written : Nat) (c__law_written : Nat) (c__law_wide_street : Nat) (c__law_begun : Nat) : CSs := (.cons (.asg (.v 7) (.call c__law_lot_written (.cons (.v 2) .nil)))
  (.cons (.asg (.v 8) (.lst (.cons (.call c_choice_text (.cons (.v 2) .nil)) (.cons (.call c_read_choice (.cons (.v 7) .nil)) (.cons (.call c_choice_text (.cons (.v 2) .nil)) (.cons (.call c_read_choice (.cons (.v 7) .nil)) .nil))))))
  (.cons (.ite (.cmp .ne (.b1 .repr (.v 8)) (.b1 .repr (.lst (.cons (.v 7) (.cons (.v 2) (.cons (.v 7) (.cons (.v 2) .nil))))))) (.cons (.ret (.bl false))
  .nil) .nil)
  .nil)))
def lawV28_b2 (c_choice_text : Nat) (c__law_street_right : Nat) (c__law_all_lots : Nat) (c_read_choice : Nat) (c__law_lot_written : Nat) (c__law_written : Nat) (c__law_wide_street : Nat) (c__law_begun : Nat) : CSs := (.cons (.asg (.v 9) (.call c__law_wide_street (.cons (.v 5) .nil)))
  (.cons (.ite (.not (.call c__law_street_right (.cons (.v 9) (.cons (.call c__law_written (.cons (.v 9) .nil)) .nil)))) (.cons (.ret (.bl false))
  .nil) .nil)
  .nil))
def lawV28_b3 (c_choice_text : Nat) (c__law_street_right : Nat) (c__law_all_lots : Nat) (c_read_choice : Nat) (c__law_lot_written : Nat) (c__law_written : Nat) (c__law_wide_street : Nat) (c__law_begun : Nat) : CSs := (.cons (.asg (.v 5) (.call c__law_begun (.cons (.v 0) (.cons (.v 1) .nil))))
  (.cons (.for_ (.v 6) (.rg1 (.int 3)) (lawV28_b2 c_choice_text c__law_street_right c__law_all_lots c_read_choice c__law_lot_written c__law_written c__law_wide_street c__law_begun))
  .nil))
def lawV28 (c_choice_text : Nat) (c__law_street_right : Nat) (c__law_all_lots : Nat) (c_read_choice : Nat) (c__law_lot_written : Nat) (c__law_written : Nat) (c__law_wide_street : Nat) (c__law_begun : Nat) : Fn := ⟨1, 10, (.cons (.for_ (.v 1) (.rg1 (.bin .add (.int 4) (.b2 .min (.b1 .len (.v 0)) (.int 20)))) (lawV28_b3 c_choice_text c__law_street_right c__law_all_lots c_read_choice c__law_lot_written c__law_written c__law_wide_street c__law_begun))
  (.cons (.for_ (.v 2) (.e (.call c__law_all_lots .nil)) (lawV28_b1 c_choice_text c__law_street_right c__law_all_lots c_read_choice c__law_lot_written c__law_written c__law_wide_street c__law_begun))
  (.cons (.asg (.v 3) (.lst (.cons (.tup (.cons (.tup (.cons (.tup (.cons (.tup (.cons (.int 2) (.cons (.int 4) .nil))) (.cons (.tup (.cons (.int 3) (.cons (.int 5) .nil))) .nil))) (.cons (.int 2) (.cons (.tup (.cons (.int 6) (.cons (.int 1) .nil))) .nil)))) (.cons (.str "2-4 3-5 bar 2 calls 6 1") .nil))) (.cons (.tup (.cons (.tup (.cons (.tup (.cons (.tup (.cons (.int 1) (.cons (.int 3) .nil))) .nil)) (.cons (.int 1) (.cons .non .nil)))) (.cons (.str "1-3 bar 1 calm") .nil))) .nil))))
  (.cons (.app 3 (.tup (.cons (.tup (.cons (.tup (.cons (.tup (.cons (.int 1) (.cons (.int 8) .nil))) (.cons (.tup (.cons (.int 8) (.cons (.int 8) .nil))) (.cons (.tup (.cons (.int 1) (.cons (.int 1) .nil))) .nil)))) (.cons (.int 8) (.cons (.tup (.cons (.int 8) (.cons (.int 4) .nil))) .nil)))) (.cons (.str "1-8 8-8 1-1 bar 8 calls 8 4") .nil))))
  (.cons (.app 3 (.tup (.cons (.tup (.cons (.tup (.cons (.tup (.cons (.int 1) (.cons (.int 1) .nil))) .nil)) (.cons (.int 8) (.cons (.tup (.cons (.int 1) (.cons (.int 0) .nil))) .nil)))) (.cons (.str "1-1 bar 8 calls 1 0") .nil))))
  (.cons (.for_ (.t [9, 7]) (.e (.v 3)) (lawV28_b0 c_choice_text c__law_street_right c__law_all_lots c_read_choice c__law_lot_written c__law_written c__law_wide_street c__law_begun))
  (.cons (.asg (.v 4) (.lst (.cons .non (.cons (.tup .nil) (.cons (.tup (.cons (.int 0) .nil)) (.cons (.tup (.cons (.int 2) .nil)) (.cons (.tup (.cons (.int 0) (.cons (.int 2) .nil))) (.cons (.tup (.cons (.int 0) (.cons (.int 1) (.cons (.int 2) .nil)))) .nil))))))))
  (.cons (.ret (.cmp .eq (lawV28_c0 c_choice_text c__law_street_right c__law_all_lots c_read_choice c__law_lot_written c__law_written c__law_wide_street c__law_begun) (.lst (.cons (.str "rest") (.cons (.str "open") (.cons (.str "0") (.cons (.str "2") (.cons (.str "0+2") (.cons (.str "0+1+2") .nil)))))))))
  .nil))))))))⟩
/-- _law_any(0 _law_m, 1 _law_some) -/
def _law_any (c__law_of : Nat) : Fn := ⟨1, 2, (.cons (.asg (.v 1) (.lst (.cons .non (.cons (.int 0) (.cons (.int 5) (.cons (.neg (.int 1)) (.cons (.bl true) (.cons (.bin .pow (.int 10) (.int 30)) (.cons (.str "") (.cons (.str "late") (.cons (.str "form") (.cons (.tup .nil) (.cons (.tup (.cons (.int 0) .nil)) .nil)))))))))))))
  (.cons (.ret (.call c__law_of (.cons (.v 0) (.cons (.bin .add (.v 1) (.lst (.cons (.tup (.cons (.int 1) (.cons (.int 29) .nil))) (.cons (.lst .nil) (.cons (.lst (.cons (.int 3) .nil)) (.cons (.dic .nil) (.cons (.tup (.cons (.tup (.cons (.int 1) (.cons (.int 2) .nil))) (.cons (.tup (.cons (.int 3) (.cons (.int 4) .nil))) .nil))) .nil))))))) .nil))))
  .nil))⟩
/-- _law_made(0 _law_one, 1 _law_other, 2 _law_found, 3 _law_behind) -/
def _law_made : Fn := ⟨2, 4, (.cons (.asg (.v 2) (.lst (.cons (.mkx 0 false (.cons (.v 0) .nil)) (.cons (.mkx 1 false (.cons (.v 0) .nil)) (.cons (.mkx 2 false (.cons (.v 0) .nil)) (.cons (.mkx 3 false (.cons (.v 0) .nil)) (.cons (.mkx 4 false (.cons (.v 0) .nil)) .nil)))))))
  (.cons (.asg (.v 2) (.bin .add (.v 2) (.lst (.cons (.mkx 0 true (.cons (.v 0) .nil)) (.cons (.mkx 1 true (.cons (.v 0) .nil)) (.cons (.mkx 2 true (.cons (.v 0) .nil)) .nil))))))
  (.cons (.asg (.v 2) (.bin .add (.v 2) (.lst (.cons (.mkx 3 true (.cons (.v 0) .nil)) (.cons (.mkx 4 true (.cons (.v 0) .nil)) .nil)))))
  (.cons (.asg (.v 3) (.lst (.cons (.mkx 0 false (.cons (.v 1) .nil)) (.cons (.mkx 1 false (.cons (.v 1) .nil)) (.cons (.mkx 2 false (.cons (.v 1) .nil)) (.cons (.mkx 3 false (.cons (.v 1) .nil)) (.cons (.mkx 4 false (.cons (.v 1) .nil)) .nil)))))))
  (.cons (.ret (.bin .add (.v 2) (.v 3)))
  .nil)))))⟩
/-- _law_field(0 _law_error, 1 _law_at) -/
def _law_field : Fn := ⟨2, 2, (.cons (.ite (.cmp .eq (.v 1) (.int 0)) (.cons (.ret (.fld (.v 0) "place"))
  .nil) .nil)
  (.cons (.ret (.ite (.cmp .eq (.v 1) (.int 4)) (.fld (.v 0) "word") (.fld (.v 0) "value")))
  .nil))⟩
/-- _law_kinds(0 _law_error, 1 _law_found) -/
def _law_kinds : Fn := ⟨1, 2, (.cons (.asg (.v 1) (.lst (.cons (.isX (.v 0) ["BadPlan"]) (.cons (.isX (.v 0) ["BadDay"]) (.cons (.isX (.v 0) ["BadNumber"]) .nil)))))
  (.cons (.asg (.v 1) (.bin .add (.v 1) (.lst (.cons (.isX (.v 0) ["BadRule"]) (.cons (.isX (.v 0) ["BadPaper"]) (.cons (.isX (.v 0) ["Never"]) .nil))))))
  (.cons (.asg (.v 1) (.bin .add (.v 1) (.lst (.cons (.isX (.v 0) ["StreetError"]) (.cons (.isX (.v 0) ["ValueError"]) .nil)))))
  (.cons (.ret (.bin .add (.v 1) (.lst (.cons (.isX (.v 0) ["LookupError"]) (.cons (.isX (.v 0) ["IndexError", "KeyError"]) .nil)))))
  .nil))))⟩
/-- law(0 _law_script, 1 _law_turn, 2 _law_m, 3 _law_made_here, 4 _law_k, 5 _law_one, 6 _law_other, 7 _law_at, 8 _law_due, 9 _law_n) -/
def lawV18_c0 (c__law_kinds : Nat) (c__law_field : Nat) (c__law_made : Nat) (c__law_any : Nat) (c__law_begun : Nat) : CE := (.lcp [9] (.cmp .eq (.v 7) (.v 9)) (.v 9) (.rg1 (.int 5)) .no)
def lawV18_b0 (c__law_kinds : Nat) (c__law_field : Nat) (c__law_made : Nat) (c__law_any : Nat) (c__law_begun : Nat) : CSs := (.cons (.par [7, 8] (.cons (.bin .mod (.b1 .int (.v 4)) (.int 5)) (.cons (.ite (.cmp .lt (.v 4) (.int 10)) (.v 5) (.v 6)) .nil)))
  (.cons (.ite (.cmp .ne (.b1 .repr (.call c__law_field (.cons (.idx (.v 3) (.v 4)) (.cons (.v 7) .nil)))) (.b1 .repr (.v 8))) (.cons (.ret (.bl false))
  .nil) .nil)
  (.cons (.ite (.cmp .ne (.call c__law_kinds (.cons (.idx (.v 3) (.v 4)) .nil)) (.bin .add (lawV18_c0 c__law_kinds c__law_field c__law_made c__law_any c__law_begun) (.lst (.cons (.bl false) (.cons (.bl true) (.cons (.bl true) (.cons (.bl false) (.cons (.bl false) .nil)))))))) (.cons (.ret (.bl false))
  .nil) .nil)
  .nil)))
def lawV18_b1 (c__law_kinds : Nat) (c__law_field : Nat) (c__law_made : Nat) (c__law_any : Nat) (c__law_begun : Nat) : CSs := (.cons (.asg (.v 2) (.call c__law_begun (.cons (.v 0) (.cons (.v 1) .nil))))
  (.cons (.par [5, 6] (.cons (.call c__law_any (.cons (.v 2) .nil)) (.cons (.call c__law_any (.cons (.v 2) .nil)) .nil)))
  (.cons (.asg (.v 3) (.call c__law_made (.cons (.v 5) (.cons (.v 6) .nil))))
  (.cons (.for_ (.v 4) (.rg1 (.int 15)) (lawV18_b0 c__law_kinds c__law_field c__law_made c__law_any c__law_begun))
  (.cons (.ite (.cmp .ne (.call c__law_kinds (.cons (.mkx 5 false .nil) .nil)) (.bin .add (.bin .mul (.lst (.cons (.bl false) .nil)) (.int 5)) (.lst (.cons (.bl true) (.cons (.bl false) (.cons (.bl false) (.cons (.bl true) (.cons (.bl false) .nil)))))))) (.cons (.ret (.bl false))
  .nil) .nil)
  .nil)))))
def lawV18 (c__law_kinds : Nat) (c__law_field : Nat) (c__law_made : Nat) (c__law_any : Nat) (c__law_begun : Nat) : Fn := ⟨1, 10, (.cons (.for_ (.v 1) (.rg1 (.bin .add (.int 1) (.b2 .min (.b1 .len (.v 0)) (.int 5)))) (lawV18_b1 c__law_kinds c__law_field c__law_made c__law_any c__law_begun))
  (.cons (.ret (.bl true))
  .nil))⟩
end S

end
section
set_option Elab.async false
set_option linter.all false
set_option maxRecDepth 100000
set_option maxHeartbeats 1000000
/-! M1: plans. -/
namespace M
open PySem LP
abbrev fz (d : D) : SV := ⟨.fz, d⟩
abbrev MD : Int := 1000000000000000000000000000000
/-- a call by values alone -/
def Gives (cf : CF) (i : Nat) (as : List D) (r : D) : Prop := cf i (as.map fz) = some (fz r, as.map fun d => some (fz d))
abbrev dR (rs : List (Int × Int)) : D := .tuple (rs.map dPair)
abbrev dPlan (b : Int) (ws : List (Int × Int)) : D := .tuple [.int b, dR ws]
theorem dPair_eq (p : Int × Int) : dPair p = .tuple [.int p.1, .int p.2] := rfl
@[simp] theorem argVs_nil (s : LS) : argVs s [] = some [] := rfl
@[simp] theorem argVs_v (s : LS) (d : D) (os : List Opd) : argVs s (.val d :: os) = (argVs s os).map (fz d :: ·) := by
  simp [argVs, argV]
@[simp] theorem argVs_l (s : LS) (i : Nat) (os : List Opd) : argVs s (.loc i :: os) = (argV s (.loc i)).bind fun x => (argVs s os).map (x :: ·) := rfl
@[simp] theorem argV_l (s : LS) (i : Nat) (d : D) (h : slot s i = some (fz d)) : argV s (.loc i) = some (fz d) := by simp [argV, h]
def IntSp (cf : CF) (i : Nat) : Prop := ∀ v a b : Int, Gives cf i [.int v, .int a, .int b] (.bool (decide (a ≤ v) && decide (v ≤ b)))
theorem is_integer_ok (cf : CF) (v a b : Int) : runFn cf S.is_integer [fz (.int v), fz (.int a), fz (.int b)] = some (fz (.bool (decide (a ≤ v) && decide (v ≤ b))), [some (fz (.int v)), some (fz (.int a)), some (fz (.int b))]) := by
  simp [runFn, S.is_integer, evR, isTy]
  by_cases h : a ≤ v <;> simp [h]
def okW (w : Int × Int) : Bool := (decide (0 ≤ w.1) && decide (w.1 ≤ MD)) && (decide (w.1 ≤ w.2) && decide (w.2 ≤ MD))
theorem is_work_ok {cf : CF} {ci : Nat} (h : IntSp cf ci) (w : Int × Int) : runFn cf (S.is_work ci) [fz (dPair w)] = some (fz (.bool (okW w)), [some (fz (dPair w))]) := by
  have h1 := h w.1 0 MD
  have h2 := h w.2 w.1 MD
  unfold Gives at h1 h2
  unfold okW
  simp only [List.map_cons, List.map_nil] at h1 h2
  cases hb : (decide (0 ≤ w.1) && decide (w.1 ≤ MD)) with
  | true =>
    rw [hb] at h1
    simp [runFn, S.is_work, evR, isTy, b1D, lenD, idxD, callE, byRef, backs, dPair_eq, h1, h2]
  | false =>
    rw [hb] at h1
    simp [runFn, S.is_work, evR, isTy, b1D, lenD, idxD, callE, byRef, backs, dPair_eq, h1]
def WorkSp (cf : CF) (i : Nat) : Prop := ∀ w : Int × Int, Gives cf i [dPair w] (.bool (okW w))
theorem mem_enum : ∀ {l : List D} {n : Nat} {x : D}, x ∈ enumFrom n l → ∃ k : Nat, ∃ d ∈ l, x = .tuple [.int k, d]
  | [], n, x, h => by cases h
  | y :: l, n, x, h => by
    rcases List.mem_cons.mp h with z | z
    · exact ⟨n, y, List.mem_cons_self, z⟩
    · obtain ⟨k, d, hd, e⟩ := mem_enum z
      exact ⟨k, d, List.mem_cons_of_mem _ hd, e⟩
structure Good (b : Int) (ws : List (Int × Int)) : Prop where
  b1 : 1 ≤ b
  b2 : b ≤ MD
  len : ws.length ≤ 30
  ws : ∀ w ∈ ws, okW w = true
theorem wrong_place_ok {cf : CF} {cw ci : Nat} (h : IntSp cf ci) (hw : WorkSp cf cw) {b : Int} {ws : List (Int × Int)} (g : Good b ws) : runFn cf (S.wrong_placeV0 cw ci) [fz (dPlan b ws)] = some (fz .none, [some (fz (dPlan b ws))]) := by
  have h1 := h b 1 MD
  unfold Gives at h1
  rw [decide_eq_true g.b1, decide_eq_true g.b2] at h1
  simp only [List.map_cons, List.map_nil, Bool.and_self] at h1
  have comp : evE cf (.lcp [2, 3] (.v 2) (.t [2, 3]) (.enu (.idx (.v 0) (.int 1))) (.yes (.not (.call cw (.cons (.v 3) .nil))))) [some (fz (dPlan b ws)), none, none, none] = some (⟨.ow, .list []⟩, [some (fz (dPlan b ws)), none, none, none]) := by
    have q := lcp_pure (cf := cf) (own := [2, 3]) (e := .v 2) (p := .t [2, 3]) (it := .enu (.idx (.v 0) (.int 1))) (c := .yes (.not (.call cw (.cons (.v 3) .nil)))) (s := [some (fz (dPlan b ws)), none, none, none]) (s0 := [some (fz (dPlan b ws)), none, none, none]) (ds := enumFrom 0 (ws.map dPair)) (o := none) (fun _ => [])
      (by simp [idxD, lockO]) (by rfl) (fun x hx => by
        obtain ⟨k, d, hd, rfl⟩ := mem_enum hx
        obtain ⟨w, hw2, rfl⟩ := List.mem_map.mp hd
        have h2 := hw w
        unfold Gives at h2
        rw [g.ws w hw2] at h2
        simp only [List.map_cons, List.map_nil] at h2
        simp [wipeS, callE, byRef, backs, h2]) (by rw [fm_nil]; rfl)
    rw [fm_nil] at q
    simpa [unlock] using q
  have hl : ¬ (30 < (ws.length : Int)) := by have := g.len; omega
  simp [runFn, S.wrong_placeV0, S.wrong_placeV0_c0, evR, isTy, b1D, lenD, idxD, callE, byRef, backs, h1, comp, cmp_ne_nil (n := 0), hl, isNone]
def PlaceSp (cf : CF) (i : Nat) : Prop := ∀ b ws, Good b ws → Gives cf i [dPlan b ws] .none
theorem need_plan_ok {cf : CF} {cp : Nat} (h : PlaceSp cf cp) {b : Int} {ws : List (Int × Int)} (g : Good b ws) : runFn cf (S.need_plan cp) [fz (dPlan b ws)] = some (fz (dPlan b ws), [some (fz (dPlan b ws))]) := by
  have h1 := h b ws g
  unfold Gives at h1
  simp only [List.map_cons, List.map_nil] at h1
  simp [runFn, S.need_plan, callE, byRef, backs, h1, isNone]
end M

end
section
set_option Elab.async false
set_option linter.all false
set_option maxRecDepth 100000
set_option maxHeartbeats 1000000
/-! D1: draws. -/
namespace M
open PySem LP
/-- the state of the draws -/
def dM (left seed : Int) (cells : List Int) (spot : Int) : List (D × D) := [(.str "left", .int left), (.str "seed", .int seed), (.str "cells", .list (cells.map .int)), (.str "spot", .int spot)]
section
variable (left seed spot v : Int) (cells : List Int)
theorem lk_left : idxD (.dict (dM left seed cells spot)) (.str "left") = some (.int left) := rfl
theorem lk_seed : idxD (.dict (dM left seed cells spot)) (.str "seed") = some (.int seed) := rfl
theorem lk_cells : idxD (.dict (dM left seed cells spot)) (.str "cells") = some (.list (cells.map .int)) := rfl
theorem lk_spot : idxD (.dict (dM left seed cells spot)) (.str "spot") = some (.int spot) := rfl
theorem pt_left : setD (.dict (dM left seed cells spot)) (.str "left") (.int v) = some (.dict (dM v seed cells spot)) := rfl
theorem pt_spot : setD (.dict (dM left seed cells spot)) (.str "spot") (.int v) = some (.dict (dM left seed cells v)) := rfl
end
/-- so many more draws are well -/
def MS (k : Nat) (d : D) : Prop := ∃ left seed spot cells, d = .dict (dM left seed cells spot) ∧ 0 ≤ seed ∧ seed < 2147483647 ∧ 0 ≤ spot ∧ spot + k ≤ 1000000000 ∧ 0 < cells.length ∧ cells.length ≤ 1000
theorem MS.mono {k l : Nat} {d : D} (h : MS k d) (hl : l ≤ k) : MS l d := by
  obtain ⟨left, seed, spot, cells, rfl, a, b, c, e, f, g⟩ := h
  exact ⟨left, seed, spot, cells, rfl, a, b, c, by omega, f, g⟩
abbrev io (d : D) : SV := ⟨.io, d⟩
theorem mulOk_l {i j : Int} (h : -18446744073709551616 < i ∧ i < 18446744073709551616) : mulOk i j = true := by
  unfold mulOk
  rw [Bool.or_eq_true, inB_iff]
  exact .inl (by omega)
theorem mulOk_r {i j : Int} (h : -18446744073709551616 < j ∧ j < 18446744073709551616) : mulOk i j = true := by
  unfold mulOk
  rw [Bool.or_eq_true, inB_iff, inB_iff]
  exact .inr (by omega)
theorem mul_l {i j : Int} (h : -18446744073709551616 < i ∧ i < 18446744073709551616) : binD .mul (.int i) (.int j) = some (.int (i * j)) := by simp only [binD, mulOk_l h, if_true]
theorem mul_r {i j : Int} (h : -18446744073709551616 < j ∧ j < 18446744073709551616) : binD .mul (.int i) (.int j) = some (.int (i * j)) := by simp only [binD, mulOk_r h, if_true]
theorem add_i (i j : Int) : binD .add (.int i) (.int j) = some (.int (i + j)) := rfl
theorem sub_i (i j : Int) : binD .sub (.int i) (.int j) = some (.int (i - j)) := rfl
theorem mod_i {i j : Int} (h : 0 < j) : binD .mod (.int i) (.int j) = some (.int (i % j)) := by simp only [binD, decide_eq_true h, if_true]
theorem fdiv_i {i j : Int} (h : 0 < j ∧ j.natAbs.log2 < 9000) : binD .fdiv (.int i) (.int j) = some (.int (i / j)) := by simp only [binD, decide_eq_true h, if_true]
theorem int_i (i : Int) : b1D .int (.int i) = some (.int i) := rfl
theorem len_l (l : List D) : b1D .len (.list l) = some (.int l.length) := rfl
theorem len_t (l : List D) : b1D .len (.tuple l) = some (.int l.length) := rfl
theorem log2_lt {n : Int} (h0 : 0 ≤ n) (h : n < 2 ^ 8000) : n.natAbs.log2 < 9000 := by
  by_cases hz : n.natAbs = 0
  · rw [hz]; decide
  · have h1 : n.natAbs < 2 ^ 8000 := by
      have : ((n.natAbs : Nat) : Int) < ((2 ^ 8000 : Nat) : Int) := by
        rw [Int.natAbs_of_nonneg h0]
        have e : ((2 ^ 8000 : Nat) : Int) = (2 : Int) ^ 8000 := by norm_cast
        rw [e]; exact h
      exact_mod_cast this
    exact Nat.lt_of_lt_of_le ((Nat.log2_lt hz).mpr h1) (by omega)
theorem getD_at {α : Type} {l : List α} {i : Nat} (h : i < l.length) {d : α} : l.getD i d = l[i] := by simp [List.getD, h]
section
variable {cf : CF}
theorem draw_ok {m : D} {k : Nat} {n : Int} (hm : MS (k + 1) m) (hn : 0 < n) (hn2 : n < 2 ^ 8000) : ∃ (r : Int) (m' : D), runFn cf S._law_drawV0 [io m, fz (.int n)] = some (fz (.int r), [some (io m'), some (fz (.int n))]) ∧ 0 ≤ r ∧ r < n ∧ MS k m' := by
  obtain ⟨left, seed, spot, cells, rfl, h1, h2, h3, h4, h5, h6⟩ := hm
  have hd : 0 < n ∧ n.natAbs.log2 < 9000 := ⟨hn, log2_lt (by omega) hn2⟩
  by_cases hl : 0 < left
  · refine ⟨left % n, .dict (dM (left / n) seed cells spot), ?_, Int.emod_nonneg _ (by omega), Int.emod_lt_of_pos _ hn, _, _, _, _, rfl, h1, h2, h3, by omega, h5, h6⟩
    simp (disch := first | (refine Pu.mk ?_; with_unfolding_all rfl) | (refine Pu.mk ?_; simp [puE, puEs, puO, puI, puK, ptIn, isV, isBad_om, isBad_f1]) | omega | (simp only [List.length_map, List.length_append, List.length_cons, List.length_nil, List.length_range]; omega)) [runFn, evR, lcp_s, scp_s, lc2_s, turnP, turn2, Function.comp, idx_l, idx_t, lockO, ownOk_n, ownOk_c, ownAt_s, ownAt_n, ownAt_f, wipeS_n, wipeS_c, compP_map, compP_some, some_ite, dPair_eq, fmIf, fmOne, fmId, mrgP, mrgS, mrgB, mrgI, szOk_filter, neNilI, eqNilI, neNilII, eqNilII, filter_em, callE, byRef, backs, leak, argV, unlock, free_om, ownAt_om, isBad_om, neNil0, eqNil0, free_oo, free_o1, free_f1, ownAt_f1, isBad_f1, S._law_drawV0, lk_left, lk_seed, lk_cells, lk_spot, pt_left, pt_spot, hl, int_i, mod_i hn, fdiv_i hd, setiS]
  · have hsp : spot % (cells.length : Int) < (cells.length : Int) := Int.emod_lt_of_pos _ (by omega)
    have hs0 : 0 ≤ spot % (cells.length : Int) := Int.emod_nonneg _ (by omega)
    have hat : L2.atI (cells.map PyData.int) (spot % (cells.length : Int)) = some (.int (cells.getD (spot % (cells.length : Int)).toNat 0)) := by
      generalize hq : spot % (cells.length : Int) = q at hsp hs0
      have e : q = (q.toNat : Int) := by omega
      rw [e, atI_nat (by rw [List.length_map]; omega)]
      rw [List.getElem_map, Int.toNat_natCast, getD_at (by omega)]
    generalize cells.getD (spot % (cells.length : Int)).toNat 0 = cell at hat
    have hcl : (0 : Int) < (cells.length : Int) := by omega
    have e1 := mul_l (i := 40503) (j := spot) (by omega)
    have e2 := mul_r (i := 40503 * spot) (j := spot) (by omega)
    have e3 := mul_l (i := 2) (j := spot) (by omega)
    have e4 := mul_r (i := cell) (j := 2 * spot + 3) (by omega)
    have e5 := mul_l (i := 69621) (j := spot) (by omega)
    generalize hb1 : (cell * (2 * spot + 3) + (seed + 40503 * spot * spot)) % 2147483647 = b1
    have hb1l : 0 ≤ b1 ∧ b1 < 2147483647 := by rw [← hb1]; exact ⟨Int.emod_nonneg _ (by omega), Int.emod_lt_of_pos _ (by omega)⟩
    have e6 := mul_l (i := b1) (j := b1) (by omega)
    generalize hb2 : (b1 * b1 + 69621 * spot + seed) % 2147483629 = b2
    have hb2l : 0 ≤ b2 ∧ b2 < 2147483629 := by rw [← hb2]; exact ⟨Int.emod_nonneg _ (by omega), Int.emod_lt_of_pos _ (by omega)⟩
    have e7 := mul_l (i := b2) (j := 48271) (by omega)
    have e8 : binD .fdiv (.int ((b2 * 48271 + spot) % 2147483647)) (.int 11) = some (.int ((b2 * 48271 + spot) % 2147483647 / 11)) := fdiv_i ⟨by omega, by decide⟩
    refine ⟨(b2 * 48271 + spot) % 2147483647 / 11 % n, .dict (dM left seed cells (spot + 1)), ?_, Int.emod_nonneg _ (by omega), Int.emod_lt_of_pos _ hn, _, _, _, _, rfl, h1, h2, by omega, by omega, h5, h6⟩
    simp (disch := first | (refine Pu.mk ?_; with_unfolding_all rfl) | (refine Pu.mk ?_; simp [puE, puEs, puO, puI, puK, ptIn, isV, isBad_om, isBad_f1]) | omega | (simp only [List.length_map, List.length_append, List.length_cons, List.length_nil, List.length_range]; omega)) [runFn, evR, lcp_s, scp_s, lc2_s, turnP, turn2, Function.comp, idx_l, idx_t, lockO, ownOk_n, ownOk_c, ownAt_s, ownAt_n, ownAt_f, wipeS_n, wipeS_c, compP_map, compP_some, some_ite, dPair_eq, fmIf, fmOne, fmId, mrgP, mrgS, mrgB, mrgI, szOk_filter, neNilI, eqNilI, neNilII, eqNilII, filter_em, callE, byRef, backs, leak, argV, unlock, free_om, ownAt_om, isBad_om, neNil0, eqNil0, free_oo, free_o1, free_f1, ownAt_f1, isBad_f1, S._law_drawV0, lk_left, lk_seed, lk_cells, lk_spot, pt_left, pt_spot, hl, int_i, mod_i, setiS, add_i, len_l, hat, e1, e2, e3, e4, e5, hb1, e6, hb2, e7, e8]
theorem atI_of {l : List D} {i : Int} (h0 : 0 ≤ i) (h : i < l.length) : L2.atI l i = some (l.getD i.toNat .none) := by
  have e : i = (i.toNat : Int) := by omega
  rw [e, atI_nat (by omega), Int.toNat_natCast, getD_at (by omega)]
/-- draws, as a caller sees them -/
def DrawSp (cf : CF) (i : Nat) : Prop := ∀ (m : D) (k : Nat) (n : Int), MS (k + 1) m → 0 < n → n < 2 ^ 8000 → ∃ (r : Int) (m' : D), cf i [io m, fz (.int n)] = some (fz (.int r), [some (io m'), some (fz (.int n))]) ∧ 0 ≤ r ∧ r < n ∧ MS k m'
/-- one of some -/
theorem of_ok {c : Nat} (hd : DrawSp cf c) {m : D} {k : Nat} {x : SV} {l : List D} (hx : x = fz (.list l) ∨ x = io (.list l)) (hm : MS (k + 1) m) (h0 : 0 < l.length) (hl : l.length ≤ 1000000) : ∃ (r : D) (m' : D), r ∈ l ∧ runFn cf (S._law_of c) [io m, x] = some (fz r, [some (io m'), some x]) ∧ MS k m' := by
  have big : (l.length : Int) < 2 ^ 8000 := Int.lt_of_le_of_lt (b := 1000000) (by omega) (by decide +kernel)
  obtain ⟨r, m', e, r0, r1, hm'⟩ := hd m k l.length hm (by omega) big
  refine ⟨l.getD r.toNat .none, m', ?_, ?_, hm'⟩
  · rw [getD_at (by omega)]
    exact List.getElem_mem _
  · rcases hx with rfl | rfl <;> simp (disch := first | (refine Pu.mk ?_; with_unfolding_all rfl) | (refine Pu.mk ?_; simp [puE, puEs, puO, puI, puK, ptIn, isV, isBad_om, isBad_f1]) | omega | (simp only [List.length_map, List.length_append, List.length_cons, List.length_nil, List.length_range]; omega)) [runFn, evR, lcp_s, scp_s, lc2_s, turnP, turn2, Function.comp, idx_l, idx_t, lockO, ownOk_n, ownOk_c, ownAt_s, ownAt_n, ownAt_f, wipeS_n, wipeS_c, compP_map, compP_some, some_ite, dPair_eq, fmIf, fmOne, fmId, mrgP, mrgS, mrgB, mrgI, szOk_filter, neNilI, eqNilI, neNilII, eqNilII, filter_em, callE, byRef, backs, leak, argV, unlock, free_om, ownAt_om, isBad_om, neNil0, eqNil0, free_oo, free_o1, free_f1, ownAt_f1, isBad_f1, S._law_of, len_l, e, atI_of r0 r1]
def OfSp (cf : CF) (i : Nat) : Prop := ∀ (m : D) (k : Nat) (x : SV) (l : List D), (x = fz (.list l) ∨ x = io (.list l)) → MS (k + 1) m → 0 < l.length → l.length ≤ 1000000 → ∃ (r : D) (m' : D), r ∈ l ∧ cf i [io m, x] = some (fz r, [some (io m'), some x]) ∧ MS k m'
end
end M

end
section
set_option Elab.async false
set_option linter.all false
set_option maxRecDepth 100000
set_option maxHeartbeats 1000000
/-! M2: joined ranges. -/
namespace M
open PySem LP
def jStep (acc : List (Int × Int)) (p : Int × Int) : List (Int × Int) := match acc.getLast? with
  | some q => if p.1 ≤ q.2 + 1 then acc.dropLast ++ [(q.1, if p.2 > q.2 then p.2 else q.2)] else acc ++ [p]
  | none => [p]
def join (ps : List (Int × Int)) : List (Int × Int) := (sortP (ps.filter fun p => decide (p.1 ≤ p.2))).foldl jStep []
theorem asInts_pairs : ∀ (p : Int × Int) (ps : List (Int × Int)), asInts ((p :: ps).map dPair) = none := fun p ps => rfl
theorem asPairs_map : ∀ ps : List (Int × Int), asPairs (ps.map dPair) = some ps
  | [] => rfl
  | p :: ps => by
    have := asPairs_map ps
    simp [asPairs, dPair, this]
theorem srt_pairs (ps : List (Int × Int)) : srtD (.list (ps.map dPair)) = some (.list ((sortP ps).map dPair)) := by
  cases ps with
  | nil => rfl
  | cons p ps =>
    have a := asInts_pairs p ps
    have b := asPairs_map (p :: ps)
    simp only [srtD, a, b]
    rfl
/-- over the items of a mapped list -/
theorem fm_map {α : Type} (f : α → D) (g : D → List D) (h : α → List D) (l : List α) (e : ∀ a ∈ l, g (f a) = h a) : (l.map f).flatMap g = l.flatMap h := by
  induction l with
  | nil => rfl
  | cons a l ih =>
    simp only [List.map_cons, List.flatMap_cons]
    rw [e a List.mem_cons_self, ih fun b hb => e b (List.mem_cons_of_mem _ hb)]
theorem fm_if {α : Type} (f : α → D) (t : α → Bool) (l : List α) : (l.flatMap fun a => if t a then [f a] else []) = (l.filter t).map f := by
  induction l with
  | nil => rfl
  | cons a l ih =>
    simp only [List.flatMap_cons, ih, List.filter_cons]
    cases t a <;> rfl
/-- the first and second of a pair -/
def d1 : D → Int
  | .tuple (.int i :: _) => i
  | _ => 0
def d2 : D → Int
  | .tuple [_, .int j] => j
  | _ => 0
@[simp] theorem idx_p0 (p : Int × Int) : idxD (dPair p) (.int 0) = some (.int p.1) := by simp [idxD, dPair_eq]
@[simp] theorem idx_p1 (p : Int × Int) : idxD (dPair p) (.int 1) = some (.int p.2) := by simp [idxD, dPair_eq]
@[simp] theorem d1_pair (p : Int × Int) : d1 (dPair p) = p.1 := rfl
@[simp] theorem d2_pair (p : Int × Int) : d2 (dPair p) = p.2 := rfl
section
variable {cf : CF}
/-- pairs handed over: as they are, or by reference -/
def ArgL (x : SV) (l : List D) : Prop := x = fz (.list l) ∨ x = fz (.tuple l) ∨ x = ⟨.io, .list l⟩
theorem joined_comp {x : SV} {ps : List (Int × Int)} (hx : ArgL x (ps.map dPair)) (hz : ps.length ≤ 1000000) :
    evE cf S.joined_c0 [some x, some ⟨.ow, .list []⟩, none, none, none]
      = some (⟨.ow, .list ((ps.filter fun p => decide (p.1 ≤ p.2)).map dPair)⟩, [some x, some ⟨.ow, .list []⟩, none, none, none]) := by
  have hl : szOk ((ps.map dPair).flatMap fun d => if decide (d1 d ≤ d2 d) then [d] else []).length = true := by
    rw [fm_map dPair _ (fun p => if decide (p.1 ≤ p.2) then [dPair p] else []) ps (fun a _ => rfl), fm_if]
    refine szOk_of ?_
    rw [List.length_map]
    exact Nat.le_trans (List.length_filter_le _ _) hz
  have key : ∀ s0 : LS, (∃ y, s0 = [some y, some ⟨.ow, .list []⟩, none, none, none]) → ∀ d ∈ ps.map dPair, ∃ s', ((bindP (wipeS s0 [4]) (.v 4) d).bind fun s2 => (evC cf (.yes (.cmp .le (.idx (.v 4) (.int 0)) (.idx (.v 4) (.int 1)))) s2).bind fun k => if k.1 then (evE cf (.v 4) k.2).map fun y => ([y.1.d], y.2) else some ([], k.2)) = some ((if decide (d1 d ≤ d2 d) then [d] else []), s') ∧ wipeS s' [4] = wipeS s0 [4] := by
    rintro s0 ⟨y, rfl⟩ d hd
    obtain ⟨p, hp, rfl⟩ := List.mem_map.mp hd
    cases hb : decide (d1 (dPair p) ≤ d2 (dPair p)) with
    | true =>
      have hb' : p.1 ≤ p.2 := of_decide_eq_true hb
      simp [wipeS, hb']
    | false =>
      have hb' : ¬ p.1 ≤ p.2 := of_decide_eq_false hb
      simp [wipeS, hb']
  have fin : ((ps.map dPair).flatMap fun d => if decide (d1 d ≤ d2 d) then [d] else []) = (ps.filter fun p => decide (p.1 ≤ p.2)).map dPair := by
    rw [fm_map dPair _ (fun p => if decide (p.1 ≤ p.2) then [dPair p] else []) ps (fun a _ => rfl), fm_if]
  rcases hx with rfl | rfl | rfl
  · have q := lcp_pure (cf := cf) (own := [4]) (e := .v 4) (p := .v 4) (it := .e (.v 0)) (s := [some (fz (.list (ps.map dPair))), some ⟨.ow, .list []⟩, none, none, none]) (ds := ps.map dPair) (o := none) _ (by simp [lockO]; rfl) rfl (key _ ⟨_, rfl⟩) hl
    rw [fin] at q
    exact q
  · have q := lcp_pure (cf := cf) (own := [4]) (e := .v 4) (p := .v 4) (it := .e (.v 0)) (s := [some (fz (.tuple (ps.map dPair))), some ⟨.ow, .list []⟩, none, none, none]) (ds := ps.map dPair) (o := none) _ (by simp [lockO]; rfl) rfl (key _ ⟨_, rfl⟩) hl
    rw [fin] at q
    exact q
  · have q := lcp_pure (cf := cf) (own := [4]) (e := .v 4) (p := .v 4) (it := .e (.v 0)) (s := [some ⟨.io, .list (ps.map dPair)⟩, some ⟨.ow, .list []⟩, none, none, none]) (ds := ps.map dPair) (o := some 0) _ (by simp [lockO]; rfl) rfl (key _ ⟨_, rfl⟩) hl
    rw [fin] at q
    exact q

/-- the state within joined's loop -/
def JS (x : SV) (acc : List (Int × Int)) (s : LS) : Prop := ∃ u v : Option D, s = [some x, some ⟨.ow, .list (acc.map dPair)⟩, u.map fz, v.map fz, none]
theorem free_map (u : Option D) (s : LS) : free (u.map fz :: s) 0 = true := by cases u <;> rfl
theorem max_if (a b : Int) : b2D .max (.int a) (.int b) = some (.int (if b > a then b else a)) := rfl
theorem jStep_len (acc : List (Int × Int)) (p : Int × Int) : (jStep acc p).length ≤ acc.length + 1 := by
  unfold jStep
  split
  · split
    · simp only [List.length_append, List.length_dropLast, List.length_singleton]; omega
    · simp
  · simp
theorem joined_turn {x : SV} {acc : List (Int × Int)} {s : LS} (p : Int × Int) (hz : acc.length < 1000000) (h : JS x acc s) :
    ∃ s', ((bindP s (.t [2, 3]) (dPair p)).bind fun s2 => evSs cf S.joined_b0 s2) = some (.nx s') ∧ JS x (jStep acc p) s' := by
  unfold S.joined_b0
  obtain ⟨u, v, rfl⟩ := h
  have hne : cmpD .ne (.list (acc.map dPair)) (.list []) = some (!(acc.map dPair).isEmpty) := cmp_ne_nil (Sh.map (Sh.pair 0) acc) (by omega)
  rcases List.eq_nil_or_concat acc with rfl | ⟨l, q, rfl⟩
  · refine ⟨[some x, some ⟨.ow, .list ([p].map dPair)⟩, some (fz (.int p.1)), some (fz (.int p.2)), none], ?_, some (.int p.1), some (.int p.2), rfl⟩
    simp [dPair_eq, free_map, cmp_ne_nil (n := 0), isTy, appS]
  · simp only [List.concat_eq_append] at hz hne ⊢
    have hmap : ((l ++ [q]).map dPair) = l.map dPair ++ [dPair q] := by simp
    have hemp : (!((l ++ [q]).map dPair).isEmpty) = true := by simp
    rw [hemp, hmap] at hne
    have hat : idxD (.list (l.map dPair ++ [dPair q])) (.int (-1)) = some (dPair q) := atI_last _ _
    have hset : setD (.list (l.map dPair ++ [dPair q])) (.int (-1)) (.tuple [.int q.1, .int (if q.2 < p.2 then p.2 else q.2)]) = some (.list (l.map dPair ++ [dPair (q.1, if q.2 < p.2 then p.2 else q.2)])) := by
      simp only [setD, ixN_last, Option.map_some]
      simp [dPair]
    have hj : jStep (l ++ [q]) p = if p.1 ≤ q.2 + 1 then l ++ [(q.1, if p.2 > q.2 then p.2 else q.2)] else l ++ [q] ++ [p] := by
      unfold jStep
      simp
    by_cases hc : p.1 ≤ q.2 + 1
    · rw [hj, if_pos hc]
      refine ⟨[some x, some ⟨.ow, .list ((l ++ [(q.1, if p.2 > q.2 then p.2 else q.2)]).map dPair)⟩, some (fz (.int p.1)), some (fz (.int p.2)), none], ?_, some (.int p.1), some (.int p.2), rfl⟩
      rw [hmap]
      simp [dPair_eq p, free_map, hne, hat, binD, hc, max_if, hset, setiS]
    · rw [hj, if_neg hc]
      refine ⟨[some x, some ⟨.ow, .list ((l ++ [q] ++ [p]).map dPair)⟩, some (fz (.int p.1)), some (fz (.int p.2)), none], ?_, some (.int p.1), some (.int p.2), rfl⟩
      rw [hmap]
      have hz' : l.length + 1 + 1 ≤ 1000000 := by simp only [List.length_append, List.length_singleton] at hz; omega
      simp [dPair_eq p, free_map, hne, hat, binD, hc, isTy, appS, hz', szOk_of]
theorem insP_len (x : Int × Int) : ∀ l : List (Int × Int), (insP x l).length = l.length + 1
  | [] => rfl
  | y :: r => by
    unfold insP
    split
    · rfl
    · rw [List.length_cons, insP_len x r, List.length_cons]
theorem sortP_len : ∀ l : List (Int × Int), (sortP l).length = l.length
  | [] => rfl
  | x :: r => by
    unfold sortP
    rw [insP_len, sortP_len r, List.length_cons]
theorem jfold_len : ∀ (l acc : List (Int × Int)), (l.foldl jStep acc).length ≤ acc.length + l.length
  | [], acc => by simp
  | p :: l, acc => by
    rw [List.foldl_cons]
    have := jfold_len l (jStep acc p)
    have := jStep_len acc p
    simp only [List.length_cons]
    omega
theorem join_len (ps : List (Int × Int)) : (join ps).length ≤ ps.length := by
  unfold join
  have h := jfold_len (sortP (ps.filter fun p => decide (p.1 ≤ p.2))) []
  rw [sortP_len, List.length_nil, Nat.zero_add] at h
  exact Nat.le_trans h (List.length_filter_le _ _)
theorem joined_loop {x : SV} {f : D → LS → Option Fl} : ∀ (l : List (Int × Int)) (acc : List (Int × Int)) (s : LS), (∀ (acc : List (Int × Int)) (s : LS) (p : Int × Int), acc.length < 1000000 → JS x acc s → ∃ s', f (dPair p) s = some (.nx s') ∧ JS x (jStep acc p) s') →
    acc.length + l.length ≤ 1000000 → JS x acc s → ∃ s', forL f (l.map dPair) s = some (.nx s') ∧ JS x (l.foldl jStep acc) s'
  | [], acc, s, _, _, h => ⟨s, rfl, h⟩
  | p :: l, acc, s, hf, hl, h => by
    simp only [List.length_cons] at hl
    obtain ⟨s1, e1, h1⟩ := hf acc s p (by omega) h
    obtain ⟨s2, e2, h2⟩ := joined_loop l (jStep acc p) s1 hf (by have := jStep_len acc p; omega) h1
    exact ⟨s2, by simp [forL, e1, e2], h2⟩
theorem joined_ok {x : SV} {ps : List (Int × Int)} (hx : ArgL x (ps.map dPair)) (hz : ps.length ≤ 1000000) : runFn cf S.joined [x] = some (fz (dR (join ps)), [some x]) := by
  have hc := joined_comp (cf := cf) hx hz
  have hl : (sortP (ps.filter fun p => decide (p.1 ≤ p.2))).length ≤ 1000000 := by
    rw [sortP_len]
    exact Nat.le_trans (List.length_filter_le _ _) hz
  obtain ⟨s', e, u, v, rfl⟩ := joined_loop (x := x) (f := fun x s1 => (bindP s1 (.t [2, 3]) x).bind fun s2 => evSs cf S.joined_b0 s2) (sortP (ps.filter fun p => decide (p.1 ≤ p.2))) [] [some x, some ⟨.ow, .list []⟩, none, none, none] (fun acc s p ha hs => joined_turn p ha hs) (by simpa using hl) ⟨none, none, rfl⟩
  have e' : evS cf (.for_ (.t [2, 3]) (.e (.b1 .sorted S.joined_c0)) S.joined_b0) [some x, some ⟨.ow, .list []⟩, none, none, none] = some (.nx [some x, some ⟨.ow, .list ((join ps).map dPair)⟩, u.map fz, v.map fz, none]) := by
    rw [evS_for]
    have hi : evI cf (.e (.b1 .sorted S.joined_c0)) [some x, some ⟨.ow, .list []⟩, none, none, none] = some ((sortP (ps.filter fun p => decide (p.1 ≤ p.2))).map dPair, none, [some x, some ⟨.ow, .list []⟩, none, none, none]) := by
      rw [evI_e, opA_b1, evE_b1, show ∀ r s, opA S.joined_c0 r s = r.map (fun x => (.val x.1.d, x.2)) from fun _ _ => rfl, hc]
      simp only [Option.map_some, Option.bind_some, getO_v, b1D, srt_pairs, fresh_l, lockO]
    rw [hi]
    simp only [Option.bind_some]
    rw [e]
    rfl
  simp only [runFn, S.joined, List.length_cons, List.length_nil, List.map_cons, List.map_nil, List.cons_append, List.nil_append]
  rw [evSs_cons]
  have e0 : evS cf (.asg (.v 1) (.lst .nil)) [some x, none, none, none, none] = some (.nx [some x, some ⟨.ow, .list []⟩, none, none, none]) := by simp
  show (if (0 + 1 = 1) then ((evS cf (.asg (.v 1) (.lst .nil)) [some x, none, none, none, none]).bind _).bind _ else none) = _
  rw [e0]
  simp only [Option.bind_some, evSs_cons, e', if_pos]
  simp [evR, b1D, tupD]
end
end M

end
section
set_option Elab.async false
set_option linter.all false
set_option maxRecDepth 100000
set_option maxHeartbeats 1000000
/-! M3: common ranges, segments, layers. -/
namespace M
open PySem LP
abbrev mx (a b : Int) : Int := if b > a then b else a
abbrev mn (a b : Int) : Int := if b < a then b else a
def meet (p q : Int × Int) : Int × Int := (mx p.1 q.1, mn p.2 q.2)
def comm (a b : List (Int × Int)) : List (Int × Int) := join (a.flatMap fun p => b.map fun q => meet p q)
def JoinSp (cf : CF) (i : Nat) : Prop := ∀ x ps, ArgL x (ps.map dPair) → ps.length ≤ 1000000 → cf i [x] = some (fz (dR (join ps)), [some x])
theorem min_if (a b : Int) : b2D .min (.int a) (.int b) = some (.int (if b < a then b else a)) := rfl
theorem fm_fm {α β : Type} (f : α → D) (g : D → List D) (h : α → List β) (k : β → D) (l : List α) (e : ∀ a ∈ l, g (f a) = (h a).map k) : (l.map f).flatMap g = (l.flatMap h).map k := by
  induction l with
  | nil => rfl
  | cons a l ih =>
    simp only [List.map_cons, List.flatMap_cons, List.map_append]
    rw [e a List.mem_cons_self, ih fun b hb => e b (List.mem_cons_of_mem _ hb)]
theorem fm_one {α β : Type} (g : α → β) (l : List α) : (l.flatMap fun a => [g a]) = l.map g := by induction l <;> simp_all
section
variable {cf : CF}
theorem len_fm {α β : Type} (a : List α) (b : List β) {γ : Type} (f : α → β → γ) : (a.flatMap fun p => b.map fun q => f p q).length = a.length * b.length := by
  induction a with
  | nil => simp
  | cons x a ih => rw [List.flatMap_cons, List.length_append, ih, List.length_map, List.length_cons, Nat.succ_mul]; omega
theorem common_comp {cj : Nat} {a b : List (Int × Int)} (hz : a.length * b.length ≤ 1000000) : evE cf (S.commonV0_c0 cj) [some (fz (dR a)), some (fz (dR b)), none, none, none, none] = some (⟨.ow, .list ((a.flatMap fun p => b.map fun q => meet p q).map dPair)⟩, [some (fz (dR a)), some (fz (dR b)), none, none, none, none]) := by
  have fin : ((a.map dPair).flatMap fun x => (b.map dPair).flatMap fun x2 => [dPair (mx (d1 x) (d1 x2), mn (d2 x) (d2 x2))]) = (a.flatMap fun p => b.map fun q => meet p q).map dPair :=
    fm_fm dPair _ (fun p => b.map fun q => meet p q) dPair a fun p _ => by
      rw [fm_one, List.map_map, List.map_map]
      rfl
  have q := lc2_pure (cf := cf) (own := [2, 3, 4, 5]) (own2 := [4, 5]) (e := .tup (.cons (.b2 .max (.v 2) (.v 4)) (.cons (.b2 .min (.v 3) (.v 5)) .nil))) (p := .t [2, 3]) (p2 := .t [4, 5]) (it := .e (.v 0)) (c := .no) (a2 := .v 1) (c2 := .no) (s := [some (fz (dR a)), some (fz (dR b)), none, none, none, none]) (s0 := [some (fz (dR a)), some (fz (dR b)), none, none, none, none]) (ds := a.map dPair) (o := none) (fun _ => b.map dPair) (fun x x2 => [dPair (mx (d1 x) (d1 x2), mn (d2 x) (d2 x2))]) (by simp [lockO]) rfl
    (fun x hx => by
      obtain ⟨p, _, rfl⟩ := List.mem_map.mp hx
      refine ⟨[some (fz (dR a)), some (fz (dR b)), some (fz (.int p.1)), some (fz (.int p.2)), none, none], _, _, _, by simp [dPair_eq, wipeS], rfl, leak_fz _ _ (dR b) rfl, rfl, rfl, rfl, fun x2 hx2 => ?_⟩
      obtain ⟨r, _, rfl⟩ := List.mem_map.mp hx2
      simp [dPair_eq, wipeS, max_if, min_if, d1, d2])
    (by rw [fin]; exact szOk_of (by rw [List.length_map, len_fm]; exact hz))
  rw [fin] at q
  exact q
theorem common_ok {cj : Nat} (hj : JoinSp cf cj) {a b : List (Int × Int)} (hz : a.length * b.length ≤ 1000000) : runFn cf (S.commonV0 cj) [fz (dR a), fz (dR b)] = some (fz (dR (comm a b)), [some (fz (dR a)), some (fz (dR b))]) := by
  have hc := common_comp (cf := cf) (cj := cj) hz
  have h1 := hj (fz (.list ((a.flatMap fun p => b.map fun q => meet p q).map dPair))) _ (.inl rfl) (by rw [len_fm]; exact hz)
  have ho : ∀ r s, opA (S.commonV0_c0 cj) r s = r.map (fun x => (.val x.1.d, x.2)) := fun _ _ => rfl
  simp [runFn, S.commonV0, evR, ho, hc, callE, byRef, backs, h1, comm]
end
end M

end
section
set_option Elab.async false
set_option linter.all false
set_option maxRecDepth 100000
set_option maxHeartbeats 1000000
/-! D2: loops; the state at the beginning; drawn plans. -/
namespace M
open PySem LP
/-- the last one met -/
def lastO {β : Type} : Option β → List β → Option β
  | o, [] => o
  | _, x :: l => lastO (some x) l
theorem forL_st {α β : Type} {f : D → LS → Option Fl} (enc : β → D) (st : α → Option β → LS) (g : α → β → α) (Inv : Nat → α → Prop) (N : Nat) (L : List β) (hf : ∀ n a o x, x ∈ L → n < N → Inv n a → f (enc x) (st a o) = some (.nx (st (g a x) (some x))) ∧ Inv (n + 1) (g a x)) :
    ∀ (l : List β) (n : Nat) (a : α) (o : Option β), (∀ x ∈ l, x ∈ L) → n + l.length = N → Inv n a → forL f (l.map enc) (st a o) = some (.nx (st (l.foldl g a) (lastO o l))) ∧ Inv N (l.foldl g a)
  | [], n, a, o, _, hn, h => ⟨rfl, by rw [List.length_nil, Nat.add_zero] at hn; rw [← hn]; exact h⟩
  | x :: l, n, a, o, hm, hn, h => by
    rw [List.length_cons] at hn
    obtain ⟨e1, h1⟩ := hf n a o x (hm x List.mem_cons_self) (by omega) h
    obtain ⟨e2, h2⟩ := forL_st enc st g Inv N L hf l (n + 1) (g a x) (some x) (fun y hy => hm y (List.mem_cons_of_mem _ hy)) (by omega) h1
    exact ⟨by simp [forL, e1, e2, lastO], h2⟩
/-- a loop with draws: so many turns are left -/
theorem forL_ex {β : Type} {f : D → LS → Option Fl} (enc : β → D) (R : Nat → LS → Prop) (L : List β) (hf : ∀ n x s, x ∈ L → R (n + 1) s → ∃ s', f (enc x) s = some (.nx s') ∧ R n s') :
    ∀ (l : List β) (n : Nat) (s : LS), (∀ x ∈ l, x ∈ L) → R (n + l.length) s → ∃ s', forL f (l.map enc) s = some (.nx s') ∧ R n s'
  | [], n, s, _, h => ⟨s, rfl, h⟩
  | x :: l, n, s, hm, h => by
    obtain ⟨s1, e1, h1⟩ := hf (n + l.length) x s (hm x List.mem_cons_self) (by rw [List.length_cons] at h; exact h)
    obtain ⟨s2, e2, h2⟩ := forL_ex enc R L hf l n s1 (fun y hy => hm y (List.mem_cons_of_mem _ hy)) h1
    exact ⟨s2, by simp [forL, e1, e2], h2⟩
theorem cutL_map {α β : Type} (f : α → β) (l : List α) (lo hi : Option Int) : cutL (l.map f) lo hi = (cutL l lo hi).map f := by
  unfold cutL
  rw [List.length_map, List.map_take, List.map_drop]
theorem cutL_len {α : Type} (l : List α) (lo hi : Option Int) : (cutL l lo hi).length ≤ l.length := by
  unfold cutL
  rw [List.length_take, List.length_drop]
  omega
theorem slc_l (l : List D) (lo hi : Option Int) : slcD (.list l) lo hi = some (.list (cutL l lo hi)) := rfl
theorem slc_t (l : List D) (lo hi : Option Int) : slcD (.tuple l) lo hi = some (.tuple (cutL l lo hi)) := rfl
theorem app_l {a b : List D} (h : a.length + b.length ≤ 1000000) : binD .add (.list a) (.list b) = some (.list (a ++ b)) := by simp only [binD, szOk_of h, if_true]
theorem app_t {a b : List D} (h : a.length + b.length ≤ 1000000) : binD .add (.tuple a) (.tuple b) = some (.tuple (a ++ b)) := by simp only [binD, szOk_of h, if_true]
theorem pow_i {i j : Int} (h : 0 ≤ j ∧ j ≤ 1000000 ∧ i.natAbs < 2 ^ 64) : binD .pow (.int i) (.int j) = some (.int (i ^ j.toNat)) := by simp only [binD, decide_eq_true h, if_true]
theorem pow18 : binD .pow (.int 10) (.int 18) = some (.int 1000000000000000000) := by rw [pow_i ⟨by omega, by omega, by decide⟩]; rfl
theorem pow30 : binD .pow (.int 10) (.int 30) = some (.int MD) := by rw [pow_i ⟨by omega, by omega, by decide⟩]; rfl
theorem pow6 : binD .pow (.int 10) (.int 6) = some (.int 1000000) := by rw [pow_i ⟨by omega, by omega, by decide⟩]; rfl
theorem pow27 : binD .pow (.int 10) (.int 27) = some (.int 1000000000000000000000000000) := by rw [pow_i ⟨by omega, by omega, by decide⟩]; rfl
theorem pow28 : binD .pow (.int 10) (.int 28) = some (.int 10000000000000000000000000000) := by rw [pow_i ⟨by omega, by omega, by decide⟩]; rfl
section
variable {cf : CF}
def seedStep (s c : Int) : Int := (s * 48271 + c) % 2147483647
theorem s_left_seed : (Str.ofString "left" = Str.ofString "seed") = False := eq_false (by decide)
theorem s_left_cells : (Str.ofString "left" = Str.ofString "cells") = False := eq_false (by decide)
theorem s_left_spot : (Str.ofString "left" = Str.ofString "spot") = False := eq_false (by decide)
theorem s_seed_left : (Str.ofString "seed" = Str.ofString "left") = False := eq_false (by decide)
theorem s_seed_cells : (Str.ofString "seed" = Str.ofString "cells") = False := eq_false (by decide)
theorem s_seed_spot : (Str.ofString "seed" = Str.ofString "spot") = False := eq_false (by decide)
theorem s_cells_left : (Str.ofString "cells" = Str.ofString "left") = False := eq_false (by decide)
theorem s_cells_seed : (Str.ofString "cells" = Str.ofString "seed") = False := eq_false (by decide)
theorem s_cells_spot : (Str.ofString "cells" = Str.ofString "spot") = False := eq_false (by decide)
theorem s_spot_left : (Str.ofString "spot" = Str.ofString "left") = False := eq_false (by decide)
theorem s_spot_seed : (Str.ofString "spot" = Str.ofString "seed") = False := eq_false (by decide)
theorem s_spot_cells : (Str.ofString "spot" = Str.ofString "cells") = False := eq_false (by decide)
theorem begun_loop (x0 x1 x3 : Option SV) (cells : List Int) (seed : Int) (hs : 0 ≤ seed ∧ seed < 2147483647) :
    evS cf (.for_ (.v 5) (.e (.v 2)) S._law_begun_b0) [x0, x1, some ⟨.ow, .list (cells.map .int)⟩, x3, some (fz (.int seed)), none] = some (.nx [x0, x1, some ⟨.ow, .list (cells.map .int)⟩, x3, some (fz (.int (cells.foldl seedStep seed))), (lastO none cells).map fun c => fz (.int c)]) ∧ 0 ≤ cells.foldl seedStep seed ∧ cells.foldl seedStep seed < 2147483647 := by
  have h := forL_st (f := fun x s1 => (bindP s1 (.v 5) x).bind fun s2 => evSs cf S._law_begun_b0 s2) PyData.int (fun s o => [x0, x1, some ⟨.lk, .list (cells.map .int)⟩, x3, some (fz (.int s)), o.map fun c => fz (.int c)]) seedStep (fun _ s => 0 ≤ s ∧ s < 2147483647) cells.length cells (fun _ s o c _ _ hs => by
    have e := mul_l (i := s) (j := 48271) (by omega)
    refine ⟨?_, Int.emod_nonneg _ (by omega), Int.emod_lt_of_pos _ (by omega)⟩
    simp (disch := first | (refine Pu.mk ?_; with_unfolding_all rfl) | (refine Pu.mk ?_; simp [puE, puEs, puO, puI, puK, ptIn, isV, isBad_om, isBad_f1]) | omega | (simp only [List.length_map, List.length_append, List.length_cons, List.length_nil, List.length_range]; omega)) [runFn, evR, lcp_s, scp_s, lc2_s, turnP, turn2, Function.comp, idx_l, idx_t, lockO, ownOk_n, ownOk_c, ownAt_s, ownAt_n, ownAt_f, wipeS_n, wipeS_c, compP_map, compP_some, some_ite, dPair_eq, fmIf, fmOne, fmId, mrgP, mrgS, mrgB, mrgI, szOk_filter, neNilI, eqNilI, neNilII, eqNilII, filter_em, callE, byRef, backs, leak, argV, unlock, free_om, ownAt_om, isBad_om, neNil0, eqNil0, free_oo, free_o1, free_f1, ownAt_f1, isBad_f1, S._law_begun_b0, e, add_i, int_i, mod_i, seedStep]) cells 0 seed none (fun _ h => h) (by omega) hs
  refine ⟨?_, h.2⟩
  rw [evS_for]
  have e : evI cf (.e (.v 2)) [x0, x1, some ⟨.ow, .list (cells.map .int)⟩, x3, some (fz (.int seed)), none] = some (cells.map .int, some 2, [x0, x1, some ⟨.lk, .list (cells.map .int)⟩, x3, some (fz (.int seed)), none]) := by simp [lockO]
  rw [e]
  simp only [Option.bind_some]
  rw [show forL _ (cells.map PyData.int) [x0, x1, some ⟨.lk, .list (cells.map .int)⟩, x3, some (fz (.int seed)), none] = _ from h.1]
  simp [Fl.map, unlock]
theorem begun_ok {ns : List Int} {k : Int} (hk : 0 ≤ k ∧ k ≤ 1000) (hl : ns.length ≤ 63) : ∃ m, runFn cf S._law_begun [fz (.list (ns.map .int)), fz (.int k)] = some (⟨.ow, m⟩, [some (fz (.list (ns.map .int))), some (fz (.int k))]) ∧ MS 1000000 m := by
  have h1 := cutL_len ns (some k) none
  have h2 := cutL_len ns none (some k)
  have hz := app_l (a := (cutL ns (some k) none).map PyData.int) (b := (cutL ns none (some k)).map PyData.int) (by simp only [List.length_map]; omega)
  rw [← List.map_append] at hz
  have hcl : (cutL ns (some k) none ++ cutL ns none (some k)).length ≤ 126 := by
    rw [List.length_append]
    omega
  generalize hc : cutL ns (some k) none ++ cutL ns none (some k) = cells at hz hcl
  obtain ⟨el, s0, s1⟩ := begun_loop (cf := cf) (some (fz (.list (ns.map .int)))) (some (fz (.int k))) (some ⟨.ow, .list ((cells.filter fun c => decide (1000000000000000000 ≤ c)).map .int)⟩) cells (97 + k) (by omega)
  generalize hgr : (cells.filter fun c => decide (1000000000000000000 ≤ c)) = gr at el
  refine ⟨.dict (dM (gr.headD 0) (cells.foldl seedStep (97 + k)) (cells ++ [31 * k + 5]) 0), ?_, _, _, _, _, rfl, s0, s1, by omega, by omega, by simp, by simp only [List.length_append, List.length_singleton]; omega⟩
  have e31 := mul_l (i := 31) (j := k) (by omega)
  have hgl : gr.length ≤ 126 := by rw [← hgr]; exact Nat.le_trans (List.length_filter_le _ _) hcl
  cases gr with
  | nil =>
    simp only [List.map_nil] at el
    simp (disch := first | (refine Pu.mk ?_; with_unfolding_all rfl) | (refine Pu.mk ?_; simp [puE, puEs, puO, puI, puK, ptIn, isV, isBad_om, isBad_f1]) | omega | (simp only [List.length_map, List.length_append, List.length_cons, List.length_nil, List.length_range]; omega)) [runFn, evR, lcp_s, scp_s, lc2_s, turnP, turn2, Function.comp, idx_l, idx_t, lockO, ownOk_n, ownOk_c, ownAt_s, ownAt_n, ownAt_f, wipeS_n, wipeS_c, compP_map, compP_some, some_ite, dPair_eq, fmIf, fmOne, fmId, mrgP, mrgS, mrgB, mrgI, szOk_filter, neNilI, eqNilI, neNilII, eqNilII, filter_em, callE, byRef, backs, leak, argV, unlock, free_om, ownAt_om, isBad_om, neNil0, eqNil0, free_oo, free_o1, free_f1, ownAt_f1, isBad_f1, S._law_begun, S._law_begun_c0, slc_l, cutL_map, hz, -evS_for, el, pow18, hgr, add_i, e31, app_l, dLook, dM, s_left_seed, s_left_cells, s_left_spot, s_seed_left, s_seed_cells, s_seed_spot, s_cells_left, s_cells_seed, s_cells_spot, s_spot_left, s_spot_seed, s_spot_cells, cmp_ne_nil (n := 0)]
  | cons g gr =>
    simp only [List.map_cons] at el
    simp only [List.length_cons] at hgl
    have hne : cmpD .ne (.list (PyData.int g :: gr.map PyData.int)) (.list []) = some true := neNilII (g :: gr)
    simp (disch := first | (refine Pu.mk ?_; with_unfolding_all rfl) | (refine Pu.mk ?_; simp [puE, puEs, puO, puI, puK, ptIn, isV, isBad_om, isBad_f1]) | omega | (simp only [List.length_map, List.length_append, List.length_cons, List.length_nil, List.length_range]; omega)) [runFn, evR, lcp_s, scp_s, lc2_s, turnP, turn2, Function.comp, idx_l, idx_t, lockO, ownOk_n, ownOk_c, ownAt_s, ownAt_n, ownAt_f, wipeS_n, wipeS_c, compP_map, compP_some, some_ite, dPair_eq, fmIf, fmOne, fmId, mrgP, mrgS, mrgB, mrgI, szOk_filter, neNilI, eqNilI, neNilII, eqNilII, filter_em, callE, byRef, backs, leak, argV, unlock, free_om, ownAt_om, isBad_om, neNil0, eqNil0, free_oo, free_o1, free_f1, ownAt_f1, isBad_f1, S._law_begun, S._law_begun_c0, slc_l, cutL_map, hz, -evS_for, el, pow18, hgr, add_i, e31, app_l, dLook, dM, s_left_seed, s_left_cells, s_left_spot, s_seed_left, s_seed_cells, s_seed_spot, s_cells_left, s_cells_seed, s_cells_spot, s_spot_left, s_spot_seed, s_spot_cells, hne]
theorem rg_map (r : Int) : rgD 0 r = (List.range r.toNat).map fun (i : Nat) => PyData.int i := by
  unfold rgD
  rw [Int.sub_zero]
  simp only [Int.zero_add]
theorem rgOk_of {r : Int} (h : 0 ≤ r ∧ r ≤ 1000000) : rgOk 0 r = true := by
  unfold rgOk
  rw [Bool.and_eq_true, inB_iff, inB_iff]
  omega
/-- a plan is being drawn -/
def PlSt (most many : Int) (k : Nat) (n : Nat) (s : LS) : Prop := ∃ (m : D) (ws : List (Int × Int)) (o4 : Option Int) (o5 : Option Int), s = [some (io m), some (fz (.int most)), some (fz (.int many)), some ⟨.ow, .list (ws.map dPair)⟩, o4.map fun c => fz (.int c), o5.map fun c => fz (.int c)] ∧
  MS (3 * n + k) m ∧ ws.length + n ≤ many ∧ ∀ w ∈ ws, 0 ≤ w.1 ∧ w.1 ≤ w.2 ∧ w.2 ≤ most
theorem plan_turn {cd co : Nat} (hd : DrawSp cf cd) (ho : OfSp cf co) {most many : Int} {k n : Nat} (i : Nat) {s : LS} (hm : 0 ≤ most ∧ most ≤ 1000000) (hmany : many ≤ 1000) (h : PlSt most many k (n + 1) s) :
    ∃ s', ((bindP s (.v 4) (.int i)).bind fun s2 => evSs cf (S._law_plan_b0 cd co) s2) = some (.nx s') ∧ PlSt most many k n s' := by
  obtain ⟨m, ws, o4, o5, rfl, h1, h2, h3⟩ := h
  have big : most + 1 < 2 ^ 8000 := Int.lt_of_le_of_lt (b := 1000001) (by omega) (by decide +kernel)
  obtain ⟨r1, m1, e1, a1, b1, ms1⟩ := hd m (3 * n + k + 2) (most + 1) (h1.mono (by omega)) (by omega) big
  obtain ⟨r2, m2, e2, a2, b2, ms2⟩ := hd m1 (3 * n + k + 1) (most + 1) ms1 (by omega) big
  obtain ⟨x, m3, hx, e3, ms3⟩ := ho m2 (3 * n + k) (fz (.list [.int 0, .int 1, .int 2, .int 3, .int r2])) _ (.inl rfl) ms2 (by simp) (by simp)
  obtain ⟨v, rfl, hv⟩ : ∃ v : Int, x = .int v ∧ 0 ≤ v := by
    simp only [List.mem_cons, List.not_mem_nil, or_false] at hx
    rcases hx with rfl | rfl | rfl | rfl | rfl
    · exact ⟨0, rfl, by omega⟩
    · exact ⟨1, rfl, by omega⟩
    · exact ⟨2, rfl, by omega⟩
    · exact ⟨3, rfl, by omega⟩
    · exact ⟨r2, rfl, a2⟩
  refine ⟨_, ?_, m3, ws ++ [(r1, if r1 + v < most then r1 + v else most)], some i, some r1, rfl, ms3, ?_, ?_⟩
  · have hz : ws.length + 1 ≤ 1000000 := by omega
    simp (disch := first | (refine Pu.mk ?_; with_unfolding_all rfl) | (refine Pu.mk ?_; simp [puE, puEs, puO, puI, puK, ptIn, isV, isBad_om, isBad_f1]) | omega | (simp only [List.length_map, List.length_append, List.length_cons, List.length_nil, List.length_range]; omega)) [runFn, evR, lcp_s, scp_s, lc2_s, turnP, turn2, Function.comp, idx_l, idx_t, lockO, ownOk_n, ownOk_c, ownAt_s, ownAt_n, ownAt_f, wipeS_n, wipeS_c, compP_map, compP_some, some_ite, dPair_eq, fmIf, fmOne, fmId, mrgP, mrgS, mrgB, mrgI, szOk_filter, neNilI, eqNilI, neNilII, eqNilII, filter_em, callE, byRef, backs, leak, argV, unlock, free_om, ownAt_om, isBad_om, neNil0, eqNil0, free_oo, free_o1, free_f1, ownAt_f1, isBad_f1, S._law_plan_b0, add_i, e1, e2, e3, min_if, isTy, appS, hz]
  · simp only [List.length_append, List.length_singleton]
    omega
  · intro w hw
    rcases List.mem_append.mp hw with z | z
    · exact h3 w z
    · rw [List.mem_singleton.mp z]
      dsimp only
      split <;> omega
theorem plan_ok {cd co : Nat} (hd : DrawSp cf cd) (ho : OfSp cf co) {m : D} {most many : Int} {k : Nat} (hm : 0 ≤ most ∧ most ≤ 1000000) (hmany : 0 ≤ many ∧ many ≤ 1000) (h : MS (3 * many.toNat + k + 2) m) :
    ∃ (b : Int) (ws : List (Int × Int)) (m' : D), runFn cf (S._law_plan cd co) [io m, fz (.int most), fz (.int many)] = some (fz (dPlan b ws), [some (io m'), some (fz (.int most)), some (fz (.int many))]) ∧ MS k m' ∧ 1 ≤ b ∧ b ≤ 5 ∧ ws.length ≤ many ∧ ∀ w ∈ ws, 0 ≤ w.1 ∧ w.1 ≤ w.2 ∧ w.2 ≤ most := by
  have big : many + 1 < 2 ^ 8000 := Int.lt_of_le_of_lt (b := 1000001) (by omega) (by decide +kernel)
  obtain ⟨r, m1, e1, a1, b1, ms1⟩ := hd m (3 * many.toNat + k + 1) (many + 1) h (by omega) big
  obtain ⟨s', e2, m2, ws, o4, o5, rfl, ms2, h2, h3⟩ := forL_ex (f := fun x s1 => (bindP s1 (.v 4) x).bind fun s2 => evSs cf (S._law_plan_b0 cd co) s2) (fun i : Nat => PyData.int i) (PlSt most many (k + 1)) (List.range r.toNat) (fun n x s _ hr => plan_turn hd ho x hm (by omega) hr) (List.range r.toNat) 0 [some (io m1), some (fz (.int most)), some (fz (.int many)), some ⟨.ow, .list []⟩, none, none] (fun _ h => h)
    ⟨m1, [], none, none, rfl, ms1.mono (by rw [List.length_range]; omega), by rw [List.length_range, List.length_nil]; omega, fun w hw => by cases hw⟩
  have big5 : (5 : Int) < 2 ^ 8000 := by decide +kernel
  obtain ⟨r3, m3, e3, a3, b3, ms3⟩ := hd m2 k 5 (ms2.mono (by omega)) (by omega) big5
  have ef : evS cf (.for_ (.v 4) (.rg1 (.call cd (.cons (.v 0) (.cons (.bin .add (.v 2) (.int 1)) .nil)))) (S._law_plan_b0 cd co)) [some (io m), some (fz (.int most)), some (fz (.int many)), some ⟨.ow, .list []⟩, none, none] = some (.nx [some (io m2), some (fz (.int most)), some (fz (.int many)), some ⟨.ow, .list (ws.map dPair)⟩, o4.map fun c => fz (.int c), o5.map fun c => fz (.int c)]) := by
    rw [evS_for]
    have e : evI cf (.rg1 (.call cd (.cons (.v 0) (.cons (.bin .add (.v 2) (.int 1)) .nil)))) [some (io m), some (fz (.int most)), some (fz (.int many)), some ⟨.ow, .list []⟩, none, none] = some ((List.range r.toNat).map fun (i : Nat) => PyData.int i, none, [some (io m1), some (fz (.int most)), some (fz (.int many)), some ⟨.ow, .list []⟩, none, none]) := by
      simp (disch := first | (refine Pu.mk ?_; with_unfolding_all rfl) | (refine Pu.mk ?_; simp [puE, puEs, puO, puI, puK, ptIn, isV, isBad_om, isBad_f1]) | omega | (simp only [List.length_map, List.length_append, List.length_cons, List.length_nil, List.length_range]; omega)) [runFn, evR, lcp_s, scp_s, lc2_s, turnP, turn2, Function.comp, idx_l, idx_t, lockO, ownOk_n, ownOk_c, ownAt_s, ownAt_n, ownAt_f, wipeS_n, wipeS_c, compP_map, compP_some, some_ite, dPair_eq, fmIf, fmOne, fmId, mrgP, mrgS, mrgB, mrgI, szOk_filter, neNilI, eqNilI, neNilII, eqNilII, filter_em, callE, byRef, backs, leak, argV, unlock, free_om, ownAt_om, isBad_om, neNil0, eqNil0, free_oo, free_o1, free_f1, ownAt_f1, isBad_f1, add_i, e1, rgOk_of, rg_map]
    rw [e]
    simp only [Option.bind_some]
    rw [e2]
    rfl
  refine ⟨1 + r3, ws, m3, ?_, ms3, by omega, by omega, by omega, h3⟩
  simp (disch := first | (refine Pu.mk ?_; with_unfolding_all rfl) | (refine Pu.mk ?_; simp [puE, puEs, puO, puI, puK, ptIn, isV, isBad_om, isBad_f1]) | omega | (simp only [List.length_map, List.length_append, List.length_cons, List.length_nil, List.length_range]; omega)) [runFn, evR, lcp_s, scp_s, lc2_s, turnP, turn2, Function.comp, idx_l, idx_t, lockO, ownOk_n, ownOk_c, ownAt_s, ownAt_n, ownAt_f, wipeS_n, wipeS_c, compP_map, compP_some, some_ite, dPair_eq, fmIf, fmOne, fmId, mrgP, mrgS, mrgB, mrgI, szOk_filter, neNilI, eqNilI, neNilII, eqNilII, filter_em, callE, byRef, backs, leak, argV, unlock, free_om, ownAt_om, isBad_om, neNil0, eqNil0, free_oo, free_o1, free_f1, ownAt_f1, isBad_f1, S._law_plan, -evS_for, ef, e3, add_i, b1D, tupD]
def PlanSp (cf : CF) (i : Nat) : Prop := ∀ (m : D) (most many : Int) (k : Nat), 0 ≤ most ∧ most ≤ 1000000 → 0 ≤ many ∧ many ≤ 1000 → MS (3 * many.toNat + k + 2) m →
    ∃ (b : Int) (ws : List (Int × Int)) (m' : D), cf i [io m, fz (.int most), fz (.int many)] = some (fz (dPlan b ws), [some (io m'), some (fz (.int most)), some (fz (.int many))]) ∧ MS k m' ∧ 1 ≤ b ∧ b ≤ 5 ∧ ws.length ≤ many ∧ ∀ w ∈ ws, 0 ≤ w.1 ∧ w.1 ≤ w.2 ∧ w.2 ≤ most
end
end M

end
section
set_option Elab.async false
set_option linter.all false
set_option maxRecDepth 100000
set_option maxHeartbeats 1000000
/-! D3: loops as statements; far plans. -/
namespace M
open PySem LP
section
variable {cf : CF}
theorem for_st {α β : Type} {p : Pt} {it : CI} {b : CSs} {s : LS} (enc : β → D) (st : α → Option β → LS) (g : α → β → α) (Inv : Nat → α → Prop) (l : List β) (a0 : α) (o : Option Nat) (hi : evI cf it s = some (l.map enc, o, st a0 none)) (h0 : Inv 0 a0)
    (hf : ∀ n a o' x, x ∈ l → n < l.length → Inv n a → ((bindP (st a o') p (enc x)).bind fun s2 => evSs cf b s2) = some (.nx (st (g a x) (some x))) ∧ Inv (n + 1) (g a x)) :
    evS cf (.for_ p it b) s = some (.nx (unlock (st (l.foldl g a0) (lastO none l)) o)) ∧ Inv l.length (l.foldl g a0) := by
  obtain ⟨h1, h2⟩ := forL_st (f := fun x s1 => (bindP s1 p x).bind fun s2 => evSs cf b s2) enc st g Inv l.length l hf l 0 a0 none (fun _ h => h) (by omega) h0
  refine ⟨?_, h2⟩
  rw [evS_for, hi]
  simp only [Option.bind_some]
  rw [h1]
  rfl
theorem for_ex {β : Type} {p : Pt} {it : CI} {b : CSs} {s s1 : LS} (enc : β → D) (R : Nat → LS → Prop) (l : List β) (n : Nat) (o : Option Nat) (hi : evI cf it s = some (l.map enc, o, s1)) (h0 : R (n + l.length) s1)
    (hf : ∀ n x s, x ∈ l → R (n + 1) s → ∃ s', ((bindP s p (enc x)).bind fun s2 => evSs cf b s2) = some (.nx s') ∧ R n s') :
    ∃ s', evS cf (.for_ p it b) s = some (.nx (unlock s' o)) ∧ R n s' := by
  obtain ⟨s', h1, h2⟩ := forL_ex (f := fun x s1 => (bindP s1 p x).bind fun s2 => evSs cf b s2) enc R l hf l n s1 (fun _ h => h) h0
  refine ⟨s', ?_, h2⟩
  rw [evS_for, hi]
  simp only [Option.bind_some]
  rw [h1]
  rfl
/-- a loop, by what is left -/
theorem forL_rem {β : Type} {f : D → LS → Option Fl} (enc : β → D) (R : List β → LS → Prop) (hf : ∀ x l s, R (x :: l) s → ∃ s', f (enc x) s = some (.nx s') ∧ R l s') : ∀ (l : List β) (s : LS), R l s → ∃ s', forL f (l.map enc) s = some (.nx s') ∧ R [] s'
  | [], s, h => ⟨s, rfl, h⟩
  | x :: l, s, h => by
    obtain ⟨s1, e1, h1⟩ := hf x l s h
    obtain ⟨s2, e2, h2⟩ := forL_rem enc R hf l s1 h1
    exact ⟨s2, by simp [forL, e1, e2], h2⟩
theorem for_rem {β : Type} {p : Pt} {it : CI} {b : CSs} {s s1 : LS} (enc : β → D) (R : List β → LS → Prop) (l : List β) (o : Option Nat) (hi : evI cf it s = some (l.map enc, o, s1)) (h0 : R l s1)
    (hf : ∀ x l' s, R (x :: l') s → ∃ s', ((bindP s p (enc x)).bind fun s2 => evSs cf b s2) = some (.nx s') ∧ R l' s') :
    ∃ s', evS cf (.for_ p it b) s = some (.nx (unlock s' o)) ∧ R [] s' := by
  obtain ⟨s', h1, h2⟩ := forL_rem (f := fun x s1 => (bindP s1 p x).bind fun s2 => evSs cf b s2) enc R hf l s1 h0
  refine ⟨s', ?_, h2⟩
  rw [evS_for, hi]
  simp only [Option.bind_some]
  rw [h1]
  rfl
/-- a loop, by the number of its turn -/
theorem forL_ix {β : Type} {f : D → LS → Option Fl} (enc : β → D) (R : Nat → LS → Prop) (L : List β) (hf : ∀ n x s, L[n]? = some x → R n s → ∃ s', f (enc x) s = some (.nx s') ∧ R (n + 1) s') : ∀ (l : List β) (n : Nat) (s : LS), L.drop n = l → R n s → ∃ s', forL f (l.map enc) s = some (.nx s') ∧ R (n + l.length) s'
  | [], n, s, _, h => ⟨s, rfl, h⟩
  | x :: l, n, s, e, h => by
    have hx : L[n]? = some x := by
      have := congrArg (fun q => q[0]?) e
      simpa using this
    have hd : L.drop (n + 1) = l := by
      have := congrArg List.tail e
      simpa using this
    obtain ⟨s1, e1, h1⟩ := hf n x s hx h
    obtain ⟨s2, e2, h2⟩ := forL_ix enc R L hf l (n + 1) s1 hd h1
    exact ⟨s2, by simp [forL, e1, e2], by rw [List.length_cons, show n + (l.length + 1) = n + 1 + l.length by omega]; exact h2⟩
theorem for_ix {β : Type} {p : Pt} {it : CI} {b : CSs} {s s1 : LS} (enc : β → D) (R : Nat → LS → Prop) (l : List β) (o : Option Nat) (hi : evI cf it s = some (l.map enc, o, s1)) (h0 : R 0 s1)
    (hf : ∀ n x s, l[n]? = some x → R n s → ∃ s', ((bindP s p (enc x)).bind fun s2 => evSs cf b s2) = some (.nx s') ∧ R (n + 1) s') :
    ∃ s', evS cf (.for_ p it b) s = some (.nx (unlock s' o)) ∧ R l.length s' := by
  obtain ⟨s', h1, h2⟩ := forL_ix (f := fun x s1 => (bindP s1 p x).bind fun s2 => evSs cf b s2) enc R l hf l 0 s1 rfl h0
  rw [Nat.zero_add] at h2
  refine ⟨s', ?_, h2⟩
  rw [evS_for, hi]
  simp only [Option.bind_some]
  rw [h1]
  rfl
/-- a loop that leaves all but its own name as it is -/
theorem for_id {β : Type} {p : Pt} {it : CI} {b : CSs} {s : LS} (enc : β → D) (st : Option β → LS) (l : List β) (o : Option Nat) (hi : evI cf it s = some (l.map enc, o, st none))
    (hf : ∀ o' x, x ∈ l → ((bindP (st o') p (enc x)).bind fun s2 => evSs cf b s2) = some (.nx (st (some x)))) :
    evS cf (.for_ p it b) s = some (.nx (unlock (st (lastO none l)) o)) :=
  (for_st enc (fun (_ : Unit) => st) (fun a _ => a) (fun _ _ => True) l () o hi trivial fun _ _ o' x hx _ _ => ⟨hf o' x hx, trivial⟩).1
theorem lt8000 {n : Int} (h : n ≤ 1000000000000000000000000000000000000) : n < 2 ^ 8000 := Int.lt_of_le_of_lt h (by decide +kernel)
def wides : List D := [.int 1, .int 1000003, .int 1000000000000000000000000007]
theorem far_plan_ok {cd co cp : Nat} (hd : DrawSp cf cd) (ho : OfSp cf co) (hp : PlanSp cf cp) {m : D} {many : Int} {k : Nat} (hmany : 0 ≤ many ∧ many ≤ 30) (h : MS (5 * many.toNat + k + 5) m) :
    ∃ (b : Int) (ws : List (Int × Int)) (m' : D), runFn cf (S._law_far_plan cd co cp) [io m, fz (.int many)] = some (fz (dPlan b ws), [some (io m'), some (fz (.int many))]) ∧ MS k m' ∧ Good b ws ∧ ws.length ≤ many := by
  obtain ⟨b, ws, m1, e1, ms1, b1, b5, wl, wb⟩ := hp m 40 many (2 * many.toNat + k + 3) (by omega) (by omega) (h.mono (by omega))
  obtain ⟨x, m2, hx, e2, ms2⟩ := ho m1 (2 * many.toNat + k + 2) (fz (.list wides)) _ (.inl rfl) ms1 (by decide) (by decide)
  obtain ⟨wide, rfl, hw1, hw2⟩ : ∃ v : Int, x = .int v ∧ 1 ≤ v ∧ v ≤ 1000000000000000000000000007 := by
    simp only [wides, List.mem_cons, List.not_mem_nil, or_false] at hx
    rcases hx with rfl | rfl | rfl
    · exact ⟨_, rfl, by omega, by omega⟩
    · exact ⟨_, rfl, by omega, by omega⟩
    · exact ⟨_, rfl, by omega, by omega⟩
  obtain ⟨shift, m3, e3, s0, s1, ms3⟩ := hd m2 (2 * many.toNat + k + 1) 10000000000000000000000000000 ms2 (by omega) (lt8000 (by omega))
  have wl' : ws.length ≤ 30 := by omega
  obtain ⟨s', e4, m4, fs, o7, o9, rfl, ms4, fl, fb⟩ := for_ex (cf := cf) (p := .t [7, 8]) (it := .e (.v 4)) (b := S._law_far_plan_b0 cd co cp) (s := [some (io m3), some (fz (.int many)), some ⟨.ow, .list []⟩, some (fz (.int b)), some (fz (dR ws)), some (fz (.int wide)), some (fz (.int shift)), none, none, none]) dPair
    (fun n s => ∃ (m : D) (fs : List (Int × Int)) (o7 : Option (Int × Int)) (o9 : Option Int), s = [some (io m), some (fz (.int many)), some ⟨.ow, .list (fs.map dPair)⟩, some (fz (.int b)), some (fz (dR ws)), some (fz (.int wide)), some (fz (.int shift)), o7.map fun c => fz (.int c.1), o7.map fun c => fz (.int c.2), o9.map fun c => fz (.int c)] ∧
      MS (2 * n + k + 1) m ∧ fs.length + n ≤ ws.length ∧ ∀ w ∈ fs, okW w = true) ws 0 none (by simp (disch := first | (refine Pu.mk ?_; with_unfolding_all rfl) | (refine Pu.mk ?_; simp [puE, puEs, puO, puI, puK, ptIn, isV, isBad_om, isBad_f1]) | omega | (simp only [List.length_map, List.length_append, List.length_cons, List.length_nil, List.length_range]; omega)) [runFn, evR, lcp_s, scp_s, lc2_s, turnP, turn2, Function.comp, idx_l, idx_t, lockO, ownOk_n, ownOk_c, ownAt_s, ownAt_n, ownAt_f, wipeS_n, wipeS_c, compP_map, compP_some, some_ite, dPair_eq, fmIf, fmOne, fmId, mrgP, mrgS, mrgB, mrgI, szOk_filter, neNilI, eqNilI, neNilII, eqNilII, filter_em, callE, byRef, backs, leak, argV, unlock, free_om, ownAt_om, isBad_om, neNil0, eqNil0, free_oo, free_o1, free_f1, ownAt_f1, isBad_f1]) ⟨m3, [], none, none, rfl, ms3.mono (by omega), by simp, fun w hw => by cases hw⟩
    (fun n w s hw ⟨m, fs, o7, o9, es, ms, fl, fb⟩ => by
      subst es
      obtain ⟨w0, w1, w2⟩ := wb w hw
      obtain ⟨r1, n1, q1, a1, c1, t1⟩ := hd m (2 * n + k + 2) 3 (ms.mono (by omega)) (by omega) (lt8000 (by omega))
      obtain ⟨r2, n2, q2, a2, c2, t2⟩ := hd n1 (2 * n + k + 1) 3 t1 (by omega) (lt8000 (by omega))
      have p1 := mul_l (i := w.1) (j := wide) (by omega)
      have p2 := mul_l (i := w.2) (j := wide) (by omega)
      have p3 : 0 ≤ w.1 * wide := Int.mul_nonneg (by omega) (by omega)
      have p4 : w.1 * wide ≤ 40 * 1000000000000000000000000007 := Int.mul_le_mul (by omega) hw2 (by omega) (by omega)
      have p5 : 0 ≤ w.2 * wide := Int.mul_nonneg (by omega) (by omega)
      have p6 : w.2 * wide ≤ 40 * 1000000000000000000000000007 := Int.mul_le_mul (by omega) hw2 (by omega) (by omega)
      refine ⟨_, ?_, n2, fs ++ [(w.1 * wide + shift + r1, if w.2 * wide + shift + r2 > w.1 * wide + shift + r1 then w.2 * wide + shift + r2 else w.1 * wide + shift + r1)], some w, some (w.1 * wide + shift + r1), rfl, t2, ?_, ?_⟩
      · have hz : fs.length + 1 ≤ 1000000 := by omega
        simp (disch := first | (refine Pu.mk ?_; with_unfolding_all rfl) | (refine Pu.mk ?_; simp [puE, puEs, puO, puI, puK, ptIn, isV, isBad_om, isBad_f1]) | omega | (simp only [List.length_map, List.length_append, List.length_cons, List.length_nil, List.length_range]; omega)) [runFn, evR, lcp_s, scp_s, lc2_s, turnP, turn2, Function.comp, idx_l, idx_t, lockO, ownOk_n, ownOk_c, ownAt_s, ownAt_n, ownAt_f, wipeS_n, wipeS_c, compP_map, compP_some, some_ite, dPair_eq, fmIf, fmOne, fmId, mrgP, mrgS, mrgB, mrgI, szOk_filter, neNilI, eqNilI, neNilII, eqNilII, filter_em, callE, byRef, backs, leak, argV, unlock, free_om, ownAt_om, isBad_om, neNil0, eqNil0, free_oo, free_o1, free_f1, ownAt_f1, isBad_f1, S._law_far_plan_b0, p1, p2, add_i, q1, q2, max_if, isTy, appS, hz]
      · simp only [List.length_append, List.length_singleton]; omega
      · intro v hv
        rcases List.mem_append.mp hv with z | z
        · exact fb v z
        · rw [List.mem_singleton.mp z]
          unfold okW MD
          simp only [Bool.and_eq_true, decide_eq_true_eq]
          generalize w.1 * wide = A at *
          generalize w.2 * wide = B at *
          split <;> omega)
  obtain ⟨r, m5, e5, r0, r1, ms5⟩ := hd m4 k 3 (ms4.mono (by omega)) (by omega) (lt8000 (by omega))
  have p1 := mul_l (i := b) (j := wide) (by omega)
  have p4 : b * wide ≤ 5 * 1000000000000000000000000007 := Int.mul_le_mul (by omega) hw2 (by omega) (by omega)
  refine ⟨if b * wide - r > 1 then b * wide - r else 1, fs, m5, ?_, ms5, ⟨?_, ?_, by omega, fb⟩, by omega⟩
  · simp only [wides] at e2
    simp only [unlock] at e4
    simp (disch := first | (refine Pu.mk ?_; with_unfolding_all rfl) | (refine Pu.mk ?_; simp [puE, puEs, puO, puI, puK, ptIn, isV, isBad_om, isBad_f1]) | omega | (simp only [List.length_map, List.length_append, List.length_cons, List.length_nil, List.length_range]; omega)) [runFn, evR, lcp_s, scp_s, lc2_s, turnP, turn2, Function.comp, idx_l, idx_t, lockO, ownOk_n, ownOk_c, ownAt_s, ownAt_n, ownAt_f, wipeS_n, wipeS_c, compP_map, compP_some, some_ite, dPair_eq, fmIf, fmOne, fmId, mrgP, mrgS, mrgB, mrgI, szOk_filter, neNilI, eqNilI, neNilII, eqNilII, filter_em, callE, byRef, backs, leak, argV, unlock, free_om, ownAt_om, isBad_om, neNil0, eqNil0, free_oo, free_o1, free_f1, ownAt_f1, isBad_f1, S._law_far_plan, -evS_for, e1, e2, e3, e4, e5, add_i, sub_i, pow6, pow27, pow28, p1, max_if, b1D, tupD]
  · split <;> omega
  · unfold MD
    split <;> omega
def FarSp (cf : CF) (i : Nat) : Prop := ∀ (m : D) (many : Int) (k : Nat), 0 ≤ many ∧ many ≤ 30 → MS (5 * many.toNat + k + 5) m →
    ∃ (b : Int) (ws : List (Int × Int)) (m' : D), cf i [io m, fz (.int many)] = some (fz (dPlan b ws), [some (io m'), some (fz (.int many))]) ∧ MS k m' ∧ Good b ws ∧ ws.length ≤ many
end
end M

end
section
set_option Elab.async false
set_option linter.all false
set_option maxRecDepth 100000
set_option maxHeartbeats 1000000
/-! RP: what repr can show. -/
namespace M
open PySem LP
/-- can be shown: so deep, so long -/
structure Rp (k n : Nat) (d : D) : Prop where
  nd : emD d = true
  sh : d.showable = true
  dp : d.depth ≤ k
  ln : d.shown.length ≤ n
theorem Rp.ok {k n : Nat} {d : D} (h : Rp k n d) (hk : k ≤ 64) (hn : n ≤ 16000000) : b1D .repr d = some (.str d.shown) := by
  have hz : szOk d.shown.length = true := by
    unfold szOk
    rw [decide_eq_true_eq]
    have := h.ln
    unfold sizeLine
    omega
  have hd : decide (d.depth ≤ 64) = true := decide_eq_true (Nat.le_trans h.dp hk)
  show repD d = _
  unfold repD
  rw [h.nd, h.sh, hd, hz]
  rfl
theorem Rp.mono {k n k' n' : Nat} {d : D} (h : Rp k n d) (hk : k ≤ k') (hn : n ≤ n') : Rp k' n' d := ⟨h.nd, h.sh, Nat.le_trans h.dp hk, Nat.le_trans h.ln hn⟩
theorem Rp.none (k : Nat) : Rp k 60 .none := ⟨rfl, rfl, Nat.zero_le _, by decide +kernel⟩
theorem Rp.bool (k : Nat) (b : Bool) : Rp k 60 (.bool b) := ⟨rfl, rfl, Nat.zero_le _, by cases b <;> decide +kernel⟩
theorem Rp.int (k : Nat) {i : Int} (h : -1000000000000000000000000000000000000000000000 < i ∧ i < 1000000000000000000000000000000000000000000000) : Rp k 60 (.int i) := by
  have hn : i.natAbs < 10 ^ 45 := by omega
  refine ⟨rfl, ?_, Nat.zero_le _, ?_⟩
  · show decide (i.natAbs.log2 < 1920) = true
    rw [decide_eq_true_eq]
    by_cases hz : i.natAbs = 0
    · rw [hz]; decide
    · have h2 : i.natAbs < 2 ^ 200 := Nat.lt_of_lt_of_le hn (by decide)
      exact Nat.lt_of_lt_of_le ((Nat.log2_lt hz).mpr h2) (by omega)
  · have e : (PyData.shown (.int i)).length = (toString i).length := by
      show (Str.ofString (toString i)).length = _
      rw [ofString_length]
    rw [e]
    exact Nat.le_trans (int_text_length_le10 (by omega) hn) (by omega)
theorem shownAll_len : ∀ xs : List D, (PyData.shownAll xs).length = xs.length
  | [] => rfl
  | x :: xs => by simp only [PyData.shownAll, List.length_cons, shownAll_len xs]
theorem Rp.all {k n : Nat} : ∀ {xs : List D}, (∀ x ∈ xs, Rp k n x) → emDs xs = true ∧ PyData.showableAll xs = true ∧ PyData.depthAll xs ≤ k ∧ ((PyData.shownAll xs).map (·.length)).sum ≤ xs.length * n
  | [], _ => ⟨rfl, rfl, Nat.zero_le _, by simp [PyData.shownAll]⟩
  | x :: xs, h => by
    obtain ⟨a, b, c, d⟩ := Rp.all (xs := xs) fun y hy => h y (List.mem_cons_of_mem _ hy)
    obtain ⟨a', b', c', d'⟩ := h x List.mem_cons_self
    refine ⟨by simp only [emDs, a, a', Bool.and_self], by simp only [PyData.showableAll, b, b', Bool.and_self], by simp only [PyData.depthAll]; exact Nat.max_le.mpr ⟨c', c⟩, ?_⟩
    simp only [PyData.shownAll, List.map_cons, List.sum_cons, List.length_cons, Nat.succ_mul]
    omega
theorem Rp.list {k n : Nat} {xs : List D} (m : Nat) (hm : xs.length ≤ m) (h : ∀ x ∈ xs, Rp k n x) : Rp (k + 1) (m * (n + 2) + 3) (.list xs) := by
  obtain ⟨a, b, c, d⟩ := Rp.all h
  refine ⟨by simpa only [emD] using a, by simpa only [PyData.showable] using b, by simp only [PyData.depth]; omega, ?_⟩
  have := listText_len_le (PyData.shownAll xs)
  rw [shownAll_len] at this
  show (listText (PyData.shownAll xs)).length ≤ _
  have h2 : xs.length * (n + 2) ≤ m * (n + 2) := Nat.mul_le_mul hm (Nat.le_refl _)
  rw [Nat.mul_add] at h2
  omega
theorem Rp.tup {k n : Nat} {xs : List D} (m : Nat) (hm : xs.length ≤ m) (h : ∀ x ∈ xs, Rp k n x) : Rp (k + 1) (m * (n + 2) + 3) (.tuple xs) := by
  obtain ⟨a, b, c, d⟩ := Rp.all h
  refine ⟨by simpa only [emD] using a, by simpa only [PyData.showable] using b, by simp only [PyData.depth]; omega, ?_⟩
  have := tupleText_len_le (PyData.shownAll xs)
  rw [shownAll_len] at this
  show (tupleText (PyData.shownAll xs)).length ≤ _
  have h2 : xs.length * (n + 2) ≤ m * (n + 2) := Nat.mul_le_mul hm (Nat.le_refl _)
  rw [Nat.mul_add] at h2
  omega
def B45 (i : Int) : Prop := -1000000000000000000000000000000000000000000000 < i ∧ i < 1000000000000000000000000000000000000000000000
theorem Rp.pair {p : Int × Int} (h : B45 p.1 ∧ B45 p.2) : Rp 1 127 (dPair p) := Rp.tup (n := 60) 2 (by simp) fun x hx => by
  simp only [List.mem_cons, List.not_mem_nil, or_false] at hx
  rcases hx with rfl | rfl
  · exact Rp.int 0 h.1
  · exact Rp.int 0 h.2
theorem Rp.dR {rs : List (Int × Int)} (hl : rs.length ≤ 1000) (h : ∀ p ∈ rs, B45 p.1 ∧ B45 p.2) : Rp 2 129003 (dR rs) := Rp.tup (n := 127) 1000 (by simpa using hl) fun x hx => by
  obtain ⟨p, hp, rfl⟩ := List.mem_map.mp hx
  exact Rp.pair (h p hp)
/-- texts compared -/
theorem eqS (s : Str) : cmpD .eq (.str s) (.str s) = some true := by
  show some (decide (s = s)) = _
  rw [decide_eq_true rfl]
theorem neS (s : Str) : cmpD .ne (.str s) (.str s) = some false := by
  show some (!decide (s = s)) = _
  rw [decide_eq_true rfl]
  rfl
end M

end
section
set_option Elab.async false
set_option linter.all false
namespace L_k24
open PySem LP
abbrev f_law_begun : Fn := S._law_begun
abbrev f_law_draw : Fn := S._law_drawV0
abbrev f_law_of : Fn := S._law_of 1
abbrev f_law_any : Fn := S._law_any 2
abbrev f_law_made : Fn := S._law_made
abbrev f_law_field : Fn := S._law_field
abbrev f_law_kinds : Fn := S._law_kinds
abbrev f_law : Fn := S.lawV18 6 5 4 3 0
def tab : List Fn := [f_law_begun, f_law_draw, f_law_of, f_law_any, f_law_made, f_law_field, f_law_kinds, f_law]
end L_k24

end
section
set_option Elab.async false
set_option linter.all false
set_option maxRecDepth 100000
set_option maxHeartbeats 4000000
/-! the law k24, over the interpreter -/
namespace L_k24
open PySem LP M
def anyA : List D := [.none, .int 0, .int 5, .int (-1), .bool true, .int MD, .str "", .str "late", .str "form", .tuple [], .tuple [.int 0]]
def anyB : List D := [.tuple [.int 1, .int 29], .list [], .list [.int 3], .dict [], .tuple [.tuple [.int 1, .int 2], .tuple [.int 3, .int 4]]]
def anyL : List D := anyA ++ anyB
section
variable {cf : CF}
theorem any_ok (ho : OfSp cf 2) {m : D} {k : Nat} (hm : MS (k + 1) m) : ∃ (r m' : D), r ∈ anyL ∧ runFn cf (S._law_any 2) [io m] = some (fz r, [some (io m')]) ∧ MS k m' := by
  obtain ⟨r, m', hr, e, h⟩ := ho m k (fz (.list anyL)) anyL (.inl rfl) hm (by decide) (by decide)
  refine ⟨r, m', hr, ?_, h⟩
  have e2 : binD .add (.list anyA) (.list anyB) = some (.list anyL) := rfl
  unfold anyA anyB at e2
  simp (disch := first | (refine Pu.mk ?_; with_unfolding_all rfl) | (refine Pu.mk ?_; simp [puE, puEs, puO, puI, puK, ptIn, isV, isBad_om, isBad_f1]) | omega | (simp only [List.length_map, List.length_append, List.length_cons, List.length_nil, List.length_range]; omega)) [runFn, evR, lcp_s, scp_s, lc2_s, turnP, turn2, Function.comp, idx_l, idx_t, lockO, ownOk_n, ownOk_c, ownAt_s, ownAt_n, ownAt_f, wipeS_n, wipeS_c, compP_map, compP_some, some_ite, dPair_eq, fmIf, fmOne, fmId, mrgP, mrgS, mrgB, mrgI, szOk_filter, neNilI, eqNilI, neNilII, eqNilII, filter_em, callE, byRef, backs, leak, argV, unlock, free_om, ownAt_om, isBad_om, neNil0, eqNil0, free_oo, free_o1, free_f1, ownAt_f1, isBad_f1, S._law_any, pow30, e2, e]
abbrev xo (k : Nat) (d : D) : D := .dict [(.int k, d)]
def madeL (a b : D) : List D := [xo 0 a, xo 1 a, xo 2 a, xo 3 a, xo 4 a, xo 0 a, xo 1 a, xo 2 a, xo 3 a, xo 4 a, xo 0 b, xo 1 b, xo 2 b, xo 3 b, xo 4 b]
theorem made_ok (a b : D) : runFn cf S._law_made [fz a, fz b] = some (⟨.ow, .list (madeL a b)⟩, [some (fz a), some (fz b)]) := rfl
def bs (l : List Bool) : D := .list (l.map .bool)
def kindsL (k : Nat) : D := bs [decide (k = 0), decide (k = 1), decide (k = 2), decide (k = 3), decide (k = 4), false, true, true, false, false]
theorem kinds_ok (d : D) : ∀ k < 5, runFn cf S._law_kinds [fz (xo k d)] = some (⟨.ow, kindsL k⟩, [some (fz (xo k d))])
  | 0, _ => rfl
  | 1, _ => rfl
  | 2, _ => rfl
  | 3, _ => rfl
  | 4, _ => rfl
theorem kinds_never : runFn cf S._law_kinds [fz (xo 5 .none)] = some (⟨.ow, bs [false, false, false, false, false, true, false, false, true, false]⟩, [some (fz (xo 5 .none))]) := rfl
theorem field_ok (d : D) : ∀ k : Nat, k < 5 → runFn cf S._law_field [fz (xo k d), fz (.int k)] = some (fz d, [some (fz (xo k d)), some (fz (.int k))])
  | 0, _ => rfl
  | 1, _ => rfl
  | 2, _ => rfl
  | 3, _ => rfl
  | 4, _ => rfl
theorem fresh_d (d : D) : (LP.fresh d).d = d := by cases d <;> rfl
theorem any_all : (anyL.all fun d => emD d && d.showable && decide (d.depth ≤ 64) && szOk d.shown.length) = true := by decide +kernel
theorem any_repr : ∀ d ∈ anyL, ∃ w, b1D .repr d = some (.str w) := fun d hd => by
  have h := List.all_eq_true.mp any_all d hd
  refine ⟨d.shown, ?_⟩
  show repD d = _
  unfold repD
  rw [if_pos h]
def lS (y0 y1 m a b : D) (o4 o7 : Option Int) (o8 : Option D) : LS :=
  [some (fz y0), some (fz y1), some ⟨.ow, m⟩, some ⟨.ow, .list (madeL a b)⟩, o4.map fun c => fz (.int c), some (fz a), some (fz b), o7.map fun c => fz (.int c), o8.map fun c => fz c, none]
/-- what is known of the calls -/
structure Calls (cf : CF) : Prop where
  begun : ∀ (ns : List Int) (k : Nat), ns.length ≤ 63 → k ≤ 100 → ∃ m, cf 0 [fz (.list (ns.map .int)), fz (.int k)] = some (⟨.ow, m⟩, [some (fz (.list (ns.map .int))), some (fz (.int k))]) ∧ MS 1000000 m
  any : ∀ (m : D) (k : Nat), MS (k + 1) m → ∃ (r m' : D), r ∈ anyL ∧ cf 3 [io m] = some (fz r, [some (io m')]) ∧ MS k m'
  made : ∀ a b, cf 4 [fz a, fz b] = some (⟨.ow, .list (madeL a b)⟩, [some (fz a), some (fz b)])
  field : ∀ (d : D) (k : Nat), k < 5 → cf 5 [fz (xo k d), fz (.int k)] = some (fz d, [some (fz (xo k d)), some (fz (.int k))])
  kinds : ∀ (d : D) (k : Nat), k < 5 → cf 6 [fz (xo k d)] = some (⟨.ow, kindsL k⟩, [some (fz (xo k d))])
  never : cf 6 [fz (xo 5 .none)] = some (⟨.ow, bs [false, false, false, false, false, true, false, false, true, false]⟩, [some (fz (xo 5 .none))])
end
section
variable {cf : CF} (C : Calls cf)
include C
theorem comp_ok {y0 y1 m a b : D} {o4 : Option Int} {j : Int} {o8 : Option D} : evE cf (S.lawV18_c0 6 5 4 3 0) (lS y0 y1 m a b o4 (some j) o8) = some (⟨.ow, bs [decide (j = 0), decide (j = 1), decide (j = 2), decide (j = 3), decide (j = 4)]⟩, lS y0 y1 m a b o4 (some j) o8) := by
  unfold lS bs
  simp (disch := first | (refine Pu.mk ?_; with_unfolding_all rfl) | (refine Pu.mk ?_; simp [puE, puEs, puO, puI, puK, ptIn, isV, isBad_om, isBad_f1]) | omega | (simp only [List.length_map, List.length_append, List.length_cons, List.length_nil, List.length_range]; omega)) [runFn, evR, lcp_s, scp_s, lc2_s, turnP, turn2, Function.comp, idx_l, idx_t, lockO, ownOk_n, ownOk_c, ownAt_s, ownAt_n, ownAt_f, wipeS_n, wipeS_c, compP_map, compP_some, some_ite, dPair_eq, fmIf, fmOne, fmId, mrgP, mrgS, mrgB, mrgI, szOk_filter, neNilI, eqNilI, neNilII, eqNilII, filter_em, callE, byRef, backs, leak, argV, unlock, free_om, ownAt_om, isBad_om, neNil0, eqNil0, free_oo, free_o1, free_f1, ownAt_f1, isBad_f1, S.lawV18_c0, rgOk_of, rgD]
  rfl
theorem turn_ok {y0 y1 m a b : D} {o4 o7 : Option Int} {o8 : Option D} (ha : a ∈ anyL) (hb : b ∈ anyL) (k : Nat) (hk : k < 15) :
    ((bindP (lS y0 y1 m a b o4 o7 o8) (.v 4) (.int k)).bind fun s2 => evSs cf (S.lawV18_b0 6 5 4 3 0) s2) = some (.nx (lS y0 y1 m a b (some k) (some (k % 5 : Nat)) (some (if k < 10 then a else b)))) := by
  have hd : (if k < 10 then a else b) ∈ anyL := by split <;> assumption
  have hidx : idxD (.list (madeL a b)) (.int k) = some (xo (k % 5) (if k < 10 then a else b)) := by
    match k, hk with
    | 0, _ | 1, _ | 2, _ | 3, _ | 4, _ | 5, _ | 6, _ | 7, _ | 8, _ | 9, _ | 10, _ | 11, _ | 12, _ | 13, _ | 14, _ => rfl
  have hj : k % 5 < 5 := Nat.mod_lt _ (by omega)
  have hmod : binD .mod (.int k) (.int 5) = some (.int (k % 5 : Nat)) := by rw [mod_i (by omega)]; rfl
  have hne : cmpD .ne (kindsL (k % 5)) (kindsL (k % 5)) = some false := by
    generalize k % 5 = j at hj
    match j, hj with
    | 0, _ | 1, _ | 2, _ | 3, _ | 4, _ => rfl
  have hadd : binD .add (bs [decide (((k % 5 : Nat) : Int) = 0), decide (((k % 5 : Nat) : Int) = 1), decide (((k % 5 : Nat) : Int) = 2), decide (((k % 5 : Nat) : Int) = 3), decide (((k % 5 : Nat) : Int) = 4)]) (.list [.bool false, .bool true, .bool true, .bool false, .bool false]) = some (kindsL (k % 5)) := by
    generalize k % 5 = j at hj
    match j, hj with
    | 0, _ | 1, _ | 2, _ | 3, _ | 4, _ => rfl
  obtain ⟨w, ew⟩ := any_repr _ hd
  have hf := C.field (if k < 10 then a else b) (k % 5) hj
  have hq := C.kinds (if k < 10 then a else b) (k % 5) hj
  have hc := fun o4 o8 => comp_ok C (y0 := y0) (y1 := y1) (m := m) (a := a) (b := b) (o4 := o4) (j := ((k % 5 : Nat) : Int)) (o8 := o8)
  unfold lS at hc ⊢
  have hop : ∀ r s, opA (S.lawV18_c0 6 5 4 3 0) r s = r.map fun x => (Opd.val x.1.d, x.2) := fun r s => rfl
  generalize k % 5 = j at *
  generalize kindsL j = kl at *
  generalize bs [decide ((j : Int) = 0), decide ((j : Int) = 1), decide ((j : Int) = 2), decide ((j : Int) = 3), decide ((j : Int) = 4)] = cl at *
  generalize madeL a b = ml at *
  by_cases h : k < 10
  · have h' : (k : Int) < 10 := by omega
    simp only [h, if_true] at *
    have hc' := hc (some k) (some a)
    simp only [Option.map_some] at hc'
    simp (disch := first | (refine Pu.mk ?_; with_unfolding_all rfl) | (refine Pu.mk ?_; simp [puE, puEs, puO, puI, puK, ptIn, isV, isBad_om, isBad_f1]) | omega | (simp only [List.length_map, List.length_append, List.length_cons, List.length_nil, List.length_range]; omega)) [runFn, evR, lcp_s, scp_s, lc2_s, turnP, turn2, Function.comp, idx_l, idx_t, lockO, ownOk_n, ownOk_c, ownAt_s, ownAt_n, ownAt_f, wipeS_n, wipeS_c, compP_map, compP_some, some_ite, dPair_eq, fmIf, fmOne, fmId, mrgP, mrgS, mrgB, mrgI, szOk_filter, neNilI, eqNilI, neNilII, eqNilII, filter_em, callE, byRef, backs, leak, argV, unlock, free_om, ownAt_om, isBad_om, neNil0, eqNil0, free_oo, free_o1, free_f1, ownAt_f1, isBad_f1, S.lawV18_b0, int_i, hmod, h', hidx, hf, hq, ew, neS, hop, hc', hadd, hne, fresh_d]
  · have h' : ¬ (k : Int) < 10 := by omega
    simp only [h, if_false] at *
    have hc' := hc (some k) (some b)
    simp only [Option.map_some] at hc'
    simp (disch := first | (refine Pu.mk ?_; with_unfolding_all rfl) | (refine Pu.mk ?_; simp [puE, puEs, puO, puI, puK, ptIn, isV, isBad_om, isBad_f1]) | omega | (simp only [List.length_map, List.length_append, List.length_cons, List.length_nil, List.length_range]; omega)) [runFn, evR, lcp_s, scp_s, lc2_s, turnP, turn2, Function.comp, idx_l, idx_t, lockO, ownOk_n, ownOk_c, ownAt_s, ownAt_n, ownAt_f, wipeS_n, wipeS_c, compP_map, compP_some, some_ite, dPair_eq, fmIf, fmOne, fmId, mrgP, mrgS, mrgB, mrgI, szOk_filter, neNilI, eqNilI, neNilII, eqNilII, filter_em, callE, byRef, backs, leak, argV, unlock, free_om, ownAt_om, isBad_om, neNil0, eqNil0, free_oo, free_o1, free_f1, ownAt_f1, isBad_f1, S.lawV18_b0, int_i, hmod, h', hidx, hf, hq, ew, neS, hop, hc', hadd, hne, fresh_d]
theorem outer {ns : List Int} {k : Nat} (hl : ns.length ≤ 63) (hk : k ≤ 100) {o1 o4 o7 : Option Int} {o2 : Option D} {o3 : Option (List D)} {o5 o6 o8 : Option D} :
    ∃ m a b, ((bindP [some (fz (.list (ns.map .int))), o1.map fun c => fz (.int c), o2.map fun c => ⟨.ow, c⟩, o3.map fun l => ⟨.ow, .list l⟩, o4.map fun c => fz (.int c), o5.map fun c => fz c, o6.map fun c => fz c, o7.map fun c => fz (.int c), o8.map fun c => fz c, none] (.v 1) (.int k)).bind fun s2 => evSs cf (S.lawV18_b1 6 5 4 3 0) s2) = some (.nx (lS (.list (ns.map .int)) (.int k) m a b (some 14) (some 4) (some b))) := by
  obtain ⟨m0, e0, h0⟩ := C.begun ns k hl hk
  obtain ⟨a, m1, ha, e1, h1⟩ := C.any m0 999999 h0
  obtain ⟨b, m2, hb, e2, h2⟩ := C.any m1 999998 h1
  have hm := C.made a b
  have hn := C.never
  refine ⟨m2, a, b, ?_⟩
  obtain ⟨s', e3, hs⟩ := for_ix (cf := cf) (p := .v 4) (it := .rg1 (.int 15)) (b := S.lawV18_b0 6 5 4 3 0) (s := lS (.list (ns.map .int)) (.int k) m2 a b o4 o7 o8) (fun i : Nat => PyData.int i)
    (fun n s => (n = 0 ∧ s = lS (.list (ns.map .int)) (.int k) m2 a b o4 o7 o8) ∨ (0 < n ∧ s = lS (.list (ns.map .int)) (.int k) m2 a b (some (n - 1 : Nat)) (some ((n - 1) % 5 : Nat)) (some (if n - 1 < 10 then a else b)))) (List.range 15) none (by
      simp (disch := first | (refine Pu.mk ?_; with_unfolding_all rfl) | (refine Pu.mk ?_; simp [puE, puEs, puO, puI, puK, ptIn, isV, isBad_om, isBad_f1]) | omega | (simp only [List.length_map, List.length_append, List.length_cons, List.length_nil, List.length_range]; omega)) [runFn, evR, lcp_s, scp_s, lc2_s, turnP, turn2, Function.comp, idx_l, idx_t, lockO, ownOk_n, ownOk_c, ownAt_s, ownAt_n, ownAt_f, wipeS_n, wipeS_c, compP_map, compP_some, some_ite, dPair_eq, fmIf, fmOne, fmId, mrgP, mrgS, mrgB, mrgI, szOk_filter, neNilI, eqNilI, neNilII, eqNilII, filter_em, callE, byRef, backs, leak, argV, unlock, free_om, ownAt_om, isBad_om, neNil0, eqNil0, free_oo, free_o1, free_f1, ownAt_f1, isBad_f1, rgOk_of, rg_map]) (.inl ⟨rfl, rfl⟩)
    (fun n x s hx hs => by
      have hx' := List.getElem?_eq_some_iff.mp hx
      obtain ⟨hlt, hx'⟩ := hx'
      rw [List.length_range] at hlt
      rw [List.getElem_range] at hx'
      subst hx'
      rcases hs with ⟨_, rfl⟩ | ⟨_, rfl⟩
      · exact ⟨_, turn_ok C ha hb n hlt, .inr ⟨by omega, rfl⟩⟩
      · exact ⟨_, turn_ok C ha hb n hlt, .inr ⟨by omega, rfl⟩⟩)
  rcases hs with ⟨z, _⟩ | ⟨_, rfl⟩
  · simp at z
  have e3 : evS cf (.for_ (.v 4) (.rg1 (.int 15)) (S.lawV18_b0 6 5 4 3 0)) (lS (.list (ns.map .int)) (.int k) m2 a b o4 o7 o8) = some (.nx (lS (.list (ns.map .int)) (.int k) m2 a b (some 14) (some 4) (some b))) := e3
  have hmul : binD .mul (.list [.bool false]) (.int 5) = some (bs [false, false, false, false, false]) := rfl
  have hadd : binD .add (bs [false, false, false, false, false]) (.list [.bool true, .bool false, .bool false, .bool true, .bool false]) = some (bs [false, false, false, false, false, true, false, false, true, false]) := rfl
  have hne : cmpD .ne (bs [false, false, false, false, false, true, false, false, true, false]) (bs [false, false, false, false, false, true, false, false, true, false]) = some false := rfl
  have hmk : mkX 5 [] = some (xo 5 .none) := rfl
  unfold lS at e3 ⊢
  generalize madeL a b = ml at *
  generalize bs [false, false, false, false, false, true, false, false, true, false] = kn at *
  generalize bs [false, false, false, false, false] = k5 at *
  simp (disch := first | (refine Pu.mk ?_; with_unfolding_all rfl) | (refine Pu.mk ?_; simp [puE, puEs, puO, puI, puK, ptIn, isV, isBad_om, isBad_f1]) | omega | (simp only [List.length_map, List.length_append, List.length_cons, List.length_nil, List.length_range]; omega)) [runFn, evR, lcp_s, scp_s, lc2_s, turnP, turn2, Function.comp, idx_l, idx_t, lockO, ownOk_n, ownOk_c, ownAt_s, ownAt_n, ownAt_f, wipeS_n, wipeS_c, compP_map, compP_some, some_ite, dPair_eq, fmIf, fmOne, fmId, mrgP, mrgS, mrgB, mrgI, szOk_filter, neNilI, eqNilI, neNilII, eqNilII, filter_em, callE, byRef, backs, leak, argV, unlock, free_om, ownAt_om, isBad_om, neNil0, eqNil0, free_oo, free_o1, free_f1, ownAt_f1, isBad_f1, S.lawV18_b1, -evS_for, e0, e1, e2, hm, e3, hn, hmk, hmul, hadd, hne, fresh_d]
theorem law_run {ns : List Int} (hl : ns.length ≤ 63) : ∃ o, runFn cf f_law [fz (.list (ns.map .int))] = some (fz (.bool true), o) := by
  generalize hlen : 1 + (if (5 : Int) < ns.length then (5 : Int) else ns.length) = cnt
  have hcnt : 0 ≤ cnt ∧ cnt ≤ 6 := by rw [← hlen]; split <;> omega
  obtain ⟨s', e1, o1, o2, o3, o4, o5, o6, o7, o8, rfl⟩ := for_ex (cf := cf) (p := .v 1) (it := .rg1 (.bin .add (.int 1) (.b2 .min (.b1 .len (.v 0)) (.int 5)))) (b := S.lawV18_b1 6 5 4 3 0) (s := [some (fz (.list (ns.map .int))), none, none, none, none, none, none, none, none, none]) (fun i : Nat => PyData.int i)
    (fun n s => ∃ (o1 : Option Int) (o2 : Option D) (o3 : Option (List D)) (o4 : Option Int) (o5 o6 : Option D) (o7 : Option Int) (o8 : Option D), s = [some (fz (.list (ns.map .int))), o1.map fun c => fz (.int c), o2.map fun c => ⟨.ow, c⟩, o3.map fun l => ⟨.ow, .list l⟩, o4.map fun c => fz (.int c), o5.map fun c => fz c, o6.map fun c => fz c, o7.map fun c => fz (.int c), o8.map fun c => fz c, none]) (List.range cnt.toNat) 0 none (by
      simp (disch := first | (refine Pu.mk ?_; with_unfolding_all rfl) | (refine Pu.mk ?_; simp [puE, puEs, puO, puI, puK, ptIn, isV, isBad_om, isBad_f1]) | omega | (simp only [List.length_map, List.length_append, List.length_cons, List.length_nil, List.length_range]; omega)) [runFn, evR, lcp_s, scp_s, lc2_s, turnP, turn2, Function.comp, idx_l, idx_t, lockO, ownOk_n, ownOk_c, ownAt_s, ownAt_n, ownAt_f, wipeS_n, wipeS_c, compP_map, compP_some, some_ite, dPair_eq, fmIf, fmOne, fmId, mrgP, mrgS, mrgB, mrgI, szOk_filter, neNilI, eqNilI, neNilII, eqNilII, filter_em, callE, byRef, backs, leak, argV, unlock, free_om, ownAt_om, isBad_om, neNil0, eqNil0, free_oo, free_o1, free_f1, ownAt_f1, isBad_f1, len_l, min_if, add_i, hlen, rgOk_of, rg_map]) ⟨none, none, none, none, none, none, none, none, rfl⟩
    (fun n x s hx ⟨o1, o2, o3, o4, o5, o6, o7, o8, es⟩ => by
      subst es
      obtain ⟨m, a, b, e⟩ := outer C (k := x) (o1 := o1) (o2 := o2) (o3 := o3) (o4 := o4) (o5 := o5) (o6 := o6) (o7 := o7) (o8 := o8) hl (by have := List.mem_range.mp hx; omega)
      exact ⟨_, e, some x, some m, some (madeL a b), some 14, some a, some b, some 4, some b, rfl⟩)
  simp only [unlock] at e1
  refine ⟨[some (fz (.list (ns.map .int)))], ?_⟩
  simp (disch := first | (refine Pu.mk ?_; with_unfolding_all rfl) | (refine Pu.mk ?_; simp [puE, puEs, puO, puI, puK, ptIn, isV, isBad_om, isBad_f1]) | omega | (simp only [List.length_map, List.length_append, List.length_cons, List.length_nil, List.length_range]; omega)) [runFn, evR, lcp_s, scp_s, lc2_s, turnP, turn2, Function.comp, idx_l, idx_t, lockO, ownOk_n, ownOk_c, ownAt_s, ownAt_n, ownAt_f, wipeS_n, wipeS_c, compP_map, compP_some, some_ite, dPair_eq, fmIf, fmOne, fmId, mrgP, mrgS, mrgB, mrgI, szOk_filter, neNilI, eqNilI, neNilII, eqNilII, filter_em, callE, byRef, backs, leak, argV, unlock, free_om, ownAt_om, isBad_om, neNil0, eqNil0, free_oo, free_o1, free_f1, ownAt_f1, isBad_f1, S.lawV18, -evS_for, e1]
end
section
variable (n : Nat)
theorem sDraw : DrawSp (callF tab (n + 1)) 1 := fun m k n' h1 h2 h3 => by
  obtain ⟨r, m', e, h⟩ := draw_ok (cf := callF tab n) h1 h2 h3
  exact ⟨r, m', (callF_s rfl).trans e, h⟩
theorem sOf : OfSp (callF tab (n + 2)) 2 := fun m k x l hx h1 h2 h3 => by
  obtain ⟨r, m', hr, e, h⟩ := of_ok (sDraw n) hx h1 h2 h3
  exact ⟨r, m', hr, (callF_s rfl).trans e, h⟩
end
theorem calls : Calls (callF tab 13) where
  begun := fun ns k hl hk => by
    obtain ⟨m, e, h⟩ := begun_ok (cf := callF tab 12) (ns := ns) (k := k) (by omega) hl
    exact ⟨m, (callF_s rfl).trans e, h⟩
  any := fun m k h => by
    obtain ⟨r, m', hr, e, h⟩ := any_ok (sOf 10) h
    exact ⟨r, m', hr, (callF_s rfl).trans e, h⟩
  made := fun a b => (callF_s rfl).trans (made_ok a b)
  field := fun d k hk => (callF_s rfl).trans (field_ok d k hk)
  kinds := fun d k hk => (callF_s rfl).trans (kinds_ok d k hk)
  never := (callF_s rfl).trans kinds_never
theorem law_ok : ∀ ns : List Int, ns.length ≤ 63 → ∃ o, callF tab 14 7 [⟨.fz, .list (ns.map .int)⟩] = some (⟨.fz, .bool true⟩, o) := fun ns hl => by
  obtain ⟨o, e⟩ := law_run calls hl
  exact ⟨o, (callF_s (fn := f_law) rfl).trans e⟩
end L_k24

end
set_option Elab.async false
set_option linter.all false
set_option maxRecDepth 100000
set_option maxHeartbeats 0
namespace L_k24
open PySem PySem.Spec PyProof.Rows LP
def top (i : Nat) : Stmt := PySem.Challenge.pw_dugonce_k24_exceptions.main.body.getD i (.Pass ⟨0, 0, 0, 0⟩)
def fdo (i : Nat) (x : Str) (N : List Str) (f : Fn) : FD := ⟨x, N, L2.defArgs (top i), L2.defBody (top i), L2.defScope (top i), f⟩
instance zkL : Zk := ⟨[], [0, 1, 2, 3, 4, 5], ["IndexError", "KeyError", "LookupError", "ValueError", "StreetError", "Never", "BadPaper", "BadRule", "BadNumber", "BadDay", "BadPlan"], fun _ _ _ => True, fun _ _ => trivial, fun _ _ _ => trivial, fun _ _ => trivial⟩
def df_law_begun : FD := fdo 9 "_law_begun" ["_law_script", "_law_k", "_law_cells", "_law_great", "_law_seed", "_law_cell"] f_law_begun
def df_law_draw : FD := fdo 10 "_law_draw" ["_law_m", "_law_many", "_law_spot", "_law_cell", "_law_blend", "_law_found", "_law_cells", "_law_added"] f_law_draw
def df_law_of : FD := fdo 11 "_law_of" ["_law_m", "_law_some"] f_law_of
def df_law_any : FD := fdo 12 "_law_any" ["_law_m", "_law_some"] f_law_any
def df_law_made : FD := fdo 13 "_law_made" ["_law_one", "_law_other", "_law_found", "_law_behind"] f_law_made
def df_law_field : FD := fdo 14 "_law_field" ["_law_error", "_law_at"] f_law_field
def df_law_kinds : FD := fdo 15 "_law_kinds" ["_law_error", "_law_found"] f_law_kinds
def df_law : FD := fdo 16 "law" ["_law_script", "_law_turn", "_law_m", "_law_made_here", "_law_k", "_law_one", "_law_other", "_law_at", "_law_due", "_law_n"] f_law
def defs : List FD := [df_law_begun, df_law_draw, df_law_of, df_law_any, df_law_made, df_law_field, df_law_kinds, df_law]
def bn : List Str := ["int", "isinstance", "len", "min", "range", "repr"]
def gs : List (Str × GV) := []
theorem chk : (defs.all fun d => d.ok defs bn gs) = true := by decide +kernel
theorem bf_law_begun : BindOk df_law_begun := fun _ _ _ _ _ _ us hl => match us, hl with | [_, _], _ => rfl
theorem bf_law_draw : BindOk df_law_draw := fun _ _ _ _ _ _ us hl => match us, hl with | [_, _], _ => rfl
theorem bf_law_of : BindOk df_law_of := fun _ _ _ _ _ _ us hl => match us, hl with | [_, _], _ => rfl
theorem bf_law_any : BindOk df_law_any := fun _ _ _ _ _ _ us hl => match us, hl with | [_], _ => rfl
theorem bf_law_made : BindOk df_law_made := fun _ _ _ _ _ _ us hl => match us, hl with | [_, _], _ => rfl
theorem bf_law_field : BindOk df_law_field := fun _ _ _ _ _ _ us hl => match us, hl with | [_, _], _ => rfl
theorem bf_law_kinds : BindOk df_law_kinds := fun _ _ _ _ _ _ us hl => match us, hl with | [_], _ => rfl
theorem bf_law : BindOk df_law := fun _ _ _ _ _ _ us hl => match us, hl with | [_], _ => rfl
theorem binds : ∀ d ∈ defs, BindOk d := by
  unfold defs
  exact ball_cons bf_law_begun (ball_cons bf_law_draw (ball_cons bf_law_of (ball_cons bf_law_any (ball_cons bf_law_made (ball_cons bf_law_field (ball_cons bf_law_kinds (ball_cons bf_law (ball_nil))))))))
def cini (s : Stmt) : Stmt := match s with
  | .ClassDef _ _ _ b _ _ _ _ _ _ _ => (b.find? fun t => match t with | .FunctionDef .. => true | _ => false).getD (.Pass ⟨0, 0, 0, 0⟩)
  | _ => .Pass ⟨0, 0, 0, 0⟩
def xdo (i k : Nat) (x : Str) (fo : Option Str) (me : Str) (mo : List Str) : XD := ⟨k, x, fo, L2.defArgs (cini (top i)), L2.defBody (cini (top i)), L2.defScope (cini (top i)), me, mo⟩
def x_BadPlan : XD := xdo 2 0 "BadPlan" (some "place") "self" ["place"]
def x_BadDay : XD := xdo 3 1 "BadDay" (some "value") "self" ["value"]
def x_BadNumber : XD := xdo 4 2 "BadNumber" (some "value") "self" ["value"]
def x_BadRule : XD := xdo 5 3 "BadRule" (some "value") "self" ["value"]
def x_BadPaper : XD := xdo 6 4 "BadPaper" (some "word") "self" ["word"]
def x_Never : XD := xdo 7 5 "Never" none "self" []
def xds : List XD := [x_BadPlan, x_BadDay, x_BadNumber, x_BadRule, x_BadPaper, x_Never]
theorem xtab : ∀ d ∈ xds, exTab[d.k]? = some (d.x, d.fo) := by
  unfold xds
  exact ball_cons rfl (ball_cons rfl (ball_cons rfl (ball_cons rfl (ball_cons rfl (ball_cons rfl (ball_nil))))))
theorem xtx : (xds.all XD.txB) = true := by decide +kernel
theorem xb_BadPlan : x_BadPlan.Bd := fun _ _ _ _ _ _ _ us hl => match us, hl with | [_, _], _ => rfl
theorem xk_BadPlan : x_BadPlan.Bk := fun f hf => by cases hf; exact fun _ _ _ _ _ _ _ _ _ => rfl
theorem xb_BadDay : x_BadDay.Bd := fun _ _ _ _ _ _ _ us hl => match us, hl with | [_, _], _ => rfl
theorem xk_BadDay : x_BadDay.Bk := fun f hf => by cases hf; exact fun _ _ _ _ _ _ _ _ _ => rfl
theorem xb_BadNumber : x_BadNumber.Bd := fun _ _ _ _ _ _ _ us hl => match us, hl with | [_, _], _ => rfl
theorem xk_BadNumber : x_BadNumber.Bk := fun f hf => by cases hf; exact fun _ _ _ _ _ _ _ _ _ => rfl
theorem xb_BadRule : x_BadRule.Bd := fun _ _ _ _ _ _ _ us hl => match us, hl with | [_, _], _ => rfl
theorem xk_BadRule : x_BadRule.Bk := fun f hf => by cases hf; exact fun _ _ _ _ _ _ _ _ _ => rfl
theorem xb_BadPaper : x_BadPaper.Bd := fun _ _ _ _ _ _ _ us hl => match us, hl with | [_, _], _ => rfl
theorem xk_BadPaper : x_BadPaper.Bk := fun f hf => by cases hf; exact fun _ _ _ _ _ _ _ _ _ => rfl
theorem xb_Never : x_Never.Bd := fun _ _ _ _ _ _ _ us hl => match us, hl with | [_], _ => rfl
theorem xk_Never : x_Never.Bk := fun f hf => by cases hf
theorem xbd : ∀ d ∈ xds, d.Bd := by
  unfold xds
  exact ball_cons xb_BadPlan (ball_cons xb_BadDay (ball_cons xb_BadNumber (ball_cons xb_BadRule (ball_cons xb_BadPaper (ball_cons xb_Never (ball_nil))))))
theorem xbk : ∀ d ∈ xds, d.Bk := by
  unfold xds
  exact ball_cons xk_BadPlan (ball_cons xk_BadDay (ball_cons xk_BadNumber (ball_cons xk_BadRule (ball_cons xk_BadPaper (ball_cons xk_Never (ball_nil))))))
theorem xok : XOkB xds = true := by decide +kernel
abbrev R : PySem.W.OpenRow := PySem.W.OpenLaw.row PySem.Challenge.rw_dugonce_k24_exceptions
abbrev hk : PySem.W.Hook := hookX 4 (PySem.W.OpenLaw.row PySem.Challenge.rw_dugonce_k24_exceptions).prog.main.file Zk.ts xds (faOf defs bn gs) (fnOf defs)
def ob (s : PySem.W.SharedT) : AlX := obsXG 4 (PySem.W.OpenLaw.row PySem.Challenge.rw_dugonce_k24_exceptions).prog.main.file Zk.ts xds (faOf defs bn gs) (fnOf defs) (HandSHeadRun.getT s)
theorem ob_eq (s : PySem.W.SharedT) : ob s = hk.obs s.abs := obsXG_eq (HandSHeadRun.getT_eq s)
def loose : List Str := (["__name__", "StreetError", "BadPlan", "BadDay", "BadNumber", "BadRule", "BadPaper", "Never", "_law_begun", "_law_draw", "_law_of", "_law_any", "_law_made", "_law_field", "_law_kinds"] : List Str)
theorem run (w : World) : HandSHeadRun.RunEq R (PySem.W.view R.prog [16]) hk ob 4000 loose w := by
  intro os
  kernel_rfl
end L_k24
open PySem PySem.W PySem.Calls PyProof.Rows
theorem PySem.Challenge.cw_dugonce_k24_exceptions_holds : PySem.Challenge.rw_dugonce_k24_exceptions.Holds := by
  w_on; o_law
  refine HandSHeadRun.head_any (r := OpenLaw.row PySem.Challenge.rw_dugonce_k24_exceptions) (q := view (OpenLaw.row PySem.Challenge.rw_dugonce_k24_exceptions).prog [16]) (H := L_k24.hk) (ob := L_k24.ob) (M := 4000) (loose := L_k24.loose) (d := HandSHeadRun.topDef (OpenLaw.row PySem.Challenge.rw_dugonce_k24_exceptions).prog 16) (kwd := []) L_k24.ob_eq
    (by kernel_rfl) (fun s => by kernel_rfl) L_k24.run (by kernel_rfl) (by kernel_rfl) (by kernel_rfl) (by rfl) (by first | assumption | decide +kernel) (by decide +kernel) ⟨rfl, rfl, rfl, rfl, rfl, by decide +kernel⟩ ?hw ?hc
  case hw => w_witness2
  case hc =>
    refine LP.end_walk (l := PySem.Challenge.rw_dugonce_k24_exceptions) (n := 63) (k := 14) (x := "_law_script") (defs := L_k24.defs) (bn := L_k24.bn) (gs := L_k24.gs) (li := 7) (dl := L_k24.df_law) rfl (by decide) (by kernel_rfl) ⟨rfl, by decide, by decide⟩ rfl rfl (by kernel_rfl) (by decide +kernel) ?F (fun _ _ _ => trivial) L_k24.law_ok
    intro w mg h Y G
    obtain ⟨K, KX, c⟩ := Y
    refine ⟨K, KX, LP.modOkE KX G c L_k24.chk L_k24.binds L_k24.xok L_k24.xtab L_k24.xtx L_k24.xbd L_k24.xbk (by kernel_rfl), fun f fd F s u => ?_⟩
    exact L2.FunD.bindsA (ps := ["_law_script"]) F L_k24.bf_law s [u] rfl
