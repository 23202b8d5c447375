import PyProof.Rows.All
import Wide.All
import OpenK.AllK
import Wide.FinOn
import HandS.ForMost
import HandS.Walk
import HandS.Deep
import HandS.IsInst
import HandS.Conv
import HandS.TupAny
import HandS.TupMul
import HandS.Style
import HandS.Flow
import HandS.Wide
import HandS.Exc
import HandS.Strs
import HandS.WordsExc
import KE.SortData
import KE.KDictKeyed
import KE.KDictDisplayH
import KE.KeyNested
import KE.IntBitsLaws
import HandS.More
import KE.GoesEnum
import PySem.Challenge.RW_mustleave_k09_trials
set_option Elab.async false
set_option linter.all false
set_option maxRecDepth 100000
set_option autoImplicit false
section
set_option maxHeartbeats 4000000
/-! A small Python with data as values: its syntax (ME, MS) and what it computes (evE, evS, callAt). -/
namespace Mp
open PySem

abbrev D := PyData

/-- a value: data (never changed), or a place of the memory -/
inductive Val where
  | d (x : D)
  | ref (n : Nat)

/-- what is changed in place -/
inductive Ob where
  | lst (xs : List D)
  | box (xs : List Val)
  | dK (kvs : List (L2.Key × D))
  | dT (kvs : List (NestedKey × D))
  | ins (c : Nat) (fs : List (Str × Val))
  | scr (xs : List D)
  | dead

abbrev Mem := List Ob
abbrev Env := List (Option Val)
structure Exn where
  cls : Nat
  fs : List (Str × D)

inductive Res (α : Type) where
  | ok (a : α) (M : Mem)
  | ex (e : Exn) (M : Mem)
  | no

def Res.bind {α β : Type} (r : Res α) (f : α → Mem → Res β) : Res β :=
  match r with
  | .ok a M => f a M
  | .ex e M => .ex e M
  | .no => .no
theorem bind_ok {α β : Type} (a : α) (M : Mem) (f : α → Mem → Res β) : (Res.ok a M).bind f = f a M := rfl
theorem bind_ex {α β : Type} (e : Exn) (M : Mem) (f : α → Mem → Res β) : (Res.ex e M : Res α).bind f = .ex e M := rfl
theorem bind_no {α β : Type} (f : α → Mem → Res β) : (Res.no : Res α).bind f = .no := rfl

def lim : Nat := 10000000
def lim9 : Nat := 2 ^ 8000

inductive BOp where | add | sub | mul | fdiv | mod | pow | shl
inductive COp where | eq | ne | lt | le | gt | ge | isin | notin | isN | notN
inductive TK where | int | bool | str | tuple | list
inductive BI where | len | abs | int | tuple | list | sorted | sum | min2 | max2 | rngT | rngL | rngT2 | rngL2
inductive MT where | append | pop0 | popAt | insert | extend | index | indexT
inductive Tg where
  | nm (i : Nat)
  | tup2 (a b : Tg)
  | tup3 (a b c : Tg)

mutual
inductive ME where
  | var (i : Nat) | con (c : D) | glb (g : Nat)
  | tup (es : MEs) | lst (es : MEs) | box (es : MEs) | new (e : ME)
  | bin (o : BOp) (a b : ME) | neg (a : ME)
  | cmp (o : COp) (a b : ME) | chn (o1 o2 : COp) (a b c : ME)
  | and (a b : ME) | or (a b : ME) | not (a : ME) | ife (c a b : ME)
  | idx (a i : ME) | slc (a : ME) (lo hi : MO) | rev (a : ME)
  | call (k : Nat) (es : MEs)
  | callk (k : Nat) (es : MEs) (ks : MEs) (perm : List Nat)
  | bi (b : BI) (es : MEs)
  | isi (a : ME) (t : TK)
  | mt (m : MT) (o : ME) (es : MEs)
  | lc (own : List Nat) (tg : Tg) (it : MI) (ifs : MEs) (e : ME)
  | dnw (t : Bool) | ddsp (k v : ME) | dcp (es : MEs)
inductive MEs where | nil | cons (e : ME) (es : MEs)
inductive MO where | non | som (e : ME)
inductive MI where | ov (e : ME) | rg1 (a : ME) | rg2 (a b : ME) | enm (e : ME)
end

mutual
inductive MS where
  | set (i : Nat) (e : ME)
  | asg (tg : Tg) (e : ME)
  | par2 (i j : Nat) (a b : ME)
  | setI (o i e : ME)
  | aug (i : Nat) (o : BOp) (e : ME)
  | exp (e : ME)
  | ret (e : ME) | retn
  | iff (c : ME) (a b : MSs)
  | forr (tg : Tg) (it : MI) (b : MSs)
  | whil (c : ME) (b : MSs)
  | brk | ctn | pas
  | frz (i : Nat)
inductive MSs where | nil | cons (s : MS) (ss : MSs)
end

/-! ### values -/
def intsOf : List D → Option (List Int)
  | [] => some []
  | .int i :: r => (intsOf r).map (i :: ·)
  | _ :: _ => none
def keyD : D → Option L2.Key
  | .int i => some (.inl i)
  | .str s => some (.inr s)
  | _ => none
mutual
def nkD : D → Option NestedKey
  | .none => some .none
  | .int i => some (.num i)
  | .str s => some (.text s)
  | .tuple xs => (nkDs xs).map .tup
  | _ => none
def nkDs : List D → Option (List NestedKey)
  | [] => some []
  | x :: xs => match nkD x, nkDs xs with
    | some k, some ks => some (k :: ks)
    | _, _ => none
end
/-- a tuple as a key -/
def nkT : D → Option NestedKey
  | .tuple xs => match nkDs xs with
    | some ks => if (NestedKey.tup ks).depth ≤ 8 then some (.tup ks) else none
    | none => none
  | _ => none
def dKey : L2.Key → D
  | .inl i => .int i
  | .inr s => .str s
def flatD : D → Bool
  | .none | .bool _ | .int _ | .str _ => true
  | _ => false
def toD : Val → Option D
  | .d x => some x
  | .ref _ => none
def toDs : List Val → Option (List D)
  | [] => some []
  | .d x :: r => (toDs r).map (x :: ·)
  | .ref _ :: _ => none
/-- a value as data, a list of the memory as the list that it holds now -/
def rdV (M : Mem) : Val → Option D
  | .d x => some x
  | .ref i => match M[i]? with
    | some (.lst xs) => some (.list xs)
    | _ => none

/-- .. the script too -/
def rdS (M : Mem) : Val → Option D
  | .d x => some x
  | .ref i => match M[i]? with
    | some (.lst xs) => some (.list xs)
    | some (.scr xs) => some (.list xs)
    | _ => none

/-- a dict's entries -/
def dGet {κ : Type} [DecidableEq κ] (kvs : List (κ × D)) (k : κ) : Option D := (kvs.find? fun kv => decide (kv.1 = k)).map (·.2)
def dPut {κ : Type} [DecidableEq κ] (kvs : List (κ × D)) (k : κ) (v : D) : List (κ × D) :=
  if kvs.any fun kv => decide (kv.1 = k) then kvs.map fun kv => if kv.1 = k then (kv.1, v) else kv else kvs ++ [(k, v)]

def isTupD : D → Bool
  | .tuple _ => true
  | _ => false
def isTupNe : D → Bool
  | .tuple (_ :: _) => true
  | _ => false
def isOth : D → Bool
  | .none => false
  | .tuple _ => false
  | _ => true
def isTup0 : D → Bool
  | .tuple [] => true
  | _ => false
def sortB (ds : List D) : Bool :=
  (ds.all fun x => ds.all fun y => PySem.W.alike x y) && (ds.all isTupNe || ds.all isOth || (decide (ds.length ≤ 1) && ds.all isTupD) || ds.all isTup0) && (ds.all fun x => decide (x.depth ≤ 32))
def sortD (ds : List D) : Option (List D) := if sortB ds && decide (ds.length ≤ lim) then some (ds.mergeSort (PySem.W.dataLe false fun x => x)) else none

def small (i : Int) : Bool := decide (i.natAbs < lim9)
def mulOk (a b : Int) : Bool := (small a && small b) || decide (a.natAbs < 2 ^ 64) || decide (b.natAbs < 2 ^ 64)
def binD : BOp → D → D → Option D
  | .add, .int a, .int b => some (.int (a + b))
  | .add, .str a, .str b => if a.length + b.length ≤ lim then some (.str (a ++ b)) else none
  | .add, .tuple a, .tuple b => if a.length + b.length ≤ lim then some (.tuple (a ++ b)) else none
  | .add, .list a, .list b => if a.length + b.length ≤ lim then some (.list (a ++ b)) else none
  | .sub, .int a, .int b => some (.int (a - b))
  | .mul, .int a, .int b => if mulOk a b then some (.int (a * b)) else none
  | .fdiv, .int a, .int b => if decide (0 < b) && small b then some (.int (a / b)) else none
  | .mod, .int a, .int b => if 0 < b then some (.int (a % b)) else none
  | .pow, .int a, .int b => if decide (0 ≤ b) && (decide (b ≤ 1000000) && decide (a.natAbs < 2 ^ 64) || decide (b ≤ 1000) && decide (a.natAbs < 2 ^ 250)) then some (.int (a ^ b.toNat)) else none
  | .shl, .int a, .int b => if decide (0 ≤ b) && decide (b ≤ 1000000) && decide (a.natAbs < 2 ^ 64) then some (.int (a * 2 ^ b.toNat)) else none
  | .mul, .list a, .int b => if decide (-(2 ^ 63) ≤ b) && decide (b < 2 ^ 63) && decide (a.length * b.toNat ≤ lim) then some (.list (List.replicate b.toNat a).flatten) else none
  | _, _, _ => none
def eqD (a b : D) : Option Bool := if SeqAt.shaped a && SeqAt.shaped b then some (PyData.eqv a b) else none
def inD (x : D) : D → Option Bool
  | .list ds => if (flatD x && ds.all flatD) || (SeqAt.shaped x && SeqAt.shaped (.list ds)) then some (ds.any fun y => PyData.eqv y x) else none
  | .tuple ds => if flatD x && ds.all flatD then some (ds.any fun y => PyData.eqv y x) else none
  | _ => none
def ltD : D → D → Option Bool
  | .int a, .int b => some (decide (a < b))
  | .tuple a, .tuple b => match intsOf a, intsOf b with
    | some x, some y => some (HT.lexLt x y)
    | _, _ => none
  | _, _ => none
def cmpD : COp → D → D → Option Bool
  | .eq, a, b => eqD a b
  | .ne, a, b => (eqD a b).map not
  | .lt, a, b => ltD a b
  | .le, .int a, .int b => some (decide (a ≤ b))
  | .gt, .int a, .int b => some (decide (b < a))
  | .ge, .int a, .int b => some (decide (b ≤ a))
  | .isin, a, b => inD a b
  | .notin, a, b => (inD a b).map not
  | .isN, a, .none => match a with | .none => some true | _ => some false
  | .notN, a, .none => match a with | .none => some false | _ => some true
  | _, _, _ => none
def inDict (M : Mem) (x : D) (i : Nat) : Option Bool := match M[i]? with
  | some (.dK kvs) => (keyD x).map fun k => (dGet kvs k).isSome
  | some (.dT kvs) => (nkT x).map fun k => (dGet kvs k).isSome
  | _ => none
def cmpV (M : Mem) (o : COp) (a b : Val) : Option Bool :=
  match rdV M a with
  | none => none
  | some x => match rdV M b with
    | some y => cmpD o x y
    | none => match b, o with
      | .ref i, .isin => inDict M x i
      | .ref i, .notin => (inDict M x i).map not
      | _, _ => none
def truD : D → Option Bool
  | .none => some false
  | .bool b => some b
  | .int i => some (i != 0)
  | .str s => if s.length ≤ lim then some ((s.length : Int) != 0) else none
  | .list xs => some (!xs.isEmpty)
  | .tuple xs => some (!xs.isEmpty)
  | .dict _ => none
def truV (M : Mem) (v : Val) : Option Bool := (rdV M v).bind truD
def idxV (M : Mem) (v : Val) (w : Val) : Option Val :=
  match v with
  | .d (.list xs) => match w with | .d (.int i) => (L2.atI xs i).map .d | _ => none
  | .d (.tuple xs) => match w with | .d (.int i) => (L2.atI xs i).map .d | _ => none
  | .d (.str s) => match w with | .d (.int i) => if s.length ≤ lim then (L2.atI s.cps.toList i).map (fun c => .d (.str ⟨#[c]⟩)) else none | _ => none
  | .ref j => match M[j]? with
    | some (.lst xs) => match w with | .d (.int i) => (L2.atI xs i).map .d | _ => none
    | some (.box xs) => match w with | .d (.int i) => L2.atI xs i | _ => none
    | some (.dK kvs) => match w with | .d x => (keyD x).bind fun k => (dGet kvs k).map .d | _ => none
    | some (.dT kvs) => match w with | .d x => (nkT x).bind fun k => (dGet kvs k).map .d | _ => none
    | _ => none
  | _ => none
def cutL {α : Type} (xs : List α) (lo hi : Option Int) : List α := (xs.drop (HT.sIx xs.length 0 lo)).take (HT.sIx xs.length xs.length hi - HT.sIx xs.length 0 lo)
def cutD : D → Option Int → Option Int → Option D
  | .list xs, lo, hi => some (.list (cutL xs lo hi))
  | .tuple xs, lo, hi => some (.tuple (cutL xs lo hi))
  | _, _, _ => none
def revD : D → Option D
  | .list xs => some (.list xs.reverse)
  | .tuple xs => some (.tuple xs.reverse)
  | _ => none
def rngD (a b : Int) : List D := (List.range (b - a).toNat).map fun (i : Nat) => .int (a + (i : Int))
def rngOk (a b : Int) : Bool := decide (-(2 ^ 62) ≤ a ∧ a < 2 ^ 62 ∧ -(2 ^ 62) ≤ b ∧ b < 2 ^ 62 ∧ (b - a).toNat ≤ lim)
def isD : TK → D → Bool
  | .int, .int _ => true
  | .int, .bool _ => true
  | .bool, .bool _ => true
  | .str, .str _ => true
  | .tuple, .tuple _ => true
  | .list, .list _ => true
  | _, _ => false
def lenV (M : Mem) : Val → Option Int
  | .d (.list xs) => some xs.length
  | .d (.tuple xs) => some xs.length
  | .d (.str s) => if s.length ≤ lim then some s.length else none
  | .ref j => match M[j]? with
    | some (.lst xs) => some xs.length
    | some (.scr xs) => some xs.length
    | _ => none
  | _ => none
def d1 (f : D → Option D) : List D → Option D
  | [] => none
  | x :: r => match r with
    | [] => f x
    | _ :: _ => none
def d2 (f : D → D → Option D) : List D → Option D
  | [] => none
  | x :: r => match r with
    | [] => none
    | y :: r => match r with
      | [] => f x y
      | _ :: _ => none
def dInt {α : Type} (f : Int → Option α) : D → Option α
  | .int i => f i
  | _ => none
def dList {α : Type} (f : List D → Option α) : D → Option α
  | .list xs => f xs
  | _ => none
def dSeq (f : List D → Option D) : D → Option D
  | .list xs => f xs
  | .tuple xs => f xs
  | _ => none
def dInt1 : D → Option D
  | .int i => some (.int i)
  | .bool b => some (.int (if b then 1 else 0))
  | _ => none
def biD : BI → List D → Option D
  | .abs => d1 (dInt fun i => some (.int (if i < 0 then -i else i)))
  | .int => d1 dInt1
  | .tuple => d1 (dSeq fun xs => some (.tuple xs))
  | .list => d1 (dSeq fun xs => some (.list xs))
  | .sorted => d1 (dSeq fun xs => (sortD xs).map .list)
  | .sum => d1 (dList fun xs => (intsOf xs).map fun ns => .int ns.sum)
  | .min2 => d2 fun x y => dInt (fun i => dInt (fun j => some (.int (if j < i then j else i))) y) x
  | .max2 => d2 fun x y => dInt (fun i => dInt (fun j => some (.int (if j > i then j else i))) y) x
  | .rngT => d1 (dInt fun n => if rngOk 0 n then some (.tuple (rngD 0 n)) else none)
  | .rngL => d1 (dInt fun n => if rngOk 0 n then some (.list (rngD 0 n)) else none)
  | .rngT2 => d2 fun x y => dInt (fun a => dInt (fun b => if rngOk a b then some (.tuple (rngD a b)) else none) y) x
  | .rngL2 => d2 fun x y => dInt (fun a => dInt (fun b => if rngOk a b then some (.list (rngD a b)) else none) y) x
  | .len => fun _ => none
def rdVs (M : Mem) : List Val → Option (List D)
  | [] => some []
  | v :: r => match rdV M v, rdVs M r with
    | some x, some xs => some (x :: xs)
    | _, _ => none
def v1 {α : Type} (f : Val → Option α) : List Val → Option α
  | [] => none
  | x :: r => match r with
    | [] => f x
    | _ :: _ => none
/-- a dict's keys, sorted -/
def keysSorted (M : Mem) : Val → Option D
  | .d _ => none
  | .ref i => match M[i]? with
    | some (.dK kvs) => (sortD (kvs.map fun kv => dKey kv.1)).map .list
    | some (.dT kvs) => (sortD (kvs.map fun kv => kv.1.data)).map .list
    | _ => none
def biR (b : BI) (M : Mem) (vs : List Val) : Option D := (rdVs M vs).bind (biD b)
def biV (b : BI) (M : Mem) (vs : List Val) : Option D :=
  match b with
  | .len => v1 (fun v => (lenV M v).map .int) vs
  | .sorted => match rdVs M vs with
    | some ds => biD .sorted ds
    | none => v1 (keysSorted M) vs
  | .abs => biR .abs M vs
  | .int => biR .int M vs
  | .tuple => biR .tuple M vs
  | .list => biR .list M vs
  | .sum => biR .sum M vs
  | .min2 => biR .min2 M vs
  | .max2 => biR .max2 M vs
  | .rngT => biR .rngT M vs
  | .rngL => biR .rngL M vs
  | .rngT2 => biR .rngT2 M vs
  | .rngL2 => biR .rngL2 M vs
/-- the first place of an equal item -/
def indexD (x : D) : List D → Nat → Option Nat
  | [], _ => none
  | y :: r, n => if PyData.eqv y x then some n else indexD x r (n + 1)
def onL {α : Type} (M : Mem) (v : Val) (f : Nat → List D → Option α) : Option α := match v with
  | .d _ => none
  | .ref i => match M[i]? with
    | some (.lst xs) => f i xs
    | _ => none
def vD {α : Type} (f : D → Option α) : Val → Option α
  | .d x => f x
  | .ref _ => none
def v0 {α : Type} (z : Option α) : List Val → Option α
  | [] => z
  | _ :: _ => none
def v2 {α : Type} (f : Val → Val → Option α) : List Val → Option α
  | [] => none
  | x :: r => v1 (f x) r
def dTup {α : Type} (f : List D → Option α) : D → Option α
  | .tuple xs => f xs
  | _ => none
def oB {α : Type} (b : Bool) (z : Option α) : Option α := match b with
  | true => z
  | false => none
def popA (M : Mem) (i : Nat) (xs : List D) (j : Int) : Option (Val × Mem) := oB (decide (-(2 ^ 63) ≤ j ∧ j < 2 ^ 63)) ((seqIndex? j xs.length).bind fun k => xs[k]?.map fun y => (.d y, M.set i (.lst (xs.eraseIdx k))))
def mtV (m : MT) (M : Mem) (o : Val) (vs : List Val) : Option (Val × Mem) :=
  match m with
  | .append => onL M o fun i xs => v1 (vD fun x => oB (decide (xs.length < lim)) (some (.d .none, M.set i (.lst (xs ++ [x]))))) vs
  | .pop0 => onL M o fun i xs => v0 (xs[xs.length - 1]?.map fun y => (.d y, M.set i (.lst xs.dropLast))) vs
  | .popAt => onL M o fun i xs => v1 (vD (dInt fun j => popA M i xs j)) vs
  | .insert => onL M o fun i xs => v2 (fun a b => vD (dInt fun j => vD (fun x => oB (decide (0 ≤ j ∧ j ≤ xs.length ∧ xs.length < lim)) (some (.d .none, M.set i (.lst (xs.take j.toNat ++ [x] ++ xs.drop j.toNat))))) b) a) vs
  | .extend => onL M o fun i xs => v1 (vD (dList fun ys => oB (decide (xs.length + ys.length ≤ lim)) (some (.d .none, M.set i (.lst (xs ++ ys)))))) vs
  | .index => vD (dList fun xs => v1 (vD fun x => oB ((flatD x && xs.all flatD) || (SeqAt.shaped x && SeqAt.shaped (.list xs))) ((indexD x xs 0).map fun k => (.d (.int (k : Nat)), M))) vs) o
  | .indexT => vD (dTup fun xs => v1 (vD fun x => oB (flatD x && xs.all flatD) ((indexD x xs 0).map fun k => (.d (.int (k : Nat)), M))) vs) o

/-! ### names -/
def getE (σ : Env) (i : Nat) : Option Val := match σ[i]? with
  | some (some v) => some v
  | _ => none
def wipeE (σ : Env) : List Nat → Env
  | [] => σ
  | v :: vs => (wipeE σ vs).set v none
def asgT : Tg → D → Env → Option Env
  | .nm i, x, σ => some (σ.set i (some (.d x)))
  | .tup2 a b, .tuple [x, y], σ => (asgT a x σ).bind (asgT b y)
  | .tup3 a b c, .tuple [x, y, z], σ => ((asgT a x σ).bind (asgT b y)).bind (asgT c z)
  | _, _, _ => none

/-! ### what pieces compute -/
abbrev SF := Env → Mem → Res Val
abbrev SA := Env → Mem → Res (List Val)
abbrev SI := Env → Mem → Res (List D)
def ofO {α : Type} (o : Option α) (M : Mem) : Res α := match o with
  | some a => .ok a M
  | none => .no
def sVar (i : Nat) : SF := fun σ M => ofO (getE σ i) M
def sCon (c : D) : SF := fun _ M => .ok (.d c) M
def sNil : SA := fun _ M => .ok [] M
def sCons (f : SF) (g : SA) : SA := fun σ M => (f σ M).bind fun v M1 => (g σ M1).bind fun vs M2 => .ok (v :: vs) M2
def sTup (g : SA) : SF := fun σ M => (g σ M).bind fun vs M1 => match toDs vs with
  | some ds => if ds.length ≤ lim then .ok (.d (.tuple ds)) M1 else .no
  | none => .no
def sLst (g : SA) : SF := fun σ M => (g σ M).bind fun vs M1 => match toDs vs with
  | some ds => if ds.length ≤ lim then .ok (.d (.list ds)) M1 else .no
  | none => .no
def sBox (g : SA) : SF := fun σ M => (g σ M).bind fun vs M1 => if vs.length ≤ lim then .ok (.ref M1.length) (M1 ++ [.box vs]) else .no
def sNew (f : SF) : SF := fun σ M => (f σ M).bind fun v M1 => match v with
  | .d (.list xs) => .ok (.ref M1.length) (M1 ++ [.lst xs])
  | _ => .no
def sBin (o : BOp) (f g : SF) : SF := fun σ M => (f σ M).bind fun v M1 => (g σ M1).bind fun w M2 => match rdV M2 v, rdV M2 w with
  | some x, some y => (ofO (binD o x y) M2).bind fun z M3 => .ok (.d z) M3
  | _, _ => .no
def sNeg (f : SF) : SF := fun σ M => (f σ M).bind fun v M1 => match v with
  | .d (.int i) => .ok (.d (.int (-i))) M1
  | _ => .no
def sCmp (o : COp) (f g : SF) : SF := fun σ M => (f σ M).bind fun v M1 => (g σ M1).bind fun w M2 => (ofO (cmpV M2 o v w) M2).bind fun b M3 => .ok (.d (.bool b)) M3
def sChn (o p : COp) (f g h : SF) : SF := fun σ M => (f σ M).bind fun v M1 => (g σ M1).bind fun w M2 => (ofO (cmpV M2 o v w) M2).bind fun b M3 =>
  if b then (h σ M3).bind fun u M4 => (ofO (cmpV M4 p w u) M4).bind fun c M5 => .ok (.d (.bool c)) M5 else .ok (.d (.bool false)) M3
def sAnd (f g : SF) : SF := fun σ M => (f σ M).bind fun v M1 => (ofO (truV M1 v) M1).bind fun b M2 => if b then g σ M2 else .ok v M2
def sOr (f g : SF) : SF := fun σ M => (f σ M).bind fun v M1 => (ofO (truV M1 v) M1).bind fun b M2 => if b then .ok v M2 else g σ M2
def sNot (f : SF) : SF := fun σ M => (f σ M).bind fun v M1 => (ofO (truV M1 v) M1).bind fun b M2 => .ok (.d (.bool (!b))) M2
def sIf (c f g : SF) : SF := fun σ M => (c σ M).bind fun v M1 => (ofO (truV M1 v) M1).bind fun b M2 => if b then f σ M2 else g σ M2
def sIdx (f g : SF) : SF := fun σ M => (f σ M).bind fun v M1 => (g σ M1).bind fun w M2 => ofO (idxV M2 v w) M2
abbrev SO := Env → Mem → Res (Option Int)
def sNon : SO := fun _ M => .ok none M
def sSom (f : SF) : SO := fun σ M => (f σ M).bind fun v M1 => match v with
  | .d (.int i) => .ok (some i) M1
  | _ => .no
def sSlc (f : SF) (lo hi : SO) : SF := fun σ M => (f σ M).bind fun v M1 => (lo σ M1).bind fun l M2 => (hi σ M2).bind fun h M3 => match rdS M3 v with
  | some x => (ofO (cutD x l h) M3).bind fun z M4 => .ok (.d z) M4
  | none => .no
def sRev (f : SF) : SF := fun σ M => (f σ M).bind fun v M1 => match rdV M1 v with
  | some x => (ofO (revD x) M1).bind fun z M2 => .ok (.d z) M2
  | none => .no
def sBi (b : BI) (g : SA) : SF := fun σ M => (g σ M).bind fun vs M1 => (ofO (biV b M1 vs) M1).bind fun z M2 => .ok (.d z) M2
def sIsi (f : SF) (t : TK) : SF := fun σ M => (f σ M).bind fun v M1 => match v with
  | .d x => .ok (.d (.bool (isD t x))) M1
  | _ => .no
/-- the receiver's kind -/
def isRL (M : Mem) : Val → Bool
  | .d _ => false
  | .ref j => match M[j]? with
    | some (.lst _) => true
    | _ => false
def isDL : Val → Bool
  | .d x => match x with | .list _ => true | _ => false
  | .ref _ => false
def isDT : Val → Bool
  | .d x => match x with | .tuple _ => true | _ => false
  | .ref _ => false
def kindM (m : MT) (M : Mem) (v : Val) : Bool := match m with
  | .index => isDL v
  | .indexT => isDT v
  | .append => isRL M v
  | .pop0 => isRL M v
  | .popAt => isRL M v
  | .insert => isRL M v
  | .extend => isRL M v
def sMt (m : MT) (f : SF) (g : SA) : SF := fun σ M => (f σ M).bind fun v M1 => if kindM m M1 v then (g σ M1).bind fun vs M2 => match mtV m M2 v vs with
  | some (z, M3) => .ok z M3
  | none => .no else .no
def sDnw (t : Bool) : SF := fun _ M => .ok (.ref M.length) (M ++ [if t then .dT [] else .dK []])
/-- {k: v}, k a tuple -/
def sDdsp (f g : SF) : SF := fun σ M => (f σ M).bind fun v M1 => (g σ M1).bind fun w M2 => match v, w with
  | .d x, .d y => match nkT x with
    | some ks => .ok (.ref M2.length) (M2 ++ [.dT [(ks, y)]])
    | none => .no
  | _, _ => .no
/-- dict of pairs -/
def dpair : D → Option (L2.Key × D)
  | .tuple xs => match xs with
    | [] => none
    | a :: r => match r with
      | [] => none
      | b :: r => match r with
        | [] => (keyD a).map fun k => (k, b)
        | _ :: _ => none
  | _ => none
def dpairs : List D → Option (List (L2.Key × D))
  | [] => some []
  | x :: xs => match dpair x, dpairs xs with
    | some k, some r => some (k :: r)
    | _, _ => none
def dAll (kvs : List (L2.Key × D)) : List (L2.Key × D) := kvs.foldl (fun acc kv => dPut acc kv.1 kv.2) []
def vPairs : List Val → Option (List (L2.Key × D)) := v1 fun v => match v with
  | .d x => match x with
    | .list xs => if xs.length ≤ lim then dpairs xs else none
    | _ => none
  | .ref _ => none
def sDcp (g : SA) : SF := fun σ M => (g σ M).bind fun vs M1 => match vPairs vs with
  | some kvs => .ok (.ref M1.length) (M1 ++ [.dK (dAll kvs)])
  | none => .no
def sOv (f : SF) : SI := fun σ M => (f σ M).bind fun v M1 => match v with
  | .d (.list xs) => .ok xs M1
  | .d (.tuple xs) => .ok xs M1
  | _ => .no
def sRg1 (f : SF) : SI := fun σ M => (f σ M).bind fun v M1 => match v with
  | .d (.int n) => if rngOk 0 n then .ok (rngD 0 n) M1 else .no
  | _ => .no
def sRg2 (f g : SF) : SI := fun σ M => (f σ M).bind fun v M1 => (g σ M1).bind fun w M2 => match v, w with
  | .d (.int a), .d (.int b) => if rngOk a b then .ok (rngD a b) M2 else .no
  | _, _ => .no
def enmL : List D → Nat → List D
  | [], _ => []
  | x :: r, n => .tuple [.int n, x] :: enmL r (n + 1)
def sEnm (f : SF) : SI := fun σ M => (f σ M).bind fun v M1 => match v with
  | .d (.list xs) => .ok (enmL xs 0) M1
  | .d (.tuple xs) => .ok (enmL xs 0) M1
  | _ => .no
def sTst (c : Option SF) (σ : Env) (M : Mem) : Res Bool := match c with
  | none => .ok true M
  | some c => (c σ M).bind fun v M1 => ofO (truV M1 v) M1
/-- a comprehension's turns -/
def lcL (tg : Tg) (own : List Nat) (c : Option SF) (f : SF) (σ : Env) : List D → Mem → Res (List D)
  | [], M => .ok [] M
  | x :: xs, M => match asgT tg x (wipeE σ own) with
    | none => .no
    | some σ1 => (sTst c σ1 M).bind fun b M2 =>
      if b then (f σ1 M2).bind fun v M3 => match v with
        | .d y => (lcL tg own c f σ xs M3).bind fun ys M4 => .ok (y :: ys) M4
        | _ => .no
      else lcL tg own c f σ xs M2
def sLc (tg : Tg) (own : List Nat) (it : SI) (c : Option SF) (f : SF) : SF := fun σ M => (it σ M).bind fun xs M1 => match lcL tg own c f σ xs M1 with
  | .ok ys M2 => if ys.length ≤ lim then .ok (.d (.list ys)) M2 else .no
  | _ => .no

/-! ### statements -/
inductive Fl where
  | nx (σ : Env) | rt (v : Val) | bk (σ : Env) | ct (σ : Env)
abbrev SS := Env → Mem → Res Fl
def sSet (i : Nat) (f : SF) : SS := fun σ M => (f σ M).bind fun v M1 => .ok (.nx (σ.set i (some v))) M1
def sAsg (tg : Tg) (f : SF) : SS := fun σ M => (f σ M).bind fun v M1 => match v with
  | .d x => (ofO (asgT tg x σ) M1).bind fun σ1 M2 => .ok (.nx σ1) M2
  | _ => .no
def sPar2 (i j : Nat) (f g : SF) : SS := fun σ M => (f σ M).bind fun v M1 => (g σ M1).bind fun w M2 => .ok (.nx ((σ.set i (some v)).set j (some w))) M2
def okRef (i : Nat) : Val → Bool
  | .d _ => true
  | .ref j => decide (j < i)
def setV (M : Mem) (o w v : Val) : Option Mem :=
  match o with
  | .ref i => match M[i]? with
    | some (.lst xs) => match w, v with
      | .d (.int k), .d x => (L2.ixN xs.length k).map fun j => M.set i (.lst (xs.set j x))
      | _, _ => none
    | some (.box xs) => match w with
      | .d (.int k) => if okRef i v then (L2.ixN xs.length k).map fun j => M.set i (.box (xs.set j v)) else none
      | _ => none
    | some (.dK kvs) => match w, v with
      | .d x, .d y => match keyD x with
        | some k => if kvs.length < lim then some (M.set i (.dK (dPut kvs k y))) else none
        | none => none
      | _, _ => none
    | some (.dT kvs) => match w, v with
      | .d x, .d y => match nkT x with
        | some k => if kvs.length < lim then some (M.set i (.dT (dPut kvs k y))) else none
        | none => none
      | _, _ => none
    | _ => none
  | _ => none
/-- o[i] = v : v, o, i in this order -/
def sSetI (fo fi fv : SF) : SS := fun σ M => (fv σ M).bind fun v M1 => (fo σ M1).bind fun o M2 => (fi σ M2).bind fun w M3 => match setV M3 o w v with
  | some M4 => .ok (.nx σ) M4
  | none => .no
def sAug (i : Nat) (o : BOp) (f : SF) : SS := fun σ M => match getE σ i with
  | some (.d (.int x)) => (f σ M).bind fun v M1 => match o, v with
    | .add, .d (.int y) => .ok (.nx (σ.set i (some (.d (.int (x + y)))))) M1
    | .sub, .d (.int y) => .ok (.nx (σ.set i (some (.d (.int (x - y)))))) M1
    | _, _ => .no
  | _ => .no
def sExp (f : SF) : SS := fun σ M => (f σ M).bind fun _ M1 => .ok (.nx σ) M1
def sRet (f : SF) : SS := fun σ M => (f σ M).bind fun v M1 => .ok (.rt v) M1
def sRetn : SS := fun _ M => .ok (.rt (.d .none)) M
def sIff (c : SF) (f g : SS) : SS := fun σ M => (c σ M).bind fun v M1 => (ofO (truV M1 v) M1).bind fun b M2 => if b then f σ M2 else g σ M2
/-- a loop's turns -/
def forL (tg : Tg) (b : SS) : List D → SS
  | [], σ, M => .ok (.nx σ) M
  | x :: xs, σ, M => match asgT tg x σ with
    | none => .no
    | some σ1 => (b σ1 M).bind fun fl M1 => match fl with
      | .nx σ2 => forL tg b xs σ2 M1
      | .ct σ2 => forL tg b xs σ2 M1
      | .bk σ2 => .ok (.nx σ2) M1
      | .rt v => .ok (.rt v) M1
def sFor (tg : Tg) (it : SI) (b : SS) : SS := fun σ M => (it σ M).bind fun xs M1 => forL tg b xs σ M1
def whL (c : SF) (b : SS) : Nat → SS
  | 0, _, _ => .no
  | n + 1, σ, M => (c σ M).bind fun v M1 => (ofO (truV M1 v) M1).bind fun t M2 => if t then (b σ M2).bind fun fl M3 => match fl with
      | .nx σ2 => whL c b n σ2 M3
      | .ct σ2 => whL c b n σ2 M3
      | .bk σ2 => .ok (.nx σ2) M3
      | .rt v => .ok (.rt v) M3
    else .ok (.nx σ) M2
def wfuel : Nat := 1000000
def sWhil (c : SF) (b : SS) : SS := whL c b wfuel
def sBrk : SS := fun σ M => .ok (.bk σ) M
def sCtn : SS := fun σ M => .ok (.ct σ) M
def sPas : SS := fun σ M => .ok (.nx σ) M
def sSeq (f g : SS) : SS := fun σ M => (f σ M).bind fun fl M1 => match fl with
  | .nx σ1 => g σ1 M1
  | .rt v => .ok (.rt v) M1
  | .bk σ1 => .ok (.bk σ1) M1
  | .ct σ1 => .ok (.ct σ1) M1
/-- the list at the name i is never changed any more: it is a value from here on -/
def sFrz (i : Nat) : SS := fun σ M => match getE σ i with
  | some (.ref j) => match M[j]? with
    | some (.lst xs) => .ok (.nx (σ.set i (some (.d (.list xs))))) (M.set j .dead)
    | _ => .no
  | _ => .no

/-! ### the whole -/
abbrev CT := Nat → List Val → Mem → Res Val
def sCall (C : CT) (k : Nat) (g : SA) : SF := fun σ M => (g σ M).bind fun vs M1 => C k vs M1
/-- place j of the parameters: the perm[j]-th of what is written -/
def permV (vs : List Val) : List Nat → Option (List Val)
  | [] => some []
  | p :: ps => match vs[p]?, permV vs ps with
    | some v, some r => some (v :: r)
    | _, _ => none
def sCallk (C : CT) (k : Nat) (g h : SA) (perm : List Nat) : SF := fun σ M => (g σ M).bind fun vs M1 => (h σ M1).bind fun ws M2 => match permV (vs ++ ws) perm with
  | some us => C k us M2
  | none => .no

section
variable (G : Nat → Option D) (C : CT)
def sGlb (g : Nat) : SF := fun _ M => (ofO (G g) M).bind fun x M1 => .ok (.d x) M1
mutual
def evE : ME → SF
  | .var i => sVar i
  | .con c => sCon c
  | .glb g => sGlb G g
  | .tup es => sTup (evEs es)
  | .lst es => sLst (evEs es)
  | .box es => sBox (evEs es)
  | .new e => sNew (evE e)
  | .bin o a b => sBin o (evE a) (evE b)
  | .neg a => sNeg (evE a)
  | .cmp o a b => sCmp o (evE a) (evE b)
  | .chn o p a b c => sChn o p (evE a) (evE b) (evE c)
  | .and a b => sAnd (evE a) (evE b)
  | .or a b => sOr (evE a) (evE b)
  | .not a => sNot (evE a)
  | .ife c a b => sIf (evE c) (evE a) (evE b)
  | .idx a i => sIdx (evE a) (evE i)
  | .slc a lo hi => sSlc (evE a) (evO lo) (evO hi)
  | .rev a => sRev (evE a)
  | .call k es => sCall C k (evEs es)
  | .callk k es ks p => sCallk C k (evEs es) (evEs ks) p
  | .bi b es => sBi b (evEs es)
  | .isi a t => sIsi (evE a) t
  | .mt m o es => sMt m (evE o) (evEs es)
  | .lc own tg it ifs e => sLc tg own (evI it) (evC ifs) (evE e)
  | .dnw t => sDnw t
  | .ddsp k v => sDdsp (evE k) (evE v)
  | .dcp es => sDcp (evEs es)
def evEs : MEs → SA
  | .nil => sNil
  | .cons e es => sCons (evE e) (evEs es)
def evO : MO → SO
  | .non => sNon
  | .som e => sSom (evE e)
def evI : MI → SI
  | .ov e => sOv (evE e)
  | .rg1 a => sRg1 (evE a)
  | .rg2 a b => sRg2 (evE a) (evE b)
  | .enm e => sEnm (evE e)
def evC : MEs → Option SF
  | .nil => none
  | .cons e _ => some (evE e)
end
mutual
def evS : MS → SS
  | .set i e => sSet i (evE G C e)
  | .asg tg e => sAsg tg (evE G C e)
  | .par2 i j a b => sPar2 i j (evE G C a) (evE G C b)
  | .setI o i e => sSetI (evE G C o) (evE G C i) (evE G C e)
  | .aug i o e => sAug i o (evE G C e)
  | .exp e => sExp (evE G C e)
  | .ret e => sRet (evE G C e)
  | .retn => sRetn
  | .iff c a b => sIff (evE G C c) (evSs a) (evSs b)
  | .forr tg it b => sFor tg (evI G C it) (evSs b)
  | .whil c b => sWhil (evE G C c) (evSs b)
  | .brk => sBrk
  | .ctn => sCtn
  | .pas => sPas
  | .frz i => sFrz i
def evSs : MSs → SS
  | .nil => sPas
  | .cons s ss => sSeq (evS s) (evSs ss)
end
end

/-- a def: how many parameters, how many names, its body, whether what it made is let go at its end -/
structure Fn where
  np : Nat
  ns : Nat
  body : MSs
  tr : Bool
def outV (n : Nat) (tr : Bool) (v : Val) (M : Mem) : Res Val :=
  if tr then match v with
    | .d x => .ok (.d x) (M.take n)
    | .ref i => if i < n then .ok (.ref i) (M.take n) else .no
  else .ok v M
def runFn (G : Nat → Option D) (C : CT) (fn : Fn) (vs : List Val) (M : Mem) : Res Val :=
  if vs.length = fn.np then (evSs G C fn.body (vs.map some ++ List.replicate (fn.ns - fn.np) none) M).bind fun fl M1 => match fl with
    | .nx _ => outV M.length fn.tr (.d .none) M1
    | .rt v => outV M.length fn.tr v M1
    | _ => .no
  else .no
def callAt (G : Nat → Option D) (T : List Fn) : Nat → CT
  | 0 => fun _ _ _ => .no
  | n + 1 => fun k vs M => match T[k]? with
    | some fn => runFn G (callAt G T n) fn vs M
    | none => .no
end Mp
end
section
set_option maxHeartbeats 4000000
/-! How the small Python's values and memory lie in the abstract heap (R, RV, RM), what a step keeps (F). -/
namespace Mp
open PySem PySem.Spec PyProof.Rows L2

/-- the written part; the program, the world -/
structure Kf where
  K : PySem.W.Frag
  P : Program
  w : World
/-- a tuple whose object is known -/
def sT (its : List Value) (xs : List V) : HO := .frz { cls := .type "tuple", data := .seq its.toArray } (.tup xs)
def TupAt (K : Kf) (H : Hp) (a : Addr) (vs : List V) : Prop := (∃ its, H a = some (sT its vs)) ∨
  ∃ (o : Obj) (its : Array Value) (n : Nat), K.K.lookup a = some o ∧ o.cls = .type "tuple" ∧ o.dict = none ∧ o.data = .seq its n ∧ its.size ≤ sizeLine ∧ Vals vs its.toList
theorem TupAt.sq {K : Kf} {H : Hp} {a : Addr} {vs : List V} (h : TupAt K H a vs) : SqT K.K H a vs := by
  rcases h with ⟨its, h⟩ | ⟨o, its, n, h1, h2, h3, h4⟩
  · exact .inl (.inr ⟨_, h⟩)
  · exact .inr ⟨o, its, n, h1, h2, h4⟩
/-- a dict whose keys are tuples, by its own object -/
def dNφ (K : Kf) (a : Addr) (xs : List (NestedKey × Addr × V)) : Heap → Prop := fun h => (a == sysModules) = false ∧ xs.length ≤ sizeLine ∧ (xs.map (·.1)).Nodup ∧
  ∃ us : List (NestedKey × Addr × Value), Paired (fun (x : NestedKey × Addr × V) (u : NestedKey × Addr × Value) => x.1 = u.1 ∧ x.2.1 = u.2.1 ∧ RelV x.2.2 u.2.2) xs us ∧
  ∃ o es ep, h.get? a = some o ∧ o.ExactDict ∧ o.data = .dict es ep ∧ es.toList = us.map (entryOfKey (nestedKind K.P K.w))
def dN (K : Kf) (a : Addr) (xs : List (NestedKey × Addr × V)) : HO := .ext (dNφ K a xs)

/-! ### data -/
mutual
def R (K : Kf) (H : Hp) (av : Addr → Prop) : D → V → Prop
  | .none, v => v = .non
  | .bool b, v => v = .bl b
  | .int i, v => v = .int i
  | .str s, v => v = .str s
  | .tuple ds, v => ∃ a vs, v = .ref a ∧ TupAt K H a vs ∧ Rs K H av ds vs
  | .list ds, v => ∃ a vs, v = .ref a ∧ H a = some (.lst vs) ∧ ¬ av a ∧ Rs K H av ds vs
  | .dict _, _ => False
def Rs (K : Kf) (H : Hp) (av : Addr → Prop) : List D → List V → Prop
  | [], vs => vs = []
  | d :: ds, vs => ∃ v r, vs = v :: r ∧ R K H av d v ∧ Rs K H av ds r
end

def isDead : Ob → Bool
  | .dead => true
  | .scr _ => true
  | _ => false
/-- the script's list: never changed -/
def ScrAt (K : Kf) (H : Hp) (a : Addr) (vs : List V) : Prop := (∃ o, H a = some (.frz o (.lst vs))) ∨
  ∃ (o : Obj) (its : Array Value) (n : Nat), K.K.lookup a = some o ∧ o.cls = .type "list" ∧ o.dict = none ∧ o.data = .seq its n ∧ its.size ≤ sizeLine ∧ Vals vs its.toList
theorem ScrAt.sq {K : Kf} {H : Hp} {a : Addr} {vs : List V} (h : ScrAt K H a vs) : SqL K.K H a vs := by
  rcases h with h | h
  · exact .inl (.inr h)
  · exact .inr h
def live (am : List Addr) (M : Mem) (a : Addr) : Prop := ∃ (i : Nat) (ob : Ob), am[i]? = some a ∧ M[i]? = some ob ∧ isDead ob = false
def avS (ex am : List Addr) (M : Mem) (a : Addr) : Prop := a ∈ ex ∨ live am M a

def RV (K : Kf) (H : Hp) (av : Addr → Prop) (am : List Addr) : Val → V → Prop
  | .d x, v => R K H av x v
  | .ref i, v => ∃ a, am[i]? = some a ∧ v = .ref a
def RVs (K : Kf) (H : Hp) (av : Addr → Prop) (am : List Addr) : List Val → List V → Prop
  | [], vs => vs = []
  | x :: xs, vs => ∃ v r, vs = v :: r ∧ RV K H av am x v ∧ RVs K H av am xs r
def RK {κ : Type} (K : Kf) (H : Hp) (av : Addr → Prop) : List (κ × D) → List (κ × V) → Prop
  | [], vs => vs = []
  | x :: xs, vs => ∃ v r, vs = (x.1, v) :: r ∧ R K H av x.2 v ∧ RK K H av xs r

/-- the entries of a dict whose keys are tuples -/
def RD (K : Kf) (H : Hp) (av : Addr → Prop) : List (NestedKey × D) → List (NestedKey × Addr × V) → Prop
  | [], vs => vs = []
  | x :: xs, vs => ∃ q v r, vs = (x.1, q, v) :: r ∧ x.1.depth ≤ 8 ∧ R K H av x.1.data (.ref q) ∧ R K H av x.2 v ∧ RD K H av xs r

def RO (K : Kf) (H : Hp) (av : Addr → Prop) (am : List Addr) (i : Nat) (a : Addr) : Ob → Prop
  | .lst xs => ∃ vs, H a = some (.lst vs) ∧ Rs K H av xs vs
  | .box xs => ∃ vs, H a = some (.lst vs) ∧ RVs K H av am xs vs ∧ ∀ v ∈ xs, okRef i v = true
  | .dK kvs => ∃ vs, H a = some (.dK vs) ∧ RK K H av kvs vs
  | .dT kvs => ∃ xs, H a = some (dN K a xs) ∧ RD K H av kvs xs
  | .ins _ _ => False
  | .scr xs => ∃ vs, ScrAt K H a vs ∧ Rs K H av xs vs
  | .dead => True

structure RM (K : Kf) (ex am : List Addr) (M : Mem) (H : Hp) : Prop where
  len : am.length = M.length
  obj : ∀ (i : Nat) (ob : Ob) (a : Addr), M[i]? = some ob → am[i]? = some a → RO K H (avS ex am M) am i a ob
  inj : ∀ (i j : Nat) (a : Addr) (ob ob' : Ob), am[i]? = some a → am[j]? = some a → M[i]? = some ob → M[j]? = some ob' → isDead ob = false → isDead ob' = false → i = j
  exL : ∀ a, a ∈ ex → ¬ live am M a
  exH : ∀ a, a ∈ ex → ∃ o, H a = some o

def RE (K : Kf) (ex am : List Addr) (M : Mem) (H : Hp) (env : Env) (σ : L2.St) : Prop :=
  env.length = σ.length ∧ ∀ (i : Nat) (v : Val), getE env i = some v → ∃ x, σ[i]? = some (some x) ∧ RV K H (avS ex am M) am v x

structure F (am : List Addr) (M : Mem) (H : Hp) (am' : List Addr) (M' : Mem) (H' : Hp) : Prop where
  keep : ∀ a o, H a = some o → ¬ live am M a → H' a = some o ∧ ¬ live am' M' a
  ext : ∃ more, am' = am ++ more

section
variable {K : Kf} {H H' H1 H2 : Hp} {ex am am' am1 am2 : List Addr} {M M' M1 M2 : Mem} {av av' : Addr → Prop}

theorem F.refl : F am M H am M H := ⟨fun a o h n => ⟨h, n⟩, [], by simp⟩
theorem F.trans (f : F am M H am1 M1 H1) (g : F am1 M1 H1 am2 M2 H2) : F am M H am2 M2 H2 := by
  refine ⟨fun a o h n => ?_, ?_⟩
  · obtain ⟨h1, n1⟩ := f.keep a o h n
    exact g.keep a o h1 n1
  · obtain ⟨m1, e1⟩ := f.ext
    obtain ⟨m2, e2⟩ := g.ext
    exact ⟨m1 ++ m2, by rw [e2, e1, List.append_assoc]⟩
theorem F.at (f : F am M H am' M' H') {i : Nat} {a : Addr} (h : am[i]? = some a) : am'[i]? = some a := by
  obtain ⟨m, e⟩ := f.ext
  rw [e, List.getElem?_append_left (List.getElem?_eq_some_iff.mp h).1]
  exact h

/-- what lies live is a list, a dict, the script -/
theorem RO.ne {i : Nat} {a : Addr} {ob : Ob} (h : RO K H av am i a ob) (n : isDead ob = false) : (∃ o, H a = some o) ∧ (∀ vs, H a ≠ some (.tup vs)) ∧ ∀ o vs, H a ≠ some (.frz o (.tup vs)) := by
  cases ob with
  | lst xs => obtain ⟨vs, e, _⟩ := h; exact ⟨⟨_, e⟩, fun _ q => by rw [e] at q; simp at q, fun _ _ q => by rw [e] at q; simp at q⟩
  | box xs => obtain ⟨vs, e, _⟩ := h; exact ⟨⟨_, e⟩, fun _ q => by rw [e] at q; simp at q, fun _ _ q => by rw [e] at q; simp at q⟩
  | dK xs => obtain ⟨vs, e, _⟩ := h; exact ⟨⟨_, e⟩, fun _ q => by rw [e] at q; simp at q, fun _ _ q => by rw [e] at q; simp at q⟩
  | dT xs => obtain ⟨vs, e, _⟩ := h; exact ⟨⟨_, e⟩, fun _ q => by rw [e] at q; simp [dN] at q, fun _ _ q => by rw [e] at q; simp [dN] at q⟩
  | ins c fs => exact h.elim
  | scr xs => simp [isDead] at n
  | dead => simp [isDead] at n
theorem RM.liveH (m : RM K ex am M H) {a : Addr} (l : live am M a) : (∃ o, H a = some o) ∧ (∀ vs, H a ≠ some (.tup vs)) ∧ ∀ o vs, H a ≠ some (.frz o (.tup vs)) := by
  obtain ⟨i, ob, h1, h2, h3⟩ := l
  exact (m.obj i ob a h2 h1).ne h3
theorem RM.avH (m : RM K ex am M H) {a : Addr} (l : avS ex am M a) : ∃ o, H a = some o := by
  rcases l with l | l
  · exact m.exH a l
  · exact (m.liveH l).1

/-- two heaps that agree on what data reads -/
structure Agr (K : Kf) (H : Hp) (av : Addr → Prop) (H' : Hp) (av' : Addr → Prop) : Prop where
  tup : ∀ a vs, TupAt K H a vs → TupAt K H' a vs
  lst : ∀ a vs, H a = some (.lst vs) → ¬ av a → H' a = some (.lst vs) ∧ ¬ av' a
mutual
theorem Agr.r (g : Agr K H av H' av') : ∀ (d : D) (v : V), R K H av d v → R K H' av' d v
  | .none, _, h => h
  | .bool _, _, h => h
  | .int _, _, h => h
  | .str _, _, h => h
  | .tuple ds, v, h => by
    obtain ⟨a, vs, e, q, r⟩ := h
    exact ⟨a, vs, e, g.tup a vs q, Agr.rs g ds vs r⟩
  | .list ds, v, h => by
    obtain ⟨a, vs, e, q, n, r⟩ := h
    obtain ⟨q', n'⟩ := g.lst a vs q n
    exact ⟨a, vs, e, q', n', Agr.rs g ds vs r⟩
  | .dict _, _, h => h.elim
theorem Agr.rs (g : Agr K H av H' av') : ∀ (ds : List D) (vs : List V), Rs K H av ds vs → Rs K H' av' ds vs
  | [], _, h => h
  | d :: ds, _, h => by
    obtain ⟨v, r, e, h1, h2⟩ := h
    exact ⟨v, r, e, Agr.r g d v h1, Agr.rs g ds r h2⟩
end
theorem Agr.rk {κ : Type} (g : Agr K H av H' av') : ∀ (ds : List (κ × D)) (vs : List (κ × V)), RK K H av ds vs → RK K H' av' ds vs
  | [], _, h => h
  | d :: ds, _, h => by
    obtain ⟨v, r, e, h1, h2⟩ := h
    exact ⟨v, r, e, g.r _ _ h1, Agr.rk g ds r h2⟩
theorem Agr.rd (g : Agr K H av H' av') : ∀ (ds : List (NestedKey × D)) (vs : List (NestedKey × Addr × V)), RD K H av ds vs → RD K H' av' ds vs
  | [], _, h => h
  | d :: ds, _, h => by
    obtain ⟨q, v, r, e, hd, h0, h1, h2⟩ := h
    exact ⟨q, v, r, e, hd, g.r _ _ h0, g.r _ _ h1, Agr.rd g ds r h2⟩
theorem Agr.rv (g : Agr K H av H' av') (ha : ∀ (i : Nat) (a : Addr), am[i]? = some a → am'[i]? = some a) : ∀ (x : Val) (v : V), RV K H av am x v → RV K H' av' am' x v
  | .d x, v, h => g.r x v h
  | .ref i, v, h => by obtain ⟨a, e, q⟩ := h; exact ⟨a, ha i a e, q⟩
theorem Agr.rvs (g : Agr K H av H' av') (ha : ∀ (i : Nat) (a : Addr), am[i]? = some a → am'[i]? = some a) : ∀ (x : List Val) (v : List V), RVs K H av am x v → RVs K H' av' am' x v
  | [], _, h => h
  | x :: xs, _, h => by
    obtain ⟨v, r, e, h1, h2⟩ := h
    exact ⟨v, r, e, Agr.rv g ha x v h1, Agr.rvs g ha xs r h2⟩
/-- an object that itself stays -/
theorem Agr.ro (g : Agr K H av H' av') (ha : ∀ (i : Nat) (a : Addr), am[i]? = some a → am'[i]? = some a) {i : Nat} {a : Addr} {ob : Ob} (hs : ∀ o, H a = some o → H' a = some o) (h : RO K H av am i a ob) : RO K H' av' am' i a ob := by
  cases ob with
  | lst xs => obtain ⟨vs, e, r⟩ := h; exact ⟨vs, hs _ e, g.rs _ _ r⟩
  | box xs => obtain ⟨vs, e, r, w⟩ := h; exact ⟨vs, hs _ e, g.rvs ha _ _ r, w⟩
  | dK xs => obtain ⟨vs, e, r⟩ := h; exact ⟨vs, hs _ e, g.rk _ _ r⟩
  | dT xs => obtain ⟨vs, e, r⟩ := h; exact ⟨vs, hs _ e, g.rd _ _ r⟩
  | ins c fs => exact h.elim
  | scr xs => obtain ⟨vs, e, r⟩ := h; exact ⟨vs, e.imp (fun ⟨o, e⟩ => ⟨o, hs _ e⟩) id, g.rs _ _ r⟩
  | dead => trivial

/-- what is not live, where the heap changes at p -/
theorem RO.deadU {i : Nat} {a p : Addr} {ob : Ob} (d : isDead ob = true) (g : Agr K H av H' av') (hp : ∀ o vs, H p ≠ some (.frz o (.lst vs))) (hH : ∀ b, b ≠ p → H' b = H b) (h : RO K H av am i a ob) : RO K H' av' am' i a ob := by
  cases ob with
  | dead => trivial
  | scr xs =>
    obtain ⟨vs, e, r⟩ := h
    refine ⟨vs, ?_, g.rs _ _ r⟩
    rcases e with ⟨o, e⟩ | e
    · exact .inl ⟨o, by rw [hH a fun z => hp o vs (by rw [← z]; exact e)]; exact e⟩
    · exact .inr e
  | _ => simp [isDead] at d
theorem RO.nfrz {i : Nat} {a : Addr} {ob : Ob} (h : RO K H av am i a ob) (n : isDead ob = false) : ∀ o vs, H a ≠ some (.frz o (.lst vs)) := by
  intro o vs q
  cases ob with
  | lst xs => obtain ⟨vs, e, _⟩ := h; rw [e] at q; simp at q
  | box xs => obtain ⟨vs, e, _⟩ := h; rw [e] at q; simp at q
  | dK xs => obtain ⟨vs, e, _⟩ := h; rw [e] at q; simp at q
  | dT xs => obtain ⟨vs, e, _⟩ := h; rw [e] at q; simp [dN] at q
  | ins c fs => exact h.elim
  | scr xs => simp [isDead] at n
  | dead => simp [isDead] at n

/-- a step of evaluation keeps data -/
theorem RM.agr (m : RM K ex am M H) (f : F am M H am' M' H') : Agr K H (avS ex am M) H' (avS ex am' M') := by
  refine ⟨fun a vs h => ?_, fun a vs h n => ?_⟩
  · rcases h with ⟨its, h⟩ | h
    · have nl : ¬ live am M a := fun l => (m.liveH l).2.2 _ vs h
      exact .inl ⟨its, (f.keep a _ h nl).1⟩
    · exact .inr h
  · obtain ⟨h1, h2⟩ := f.keep a _ h fun l => n (.inr l)
    exact ⟨h1, fun q => q.elim (fun z => n (.inl z)) h2⟩
theorem RE.step {env : Env} {σ : L2.St} (e : RE K ex am M H env σ) (m : RM K ex am M H) (f : F am M H am' M' H') : RE K ex am' M' H' env σ :=
  ⟨e.1, fun i v h => by obtain ⟨x, h1, h2⟩ := e.2 i v h; exact ⟨x, h1, (m.agr f).rv (fun i a => f.at) _ _ h2⟩⟩
theorem RV.step {v : Val} {x : V} (r : RV K H (avS ex am M) am v x) (m : RM K ex am M H) (f : F am M H am' M' H') : RV K H' (avS ex am' M') am' v x := (m.agr f).rv (fun i a => f.at) _ _ r
theorem RVs.step {v : List Val} {x : List V} (r : RVs K H (avS ex am M) am v x) (m : RM K ex am M H) (f : F am M H am' M' H') : RVs K H' (avS ex am' M') am' v x := (m.agr f).rvs (fun i a => f.at) _ _ r

/-- a new object that the memory does not know -/
theorem F.new {p : Addr} {o : HO} (hp : H p = none) : F am M H am M (upd H p o) :=
  ⟨fun a u h n => ⟨by rw [upd_ne (ne_of_none h hp)]; exact h, n⟩, [], by simp⟩
theorem RM.new (m : RM K ex am M H) {p : Addr} (o : HO) (hp : H p = none) : RM K ex am M (upd H p o) := by
  have g := m.agr (F.new (am := am) (M := M) (o := o) hp)
  refine ⟨m.len, fun i ob a h1 h2 => g.ro (fun _ _ h => h) (fun u h => ?_) (m.obj i ob a h1 h2), m.inj, m.exL, fun a h => ?_⟩
  · rw [upd_ne (ne_of_none h hp)]; exact h
  · obtain ⟨u, h1⟩ := m.exH a h
    exact ⟨u, by rw [upd_ne (ne_of_none h1 hp)]; exact h1⟩

theorem live_append {a p : Addr} {ob : Ob} (hl : am.length = M.length) : live (am ++ [p]) (M ++ [ob]) a ↔ live am M a ∨ (a = p ∧ isDead ob = false) := by
  constructor
  · rintro ⟨i, o, h1, h2, h3⟩
    by_cases hi : i < M.length
    · rw [List.getElem?_append_left (by omega)] at h1
      rw [List.getElem?_append_left hi] at h2
      exact .inl ⟨i, o, h1, h2, h3⟩
    · rw [List.getElem?_append_right (by omega)] at h1 h2
      by_cases e : i = M.length
      · subst e
        simp [hl] at h1 h2
        subst h1 h2
        exact .inr ⟨rfl, h3⟩
      · have : 1 ≤ i - M.length := by omega
        rw [List.getElem?_eq_none (by simpa using this)] at h2
        cases h2
  · rintro (⟨i, o, h1, h2, h3⟩ | ⟨rfl, h⟩)
    · refine ⟨i, o, ?_, ?_, h3⟩
      · rw [List.getElem?_append_left (List.getElem?_eq_some_iff.mp h1).1]; exact h1
      · rw [List.getElem?_append_left (List.getElem?_eq_some_iff.mp h2).1]; exact h2
    · exact ⟨M.length, ob, by simp [← hl], by simp, h⟩
/-- a new object of the memory: HO o at p; what it holds is told over the heap ahead of it -/
theorem RM.alloc (m : RM K ex am M H) {p : Addr} {o : HO} {ob : Ob} (hp : H p = none) (hd : isDead ob = false)
    (ho : ∀ H' av' am', Agr K H (avS ex am M) H' av' → (∀ (i : Nat) (a : Addr), am[i]? = some a → am'[i]? = some a) → H' p = some o → RO K H' av' am' M.length p ob) :
    RM K ex (am ++ [p]) (M ++ [ob]) (upd H p o) ∧ F am M H (am ++ [p]) (M ++ [ob]) (upd H p o) := by
  have hl := m.len
  have nlp : ¬ live am M p := fun l => by
    obtain ⟨⟨u, h⟩, _⟩ := m.liveH l
    rw [hp] at h; cases h
  have ff : F am M H (am ++ [p]) (M ++ [ob]) (upd H p o) := by
    refine ⟨fun a u h n => ⟨by rw [upd_ne (ne_of_none h hp)]; exact h, fun l => ?_⟩, [p], rfl⟩
    rcases (live_append hl).mp l with l | ⟨e, _⟩
    · exact n l
    · subst e; rw [hp] at h; cases h
  have g := m.agr ff
  have ge : ∀ (i : Nat) (a : Addr), am[i]? = some a → (am ++ [p])[i]? = some a := fun i a h => ff.at h
  refine ⟨⟨by simp [hl], fun i ob' a h1 h2 => ?_, fun i j a ob1 ob2 h1 h2 h3 h4 h5 h6 => ?_, fun a ha l => ?_, fun a ha => ?_⟩, ff⟩
  · by_cases hi : i < M.length
    · rw [List.getElem?_append_left hi] at h1
      rw [List.getElem?_append_left (by omega)] at h2
      have q := m.obj i ob' a h1 h2
      refine g.ro ge (fun u h => ?_) q
      rw [upd_ne (ne_of_none h hp)]; exact h
    · have e : i = M.length := by
        have := (List.getElem?_eq_some_iff.mp h1).1
        simp at this; omega
      subst e
      simp at h1
      rw [← hl] at h2
      simp at h2
      subst h1 h2
      exact ho _ _ _ g ge upd_same
  · have old : ∀ {i : Nat} {a : Addr} {ob1 : Ob}, (am ++ [p])[i]? = some a → (M ++ [ob])[i]? = some ob1 → isDead ob1 = false → (i < M.length ∧ am[i]? = some a ∧ M[i]? = some ob1) ∨ (i = M.length ∧ a = p) := by
      intro i a ob1 h1 h2 h3
      by_cases hi : i < M.length
      · rw [List.getElem?_append_left hi] at h2
        rw [List.getElem?_append_left (by omega)] at h1
        exact .inl ⟨hi, h1, h2⟩
      · have e : i = M.length := by
          have := (List.getElem?_eq_some_iff.mp h2).1
          simp at this; omega
        subst e
        rw [← hl] at h1
        simp at h1
        exact .inr ⟨rfl, h1.symm⟩
    rcases old h1 h3 h5 with ⟨_, a1, a2⟩ | ⟨e1, e2⟩ <;> rcases old h2 h4 h6 with ⟨_, b1, b2⟩ | ⟨e3, e4⟩
    · exact m.inj i j a _ _ a1 b1 a2 b2 h5 h6
    · exact absurd ⟨i, _, e4 ▸ a1, a2, h5⟩ nlp
    · exact absurd ⟨j, _, e2 ▸ b1, b2, h6⟩ nlp
    · rw [e1, e3]
  · rcases (live_append hl).mp l with l | ⟨e, _⟩
    · exact m.exL a ha l
    · subst e
      obtain ⟨u, h⟩ := m.exH a ha
      rw [hp] at h; cases h
  · obtain ⟨u, h⟩ := m.exH a ha
    exact ⟨u, by rw [upd_ne (ne_of_none h hp)]; exact h⟩

theorem live_set {a : Addr} {i : Nat} {ob ob' : Ob} (h : M[i]? = some ob) (hd : isDead ob = false) (l : live am (M.set i ob') a) : live am M a := by
  obtain ⟨j, o, h1, h2, h3⟩ := l
  by_cases e : j = i
  · subst e; exact ⟨j, ob, h1, h, hd⟩
  · rw [List.getElem?_set_ne (Ne.symm e)] at h2; exact ⟨j, o, h1, h2, h3⟩
/-- an object of the memory is changed in place -/
theorem RM.mut (m : RM K ex am M H) {i : Nat} {a : Addr} {ob ob' : Ob} {o : HO} (h : M[i]? = some ob) (ha : am[i]? = some a) (hd : isDead ob = false) (hd' : isDead ob' = false)
    (ho : ∀ H' av', Agr K H (avS ex am M) H' av' → H' a = some o → RO K H' av' am i a ob') : RM K ex am (M.set i ob') (upd H a o) ∧ F am M H am (M.set i ob') (upd H a o) := by
  have hi : i < M.length := (List.getElem?_eq_some_iff.mp h).1
  have lv : live am M a := ⟨i, ob, ha, h, hd⟩
  have ff : F am M H am (M.set i ob') (upd H a o) := by
    refine ⟨fun b u hb n => ⟨?_, fun l => n (live_set h hd l)⟩, [], by simp⟩
    rw [upd_ne (fun e => n (by rw [e]; exact lv))]; exact hb
  have g := m.agr ff
  refine ⟨⟨by simp [m.len], fun j ob1 b h1 h2 => ?_, fun j k b ob1 ob2 h1 h2 h3 h4 h5 h6 => ?_, fun b hb l => m.exL b hb (live_set h hd l), fun b hb => ?_⟩, ff⟩
  · by_cases e : j = i
    · subst e
      rw [List.getElem?_set_self hi] at h1
      cases h1
      rw [ha] at h2; cases h2
      exact ho _ _ g upd_same
    · rw [List.getElem?_set_ne (Ne.symm e)] at h1
      by_cases dd : isDead ob1 = true
      · exact RO.deadU dd g ((m.obj i ob a h ha).nfrz hd) (fun b hb => upd_ne hb) (m.obj j ob1 b h1 h2)
      · have nd : isDead ob1 = false := by simpa using dd
        refine g.ro (fun _ _ h => h) (fun u hu => ?_) (m.obj j ob1 b h1 h2)
        have : b ≠ a := fun eb => e (m.inj j i b _ _ h2 (eb ▸ ha) h1 h nd hd)
        rw [upd_ne this]; exact hu
  · have back : ∀ {j : Nat} {b : Addr} {ob1 : Ob}, am[j]? = some b → (M.set i ob')[j]? = some ob1 → isDead ob1 = false → ∃ ob0, M[j]? = some ob0 ∧ isDead ob0 = false := by
      intro j b ob1 h1 h2 h3
      by_cases e : j = i
      · subst e; exact ⟨ob, h, hd⟩
      · rw [List.getElem?_set_ne (Ne.symm e)] at h2; exact ⟨ob1, h2, h3⟩
    obtain ⟨o1, q1, d1⟩ := back h1 h3 h5
    obtain ⟨o2, q2, d2⟩ := back h2 h4 h6
    exact m.inj j k b _ _ h1 h2 q1 q2 d1 d2
  · obtain ⟨u, hu⟩ := m.exH b hb
    have : b ≠ a := fun e => m.exL b hb (e ▸ lv)
    exact ⟨u, by rw [upd_ne this]; exact hu⟩
/-- an object of the memory is let go -/
theorem RM.drop (m : RM K ex am M H) {i : Nat} {a : Addr} {ob : Ob} (h : M[i]? = some ob) (ha : am[i]? = some a) (hd : isDead ob = false) : RM K ex am (M.set i .dead) H ∧ F am M H am (M.set i .dead) H ∧ ¬ live am (M.set i .dead) a := by
  have hi : i < M.length := (List.getElem?_eq_some_iff.mp h).1
  have lb : ∀ {b}, live am (M.set i .dead) b → live am M b := fun l => live_set h hd l
  have ff : F am M H am (M.set i .dead) H := ⟨fun b u hb n => ⟨hb, fun l => n (lb l)⟩, [], by simp⟩
  have g := m.agr ff
  refine ⟨⟨by simp [m.len], fun j ob1 b h1 h2 => ?_, fun j k b ob1 ob2 h1 h2 h3 h4 h5 h6 => ?_, fun b hb l => m.exL b hb (lb l), m.exH⟩, ff, fun ⟨j, o, h1, h2, h3⟩ => ?_⟩
  · by_cases e : j = i
    · subst e
      rw [List.getElem?_set_self hi] at h1
      cases h1
      trivial
    · rw [List.getElem?_set_ne (Ne.symm e)] at h1
      exact g.ro (fun _ _ h => h) (fun u hu => hu) (m.obj j ob1 b h1 h2)
  · have back : ∀ {j : Nat} {b : Addr} {ob1 : Ob}, am[j]? = some b → (M.set i .dead)[j]? = some ob1 → isDead ob1 = false → ∃ ob0, M[j]? = some ob0 ∧ isDead ob0 = false := by
      intro j b ob1 h1 h2 h3
      by_cases e : j = i
      · subst e; exact ⟨ob, h, hd⟩
      · rw [List.getElem?_set_ne (Ne.symm e)] at h2; exact ⟨ob1, h2, h3⟩
    obtain ⟨o1, q1, d1⟩ := back h1 h3 h5
    obtain ⟨o2, q2, d2⟩ := back h2 h4 h6
    exact m.inj j k b _ _ h1 h2 q1 q2 d1 d2
  · by_cases e : j = i
    · subst e
      rw [List.getElem?_set_self hi] at h2
      cases h2
      simp [isDead] at h3
    · rw [List.getElem?_set_ne (Ne.symm e)] at h2
      exact e (m.inj j i a _ _ h1 ha h2 h h3 hd)
end
end Mp
end
section
set_option maxHeartbeats 4000000
/-! Tuples whose objects are known; dicts whose keys are tuples. -/
namespace Mp
open PySem PySem.Spec PyProof.Rows L2

section
variable {X : Cx} {pins : List (Addr × Obj)} {σ : L2.St} {H : Hp} {s : Shared}
/-- a new tuple -/
theorem inv_newT {h' : Heap} {t' : Nat} {its : List Value} {xs : List V} (I : Inv X pins σ H s) (k : ∀ b u, s.heap.get? b = some u → h'.get? b = some u) (r : Vals xs its) (hz : xs.length ≤ sizeLine) {p : Addr} (hp : s.heap.objs.size ≤ p)
    (hat : h'.get? p = some { cls := .type "tuple", data := .seq its.toArray }) : Inv X pins σ (upd H p (sT its xs)) { s with heap := h', toks := t' } :=
  I.laid k hp ⟨hat, hz, its, r, ⟨_, hat, rfl, _, rfl⟩⟩
theorem TupAt.of {K : Kf} {its : List Value} {p : Addr} {xs : List V} : TupAt K (upd H p (sT its xs)) p xs := .inl ⟨its, upd_same⟩
def tTupS (t : TA) : TE := fun σ H Q => t σ H fun xs H1 => xs.length ≤ sizeLine ∧ ∀ p its, H1 p = none → Q (.ref p) (upd H1 p (sT its xs))
variable {es : List Expr} {t : TA} {pos : Pos}
theorem pe_tupS {x1 : Nat} (h : PA X es t) : PE X (.Tuple es x1 pos) (tTupS t) := by
  refine ⟨fun pins s σ H Q I hq => ?_⟩
  refine wpAny_Tuple_spliced (thn (h.run pos pins s σ H _ I hq) fun us s1 ⟨xs, H1, I1, r, z, q⟩ => ⟨by rw [← r.length]; exact z, ?_⟩)
  have hf : H1 s1.heap.objs.size = none := I1.hok.fresh (Nat.le_refl _)
  exact ⟨.ref s1.heap.objs.size, _, inv_newT I1 (t' := s1.toks) (fun b u e => Heap.get?_push_of_some _ e) r z (Nat.le_refl _) (Heap.get?_push_size _ rfl), rfl, q _ us hf⟩
/-- t + u -/
def rCatS (K : PySem.W.Frag) : R2 := fun x y H Q => ∃ a b xs ys, x = .ref a ∧ y = .ref b ∧ SqT K H a xs ∧ SqT K H b ys ∧ xs.length + ys.length ≤ sizeLine ∧
  (xs = [] → Q (.ref b) H) ∧ (ys = [] → Q (.ref a) H) ∧ (∀ p its, H p = none → Q (.ref p) (upd H p (sT its (xs ++ ys))))
theorem op_catS : OpR X (binaryOp .Add) (rCatS X.K) := by
  intro pins s σ H x y v u Q I rx ry h
  obtain ⟨a, b, xs, ys, rfl, rfl, ha, hb, hz, q0, q1, q2⟩ := h
  cases rx
  cases ry
  obtain ⟨its, r1, p1, _⟩ := I.tuple ha
  obtain ⟨its2, r2, p2, _⟩ := I.tuple hb
  by_cases hx : xs = []
  · subst hx
    cases r1
    exact cat_tup0 p1 p2 ⟨.ref b, H, I, rfl, q0 rfl⟩
  · refine HT.cat_tup p1 p2 (fun z => hx (r1.nil_iff.mp z)) (fun z => ⟨.ref a, H, I, rfl, q1 (r2.nil_iff.mp z)⟩) (fun z => ?_) (by rw [← r1.length, ← r2.length]; exact hz)
    exact ⟨.ref s.heap.objs.size, _, inv_newT I (t' := s.toks) (fun b ob q => Heap.get?_push_of_some _ q) (r1.append r2) (by rw [List.length_append]; exact hz) (Nat.le_refl _) (Heap.get?_push_size _ rfl), rfl, q2 _ _ (I.hok.fresh (Nat.le_refl _))⟩
/-- t[lo:hi] -/
def rSlS (K : PySem.W.Frag) : V → Option Int → Option Int → Hp → VK → Prop := fun x lo hi H Q => ∃ a xs, x = .ref a ∧ SqT K H a xs ∧
  (HT.sIx xs.length 0 lo = 0 ∧ HT.sIx xs.length xs.length hi = xs.length → Q (.ref a) H) ∧ (∀ p its, H p = none → Q (.ref p) (upd H p (sT its (cutV xs lo hi))))
theorem sl_tupS : SlR X (rSlS X.K) := by
  intro pins s σ H x v vl vu lo hi sl Q I rx hs pl pu h
  obtain ⟨a, xs, rfl, hx, q1, q2⟩ := h
  cases rx
  obtain ⟨its, r, ht, hz⟩ := I.tuple hx
  have hlen : its.toArray.size = xs.length := by rw [List.size_toArray]; exact r.length.symm
  refine ⟨"tuple", _, PyProof.Rows.slot_tuple_getitem.lookup, ht.typeIs, ?_⟩
  by_cases hw : HT.sIx xs.length 0 lo = 0 ∧ HT.sIx xs.length xs.length hi = xs.length
  · exact getItem_tuple_whole ht hs pl pu (by rw [hlen]; exact hw) ⟨.ref a, H, I, rfl, q1 hw⟩
  · refine HT.getItem_tuple_cut ht hs pl pu (by rw [hlen]; exact hw) ?_ (by rw [hlen]; exact hz)
    rw [hlen]
    exact ⟨.ref s.heap.objs.size, _, inv_newT I (t' := s.toks) (fun b ob q => Heap.get?_push_of_some _ q) ((r.drop (HT.sIx xs.length 0 lo)).take (HT.sIx xs.length xs.length hi - HT.sIx xs.length 0 lo)) (Nat.le_trans (cutV_length xs lo hi) hz) (Nat.le_refl _) (Heap.get?_push_size _ rfl), rfl, q2 _ _ (I.hok.fresh (Nat.le_refl _))⟩
/-- tuple(x) -/
theorem call_tuple_ofS : CallR X (.type "tuple") (fun xs H Q => ∃ p ys, xs = [.ref p] ∧ ((SqL X.K H p ys ∧ ∀ l its, H l = none → Q (.ref l) (upd H l (sT its ys))) ∨ (SqT X.K H p ys ∧ Q (.ref p) H))) := by
  intro pins s σ H xs us Q I r h
  obtain ⟨p, ys, rfl, h⟩ := h
  obtain ⟨u, rfl, rx⟩ := vals1 r
  cases rx
  rcases h with ⟨hq, q⟩ | ⟨hq, q⟩
  · obtain ⟨its, r', pl, hz⟩ := I.list hq
    have hlen := r'.length
    refine call_tuple_list pl.isList (fun h' kp => ?_) (by simp only [List.size_toArray] <;> omega)
    have I1 : Inv X pins σ H { s with heap := h' } := I.kept (t' := s.toks) kp
    have I2 := inv_newT I1 (t' := s.toks) (h' := h'.push { cls := .type "tuple", data := .seq its.toArray }) (fun b o e => Heap.get?_push_of_some _ e) r' hz (Nat.le_refl _) (Heap.get?_push_size _ rfl)
    exact ⟨.ref h'.objs.size, _, I2, rfl, q _ its (I1.hok.fresh (Nat.le_refl _))⟩
  · obtain ⟨its, r', pl, hz⟩ := I.tuple hq
    exact call_tuple_same pl ⟨.ref p, H, I, rfl, q⟩
/-- tuple(range(..)) -/
def tTupRgS (te : L2.St → Hp → (Int → Int → Hp → Prop) → Prop) : TE := fun σ H Q => te σ H fun a b H1 => RgOk a b ∧ ∀ q its, H1 q = none → Q (.ref q) (upd H1 q (sT its (rgV a b)))
theorem pe_tupRgS {e : Expr} {te : L2.St → Hp → (Int → Int → Hp → Prop) → Prop} {p pos : Pos} (hc : X.calm = true) (hg : Gl X "tuple") (hm : X.mg "tuple" = none) (he : PRg X e te) (na : starEach [e] X.env = (false, eval e X.env) :: starEach [] X.env) : PE X (.Call (.Name "tuple" p) [e] [] pos) (tTupRgS te) := by
  refine ⟨fun pins s σ H Q I h => ?_⟩
  refine Call_ (ld_blt I hg hm boot_tuple (PyProof.Rows.callWith_type1 (args_cons (thn (he pins s σ H _ I h) fun x s1 ⟨r, a, b, t, u, v, H1, ex, hr, I1, ok, q⟩ => args_nil ?_) na) na))
  subst ex
  obtain ⟨b1, b2, b3, b4, b5⟩ := ok
  refine call_tuple_range (n := (b - a).toNat) (I1.ok.hd hc) hr (small_one b1 b2 b3 b4) (rangeSize_nat a b) b5 fun h' tk acc hk hi => ?_
  have I2 : Inv X pins σ H1 { s1 with heap := h', toks := tk } := I1.kept hk
  refine ⟨.ref h'.objs.size, _, inv_newT I2 (t' := tk) (h' := h'.push { cls := .type "tuple", data := .seq acc }) (fun c o e => Heap.get?_push_of_some _ e) (vals_rg hi) (by rw [rgV_length, sizeLine_eq]; omega) (Nat.le_refl _) ?_, rfl, q _ acc.toList (I2.hok.fresh (Nat.le_refl _))⟩
  rw [Array.toArray_toList]
  exact Heap.get?_push_size _ rfl

/-! ### a method of a tuple -/
def tyS (K : PySem.W.Frag) (T : String) (x : V) (H : Hp) : Prop := tyV K T x H ∨ (T = "tuple" ∧ ∃ p its vs, x = .ref p ∧ H p = some (sT its vs))
theorem tyS_is {T : String} {x : V} {v : Value} (I : Inv X pins σ H s) (r : RelV x v) (ty : tyS X.K T x H) : s.TypeIs v T ∧ ∀ a, v = .ref a → ∃ ob, s.heap.get? a = some ob ∧ ob.dict = none := by
  rcases ty with ty | ⟨rfl, p, its, vs, rfl, hp⟩
  · exact tyV_is I r ty
  · cases r
    obtain ⟨e, _⟩ : ObjOk X.prog X.w H s.heap p (.frz { cls := .type "tuple", data := .seq its.toArray } (.tup vs)) := I.hok p _ hp
    refine ⟨⟨_, e, rfl⟩, fun a q => ?_⟩
    cases q
    exact ⟨_, e, rfl⟩
def tBMS (K : PySem.W.Frag) (T : String) (r : V → List V → Hp → VK → Prop) (to : TE) (t : TA) : TE := fun σ H Q => to σ H fun x H1 => tyS K T x H1 ∧ t σ H1 fun xs H2 => r x xs H2 Q
def tBMS0 (K : PySem.W.Frag) (T : String) (r : V → List V → Hp → VK → Prop) (to : TE) : TE := fun σ H Q => to σ H fun x H1 => tyS K T x H1 ∧ r x [] H1 Q
variable {o e : Expr} {to : TE} {name : Str} {apos cpos : Pos} {T id : String} {r : V → List V → Hp → VK → Prop}
theorem pe_bmS0 (pa : PlainAttrs T) (slot : Slot T name id) (hty : typeOf (.builtin id) = pure (.type "method_descriptor")) (hm : MtR X id r) (ho : PE X o to)
    (hbase : attributeBase o name X.env (eval o X.env) = eval o X.env) (hline : (apos.endLine == cpos.line) = true) : PE X (.Call (.Attribute o name apos) [] [] cpos) (tBMS0 X.K T r to) := by
  refine ⟨fun pins s σ H Q I h => ?_⟩
  refine wpAny_Call_method0_late hbase hline (thn (ho.run pins s σ H _ I h) fun v s1 ⟨x, H1, I1, r1, ty, q1⟩ => ?_)
  obtain ⟨h1, h2⟩ := tyS_is I1 r1 ty
  exact ⟨T, id, pa, slot, hty, h1, h2, Calls.callWith_builtin rfl (PySem.evalArgs_none (hm pins s1 σ H1 x [] v [] Q I1 r1 .nil q1))⟩
theorem pe_bmS (pa : PlainAttrs T) (slot : Slot T name id) (hty : typeOf (.builtin id) = pure (.type "method_descriptor")) (hm : MtR X id r) (ho : PE X o to) (ha : PA X (e :: es) t)
    (hbase : attributeBase o name X.env (eval o X.env) = eval o X.env)
    (hfew : ((backTo cpos (starEach (e :: es) X.env)).all (fun x => !x.1) && (backToKw cpos (keywordEach [] X.env)).all (fun x => x.1.isSome)
      && decide ((e :: es).length + ([] : List Keyword).length + (if ([] : List Keyword).isEmpty then 0 else 1) < 30)) = true)
    (hline : (apos.endLine == cpos.line) = true) (hs : starEach (e :: es) X.env = (false, eval e X.env) :: starEach es X.env) (hplain : (backTo cpos (starEach es X.env)).any (·.1) = false) :
    PE X (.Call (.Attribute o name apos) (e :: es) [] cpos) (tBMS X.K T r to t) := by
  refine ⟨fun pins s σ H Q I h => ?_⟩
  refine wpAny_Call_method_late hbase hfew hline rfl (thn (ho.run pins s σ H _ I h) fun v s1 ⟨x, H1, I1, r1, ty, q1⟩ => ?_)
  obtain ⟨h1, h2⟩ := tyS_is I1 r1 ty
  refine ⟨T, id, pa, slot, hty, h1, h2, ?_⟩
  have hA := ha.run cpos pins s1 σ H1 _ I1 q1
  rw [hs] at hA ⊢
  refine Calls.callWith_builtin (by show (false || (backTo cpos (starEach es X.env)).any (·.1)) = false; rw [hplain] <;> rfl) (Calls.evalArgs_plain ?_)
  exact thn hA fun us s2 ⟨vs, H2, I2, r2, q2⟩ => hm pins s2 σ H2 x vs v us Q I2 r1 r2 q2
/-- t.index(x) of flat items -/
def rIndexT (K : PySem.W.Frag) : V → List V → Hp → VK → Prop := fun x xs H Q => ∃ (a : Addr) (ys : List V) (y : V) (j : Nat) (z : V), x = V.ref a ∧ xs = [y] ∧ SqT K H a ys ∧ flatV y = true ∧ ys.all flatV = true ∧ ys[j]? = some z ∧ eqV z y = true ∧
  (∀ (m : Nat) (z' : V), m < j → ys[m]? = some z' → eqV z' y = false) ∧ Q (.int (j : Nat)) H
theorem mt_indexT : MtR X "tuple.index" (rIndexT X.K) := by
  intro pins s σ H x xs v us Q I rx rxs h
  obtain ⟨a, ys, y, j, z, rfl, rfl, hs, fy, fys, hz, hzj, hno, q⟩ := h
  cases rx
  cases rxs with
  | cons ry rt =>
    rename_i uy ut
    cases rt
    obtain ⟨its, rv, ⟨⟨cls, dd, data, sl⟩, ho, hc, n, hd⟩, hlen⟩ := I.tuple hs
    simp only at hc hd
    subst hc hd
    obtain ⟨u, hu, ru⟩ := rv.get hz
    obtain ⟨hjl, hje⟩ := List.getElem?_eq_some_iff.mp hu
    have hvl := rv.length
    have hj : j < its.toArray.size := by simpa using hjl
    have hsl := sizeLine_eq
    refine call_meets PySem.F.slot_tuple_index ⟨_, ho, rfl⟩ PySem.F.entry_tuple_index (PySem.F.args_tuple_index_2 _ _)
      (TI.tuple_indexAt a its.toArray n dd sl uy (eqU y) j hj ?_ ?_) ⟨ho, fun u' hu' => mem_eqAt ry fy rv fys u' (by simpa using hu'), ?_⟩
    · have e1 : its.toArray[j] = u := by simpa using hje
      rw [e1, eqU_of ru (flat_at fys hz)]
      exact hzj
    · intro m hm hmj
      have hml : m < its.length := by simpa using hm
      have hmy : m < ys.length := by omega
      have hy' : ys[m]? = some ys[m] := List.getElem?_eq_getElem hmy
      obtain ⟨u2, hu2, ru2⟩ := rv.get hy'
      obtain ⟨_, hme⟩ := List.getElem?_eq_some_iff.mp hu2
      have e1 : its.toArray[m] = u2 := by simpa using hme
      rw [e1, eqU_of ru2 (flat_at fys hy')]
      exact hno m _ hmj hy'
    · exact ⟨.int (j : Nat), H, I.tok _, ⟨_, rfl⟩, q⟩
end

/-! ### keys -/
mutual
theorem nk_data : ∀ (d : D) (q : NestedKey), nkD d = some q → q.data = d
  | .none, _, h => by cases h; rfl
  | .int i, _, h => by cases h; rfl
  | .str s, _, h => by cases h; rfl
  | .tuple xs, q, h => by
    unfold nkD at h
    cases e : nkDs xs with
    | none => rw [e] at h; cases h
    | some ks =>
      rw [e] at h
      cases h
      show PyData.tuple (NestedKey.datas ks) = _
      rw [nks_data xs ks e]
  | .bool _, _, h => by cases h
  | .list _, _, h => by cases h
  | .dict _, _, h => by cases h
theorem nks_data : ∀ (ds : List D) (ks : List NestedKey), nkDs ds = some ks → NestedKey.datas ks = ds
  | [], _, h => by cases h; rfl
  | d :: ds, ks, h => by
    unfold nkDs at h
    cases e1 : nkD d with
    | none => rw [e1] at h; simp at h
    | some a =>
      cases e2 : nkDs ds with
      | none => rw [e1, e2] at h; simp at h
      | some as =>
        rw [e1, e2] at h
        simp at h
        subst h
        show NestedKey.data a :: NestedKey.datas as = _
        rw [nk_data d a e1, nks_data ds as e2]
end
theorem nkT_data {d : D} {q : NestedKey} (h : nkT d = some q) : q.data = d ∧ q.depth ≤ 8 := by
  cases d with
  | tuple xs =>
    cases e : nkDs xs with
    | none => simp [nkT, e] at h
    | some ks =>
      have h : (if (NestedKey.tup ks).depth ≤ 8 then some (NestedKey.tup ks) else none) = some q := by simpa only [nkT, e] using h
      split at h
      · rename_i hd
        cases h
        exact ⟨by show PyData.tuple (NestedKey.datas ks) = _; rw [nks_data xs ks e], hd⟩
      · cases h
  | _ => cases h
section
variable {X : Cx} {pins : List (Addr × Obj)} {σ : L2.St} {H : Hp} {s : Shared} {K : Kf} {av : Addr → Prop}
mutual
/-- a key's tuple in the heap -/
theorem nest_is (hK : X.K = K.K) (I : Inv X pins σ H s) : ∀ (q : NestedKey) (v : V) (u : Value), R K H av q.data v → RelV v u → NestedIs s.heap q u
  | .none, _, _, h, r => by
    cases (show _ = V.non from h)
    cases r
    exact .none
  | .num i, _, _, h, r => by
    cases (show _ = V.int i from h)
    obtain ⟨t, rfl⟩ := r
    exact .int i t
  | .text x, _, _, h, r => by
    cases (show _ = V.str x from h)
    obtain ⟨t, rfl⟩ := r
    exact .text x t
  | .tup ks, _, _, h, r => by
    obtain ⟨a, vs, rfl, hp, hr⟩ := (show ∃ a vs, _ = V.ref a ∧ TupAt K H a vs ∧ Rs K H av (NestedKey.datas ks) vs from h)
    cases r
    have sq := hp.sq
    rw [← hK] at sq
    obtain ⟨its, rv, ⟨o, ho, hc, n, hd⟩, _⟩ := I.tuple sq
    exact .tup ho hc hd (nest_all hK I ks vs its hr rv)
theorem nest_all (hK : X.K = K.K) (I : Inv X pins σ H s) : ∀ (qs : List NestedKey) (vs : List V) (us : List Value), Rs K H av (NestedKey.datas qs) vs → Vals vs us → NestedAll s.heap qs us
  | [], _, _, h, r => by
    cases (show _ = [] from h)
    cases r
    exact .nil
  | q :: qs, _, _, h, r => by
    obtain ⟨v, t, rfl, h1, h2⟩ := (show ∃ v t, _ = v :: t ∧ R K H av q.data v ∧ Rs K H av (NestedKey.datas qs) t from h)
    cases r with
    | cons r1 r2 => exact .cons (nest_is hK I q _ _ h1 r1) (nest_all hK I qs _ _ h2 r2)
end
/-- the dict at a, as the library tells it -/
theorem dict_at (hK : X.K = K.K) (hP : X.prog = K.P) (hw : X.w = K.w) (I : Inv X pins σ H s) {a : Addr} {kvs : List (NestedKey × D)} {xs : List (NestedKey × Addr × V)} (hp : H a = some (dN K a xs)) (r : RD K H av kvs xs) :
    (a == sysModules) = false ∧ xs.length ≤ sizeLine ∧ (xs.map (·.1)).Nodup ∧ ∃ us : List (NestedKey × Addr × Value), Paired (fun (x : NestedKey × Addr × V) (u : NestedKey × Addr × Value) => x.1 = u.1 ∧ x.2.1 = u.2.1 ∧ RelV x.2.2 u.2.2) xs us ∧ s.heap.DictOfH (nestedKind X.prog X.w) a us := by
  obtain ⟨⟨h1, h2, h3, us, pr, o, es, ep, ho, hc, hd, he⟩, _, _⟩ := (show ObjOk X.prog X.w H s.heap a (.ext (dNφ K a xs)) from I.hok a _ hp)
  refine ⟨h1, h2, h3, us, pr, o, es, ep, ho, hc, hd, by rw [hP, hw]; exact he, ?_, ?_⟩
  · -- each key's tuple
    have key : ∀ (kvs : List (NestedKey × D)) (xs : List (NestedKey × Addr × V)) (us : List (NestedKey × Addr × Value)), RD K H av kvs xs → Paired (fun (x : NestedKey × Addr × V) (u : NestedKey × Addr × Value) => x.1 = u.1 ∧ x.2.1 = u.2.1 ∧ RelV x.2.2 u.2.2) xs us →
        ∀ u ∈ us, (nestedKind X.prog X.w).is s.heap u.1 u.2.1 := by
      intro kvs
      induction kvs with
      | nil =>
        intro xs us r pr u hu
        cases (show xs = [] from r)
        cases pr
        simp at hu
      | cons kv kvs ih =>
        intro xs us r pr u hu
        obtain ⟨q, v, t, rfl, hdp, h4, _, h5⟩ := r
        cases pr with
        | cons p1 p2 =>
          rcases List.mem_cons.mp hu with rfl | hu
          · obtain ⟨e1, e2, _⟩ := p1
            rw [← e1, ← e2]
            exact ⟨nest_is hK I _ _ _ h4 rfl, hdp⟩
          · exact ih t _ h5 p2 u hu
    exact key kvs xs us r pr
  · have key : ∀ {xs : List (NestedKey × Addr × V)} {us : List (NestedKey × Addr × Value)}, Paired (fun (x : NestedKey × Addr × V) (u : NestedKey × Addr × Value) => x.1 = u.1 ∧ x.2.1 = u.2.1 ∧ RelV x.2.2 u.2.2) xs us → us.map (·.1) = xs.map (·.1) := by
      intro xs us pr
      induction pr with
      | nil => rfl
      | cons p _ ih => rw [List.map_cons, List.map_cons, ih, p.1]
    rw [key pr]
    exact h3
def atN (xs : List (NestedKey × Addr × V)) (k : NestedKey) : Option V := (xs.find? fun x => decide (x.1 = k)).map (·.2.2)
theorem atN_key {xs : List (NestedKey × Addr × V)} {us : List (NestedKey × Addr × Value)} (pr : Paired (fun (x : NestedKey × Addr × V) (u : NestedKey × Addr × Value) => x.1 = u.1 ∧ x.2.1 = u.2.1 ∧ RelV x.2.2 u.2.2) xs us) (k : NestedKey) :
    (atN xs k).isSome = (atKey us k).isSome ∧ ∀ v, atN xs k = some v → ∃ p, atKey us k = some p ∧ RelV v p.2 := by
  induction pr with
  | nil => exact ⟨rfl, fun v h => by cases h⟩
  | cons p pr ih =>
    rename_i x u xs us
    obtain ⟨p1, p2, p3⟩ := p
    by_cases e : x.1 = k
    · have e' : u.1 = k := by rw [← p1]; exact e
      have h1 : atN (x :: xs) k = some x.2.2 := by simp [atN, List.find?_cons, e]
      have h2 : atKey (u :: us) k = some u.2 := by simp [atKey, List.find?_cons, e']
      rw [h1, h2]
      exact ⟨rfl, fun v h => by cases h; exact ⟨u.2, rfl, p3⟩⟩
    · have e' : ¬ u.1 = k := by rw [← p1]; exact e
      have h1 : atN (x :: xs) k = atN xs k := by simp [atN, List.find?_cons, e]
      have h2 : atKey (u :: us) k = atKey us k := by simp [atKey, List.find?_cons, e']
      rw [h1, h2]
      exact ih
theorem RD.get (k : NestedKey) : ∀ {kvs : List (NestedKey × D)} {xs : List (NestedKey × Addr × V)}, RD K H av kvs xs → (dGet kvs k).isSome = (atN xs k).isSome ∧ ∀ d, dGet kvs k = some d → ∃ v, atN xs k = some v ∧ R K H av d v
  | [], _, h => by cases (show _ = [] from h); exact ⟨rfl, fun d e => by cases e⟩
  | x :: kvs, _, h => by
    obtain ⟨q, v, r, e, _, _, h1, h2⟩ := h
    subst e
    have ih := RD.get k h2
    by_cases hq : x.1 = k
    · have e0 : atN ((x.1, q, v) :: r) k = some v := by simp [atN, List.find?_cons, hq]
      have e1 : dGet (x :: kvs) k = some x.2 := by simp [dGet, List.find?_cons, hq]
      rw [e1, e0]
      exact ⟨rfl, fun d e => by cases e; exact ⟨v, rfl, h1⟩⟩
    · have e0 : atN ((x.1, q, v) :: r) k = atN r k := by simp [atN, List.find?_cons, hq]
      have e1 : dGet (x :: kvs) k = dGet kvs k := by simp [dGet, List.find?_cons, hq]
      rw [e1, e0]
      exact ih
theorem room8 {A : Around} (hu : A.units + 100 < cLine) : (nestedKind X.prog X.w).room A.in1 := by
  show A.units + 1 + 8 < cLine
  omega
/-- k in d, k not in d -/
theorem n_in {d : D} {q : NestedKey} {a : Addr} {y : V} {u : Value} {Q : VK} {kvs : List (NestedKey × D)} {xs : List (NestedKey × Addr × V)} (hK : X.K = K.K) (hP : X.prog = K.P) (hw : X.w = K.w) (hu : X.A.units + 100 < cLine) (I : Inv X pins σ H s)
    (hp : H a = some (dN K a xs)) (r : RD K H av kvs xs) (hq : nkT d = some q) (ry : R K H av d y) (rv : RelV y u) (neg : Bool) (h : Q (.bl (if neg then !(dGet kvs q).isSome else (dGet kvs q).isSome)) H) :
    wpAny (model X.prog X.w) X.A (compareOp (if neg then .NotIn else .In) u (.ref a)) (EP X pins σ Q) X.xe s := by
  obtain ⟨h1, h2, _, us, pr, hm⟩ := dict_at hK hP hw I hp r
  obtain ⟨e1, e2⟩ := nkT_data hq
  have hn := nest_is hK I q y u (by rw [e1]; exact ry) rv
  obtain ⟨b, rfl⟩ : ∃ b, y = .ref b := by
    cases d with
    | tuple xs => obtain ⟨b, _, e, _⟩ := ry; exact ⟨b, e⟩
    | _ => cases hq
  cases rv
  have es : (atKey us q).isSome = (dGet kvs q).isSome := by rw [(r.get q).1, (atN_key pr q).1]
  cases neg with
  | false => exact wpAny_in_heap (room8 hu) ⟨hn, e2⟩ h1 hm ⟨.bl _, H, I.tok _, rfl, by rw [es]; exact h⟩
  | true =>
    show wpAny (model X.prog X.w) X.A (do return Value.bool (!(← contains (.ref a) (.ref b)))) (EP X pins σ Q) X.xe s
    exact wpAny_bind (wpAny_contains_heap (room8 hu) ⟨hn, e2⟩ h1 hm (wpAny_pure ⟨.bl _, H, I.tok _, rfl, by rw [es]; exact h⟩))
/-- d[k] -/
theorem n_get {d z : D} {q : NestedKey} {a : Addr} {y : V} {u : Value} {Q : VK} {kvs : List (NestedKey × D)} {xs : List (NestedKey × Addr × V)} {value slice : Expr} (hK : X.K = K.K) (hP : X.prog = K.P) (hw : X.w = K.w) (hu : X.A.units + 100 < cLine) (I : Inv X pins σ H s)
    (hp : H a = some (dN K a xs)) (r : RD K H av kvs xs) (hq : nkT d = some q) (ry : R K H av d y) (rv : RelV y u) (hz : dGet kvs q = some z) (h : ∀ v, R K H av z v → Q v H)
    (hs : subscripted slice false (.ref a) u = operate [.ref a, u] (getItem (.ref a) u)) : wpAny (model X.prog X.w) X.A (subscriptTail value slice (.ref a) u) (EP X pins σ Q) X.xe s := by
  obtain ⟨h1, h2, _, us, pr, hm⟩ := dict_at hK hP hw I hp r
  obtain ⟨e1, e2⟩ := nkT_data hq
  have hn := nest_is hK I q y u (by rw [e1]; exact ry) rv
  obtain ⟨b, rfl⟩ : ∃ b, y = .ref b := by
    cases d with
    | tuple xs => obtain ⟨b, _, e, _⟩ := ry; exact ⟨b, e⟩
    | _ => cases hq
  cases rv
  obtain ⟨v, hv, rvv⟩ := (r.get q).2 z hz
  obtain ⟨p, hp1, hp2⟩ := (atN_key pr q).2 v hv
  exact tail_any hm.typeIs PySem.F.slot_dict_getitem.lookup (wpAny_getItem_heap (room8 hu) ⟨hn, e2⟩ hm hp1 ⟨v, H, I.tok _, hp2, h v rvv⟩) hs
end
end Mp
end
section
set_option maxHeartbeats 4000000
/-! Readings of the pieces: names, constants, displays, operators, comparisons, and, or, not, if. -/
namespace Mp
open PySem PySem.Spec PyProof.Rows L2

/-- what is wanted of an error: the small Python's error, its class's address and fields as they lie -/
def REx (ca : Nat → Addr) (e : Exn) (cls : Value) (d : Option Addr) (H : Hp) : Prop :=
  ∃ dd fs, cls = .ref (ca e.cls) ∧ d = some dd ∧ H dd = some (.xd fs) ∧ RK0 e.fs fs
where
  RK0 : List (Str × D) → List (Str × V) → Prop
  | [], vs => vs = []
  | x :: xs, vs => ∃ v r, vs = (x.1, v) :: r ∧ (match x.2 with
    | .int i => v = .int i
    | .str s => v = .str s
    | _ => False) ∧ RK0 xs r

structure Kx where
  K : Kf
  ca : Nat → Addr

/-- what a piece comes to, from a memory on -/
def Po {α : Type} (k : Kx) (ex am : List Addr) (M : Mem) (H : Hp) (E : XK) (r : Res α) (ok : α → Mem → List Addr → Hp → Prop) : Prop :=
  match r with
  | .ok a M' => ∀ am' H', RM k.K ex am' M' H' → F am M H am' M' H' → ok a M' am' H'
  | .ex e M' => ∀ am' H' cls d, RM k.K ex am' M' H' → F am M H am' M' H' → REx k.ca e cls d H' → E cls d H'
  | .no => False

section
variable {k : Kx} {ex am am' : List Addr} {M M' : Mem} {H H' : Hp} {E : XK} {α β : Type}
theorem Po.weak {r : Res α} {ok : α → Mem → List Addr → Hp → Prop} (f : F am M H am' M' H') (h : Po k ex am M H E r ok) : Po k ex am' M' H' E r ok := by
  cases r with
  | ok a M1 => exact fun am1 H1 rm g => h am1 H1 rm (f.trans g)
  | ex e M1 => exact fun am1 H1 c d rm g q => h am1 H1 c d rm (f.trans g) q
  | no => exact h
theorem Po.mono {r : Res α} {ok ok' : α → Mem → List Addr → Hp → Prop} (h : Po k ex am M H E r ok) (hk : ∀ a M1 am1 H1, RM k.K ex am1 M1 H1 → F am M H am1 M1 H1 → ok a M1 am1 H1 → ok' a M1 am1 H1) : Po k ex am M H E r ok' := by
  cases r with
  | ok a M1 => exact fun am1 H1 rm g => hk a M1 am1 H1 rm g (h am1 H1 rm g)
  | ex e M1 => exact h
  | no => exact h
theorem Po.bind {r : Res α} {g : α → Mem → Res β} {ok : β → Mem → List Addr → Hp → Prop} (h : Po k ex am M H E (r.bind g) ok) :
    Po k ex am M H E r fun a M1 am1 H1 => Po k ex am1 M1 H1 E (g a M1) ok := by
  cases r with
  | ok a M1 => exact fun am1 H1 rm f => Po.weak f h
  | ex e M1 => exact h
  | no => exact h
/-- at once -/
theorem Po.now {a : α} {ok : α → Mem → List Addr → Hp → Prop} (m : RM k.K ex am M H) (h : Po k ex am M H E (.ok a M) ok) : ok a M am H := h am H m F.refl
theorem Po.ofO {o : Option α} {g : α → Mem → Res β} {ok : β → Mem → List Addr → Hp → Prop} (h : Po k ex am M H E ((Mp.ofO o M).bind g) ok) : ∃ a, o = some a ∧ Po k ex am M H E (g a M) ok := by
  cases o with
  | some a => exact ⟨a, rfl, h⟩
  | none => exact h.elim
theorem Po.ofO1 {o : Option α} {ok : α → Mem → List Addr → Hp → Prop} (h : Po k ex am M H E (Mp.ofO o M) ok) : ∃ a, o = some a ∧ Po k ex am M H E (.ok a M) ok := by
  cases o with
  | some a => exact ⟨a, rfl, h⟩
  | none => exact h.elim
end

abbrev okV (k : Kx) (ex : List Addr) (Q : VK) : Val → Mem → List Addr → Hp → Prop := fun v M am H => ∀ x, RV k.K H (avS ex am M) am v x → Q x H
abbrev okVs (k : Kx) (ex : List Addr) (Q : List V → Hp → Prop) : List Val → Mem → List Addr → Hp → Prop := fun v M am H => ∀ x, RVs k.K H (avS ex am M) am v x → Q x H
def tE (k : Kx) (E : XK) (f : SF) : TE := fun σ H Q => ∃ ex am env M, RM k.K ex am M H ∧ RE k.K ex am M H env σ ∧ Po k ex am M H E (f env M) (okV k ex Q)
def tA (k : Kx) (E : XK) (f : SA) : TA := fun σ H Q => ∃ ex am env M, RM k.K ex am M H ∧ RE k.K ex am M H env σ ∧ Po k ex am M H E (f env M) (okVs k ex Q)
def tT (k : Kx) (E : XK) (f : SF) : TT := fun σ H Q => ∃ ex am env M, RM k.K ex am M H ∧ RE k.K ex am M H env σ ∧
  Po k ex am M H E ((f env M).bind fun v M1 => ofO (truV M1 v) M1) (fun b _ _ H => Q b H)
/-- a piece that makes a new list -/
def tF (k : Kx) (E : XK) (f : SF) : TE := fun σ H Q => ∃ ex am env M, RM k.K ex am M H ∧ RE k.K ex am M H env σ ∧
  Po k ex am M H E (f env M) (fun v M1 am1 H1 => ∀ xs p vs, v = .d (.list xs) → H1 p = none → Rs k.K H1 (avS ex am1 M1) xs vs → Q (.ref p) (upd H1 p (.lst vs)))

/-- the context -/
structure Ck (k : Kx) (X : Cx) : Prop where
  K : X.K = k.K.K
  hu : X.A.units + 100 < cLine
  calm : X.calm = true
  nd : X.N.Nodup
  P : X.prog = k.K.P
  w : X.w = k.K.w
  kd : X.env.scope.kind = .function
  po : PassesOwn (model X.prog X.w) X.A X.env X.xe
abbrev SE (X : Cx) (k : Kx) (E : XK) (e : Expr) (f : SF) : Prop := PE X e (tE k E f)
abbrev SFr (X : Cx) (k : Kx) (E : XK) (e : Expr) (f : SF) : Prop := PE X e (tF k E f)
abbrev SAs (X : Cx) (k : Kx) (E : XK) (es : List Expr) (g : SA) : Prop := PA X es (tA k E g)
abbrev ST (X : Cx) (k : Kx) (E : XK) (e : Expr) (f : SF) : Prop := PT X e (tT k E f)
abbrev SW (X : Cx) (k : Kx) (E : XK) (e : Expr) (f : SF) : Prop := PW X e (tT k E f)

theorem PE.imp {X : Cx} {e : Expr} {t t' : TE} (h : PE X e t) (i : ∀ σ H Q, t' σ H Q → t σ H Q) : PE X e t' := ⟨fun pins s σ H Q I q => h.run pins s σ H Q I (i σ H Q q)⟩
theorem PA.imp {X : Cx} {e : List Expr} {t t' : TA} (h : PA X e t) (i : ∀ σ H Q, t' σ H Q → t σ H Q) : PA X e t' := ⟨fun pos pins s σ H Q I q => h.run pos pins s σ H Q I (i σ H Q q)⟩
theorem PT.imp {X : Cx} {e : Expr} {t t' : TT} (h : PT X e t) (i : ∀ σ H Q, t' σ H Q → t σ H Q) : PT X e t' := ⟨fun pins s σ H Q I q => h.run pins s σ H Q I (i σ H Q q)⟩
theorem PW.imp {X : Cx} {e : Expr} {t t' : TT} (h : PW X e t) (i : ∀ σ H Q, t' σ H Q → t σ H Q) : PW X e t' := ⟨fun wh pins s σ H Q I q => h.run wh pins s σ H Q I (i σ H Q q)⟩

/-- data, a list however it is held -/
def RT (K : Kf) (H : Hp) (av : Addr → Prop) : D → V → Prop
  | .list ds, v => ∃ a vs, v = .ref a ∧ H a = some (.lst vs) ∧ Rs K H av ds vs
  | d, v => R K H av d v
section
variable {K : Kf} {H H' : Hp} {ex am am' : List Addr} {M M' : Mem} {av : Addr → Prop}
theorem RT.of {d : D} {v : V} (h : R K H av d v) : RT K H av d v := by
  cases d with
  | list ds => obtain ⟨a, vs, e, q, _, r⟩ := h; exact ⟨a, vs, e, q, r⟩
  | _ => exact h
theorem rd_of {v : Val} {x : V} {d : D} (m : RM K ex am M H) (r : RV K H (avS ex am M) am v x) (h : rdV M v = some d) : RT K H (avS ex am M) d x := by
  cases v with
  | d y => cases h; exact RT.of r
  | ref i =>
    obtain ⟨a, ha, rfl⟩ := r
    cases hm : M[i]? with
    | none => simp [rdV, hm] at h
    | some ob =>
      cases ob with
      | lst xs =>
        have h' : some (PyData.list xs) = some d := by simpa [rdV, hm] using h
        cases h'
        obtain ⟨vs, e, q⟩ := m.obj i _ a hm ha
        exact ⟨a, vs, rfl, e, q⟩
      | _ => simp [rdV, hm] at h
theorem Rs.length : ∀ {ds : List D} {vs : List V}, Rs K H av ds vs → ds.length = vs.length
  | [], _, h => by cases h; rfl
  | d :: ds, _, h => by
    obtain ⟨v, r, e, _, h2⟩ := h
    subst e
    simp [Rs.length h2]
theorem Rs.append : ∀ {ds es : List D} {vs us : List V}, Rs K H av ds vs → Rs K H av es us → Rs K H av (ds ++ es) (vs ++ us)
  | [], _, _, _, h, g => by cases h; exact g
  | d :: ds, es, _, us, h, g => by
    obtain ⟨v, r, e, h1, h2⟩ := h
    subst e
    exact ⟨v, r ++ us, rfl, h1, Rs.append h2 g⟩
theorem Rs.take : ∀ {ds : List D} {vs : List V} (n : Nat), Rs K H av ds vs → Rs K H av (ds.take n) (vs.take n)
  | _, _, 0, _ => by simp [Rs]
  | [], _, n + 1, h => by cases h; simp [Rs]
  | d :: ds, _, n + 1, h => by
    obtain ⟨v, r, e, h1, h2⟩ := h
    subst e
    exact ⟨v, r.take n, rfl, h1, Rs.take n h2⟩
theorem Rs.drop : ∀ {ds : List D} {vs : List V} (n : Nat), Rs K H av ds vs → Rs K H av (ds.drop n) (vs.drop n)
  | _, _, 0, h => h
  | [], _, n + 1, h => by cases h; simp [Rs]
  | d :: ds, _, n + 1, h => by
    obtain ⟨v, r, e, h1, h2⟩ := h
    subst e
    exact Rs.drop n h2
theorem Rs.get : ∀ {ds : List D} {vs : List V} {i : Nat} {d : D}, Rs K H av ds vs → ds[i]? = some d → ∃ v, vs[i]? = some v ∧ R K H av d v
  | [], _, _, _, _, e => by simp at e
  | d :: ds, _, 0, d', h, e => by
    obtain ⟨v, r, ev, h1, h2⟩ := h
    subst ev
    simp at e
    subst e
    exact ⟨v, rfl, h1⟩
  | d :: ds, _, i + 1, d', h, e => by
    obtain ⟨v, r, ev, h1, h2⟩ := h
    subst ev
    exact Rs.get (i := i) h2 (by simpa using e)
theorem Rs.cut {ds : List D} {vs : List V} (lo hi : Option Int) (h : Rs K H av ds vs) : Rs K H av (cutL ds lo hi) (cutV vs lo hi) := by
  unfold cutL cutV
  rw [h.length]
  exact (h.drop _).take _
theorem Rs.reverse : ∀ {ds : List D} {vs : List V}, Rs K H av ds vs → Rs K H av ds.reverse vs.reverse
  | [], _, h => by cases h; simp [Rs]
  | d :: ds, _, h => by
    obtain ⟨v, r, e, h1, h2⟩ := h
    subst e
    rw [List.reverse_cons, List.reverse_cons]
    exact Rs.append (Rs.reverse h2) ⟨v, [], rfl, h1, rfl⟩
theorem RVs.toDs : ∀ {vs : List Val} {xs : List V} {ds : List D}, RVs K H av am vs xs → toDs vs = some ds → Rs K H av ds xs
  | [], _, _, h, e => by cases e; exact h
  | .d x :: r, _, ds, h, e => by
    obtain ⟨v, t, ev, h1, h2⟩ := h
    subst ev
    unfold Mp.toDs at e
    cases q : Mp.toDs r with
    | none => rw [q] at e; simp at e
    | some us =>
      rw [q] at e
      simp at e
      subst e
      exact ⟨v, t, rfl, h1, RVs.toDs h2 q⟩
  | .ref i :: r, _, _, _, e => by cases e
theorem Rs.vals : ∀ {ds : List D} {vs : List V}, Rs K H av ds vs → RVs K H av am (ds.map .d) vs
  | [], _, h => h
  | d :: ds, _, h => by
    obtain ⟨v, r, e, h1, h2⟩ := h
    exact ⟨v, r, e, h1, Rs.vals h2⟩
theorem RVs.length : ∀ {ds : List Val} {vs : List V}, RVs K H av am ds vs → ds.length = vs.length
  | [], _, h => by cases h; rfl
  | d :: ds, _, h => by
    obtain ⟨v, r, e, _, h2⟩ := h
    subst e
    simp [RVs.length h2]
theorem RVs.get : ∀ {ds : List Val} {vs : List V} {i : Nat} {d : Val}, RVs K H av am ds vs → ds[i]? = some d → ∃ v, vs[i]? = some v ∧ RV K H av am d v
  | [], _, _, _, _, e => by simp at e
  | d :: ds, _, 0, d', h, e => by
    obtain ⟨v, r, ev, h1, h2⟩ := h
    subst ev
    simp at e
    subst e
    exact ⟨v, rfl, h1⟩
  | d :: ds, _, i + 1, d', h, e => by
    obtain ⟨v, r, ev, h1, h2⟩ := h
    subst ev
    exact RVs.get (i := i) h2 (by simpa using e)
theorem RVs.set : ∀ {ds : List Val} {vs : List V} {i : Nat} {d : Val} {v : V}, RVs K H av am ds vs → RV K H av am d v → RVs K H av am (ds.set i d) (vs.set i v)
  | [], _, _, _, _, h, _ => by cases h; simp [RVs]
  | d :: ds, _, 0, d', v', h, q => by
    obtain ⟨v, r, ev, h1, h2⟩ := h
    subst ev
    exact ⟨v', r, rfl, q, h2⟩
  | d :: ds, _, i + 1, d', v', h, q => by
    obtain ⟨v, r, ev, h1, h2⟩ := h
    subst ev
    exact ⟨v, r.set i v', rfl, h1, RVs.set h2 q⟩
theorem Rs.set : ∀ {ds : List D} {vs : List V} {i : Nat} {d : D} {v : V}, Rs K H av ds vs → R K H av d v → Rs K H av (ds.set i d) (vs.set i v)
  | [], _, _, _, _, h, _ => by cases h; simp [Rs]
  | d :: ds, _, 0, d', v', h, q => by
    obtain ⟨v, r, ev, h1, h2⟩ := h
    subst ev
    exact ⟨v', r, rfl, q, h2⟩
  | d :: ds, _, i + 1, d', v', h, q => by
    obtain ⟨v, r, ev, h1, h2⟩ := h
    subst ev
    exact ⟨v, r.set i v', rfl, h1, Rs.set h2 q⟩
theorem lim_size {n : Nat} (h : n ≤ lim) : n ≤ sizeLine := Nat.le_trans h (by rw [sizeLine_eq]; decide)
theorem lim_lt {n : Nat} (h : n < lim) : n < sizeLine := Nat.lt_of_lt_of_le h (lim_size (Nat.le_refl _))
end

section
variable {X : Cx} {k : Kx} {E : XK} {e a b c : Expr} {es : List Expr} {pos : Pos} {f g h : SF} {A : SA}

theorem getE_spec {σ : Env} {i : Nat} {v : Val} (h : getE σ i = some v) : σ[i]? = some (some v) := by
  unfold getE at h
  split at h
  · rename_i q; cases h; exact q
  · cases h
/-- a name -/
theorem se_var {i : Nat} {x : Str} (hN : X.N[i]? = some x) (hv : Vis X.env.scope x) (hd : (x == ("__debug__" : Str)) = false) (hcd : (x == ("__classdict__" : Str)) = false) : SE X k E (.Name x pos) (sVar i) :=
  PE.imp (pe_var hN hv hd hcd) fun σ H Q ⟨ex, am, env, M, rm, re, p⟩ => by
    obtain ⟨v, hv, q⟩ := p.ofO1
    obtain ⟨x, e1, e2⟩ := re.2 i v hv
    exact ⟨x, e1, q.now rm x e2⟩
/-- a constant -/
def cD : Const → Option D
  | .none => some .none
  | .bool b => some (.bool b)
  | .int i => some (.int i)
  | .str s => some (.str s)
  | _ => none
theorem se_con {c : Const} {d : D} {j : Nat} (h : cD c = some d) : SE X k E (.Constant c j pos) (sCon d) := by
  cases c with
  | none => cases h; exact PE.imp pe_non fun σ H Q ⟨ex, am, env, M, rm, re, p⟩ => p.now rm _ rfl
  | bool b => cases h; exact PE.imp pe_bl fun σ H Q ⟨ex, am, env, M, rm, re, p⟩ => p.now rm _ rfl
  | int i => cases h; exact PE.imp pe_int fun σ H Q ⟨ex, am, env, M, rm, re, p⟩ => p.now rm _ rfl
  | str s => cases h; exact PE.imp pe_str fun σ H Q ⟨ex, am, env, M, rm, re, p⟩ => p.now rm _ rfl
  | _ => cases h
/-- a constant of the module -/
theorem se_glb {G : Nat → Option D} {n : Nat} {x : Str} {v : V} {u : Value} {d : D} (hg : Gl X x) (hm : X.mg x = some u) (r : RelV v u) (hd : (x == ("__debug__" : Str)) = false) (hG : G n = some d)
    (hr : ∀ H av, R k.K H av d v) : SE X k E (.Name x pos) (sGlb G n) :=
  PE.imp (pe_glob hg hm r hd) fun σ H Q ⟨ex, am, env, M, rm, re, p⟩ => by
    obtain ⟨d', hd', q⟩ := p.ofO
    rw [hG] at hd'; cases hd'
    exact q.now rm _ (hr H _)

/-! ### rows of expressions -/
theorem sa_nil : SAs X k E [] sNil := PA.imp pa_nil fun σ H Q ⟨ex, am, env, M, rm, re, p⟩ => p.now rm _ rfl
theorem sa_cons (he : SE X k E e f) (hr : SAs X k E es A) (hs : starEach (e :: es) X.env = (false, eval e X.env) :: starEach es X.env) : SAs X k E (e :: es) (sCons f A) :=
  PA.imp (pa_cons he hr hs) fun σ H Q ⟨ex, am, env, M, rm, re, p⟩ => by
    refine ⟨ex, am, env, M, rm, re, p.bind.mono fun v M1 am1 H1 rm1 f1 p1 x rx => ?_⟩
    refine ⟨ex, am1, env, M1, rm1, re.step rm f1, p1.bind.mono fun vs M2 am2 H2 rm2 f2 p2 xs rxs => ?_⟩
    exact p2.now rm2 (x :: xs) ⟨x, xs, rfl, rx.step rm1 f2, rxs⟩
/-- a tuple -/
theorem se_tup {x1 : Nat} (hr : SAs X k E es A) : SE X k E (.Tuple es x1 pos) (sTup A) :=
  PE.imp (pe_tupS hr) fun σ H Q ⟨ex, am, env, M, rm, re, p⟩ => by
    refine ⟨ex, am, env, M, rm, re, p.bind.mono fun vs M1 am1 H1 rm1 f1 p1 xs rxs => ?_⟩
    split at p1
    · rename_i ds hds
      split at p1
      · rename_i hl
        have rs := rxs.toDs hds
        refine ⟨by rw [← rs.length]; exact lim_size hl, fun q its hq => ?_⟩
        exact p1 am1 _ (rm1.new (sT its xs) hq) (F.new hq) _ ⟨q, xs, rfl, .of, (rm1.agr (F.new hq)).rs _ _ rs⟩
      · exact p1.elim
    · exact p1.elim
/-- a list that is new -/
theorem sf_lst (hr : SAs X k E es A) : SFr X k E (.List es pos) (sLst A) :=
  PE.imp (pe_lst hr) fun σ H Q ⟨ex, am, env, M, rm, re, p⟩ => by
    refine ⟨ex, am, env, M, rm, re, p.bind.mono fun vs M1 am1 H1 rm1 f1 p1 xs rxs => ?_⟩
    split at p1
    · rename_i ds hds
      split at p1
      · rename_i hl
        have rs := rxs.toDs hds
        refine ⟨by rw [← rs.length]; exact lim_size hl, fun q hq => ?_⟩
        exact p1.now rm1 _ q xs rfl hq rs
      · exact p1.elim
    · exact p1.elim
/-- a new list as a value -/
theorem se_of_f (hf : SFr X k E e f) (hl : ∀ env M v M', f env M = .ok v M' → ∃ xs, v = .d (.list xs)) : SE X k E e f :=
  PE.imp hf fun σ H Q ⟨ex, am, env, M, rm, re, p⟩ => by
    refine ⟨ex, am, env, M, rm, re, ?_⟩
    cases q : f env M with
    | ok v M1 =>
      rw [q] at p
      obtain ⟨xs0, hx⟩ := hl _ _ _ _ q
      intro am1 H1 rm1 f1 xs p0 vs hv hp0 rs
      have g := rm1.agr (F.new (o := .lst vs) (am := am1) (M := M1) hp0)
      refine p am1 _ (rm1.new (.lst vs) hp0) (f1.trans (F.new hp0)) _ ?_
      subst hv
      refine ⟨p0, vs, rfl, upd_same, fun l => ?_, g.rs _ _ rs⟩
      obtain ⟨o, ho⟩ := rm1.avH l
      rw [hp0] at ho; cases ho
    | ex e1 M1 => rw [q] at p; exact p
    | no => rw [q] at p; exact p
/-- a new list that will be changed -/
theorem se_new (hf : SFr X k E e f) : SE X k E e (sNew f) :=
  PE.imp hf fun σ H Q ⟨ex, am, env, M, rm, re, p⟩ => by
    refine ⟨ex, am, env, M, rm, re, p.bind.mono fun v M1 am1 H1 rm1 f1 p1 xs q vs hv hq rs => ?_⟩
    subst hv
    have al := rm1.alloc (o := .lst vs) (ob := .lst xs) hq rfl fun H' av' am' g _ hs => ⟨vs, hs, g.rs _ _ rs⟩
    refine p1 _ _ al.1 al.2 _ ⟨q, ?_, rfl⟩
    rw [← rm1.len]
    simp
/-- a list of values, some of them changed in place -/
theorem okRef_lt {v : Val} {x : V} {n : Nat} {K : Kf} {H : Hp} {av : Addr → Prop} {am : List Addr} (r : RV K H av am v x) (h : am.length = n) : okRef n v = true := by
  cases v with
  | d x => rfl
  | ref j =>
    obtain ⟨a, ha, _⟩ := r
    exact decide_eq_true (by rw [← h]; exact (List.getElem?_eq_some_iff.mp ha).1)
theorem okRef_all {n : Nat} {K : Kf} {H : Hp} {av : Addr → Prop} {am : List Addr} (h : am.length = n) : ∀ {vs : List Val} {xs : List V}, RVs K H av am vs xs → ∀ v ∈ vs, okRef n v = true
  | [], _, _, v, hv => by simp at hv
  | u :: vs, _, r, v, hv => by
    obtain ⟨x, t, e, h1, h2⟩ := r
    rcases List.mem_cons.mp hv with rfl | hv
    · exact okRef_lt h1 h
    · exact okRef_all h h2 v hv
theorem se_box (hr : SAs X k E es A) : SE X k E (.List es pos) (sBox A) :=
  PE.imp (pe_lst hr) fun σ H Q ⟨ex, am, env, M, rm, re, p⟩ => by
    refine ⟨ex, am, env, M, rm, re, p.bind.mono fun vs M1 am1 H1 rm1 f1 p1 xs rxs => ?_⟩
    split at p1
    · rename_i hl
      refine ⟨by rw [← rxs.length]; exact lim_size hl, fun q hq => ?_⟩
      have al := rm1.alloc (o := .lst xs) (ob := .box vs) hq rfl fun H' av' am' g ge hs => ⟨xs, hs, g.rvs ge _ _ rxs, okRef_all rm1.len rxs⟩
      refine p1 _ _ al.1 al.2 _ ⟨q, ?_, rfl⟩
      rw [← rm1.len]
      simp
    · exact p1.elim

/-! ### operators -/
/-- two values that are data, and what comes of them -/
def rD2 (k : Kx) (o : D → D → Option D) : R2 := fun x y H Q => ∃ ex am M a b z, RM k.K ex am M H ∧ RT k.K H (avS ex am M) a x ∧ RT k.K H (avS ex am M) b y ∧ o a b = some z ∧
  ∀ am' H' w, RM k.K ex am' M H' → F am M H am' M H' → R k.K H' (avS ex am' M) z w → Q w H'
def opOf : BOp → Operator
  | .add => .Add | .sub => .Sub | .mul => .Mult | .fdiv => .FloorDiv | .mod => .Mod | .pow => .Pow | .shl => .LShift
theorem lim9_log {i : Int} (h : small i = true) : i.natAbs.log2 < 8000 := by
  have h1 : i.natAbs < lim9 := of_decide_eq_true h
  unfold lim9 at h1
  exact PySem.Flt.log2_lt_of (by decide) h1
end
end Mp
end
section
set_option maxHeartbeats 4000000
/-! Readings of operators, comparisons, tests. -/
namespace Mp
open PySem PySem.Spec PyProof.Rows L2
section
variable {X : Cx} {k : Kx} {E : XK} {e a b c : Expr} {es : List Expr} {pos : Pos} {f g h : SF} {A : SA}

theorem Rs.nil_of {K : Kf} {H : Hp} {av : Addr → Prop} {ds : List D} (h : Rs K H av ds []) : ds = [] := List.eq_nil_of_length_eq_zero (by have := h.length; simpa using this)
def CPowB (i j : Int) : Prop := 0 ≤ j ∧ ((j ≤ 1000000 ∧ i.natAbs < 2 ^ 64) ∨ (j ≤ 1000 ∧ i.natAbs < 2 ^ 250))
theorem op_powB : OpR X (binaryOp .Pow) (rI CPowB fun i j => .int (i ^ j.toNat)) := opI fun i j _ _ _ _ _ hc q => by
  obtain ⟨h0, ⟨h1, h2⟩ | ⟨h1, h2⟩⟩ := hc
  · exact pow_int_small h0 h1 h2 q
  · refine pow_int h0 ?_ q
    have hb : Builtin.Int.intBits i ≤ 250 := PySem.intBits_le_iff.mpr h2
    have h3 : (Builtin.Int.intBits i : Int) * j ≤ 250 * j := Int.mul_le_mul_of_nonneg_right (by omega) h0
    omega
theorem Rs.repl {K : Kf} {H : Hp} {av : Addr → Prop} {ds : List D} {vs : List V} (h : Rs K H av ds vs) : ∀ n : Nat, Rs K H av (List.replicate n ds).flatten (List.replicate n vs).flatten
  | 0 => rfl
  | n + 1 => by
    rw [List.replicate_succ, List.replicate_succ, List.flatten_cons, List.flatten_cons]
    exact h.append (Rs.repl h n)
theorem op_bin (hK : X.K = k.K.K) (o : BOp) : OpR X (binaryOp (opOf o)) (rD2 k (binD o)) := by
  intro pins s σ H x y v u Q I rx ry ⟨ex, am, M, a, b, z, rm, ra, rb, hz, q⟩
  unfold binD at hz
  split at hz
  · cases hz; cases ra; cases rb
    exact op_add pins s σ H _ _ v u Q I rx ry ⟨_, _, rfl, rfl, q am H _ rm F.refl rfl⟩
  · split at hz
    · rename_i hl
      cases hz; cases ra; cases rb
      exact op_add_str pins s σ H _ _ v u Q I rx ry ⟨_, _, rfl, rfl, lim_size hl, q am H _ rm F.refl rfl⟩
    · cases hz
  · split at hz
    · rename_i hl
      cases hz
      obtain ⟨p, xs, rfl, hp, r1⟩ := ra
      obtain ⟨p', ys, rfl, hp', r2⟩ := rb
      have sp := hp.sq
      have sp' := hp'.sq
      rw [← hK] at sp sp'
      refine op_catS pins s σ H _ _ v u Q I rx ry ⟨p, p', xs, ys, rfl, rfl, sp, sp', by rw [← r1.length, ← r2.length]; exact lim_size hl, fun e => ?_, fun e2 => ?_, fun t its ht => ?_⟩
      · subst e
        have e0 := r1.nil_of
        subst e0
        exact q am H _ rm F.refl ⟨p', ys, rfl, hp', r2⟩
      · subst e2
        have e0 := r2.nil_of
        subst e0
        exact q am H _ rm F.refl ⟨p, xs, rfl, hp, by rw [List.append_nil]; exact r1⟩
      · exact q am _ _ (rm.new _ ht) (F.new ht) ⟨t, xs ++ ys, rfl, .of, (rm.agr (F.new ht)).rs _ _ (r1.append r2)⟩
    · cases hz
  · split at hz
    · rename_i hl
      cases hz
      obtain ⟨p, xs, rfl, hp, r1⟩ := ra
      obtain ⟨p', ys, rfl, hp', r2⟩ := rb
      refine op_cat pins s σ H _ _ v u Q I rx ry ⟨p, p', xs, ys, rfl, rfl, hp, hp', by rw [← r1.length, ← r2.length]; exact lim_size hl, fun t ht => ?_⟩
      refine q am _ _ (rm.new _ ht) (F.new ht) ⟨t, xs ++ ys, rfl, upd_same, fun l => ?_, (rm.agr (F.new ht)).rs _ _ (r1.append r2)⟩
      obtain ⟨o, ho⟩ := rm.avH l
      rw [ht] at ho; cases ho
    · cases hz
  · cases hz; cases ra; cases rb
    exact op_sub pins s σ H _ _ v u Q I rx ry ⟨_, _, rfl, rfl, q am H _ rm F.refl rfl⟩
  · split at hz
    · rename_i hs0
      cases hz; cases ra; cases rb
      rcases Bool.or_eq_true _ _ ▸ hs0 with hs | hs
      · rcases Bool.or_eq_true _ _ ▸ hs with hs | hs
        · rw [Bool.and_eq_true] at hs
          have h1 := lim9_log hs.1
          have h2 := lim9_log hs.2
          exact op_mulW pins s σ H _ _ v u Q I rx ry ⟨_, _, rfl, rfl, by unfold CMulW; omega, q am H _ rm F.refl rfl⟩
        · have hs := of_decide_eq_true hs
          exact op_mul pins s σ H _ _ v u Q I rx ry ⟨_, _, rfl, rfl, .inl ⟨by omega, by omega⟩, q am H _ rm F.refl rfl⟩
      · have hs := of_decide_eq_true hs
        exact op_mul pins s σ H _ _ v u Q I rx ry ⟨_, _, rfl, rfl, .inr ⟨by omega, by omega⟩, q am H _ rm F.refl rfl⟩
    · cases hz
  · split at hz
    · rename_i hs
      rw [Bool.and_eq_true, decide_eq_true_eq] at hs
      cases hz; cases ra; cases rb
      have h2 := lim9_log hs.2
      exact op_fdivW pins s σ H _ _ v u Q I rx ry ⟨_, _, rfl, rfl, ⟨hs.1, by omega⟩, q am H _ rm F.refl rfl⟩
    · cases hz
  · split at hz
    · rename_i hs
      cases hz; cases ra; cases rb
      exact op_mod pins s σ H _ _ v u Q I rx ry ⟨_, _, rfl, rfl, hs, q am H _ rm F.refl rfl⟩
    · cases hz
  · split at hz
    · rename_i hs
      simp only [Bool.and_eq_true, Bool.or_eq_true, decide_eq_true_eq] at hs
      cases hz; cases ra; cases rb
      exact op_powB pins s σ H _ _ v u Q I rx ry ⟨_, _, rfl, rfl, hs, q am H _ rm F.refl rfl⟩
    · cases hz
  · split at hz
    · rename_i hs
      simp only [Bool.and_eq_true, decide_eq_true_eq] at hs
      cases hz; cases ra; cases rb
      exact op_shl pins s σ H _ _ v u Q I rx ry ⟨_, _, rfl, rfl, ⟨hs.1.1, hs.1.2, hs.2⟩, q am H _ rm F.refl rfl⟩
    · cases hz
  · split at hz
    · rename_i hs
      simp only [Bool.and_eq_true, decide_eq_true_eq] at hs
      cases hz
      obtain ⟨p, xs, rfl, hp, r1⟩ := ra
      cases rb
      refine op_rep pins s σ H _ _ v u Q I rx ry ⟨p, _, xs, rfl, rfl, hp, hs.1.1, hs.1.2, by rw [← r1.length]; exact lim_size hs.2, fun t ht => ?_⟩
      refine q am _ _ (rm.new _ ht) (F.new ht) ⟨t, _, rfl, upd_same, fun l => ?_, (rm.agr (F.new ht)).rs _ _ (r1.repl _)⟩
      obtain ⟨o, ho⟩ := rm.avH l
      rw [ht] at ho; cases ho
    · cases hz
  · cases hz

theorem se_bin (hK : X.K = k.K.K) (o : BOp) (ha : SE X k E a f) (hb : SE X k E b g) : SE X k E (.BinOp a (opOf o) b pos) (sBin o f g) :=
  PE.imp (pe_op (op_bin hK o) ha hb) fun σ H Q ⟨ex, am, env, M, rm, re, p⟩ => by
    refine ⟨ex, am, env, M, rm, re, p.bind.mono fun v M1 am1 H1 rm1 f1 p1 x rx => ?_⟩
    refine ⟨ex, am1, env, M1, rm1, re.step rm f1, p1.bind.mono fun w M2 am2 H2 rm2 f2 p2 y ry => ?_⟩
    cases q1 : rdV M2 v with
    | none => simp [q1] at p2; exact p2.elim
    | some d1 =>
      cases q2 : rdV M2 w with
      | none => simp [q1, q2] at p2; exact p2.elim
      | some d2 =>
        simp only [q1, q2] at p2
        obtain ⟨z, hz, p3⟩ := p2.ofO
        exact ⟨ex, am2, M2, d1, d2, z, rm2, rd_of rm2 (rx.step rm1 f2) q1, rd_of rm2 ry q2, hz, fun am' H' w' rm' f' r' => p3 am' H' rm' f' w' r'⟩

theorem se_neg (ha : SE X k E a f) : SE X k E (.UnaryOp .USub a pos) (sNeg f) :=
  PE.imp (pe_un un_neg ha) fun σ H Q ⟨ex, am, env, M, rm, re, p⟩ => by
    refine ⟨ex, am, env, M, rm, re, p.bind.mono fun v M1 am1 H1 rm1 f1 p1 x rx => ?_⟩
    split at p1
    · exact ⟨_, rx, p1.now rm1 _ rfl⟩
    · exact p1.elim

/-! ### data of the library -/
mutual
theorem R.dp {K : Kf} {H : Hp} {av : Addr → Prop} : ∀ (d : D) (v : V), R K H av d v → Dp K.K H v d
  | .none, _, h => by cases h; exact .non
  | .bool b, _, h => by cases h; exact .bl b
  | .int i, _, h => by cases h; exact .int i
  | .str s, _, h => by cases h; exact .str s
  | .tuple ds, _, h => by obtain ⟨p, vs, e, q, r⟩ := h; subst e; exact .tup q.sq (Rs.dp ds vs r)
  | .list ds, _, h => by obtain ⟨p, vs, e, q, _, r⟩ := h; subst e; exact .lst (.inl (.inl q)) (Rs.dp ds vs r)
  | .dict _, _, h => h.elim
theorem Rs.dp {K : Kf} {H : Hp} {av : Addr → Prop} : ∀ (ds : List D) (vs : List V), Rs K H av ds vs → DpAll K.K H vs ds
  | [], _, h => by cases h; exact .nil
  | d :: ds, _, h => by obtain ⟨v, r, e, h1, h2⟩ := h; subst e; exact .cons (R.dp d v h1) (Rs.dp ds r h2)
end
theorem RT.dp {K : Kf} {H : Hp} {av : Addr → Prop} {d : D} {v : V} (h : RT K H av d v) : Dp K.K H v d := by
  cases d with
  | list ds => obtain ⟨p, vs, e, q, r⟩ := h; subst e; exact .lst (.inl (.inl q)) (Rs.dp ds vs r)
  | none => exact R.dp (av := av) PyData.none v h
  | bool b => exact R.dp (av := av) (PyData.bool b) v h
  | int i => exact R.dp (av := av) (PyData.int i) v h
  | str s => exact R.dp (av := av) (PyData.str s) v h
  | tuple ds => exact R.dp (av := av) (PyData.tuple ds) v h
  | dict ds => exact R.dp (av := av) (PyData.dict ds) v h

theorem flat_R {K : Kf} {H : Hp} {av : Addr → Prop} {d : D} {v : V} (h : R K H av d v) : flatD d = true → flatV v = true := by
  cases d with
  | none => cases h; exact fun _ => rfl
  | bool b => cases h; exact fun _ => rfl
  | int b => cases h; exact fun _ => rfl
  | str b => cases h; exact fun _ => rfl
  | _ => intro q; cases q
theorem eq_R {K : Kf} {H : Hp} {av : Addr → Prop} {d d' : D} {v v' : V} (h : R K H av d v) (h' : R K H av d' v') (fd : flatD d = true) (fd' : flatD d' = true) : eqV v v' = PyData.eqv d d' := by
  cases d <;> first | (cases fd; done) | skip
  all_goals (cases h; cases d' <;> first | (cases fd'; done) | skip)
  all_goals (cases h'; rfl)
theorem RT.flat {K : Kf} {H : Hp} {av : Addr → Prop} {d : D} {v : V} (h : RT K H av d v) (fd : flatD d = true) : R K H av d v := by
  cases d with
  | list ds => cases fd
  | _ => exact h
theorem all_flat {K : Kf} {H : Hp} {av : Addr → Prop} : ∀ {ds : List D} {vs : List V}, Rs K H av ds vs → ds.all flatD = true → vs.all flatV = true
  | [], _, h, _ => by cases h; rfl
  | d :: ds, _, h, f => by
    obtain ⟨v, r, e, h1, h2⟩ := h
    subst e
    rw [List.all_cons, Bool.and_eq_true] at f
    rw [List.all_cons, flat_R h1 f.1, all_flat h2 f.2]
    rfl
theorem any_flat {K : Kf} {H : Hp} {av : Addr → Prop} {x : D} {vx : V} (hx : R K H av x vx) (fx : flatD x = true) : ∀ {ds : List D} {vs : List V}, Rs K H av ds vs → ds.all flatD = true → (inV vx vs) = ds.any fun y => PyData.eqv y x
  | [], _, h, _ => by cases h; rfl
  | d :: ds, _, h, f => by
    obtain ⟨v, r, e, h1, h2⟩ := h
    subst e
    rw [List.all_cons, Bool.and_eq_true] at f
    have ih := any_flat hx fx h2 f.2
    unfold inV at ih ⊢
    rw [List.any_cons, List.any_cons, eq_R h1 hx f.1 fx, ih]
theorem ints_R {K : Kf} {H : Hp} {av : Addr → Prop} : ∀ {ds : List D} {vs : List V} {ns : List Int}, Rs K H av ds vs → intsOf ds = some ns → vs = ns.map V.int
  | [], _, _, h, e => by cases h; cases e; rfl
  | .int i :: ds, _, ns, h, e => by
    obtain ⟨v, r, ev, h1, h2⟩ := h
    subst ev
    unfold intsOf at e
    cases q : intsOf ds with
    | none => rw [q] at e; simp at e
    | some ms =>
      rw [q] at e
      simp at e
      subst e
      cases h1
      rw [ints_R h2 q]
      rfl
  | .none :: _, _, _, _, e => by cases e
  | .bool _ :: _, _, _, _, e => by cases e
  | .str _ :: _, _, _, _, e => by cases e
  | .list _ :: _, _, _, _, e => by cases e
  | .tuple _ :: _, _, _, _, e => by cases e
  | .dict _ :: _, _, _, _, e => by cases e

/-! ### comparisons -/
def cmpOf : COp → CmpOp
  | .eq => .Eq | .ne => .NotEq | .lt => .Lt | .le => .LtE | .gt => .Gt | .ge => .GtE | .isin => .In | .notin => .NotIn | .isN => .Is | .notN => .IsNot
def rC (k : Kx) (o : COp) : R2 := fun x y H Q => ∃ ex am M v w b, RM k.K ex am M H ∧ RV k.K H (avS ex am M) am v x ∧ RV k.K H (avS ex am M) am w y ∧ cmpV M o v w = some b ∧ Q (.bl b) H

/-- keys -/
theorem key_R {K : Kf} {H : Hp} {av : Addr → Prop} {d : D} {v : V} {q : L2.Key} (h : R K H av d v) (e : keyD d = some q) : v = kV q := by
  cases d with
  | int i => cases e; exact h
  | str s => cases e; exact h
  | _ => cases e
theorem RK.get {κ : Type} [DecidableEq κ] {K : Kf} {H : Hp} {av : Addr → Prop} (q : κ) : ∀ {kvs : List (κ × D)} {vs : List (κ × V)}, RK K H av kvs vs → (dGet kvs q).isSome = (valV vs q).isSome ∧ ∀ d, dGet kvs q = some d → ∃ v, valV vs q = some v ∧ R K H av d v
  | [], _, h => by cases h; exact ⟨rfl, fun d e => by cases e⟩
  | x :: kvs, _, h => by
    obtain ⟨v, r, e, h1, h2⟩ := h
    subst e
    have ih := RK.get q h2
    by_cases hq : x.1 = q
    · rw [valV_pos hq]
      have e1 : dGet (x :: kvs) q = some x.2 := by simp [dGet, List.find?_cons, hq]
      rw [e1]
      exact ⟨rfl, fun d e => by cases e; exact ⟨v, rfl, h1⟩⟩
    · rw [valV_neg hq]
      have e1 : dGet (x :: kvs) q = dGet kvs q := by simp [dGet, List.find?_cons, hq]
      rw [e1]
      exact ih

theorem ltD_ok {X : Cx} {K : Kf} (hK : X.K = K.K) (hu : X.A.units < cLine) {av : Addr → Prop} {d d' : D} {b : Bool} (h : ltD d d' = some b) {pins : List (Addr × Obj)} {s : Shared} {σ : L2.St} {H : Hp} {x y : V} {v u : Value} {Q : VK}
    (I : Inv X pins σ H s) (rx : RelV x v) (ry : RelV y u) (r1 : RT K H av d x) (r2 : RT K H av d' y) (q : Q (.bl b) H) : wpAny (model X.prog X.w) X.A (compareOp .Lt v u) (EP X pins σ Q) X.xe s := by
  unfold ltD at h
  split at h
  · cases h; cases r1; cases r2
    exact op_lt pins s σ H _ _ v u Q I rx ry ⟨_, _, rfl, rfl, q⟩
  · split at h
    · rename_i n1 n2 e1 e2
      cases h
      obtain ⟨p, vs, rfl, hp, w1⟩ := r1
      obtain ⟨p', vs', rfl, hp', w2⟩ := r2
      rw [ints_R w1 e1] at hp
      rw [ints_R w2 e2] at hp'
      exact op_ltT hu pins s σ H _ _ v u Q I rx ry ⟨p, p', _, _, rfl, rfl, by rw [hK]; exact hp.sq, by rw [hK]; exact hp'.sq, q⟩
    · cases h
  · cases h
theorem RT.seq {K : Kf} {H : Hp} {av : Addr → Prop} {ds : List D} {y : V} (h : RT K H av (.tuple ds) y ∨ RT K H av (.list ds) y) : ∃ p vs, y = .ref p ∧ (SqL K.K H p vs ∨ SqT K.K H p vs) ∧ Rs K H av ds vs := by
  rcases h with ⟨p, vs, e, hp, r⟩ | ⟨p, vs, e, hp, r⟩
  · exact ⟨p, vs, e, .inr hp.sq, r⟩
  · exact ⟨p, vs, e, .inl (.inl (.inl hp)), r⟩
/-- in, not in of data -/
theorem inD_ok {X : Cx} {K : Kf} (hK : X.K = K.K) (hu : X.A.units + 65 < cLine) {av : Addr → Prop} {d d' : D} {b : Bool} (h : inD d d' = some b) {pins : List (Addr × Obj)} {s : Shared} {σ : L2.St} {H : Hp} {x y : V} {v u : Value} {Q : VK}
    (I : Inv X pins σ H s) (rx : RelV x v) (ry : RelV y u) (r1 : RT K H av d x) (r2 : RT K H av d' y) (neg : Bool) (q : Q (.bl (if neg then !b else b)) H) : wpAny (model X.prog X.w) X.A (compareOp (if neg then .NotIn else .In) v u) (EP X pins σ Q) X.xe s := by
  have fl : ∀ ds : List D, (RT K H av (.tuple ds) y ∨ RT K H av (.list ds) y) → (flatD d && ds.all flatD) = true → b = (ds.any fun y => PyData.eqv y d) → wpAny (model X.prog X.w) X.A (compareOp (if neg then .NotIn else .In) v u) (EP X pins σ Q) X.xe s := by
    intro ds r hf hb
    rw [Bool.and_eq_true] at hf
    obtain ⟨p, vs, rfl, hp, w⟩ := RT.seq r
    rw [← hK] at hp
    have e := any_flat (r1.flat hf.1) hf.1 w hf.2
    cases neg with
    | false => exact op_in_seq pins s σ H _ _ v u Q I rx ry ⟨p, vs, rfl, hp, flat_R (r1.flat hf.1) hf.1, all_flat w hf.2, by rw [if_neg (by decide), e, ← hb]; exact q⟩
    | true => exact op_notIn_seq pins s σ H _ _ v u Q I rx ry ⟨p, vs, rfl, hp, flat_R (r1.flat hf.1) hf.1, all_flat w hf.2, by rw [if_pos rfl, e, ← hb]; exact q⟩
  unfold inD at h
  split at h
  · rename_i ds
    split at h
    · rename_i hc
      cases h
      by_cases hf : (flatD d && ds.all flatD) = true
      · exact fl ds (.inr r2) hf rfl
      · have hs : (SeqAt.shaped d && SeqAt.shaped (.list ds)) = true := by
          rcases Bool.or_eq_true _ _ ▸ hc with z | z
          · exact absurd z hf
          · exact z
        rw [Bool.and_eq_true] at hs
        cases neg with
        | false => exact op_inD hu pins s σ H _ _ v u Q I rx ry ⟨d, ds, by rw [hK]; exact r1.dp, by rw [hK]; exact r2.dp, hs.1, hs.2, q⟩
        | true => exact op_notInD hu pins s σ H _ _ v u Q I rx ry ⟨d, ds, by rw [hK]; exact r1.dp, by rw [hK]; exact r2.dp, hs.1, hs.2, q⟩
    · cases h
  · rename_i ds
    split at h
    · rename_i hf
      cases h
      exact fl ds (.inl r2) hf rfl
    · cases h
  · cases h
/-- .. of a dict -/
theorem inDict_ok {X : Cx} {K : Kf} {ex am : List Addr} {M : Mem} {d : D} {i : Nat} (hK : X.K = K.K) (hP : X.prog = K.P) (hw : X.w = K.w) (hu : X.A.units + 100 < cLine) {b : Bool} (h : inDict M d i = some b) {pins : List (Addr × Obj)} {s : Shared} {σ : L2.St} {H : Hp} {x y : V} {v u : Value} {Q : VK}
    (rm : RM K ex am M H) (I : Inv X pins σ H s) (rx : RelV x v) (ry : RelV y u) (r1 : RT K H (avS ex am M) d x) (r2 : RV K H (avS ex am M) am (.ref i) y) (neg : Bool) (q : Q (.bl (if neg then !b else b)) H) : wpAny (model X.prog X.w) X.A (compareOp (if neg then .NotIn else .In) v u) (EP X pins σ Q) X.xe s := by
  have go : ∀ p (o : Option V), y = .ref p → DGet H p x o → b = o.isSome → wpAny (model X.prog X.w) X.A (compareOp (if neg then .NotIn else .In) v u) (EP X pins σ Q) X.xe s := by
    intro p o e g hb
    subst e
    obtain rfl : u = Value.ref p := ry
    cases neg with
    | false => exact d_in (by omega) I g rx fun s3 I3 => ⟨.bl o.isSome, H, I3, rfl, by rw [← hb]; exact q⟩
    | true => exact d_notIn (by omega) I g rx fun s3 I3 => ⟨.bl (!o.isSome), H, I3, rfl, by rw [← hb]; exact q⟩
  obtain ⟨p, ha, e⟩ := r2
  unfold inDict at h
  cases hm : M[i]? with
  | none => rw [hm] at h; cases h
  | some ob =>
    rw [hm] at h
    cases ob with
    | dK kvs =>
      obtain ⟨vs, hp, w⟩ := rm.obj i _ p hm ha
      cases hq : keyD d with
      | none => simp [hq] at h
      | some q0 =>
        simp [hq] at h
        have hx : x = kV q0 := by
          have f : flatD d = true := by cases d <;> first | rfl | cases hq
          exact key_R (r1.flat f) hq
        subst hx
        exact go p _ e (DGet.k hp) (by rw [← h]; exact (w.get q0).1)
    | dT kvs =>
      obtain ⟨xs, hp, w⟩ := rm.obj i _ p hm ha
      cases hq : nkT d with
      | none => simp [hq] at h
      | some q0 =>
        simp [hq] at h
        have f : R K H (avS ex am M) d x := by cases d <;> first | exact r1 | cases hq
        subst e
        obtain rfl : u = Value.ref p := ry
        exact n_in hK hP hw hu I hp w hq f rx neg (by rw [h]; exact q)
    | _ => simp at h

/-- a comparison -/
theorem op_cmp (ck : Ck k X) (o : COp) : OpR X (compareOp (cmpOf o)) (rC k o) := by
  intro pins s σ H x y v u Q I rx ry ⟨ex, am, M, va, wa, b, rm, ra, rb, hz, q⟩
  have hK := ck.K
  have hu := ck.hu
  unfold cmpV at hz
  split at hz
  · cases hz
  · rename_i d1 e1
    have t1 := rd_of rm ra e1
    split at hz
    · rename_i d2 e2
      have t2 := rd_of rm rb e2
      have eqn : ∀ {neg : Bool} {c : Bool}, eqD d1 d2 = some c → Q (.bl (if neg then !c else c)) H → wpAny (model X.prog X.w) X.A (compareOp (if neg then .NotEq else .Eq) v u) (EP X pins σ Q) X.xe s := by
        intro neg c he q
        unfold eqD at he
        split at he
        · rename_i hs
          rw [Bool.and_eq_true] at hs
          cases he
          cases neg with
          | false => exact op_eqD (by omega) pins s σ H _ _ v u Q I rx ry ⟨d1, d2, by rw [hK]; exact t1.dp, by rw [hK]; exact t2.dp, hs.1, hs.2, q⟩
          | true => exact op_neD (by omega) pins s σ H _ _ v u Q I rx ry ⟨d1, d2, by rw [hK]; exact t1.dp, by rw [hK]; exact t2.dp, hs.1, hs.2, q⟩
        · cases he
      unfold cmpD at hz
      split at hz
      · exact eqn (neg := false) hz q
      · cases he : eqD d1 d2 with
        | none => rw [he] at hz; cases hz
        | some c =>
          rw [he] at hz; cases hz
          exact eqn (neg := true) he q
      · exact ltD_ok hK (by omega) hz I rx ry t1 t2 q
      · cases hz; cases t1; cases t2
        exact op_le pins s σ H _ _ v u Q I rx ry ⟨_, _, rfl, rfl, q⟩
      · cases hz; cases t1; cases t2
        exact op_gt pins s σ H _ _ v u Q I rx ry ⟨_, _, rfl, rfl, q⟩
      · cases hz; cases t1; cases t2
        exact op_ge pins s σ H _ _ v u Q I rx ry ⟨_, _, rfl, rfl, q⟩
      · exact inD_ok hK (by omega) hz I rx ry t1 t2 false q
      · cases he : inD d1 d2 with
        | none => rw [he] at hz; cases hz
        | some c =>
          rw [he] at hz; cases hz
          exact inD_ok hK (by omega) he I rx ry t1 t2 true q
      · cases t2
        refine op_isN pins s σ H _ _ v u Q I rx ry ⟨rfl, ?_⟩
        have e : decide (x = V.non) = b := by
          split at hz
          · cases hz; cases t1; rfl
          · rename_i d0 hd
            cases hz
            refine decide_eq_false fun e => hd ?_
            subst e
            cases d1 <;> first | rfl | (cases t1; done) | (obtain ⟨_, _, z, _⟩ := t1; cases z)
        rw [e]
        exact q
      · cases t2
        refine op_notN pins s σ H _ _ v u Q I rx ry ⟨rfl, ?_⟩
        have e : (!decide (x = V.non)) = b := by
          split at hz
          · cases hz; cases t1; rfl
          · rename_i d0 hd
            cases hz
            rw [decide_eq_false fun e => hd ?_]
            · rfl
            subst e
            cases d1 <;> first | rfl | (cases t1; done) | (obtain ⟨_, _, z, _⟩ := t1; cases z)
        rw [e]
        exact q
      · cases hz
    · split at hz
      · exact inDict_ok hK ck.P ck.w hu hz rm I rx ry t1 rb false q
      · rename_i i _
        cases he : inDict M d1 i with
        | none => rw [he] at hz; cases hz
        | some c =>
          rw [he] at hz; cases hz
          exact inDict_ok hK ck.P ck.w hu he rm I rx ry t1 rb true q
      · cases hz
theorem cmp_mark {o : COp} {b : Expr} (h : behindInMarks (cmpOf o) b = false) : behindInMarks (cmpOf o) b = false := h
theorem tr_cmp (o : COp) {σ : L2.St} {H : Hp} {Q : VK} (h : tE k E (sCmp o f g) σ H Q) : tOp (rC k o) (tE k E f) (tE k E g) σ H Q := by
  obtain ⟨ex, am, env, M, rm, re, p⟩ := h
  refine ⟨ex, am, env, M, rm, re, p.bind.mono fun v M1 am1 H1 rm1 f1 p1 x rx => ?_⟩
  refine ⟨ex, am1, env, M1, rm1, re.step rm f1, p1.bind.mono fun w M2 am2 H2 rm2 f2 p2 y ry => ?_⟩
  obtain ⟨b, hb, p3⟩ := p2.ofO
  exact ⟨ex, am2, M2, v, w, b, rm2, rx.step rm1 f2, ry, hb, p3.now rm2 _ rfl⟩
theorem se_cmp (ck : Ck k X) (o : COp) (ha : SE X k E a f) (hb : SE X k E b g) (hm : behindInMarks (cmpOf o) b = false) : SE X k E (.Compare a [cmpOf o] [b] pos) (sCmp o f g) :=
  PE.imp (pe_cmpR (op_cmp ck o) ha hb hm) fun σ H Q h => tr_cmp o h
/-- what a test's piece gives, as a bool -/
theorem tT_bool {f : SF} {σ : L2.St} {H : Hp} {Q : Bool → Hp → Prop} (hf : ∀ env M v M', f env M = .ok v M' → ∃ b, v = .d (.bool b)) (h : tT k E f σ H Q) : tE k E f σ H (fun x H' => ∃ b, x = .bl b ∧ Q b H') := by
  obtain ⟨ex, am, env, M, rm, re, p⟩ := h
  refine ⟨ex, am, env, M, rm, re, ?_⟩
  cases q : f env M with
  | ok v M1 =>
    obtain ⟨b, rfl⟩ := hf _ _ _ _ q
    rw [q] at p
    exact fun am1 H1 rm1 f1 x rx => ⟨b, rx, p am1 H1 rm1 f1⟩
  | ex e1 M1 => rw [q] at p; exact p
  | no => rw [q] at p; exact p
theorem bool_cmp (o : COp) : ∀ env M v M', sCmp o f g env M = .ok v M' → ∃ b, v = .d (.bool b) := by
  intro env M v M' h
  unfold sCmp at h
  cases q1 : f env M with
  | ok v1 M1 =>
    rw [q1, bind_ok] at h
    cases q2 : g env M1 with
    | ok v2 M2 =>
      rw [q2, bind_ok] at h
      cases q3 : cmpV M2 o v1 v2 with
      | none => rw [q3] at h; cases h
      | some b => rw [q3] at h; cases h; exact ⟨b, rfl⟩
    | ex e M2 => rw [q2] at h; cases h
    | no => rw [q2] at h; cases h
  | ex e M2 => rw [q1] at h; cases h
  | no => rw [q1] at h; cases h
theorem st_cmp (ck : Ck k X) (o : COp) (ha : SE X k E a f) (hb : SE X k E b g) (hm : behindInMarks (cmpOf o) b = false) : ST X k E (.Compare a [cmpOf o] [b] pos) (sCmp o f g) :=
  PT.imp (pt_cmpR (op_cmp ck o) ha hb hm) fun σ H Q h => tr_cmp o (tT_bool (bool_cmp o) h)
theorem tr_chn (o p : COp) {σ : L2.St} {H : Hp} {Q : VK} (hw : tE k E (sChn o p f g h) σ H Q) : tChain (rC k o) (rC k p) (tE k E f) (tE k E g) (tE k E h) σ H Q := by
  obtain ⟨ex, am, env, M, rm, re, q⟩ := hw
  refine ⟨ex, am, env, M, rm, re, q.bind.mono fun v M1 am1 H1 rm1 f1 p1 x rx => ?_⟩
  refine ⟨ex, am1, env, M1, rm1, re.step rm f1, p1.bind.mono fun w M2 am2 H2 rm2 f2 p2 y ry => ?_⟩
  obtain ⟨b, hb, p3⟩ := p2.ofO
  refine ⟨ex, am2, M2, v, w, b, rm2, rx.step rm1 f2, ry, hb, b, rfl, ?_⟩
  cases b with
  | true =>
    rw [if_pos rfl]
    rw [if_pos rfl] at p3
    refine ⟨ex, am2, env, M2, rm2, (re.step rm f1).step rm1 f2, p3.bind.mono fun u M4 am4 H4 rm4 f4 p4 z rz => ?_⟩
    obtain ⟨c, hc, p5⟩ := p4.ofO
    exact ⟨ex, am4, M4, w, u, c, rm4, ry.step rm2 f4, rz, hc, p5.now rm4 _ rfl⟩
  | false =>
    rw [if_neg Bool.false_ne_true]
    rw [if_neg Bool.false_ne_true] at p3
    exact p3.now rm2 _ rfl
theorem se_chn (ck : Ck k X) (o p : COp) (ha : SE X k E a f) (hb : SE X k E b g) (hc : SE X k E c h) (hm : lastMarks [cmpOf o, cmpOf p] [b, c] = false) : SE X k E (.Compare a [cmpOf o, cmpOf p] [b, c] pos) (sChn o p f g h) :=
  PE.imp (pe_chain (op_cmp ck o) (op_cmp ck p) ha hb hc hm) fun σ H Q hw => tr_chn o p hw
theorem bool_chn (o p : COp) : ∀ env M v M', sChn o p f g h env M = .ok v M' → ∃ b, v = .d (.bool b) := by
  intro env M v M' hw
  unfold sChn at hw
  cases q1 : f env M with
  | ok v1 M1 =>
    rw [q1, bind_ok] at hw
    cases q2 : g env M1 with
    | ok v2 M2 =>
      rw [q2, bind_ok] at hw
      cases q3 : cmpV M2 o v1 v2 with
      | none => rw [q3] at hw; cases hw
      | some b =>
        rw [q3] at hw
        cases b with
        | false => cases hw; exact ⟨_, rfl⟩
        | true =>
          change (h env M2).bind _ = _ at hw
          cases q4 : h env M2 with
          | ok v4 M4 =>
            rw [q4, bind_ok] at hw
            cases q5 : cmpV M4 p v2 v4 with
            | none => rw [q5] at hw; cases hw
            | some b => rw [q5] at hw; cases hw; exact ⟨_, rfl⟩
          | ex e M2 => rw [q4] at hw; cases hw
          | no => rw [q4] at hw; cases hw
    | ex e M2 => rw [q2] at hw; cases hw
    | no => rw [q2] at hw; cases hw
  | ex e M2 => rw [q1] at hw; cases hw
  | no => rw [q1] at hw; cases hw
theorem st_chn (ck : Ck k X) (o p : COp) (ha : SE X k E a f) (hb : SE X k E b g) (hc : SE X k E c h) (hm : lastMarks [cmpOf o, cmpOf p] [b, c] = false) : ST X k E (.Compare a [cmpOf o, cmpOf p] [b, c] pos) (sChn o p f g h) :=
  PT.imp (pt_chain (op_cmp ck o) (op_cmp ck p) ha hb hc hm) fun σ H Q hw => tr_chn o p (tT_bool (bool_chn o p) hw)

/-! ### truth -/
theorem tru_R {K : Kf} {H : Hp} {av : Addr → Prop} {d : D} {v : V} {b : Bool} (h : RT K H av d v) (e : truD d = some b) : TruV K.K v H b := by
  cases d with
  | none => cases h; cases e; rfl
  | bool b => cases h; cases e; rfl
  | int i => cases h; cases e; rfl
  | str s =>
    cases h
    change (if s.length ≤ lim then some ((s.length : Int) != 0) else none) = some b at e
    split at e
    · rename_i hl
      cases e
      exact ⟨lim_size hl, rfl⟩
    · cases e
  | list ds =>
    obtain ⟨p, vs, rfl, hp, r⟩ := h
    cases e
    refine .inl ⟨vs, .inl (.inl hp), ?_⟩
    have := r.length
    cases ds <;> cases vs <;> first | rfl | (simp at this)
  | tuple ds =>
    obtain ⟨p, vs, rfl, hp, r⟩ := h
    cases e
    refine .inr (.inl ⟨vs, hp.sq, ?_⟩)
    have := r.length
    cases ds <;> cases vs <;> first | rfl | (simp at this)
  | dict _ => cases e
theorem truV_R {K : Kf} {ex am : List Addr} {M : Mem} {H : Hp} {v : Val} {x : V} {b : Bool} (rm : RM K ex am M H) (r : RV K H (avS ex am M) am v x) (e : truV M v = some b) : TruV K.K x H b := by
  unfold truV at e
  cases q : rdV M v with
  | none => rw [q] at e; cases e
  | some d => rw [q] at e; exact tru_R (rd_of rm r q) e
/-- any piece as a test -/
theorem st_tru (ck : Ck k X) (ha : SE X k E a f) (he : ∀ whole, isTrue a X.env whole = (do let v ← whole; standAt a.pos; holding [v] (truthy v))) : ST X k E a f :=
  PT.imp (pt_truth ha he) fun σ H Q ⟨ex, am, env, M, rm, re, p⟩ => by
    refine ⟨ex, am, env, M, rm, re, p.bind.mono fun v M1 am1 H1 rm1 f1 p1 x rx => ?_⟩
    obtain ⟨b, hb, p2⟩ := p1.ofO1
    exact ⟨b, by rw [ck.K]; exact truV_R rm1 rx hb, p2.now rm1⟩

/-! ### and, or, not, if -/
theorem se_and {rest : List Expr} (ck : Ck k X) (ha : SE X k E a f) (hb : SE X k E (.BoolOp .And (b :: rest) pos) g) : SE X k E (.BoolOp .And (a :: b :: rest) pos) (sAnd f g) :=
  PE.imp (pe_andT ha hb) fun σ H Q ⟨ex, am, env, M, rm, re, p⟩ => by
    refine ⟨ex, am, env, M, rm, re, p.bind.mono fun v M1 am1 H1 rm1 f1 p1 x rx => ?_⟩
    obtain ⟨t, ht, p2⟩ := p1.ofO
    refine ⟨t, by rw [ck.K]; exact truV_R rm1 rx ht, ?_⟩
    cases t with
    | true => rw [if_pos rfl]; rw [if_pos rfl] at p2; exact ⟨ex, am1, env, M1, rm1, re.step rm f1, p2⟩
    | false => rw [if_neg Bool.false_ne_true]; rw [if_neg Bool.false_ne_true] at p2; exact p2.now rm1 x rx
theorem se_or {rest : List Expr} (ck : Ck k X) (ha : SE X k E a f) (hb : SE X k E (.BoolOp .Or (b :: rest) pos) g) : SE X k E (.BoolOp .Or (a :: b :: rest) pos) (sOr f g) :=
  PE.imp (pe_orT ha hb) fun σ H Q ⟨ex, am, env, M, rm, re, p⟩ => by
    refine ⟨ex, am, env, M, rm, re, p.bind.mono fun v M1 am1 H1 rm1 f1 p1 x rx => ?_⟩
    obtain ⟨t, ht, p2⟩ := p1.ofO
    refine ⟨t, by rw [ck.K]; exact truV_R rm1 rx ht, ?_⟩
    cases t with
    | true => rw [if_pos rfl]; rw [if_pos rfl] at p2; exact p2.now rm1 x rx
    | false => rw [if_neg Bool.false_ne_true]; rw [if_neg Bool.false_ne_true] at p2; exact ⟨ex, am1, env, M1, rm1, re.step rm f1, p2⟩
theorem se_one {op : BoolOp} (ha : SE X k E a f) : SE X k E (.BoolOp op [a] pos) f := pe_one ha
theorem se_not (ck : Ck k X) (ha : SE X k E a f) : SE X k E (.UnaryOp .Not a pos) (sNot f) :=
  PE.imp (pe_notT ha) fun σ H Q ⟨ex, am, env, M, rm, re, p⟩ => by
    refine ⟨ex, am, env, M, rm, re, p.bind.mono fun v M1 am1 H1 rm1 f1 p1 x rx => ?_⟩
    obtain ⟨t, ht, p2⟩ := p1.ofO
    exact ⟨t, by rw [ck.K]; exact truV_R rm1 rx ht, p2.now rm1 _ rfl⟩
theorem tT_not {σ : L2.St} {H : Hp} {Q : Bool → Hp → Prop} (h : tT k E (sNot f) σ H Q) : tT k E f σ H (fun b H1 => Q (!b) H1) := by
  obtain ⟨ex, am, env, M, rm, re, p⟩ := h
  refine ⟨ex, am, env, M, rm, re, ?_⟩
  unfold sNot at p
  cases q : f env M with
  | ok v M1 =>
    rw [q] at p
    rw [bind_ok] at p ⊢
    cases q2 : truV M1 v with
    | none => rw [q2] at p; exact p
    | some b => rw [q2] at p; exact p
  | ex e1 M1 => rw [q] at p; exact p
  | no => rw [q] at p; exact p
theorem st_not (ha : ST X k E a f) : ST X k E (.UnaryOp .Not a pos) (sNot f) := PT.imp (pt_not ha) fun σ H Q h => tT_not h
theorem tT_and {σ : L2.St} {H : Hp} {Q : Bool → Hp → Prop} (h : tT k E (sAnd f g) σ H Q) : tAnd (tT k E f) (tT k E g) σ H Q := by
  obtain ⟨ex, am, env, M, rm, re, p⟩ := h
  refine ⟨ex, am, env, M, rm, re, ?_⟩
  unfold sAnd at p
  cases q : f env M with
  | ok v M1 =>
    rw [q] at p
    rw [bind_ok] at p ⊢
    cases q2 : truV M1 v with
    | none => rw [q2] at p; exact p
    | some b =>
      rw [q2] at p
      intro am1 H1 rm1 f1
      cases b with
      | true => exact ⟨ex, am1, env, M1, rm1, re.step rm f1, Po.weak f1 p⟩
      | false =>
        change Po k ex am M H E ((Res.ok v M1).bind _) _ at p
        rw [bind_ok, q2] at p
        exact p am1 H1 rm1 f1
  | ex e1 M1 => rw [q] at p; exact p
  | no => rw [q] at p; exact p
theorem tT_or {σ : L2.St} {H : Hp} {Q : Bool → Hp → Prop} (h : tT k E (sOr f g) σ H Q) : tOr (tT k E f) (tT k E g) σ H Q := by
  obtain ⟨ex, am, env, M, rm, re, p⟩ := h
  refine ⟨ex, am, env, M, rm, re, ?_⟩
  unfold sOr at p
  cases q : f env M with
  | ok v M1 =>
    rw [q] at p
    rw [bind_ok] at p ⊢
    cases q2 : truV M1 v with
    | none => rw [q2] at p; exact p
    | some b =>
      rw [q2] at p
      intro am1 H1 rm1 f1
      cases b with
      | false => exact ⟨ex, am1, env, M1, rm1, re.step rm f1, Po.weak f1 p⟩
      | true =>
        change Po k ex am M H E ((Res.ok v M1).bind _) _ at p
        rw [bind_ok, q2] at p
        exact p am1 H1 rm1 f1
  | ex e1 M1 => rw [q] at p; exact p
  | no => rw [q] at p; exact p
theorem sw_and {rest : List Expr} (ha : ST X k E a f) (hb : SW X k E (.BoolOp .And (b :: rest) pos) g) : SW X k E (.BoolOp .And (a :: b :: rest) pos) (sAnd f g) := PW.imp (pw_and ha hb) fun σ H Q h => tT_and h
theorem sw_or {rest : List Expr} (ha : ST X k E a f) (hb : SW X k E (.BoolOp .Or (b :: rest) pos) g) : SW X k E (.BoolOp .Or (a :: b :: rest) pos) (sOr f g) := PW.imp (pw_or ha hb) fun σ H Q h => tT_or h
theorem sw_and1 (ha : ST X k E a f) : SW X k E (.BoolOp .And [a] pos) f := pw_and1 ha
theorem sw_or1 (ha : ST X k E a f) : SW X k E (.BoolOp .Or [a] pos) f := pw_or1 ha
theorem tE_if {c f g : SF} {σ : L2.St} {H : Hp} {Q : VK} (h : tE k E (sIf c f g) σ H Q) : tIf (tT k E c) (tE k E f) (tE k E g) σ H Q := by
  obtain ⟨ex, am, env, M, rm, re, p⟩ := h
  refine ⟨ex, am, env, M, rm, re, ?_⟩
  unfold sIf at p
  cases q : c env M with
  | ok v M1 =>
    rw [q] at p
    rw [bind_ok] at p ⊢
    cases q2 : truV M1 v with
    | none => rw [q2] at p; exact p
    | some b =>
      rw [q2] at p
      intro am1 H1 rm1 f1
      cases b with
      | true => exact ⟨ex, am1, env, M1, rm1, re.step rm f1, Po.weak f1 p⟩
      | false => exact ⟨ex, am1, env, M1, rm1, re.step rm f1, Po.weak f1 p⟩
  | ex e1 M1 => rw [q] at p; exact p
  | no => rw [q] at p; exact p
theorem se_if {x y z : Expr} {c f g : SF} (hc : ST X k E x c) (ha : SE X k E y f) (hb : SE X k E z g) : SE X k E (.IfExp x y z pos) (sIf c f g) := PE.imp (pe_ifExp hc ha hb) fun σ H Q h => tE_if h
end
end Mp
end
section
set_option maxHeartbeats 4000000
/-! Readings of subscripts, slices, isinstance, built-ins. -/
namespace Mp
open PySem PySem.Spec PyProof.Rows L2
section
variable {X : Cx} {k : Kx} {E : XK} {e a b c : Expr} {es : List Expr} {pos : Pos} {f g h : SF} {A : SA}

theorem atI_map {α β : Type} {xs : List α} {i : Int} {x : α} (h : atI xs i = some x) : ∃ j, xs[j]? = some x ∧ ixN xs.length i = some j := by
  unfold atI at h
  cases q : ixN xs.length i with
  | none => rw [q] at h; cases h
  | some j => rw [q] at h; exact ⟨j, h, rfl⟩
theorem Rs.atI {K : Kf} {H : Hp} {av : Addr → Prop} {ds : List D} {vs : List V} {i : Int} {d : D} (r : Rs K H av ds vs) (h : L2.atI ds i = some d) : ∃ v, L2.atI vs i = some v ∧ R K H av d v := by
  obtain ⟨j, h1, h2⟩ := atI_map (β := D) h
  obtain ⟨v, hv, rv⟩ := r.get h1
  refine ⟨v, ?_, rv⟩
  unfold L2.atI
  rw [← r.length, h2]
  exact hv
theorem RVs.atI {K : Kf} {H : Hp} {av : Addr → Prop} {am : List Addr} {ds : List Val} {vs : List V} {i : Int} {d : Val} (r : RVs K H av am ds vs) (h : L2.atI ds i = some d) : ∃ v, L2.atI vs i = some v ∧ RV K H av am d v := by
  obtain ⟨j, h1, h2⟩ := atI_map (β := D) h
  obtain ⟨v, hv, rv⟩ := r.get h1
  refine ⟨v, ?_, rv⟩
  unfold L2.atI
  rw [← r.length, h2]
  exact hv

/-- o[i] by values -/
def rIX (k : Kx) : R2 := fun x y H Q => ∃ ex am M v w z, RM k.K ex am M H ∧ RV k.K H (avS ex am M) am v x ∧ RV k.K H (avS ex am M) am w y ∧ idxV M v w = some z ∧ ∀ u, RV k.K H (avS ex am M) am z u → Q u H
theorem ix_dict {a : Addr} {y v : V} {value slice : Expr} {pins : List (Addr × Obj)} {s : Shared} {σ : L2.St} {H : Hp} {u : Value} {Q : VK} (hu : X.A.units + 1 < cLine) (I : Inv X pins σ H s) (g : DGet H a y (some v)) (ry : RelV y u) (q : Q v H)
    (hs : subscripted slice false (.ref a) u = operate [.ref a, u] (getItem (.ref a) u)) : wpAny (model X.prog X.w) X.A (subscriptTail value slice (.ref a) u) (EP X pins σ Q) X.xe s :=
  tail_any (dict_typeIs I g) PySem.F.slot_dict_getitem.lookup (d_getItem hu I g ry fun w' s3 I3 rw' => ⟨v, H, I3, rw', q⟩) hs
theorem ix_all (ck : Ck k X) : IxR X (rIX k) := by
  intro value slice pins s σ H x y v u Q I rx ry ⟨ex, am, M, vv, ww, z, rm, ra, rb, hz, q⟩ hs
  have hK := ck.K
  have lst : ∀ (p : Addr) (vs : List V) (ds : List D) (i : Int), x = .ref p → (SqL X.K H p vs ∨ SqT X.K H p vs) → Rs k.K H (avS ex am M) ds vs → y = .int i → (L2.atI ds i).map Val.d = some z → wpAny (model X.prog X.w) X.A (subscriptTail value slice v u) (EP X pins σ Q) X.xe s := by
    intro p vs ds i e1 hp r e2 hz
    cases h1 : L2.atI ds i with
    | none => rw [h1] at hz; cases hz
    | some d =>
      rw [h1] at hz
      cases hz
      obtain ⟨w0, hw, rw0⟩ := r.atI h1
      rcases hp with hp | hp
      · exact ix_list value slice pins s σ H x y v u Q I rx ry ⟨p, vs, i, w0, e1, e2, hp, hw, q _ rw0⟩ hs
      · exact ix_tup value slice pins s σ H x y v u Q I rx ry ⟨p, vs, i, w0, e1, e2, hp, hw, q _ rw0⟩ hs
  cases vv with
  | d dv =>
    cases dv with
    | list ds =>
      cases ww with
      | ref _ => simp [idxV] at hz
      | d dw =>
        cases dw with
        | int i =>
          obtain ⟨p, vs, e1, hp, _, r⟩ := ra
          exact lst p vs ds i e1 (.inl (.inl (.inl hp))) r rb hz
        | _ => simp [idxV] at hz
    | tuple ds =>
      cases ww with
      | ref _ => simp [idxV] at hz
      | d dw =>
        cases dw with
        | int i =>
          obtain ⟨p, vs, e1, hp, r⟩ := ra
          exact lst p vs ds i e1 (.inr (by rw [hK]; exact hp.sq)) r rb hz
        | _ => simp [idxV] at hz
    | str z0 =>
      cases ww with
      | ref _ => simp [idxV] at hz
      | d dw =>
        cases dw with
        | int i =>
          have hz' : (if z0.length ≤ lim then (L2.atI z0.cps.toList i).map (fun c => Val.d (.str ⟨#[c]⟩)) else none) = some z := hz
          split at hz'
          · rename_i hl
            cases h1 : L2.atI z0.cps.toList i with
            | none => rw [h1] at hz'; cases hz'
            | some c0 =>
              rw [h1] at hz'
              cases hz'
              cases ra; cases rb
              exact ix_str value slice pins s σ H _ _ v u Q I rx ry ⟨z0, i, c0, rfl, rfl, lim_size hl, h1, q _ rfl⟩ hs
          · cases hz'
        | _ => simp [idxV] at hz
    | _ => simp [idxV] at hz
  | ref j =>
    obtain ⟨p, ha, rfl⟩ := ra
    cases hm : M[j]? with
    | none => simp [idxV, hm] at hz
    | some ob =>
      cases ob with
      | lst ds =>
        obtain ⟨vs, hp, r⟩ := rm.obj j _ p hm ha
        cases ww with
        | ref _ => simp [idxV, hm] at hz
        | d dw =>
          cases dw with
          | int i => exact lst p vs ds i rfl (.inl (.inl (.inl hp))) r rb (by simpa [idxV, hm] using hz)
          | _ => simp [idxV, hm] at hz
      | box ds =>
        obtain ⟨vs, hp, r, _⟩ := rm.obj j _ p hm ha
        cases ww with
        | ref _ => simp [idxV, hm] at hz
        | d dw =>
          cases dw with
          | int i =>
            have h1 : L2.atI ds i = some z := by simpa [idxV, hm] using hz
            obtain ⟨w0, hw, rw0⟩ := r.atI h1
            cases rb
            exact ix_list value slice pins s σ H _ _ v u Q I rx ry ⟨p, vs, i, w0, rfl, rfl, .inl (.inl hp), hw, q _ rw0⟩ hs
          | _ => simp [idxV, hm] at hz
      | dK kvs =>
        obtain ⟨vs, hp, r⟩ := rm.obj j _ p hm ha
        obtain rfl : v = Value.ref p := rx
        cases ww with
        | ref _ => simp [idxV, hm] at hz
        | d dw =>
          cases hq : keyD dw with
          | none => simp [idxV, hm, hq] at hz
          | some q0 =>
            cases hg : dGet kvs q0 with
            | none => simp [idxV, hm, hq, hg] at hz
            | some d =>
              have hz' : Val.d d = z := by simpa [idxV, hm, hq, hg] using hz
              subst hz'
              obtain ⟨w0, hw, rw0⟩ := (r.get q0).2 d hg
              have hy : y = kV q0 := key_R rb hq
              subst hy
              exact ix_dict (by have := ck.hu; omega) I (by rw [← hw]; exact DGet.k hp) ry (q _ rw0) hs
      | dT kvs =>
        obtain ⟨xs, hp, r⟩ := rm.obj j _ p hm ha
        obtain rfl : v = Value.ref p := rx
        cases ww with
        | ref _ => simp [idxV, hm] at hz
        | d dw =>
          cases hq : nkT dw with
          | none => simp [idxV, hm, hq] at hz
          | some q0 =>
            cases hg : dGet kvs q0 with
            | none => simp [idxV, hm, hq, hg] at hz
            | some d =>
              have hz' : Val.d d = z := by simpa [idxV, hm, hq, hg] using hz
              subst hz'
              exact n_get hK ck.P ck.w ck.hu I hp r hq rb ry hg (fun v0 rv0 => q v0 rv0) hs
      | _ => simp [idxV, hm] at hz
def notSl : Expr → Bool
  | .Slice .. => false
  | _ => true
theorem plain_of (h : notSl b = true) : PlainIx b := by
  intro o i
  cases b <;> first | rfl | cases h
theorem se_idx (ck : Ck k X) (ha : SE X k E a f) (hb : SE X k E b g) (hs : notSl b = true) : SE X k E (.Subscript a b pos) (sIdx f g) :=
  PE.imp (pe_ix (ix_all ck) ha hb (plain_of hs)) fun σ H Q ⟨ex, am, env, M, rm, re, p⟩ => by
    refine ⟨ex, am, env, M, rm, re, p.bind.mono fun v M1 am1 H1 rm1 f1 p1 x rx => ?_⟩
    refine ⟨ex, am1, env, M1, rm1, re.step rm f1, p1.bind.mono fun w M2 am2 H2 rm2 f2 p2 y ry => ?_⟩
    obtain ⟨z, hz, p3⟩ := p2.ofO1
    exact ⟨ex, am2, M2, v, w, z, rm2, rx.step rm1 f2, ry, hz, fun u ru => p3.now rm2 u ru⟩

/-! ### slices -/
abbrev okO (Q : Option Int → Hp → Prop) : Option Int → Mem → List Addr → Hp → Prop := fun v _ _ H => Q v H
def tOo (k : Kx) (E : XK) (f : SO) : TO := fun σ H Q => ∃ ex am env M, RM k.K ex am M H ∧ RE k.K ex am M H env σ ∧ Po k ex am M H E (f env M) (okO Q)
abbrev SOs (X : Cx) (k : Kx) (E : XK) (e : Option Expr) (f : SO) : Prop := PO X e (tOo k E f)
theorem PO.imp {X : Cx} {e : Option Expr} {t t' : TO} (h : PO X e t) (i : ∀ σ H Q, t' σ H Q → t σ H Q) : PO X e t' := ⟨fun pins s σ H Q I q => h.run pins s σ H Q I (i σ H Q q)⟩
theorem so_non : SOs X k E none sNon := PO.imp po_none fun σ H Q ⟨ex, am, env, M, rm, re, p⟩ => p.now rm
theorem so_som (he : SE X k E e f) : SOs X k E (some e) (sSom f) :=
  PO.imp (po_some he) fun σ H Q ⟨ex, am, env, M, rm, re, p⟩ => by
    refine ⟨ex, am, env, M, rm, re, p.bind.mono fun v M1 am1 H1 rm1 f1 p1 x rx => ?_⟩
    split at p1
    · exact ⟨_, rx, p1.now rm1⟩
    · exact p1.elim
/-- data, a list however it is held, the script too -/
def RS (K : Kf) (H : Hp) (av : Addr → Prop) : D → V → Prop
  | .list ds, v => ∃ a vs, v = .ref a ∧ SqL K.K H a vs ∧ Rs K H av ds vs
  | d, v => R K H av d v
theorem rs_of {K : Kf} {ex am : List Addr} {M : Mem} {H : Hp} {v : Val} {x : V} {d : D} (m : RM K ex am M H) (r : RV K H (avS ex am M) am v x) (h : rdS M v = some d) : RS K H (avS ex am M) d x := by
  cases v with
  | d y =>
    cases h
    cases d with
    | list ds => obtain ⟨a, vs, e, q, _, r⟩ := r; exact ⟨a, vs, e, .inl (.inl q), r⟩
    | _ => exact r
  | ref i =>
    obtain ⟨a, ha, rfl⟩ := r
    cases hm : M[i]? with
    | none => simp [rdS, hm] at h
    | some ob =>
      cases ob with
      | lst xs =>
        have h' : some (PyData.list xs) = some d := by simpa [rdS, hm] using h
        cases h'
        obtain ⟨vs, e, q⟩ := m.obj i _ a hm ha
        exact ⟨a, vs, rfl, .inl (.inl e), q⟩
      | scr xs =>
        have h' : some (PyData.list xs) = some d := by simpa [rdS, hm] using h
        cases h'
        obtain ⟨vs, e, q⟩ := m.obj i _ a hm ha
        exact ⟨a, vs, rfl, e.sq, q⟩
      | _ => simp [rdS, hm] at h
def rSL (k : Kx) : V → Option Int → Option Int → Hp → VK → Prop := fun x lo hi H Q => ∃ ex am M d z, RM k.K ex am M H ∧ RS k.K H (avS ex am M) d x ∧ cutD d lo hi = some z ∧
  ∀ am' H' w, RM k.K ex am' M H' → F am M H am' M H' → R k.K H' (avS ex am' M) z w → Q w H'
theorem cut_whole {α : Type} {xs : List α} {lo hi : Option Int} (h : HT.sIx xs.length 0 lo = 0 ∧ HT.sIx xs.length xs.length hi = xs.length) : cutL xs lo hi = xs := by
  unfold cutL
  rw [h.1, h.2]
  simp
theorem sl_all (ck : Ck k X) : SlR X (rSL k) := by
  intro pins s σ H x v vl vu lo hi sl Q I rx hs pl pu ⟨ex, am, M, d, z, rm, rd, hz, q⟩
  cases d with
  | list ds =>
    cases hz
    obtain ⟨p, vs, rfl, hp, r⟩ := rd
    refine sl_list pins s σ H _ v vl vu lo hi sl Q I rx hs pl pu ⟨p, vs, rfl, by rw [ck.K]; exact hp, fun t ht => ?_⟩
    refine q am _ _ (rm.new _ ht) (F.new ht) ⟨t, _, rfl, upd_same, fun l => ?_, (rm.agr (F.new ht)).rs _ _ (r.cut lo hi)⟩
    obtain ⟨o, ho⟩ := rm.avH l
    rw [ht] at ho; cases ho
  | tuple ds =>
    cases hz
    obtain ⟨p, vs, rfl, hp, r⟩ := rd
    refine sl_tupS pins s σ H _ v vl vu lo hi sl Q I rx hs pl pu ⟨p, vs, rfl, by rw [ck.K]; exact hp.sq, fun w => ?_, fun t its ht => ?_⟩
    · rw [← r.length] at w
      exact q am _ _ rm F.refl ⟨p, vs, rfl, hp, by rw [cut_whole w]; exact r⟩
    · exact q am _ _ (rm.new _ ht) (F.new ht) ⟨t, _, rfl, .of, (rm.agr (F.new ht)).rs _ _ (r.cut lo hi)⟩
  | _ => cases hz
theorem se_slc (ck : Ck k X) {lo hi : Option Expr} {l u : SO} {p2 : Pos} (ha : SE X k E a f) (hl : SOs X k E lo l) (hh : SOs X k E hi u) : SE X k E (.Subscript a (.Slice lo hi none p2) pos) (sSlc f l u) :=
  PE.imp (pe_slice (sl_all ck) ha hl hh) fun σ H Q ⟨ex, am, env, M, rm, re, p⟩ => by
    refine ⟨ex, am, env, M, rm, re, p.bind.mono fun v M1 am1 H1 rm1 f1 p1 x rx => ?_⟩
    refine ⟨ex, am1, env, M1, rm1, re.step rm f1, p1.bind.mono fun l M2 am2 H2 rm2 f2 p2 => ?_⟩
    refine ⟨ex, am2, env, M2, rm2, (re.step rm f1).step rm1 f2, p2.bind.mono fun u M3 am3 H3 rm3 f3 p3 => ?_⟩
    cases q1 : rdS M3 v with
    | none => rw [q1] at p3; exact p3.elim
    | some d =>
      rw [q1] at p3
      obtain ⟨z, hz, p4⟩ := p3.ofO
      exact ⟨ex, am3, M3, d, z, rm3, rs_of rm3 ((rx.step rm1 f2).step rm2 f3) q1, hz, fun am' H' w rm' f' rw' => p4 am' H' rm' f' w rw'⟩

/-! ### isinstance -/
def tkN : TK → String
  | .int => "int" | .bool => "bool" | .str => "str" | .tuple => "tuple" | .list => "list"
def tyN : D → Value
  | .none => .type "NoneType" | .bool _ => .type "bool" | .int _ => .type "int" | .str _ => .type "str" | .list _ => .type "list" | .tuple _ => .type "tuple" | .dict _ => .type "dict"
theorem R.ty {K : Kf} {H : Hp} {av : Addr → Prop} {d : D} {v : V} (h : R K H av d v) : TyX K.K H v (tyN d) := by
  cases d with
  | none => cases h; exact .base .non
  | bool b => cases h; exact .base (.bl b)
  | int i => cases h; exact .base (.int i)
  | str s => cases h; exact .base (.str s)
  | tuple ds =>
    obtain ⟨p, vs, rfl, hp, _⟩ := h
    rcases hp with ⟨its, hp⟩ | ⟨o, its, n, hk, hc, _⟩
    · exact .fTuple hp
    · exact .kTuple hk hc
  | list ds => obtain ⟨p, vs, rfl, hp, _⟩ := h; exact .base (.lst hp)
  | dict _ => exact h.elim
theorem kit_tk {K : PySem.W.Frag} (d : D) (hd : ∀ kvs, d ≠ .dict kvs) (t : TK) : PySem.W.kitOne K (tyN d) (.type (tkN t)) = some (isD t d) := by
  cases d with
  | dict kvs => exact absurd rfl (hd kvs)
  | _ => cases t <;> first | rfl | decide +kernel
end
end Mp
end
section
set_option maxHeartbeats 4000000
/-! Readings of isinstance, built-ins by name. -/
namespace Mp
open PySem PySem.Spec PyProof.Rows L2
section
variable {X : Cx} {k : Kx} {E : XK} {e a b c : Expr} {es : List Expr} {pos p0 p1 : Pos} {f g h : SF} {A : SA}

/-- the built-ins' names are not taken -/
structure Bn (X : Cx) (x : Str) : Prop where
  gl : Gl X x
  mg : X.mg x = none
theorem boot_tk (t : TK) : bootBuiltins (Str.ofString (tkN t)) = some (.type (tkN t)) := by
  cases t
  · decide +kernel
  · decide +kernel
  · decide +kernel
  · decide +kernel
  · decide +kernel
theorem se_isi (ck : Ck k X) (t : TK) (ha : SE X k E a f) (bi : Bn X "isinstance") (bt : Bn X (Str.ofString (tkN t))) (hs : ∀ p, starEach [a, .Name (Str.ofString (tkN t)) p] X.env = (false, eval a X.env) :: starEach [.Name (Str.ofString (tkN t)) p] X.env)
    : SE X k E (.Call (.Name "isinstance" p0) [a, .Name (Str.ofString (tkN t)) p1] [] pos) (sIsi f t) := by
  have nn : (Str.ofString (tkN t)) ≠ "__name__" := by cases t <;> decide
  have nd : (Str.ofString (tkN t) == ("__debug__" : Str)) = false := by cases t <;> decide
  refine PE.imp (pe_callB (call_isi (X := X)) bi.gl bi.mg (by decide +kernel) (pa_cons ha (pa_cons (pe_bltn (v := V.ty (tkN t)) bt.gl bt.mg (boot_tk t) rfl nn nd) pa_nil) (hs p1)) (he := hs p1) (hpl := rfl)) ?_
  rintro σ H Q ⟨ex, am, env, M, rm, re, p⟩
  refine ⟨ex, am, env, M, rm, re, p.bind.mono fun v M1 am1 H1 rm1 f1 p1 x rx => ?_⟩
  cases v with
  | ref _ => exact p1.elim
  | d d =>
    refine ⟨x, .ty (tkN t), tyN d, .type (tkN t), isD t d, rfl, .ty _, ?_, kit_tk d (fun kvs e => ?_) t, p1.now rm1 _ rfl⟩
    · rw [ck.K]; exact R.ty rx
    · subst e; exact rx.elim

/-! ### built-ins of values -/
/-- a built-in: what comes of the values -/
def rB (k : Kx) (b : BI) : List V → Hp → VK → Prop := fun xs H Q => ∃ ex am M vs z, RM k.K ex am M H ∧ RVs k.K H (avS ex am M) am vs xs ∧ biV b M vs = some z ∧
  ∀ am' H' w, RM k.K ex am' M H' → F am M H am' M H' → R k.K H' (avS ex am' M) z w → Q w H'
theorem rds_of {K : Kf} {ex am : List Addr} {M : Mem} {H : Hp} : ∀ {vs : List Val} {xs : List V} {ds : List D}, RM K ex am M H → RVs K H (avS ex am M) am vs xs → rdVs M vs = some ds → Paired (RT K H (avS ex am M)) ds xs
  | [], _, _, _, h, e => by cases h; cases e; exact .nil
  | v :: vs, _, ds, m, h, e => by
    obtain ⟨x, r, ex, h1, h2⟩ := h
    subst ex
    unfold rdVs at e
    cases q1 : rdV M v with
    | none => rw [q1] at e; simp at e
    | some d =>
      cases q2 : rdVs M vs with
      | none => rw [q1, q2] at e; simp at e
      | some ds' =>
        rw [q1, q2] at e
        simp at e
        subst e
        exact .cons (rd_of m h1 q1) (rds_of m h2 q2)
theorem pair1 {K : Kf} {H : Hp} {av : Addr → Prop} {d : D} {xs : List V} (h : Paired (RT K H av) [d] xs) : ∃ x, xs = [x] ∧ RT K H av d x := by
  cases h with
  | cons h1 t => cases t; exact ⟨_, rfl, h1⟩
theorem pair2 {K : Kf} {H : Hp} {av : Addr → Prop} {d d' : D} {xs : List V} (h : Paired (RT K H av) [d, d'] xs) : ∃ x y, xs = [x, y] ∧ RT K H av d x ∧ RT K H av d' y := by
  cases h with
  | cons h1 t => cases t with
    | cons h2 t => cases t; exact ⟨_, _, rfl, h1, h2⟩
/-- a new list -/
theorem R.newL {K : Kf} {ex am : List Addr} {M : Mem} {H : Hp} {ds : List D} {vs : List V} {t : Addr} (rm : RM K ex am M H) (ht : H t = none) (r : Rs K H (avS ex am M) ds vs) : R K (upd H t (.lst vs)) (avS ex am M) (.list ds) (.ref t) := by
  refine ⟨t, _, rfl, upd_same, fun l => ?_, (rm.agr (F.new ht)).rs _ _ r⟩
  obtain ⟨o, ho⟩ := rm.avH l
  rw [ht] at ho; cases ho
theorem R.newT {K : Kf} {ex am : List Addr} {M : Mem} {H : Hp} {ds : List D} {vs : List V} {t : Addr} {its : List Value} (rm : RM K ex am M H) (ht : H t = none) (r : Rs K H (avS ex am M) ds vs) : R K (upd H t (sT its vs)) (avS ex am M) (.tuple ds) (.ref t) :=
  ⟨t, _, rfl, .of, (rm.agr (F.new ht)).rs _ _ r⟩
/-- the call of a built-in function -/
def biN : BI → String
  | .len => "len" | .abs => "abs" | .int => "int" | .tuple => "tuple" | .list => "list" | .sorted => "sorted" | .sum => "sum" | .min2 => "min" | .max2 => "max" | _ => ""
theorem tr_bi (bb : BI) {σ : L2.St} {H : Hp} {Q : VK} (hw : tE k E (sBi bb A) σ H Q) : tCB (rB k bb) (tA k E A) σ H Q := by
  obtain ⟨ex, am, env, M, rm, re, p⟩ := hw
  refine ⟨ex, am, env, M, rm, re, p.bind.mono fun vs M1 am1 H1 rm1 f1 p1 xs rxs => ?_⟩
  obtain ⟨z, hz, p2⟩ := p1.ofO
  exact ⟨ex, am1, M1, vs, z, rm1, rxs, hz, fun am' H' w rm' f' r' => p2 am' H' rm' f' w r'⟩
/-- of a built-in that takes data alone -/
theorem bi_data {bb : BI} {M : Mem} {vs : List Val} {z : D} (h : biR bb M vs = some z) : ∃ ds, rdVs M vs = some ds ∧ biD bb ds = some z := by
  unfold biR at h
  cases q : rdVs M vs with
  | some ds => rw [q] at h; exact ⟨ds, rfl, h⟩
  | none => rw [q] at h; cases h
theorem d1_some {f : D → Option D} {ds : List D} {z : D} (h : d1 f ds = some z) : ∃ x, ds = [x] ∧ f x = some z := by
  cases ds with
  | nil => cases h
  | cons x r => cases r with
    | nil => exact ⟨x, rfl, h⟩
    | cons _ _ => cases h
theorem d2_some {f : D → D → Option D} {ds : List D} {z : D} (h : d2 f ds = some z) : ∃ x y, ds = [x, y] ∧ f x y = some z := by
  cases ds with
  | nil => cases h
  | cons x r => cases r with
    | nil => cases h
    | cons y r => cases r with
      | nil => exact ⟨x, y, rfl, h⟩
      | cons _ _ => cases h
theorem dInt_some {α : Type} {f : Int → Option α} {d : D} {z : α} (h : dInt f d = some z) : ∃ i, d = .int i ∧ f i = some z := by
  cases d <;> first | exact ⟨_, rfl, h⟩ | cases h
theorem dList_some {α : Type} {f : List D → Option α} {d : D} {z : α} (h : dList f d = some z) : ∃ i, d = .list i ∧ f i = some z := by
  cases d <;> first | exact ⟨_, rfl, h⟩ | cases h
theorem dSeq_some {f : List D → Option D} {d z : D} (h : dSeq f d = some z) : ∃ i, (d = .list i ∨ d = .tuple i) ∧ f i = some z := by
  cases d <;> first | exact ⟨_, .inl rfl, h⟩ | exact ⟨_, .inr rfl, h⟩ | cases h
theorem v1_some {α : Type} {f : Val → Option α} {vs : List Val} {z : α} (h : v1 f vs = some z) : ∃ x, vs = [x] ∧ f x = some z := by
  cases vs with
  | nil => cases h
  | cons x r => cases r with
    | nil => exact ⟨x, rfl, h⟩
    | cons _ _ => cases h
theorem c_len (ck : Ck k X) : CallR X (.builtin "len") (rB k .len) := by
  intro pins s σ H xs us Q I rr ⟨ex, am, M, vs, z, rm, rv, hz, q⟩
  obtain ⟨v, rfl, hz'⟩ := v1_some (show v1 (fun v => (lenV M v).map PyData.int) vs = some z from hz)
  obtain ⟨x, t, rfl, hx, ht⟩ := rv
  cases ht
  have fin : ∀ n : Nat, lenV M v = some (n : Int) → LenV X.K x H n → wpAny (model X.prog X.w) X.A (call (.builtin "len") us) (EP X pins σ Q) X.xe s := by
    intro n hn hl
    rw [hn] at hz'
    cases hz'
    exact call_len pins s σ H [x] us Q I rr ⟨x, n, rfl, hl, q am H _ rm F.refl rfl⟩
  cases v with
  | d d =>
    cases d with
    | list ds => obtain ⟨p, ws, rfl, hp, _, r⟩ := hx; exact fin _ rfl (.inl ⟨ws, .inl (.inl hp), r.length⟩)
    | tuple ds => obtain ⟨p, ws, rfl, hp, r⟩ := hx; exact fin _ rfl (.inr ⟨ws, by rw [ck.K]; exact hp.sq, r.length⟩)
    | str z0 =>
      cases hx
      have hz2 : (if z0.length ≤ lim then some (z0.length : Int) else none).map PyData.int = some z := hz'
      split at hz2
      · rename_i hl
        exact fin z0.length (by show (if z0.length ≤ lim then some (z0.length : Int) else none) = _; rw [if_pos hl]) ⟨lim_size hl, rfl⟩
      · cases hz2
    | _ => cases hz'
  | ref i =>
    obtain ⟨p, ha, rfl⟩ := hx
    cases hm : M[i]? with
    | none => simp [lenV, hm] at hz'
    | some ob =>
      cases ob with
      | lst ds => obtain ⟨ws, hp, r⟩ := rm.obj i _ p hm ha; exact fin ds.length (by simp [lenV, hm]) (.inl ⟨ws, .inl (.inl hp), r.length⟩)
      | scr ds => obtain ⟨ws, hp, r⟩ := rm.obj i _ p hm ha; exact fin ds.length (by simp [lenV, hm]) (.inl ⟨ws, by rw [ck.K]; exact hp.sq, r.length⟩)
      | _ => simp [lenV, hm] at hz'
theorem c_abs : CallR X (.builtin "abs") (rB k .abs) := by
  intro pins s σ H xs us Q I rr ⟨ex, am, M, vs, z, rm, rv, hz, q⟩
  obtain ⟨ds, hd, hz⟩ := bi_data hz
  have pr := rds_of rm rv hd
  obtain ⟨d, rfl, hz⟩ := d1_some hz
  obtain ⟨i, rfl, hz⟩ := dInt_some hz
  obtain ⟨x, rfl, hx⟩ := pair1 pr
  cases hx; cases hz
  exact call_abs pins s σ H _ us Q I rr ⟨_, rfl, q am H _ rm F.refl rfl⟩
theorem c_int : CallR X (.type "int") (rB k .int) := by
  intro pins s σ H xs us Q I rr ⟨ex, am, M, vs, z, rm, rv, hz, q⟩
  obtain ⟨ds, hd, hz⟩ := bi_data hz
  have pr := rds_of rm rv hd
  obtain ⟨d, rfl, hz⟩ := d1_some hz
  obtain ⟨x, rfl, hx⟩ := pair1 pr
  cases d <;> first | (cases hz; done) | skip
  · cases hx; cases hz
    exact call_int1 pins s σ H _ us Q I rr (.inr ⟨_, rfl, q am H _ rm F.refl rfl⟩)
  · cases hx; cases hz
    exact call_int1 pins s σ H _ us Q I rr (.inl ⟨_, rfl, q am H _ rm F.refl rfl⟩)
theorem c_tuple (ck : Ck k X) : CallR X (.type "tuple") (rB k .tuple) := by
  intro pins s σ H xs us Q I rr ⟨ex, am, M, vs, z, rm, rv, hz, q⟩
  obtain ⟨ds, hd, hz⟩ := bi_data hz
  have pr := rds_of rm rv hd
  obtain ⟨d, rfl, hz⟩ := d1_some hz
  obtain ⟨ys, he, hz⟩ := dSeq_some hz
  cases hz
  rcases he with rfl | rfl
  · obtain ⟨x, rfl, p, ws, rfl, hp, r⟩ := pair1 pr
    exact call_tuple_ofS pins s σ H _ us Q I rr ⟨p, ws, rfl, .inl ⟨.inl (.inl hp), fun t its ht => q am _ _ (rm.new _ ht) (F.new ht) (R.newT rm ht r)⟩⟩
  · obtain ⟨x, rfl, p, ws, rfl, hp, r⟩ := pair1 pr
    exact call_tuple_ofS pins s σ H _ us Q I rr ⟨p, ws, rfl, .inr ⟨by rw [ck.K]; exact hp.sq, q am H _ rm F.refl ⟨p, ws, rfl, hp, r⟩⟩⟩
theorem c_list (ck : Ck k X) : CallR X (.type "list") (rB k .list) := by
  intro pins s σ H xs us Q I rr ⟨ex, am, M, vs, z, rm, rv, hz, q⟩
  obtain ⟨ds, hd, hz⟩ := bi_data hz
  have pr := rds_of rm rv hd
  obtain ⟨d, rfl, hz⟩ := d1_some hz
  obtain ⟨ys, he, hz⟩ := dSeq_some hz
  cases hz
  rcases he with rfl | rfl
  · obtain ⟨x, rfl, p, ws, rfl, hp, r⟩ := pair1 pr
    exact call_list_of pins s σ H _ us Q I rr ⟨p, ws, rfl, .inl (.inl (.inl hp)), fun t ht => q am _ _ (rm.new _ ht) (F.new ht) (R.newL rm ht r)⟩
  · obtain ⟨x, rfl, p, ws, rfl, hp, r⟩ := pair1 pr
    exact call_list_of pins s σ H _ us Q I rr ⟨p, ws, rfl, .inr (by rw [ck.K]; exact hp.sq), fun t ht => q am _ _ (rm.new _ ht) (F.new ht) (R.newL rm ht r)⟩
theorem c_sum (ck : Ck k X) : CallR X (.builtin "sum") (rB k .sum) := by
  intro pins s σ H xs us Q I rr ⟨ex, am, M, vs, z, rm, rv, hz, q⟩
  obtain ⟨ds, hd, hz⟩ := bi_data hz
  have pr := rds_of rm rv hd
  obtain ⟨d, rfl, hz⟩ := d1_some hz
  obtain ⟨ys, rfl, hy⟩ := dList_some hz
  obtain ⟨x, rfl, p, ws, rfl, hp, r⟩ := pair1 pr
  cases hi : intsOf ys with
  | none => rw [hi] at hy; cases hy
  | some ns =>
    rw [hi] at hy; cases hy
    have e := ints_R r hi
    subst e
    exact cr_sum ck.calm pins s σ H _ us Q I rr ⟨p, ns, rfl, .inl (.inl hp), q am H _ rm F.refl rfl⟩
theorem c_min (ck : Ck k X) : CallR X (.builtin "min") (rB k .min2) := by
  intro pins s σ H xs us Q I rr ⟨ex, am, M, vs, z, rm, rv, hz, q⟩
  obtain ⟨ds, hd, hz⟩ := bi_data hz
  have pr := rds_of rm rv hd
  obtain ⟨d, d', rfl, hz⟩ := d2_some hz
  obtain ⟨i, rfl, hz⟩ := dInt_some hz
  obtain ⟨j, rfl, hz⟩ := dInt_some hz
  obtain ⟨x, y, rfl, hx, hy⟩ := pair2 pr
  cases hx; cases hy; cases hz
  exact call_min2 ck.calm pins s σ H _ us Q I rr ⟨_, _, rfl, q am H _ rm F.refl rfl⟩
theorem c_max (ck : Ck k X) : CallR X (.builtin "max") (rB k .max2) := by
  intro pins s σ H xs us Q I rr ⟨ex, am, M, vs, z, rm, rv, hz, q⟩
  obtain ⟨ds, hd, hz⟩ := bi_data hz
  have pr := rds_of rm rv hd
  obtain ⟨d, d', rfl, hz⟩ := d2_some hz
  obtain ⟨i, rfl, hz⟩ := dInt_some hz
  obtain ⟨j, rfl, hz⟩ := dInt_some hz
  obtain ⟨x, y, rfl, hx, hy⟩ := pair2 pr
  cases hx; cases hy; cases hz
  exact call_max2 ck.calm pins s σ H _ us Q I rr ⟨_, _, rfl, q am H _ rm F.refl rfl⟩
end
end Mp
end
section
set_option maxHeartbeats 4000000
/-! What is walked, targets, comprehensions. -/
namespace Mp
open PySem PySem.Spec PyProof.Rows L2

/-- from the state am₀, M₀, H₀ on J gives the items xs, one a turn -/
structure Wk (k : Kx) (ex am₀ : List Addr) (M₀ : Mem) (H₀ : Hp) (J : It) (xs : List D) : Prop where
  go : ∀ (ex' : List Addr) (i : Nat) (am : List Addr) (M : Mem) (H : Hp), (∀ a ∈ ex', a ∈ ex ∨ H₀ a = none) → RM k.K ex' am M H → F am₀ M₀ H₀ am M H → i < xs.length → J.go i H
  stop : ∀ (ex' am : List Addr) (M : Mem) (H : Hp), (∀ a ∈ ex', a ∈ ex ∨ H₀ a = none) → RM k.K ex' am M H → F am₀ M₀ H₀ am M H → J.stop xs.length H
  yld : ∀ (ex' : List Addr) (i : Nat) (am : List Addr) (M : Mem) (H H' : Hp) (x : V), (∀ a ∈ ex', a ∈ ex ∨ H₀ a = none) → RM k.K ex' am M H → F am₀ M₀ H₀ am M H → i < xs.length → J.yld i H x H' →
    ∃ d, xs[i]? = some d ∧ R k.K H' (avS ex' am M) d x ∧ RM k.K ex' am M H' ∧ F am M H am M H'
def tI (k : Kx) (E : XK) (it : SI) : TI := fun σ H Rr => ∃ ex am env M, RM k.K ex am M H ∧ RE k.K ex am M H env σ ∧ Po k ex am M H E (it env M) (fun xs M' am' H' => ∀ J, Wk k ex am' M' H' J xs → Rr J H')
abbrev SIt (X : Cx) (k : Kx) (E : XK) (tg iter : Expr) (it : SI) : Prop := PI X tg iter (tI k E it)
theorem PI.imp {X : Cx} {tg e : Expr} {t t' : TI} (h : PI X tg e t) (i : ∀ σ H Q, t' σ H Q → t σ H Q) : PI X tg e t' := ⟨fun pins s σ H Q I q => h.run pins s σ H Q I (i σ H Q q)⟩

section
variable {X : Cx} {k : Kx} {E : XK} {e a b c tg : Expr} {es : List Expr} {pos p0 p1 p : Pos} {f g h : SF} {A : SA}

/-- a list or a tuple -/
def iSeq (K : PySem.W.Frag) (tl : TE) : TI := fun σ H R => tl σ H fun x H1 => ∃ a, x = .ref a ∧ (((∃ xs, SqL K H1 a xs) ∧ R (Itl K a) H1) ∨ ((∃ xs, SqT K H1 a xs) ∧ R (Itt K a) H1))
theorem pi_seq {l : Expr} {tl : TE} (hl : PE X l tl) : PI X tg l (iSeq X.K tl) := by
  refine ⟨fun pins s σ H R I h => ?_⟩
  refine thn (hl.run pins s σ H _ I h) fun v s1 ⟨x, H1, I1, r1, q1⟩ => ?_
  obtain ⟨a, e, q1⟩ := q1
  subst e
  cases r1
  rcases q1 with ⟨⟨xs, hq⟩, q⟩ | ⟨⟨xs, hq⟩, q⟩
  · obtain ⟨its, rv, p, hz⟩ := I1.list hq
    refine wpAny_pyIter_list p.isList ?_
    refine ⟨s1.heap.objs.size, [s1.heap.objs.size], _, _, H1, rfl, I1.kept (t' := s1.toks) fun b o e => Heap.get?_push_of_some _ e, turn_list a _, ⟨_, Heap.get?_push_size _ rfl, rfl, rfl⟩, fun b hb => ?_, q⟩
    have e : b = s1.heap.objs.size := by simpa using hb
    subst e
    exact I1.fpOk (Nat.le_refl _) (I1.hok.fresh (Nat.le_refl _))
  · obtain ⟨its, rv, p, hz⟩ := I1.tuple hq
    refine wpAny_pyIter_tuple (show s1.heap.IsTuple a its.toArray from p) ?_
    refine ⟨s1.heap.objs.size, [s1.heap.objs.size], _, _, H1, rfl, I1.kept (t' := s1.toks) fun b o e => Heap.get?_push_of_some _ e, turn_tuple a _, ⟨_, Heap.get?_push_size _ rfl, rfl, rfl⟩, fun b hb => ?_, q⟩
    have e : b = s1.heap.objs.size := by simpa using hb
    subst e
    exact I1.fpOk (Nat.le_refl _) (I1.hok.fresh (Nat.le_refl _))

theorem RM.agrx {K : Kf} {ex ex' am am' : List Addr} {M M' : Mem} {H H' : Hp} (m : RM K ex am M H) (f : F am M H am' M' H') (hx : ∀ a ∈ ex', a ∈ ex ∨ H a = none) : Agr K H (avS ex am M) H' (avS ex' am' M') := by
  have g := m.agr f
  refine ⟨g.tup, fun a vs h n => ?_⟩
  obtain ⟨h1, n1⟩ := g.lst a vs h n
  refine ⟨h1, fun l => ?_⟩
  rcases l with l | l
  · rcases hx a l with z | z
    · exact n (.inl z)
    · rw [h] at z; cases z
  · exact n1 (.inr l)
theorem Rs.step {K : Kf} {ex am am' : List Addr} {M M' : Mem} {H H' : Hp} {ds : List D} {vs : List V} (r : Rs K H (avS ex am M) ds vs) (m : RM K ex am M H) (f : F am M H am' M' H') : Rs K H' (avS ex am' M') ds vs := (m.agr f).rs _ _ r
theorem wk_list {ex am : List Addr} {M : Mem} {H : Hp} {ds : List D} {p : Addr} {vs : List V} {K : PySem.W.Frag} (rm : RM k.K ex am M H) (hp : H p = some (.lst vs)) (n : ¬ avS ex am M p) (r : Rs k.K H (avS ex am M) ds vs) : Wk k ex am M H (Itl K p) ds := by
  have hat : ∀ (am' : List Addr) (M' : Mem) (H' : Hp), F am M H am' M' H' → H' p = some (.lst vs) := fun am' M' H' f => (f.keep p _ hp fun l => n (.inr l)).1
  refine ⟨fun ex' i am' M' H' hx rm' f' hi => ?_, fun ex' am' M' H' hx rm' f' => ?_, fun ex' i am' M' H' H2 x hx rm' f' hi y => ?_⟩
  · have hl := r.length
    exact ⟨vs, vs[i]'(by omega), .inl (.inl (hat _ _ _ f')), by simp⟩
  · exact ⟨vs, .inl (.inl (hat _ _ _ f')), by have := r.length; omega⟩
  · obtain ⟨e1, e2⟩ := y
    subst e1
    have hv' := e2 vs (.inl (.inl (hat _ _ _ f')))
    obtain ⟨v, hv, rv⟩ := ((rm.agrx f' hx).rs _ _ r).get (List.getElem?_eq_getElem hi)
    rw [hv'] at hv
    cases hv
    exact ⟨ds[i], List.getElem?_eq_getElem hi, rv, rm', F.refl⟩
theorem wk_tup {ex am : List Addr} {M : Mem} {H : Hp} {ds : List D} {p : Addr} {vs : List V} (rm : RM k.K ex am M H) (hp : TupAt k.K H p vs) (r : Rs k.K H (avS ex am M) ds vs) : Wk k ex am M H (Itt k.K.K p) ds := by
  have hat : ∀ (am' : List Addr) (M' : Mem) (H' : Hp), F am M H am' M' H' → SqT k.K.K H' p vs := fun am' M' H' f => ((rm.agr f).tup p vs hp).sq
  refine ⟨fun ex' i am' M' H' hx rm' f' hi => ?_, fun ex' am' M' H' hx rm' f' => ?_, fun ex' i am' M' H' H2 x hx rm' f' hi y => ?_⟩
  · have hl := r.length
    exact ⟨vs, vs[i]'(by omega), hat _ _ _ f', by simp⟩
  · exact ⟨vs, hat _ _ _ f', by have := r.length; omega⟩
  · obtain ⟨e1, e2⟩ := y
    subst e1
    have hv' := e2 vs (hat _ _ _ f')
    obtain ⟨v, hv, rv⟩ := ((rm.agrx f' hx).rs _ _ r).get (List.getElem?_eq_getElem hi)
    rw [hv'] at hv
    cases hv
    exact ⟨ds[i], List.getElem?_eq_getElem hi, rv, rm', F.refl⟩
theorem si_ov (ck : Ck k X) (ha : SE X k E a f) : SIt X k E tg a (sOv f) :=
  PI.imp (pi_seq ha) fun σ H Rr ⟨ex, am, env, M, rm, re, p⟩ => by
    refine ⟨ex, am, env, M, rm, re, p.bind.mono fun v M1 am1 H1 rm1 f1 p1 x rx => ?_⟩
    split at p1
    · obtain ⟨q, vs, rfl, hq, n, r⟩ := rx
      exact ⟨q, rfl, .inl ⟨⟨vs, .inl (.inl hq)⟩, p1.now rm1 _ (wk_list rm1 hq n r)⟩⟩
    · obtain ⟨q, vs, rfl, hq, r⟩ := rx
      refine ⟨q, rfl, .inr ⟨⟨vs, by rw [ck.K]; exact hq.sq⟩, ?_⟩⟩
      rw [ck.K]
      exact p1.now rm1 _ (wk_tup rm1 hq r)
    · exact p1.elim
theorem rngD_get {a b : Int} {i : Nat} (h : i < (b - a).toNat) : (rngD a b)[i]? = some (.int (a + (i : Int))) := by
  unfold rngD
  rw [List.getElem?_map, List.getElem?_range h]
  rfl
theorem rngD_length (a b : Int) : (rngD a b).length = (b - a).toNat := by unfold rngD; simp
theorem wk_rng {ex am : List Addr} {M : Mem} {H : Hp} {a b : Int} : Wk k ex am M H (Itr a (b - a).toNat) (rngD a b) := by
  refine ⟨fun ex' i am' M' H' hx rm' f' hi => ?_, fun ex' am' M' H' hx rm' f' => ?_, fun ex' i am' M' H' H2 x hx rm' f' hi y => ?_⟩
  · rw [rngD_length] at hi
    exact hi
  · rw [rngD_length]
    exact Nat.le_refl _
  · rw [rngD_length] at hi
    obtain ⟨e1, e2⟩ := y
    subst e1 e2
    exact ⟨_, rngD_get hi, rfl, rm', F.refl⟩
theorem si_rg1 (bn : Bn X "range") (ha : SE X k E a f) (hs : starEach [a] X.env = [(false, eval a X.env)]) : SIt X k E tg (.Call (.Name "range" p0) [a] [] pos) (sRg1 f) :=
  PI.imp (pi_range1 bn.gl bn.mg (pa_cons ha pa_nil hs) hs) fun σ H Rr ⟨ex, am, env, M, rm, re, p⟩ => by
    refine ⟨ex, am, env, M, rm, re, p.bind.mono fun v M1 am1 H1 rm1 f1 p1 x rx => ?_⟩
    split at p1
    · rename_i n
      split at p1
      · rename_i ho
        have h2 := of_decide_eq_true ho
        refine ⟨n, by rw [show x = .int n from rx], h2.2.2.1, h2.2.2.2.1, ?_⟩
        have w := p1.now rm1 (Itr 0 (n - 0).toNat) wk_rng
        rw [Int.sub_zero] at w
        exact w
      · exact p1.elim
    · exact p1.elim
theorem si_rg2 (bn : Bn X "range") (ha : SE X k E a f) (hb : SE X k E b g) (hs : starEach [a, b] X.env = [(false, eval a X.env), (false, eval b X.env)]) (hs2 : starEach [b] X.env = [(false, eval b X.env)]) : SIt X k E tg (.Call (.Name "range" p0) [a, b] [] pos) (sRg2 f g) :=
  PI.imp (pi_range2 bn.gl bn.mg (pa_cons ha (pa_cons hb pa_nil hs2) (by rw [hs, hs2])) hs hs2) fun σ H Rr ⟨ex, am, env, M, rm, re, p⟩ => by
    refine ⟨ex, am, env, M, rm, re, p.bind.mono fun v M1 am1 H1 rm1 f1 p1 x rx => ?_⟩
    refine ⟨ex, am1, env, M1, rm1, re.step rm f1, p1.bind.mono fun w M2 am2 H2 rm2 f2 p2 y ry => ?_⟩
    split at p2
    · rename_i n1 n2
      split at p2
      · rename_i ho
        have h2 := of_decide_eq_true ho
        refine ⟨n1, n2, by rw [show x = .int n1 from rx, show y = .int n2 from ry], ⟨h2.1, h2.2.1, h2.2.2.1, h2.2.2.2.1⟩, ?_⟩
        exact p2.now rm2 _ wk_rng
      · exact p2.elim
    · exact p2.elim

/-! ### targets -/
/-- a target's names are among own: the others stay -/
def tgIn (own : List Nat) : Tg → Bool
  | .nm i => decide (i ∈ own)
  | .tup2 a b => tgIn own a && tgIn own b
  | .tup3 a b c => tgIn own a && tgIn own b && tgIn own c
theorem wipe_set1 (i : Nat) (x : Option V) : ∀ (vs : List Nat) (σ : L2.St), (wipe (σ.set i x) vs).set i none = (wipe σ vs).set i none
  | [], σ => by simp [wipe]
  | v :: vs, σ => by
    unfold wipe
    by_cases e : v = i
    · subst e
      rw [List.set_set, List.set_set, wipe_set1 v x vs σ]
    · rw [List.set_comm _ _ e, wipe_set1 i x vs σ, List.set_comm _ _ (Ne.symm e)]
theorem wipe_set {i : Nat} {x : Option V} : ∀ {vs : List Nat} {σ : L2.St}, i ∈ vs → wipe (σ.set i x) vs = wipe σ vs
  | [], _, h => by simp at h
  | v :: vs, σ, h => by
    unfold wipe
    by_cases e : i = v
    · subst e; exact wipe_set1 i x vs σ
    · rw [wipe_set ((List.mem_cons.mp h).resolve_left e)]
/-- a target takes data -/
def gT (k : Kx) (t : Tg) : TG := fun v σ H Q => ∃ ex am M env d env', RM k.K ex am M H ∧ RE k.K ex am M H env σ ∧ R k.K H (avS ex am M) d v ∧ asgT t d env = some env' ∧
  ∀ σ', RE k.K ex am M H env' σ' → (∀ own, tgIn own t = true → wipe σ' own = wipe σ own) → Q σ' H
abbrev SG (X : Cx) (k : Kx) (tg : Expr) (t : Tg) : Prop := PG X tg (gT k t)
theorem PG.imp {X : Cx} {tg : Expr} {t t' : TG} (h : PG X tg t) (i : ∀ v σ H Q, t' v σ H Q → t v σ H Q) : PG X tg t' := ⟨fun pins s σ H v u Q I r q => h.run pins s σ H v u Q I r (i v σ H Q q)⟩
theorem RE.set {K : Kf} {ex am : List Addr} {M : Mem} {H : Hp} {env : Env} {σ : L2.St} (re : RE K ex am M H env σ) {i : Nat} {v : Val} {x : V} (r : RV K H (avS ex am M) am v x) : RE K ex am M H (env.set i (some v)) (σ.set i (some x)) := by
  refine ⟨by simp [re.1], fun j w h => ?_⟩
  have h' := getE_spec h
  by_cases e : j = i
  · subst e
    have hj : j < env.length := by
      have := (List.getElem?_eq_some_iff.mp h').1
      simpa using this
    rw [List.getElem?_set_self hj] at h'
    cases h'
    exact ⟨x, by rw [List.getElem?_set_self (by rw [← re.1]; exact hj)], r⟩
  · rw [List.getElem?_set_ne (Ne.symm e)] at h'
    obtain ⟨y, hy, ry⟩ := re.2 j w (by unfold getE; rw [h'])
    exact ⟨y, by rw [List.getElem?_set_ne (Ne.symm e)]; exact hy, ry⟩
theorem sg_nm {i : Nat} {x : Str} (ck : Ck k X) (hi : X.N[i]? = some x) (hx : Loc X.env.scope x) (hf : X.fn x = true ∨ X.env.scope.names.lookup x = some .local) : SG X k (.Name x pos) (.nm i) :=
  PG.imp (pg_name ck.nd hi hx hf) fun v σ H Q ⟨ex, am, M, env, d, env', rm, re, r, ha, q⟩ => by
    cases ha
    exact q _ (re.set (v := .d d) r) fun own h => wipe_set (of_decide_eq_true h)
theorem sg_tup2 {t u : Expr} {s1 s2 : Tg} {kk : Nat} (ck : Ck k X) (h1 : SG X k t s1) (h2 : SG X k u s2) (hn : (assignEach [t, u] X.env).length = 2) (hst : (assignEach [t, u] X.env).findIdx? (·.1) = none)
    (ha : (assignEach [t, u] X.env).map (·.2) = assign t X.env :: (assignEach [u] X.env).map (·.2)) (ha2 : (assignEach [u] X.env).map (·.2) = assign u X.env :: (assignEach [] X.env).map (·.2)) : SG X k (.Tuple [t, u] kk pos) (.tup2 s1 s2) :=
  PG.imp (pg_tup ck.calm (pgs_cons h1 (pgs_cons h2 pgs_nil ha2) ha) hn hst) fun v σ H Q ⟨ex, am, M, env, d, env', rm, re, r, hz, q⟩ => by
    cases d with
    | tuple ds =>
      match ds, hz, r with
      | [y, z], hz, r =>
        change (asgT s1 y env).bind (asgT s2 z) = some env' at hz
        obtain ⟨p, vs, rfl, hp, r1⟩ := r
        obtain ⟨v1, t1, rfl, ry, r2⟩ := r1
        obtain ⟨v2, t2, rfl, rz, r3⟩ := r2
        cases r3
        cases hq : asgT s1 y env with
        | none => rw [hq] at hz; cases hz
        | some env1 =>
          rw [hq] at hz
          exact ⟨p, [v1, v2], rfl, by rw [ck.K]; exact hp.sq, rfl, v1, [v2], rfl, ⟨ex, am, M, env, y, env1, rm, re, ry, hq, fun σ1 re1 w1 => ⟨v2, [], rfl, ⟨ex, am, M, env1, z, env', rm, re1, rz, hz, fun σ2 re2 w2 => ⟨rfl, q σ2 re2 fun own h => by
            have h' : tgIn own s1 = true ∧ tgIn own s2 = true := by simpa [tgIn] using h
            rw [w2 own h'.2, w1 own h'.1]⟩⟩⟩⟩⟩
      | [], hz, _ => cases hz
      | [_], hz, _ => cases hz
      | _ :: _ :: _ :: _, hz, _ => cases hz
    | _ => cases hz
theorem sg_tup3 {t u w : Expr} {s1 s2 s3 : Tg} {kk : Nat} (ck : Ck k X) (h1 : SG X k t s1) (h2 : SG X k u s2) (h3 : SG X k w s3) (hn : (assignEach [t, u, w] X.env).length = 3) (hst : (assignEach [t, u, w] X.env).findIdx? (·.1) = none)
    (ha : (assignEach [t, u, w] X.env).map (·.2) = assign t X.env :: (assignEach [u, w] X.env).map (·.2)) (ha2 : (assignEach [u, w] X.env).map (·.2) = assign u X.env :: (assignEach [w] X.env).map (·.2))
    (ha3 : (assignEach [w] X.env).map (·.2) = assign w X.env :: (assignEach [] X.env).map (·.2)) : SG X k (.Tuple [t, u, w] kk pos) (.tup3 s1 s2 s3) :=
  PG.imp (pg_tup ck.calm (pgs_cons h1 (pgs_cons h2 (pgs_cons h3 pgs_nil ha3) ha2) ha) hn hst) fun v σ H Q ⟨ex, am, M, env, d, env', rm, re, r, hz, q⟩ => by
    cases d with
    | tuple ds =>
      match ds, hz, r with
      | [y, z, o], hz, r =>
        change ((asgT s1 y env).bind (asgT s2 z)).bind (asgT s3 o) = some env' at hz
        obtain ⟨p, vs, rfl, hp, r1⟩ := r
        obtain ⟨v1, t1, rfl, ry, r2⟩ := r1
        obtain ⟨v2, t2, rfl, rz, r3⟩ := r2
        obtain ⟨v3, t3, rfl, ro, r4⟩ := r3
        cases r4
        cases hq : asgT s1 y env with
        | none => rw [hq] at hz; cases hz
        | some env1 =>
          rw [hq] at hz
          change (asgT s2 z env1).bind (asgT s3 o) = some env' at hz
          cases hq2 : asgT s2 z env1 with
          | none => rw [hq2] at hz; cases hz
          | some env2 =>
            rw [hq2] at hz
            exact ⟨p, [v1, v2, v3], rfl, by rw [ck.K]; exact hp.sq, rfl, v1, [v2, v3], rfl, ⟨ex, am, M, env, y, env1, rm, re, ry, hq, fun σ1 re1 w1 => ⟨v2, [v3], rfl, ⟨ex, am, M, env1, z, env2, rm, re1, rz, hq2, fun σ2 re2 w2 => ⟨v3, [], rfl, ⟨ex, am, M, env2, o, env', rm, re2, ro, hz, fun σ3 re3 w3 => ⟨rfl, q σ3 re3 fun own h => by
              have h' : (tgIn own s1 = true ∧ tgIn own s2 = true) ∧ tgIn own s3 = true := by simpa [tgIn] using h
              rw [w3 own h'.2, w2 own h'.1.2, w1 own h'.1.1]⟩⟩⟩⟩⟩⟩⟩
      | [], hz, _ => cases hz
      | [_], hz, _ => cases hz
      | [_, _], hz, _ => cases hz
      | _ :: _ :: _ :: _ :: _, hz, _ => cases hz
    | _ => cases hz

/-! ### comprehensions -/
def era (H : Hp) (p : Addr) : Hp := fun b => if b = p then none else H b
theorem era_ne {H : Hp} {p b : Addr} (h : b ≠ p) : era H p b = H b := by unfold era; rw [if_neg h]
theorem era_upd {H : Hp} {p : Addr} {o : HO} (h : H p = some o) : upd (era H p) p o = H := by
  funext b
  by_cases e : b = p
  · subst e; rw [upd_same, h]
  · rw [upd_ne e, era_ne e]
theorem era_same {H : Hp} {p : Addr} : era H p p = none := by unfold era; rw [if_pos rfl]

/-- a new list of ours that evaluation does not know -/
theorem RM.newx {K : Kf} {ex am : List Addr} {M : Mem} {H : Hp} {p : Addr} {o : HO} (m : RM K ex am M H) (hp : H p = none) : RM K (p :: ex) am M (upd H p o) := by
  have g := m.agrx (ex' := p :: ex) (F.new (am := am) (M := M) (o := o) hp) fun a h => (List.mem_cons.mp h).elim (fun z => .inr (by rw [z]; exact hp)) .inl
  refine ⟨m.len, fun i ob a h1 h2 => g.ro (fun _ _ h => h) (fun u h => ?_) (m.obj i ob a h1 h2), m.inj, fun a h l => ?_, fun a h => ?_⟩
  · rw [upd_ne (ne_of_none h hp)]; exact h
  · rcases List.mem_cons.mp h with z | z
    · obtain ⟨⟨u, h1⟩, _⟩ := m.liveH l
      rw [z, hp] at h1; cases h1
    · exact m.exL a z l
  · rcases List.mem_cons.mp h with z | z
    · exact ⟨o, by rw [z]; exact upd_same⟩
    · obtain ⟨u, h1⟩ := m.exH a z
      exact ⟨u, by rw [upd_ne (ne_of_none h1 hp)]; exact h1⟩
theorem agr_exupd {K : Kf} {ex am : List Addr} {M : Mem} {H : Hp} {p : Addr} {vs ws : List V} (hp : H p = some (.lst vs)) : Agr K H (avS (p :: ex) am M) (upd H p (.lst ws)) (avS (p :: ex) am M) := by
  refine ⟨fun a us h => ?_, fun a us h n => ?_⟩
  · have ne : ∀ {o : HO}, H a = some o → o ≠ .lst vs → a ≠ p := fun h1 h2 e => by subst e; rw [hp] at h1; exact h2 (Option.some.inj h1).symm
    rcases h with ⟨its, h⟩ | h
    · exact .inl ⟨its, by rw [upd_ne (ne h (by intro q; cases q))]; exact h⟩
    · exact .inr h
  · refine ⟨by rw [upd_ne (fun e => n (.inl (by rw [e]; exact List.mem_cons_self)))]; exact h, n⟩
theorem RM.exupd {K : Kf} {ex am : List Addr} {M : Mem} {H : Hp} {p : Addr} {vs ws : List V} (m : RM K (p :: ex) am M H) (hp : H p = some (.lst vs)) : RM K (p :: ex) am M (upd H p (.lst ws)) := by
  have g := agr_exupd (K := K) (ex := ex) (am := am) (M := M) (ws := ws) hp
  refine ⟨m.len, fun i ob a h1 h2 => ?_, m.inj, m.exL, fun a h => ?_⟩
  · by_cases dd : isDead ob = true
    · exact RO.deadU dd g (fun o vs' q => by rw [hp] at q; simp at q) (fun b hb => upd_ne hb) (m.obj i ob a h1 h2)
    · refine g.ro (fun _ _ h => h) (fun u h => ?_) (m.obj i ob a h1 h2)
      have : a ≠ p := fun e => m.exL p List.mem_cons_self ⟨i, ob, by rw [← e]; exact h2, h1, by simpa using dd⟩
      rw [upd_ne this]; exact h
  · by_cases e : a = p
    · exact ⟨_, by rw [e]; exact upd_same⟩
    · obtain ⟨u, h1⟩ := m.exH a h
      exact ⟨u, by rw [upd_ne e]; exact h1⟩
theorem agr_era {K : Kf} {ex am : List Addr} {M : Mem} {H : Hp} {p : Addr} {vs : List V} (hp : H p = some (.lst vs)) : Agr K H (avS (p :: ex) am M) (era H p) (avS ex am M) := by
  refine ⟨fun a us h => ?_, fun a us h n => ?_⟩
  · have ne : ∀ {o : HO}, H a = some o → o ≠ .lst vs → a ≠ p := fun h1 h2 e => by subst e; rw [hp] at h1; exact h2 (Option.some.inj h1).symm
    rcases h with ⟨its, h⟩ | h
    · exact .inl ⟨its, by rw [era_ne (ne h (by intro q; cases q))]; exact h⟩
    · exact .inr h
  · refine ⟨by rw [era_ne (fun e => n (.inl (by rw [e]; exact List.mem_cons_self)))]; exact h, fun l => n ?_⟩
    rcases l with l | l
    · exact .inl (List.mem_cons_of_mem _ l)
    · exact .inr l
theorem RM.era {K : Kf} {ex am : List Addr} {M : Mem} {H : Hp} {p : Addr} {vs : List V} (m : RM K (p :: ex) am M H) (hp : H p = some (.lst vs)) (hn : p ∉ ex) : RM K ex am M (Mp.era H p) := by
  have g := agr_era (K := K) (ex := ex) (am := am) (M := M) hp
  refine ⟨m.len, fun i ob a h1 h2 => ?_, m.inj, fun a h => m.exL a (List.mem_cons_of_mem _ h), fun a h => ?_⟩
  · by_cases dd : isDead ob = true
    · exact RO.deadU dd g (fun o vs' q => by rw [hp] at q; simp at q) (fun b hb => era_ne hb) (m.obj i ob a h1 h2)
    · refine g.ro (fun _ _ h => h) (fun u h => ?_) (m.obj i ob a h1 h2)
      have : a ≠ p := fun e => m.exL p List.mem_cons_self ⟨i, ob, by rw [← e]; exact h2, h1, by simpa using dd⟩
      rw [era_ne this]; exact h
  · obtain ⟨u, h1⟩ := m.exH a (List.mem_cons_of_mem _ h)
    exact ⟨u, by rw [era_ne (fun e => hn (by rw [← e]; exact h))]; exact h1⟩

theorem wipe_RE {K : Kf} {ex am : List Addr} {M : Mem} {H : Hp} {env : Env} {σ : L2.St} (re : RE K ex am M H env σ) : ∀ own : List Nat, RE K ex am M H (wipeE env own) (wipe σ own)
  | [] => re
  | v :: vs => by
    have ih := wipe_RE re vs
    refine ⟨by simp [wipeE, wipe, ih.1], fun j w h => ?_⟩
    have h' := getE_spec h
    unfold wipeE at h'
    unfold wipe
    by_cases e : j = v
    · subst e
      have hj : j < (wipeE env vs).length := by
        have := (List.getElem?_eq_some_iff.mp h').1
        simpa using this
      rw [List.getElem?_set_self hj] at h'
      cases h'
    · rw [List.getElem?_set_ne (Ne.symm e)] at h'
      obtain ⟨y, hy, ry⟩ := ih.2 j w (by unfold getE; rw [h'])
      exact ⟨y, by rw [List.getElem?_set_ne (Ne.symm e)]; exact hy, ry⟩
theorem wipe_wipe (σ : L2.St) (vs : List Nat) : wipe (wipe σ vs) vs = wipe σ vs := by
  have key : ∀ (us : List Nat) (i : Nat), i ∈ us → (wipe σ us).set i none = wipe σ us := by
    intro us
    induction us with
    | nil => intro i h; simp at h
    | cons v us ih =>
      intro i h
      unfold wipe
      by_cases e : i = v
      · subst e; rw [List.set_set]
      · rw [List.set_comm _ _ (Ne.symm e), ih i ((List.mem_cons.mp h).resolve_left e)]
  have gen : ∀ us : List Nat, (∀ i ∈ us, i ∈ vs) → wipe (wipe σ vs) us = wipe σ vs := by
    intro us
    induction us with
    | nil => intro _; rfl
    | cons v us ih =>
      intro h
      show (wipe (wipe σ vs) us).set v none = wipe σ vs
      rw [ih fun i hi => h i (List.mem_cons_of_mem _ hi), key vs v (h v List.mem_cons_self)]
  exact gen vs fun i h => h
/-- the turns of a comprehension, taken apart -/
theorem lcL_step {tg : Tg} {own : List Nat} {c : Option SF} {f : SF} {σ : Env} {x : D} {xs : List D} {M : Mem} {ys : List D} {M' : Mem} (h : lcL tg own c f σ (x :: xs) M = .ok ys M') :
    ∃ σ1, asgT tg x (wipeE σ own) = some σ1 ∧ ∃ b M2, (sTst c σ1 M = .ok b M2) ∧
      ((b = true ∧ ∃ y M3 ys', f σ1 M2 = .ok (.d y) M3 ∧ lcL tg own c f σ xs M3 = .ok ys' M' ∧ ys = y :: ys') ∨ (b = false ∧ lcL tg own c f σ xs M2 = .ok ys M')) := by
  unfold lcL at h
  cases q : asgT tg x (wipeE σ own) with
  | none => rw [q] at h; cases h
  | some σ1 =>
    rw [q] at h
    refine ⟨σ1, rfl, ?_⟩
    dsimp only at h
    cases qc : sTst c σ1 M with
    | no => rw [qc] at h; cases h
    | ex e M1 => rw [qc] at h; cases h
    | ok b M2 =>
      rw [qc, bind_ok] at h
      refine ⟨b, M2, rfl, ?_⟩
      cases b with
      | false => rw [if_neg Bool.false_ne_true] at h; exact .inr ⟨rfl, h⟩
      | true =>
        rw [if_pos rfl] at h
        cases qf : f σ1 M2 with
        | no => rw [qf] at h; cases h
        | ex e M1 => rw [qf] at h; cases h
        | ok v M3 =>
          rw [qf, bind_ok] at h
          cases v with
          | ref i => cases h
          | d y =>
            dsimp only at h
            cases qr : lcL tg own c f σ xs M3 with
            | no => rw [qr] at h; cases h
            | ex e M1 => rw [qr] at h; cases h
            | ok ys' M4 =>
              rw [qr, bind_ok] at h
              cases h
              exact .inl ⟨rfl, y, M3, ys', rfl, qr, rfl⟩

/-- no error leaves a comprehension's block -/
abbrev E00 : XK := fun _ _ _ => False
/-- the tests of a comprehension -/
def tIfs (k : Kx) : Option SF → TT
  | none => tYes
  | some c => tT k E00 c
theorem tr_lc {own : List Nat} {it : SI} {t : Tg} {c : Option SF} (ht : tgIn own t = true) {σ : L2.St} {H : Hp} {Q : VK} (hw : tF k E (sLc t own it c f) σ H Q) :
    tLc (tI k E it) (gT k t) (tIfs k c) (tE k E00 f) own σ H Q := by
    obtain ⟨ex, am, env, M, rm, re, p⟩ := hw
    refine ⟨ex, am, env, M, rm, re, p.bind.mono fun xs M1 am1 H1 rm1 f1 p1 J wk D hD => ?_⟩
    cases hl : lcL t own c f env xs M1 with
    | no => rw [hl] at p1; exact p1.elim
    | ex e1 M2 => rw [hl] at p1; exact p1.elim
    | ok zs Mz =>
      rw [hl] at p1
      dsimp only at p1
      split at p1
      case isFalse => exact p1.elim
      rename_i hlen
      have hnex : D ∉ ex := fun h => by
        obtain ⟨o, ho⟩ := rm1.exH D h
        rw [hD] at ho; cases ho
      have hx : ∀ a ∈ D :: ex, a ∈ ex ∨ H1 a = none := fun a h => (List.mem_cons.mp h).elim (fun z => .inr (by rw [z]; exact hD)) .inl
      have re1 := re.step rm f1
      -- Pv
      refine ⟨fun i m H => m = xs.length - i ∧ i ≤ xs.length ∧ ∃ am' M' acc vs ys, RM k.K (D :: ex) am' M' H ∧ F am1 M1 H1 am' M' H ∧ H D = some (.lst vs) ∧ Rs k.K H (avS (D :: ex) am' M') acc vs ∧ RE k.K (D :: ex) am' M' H env σ ∧
        lcL t own c f env (xs.drop i) M' = .ok ys Mz ∧ acc ++ ys = zs, ⟨xs.length, by simp, Nat.zero_le _, am1, M1, [], [], zs, rm1.newx hD, F.new hD, upd_same, rfl, ?_, hl, rfl⟩, ?_⟩
      · exact ⟨re1.1, fun i v h => by obtain ⟨x, h1, h2⟩ := re1.2 i v h; exact ⟨x, h1, (rm1.agrx (F.new hD) hx).rv (fun _ _ h => h) _ _ h2⟩⟩
      · rintro i m H2 ⟨rfl, hi2, am', M', acc, vs, ys, rm2, f2, hH, ra, re2, hly, hacc⟩
        by_cases hlt : i < xs.length
        · refine .inr ⟨wk.go (D :: ex) i am' M' H2 hx rm2 f2 hlt, fun H3 => ∃ m', m' < xs.length - i ∧ (m' = xs.length - (i + 1) ∧ i + 1 ≤ xs.length ∧ ∃ am' M' acc vs ys, RM k.K (D :: ex) am' M' H3 ∧ F am1 M1 H1 am' M' H3 ∧ H3 D = some (.lst vs) ∧ Rs k.K H3 (avS (D :: ex) am' M') acc vs ∧ RE k.K (D :: ex) am' M' H3 env σ ∧
            lcL t own c f env (xs.drop (i + 1)) M' = .ok ys Mz ∧ acc ++ ys = zs), fun H3 h => h, fun x H3 hy => ?_⟩
          obtain ⟨d, hd, rd, rm3, f3⟩ := wk.yld (D :: ex) i am' M' H2 H3 x hx rm2 f2 hlt hy
          have ed : xs.drop i = d :: xs.drop (i + 1) := by
            rw [List.drop_eq_getElem_cons hlt]
            rw [List.getElem?_eq_getElem hlt] at hd
            cases hd
            rfl
          rw [ed] at hly
          obtain ⟨env1, ha1, b, M2, hb, hrest⟩ := lcL_step hly
          have re3 := re2.step rm2 f3
          refine ⟨D :: ex, am', M', wipeE env own, d, env1, rm3, wipe_RE re3 _, rd, ha1, fun σ2 re4 w2 => ?_⟩
          have ww : wipe σ2 own = wipe σ own := by
            rw [w2 _ ht]
            exact wipe_wipe σ _
          refine ⟨ww, ?_⟩
          have liveD : ∀ {am M H}, RM k.K (D :: ex) am M H → ¬ live am M D := fun rm => rm.exL D List.mem_cons_self
          -- behind the test
          have go : ∀ (am4 : List Addr) (H4 : Hp), RM k.K (D :: ex) am4 M2 H4 → F am' M' H3 am4 M2 H4 → (if b = true then tE k E00 f σ2 H4 fun y H5 => ∃ acc : List V, H5 D = some (.lst acc) ∧ acc.length < sizeLine ∧ ∃ m', m' < xs.length - i ∧ (m' = xs.length - (i + 1) ∧ i + 1 ≤ xs.length ∧ ∃ am' M' acc' vs ys, RM k.K (D :: ex) am' M' (upd H5 D (.lst (acc ++ [y]))) ∧ F am1 M1 H1 am' M' (upd H5 D (.lst (acc ++ [y]))) ∧ (upd H5 D (.lst (acc ++ [y]))) D = some (.lst vs) ∧ Rs k.K (upd H5 D (.lst (acc ++ [y]))) (avS (D :: ex) am' M') acc' vs ∧ RE k.K (D :: ex) am' M' (upd H5 D (.lst (acc ++ [y]))) env σ ∧
            lcL t own c f env (xs.drop (i + 1)) M' = .ok ys Mz ∧ acc' ++ ys = zs) else ∃ m', m' < xs.length - i ∧ (m' = xs.length - (i + 1) ∧ i + 1 ≤ xs.length ∧ ∃ am' M' acc vs ys, RM k.K (D :: ex) am' M' H4 ∧ F am1 M1 H1 am' M' H4 ∧ H4 D = some (.lst vs) ∧ Rs k.K H4 (avS (D :: ex) am' M') acc vs ∧ RE k.K (D :: ex) am' M' H4 env σ ∧
            lcL t own c f env (xs.drop (i + 1)) M' = .ok ys Mz ∧ acc ++ ys = zs)) := by
            intro am4 H4 rm4 f4
            have hH3 := f3.keep D _ hH (liveD rm2)
            have hH4 := f4.keep D _ hH3.1 hH3.2
            have re5 := re3.step rm3 f4
            have ra4 := (ra.step rm2 f3).step rm3 f4
            rcases hrest with ⟨hbt, y, M3, ys', hf, hl2, hys⟩ | ⟨hbf, hl2⟩
            · subst hbt
              rw [if_pos rfl]
              refine ⟨D :: ex, am4, env1, M2, rm4, (re4.step rm3 f4), ?_⟩
              rw [hf]
              intro am5 H5 rm5 f5 x5 rx5
              have hH5 := f5.keep D _ hH4.1 hH4.2
              have ra5 := ra4.step rm4 f5
              have g := agr_exupd (K := k.K) (ex := ex) (am := am5) (M := M3) (ws := vs ++ [x5]) hH5.1
              refine ⟨vs, hH5.1, ?_, xs.length - (i + 1), by omega, rfl, hlt, am5, M3, acc ++ [y], vs ++ [x5], ys', rm5.exupd hH5.1, ?_, upd_same, g.rs _ _ (ra5.append ⟨x5, [], rfl, rx5, rfl⟩), ?_, hl2, by rw [← hacc, hys]; simp⟩
              · have e1 : acc.length + ys.length = zs.length := by rw [← hacc, List.length_append]
                have e2 : ys.length = ys'.length + 1 := by rw [hys]; rfl
                have := ra5.length
                have := lim_size hlen
                omega
              · have ff := ((f2.trans f3).trans f4).trans f5
                refine ⟨fun a o h n => ?_, ff.ext⟩
                obtain ⟨h1, h2⟩ := ff.keep a o h n
                exact ⟨by rw [upd_ne (ne_of_none h hD)]; exact h1, h2⟩
              · have re6 := re5.step rm4 f5
                exact ⟨re6.1, fun i v h => by obtain ⟨x, h1, h2⟩ := re6.2 i v h; exact ⟨x, h1, g.rv (fun _ _ h => h) _ _ h2⟩⟩
            · subst hbf
              rw [if_neg Bool.false_ne_true]
              exact ⟨xs.length - (i + 1), by omega, rfl, hlt, am4, M2, acc, vs, ys, rm4, (f2.trans f3).trans f4, hH4.1, ra4, re5, hl2, hacc⟩
          cases c with
          | none =>
            cases hb
            exact go am' H3 rm3 F.refl
          | some c0 =>
            refine ⟨D :: ex, am', env1, M', rm3, re4, ?_⟩
            change Po k (D :: ex) am' M' H3 E00 (sTst (some c0) env1 M') _
            rw [hb]
            exact fun am4 H4 rm4 f4 => go am4 H4 rm4 f4
        · have ei : i = xs.length := by omega
          subst ei
          rw [List.drop_length] at hly
          have hly' : Res.ok [] M' = Res.ok ys Mz := hly
          cases hly'
          rw [List.append_nil] at hacc
          subst hacc
          refine .inl ⟨wk.stop (D :: ex) am' Mz H2 hx rm2 f2, ?_⟩
          have q := p1 am' (era H2 D) (rm2.era hH hnex) ?_ acc D vs rfl era_same ((agr_era hH).rs _ _ ra)
          · rw [era_upd hH] at q
            exact q
          · refine ⟨fun a o h n => ?_, f2.ext⟩
            obtain ⟨h1, h2⟩ := f2.keep a o h n
            exact ⟨by rw [era_ne (ne_of_none h hD)]; exact h1, h2⟩
theorem se_lcf {elt iter : Expr} {ifs : List Expr} {scope : Scope} {own : List (Str × Nat)} {it : SI} {t : Tg} {c : Option SF} (ck : Ck k X) (hi : SIt X k E tg iter it) (ok : BlkOk X.N X.env.scope scope own) (ht : tgIn (own.map (·.2)) t = true)
    (hg : ∀ (s : Shared) (H : Hp) (C : Addr) (cl : List (Str × Addr)) (fp : List Addr), PG (X.blk s H scope (compEnvC scope cl C X.env) fp) tg (gT k t))
    (hc : ∀ (s : Shared) (H : Hp) (C : Addr) (cl : List (Str × Addr)) (fp : List Addr), PTs (X.blk s H scope (compEnvC scope cl C X.env) fp) ifs (tIfs k c))
    (he : ∀ (s : Shared) (H : Hp) (C : Addr) (cl : List (Str × Addr)) (fp : List Addr), PE (X.blk s H scope (compEnvC scope cl C X.env) fp) elt (tE k E00 f)) (hs : ∀ x, foldedSetIterable iter X.env x = pure x) :
    SFr X k E (.ListComp elt [⟨tg, iter, ifs, 0⟩] scope pos) (sLc t (own.map (·.2)) it c f) :=
  PE.imp (pe_lc ck.calm ck.nd hi ok hg hc he hs) fun σ H Q h => tr_lc ht h
end
end Mp
end
section
set_option maxHeartbeats 4000000
/-! Readings of statements. -/
namespace Mp
open PySem PySem.Spec PyProof.Rows L2

/-- what follows a statement -/
def okF (k : Kx) (ex : List Addr) (D : Ends) : Fl → Mem → List Addr → Hp → Prop
  | .nx env, M, am, H => ∀ σ, RE k.K ex am M H env σ → D.nx σ H
  | .bk env, M, am, H => ∀ σ, RE k.K ex am M H env σ → D.bk σ H
  | .ct env, M, am, H => ∀ σ, RE k.K ex am M H env σ → D.ct σ H
  | .rt v, M, am, H => ∀ x, RV k.K H (avS ex am M) am v x → D.rt x H
def tS (k : Kx) (E : XK) (f : SS) : TS := fun D σ H => ∃ ex am env M, RM k.K ex am M H ∧ RE k.K ex am M H env σ ∧ Po k ex am M H E (f env M) (okF k ex D)
abbrev SSt (X : Cx) (k : Kx) (E : XK) (st : Stmt) (f : SS) : Prop := PS X st (tS k E f)
abbrev SSs (X : Cx) (k : Kx) (E : XK) (sts : List Stmt) (f : SS) : Prop := PSs X sts (tS k E f)
theorem PS.imp {X : Cx} {st : Stmt} {t t' : TS} (h : PS X st t) (i : ∀ D σ H, t' D σ H → t D σ H) : PS X st t' := ⟨fun pins s σ H D I q => h.run pins s σ H D I (i D σ H q)⟩
theorem PSs.imp {X : Cx} {st : List Stmt} {t t' : TS} (h : PSs X st t) (i : ∀ D σ H, t' D σ H → t D σ H) : PSs X st t' := ⟨fun pins s σ H D I q => h.run pins s σ H D I (i D σ H q)⟩

section
variable {X : Cx} {k : Kx} {E : XK} {e a b c tg : Expr} {es : List Expr} {pos p0 p1 p : Pos} {f g h : SF} {A : SA} {u v : SS}

/-! ### names stored -/
theorem tS_set {i : Nat} {D : Ends} {σ : L2.St} {H : Hp} (hw : tS k E (sSet i f) D σ H) : tE k E f σ H (fun x H1 => gName i x σ H1 D.nx) := by
  obtain ⟨ex, am, env, M, rm, re, p⟩ := hw
  refine ⟨ex, am, env, M, rm, re, p.bind.mono fun v M1 am1 H1 rm1 f1 p1 x rx => ?_⟩
  exact p1.now rm1 _ ((re.step rm f1).set rx)
def notComp : Expr → Bool
  | .ListComp .. => false
  | .SetComp .. => false
  | .DictComp .. => false
  | _ => true
theorem swaps_false {t : Option Expr} {l : Nat} {env : PySem.Env} (h : notComp e = true) : swapsWith e t l env = pure false := by
  cases e <;> first | rfl | cases h
theorem ss_set {i : Nat} {x : Str} (ck : Ck k X) (hi : X.N[i]? = some x) (hx : Loc X.env.scope x) (hf : X.fn x = true ∨ X.env.scope.names.lookup x = some .local) (he : SE X k E e f) (hs : swapsWith e (some (.Name x p1)) pos.line X.env = pure false) : SSt X k E (.Assign [.Name x p1] e pos) (sSet i f) :=
  PS.imp (ps_set ck.nd hi hx he hs hf) fun D σ H hw => tS_set hw
theorem tF_new {σ : L2.St} {H : Hp} {Q : VK} (hw : tE k E (sNew f) σ H Q) : tF k E f σ H Q := by
  obtain ⟨ex, am, env, M, rm, re, p⟩ := hw
  refine ⟨ex, am, env, M, rm, re, p.bind.mono fun v M1 am1 H1 rm1 f1 p1 xs q vs hv hq rs => ?_⟩
  subst hv
  have al := rm1.alloc (o := .lst vs) (ob := .lst xs) hq rfl fun H' av' am' g _ hs => ⟨vs, hs, g.rs _ _ rs⟩
  refine p1 _ _ al.1 al.2 _ ⟨q, ?_, rfl⟩
  rw [← rm1.len]
  simp
theorem tF_val {σ : L2.St} {H : Hp} {Q : VK} (hl : ∀ env M v M', f env M = .ok v M' → ∃ xs, v = .d (.list xs)) (hw : tE k E f σ H Q) : tF k E f σ H Q := by
  obtain ⟨ex, am, env, M, rm, re, p⟩ := hw
  refine ⟨ex, am, env, M, rm, re, ?_⟩
  cases q : f env M with
  | ok v M1 =>
    rw [q] at p
    intro am1 H1 rm1 f1 xs p0 vs hv hp0 rs
    have g := rm1.agr (F.new (o := .lst vs) (am := am1) (M := M1) hp0)
    refine p am1 _ (rm1.new (.lst vs) hp0) (f1.trans (F.new hp0)) _ ?_
    subst hv
    refine ⟨p0, vs, rfl, upd_same, fun l => ?_, g.rs _ _ rs⟩
    obtain ⟨o, ho⟩ := rm1.avH l
    rw [hp0] at ho; cases ho
  | ex e1 M1 => rw [q] at p; exact p
  | no => rw [q] at p; exact p
theorem lc_list_val {t : Tg} {own : List Nat} {it : SI} {c : Option SF} : ∀ env M v M', sLc t own it c f env M = .ok v M' → ∃ xs, v = .d (.list xs) := by
  intro env M v M' h
  unfold sLc at h
  cases q : it env M with
  | no => rw [q] at h; cases h
  | ex e1 M1 => rw [q] at h; cases h
  | ok xs M1 =>
    rw [q, bind_ok] at h
    cases q2 : lcL t own c f env xs M1 with
    | no => rw [q2] at h; cases h
    | ex e1 M2 => rw [q2] at h; cases h
    | ok ys M2 =>
      rw [q2] at h
      dsimp only at h
      split at h
      · cases h; exact ⟨_, rfl⟩
      · cases h
/-- name = [..] where the list is made in the frame's own block -/
theorem ss_setLc {elt iter : Expr} {ifs : List Expr} {scope : Scope} {own : List (Str × Nat)} {it : SI} {t : Tg} {c : Option SF} {i : Nat} {y : Str} {spos : Pos} (ck : Ck k X) (hy : X.N[i]? = some y) (hyl : X.env.scope.names.lookup y = some .local)
    (hsw : swapsWith (.ListComp elt [⟨tg, iter, ifs, 0⟩] scope pos) (some (.Name y p1)) spos.line X.env = pure true) (hi : SIt X k E tg iter it) (ok : BlkOk X.N X.env.scope scope own) (ht : tgIn (own.map (·.2)) t = true)
    (hg : ∀ (s : Shared) (H : Hp) (C : Addr) (cl : List (Str × Addr)) (fp : List Addr), PG (X.blk s H scope (compEnvC scope cl C X.env) fp) tg (gT k t))
    (hc : ∀ (s : Shared) (H : Hp) (C : Addr) (cl : List (Str × Addr)) (fp : List Addr), PTs (X.blk s H scope (compEnvC scope cl C X.env) fp) ifs (tIfs k c))
    (he : ∀ (s : Shared) (H : Hp) (C : Addr) (cl : List (Str × Addr)) (fp : List Addr), PE (X.blk s H scope (compEnvC scope cl C X.env) fp) elt (tE k E00 f)) (hs : ∀ x, foldedSetIterable iter X.env x = pure x) (nw : Bool) :
    SSt X k E (.Assign [.Name y p1] (.ListComp elt [⟨tg, iter, ifs, 0⟩] scope pos) spos) (sSet i (if nw then sNew (sLc t (own.map (·.2)) it c f) else sLc t (own.map (·.2)) it c f)) :=
  PS.imp (ps_setLc ck.calm ck.nd hy hyl hsw hi ok hg hc he hs) fun D σ H hw => by
    have h1 := tS_set hw
    cases nw with
    | true => exact tr_lc ht (tF_new h1)
    | false => exact tr_lc ht (tF_val lc_list_val h1)

/-! ### targets -/
theorem tS_asg {t : Tg} {D : Ends} {σ : L2.St} {H : Hp} (hw : tS k E (sAsg t f) D σ H) : tE k E f σ H (fun x H1 => gT k t x σ H1 D.nx) := by
  obtain ⟨ex, am, env, M, rm, re, p⟩ := hw
  refine ⟨ex, am, env, M, rm, re, p.bind.mono fun v M1 am1 H1 rm1 f1 p1 x rx => ?_⟩
  cases v with
  | ref _ => exact p1.elim
  | d d =>
    obtain ⟨env1, h1, p2⟩ := p1.ofO
    exact ⟨ex, am1, M1, env, d, env1, rm1, re.step rm f1, rx, h1, fun σ' re' _ => p2.now rm1 σ' re'⟩
theorem ss_asg {t : Tg} (he : SE X k E e f) (hg : SG X k tg t) (hs : swapsWithSole [tg] e pos.line X.env = pure false) (hw : swappedStores [tg] e X.env = pure none) (h1 : (assignEach [tg] X.env).map (·.2) = [assign tg X.env]) : SSt X k E (.Assign [tg] e pos) (sAsg t f) :=
  PS.imp (ps_asg he hg hs hw h1) fun D σ H hw => tS_asg hw
/-- a, b = x, y -/
theorem ss_par2 {i j : Nat} {x y : Str} {kt k2 : Nat} {px py pt pt2 : Pos} (ck : Ck k X) (hi : X.N[i]? = some x) (hj : X.N[j]? = some y) (hij : i ≠ j) (hx : X.env.scope.names.lookup x = some .local) (hy : X.env.scope.names.lookup y = some .local)
    (ha : SE X k E a f) (hb : SE X k E b g) (hsa : starEach [a, b] X.env = (false, eval a X.env) :: starEach [b] X.env) (hsb : starEach [b] X.env = (false, eval b X.env) :: starEach [] X.env)
    (hw : swappedStores [.Tuple [.Name x px, .Name y py] kt pt] (.Tuple [a, b] k2 pt2) X.env = pure (some [x, y])) (hs : swapsWithSole [.Tuple [.Name x px, .Name y py] kt pt] (.Tuple [a, b] k2 pt2) pos.line X.env = pure false) :
    SSt X k E (.Assign [.Tuple [.Name x px, .Name y py] kt pt] (.Tuple [a, b] k2 pt2) pos) (sPar2 i j f g) :=
  PS.imp (ps_par ck.calm ck.nd hi hj hij hx hy (pa_cons ha (pa_cons hb pa_nil hsb) hsa) hw hs) fun D σ H hw => by
    obtain ⟨ex, am, env, M, rm, re, p⟩ := hw
    refine ⟨ex, am, env, M, rm, re, p.bind.mono fun v M1 am1 H1 rm1 f1 p1 x rx => ?_⟩
    refine ⟨ex, am1, env, M1, rm1, re.step rm f1, p1.bind.mono fun w M2 am2 H2 rm2 f2 p2 y ry => ?_⟩
    exact ⟨x, y, rfl, p2.now rm2 _ ((((re.step rm f1).step rm1 f2).set (rx.step rm1 f2)).set ry)⟩
/-- .. where a pair is made and taken apart -/
theorem ss_par2t {i j : Nat} {x y : Str} {kt k2 : Nat} {px py pt pt2 : Pos} (ck : Ck k X) (hi : X.N[i]? = some x) (hj : X.N[j]? = some y) (hx : Loc X.env.scope x) (hy : Loc X.env.scope y) (hfx : X.fn x = true ∨ X.env.scope.names.lookup x = some .local) (hfy : X.fn y = true ∨ X.env.scope.names.lookup y = some .local)
    (ha : SE X k E a f) (hb : SE X k E b g) (hsa : starEach [a, b] X.env = (false, eval a X.env) :: starEach [b] X.env) (hsb : starEach [b] X.env = (false, eval b X.env) :: starEach [] X.env)
    (hw : swappedStores [.Tuple [.Name x px, .Name y py] kt pt] (.Tuple [a, b] k2 pt2) X.env = pure none) :
    SSt X k E (.Assign [.Tuple [.Name x px, .Name y py] kt pt] (.Tuple [a, b] k2 pt2) pos) (sPar2 i j f g) :=
  PS.imp (ps_asg (pe_tupS (pa_cons ha (pa_cons hb pa_nil hsb) hsa)) (pg_tup ck.calm (pgs_cons (pg_name ck.nd hi hx hfx) (pgs_cons (pg_name ck.nd hj hy hfy) pgs_nil rfl) rfl) rfl rfl) rfl hw rfl) fun D σ H hw => by
    obtain ⟨ex, am, env, M, rm, re, p⟩ := hw
    refine ⟨ex, am, env, M, rm, re, p.bind.mono fun v M1 am1 H1 rm1 f1 p1 x rx => ?_⟩
    refine ⟨ex, am1, env, M1, rm1, re.step rm f1, p1.bind.mono fun w M2 am2 H2 rm2 f2 p2 y ry => ?_⟩
    refine ⟨by show 2 ≤ sizeLine; rw [sizeLine_eq]; decide, fun q its hq => ?_⟩
    have ff := F.new (am := am2) (M := M2) (o := sT its [x, y]) hq
    refine ⟨q, [x, y], rfl, .inl (.inr ⟨_, upd_same⟩), rfl, x, [y], rfl, y, [], rfl, rfl, ?_⟩
    exact p2 am2 _ (rm2.new _ hq) ff _ (((((re.step rm f1).step rm1 f2).step rm2 ff).set ((rx.step rm1 f2).step rm2 ff)).set (ry.step rm2 ff))

/-! ### o[i] = v -/
def rSet (k : Kx) : V → V → V → Hp → (Hp → Prop) → Prop := fun o i v H Q => ∃ ex am M vo wi vv M', RM k.K ex am M H ∧ RV k.K H (avS ex am M) am vo o ∧ RV k.K H (avS ex am M) am wi i ∧ RV k.K H (avS ex am M) am vv v ∧ setV M vo wi vv = some M' ∧
  ∀ am' H', RM k.K ex am' M' H' → F am M H am' M' H' → Q H'
theorem RK.put {κ : Type} [DecidableEq κ] {K : Kf} {H : Hp} {av : Addr → Prop} (q : κ) {d : D} {v : V} (r : R K H av d v) : ∀ {kvs : List (κ × D)} {vs : List (κ × V)}, RK K H av kvs vs → RK K H av (dPut kvs q d) (putK vs q v) := by
  have rep : ∀ {kvs : List (κ × D)} {vs : List (κ × V)}, RK K H av kvs vs → RK K H av (kvs.map fun kv => if kv.1 = q then (kv.1, d) else kv) (vs.map fun kv => if kv.1 = q then (kv.1, v) else kv) := by
    intro kvs
    induction kvs with
    | nil => intro vs h; cases (show vs = [] from h); rfl
    | cons x kvs ih =>
      intro vs h
      obtain ⟨w, t, rfl, h1, h2⟩ := h
      by_cases e : x.1 = q
      · exact ⟨v, _, by simp [e], by simp [e]; exact r, ih h2⟩
      · exact ⟨w, _, by simp [e], by simp [e]; exact h1, ih h2⟩
  have app : ∀ {kvs : List (κ × D)} {vs : List (κ × V)}, RK K H av kvs vs → RK K H av (kvs ++ [(q, d)]) (vs ++ [(q, v)]) := by
    intro kvs
    induction kvs with
    | nil => intro vs h; cases (show vs = [] from h); exact ⟨v, [], rfl, r, rfl⟩
    | cons x kvs ih =>
      intro vs h
      obtain ⟨w, t, rfl, h1, h2⟩ := h
      exact ⟨w, _, rfl, h1, ih h2⟩
  intro kvs vs h
  have e : (kvs.any fun kv => decide (kv.1 = q)) = vs.any fun kv => decide (kv.1 = q) := by
    have e1 := (h.get q).1
    rw [valV_any]
    rw [← e1]
    unfold dGet
    rw [Option.isSome_map]
    have : ∀ (l : List (κ × D)), (l.any fun kv => decide (kv.1 = q)) = (l.find? fun kv => decide (kv.1 = q)).isSome := by
      intro l
      induction l with
      | nil => rfl
      | cons x l ih =>
        by_cases e : x.1 = q
        · simp [e]
        · simp [e]; exact ih
    exact this kvs
  unfold dPut putK
  rw [e]
  split
  · exact rep h
  · exact app h
theorem set_all (ck : Ck k X) (nset : ∀ {pins : List (Addr × Obj)} {s : Shared} {σ : L2.St} {H : Hp} {a : Addr} {d z : D} {q : NestedKey} {y v : V} {u r : Value} {Q : Unit → Shared → Prop} {kvs : List (NestedKey × D)} {xs : List (NestedKey × Addr × V)} {av : Addr → Prop}, Inv X pins σ H s →
      H a = some (dN k.K a xs) → RD k.K H av kvs xs → nkT d = some q → R k.K H av d y → RelV y u → R k.K H av z v → RelV v r → kvs.length < lim →
      (∀ s' xs', Inv X pins σ (upd H a (dN k.K a xs')) s' → (∀ H' av', Agr k.K H av H' av' → RD k.K H' av' (dPut kvs q z) xs') → Q () s') → wpAny (model X.prog X.w) X.A (setItem (.ref a) u r) Q X.xe s) : PSet X (rSet k) := by
  intro pins s σ H o i v ov iv u Q I ro ri rv ⟨ex, am, M, vo, wi, vv, M', rm, rvo, rwi, rvv, hs, q⟩
  cases vo with
  | d _ => cases hs
  | ref j =>
    obtain ⟨p, ha, rfl⟩ := rvo
    cases hm : M[j]? with
    | none => simp [setV, hm] at hs
    | some ob =>
      cases ob with
      | lst xs =>
        obtain ⟨vs, hp, r⟩ := rm.obj j _ p hm ha
        cases wi with
        | ref _ => simp [setV, hm] at hs
        | d dw =>
          cases dw with
          | int n =>
            cases vv with
            | ref _ => simp [setV, hm] at hs
            | d dv =>
              cases hx : ixN xs.length n with
              | none => simp [setV, hm, hx] at hs
              | some jj =>
                have hs' : M.set j (.lst (xs.set jj dv)) = M' := by simpa [setV, hm, hx] using hs
                subst hs'
                cases rwi
                have mu := rm.mut (ob' := .lst (xs.set jj dv)) (o := .lst (vs.set jj v)) hm ha rfl rfl fun H' av' g hh => ⟨_, hh, (g.rs _ _ r).set (g.r _ _ rvv)⟩
                exact set_list pins s σ H _ _ v ov iv u Q I ro ri rv ⟨p, vs, n, jj, rfl, rfl, hp, by rw [← r.length]; exact hx, q am _ mu.1 mu.2⟩
          | _ => simp [setV, hm] at hs
      | box xs =>
        obtain ⟨vs, hp, r, hok⟩ := rm.obj j _ p hm ha
        cases wi with
        | ref _ => simp [setV, hm] at hs
        | d dw =>
          cases dw with
          | int n =>
            cases hx : ixN xs.length n with
            | none => simp [setV, hm, hx] at hs
            | some jj =>
              by_cases hr : okRef j vv = true
              · have hs' : M.set j (.box (xs.set jj vv)) = M' := by simpa [setV, hm, hx, hr] using hs
                subst hs'
                cases rwi
                have mu := rm.mut (ob' := .box (xs.set jj vv)) (o := .lst (vs.set jj v)) hm ha rfl rfl fun H' av' g hh => ⟨_, hh, (g.rvs (fun _ _ h => h) _ _ r).set (g.rv (fun _ _ h => h) _ _ rvv), fun w hw => (List.mem_or_eq_of_mem_set hw).elim (hok w) fun e => by rw [e]; exact hr⟩
                exact set_list pins s σ H _ _ v ov iv u Q I ro ri rv ⟨p, vs, n, jj, rfl, rfl, hp, by rw [← r.length]; exact hx, q am _ mu.1 mu.2⟩
              · simp [setV, hm, hx, hr] at hs
          | _ => simp [setV, hm] at hs
      | dK kvs =>
        obtain ⟨vs, hp, r⟩ := rm.obj j _ p hm ha
        obtain rfl : ov = Value.ref p := ro
        cases wi with
        | ref _ => simp [setV, hm] at hs
        | d dw =>
          cases vv with
          | ref _ => simp [setV, hm] at hs
          | d dv =>
            cases hq : keyD dw with
            | none => simp [setV, hm, hq] at hs
            | some q0 =>
              by_cases hl : kvs.length < lim
              · have hs' : M.set j (.dK (dPut kvs q0 dv)) = M' := by simpa [setV, hm, hq, hl] using hs
                subst hs'
                have hy : i = kV q0 := key_R rwi hq
                subst hy
                have mu := rm.mut (ob' := .dK (dPut kvs q0 dv)) (o := .dK (putK vs q0 v)) hm ha rfl rfl fun H' av' g hh => ⟨_, hh, (g.rk _ _ r).put q0 (g.r _ _ rvv)⟩
                have hlen : vs.length = kvs.length := by
                  have : ∀ {kvs : List (L2.Key × D)} {vs : List (L2.Key × V)}, RK k.K H (avS ex am M) kvs vs → vs.length = kvs.length := by
                    intro kvs
                    induction kvs with
                    | nil => intro vs h; cases (show vs = [] from h); rfl
                    | cons x kvs ih => intro vs h; obtain ⟨w, t, rfl, _, h2⟩ := h; simp [ih h2]
                  exact this r
                exact d_setItem (by have := ck.hu; omega) I (DPut.k hp (by rw [hlen]; exact lim_lt hl)) ri rv fun s4 I4 => ⟨_, I4, q am _ mu.1 mu.2⟩
              · simp [setV, hm, hq, hl] at hs
      | dT kvs =>
        obtain ⟨xs, hp, r⟩ := rm.obj j _ p hm ha
        obtain rfl : ov = Value.ref p := ro
        cases wi with
        | ref _ => simp [setV, hm] at hs
        | d dw =>
          cases vv with
          | ref _ => simp [setV, hm] at hs
          | d dv =>
            cases hq : nkT dw with
            | none => simp [setV, hm, hq] at hs
            | some q0 =>
              by_cases hl : kvs.length < lim
              · have hs' : M.set j (.dT (dPut kvs q0 dv)) = M' := by simpa [setV, hm, hq, hl] using hs
                subst hs'
                refine nset I hp r hq rwi ri rvv rv hl fun s' xs' I' hrd => ?_
                have mu := rm.mut (ob' := .dT (dPut kvs q0 dv)) (o := dN k.K p xs') hm ha rfl rfl fun H' av' g hh => ⟨xs', hh, hrd H' av' g⟩
                exact ⟨_, I', q am _ mu.1 mu.2⟩
              · simp [setV, hm, hq, hl] at hs
      | _ => simp [setV, hm] at hs
end
end Mp
end
section
set_option maxHeartbeats 4000000
/-! Readings of statements: item stores, loops, rows. -/
namespace Mp
open PySem PySem.Spec PyProof.Rows L2

theorem bind_bind {α β γ : Type} (r : Res α) (f : α → Mem → Res β) (g : β → Mem → Res γ) : (r.bind f).bind g = r.bind fun a M => (f a M).bind g := by
  cases r <;> rfl

section
variable {X : Cx} {k : Kx} {E : XK} {e a b c o tg : Expr} {es : List Expr} {pos p0 p1 p : Pos} {f g h : SF} {A : SA} {u v : SS}

theorem ss_setI (ho : SE X k E o f) (hi : SE X k E a g) (hv : SE X k E e h) (hset : PSet X (rSet k))
    (ha : ∀ v, assign (.Subscript o a p0) X.env v = (do
      let ov ← holding [v] (eval o X.env)
      let iv ← holding [v, ov] (eval a X.env)
      standAt p0
      holding [v, ov, iv] (setItem ov iv v)
      release [v, ov, iv] []))
    (hs : swapsWithSole [.Subscript o a p0] e pos.line X.env = pure false) (hw : swappedStores [.Subscript o a p0] e X.env = pure none)
    (h1 : (assignEach [.Subscript o a p0] X.env).map (·.2) = [assign (.Subscript o a p0) X.env]) : SSt X k E (.Assign [.Subscript o a p0] e pos) (sSetI f g h) :=
  PS.imp (ps_asg hv (pg_sub ho hi hset ha) hs hw h1) fun D σ H hw => by
    obtain ⟨ex, am, env, M, rm, re, p⟩ := hw
    refine ⟨ex, am, env, M, rm, re, p.bind.mono fun v M1 am1 H1 rm1 f1 p1 x rx => ?_⟩
    have re1 := re.step rm f1
    refine ⟨ex, am1, env, M1, rm1, re1, p1.bind.mono fun o M2 am2 H2 rm2 f2 p2 y ry => ?_⟩
    have re2 := re1.step rm1 f2
    refine ⟨ex, am2, env, M2, rm2, re2, p2.bind.mono fun w M3 am3 H3 rm3 f3 p3 z rz => ?_⟩
    have re3 := re2.step rm2 f3
    cases hset : setV M3 o w v with
    | none => rw [hset] at p3; exact p3.elim
    | some M4 =>
      rw [hset] at p3
      exact ⟨ex, am3, M3, o, w, v, M4, rm3, ry.step rm2 f3, rz, (rx.step rm1 f2).step rm2 f3, hset, fun am' H' rm' f' => p3 am' H' rm' f' σ (re3.step rm3 f')⟩
theorem ss_aug {i : Nat} {x : Str} {bo : BOp} (ck : Ck k X) (hi : X.N[i]? = some x) (hx : Loc X.env.scope x) (hf : X.fn x = true ∨ X.env.scope.names.lookup x = some .local) (he : SE X k E e f) (hb : bo = .add ∨ bo = .sub) : SSt X k E (.AugAssign (.Name x p0) (opOf bo) e pos) (sAug i bo f) := by
  rcases hb with rfl | rfl
  · exact PS.imp (ps_aug ck.nd hi hx he ip_add hf) fun D σ H hw => by
      obtain ⟨ex, am, env, M, rm, re, p⟩ := hw
      unfold sAug at p
      split at p
      · rename_i x hg
        obtain ⟨x0, hx0, rx0⟩ := re.2 i _ hg
        have hx0' : x0 = .int x := rx0
        subst hx0'
        refine ⟨_, hx0, ex, am, env, M, rm, re, p.bind.mono fun v M1 am1 H1 rm1 f1 p1 y ry => ?_⟩
        cases v with
        | ref _ => exact p1.elim
        | d d =>
          cases d with
          | int n => exact ⟨x, n, rfl, ry, p1.now rm1 _ ((re.step rm f1).set (v := .d (.int (x + n))) rfl)⟩
          | _ => exact p1.elim
      · exact p.elim
  · exact PS.imp (ps_aug ck.nd hi hx he ip_sub hf) fun D σ H hw => by
      obtain ⟨ex, am, env, M, rm, re, p⟩ := hw
      unfold sAug at p
      split at p
      · rename_i x hg
        obtain ⟨x0, hx0, rx0⟩ := re.2 i _ hg
        have hx0' : x0 = .int x := rx0
        subst hx0'
        refine ⟨_, hx0, ex, am, env, M, rm, re, p.bind.mono fun v M1 am1 H1 rm1 f1 p1 y ry => ?_⟩
        cases v with
        | ref _ => exact p1.elim
        | d d =>
          cases d with
          | int n => exact ⟨x, n, rfl, ry, p1.now rm1 _ ((re.step rm f1).set (v := .d (.int (x - n))) rfl)⟩
          | _ => exact p1.elim
      · exact p.elim
theorem ss_exp (he : SE X k E e f) (hs : swapsWith e none pos.line X.env = pure false) : SSt X k E (.Expr e pos) (sExp f) :=
  PS.imp (ps_expr he hs) fun D σ H hw => by
    obtain ⟨ex, am, env, M, rm, re, p⟩ := hw
    exact ⟨ex, am, env, M, rm, re, p.bind.mono fun v M1 am1 H1 rm1 f1 p1 y ry => p1.now rm1 σ (re.step rm f1)⟩
theorem ss_ret (he : SE X k E e f) : SSt X k E (.Return (some e) pos) (sRet f) :=
  PS.imp (ps_ret he) fun D σ H hw => by
    obtain ⟨ex, am, env, M, rm, re, p⟩ := hw
    exact ⟨ex, am, env, M, rm, re, p.bind.mono fun v M1 am1 H1 rm1 f1 p1 y ry => p1.now rm1 y ry⟩
theorem ss_retn : SSt X k E (.Return none pos) sRetn :=
  PS.imp ps_retN fun D σ H hw => by
    obtain ⟨ex, am, env, M, rm, re, p⟩ := hw
    exact p.now rm .non rfl
theorem ss_pas : SSt X k E (.Pass pos) sPas := PS.imp ps_pass fun D σ H hw => by
    obtain ⟨ex, am, env, M, rm, re, p⟩ := hw
    exact p.now rm σ re
theorem ss_doc {x : Str} {j : Nat} : SSt X k E (.Expr (.Constant (.str x) j p0) pos) sPas := PS.imp ps_doc fun D σ H hw => by
    obtain ⟨ex, am, env, M, rm, re, p⟩ := hw
    exact p.now rm σ re
theorem ss_brk : SSt X k E (.Break pos) sBrk := PS.imp ps_break fun D σ H hw => by
    obtain ⟨ex, am, env, M, rm, re, p⟩ := hw
    exact p.now rm σ re
theorem ss_ctn : SSt X k E (.Continue pos) sCtn := PS.imp ps_continue fun D σ H hw => by
    obtain ⟨ex, am, env, M, rm, re, p⟩ := hw
    exact p.now rm σ re
theorem sss_nil : SSs X k E [] sPas := PSs.imp pss_nil fun D σ H hw => by
    obtain ⟨ex, am, env, M, rm, re, p⟩ := hw
    exact p.now rm σ re
theorem sss_cons {st : Stmt} {sts : List Stmt} (h1 : SSt X k E st u) (h2 : SSs X k E sts v) : SSs X k E (st :: sts) (sSeq u v) :=
  PSs.imp (pss_cons h1 h2) fun D σ H hw => by
    obtain ⟨ex, am, env, M, rm, re, p⟩ := hw
    refine ⟨ex, am, env, M, rm, re, p.bind.mono fun fl M1 am1 H1 rm1 f1 p1 => ?_⟩
    cases fl with
    | nx env1 => exact fun σ1 re1 => ⟨ex, am1, env1, M1, rm1, re1, p1⟩
    | rt v => exact Po.now (E := E) (ok := okF k ex D) rm1 p1
    | bk env1 => exact Po.now (E := E) (ok := okF k ex D) rm1 p1
    | ct env1 => exact Po.now (E := E) (ok := okF k ex D) rm1 p1
theorem sss_frz {sts : List Stmt} {i : Nat} (h2 : SSs X k E sts v) : SSs X k E sts (sSeq (sFrz i) v) :=
  PSs.imp h2 fun D σ H hw => by
    obtain ⟨ex, am, env, M, rm, re, p⟩ := hw
    unfold sSeq sFrz at p
    cases hg : getE env i with
    | none => rw [hg] at p; exact p.elim
    | some w =>
      cases w with
      | d _ => rw [hg] at p; exact p.elim
      | ref j =>
        cases hm : M[j]? with
        | none => rw [hg] at p; dsimp only at p; rw [hm] at p; exact p.elim
        | some ob =>
          cases ob with
          | lst xs =>
            rw [hg] at p; dsimp only at p; rw [hm] at p
            change Po k ex am M H E (v (env.set i (some (.d (.list xs)))) (M.set j .dead)) (okF k ex D) at p
            obtain ⟨x0, hx0, q, hq, rfl⟩ := re.2 i _ hg
            obtain ⟨vs, hH, r⟩ := rm.obj j _ q hm hq
            obtain ⟨rm1, f1, n1⟩ := rm.drop hm hq rfl
            refine ⟨ex, am, _, _, rm1, ?_, p.weak f1⟩
            have re1 := re.step rm f1
            refine ⟨by simp [re1.1], fun n w hn => ?_⟩
            have hn' := getE_spec hn
            by_cases en : n = i
            · subst en
              have hlt : n < env.length := by
                have := (List.getElem?_eq_some_iff.mp hn').1
                simpa using this
              rw [List.getElem?_set_self hlt] at hn'
              cases hn'
              refine ⟨_, hx0, q, vs, rfl, hH, fun l => ?_, (rm.agr f1).rs _ _ r⟩
              rcases l with l | l
              · exact rm.exL q l ⟨j, _, hq, hm, rfl⟩
              · exact n1 l
            · rw [List.getElem?_set_ne (Ne.symm en)] at hn'
              exact re1.2 n w (by unfold getE; rw [hn'])
          | _ => rw [hg] at p; dsimp only at p; rw [hm] at p; exact p.elim
theorem ss_iff {as bs : List Stmt} {f : SF} (hc : ST X k E c f) (ha : SSs X k E as u) (hb : SSs X k E bs v) : SSt X k E (.If c as bs pos) (sIff f u v) :=
  PS.imp (ps_if hc ha hb) fun D σ H hw => by
    obtain ⟨ex, am, env, M, rm, re, p⟩ := hw
    unfold sIff at p
    rw [← bind_bind] at p
    refine ⟨ex, am, env, M, rm, re, p.bind.mono fun b M1 am1 H1 rm1 f1 p1 => ?_⟩
    cases b with
    | true => rw [if_pos rfl]; exact ⟨ex, am1, env, M1, rm1, re.step rm f1, p1⟩
    | false => rw [if_neg Bool.false_ne_true]; exact ⟨ex, am1, env, M1, rm1, re.step rm f1, p1⟩
theorem ss_for {it : SI} {t : Tg} {body : List Stmt} (ck : Ck k X) (hi : SIt X k E tg a it) (hg : SG X k tg t) (hb : SSs X k E body u) (hs : ∀ x, foldedSetIterable a X.env x = pure x) : SSt X k E (.For tg a body [] pos) (sFor t it u) :=
  PS.imp (ps_for ck.po ck.calm hi hg hb hs) fun D σ H hw => by
    obtain ⟨ex, am, env, M, rm, re, p⟩ := hw
    refine ⟨ex, am, env, M, rm, re, p.bind.mono fun xs M1 am1 H1 rm1 f1 p1 J wk => ?_⟩
    have hx : ∀ a ∈ ex, a ∈ ex ∨ H1 a = none := fun a h => .inl h
    let W : Nat → Nat → L2.St → Hp → Prop := fun i m σ H => m = xs.length - i ∧ i ≤ xs.length ∧ ∃ am' env' M', RM k.K ex am' M' H ∧ F am1 M1 H1 am' M' H ∧ RE k.K ex am' M' H env' σ ∧ Po k ex am' M' H E (forL t u (xs.drop i) env' M') (okF k ex D)
    refine ⟨W, ⟨xs.length, by simp, Nat.zero_le _, am1, env, M1, rm1, F.refl, re.step rm f1, p1⟩, ?_⟩
    rintro i m σ2 H2 ⟨rfl, hi2, am2, env2, M2, rm2, f2, re2, p2⟩
    by_cases hlt : i < xs.length
    · refine .inr ⟨wk.go ex i am2 M2 H2 hx rm2 f2 hlt, W (i + 1) (xs.length - (i + 1)), fun σ' H' w => ⟨_, by omega, w⟩, fun x H3 hy => ?_⟩
      obtain ⟨d, hd, rd, rm3, f3⟩ := wk.yld ex i am2 M2 H2 H3 x hx rm2 f2 hlt hy
      have ed : xs.drop i = d :: xs.drop (i + 1) := by
        rw [List.drop_eq_getElem_cons hlt]
        rw [List.getElem?_eq_getElem hlt] at hd
        cases hd
        rfl
      rw [ed] at p2
      have p3 := p2.weak f3
      unfold forL at p3
      cases ha : asgT t d env2 with
      | none => rw [ha] at p3; exact p3.elim
      | some env3 =>
        rw [ha] at p3
        refine ⟨ex, am2, M2, env2, d, env3, rm3, re2.step rm2 f3, rd, ha, fun σ4 re4 _ => ⟨ex, am2, env3, M2, rm3, re4, p3.bind.mono fun fl M5 am5 H5 rm5 f5 p5 => ?_⟩⟩
        have f15 := (f2.trans f3).trans f5
        cases fl with
        | nx env5 => exact fun σ5 re5 => ⟨rfl, hlt, am5, env5, M5, rm5, f15, re5, p5⟩
        | ct env5 => exact fun σ5 re5 => ⟨rfl, hlt, am5, env5, M5, rm5, f15, re5, p5⟩
        | bk env5 => exact Po.now (E := E) (ok := okF k ex D) rm5 p5
        | rt v => exact Po.now (E := E) (ok := okF k ex D) rm5 p5
    · have ei : i = xs.length := by omega
      subst ei
      rw [List.drop_length] at p2
      exact .inl ⟨wk.stop ex am2 M2 H2 hx rm2 f2, p2.now rm2 σ2 re2⟩
theorem ss_whil {f : SF} {body : List Stmt} (ck : Ck k X) (hc : ST X k E c f) (hb : SSs X k E body u) : SSt X k E (.While c body [] pos) (sWhil f u) :=
  PS.imp (ps_while ck.po hc hb) fun D σ H hw => by
    obtain ⟨ex, am, env, M, rm, re, p⟩ := hw
    refine ⟨fun m σ H => ∃ am env M, RM k.K ex am M H ∧ RE k.K ex am M H env σ ∧ Po k ex am M H E (whL f u m env M) (okF k ex D), ⟨wfuel, am, env, M, rm, re, p⟩, ?_⟩
    rintro m σ1 H1 ⟨am1, env1, M1, rm1, re1, p1⟩
    cases m with
    | zero => exact p1.elim
    | succ m =>
      unfold whL at p1
      rw [← bind_bind] at p1
      refine ⟨ex, am1, env1, M1, rm1, re1, p1.bind.mono fun b M2 am2 H2 rm2 f2 p2 => ?_⟩
      have re2 := re1.step rm1 f2
      cases b with
      | false => show D.nx σ1 H2; exact Po.now (E := E) (ok := okF k ex D) rm2 p2 σ1 re2
      | true =>
        rw [if_pos rfl] at p2
        show ∃ N : L2.St → Hp → Prop, _
        refine ⟨fun σ H => ∃ am env M, RM k.K ex am M H ∧ RE k.K ex am M H env σ ∧ Po k ex am M H E (whL f u m env M) (okF k ex D), fun σ' H' w => ⟨m, by omega, w⟩, ex, am2, env1, M2, rm2, re2, p2.bind.mono fun fl M5 am5 H5 rm5 f5 p5 => ?_⟩
        cases fl with
        | nx env5 => exact fun σ5 re5 => ⟨am5, env5, M5, rm5, re5, p5⟩
        | ct env5 => exact fun σ5 re5 => ⟨am5, env5, M5, rm5, re5, p5⟩
        | bk env5 => exact Po.now (E := E) (ok := okF k ex D) rm5 p5
        | rt v => exact Po.now (E := E) (ok := okF k ex D) rm5 p5
end
end Mp
end
section
set_option maxHeartbeats 4000000
/-! Methods of lists and tuples. -/
namespace Mp
open PySem PySem.Spec PyProof.Rows L2

section
variable {X : Cx} {k : Kx} {E : XK} {e a b c o tg : Expr} {es : List Expr} {pos p0 p1 p apos cpos : Pos} {f g h : SF} {A : SA} {u v : SS}

def rM (k : Kx) (m : MT) : V → List V → Hp → VK → Prop := fun x xs H Q => ∃ ex am M v vs z M', RM k.K ex am M H ∧ RV k.K H (avS ex am M) am v x ∧ RVs k.K H (avS ex am M) am vs xs ∧ mtV m M v vs = some (z, M') ∧
  ∀ am' H' u, RM k.K ex am' M' H' → F am M H am' M' H' → RV k.K H' (avS ex am' M') am' z u → Q u H'
def mtT : MT → String
  | .indexT => "tuple"
  | _ => "list"
theorem isRL_some {M : Mem} {w : Val} (h : isRL M w = true) : ∃ j xs, w = .ref j ∧ M[j]? = some (.lst xs) := by
  cases w with
  | d _ => cases h
  | ref j =>
    unfold isRL at h
    dsimp only at h
    cases hm : M[j]? with
    | none => rw [hm] at h; cases h
    | some ob =>
      cases ob with
      | lst xs => exact ⟨j, xs, rfl, hm⟩
      | _ => rw [hm] at h; cases h
theorem kindM_ty {m : MT} {K : Kf} {ex am : List Addr} {M : Mem} {H : Hp} {w : Val} {x : V} (rm : RM K ex am M H) (r : RV K H (avS ex am M) am w x) (h : kindM m M w = true) : tyS K.K (mtT m) x H := by
  have gen : isRL M w = true → tyS K.K "list" x H := by
    intro hm
    obtain ⟨j, xs, rfl, hmj⟩ := isRL_some hm
    obtain ⟨q, hq, rfl⟩ := r
    obtain ⟨vs, e, _⟩ := rm.obj j _ q hmj hq
    exact .inl (.inl ⟨rfl, vs, .inl (.inl e)⟩)
  cases m with
  | index =>
    cases w with
    | ref j => cases h
    | d d =>
      cases d with
      | list xs => obtain ⟨q, vs, rfl, hq, _, _⟩ := r; exact .inl (.inl ⟨rfl, vs, .inl (.inl hq)⟩)
      | _ => cases h
  | indexT =>
    cases w with
    | ref j => cases h
    | d d =>
      cases d with
      | tuple xs =>
        obtain ⟨q, vs, rfl, hq, _⟩ := r
        rcases hq with ⟨its, hq⟩ | ⟨o, its, n, h1, h2, h3, _⟩
        · exact .inr ⟨rfl, q, its, vs, rfl, hq⟩
        · exact .inl (.inr (.inl ⟨rfl, o, h1, h2, h3⟩))
      | _ => cases h
  | append => exact gen h
  | pop0 => exact gen h
  | popAt => exact gen h
  | insert => exact gen h
  | extend => exact gen h
theorem tr_mt (ck : Ck k X) (m : MT) {σ : L2.St} {H : Hp} {Q : VK} (hw : tE k E (sMt m f A) σ H Q) : tBMS X.K (mtT m) (rM k m) (tE k E f) (tA k E A) σ H Q := by
  obtain ⟨ex, am, env, M, rm, re, p⟩ := hw
  refine ⟨ex, am, env, M, rm, re, p.bind.mono fun v M1 am1 H1 rm1 f1 p1 x rx => ?_⟩
  by_cases hk : kindM m M1 v = true
  · rw [if_pos hk] at p1
    refine ⟨by rw [ck.K]; exact kindM_ty rm1 rx hk, ex, am1, env, M1, rm1, re.step rm f1, p1.bind.mono fun vs M2 am2 H2 rm2 f2 p2 xs rxs => ?_⟩
    cases hm : mtV m M2 v vs with
    | none => rw [hm] at p2; exact p2.elim
    | some zz =>
      obtain ⟨z, M3⟩ := zz
      rw [hm] at p2
      exact ⟨ex, am2, M2, v, vs, z, M3, rm2, rx.step rm1 f2, rxs, hm, fun am' H' u rm' f' ru => p2 am' H' rm' f' u ru⟩
  · rw [if_neg hk] at p1; exact p1.elim

theorem tr_mt0 (ck : Ck k X) (m : MT) {σ : L2.St} {H : Hp} {Q : VK} (hw : tE k E (sMt m f sNil) σ H Q) : tBMS0 X.K (mtT m) (rM k m) (tE k E f) σ H Q := by
  obtain ⟨ex, am, env, M, rm, re, p⟩ := hw
  refine ⟨ex, am, env, M, rm, re, p.bind.mono fun v M1 am1 H1 rm1 f1 p1 x rx => ?_⟩
  by_cases hk : kindM m M1 v = true
  · rw [if_pos hk] at p1
    refine ⟨by rw [ck.K]; exact kindM_ty rm1 rx hk, ?_⟩
    change Po k ex am1 M1 H1 E (match mtV m M1 v [] with | some (z, M3) => .ok z M3 | none => .no) (okV k ex Q) at p1
    cases hm : mtV m M1 v [] with
    | none => rw [hm] at p1; exact p1.elim
    | some zz =>
      obtain ⟨z, M3⟩ := zz
      rw [hm] at p1
      exact ⟨ex, am1, M1, v, [], z, M3, rm1, rx, rfl, hm, fun am' H' u rm' f' ru => p1 am' H' rm' f' u ru⟩
  · rw [if_neg hk] at p1; exact p1.elim

/-! ### each method -/
theorem rvs1 {K : Kf} {H : Hp} {av : Addr → Prop} {am : List Addr} {v : Val} {xs : List V} (h : RVs K H av am [v] xs) : ∃ x, xs = [x] ∧ RV K H av am v x := by
  obtain ⟨x, t, rfl, h1, h2⟩ := h
  cases h2
  exact ⟨x, rfl, h1⟩
theorem rvs2 {K : Kf} {H : Hp} {av : Addr → Prop} {am : List Addr} {v w : Val} {xs : List V} (h : RVs K H av am [v, w] xs) : ∃ x y, xs = [x, y] ∧ RV K H av am v x ∧ RV K H av am w y := by
  obtain ⟨x, t, rfl, h1, h2⟩ := h
  obtain ⟨y, rfl, h3⟩ := rvs1 h2
  exact ⟨x, y, rfl, h1, h3⟩
theorem onL_some {α : Type} {M : Mem} {w : Val} {F : Nat → List D → Option α} {z : α} (h : onL M w F = some z) : ∃ i xs, w = .ref i ∧ M[i]? = some (.lst xs) ∧ F i xs = some z := by
  cases w with
  | d _ => cases h
  | ref i =>
    unfold onL at h
    dsimp only at h
    cases hm : M[i]? with
    | none => rw [hm] at h; cases h
    | some ob =>
      cases ob with
      | lst xs => rw [hm] at h; exact ⟨i, xs, rfl, hm, h⟩
      | _ => rw [hm] at h; cases h
theorem vD_some {α : Type} {f : D → Option α} {v : Val} {z : α} (h : vD f v = some z) : ∃ x, v = .d x ∧ f x = some z := by
  cases v with
  | d x => exact ⟨x, rfl, h⟩
  | ref _ => cases h
theorem v0_some {α : Type} {y : Option α} {vs : List Val} {z : α} (h : v0 y vs = some z) : vs = [] ∧ y = some z := by
  cases vs with
  | nil => exact ⟨rfl, h⟩
  | cons _ _ => cases h
theorem v2_some {α : Type} {f : Val → Val → Option α} {vs : List Val} {z : α} (h : v2 f vs = some z) : ∃ x y, vs = [x, y] ∧ f x y = some z := by
  cases vs with
  | nil => cases h
  | cons x r =>
    obtain ⟨y, rfl, h⟩ := v1_some (show v1 (f x) r = some z from h)
    exact ⟨x, y, rfl, h⟩
theorem oB_some {α : Type} {b : Bool} {y : Option α} {z : α} (h : oB b y = some z) : b = true ∧ y = some z := by
  cases b with
  | true => exact ⟨rfl, h⟩
  | false => cases h
theorem dTup_some {α : Type} {f : List D → Option α} {d : D} {z : α} (h : dTup f d = some z) : ∃ i, d = .tuple i ∧ f i = some z := by
  cases d <;> first | exact ⟨_, rfl, h⟩ | cases h
theorem m_append : MtR X "list.append" (rM k .append) := by
  intro pins s σ H x xs v us Q I rx rv ⟨ex, am, M, vo, vs, z, M', rm, ro, rvs, hm, q⟩
  obtain ⟨i, ys, rfl, hmi, hm⟩ := onL_some hm
  obtain ⟨v1, rfl, hm⟩ := v1_some hm
  obtain ⟨y, rfl, hm⟩ := vD_some hm
  obtain ⟨hl, hm⟩ := oB_some hm
  have hl := of_decide_eq_true hl
  cases hm
  obtain ⟨p, hp, rfl⟩ := ro
  obtain ⟨w, rfl, rw_⟩ := rvs1 rvs
  obtain ⟨ws, hH, r⟩ := rm.obj i _ p hmi hp
  have mu := rm.mut (ob' := .lst (ys ++ [y])) (o := .lst (ws ++ [w])) hmi hp rfl rfl fun H' av' g hh => ⟨_, hh, (g.rs _ _ r).append ⟨w, [], rfl, g.r _ _ rw_, rfl⟩⟩
  exact mt_append pins s σ H _ _ v us Q I rx rv ⟨p, ws, w, rfl, rfl, hH, by rw [← r.length]; exact lim_lt hl, q am _ _ mu.1 mu.2 rfl⟩
theorem Rs.dropLast {K : Kf} {H : Hp} {av : Addr → Prop} {ds : List D} {vs : List V} (h : Rs K H av ds vs) : Rs K H av ds.dropLast vs.dropLast := by
  rw [List.dropLast_eq_take, List.dropLast_eq_take, ← h.length]
  exact h.take _
theorem Rs.eraseIdx {K : Kf} {H : Hp} {av : Addr → Prop} {ds : List D} {vs : List V} (n : Nat) (h : Rs K H av ds vs) : Rs K H av (ds.eraseIdx n) (vs.eraseIdx n) := by
  rw [List.eraseIdx_eq_take_drop_succ, List.eraseIdx_eq_take_drop_succ]
  exact (h.take _).append (h.drop _)
theorem m_pop0 : MtR X "list.pop" (rM k .pop0) := by
  intro pins s σ H x xs v us Q I rx rv ⟨ex, am, M, vo, vs, z, M', rm, ro, rvs, hm, q⟩
  obtain ⟨i, ys, rfl, hmi, hm⟩ := onL_some hm
  obtain ⟨rfl, hm⟩ := v0_some hm
  obtain ⟨y, hy, hm⟩ := Option.map_eq_some_iff.mp hm
  cases hm
  obtain ⟨p, hp, rfl⟩ := ro
  cases (show xs = [] from rvs)
  obtain ⟨ws, hH, r⟩ := rm.obj i _ p hmi hp
  obtain ⟨w, hw, rw_⟩ := r.get hy
  have mu := rm.mut (ob' := .lst ys.dropLast) (o := .lst ws.dropLast) hmi hp rfl rfl fun H' av' g hh => ⟨_, hh, (g.rs _ _ r).dropLast⟩
  exact mt_pop pins s σ H _ _ v us Q I rx rv ⟨p, ws, w, rfl, rfl, hH, by rw [← r.length]; exact hw, q am _ _ mu.1 mu.2 (RV.step (v := .d y) rw_ rm mu.2)⟩
theorem m_popAt : MtR X "list.pop" (rM k .popAt) := by
  intro pins s σ H x xs v us Q I rx rv ⟨ex, am, M, vo, vs, z, M', rm, ro, rvs, hm, q⟩
  obtain ⟨i, ys, rfl, hmi, hm⟩ := onL_some hm
  obtain ⟨v1, rfl, hm⟩ := v1_some hm
  obtain ⟨y, rfl, hm⟩ := vD_some hm
  obtain ⟨j, rfl, hm⟩ := dInt_some hm
  obtain ⟨hj, hm⟩ := oB_some hm
  have hj := of_decide_eq_true hj
  obtain ⟨n, hn, hm⟩ := Option.bind_eq_some_iff.mp hm
  obtain ⟨y, hy, hm⟩ := Option.map_eq_some_iff.mp hm
  cases hm
  obtain ⟨p, hp, rfl⟩ := ro
  obtain ⟨wj, rfl, rj⟩ := rvs1 rvs
  cases (show wj = .int j from rj)
  obtain ⟨ws, hH, r⟩ := rm.obj i _ p hmi hp
  obtain ⟨w, hw, rw_⟩ := r.get hy
  have mu := rm.mut (ob' := .lst (ys.eraseIdx n)) (o := .lst (ws.eraseIdx n)) hmi hp rfl rfl fun H' av' g hh => ⟨_, hh, (g.rs _ _ r).eraseIdx n⟩
  exact mt_popAt pins s σ H _ _ v us Q I rx rv ⟨p, ws, j, n, w, rfl, rfl, hH, hj.1, hj.2, by rw [← r.length]; exact hn, hw, q am _ _ mu.1 mu.2 (RV.step (v := .d y) rw_ rm mu.2)⟩
theorem m_insert : MtR X "list.insert" (rM k .insert) := by
  intro pins s σ H x xs v us Q I rx rv ⟨ex, am, M, vo, vs, z, M', rm, ro, rvs, hm, q⟩
  obtain ⟨i, ys, rfl, hmi, hm⟩ := onL_some hm
  obtain ⟨va, vb, rfl, hm⟩ := v2_some hm
  obtain ⟨ya, rfl, hm⟩ := vD_some hm
  obtain ⟨j, rfl, hm⟩ := dInt_some hm
  obtain ⟨y, rfl, hm⟩ := vD_some hm
  obtain ⟨hj, hm⟩ := oB_some hm
  have hj := of_decide_eq_true hj
  cases hm
  obtain ⟨p, hp, rfl⟩ := ro
  obtain ⟨wj, w, rfl, rj, rw_⟩ := rvs2 rvs
  cases (show wj = .int j from rj)
  obtain ⟨ws, hH, r⟩ := rm.obj i _ p hmi hp
  have mu := rm.mut (ob' := .lst (ys.take j.toNat ++ [y] ++ ys.drop j.toNat)) (o := .lst (ws.take j.toNat ++ [w] ++ ws.drop j.toNat)) hmi hp rfl rfl fun H' av' g hh =>
    ⟨_, hh, (((g.rs _ _ r).take _).append (show Rs k.K H' av' [y] [w] from ⟨w, [], rfl, g.r _ _ rw_, rfl⟩)).append ((g.rs _ _ r).drop _)⟩
  have hl := lim_lt hj.2.2
  have h63 : (sizeLine : Nat) < 2 ^ 63 := line63
  exact mt_insert pins s σ H _ _ v us Q I rx rv ⟨p, ws, j, w, rfl, rfl, hH, by rw [← r.length]; exact hl, hj.1, by omega, q am _ _ mu.1 mu.2 rfl⟩
theorem m_extend : MtR X "list.extend" (rM k .extend) := by
  intro pins s σ H x xs v us Q I rx rv ⟨ex, am, M, vo, vs, z, M', rm, ro, rvs, hm, q⟩
  obtain ⟨i, ys, rfl, hmi, hm⟩ := onL_some hm
  obtain ⟨v1, rfl, hm⟩ := v1_some hm
  obtain ⟨y0, rfl, hm⟩ := vD_some hm
  obtain ⟨y, rfl, hm⟩ := dList_some hm
  obtain ⟨hl, hm⟩ := oB_some hm
  have hl := of_decide_eq_true hl
  cases hm
  obtain ⟨p, hp, rfl⟩ := ro
  obtain ⟨w, rfl, rw_⟩ := rvs1 rvs
  obtain ⟨qa, us2, rfl, hq, _, ru⟩ := rw_
  obtain ⟨ws, hH, r⟩ := rm.obj i _ p hmi hp
  have mu := rm.mut (ob' := .lst (ys ++ y)) (o := .lst (ws ++ us2)) hmi hp rfl rfl fun H' av' g hh => ⟨_, hh, (g.rs _ _ r).append (g.rs _ _ ru)⟩
  exact mt_extend pins s σ H _ _ v us Q I rx rv ⟨p, qa, ws, us2, rfl, rfl, hH, hq, by rw [← r.length, ← ru.length]; exact lim_size hl, q am _ _ mu.1 mu.2 rfl⟩
theorem indexD_spec {x : D} : ∀ {ds : List D} {n m : Nat}, indexD x ds n = some m → ∃ j z, m = n + j ∧ ds[j]? = some z ∧ PyData.eqv z x = true ∧ ∀ (i : Nat) (z' : D), i < j → ds[i]? = some z' → PyData.eqv z' x = false
  | [], _, _, h => by cases h
  | d :: ds, n, m, h => by
    unfold indexD at h
    split at h
    · rename_i e
      cases h
      exact ⟨0, d, rfl, rfl, e, fun i _ hi => absurd hi (Nat.not_lt_zero _)⟩
    · rename_i e
      obtain ⟨j, z, h1, h2, h3, h4⟩ := indexD_spec h
      refine ⟨j + 1, z, by omega, by simpa using h2, h3, fun i z' hi hz => ?_⟩
      cases i with
      | zero => simp at hz; subst hz; simpa using e
      | succ i => exact h4 i z' (by omega) (by simpa using hz)
theorem m_index (ck : Ck k X) : MtR X "list.index" (rM k .index) := by
  intro pins s σ H x xs v us Q I rx rv ⟨ex, am, M, vo, vs, z, M', rm, ro, rvs, hm, q⟩
  obtain ⟨d0, rfl, hm⟩ := vD_some hm
  obtain ⟨ys, rfl, hm⟩ := dList_some hm
  obtain ⟨v1, rfl, hm⟩ := v1_some hm
  obtain ⟨y, rfl, hm⟩ := vD_some hm
  obtain ⟨hc, hm⟩ := oB_some hm
  obtain ⟨n, hi, hm⟩ := Option.map_eq_some_iff.mp hm
  cases hm
  obtain ⟨w, rfl, rw_⟩ := rvs1 rvs
  obtain ⟨j, zz, e, h1, h2, h3⟩ := indexD_spec hi
  rw [Nat.zero_add] at e
  subst e
  by_cases hfl : (flatD y && ys.all flatD) = true
  · rw [Bool.and_eq_true] at hfl
    obtain ⟨p, ws, rfl, hp, _, r⟩ := ro
    obtain ⟨vz, hvz, rz⟩ := r.get h1
    have fz : ∀ {i : Nat} {z' : D}, ys[i]? = some z' → flatD z' = true := fun h => List.all_eq_true.mp hfl.2 _ (List.mem_of_getElem? h)
    refine mt_index pins s σ H _ _ v us Q I rx rv ⟨p, ws, w, n, vz, rfl, rfl, .inl (.inl hp), flat_R rw_ hfl.1, all_flat r hfl.2, hvz, by rw [eq_R rz rw_ (fz h1) hfl.1]; exact h2, fun i z' hi hz => ?_, q am H _ rm F.refl rfl⟩
    have hil : i < ys.length := by rw [r.length]; exact (List.getElem?_eq_some_iff.mp hz).1
    obtain ⟨v', hv', r'⟩ := r.get (List.getElem?_eq_getElem hil)
    rw [hz] at hv'
    cases hv'
    rw [eq_R r' rw_ (fz (List.getElem?_eq_getElem hil)) hfl.1]
    exact h3 i _ hi (List.getElem?_eq_getElem hil)
  · have hsh : (SeqAt.shaped y && SeqAt.shaped (.list ys)) = true := by
      rcases Bool.or_eq_true _ _ ▸ hc with hc | hc
      · exact absurd hc hfl
      · exact hc
    rw [Bool.and_eq_true] at hsh
    have dp1 : Dp X.K H x (.list ys) := by rw [ck.K]; exact R.dp _ _ ro
    have dp2 : Dp X.K H w y := by rw [ck.K]; exact R.dp _ _ rw_
    obtain ⟨p, ws, rfl, hp, _, r⟩ := ro
    exact mt_indexD (by have := ck.hu; omega) pins s σ H _ _ v us Q I rx rv ⟨p, w, y, ys, n, zz, rfl, rfl, dp1, dp2, hsh.2, hsh.1, h1, h2, h3, q am H _ rm F.refl rfl⟩
theorem m_indexT (ck : Ck k X) : MtR X "tuple.index" (rM k .indexT) := by
  intro pins s σ H x xs v us Q I rx rv ⟨ex, am, M, vo, vs, z, M', rm, ro, rvs, hm, q⟩
  obtain ⟨d0, rfl, hm⟩ := vD_some hm
  obtain ⟨ys, rfl, hm⟩ := dTup_some hm
  obtain ⟨v1, rfl, hm⟩ := v1_some hm
  obtain ⟨y, rfl, hm⟩ := vD_some hm
  obtain ⟨hfl, hm⟩ := oB_some hm
  obtain ⟨n, hi, hm⟩ := Option.map_eq_some_iff.mp hm
  cases hm
  obtain ⟨w, rfl, rw_⟩ := rvs1 rvs
  obtain ⟨j, zz, e, h1, h2, h3⟩ := indexD_spec hi
  rw [Nat.zero_add] at e
  subst e
  rw [Bool.and_eq_true] at hfl
  obtain ⟨p, ws, rfl, hp, r⟩ := ro
  obtain ⟨vz, hvz, rz⟩ := r.get h1
  have fz : ∀ {i : Nat} {z' : D}, ys[i]? = some z' → flatD z' = true := fun h => List.all_eq_true.mp hfl.2 _ (List.mem_of_getElem? h)
  refine mt_indexT pins s σ H _ _ v us Q I rx rv ⟨p, ws, w, n, vz, rfl, rfl, by rw [ck.K]; exact hp.sq, flat_R rw_ hfl.1, all_flat r hfl.2, hvz, by rw [eq_R rz rw_ (fz h1) hfl.1]; exact h2, fun i z' hi hz => ?_, q am H _ rm F.refl rfl⟩
  have hil : i < ys.length := by rw [r.length]; exact (List.getElem?_eq_some_iff.mp hz).1
  obtain ⟨v', hv', r'⟩ := r.get (List.getElem?_eq_getElem hil)
  rw [hz] at hv'
  cases hv'
  rw [eq_R r' rw_ (fz (List.getElem?_eq_getElem hil)) hfl.1]
  exact h3 i _ hi (List.getElem?_eq_getElem hil)
end
end Mp
end
section
set_option maxHeartbeats 4000000
/-! Dicts with tuples as keys: stores, a display; sorted. -/
namespace Mp
open PySem PySem.Spec PyProof.Rows L2

section
variable {X : Cx} {k : Kx} {E : XK} {e a b c o tg : Expr} {es : List Expr} {pos p0 p1 p apos cpos : Pos} {f g h : SF} {A : SA} {u v : SS}

/-! ### dicts -/
theorem RD.length {K : Kf} {H : Hp} {av : Addr → Prop} : ∀ {kvs : List (NestedKey × D)} {xs : List (NestedKey × Addr × V)}, RD K H av kvs xs → kvs.length = xs.length
  | [], _, h => by cases (show _ = [] from h); rfl
  | x :: kvs, _, h => by
    obtain ⟨q, v, r, e, _, _, _, h2⟩ := h
    subst e
    simp [RD.length h2]
def putN (xs : List (NestedKey × Addr × V)) (q : NestedKey) (b : Addr) (v : V) : List (NestedKey × Addr × V) :=
  if (atN xs q).isSome then xs.map fun x => if x.1 = q then (x.1, x.2.1, v) else x else xs ++ [(q, b, v)]
abbrev PN := Paired (fun (x : NestedKey × Addr × V) (u : NestedKey × Addr × Value) => x.1 = u.1 ∧ x.2.1 = u.2.1 ∧ RelV x.2.2 u.2.2)
theorem PN.put {q : NestedKey} {b : Addr} {v : V} {r : Value} (rv : RelV v r) : ∀ {xs : List (NestedKey × Addr × V)} {us : List (NestedKey × Addr × Value)}, PN xs us → PN (putN xs q b v) (storedH us q b r) := by
  intro xs us pr
  have rep : ∀ {xs : List (NestedKey × Addr × V)} {us : List (NestedKey × Addr × Value)}, PN xs us → PN (xs.map fun x => if x.1 = q then (x.1, x.2.1, v) else x) (us.map (putAt q r)) := by
    intro xs us pr
    induction pr with
    | nil => exact .nil
    | cons p pr ih =>
      rename_i x u xs us
      obtain ⟨p1, p2, p3⟩ := p
      rw [List.map_cons, List.map_cons]
      refine .cons ?_ ih
      unfold putAt
      by_cases e : x.1 = q
      · have e' : u.1 = q := by rw [← p1]; exact e
        rw [if_pos e, if_pos e']
        exact ⟨p1, p2, rv⟩
      · have e' : ¬ u.1 = q := by rw [← p1]; exact e
        rw [if_neg e, if_neg e']
        exact ⟨p1, p2, p3⟩
  have app : ∀ {xs : List (NestedKey × Addr × V)} {us : List (NestedKey × Addr × Value)}, PN xs us → PN (xs ++ [(q, b, v)]) (us ++ [(q, b, r)]) := by
    intro xs us pr
    induction pr with
    | nil => exact .cons ⟨rfl, rfl, rv⟩ .nil
    | cons p pr ih => exact .cons p ih
  unfold putN storedH
  rw [(atN_key pr q).1]
  split
  · exact rep pr
  · exact app pr
theorem PN.keys {xs : List (NestedKey × Addr × V)} {us : List (NestedKey × Addr × Value)} (pr : PN xs us) : us.map (·.1) = xs.map (·.1) := by
  induction pr with
  | nil => rfl
  | cons p _ ih => rw [List.map_cons, List.map_cons, ih, p.1]
theorem putN_len {xs : List (NestedKey × Addr × V)} {q : NestedKey} {b : Addr} {v : V} : (putN xs q b v).length ≤ xs.length + 1 := by
  unfold putN
  split <;> simp
theorem RD.put {K : Kf} {H : Hp} {av : Addr → Prop} {q : NestedKey} {b : Addr} {v : V} {z : D} (hd : q.depth ≤ 8) (rq : R K H av q.data (.ref b)) (rz : R K H av z v) {kvs : List (NestedKey × D)} {xs : List (NestedKey × Addr × V)} (r : RD K H av kvs xs) : RD K H av (dPut kvs q z) (putN xs q b v) := by
  have rep : ∀ {kvs : List (NestedKey × D)} {xs : List (NestedKey × Addr × V)}, RD K H av kvs xs → RD K H av (kvs.map fun kv => if kv.1 = q then (kv.1, z) else kv) (xs.map fun x => if x.1 = q then (x.1, x.2.1, v) else x) := by
    intro kvs
    induction kvs with
    | nil => intro xs h; cases (show xs = [] from h); rfl
    | cons x kvs ih =>
      intro xs h
      obtain ⟨a, w, t, rfl, h1, h2, h3, h4⟩ := h
      by_cases e : x.1 = q
      · exact ⟨a, v, _, by simp [e], by simp [e]; exact hd, by simp [e]; rw [← e]; exact h2, by simp [e]; exact rz, ih h4⟩
      · exact ⟨a, w, _, by simp [e], by simp [e]; exact h1, by simp [e]; exact h2, by simp [e]; exact h3, ih h4⟩
  have app : ∀ {kvs : List (NestedKey × D)} {xs : List (NestedKey × Addr × V)}, RD K H av kvs xs → RD K H av (kvs ++ [(q, z)]) (xs ++ [(q, b, v)]) := by
    intro kvs
    induction kvs with
    | nil => intro xs h; cases (show xs = [] from h); exact ⟨b, v, [], rfl, hd, rq, rz, rfl⟩
    | cons x kvs ih =>
      intro xs h
      obtain ⟨a, w, t, rfl, h1, h2, h3, h4⟩ := h
      exact ⟨a, w, _, rfl, h1, h2, h3, ih h4⟩
  have e : (kvs.any fun kv => decide (kv.1 = q)) = (atN xs q).isSome := by
    rw [← (r.get q).1]
    unfold dGet
    rw [Option.isSome_map]
    have : ∀ (l : List (NestedKey × D)), (l.any fun kv => decide (kv.1 = q)) = (l.find? fun kv => decide (kv.1 = q)).isSome := by
      intro l
      induction l with
      | nil => rfl
      | cons x l ih =>
        by_cases e : x.1 = q
        · simp [e]
        · simp [e]; exact ih
    exact this kvs
  unfold dPut putN
  rw [e]
  split
  · exact rep r
  · exact app r
/-- the dict as it lies, from the library's word -/
theorem dN_ok {K : Kf} {P : Program} {w : World} {H : Hp} {h : Heap} {a : Addr} {xs : List (NestedKey × Addr × V)} {us : List (NestedKey × Addr × Value)} (hP : P = K.P) (hw : w = K.w) (hs : (a == sysModules) = false) (hl : xs.length ≤ sizeLine) (pr : PN xs us) (hm : h.DictOfH (nestedKind P w) a us) : ObjOk P w H h a (dN K a xs) := by
  obtain ⟨o, es, ep, ho, hc, hd, he, his, hn⟩ := hm
  refine ⟨⟨hs, hl, by rw [← PN.keys pr]; exact hn, us, pr, o, es, ep, ho, hc, hd, by rw [← hP, ← hw]; exact he⟩, ⟨o, ho⟩, fun h1 h2 hφ hk => ?_⟩
  obtain ⟨c1, c2, c3, us', pr', o', es', ep', ho', hc', hd', he'⟩ := hφ
  exact ⟨c1, c2, c3, us', pr', o', es', ep', hk o' ho', hc', hd', he'⟩
theorem n_set (ck : Ck k X) {pins : List (Addr × Obj)} {s : Shared} {σ : L2.St} {H : Hp} {a : Addr} {d z : D} {q : NestedKey} {y v : V} {u r : Value} {Q : Unit → Shared → Prop} {kvs : List (NestedKey × D)} {xs : List (NestedKey × Addr × V)} {av : Addr → Prop} (I : Inv X pins σ H s)
    (hp : H a = some (dN k.K a xs)) (hr : RD k.K H av kvs xs) (hq : nkT d = some q) (ry : R k.K H av d y) (rv : RelV y u) (rz : R k.K H av z v) (rr : RelV v r) (hl : kvs.length < lim)
    (hQ : ∀ s' xs', Inv X pins σ (upd H a (dN k.K a xs')) s' → (∀ H' av', Agr k.K H av H' av' → RD k.K H' av' (dPut kvs q z) xs') → Q () s') : wpAny (model X.prog X.w) X.A (setItem (.ref a) u r) Q X.xe s := by
  obtain ⟨h1, h2, _, us, pr, hm⟩ := dict_at ck.K ck.P ck.w I hp hr
  obtain ⟨e1, e2⟩ := nkT_data hq
  have hn := nest_is ck.K I q y u (by rw [e1]; exact ry) rv
  obtain ⟨b, rfl⟩ : ∃ b, y = .ref b := by
    cases d with
    | tuple xs => obtain ⟨b, _, e, _⟩ := ry; exact ⟨b, e⟩
    | _ => cases hq
  cases rv
  have hul : us.length = xs.length := by have := congrArg List.length (PN.keys pr); simpa using this
  refine wpAny_setItem_heap (room8 ck.hu) ⟨hn, e2⟩ hm (fun h' hm' sb => ?_) (by rw [hul]; exact h2)
  refine hQ _ (putN xs q b v) (I.write (t' := s.toks + (nestedKind X.prog X.w).draws q) (x := a) (e := a) (by rw [hp]; exact trivial) (.inl rfl) (fun b o hb e => (sb.2 b hb).trans e) (let ⟨o, _, _, ho, _⟩ := hm'; ⟨o, ho⟩) (dN_ok ck.P ck.w h1 ?_ (PN.put rr pr) hm')) fun H' av' g => ?_
  · have := putN_len (xs := xs) (q := q) (b := b) (v := v)
    have := hr.length
    have := lim_lt hl
    omega
  · exact (g.rd _ _ hr).put e2 (g.r _ _ (by rw [e1]; exact ry)) (g.r _ _ rz)
theorem set_ok (ck : Ck k X) : PSet X (rSet k) := set_all ck fun I hp hr hq ry rv rz rr hl hQ => n_set ck I hp hr hq ry rv rz rr hl hQ
theorem se_dnwK : SE X k E (.Dict [] [] pos) (sDnw false) :=
  PE.imp pe_dnewK fun σ H Q ⟨ex, am, env, M, rm, re, p⟩ => by
    intro q hq
    have al := rm.alloc (o := .dK []) (ob := .dK []) hq rfl fun H' av' am' g _ hs => ⟨[], hs, rfl⟩
    refine p _ _ al.1 al.2 _ ⟨q, ?_, rfl⟩
    rw [← rm.len]
    simp
theorem dictOfH_new {P : Program} {w : World} (h : Heap) : (h.push { cls := .type "dict", data := .dict #[] }).DictOfH (nestedKind P w) h.objs.size [] :=
  ⟨_, #[], 0, Heap.get?_push_size _ rfl, ⟨rfl, rfl, rfl⟩, rfl, rfl, fun x hx => by simp at hx, List.nodup_nil⟩
theorem pe_dnewN (ck : Ck k X) : PE X (.Dict [] [] pos) (fun _ H Q => ∀ p, H p = none → Q (.ref p) (upd H p (dN k.K p []))) := ⟨fun pins s σ H Q I h =>
  wpAny_Dict_empty ⟨.ref s.heap.objs.size, _, I.laid (a := s.heap.objs.size) (o := dN k.K s.heap.objs.size []) (t' := s.toks) (fun _ _ q => Heap.get?_push_of_some _ q) (Nat.le_refl _)
    (dN_ok ck.P ck.w (beq_eq_false_iff_ne.mpr (Nat.ne_of_gt I.big)) (Nat.zero_le _) .nil (dictOfH_new _)), rfl, h _ (I.hok.fresh (Nat.le_refl _))⟩⟩
theorem se_dnwT (ck : Ck k X) : SE X k E (.Dict [] [] pos) (sDnw true) :=
  PE.imp (pe_dnewN ck) fun σ H Q ⟨ex, am, env, M, rm, re, p⟩ => by
    intro q hq
    have al := rm.alloc (o := dN k.K q []) (ob := .dT []) hq rfl fun H' av' am' g _ hs => ⟨[], hs, rfl⟩
    refine p _ _ al.1 al.2 _ ⟨q, ?_, rfl⟩
    rw [← rm.len]
    simp
theorem upd_upd {H : Hp} {p : Addr} {o o' : HO} : upd (upd H p o) p o' = upd H p o' := by
  funext b
  by_cases e : b = p
  · subst e; rw [upd_same, upd_same]
  · rw [upd_ne e, upd_ne e, upd_ne e]
theorem dict_pairs {prog : Program} {w : World} {κ : Type} [DecidableEq κ] {knd : HeapKind prog w κ} {A : Around} {E : Value → Shared → Prop} {s : Shared} {env : PySem.Env} {keys : List (Option Expr)} {values : List Expr} {pos : Pos} {pairs : List (Sem Value × Sem Value)} {Q : Value → Shared → Prop} (hu : knd.room A)
    (hshape : (evalEachOpt keys env).zip ((evalEach values env).map fun v => do let x ← v; standAt pos; pure x) = pairs.map fun p => (some p.1, p.2)) (h0 : pairs ≠ []) (hlen : pairs.length ≤ 15)
    (h : wpAny (model prog w) A (evalPairs pairs) (fun vs s₁ => ∃ ps, CarriesH knd s₁.heap vs ps ∧ s₁.heap.DictOfH knd s.heap.objs.size [] ∧
      ∀ h' tk, h'.DictOfH knd s.heap.objs.size (storedAllH [] ps) → Heap.SameBut s.heap.objs.size s₁.heap h' → Q (.ref s.heap.objs.size) { s₁ with heap := h', toks := tk }) E
      { s with heap := s.heap.push { cls := .type "dict", data := .dict #[] } }) :
    wpAny (model prog w) A (eval (.Dict keys values pos) env) Q E s := by
  rw [arm_eval_Dict, hshape, dictDisplay_pairs pairs h0 (by omega)]
  exact wpAny_bind (wpAny_standAt (wpAny_bind (wpAny_subDictH (knd := knd) (Q := fun d s' => wpAny (model prog w) A (pure (Value.ref d)) Q E s') hu hlen
    (wpAny_mono h (fun vs s₁ h₁ => by obtain ⟨ps, hc, hm, hq⟩ := h₁; exact ⟨ps, hc, hm, fun h' tk a b => wpAny_pure (hq h' tk a b)⟩) fun _ _ e => e))))
/-- {x: True}, x a name -/
theorem se_ddsp {i : Nat} {x : Str} {t : Bool} {j : Nat} (ck : Ck k X) (hN : X.N[i]? = some x) (hv : Vis X.env.scope x) (hd : (x == ("__debug__" : Str)) = false) (hcd : (x == ("__classdict__" : Str)) = false) :
    SE X k E (.Dict [some (.Name x p0)] [.Constant (.bool t) j p1] pos) (sDdsp (sVar i) (sCon (.bool t))) := by
  refine ⟨fun pins s σ H Q I ⟨ex, am, env, M, rm, re, p⟩ => ?_⟩
  have hn := I.hok.fresh (Nat.le_refl s.heap.objs.size)
  have hsm : (s.heap.objs.size == sysModules) = false := beq_eq_false_iff_ne.mpr (Nat.ne_of_gt I.big)
  cases hg : getE env i with
  | none =>
    have pp : Po k ex am M H E (Res.bind (ofO (getE env i) M) fun v M1 => (sCon (.bool t) env M1).bind fun w M2 => match v, w with
      | .d x, .d y => match nkT x with
        | some ks => .ok (.ref M2.length) (M2 ++ [.dT [(ks, y)]])
        | none => .no
      | _, _ => .no) (okV k ex Q) := p
    rw [hg] at pp
    exact pp.elim
  | some vv =>
    have pp : Po k ex am M H E (match vv, Val.d (.bool t) with
      | .d x, .d y => match nkT x with
        | some ks => .ok (.ref M.length) (M ++ [.dT [(ks, y)]])
        | none => .no
      | _, _ => .no) (okV k ex Q) := by
      have pp : Po k ex am M H E (Res.bind (ofO (getE env i) M) fun v M1 => (sCon (.bool t) env M1).bind fun w M2 => match v, w with
        | .d x, .d y => match nkT x with
          | some ks => .ok (.ref M2.length) (M2 ++ [.dT [(ks, y)]])
          | none => .no
        | _, _ => .no) (okV k ex Q) := p
      rw [hg] at pp
      exact pp
    cases vv with
    | ref _ => exact pp.elim
    | d d =>
      dsimp only at pp
      cases hk : nkT d with
      | none => rw [hk] at pp; exact pp.elim
      | some ks =>
        rw [hk] at pp
        obtain ⟨e1, e2⟩ := nkT_data hk
        obtain ⟨y, hy, ry⟩ := re.2 i _ hg
        have I1 := I.laid (a := s.heap.objs.size) (o := dN k.K s.heap.objs.size []) (h' := s.heap.push { cls := .type "dict", data := .dict #[] }) (t' := s.toks) (fun _ _ q => Heap.get?_push_of_some _ q) (Nat.le_refl _)
          (dN_ok ck.P ck.w hsm (Nat.zero_le _) .nil (dictOfH_new _))
        refine dict_pairs (knd := nestedKind X.prog X.w) (pairs := pairTrees [some (.Name x p0)] [.Constant (.bool t) j p1] X.env pos) (by show X.A.units + 8 < cLine; have := ck.hu; omega) rfl (by intro z; cases z) (show 1 ≤ 15 by decide) ?_
        refine thn ((pps_cons (pe_var hN hv hd hcd) pe_bl pps_nil).run pins _ σ _ (fun ps H2 => ps = [(y, .bl t)] ∧ H2 = upd H s.heap.objs.size (dN k.K s.heap.objs.size [])) I1 ⟨y, hy, rfl, rfl⟩) fun ws s2 ⟨ps, H2, I2, rel, ep, eH⟩ => ?_
        subst ep eH
        obtain ⟨w1, w2, rfl, r1, r2⟩ : ∃ w1 w2, ws = [(w1, w2)] ∧ RelV y w1 ∧ RelV (.bl t) w2 := by
          cases rel with
          | cons rel1 relr => cases relr; exact ⟨_, _, rfl, rel1.1, rel1.2⟩
        obtain ⟨b, rfl⟩ : ∃ b, y = .ref b := by
          cases d with
          | tuple xs => obtain ⟨b, _, e, _⟩ := ry; exact ⟨b, e⟩
          | _ => cases hk
        cases (show w1 = Value.ref b from r1)
        have g0 := rm.agr (F.new (am := am) (M := M) (o := dN k.K s.heap.objs.size []) hn)
        have hnest := nest_is ck.K I2 ks (.ref b) (.ref b) (by rw [e1]; exact g0.r _ _ ry) rfl
        obtain ⟨z1, _, _, us0, pr0, hm0⟩ := dict_at ck.K ck.P ck.w I2 (K := k.K) (av := avS ex am M) (kvs := []) (xs := []) upd_same rfl
        cases pr0
        refine ⟨[(ks, b, w2)], ⟨rfl, rfl, ⟨hnest, e2⟩, trivial⟩, hm0, fun h' tk hm' sb => ?_⟩
        have hm1 : h'.DictOfH (nestedKind X.prog X.w) s.heap.objs.size [(ks, b, w2)] := hm'
        have nw := dN_ok (H := upd (upd H s.heap.objs.size (dN k.K s.heap.objs.size [])) s.heap.objs.size (dN k.K s.heap.objs.size [(ks, b, .bl t)])) ck.P ck.w hsm (show ([(ks, b, V.bl t)] : List (NestedKey × Addr × V)).length ≤ sizeLine by rw [sizeLine_eq]; show 1 ≤ 16777216; decide) (.cons ⟨rfl, rfl, r2⟩ .nil) hm1
        have I3 := I2.write (t' := tk) (x := s.heap.objs.size) (e := s.heap.objs.size) (by rw [upd_same]; exact trivial) (.inl rfl) (fun b o hb e => (sb.2 b hb).trans e) (let ⟨o, _, _, ho, _⟩ := hm1; ⟨o, ho⟩) nw
        rw [upd_upd] at I3
        have al := rm.alloc (o := dN k.K s.heap.objs.size [(ks, b, .bl t)]) (ob := .dT [(ks, .bool t)]) hn rfl fun H' av' am' g _ hs => ⟨[(ks, b, .bl t)], hs, b, .bl t, [], rfl, e2, g.r _ _ (by rw [e1]; exact ry), rfl, rfl⟩
        exact ⟨.ref s.heap.objs.size, _, I3, rfl, pp _ _ al.1 al.2 _ ⟨_, by rw [← rm.len]; simp, rfl⟩⟩
end
end Mp
end
section
set_option maxHeartbeats 4000000
/-! Tuples with nothing in them can be sorted, however many. -/
namespace Mp
open PySem PySem.Spec PyProof.Rows L2
section
open PySem.SeqAt
theorem tup_lt_call {prog : Program} {w : World} {A : Around} {s : Shared} {E : Value → Shared → Prop} {Q : Value → Shared → Prop} {l b : Addr} (hl : s.heap.IsTuple l #[]) (hb : s.heap.IsTuple b #[])
    (h : Q (.bool false) s) : wpAny (model prog w) A (call (.builtin "tuple.__lt__") [.ref l, .ref b]) Q E s := by
  obtain ⟨⟨k1, x1, y1, z1⟩, g1, c1, n1, d1⟩ := id hl
  obtain ⟨⟨k2, x2, y2, z2⟩, g2, c2, n2, d2⟩ := id hb
  simp only at c1 d1 c2 d2
  subst c1 d1 c2 d2
  exact call_meets F.slot_tuple_lt ⟨_, g1, rfl⟩ F.entry_tuple_lt (F.args_tuple_lt_2 _ _) (tuple_ltAt l b #[] #[] n1 n2 x1 x2 z1 z2 (fun _ => false) (fun _ => false)) ⟨g1, g2, fun j h1 _ => absurd h1 (Nat.not_lt_zero _), fun j h1 _ => absurd h1 (Nat.not_lt_zero _), h⟩
theorem tup_firsts {M : Model} {A : Around} {E : Value → Shared → Prop} {s : Shared} : ∀ (vs : List Value) {Q : List (Option Value) → Shared → Prop}, (∀ v ∈ vs, ∃ a, v = .ref a ∧ s.heap.IsTuple a #[]) → Q (vs.map fun _ => none) s → wpAny M A (vs.mapM firstOfTuple') Q E s
  | [], _, _, h => by rw [List.mapM_nil]; exact wpAny_pure h
  | v :: vs, Q, hv, h => by
    obtain ⟨a, rfl, ⟨o, ho, hc, n, hd⟩⟩ := hv v (.head _)
    rw [List.mapM_cons]
    refine wpAny_bind ?_
    rw [PySem.W.kas_first_eq]
    refine wpAny_bind (PySem.W.Looks.here (show PySem.W.Looks M s.heap (typeOf (.ref a)) o.cls from (PySem.W.Looks.ld ho).andThen .now) ?_)
    rw [hc, if_neg (by first | decide | simp)]
    refine wpAny_bind (listItems_at ho hd (wpAny_pure ?_))
    exact wpAny_bind (tup_firsts vs (Q := fun bs s' => wpAny M A (pure (none :: bs)) Q E s') (fun u hu => hv u (.tail _ hu)) (wpAny_pure h))
theorem tup_kind0 {M : Model} {A : Around} {E : Value → Shared → Prop} {s : Shared} {vs : List Value} {Q : SortKind → Shared → Prop} (h2 : 2 ≤ vs.length) (hv : ∀ v ∈ vs, ∃ a, v = .ref a ∧ s.heap.IsTuple a #[]) (h : Q oneType' s) :
    wpAny M A (keyKind' vs.toArray) Q E s := by
  obtain ⟨v1, v2, r, rfl⟩ : ∃ v1 v2 r, vs = v1 :: v2 :: r := by
    match vs, h2 with
    | [], h2 => simp at h2
    | [_], h2 => simp at h2
    | v1 :: v2 :: r, _ => exact ⟨v1, v2, r, rfl⟩
  rw [PyProof.Rows.kat_kind_eq, List.mapM_toArray, map_eq_pure_bind]
  refine wpAny_bind (wpAny_bind (tup_firsts _ hv (wpAny_pure ?_)))
  rw [if_neg (by simp), if_neg (by simp)]
  rw [oneTypeOnly'_eq, List.mapM_toArray, map_eq_pure_bind]
  refine wpAny_bind (wpAny_bind (wpAny_bind (PySem.W.kas_mapM (r := Value.type "tuple") _ (fun v hm Q' hq => ?_) (wpAny_pure ?_))))
  · obtain ⟨a, rfl, ⟨o, ho, hc, n, hd⟩⟩ := hv v hm
    refine PySem.W.Looks.here (show PySem.W.Looks M s.heap (typeOf (.ref a)) (Value.type "tuple") from ?_) hq
    rw [← hc]
    exact (PySem.W.Looks.ld ho).andThen .now
  · have e1 : ((List.map (fun _ => Value.type "tuple") (v1 :: v2 :: r)).toArray.all fun x => x == Value.type "tuple") = true := by
      simp only [List.all_toArray, List.all_map, List.all_eq_true]
      intro _ _
      rfl
    have e0 : (List.map (fun _ => Value.type "tuple") (v1 :: v2 :: r)).toArray[0]? = some (Value.type "tuple") := by simp
    rw [e0]
    simp only [e1, if_true]
    exact wpAny_pure (wpAny_pure h)
theorem sorts0 {prog : Program} {w : World} {A : Around} {s : Shared} {vs : List Value} {ds : List D} (e : PySem.W.EachIs (fun v d => ∃ as, Reads s.heap v d as) vs ds) (hal : PySem.W.AllAlike ds) (ht : ∀ d ∈ ds, d = .tuple []) (hu : A.units < cLine) :
    PySem.W.SortsAt prog w A s (PySem.W.dataKind s.heap ds) vs := by
  have hv : ∀ v ∈ vs, ∃ a, v = .ref a ∧ s.heap.IsTuple a #[] := by
    intro v hv
    obtain ⟨d, hd, as, r⟩ := e.left v hv
    rw [ht d hd] at r
    cases r with
    | @tuple l o xs n _ _ h1 h2 h3 h4 =>
      have n1 : xs.size = 0 := by simpa using SeqAt.ReadsAll.length _ _ _ h4
      rw [Array.size_eq_zero_iff.mp n1] at h3
      exact ⟨l, rfl, _, h1, h2, _, h3⟩
  refine ⟨fun v hv => ?_, oneType', ?_, fun h2 E Q hq => tup_kind0 h2 hv hq⟩
  · obtain ⟨d, hd, as, r⟩ := e.left v hv
    exact ⟨_, PySem.W.dataKind_some hal hd r⟩
  · intro E x y a b Q ha hb hq
    obtain ⟨d, as, hd, ra, rfl⟩ := PySem.W.dataKind_inv ha
    obtain ⟨d', as', hd', rb, rfl⟩ := PySem.W.dataKind_inv hb
    have e1 := ht d hd
    have e2 := ht d' hd'
    subst e1 e2
    have hq' : Q (PySem.W.dataLt (.tuple []) (.tuple [])) s := hq
    have h0 : PySem.W.dataLt (.tuple []) (.tuple []) = false := PyProof.Rows.lex_irrefl _
    rw [h0] at hq'
    cases ra with
    | @tuple l o xs n _ _ h1 h2 h3 h4 =>
      cases rb with
      | @tuple l' o' xs' n' _ _ k1 k2 k3 k4 =>
        have n1 : xs.size = 0 := by simpa using SeqAt.ReadsAll.length _ _ _ h4
        have n2 : xs'.size = 0 := by simpa using SeqAt.ReadsAll.length _ _ _ k4
        rw [Array.size_eq_zero_iff.mp n1] at h3
        rw [Array.size_eq_zero_iff.mp n2] at k3
        rw [keyLt'_oneType, oneLt'_eq]
        simp only [if_true]
        refine wpAny_bind (wpAny_cRoomFor hu ?_)
        refine wpAny_bind (wpAny_callSpecialIfBound?_slot (T := "tuple") ⟨_, h1, h2⟩ F.slot_tuple_lt (tup_lt_call ⟨_, h1, h2, _, h3⟩ ⟨_, k1, k2, _, k3⟩ ?_))
        exact wpAny_truthy_bool hq'
end
end Mp
end
section
set_option maxHeartbeats 4000000
/-! sorted; list(range(..)), tuple(range(..)); x[::-1]; enumerate. -/
namespace Mp
open PySem PySem.Spec PyProof.Rows L2

section
variable {X : Cx} {k : Kx} {E : XK} {e a b c o tg : Expr} {es : List Expr} {pos p0 p1 p apos cpos : Pos} {f g h : SF} {A : SA} {u v : SS}

/-- one tuple, or none, can be sorted -/
theorem sorts1 {prog : Program} {w : World} {A : Around} {s : Shared} {vs : List Value} {ds : List D} (e : PySem.W.EachIs (fun v d => ∃ as, Reads s.heap v d as) vs ds) (hal : PySem.W.AllAlike ds) (h1 : ds.length ≤ 1) (ht : ∀ d ∈ ds, ∃ xs, d = .tuple xs) (hu : ∀ d, d ∈ ds → A.units + d.depth < cLine) :
    PySem.W.SortsAt prog w A s (PySem.W.dataKind s.heap ds) vs := by
  refine ⟨fun v hv => ?_, tuples' false, ?_, fun h2 => ?_⟩
  · obtain ⟨d, hd, as, r⟩ := e.left v hv
    exact ⟨_, PySem.W.dataKind_some hal hd r⟩
  · intro E x y a b Q ha hb hq
    obtain ⟨d, as, hd, ra, rfl⟩ := PySem.W.dataKind_inv ha
    obtain ⟨d', as', hd', rb, rfl⟩ := PySem.W.dataKind_inv hb
    have hdd := hal d hd d' hd'
    obtain ⟨x1, rfl⟩ := ht d hd
    obtain ⟨x2, rfl⟩ := ht d' hd'
    have hq' : Q (PySem.W.dataLt (.tuple x1) (.tuple x2)) s := hq
    rw [PySem.W.dataLt_tuple] at hq'
    cases ra with
    | @tuple l o xs n _ _ h1 h2 h3 h4 =>
      cases rb with
      | @tuple l' o' xs' n' _ _ k1 k2 k3 k4 =>
        have n1 : xs.size = x1.length := by simpa using SeqAt.ReadsAll.length _ _ _ h4
        have n2 : xs'.size = x2.length := by simpa using SeqAt.ReadsAll.length _ _ _ k4
        have hroom : A.units + min (PyData.tuple x1).depth (PyData.tuple x2).depth < cLine := Nat.lt_of_le_of_lt (Nat.add_le_add_left (Nat.min_le_left _ _) _) (hu _ hd)
        refine PySem.W.kat_lt h1 h3 k1 k3 (PySem.W.katLex_alike x1 x2 0 _ _ _ _ h4 k4 (by simpa [PySem.W.alike] using hdd) (by have q := SeqAt.room_in hroom; omega) (fun hb => by cases hb) (by rw [n1, n2]) hq')
  · have := e.length
    omega
theorem sorts_ok {prog : Program} {w : World} {A : Around} {s : Shared} {vs : List Value} {ds : List D} (e : PySem.W.EachIs (fun v d => ∃ as, Reads s.heap v d as) vs ds) (h : sortB ds = true) (hu : A.units + 40 < cLine) :
    PySem.W.AllAlike ds ∧ PySem.W.SortsAt prog w A s (PySem.W.dataKind s.heap ds) vs := by
  unfold sortB at h
  rw [Bool.and_eq_true, Bool.and_eq_true] at h
  obtain ⟨⟨h1, h2⟩, h3⟩ := h
  have hal : PySem.W.AllAlike ds := fun d hd d' hd' => List.all_eq_true.mp (List.all_eq_true.mp h1 d hd) d' hd'
  have hu' : ∀ d, d ∈ ds → A.units + d.depth < cLine := fun d hd => by
    have := of_decide_eq_true (List.all_eq_true.mp h3 d hd)
    omega
  refine ⟨hal, ?_⟩
  rcases Bool.or_eq_true _ _ ▸ h2 with h2 | h2
  · rcases Bool.or_eq_true _ _ ▸ h2 with h2 | h2
    · rcases Bool.or_eq_true _ _ ▸ h2 with h2 | h2
      · refine .data e hal (.inl fun d hd => ?_) hu'
        have := List.all_eq_true.mp h2 d hd
        unfold isTupNe at this
        split at this
        · exact ⟨_, _, rfl⟩
        · cases this
      · refine .data e hal (.inr fun d hd => ?_) hu'
        have := List.all_eq_true.mp h2 d hd
        unfold isOth at this
        split at this
        · cases this
        · cases this
        · rename_i n1 n2
          exact ⟨fun e => n1 e, fun xs e => n2 xs e⟩
    · rw [Bool.and_eq_true] at h2
      refine sorts1 e hal (of_decide_eq_true h2.1) (fun d hd => ?_) hu'
      have := List.all_eq_true.mp h2.2 d hd
      unfold isTupD at this
      split at this
      · exact ⟨_, rfl⟩
      · cases this
  · refine sorts0 e hal (fun d hd => ?_) (by omega)
    have := List.all_eq_true.mp h2 d hd
    unfold isTup0 at this
    split at this
    · rfl
    · cases this

theorem each_of {K : Kf} {H : Hp} {av : Addr → Prop} {pins : List (Addr × Obj)} {s : Shared} {σ : L2.St} (hK : X.K = K.K) (I : Inv X pins σ H s) : ∀ {ds : List D} {vs : List V} {its : List Value}, Rs K H av ds vs → Vals vs its →
    PySem.W.EachIs (fun v d => (∃ x, RelV x v ∧ R K H av d x) ∧ ∃ as, Reads s.heap v d as) its ds
  | [], _, _, r, rv => by cases (show _ = [] from r); cases rv; exact .nil
  | d :: ds, _, _, r, rv => by
    obtain ⟨x, t, rfl, r1, r2⟩ := r
    cases rv with
    | cons v1 v2 => exact .cons ⟨⟨x, v1, r1⟩, Dp.reads I d x _ (by rw [hK]; exact R.dp d x r1) v1⟩ (each_of hK I r2 v2)
theorem of_each {K : Kf} {H : Hp} {av : Addr → Prop} : ∀ {ds : List D} {its : List Value}, PySem.W.EachIs (fun v d => ∃ x, RelV x v ∧ R K H av d x) its ds → ∃ vs, Vals vs its ∧ Rs K H av ds vs
  | _, _, .nil => ⟨[], .nil, rfl⟩
  | _, _, .cons ⟨x, h1, h2⟩ t => by
    obtain ⟨vs, q1, q2⟩ := of_each t
    exact ⟨x :: vs, .cons h1 q1, x, vs, rfl, h2, q2⟩
def srt (ds : List D) : List D := ds.mergeSort (PySem.W.dataLe false fun x => x)
theorem sorted_by {K : Kf} {av : Addr → Prop} (hK : X.K = K.K) (hu : X.A.units + 100 < cLine) {pins : List (Addr × Obj)} {s : Shared} {σ : L2.St} {H : Hp} {q : Addr} {ds : List D} {vs : List V} {Q : VK} (I : Inv X pins σ H s) (r : Rs K H av ds vs) (hs : sortB ds = true) (hl : ds.length ≤ lim)
    (hcol : ∀ (R : List Value → Shared → Prop), (∀ h' tk its, (∀ b o, s.heap.get? b = some o → h'.get? b = some o) → Vals vs its → R its { s with heap := h', toks := tk }) → wpAny (model X.prog X.w) X.A.in1 (collect (.ref q)) R X.xe s)
    (hq : ∀ p vs', H p = none → Rs K H av (srt ds) vs' → Q (.ref p) (upd H p (.lst vs'))) : wpAny (model X.prog X.w) X.A (call (.builtin "sorted") [.ref q]) (EP X pins σ Q) X.xe s := by
  refine Calls.call_function_entry PyProof.Rows.kind_sorted PyProof.Rows.plain_sorted PyProof.Rows.entry_sorted (PyProof.Rows.args_sorted1 _) ?_
  unfold Builtin.«sorted»
  refine wpAny_bind (m := checkCount "sorted" 1 1 _) (wpAny_pure ?_)
  refine wpAny_bind (hcol _ fun h' tk its hk rv => ?_)
  have hil : its.length = ds.length := by rw [← rv.length, r.length]
  have I1 : Inv X pins σ H { s with heap := h', toks := tk } := I.kept hk
  refine wpAny_bind (wpAny_newList ?_ (by rw [hil]; exact lim_size hl))
  have hoL : (h'.push (seqObj "list" its.toArray 0)).get? h'.objs.size = some (seqObj "list" its.toArray 0) := Heap.get?_push_size _ rfl
  show wpAny _ _ _ _ _ { s with heap := h'.push (seqObj "list" its.toArray 0), toks := tk }
  have ea := each_of hK I1 r rv
  have kp : ∀ b o, h'.get? b = some o → (PySem.W.sortingHeap (h'.push (seqObj "list" its.toArray 0)) h'.objs.size its).get? b = some o := fun b o e =>
    PySem.W.sortingHeap_old (Nat.ne_of_lt (Heap.lt_size e)) (Heap.get?_push_of_some _ e)
  have er : PySem.W.EachIs (fun v d => ∃ as, Reads (PySem.W.sortingHeap (h'.push (seqObj "list" its.toArray 0)) h'.objs.size its) v d as) its ds := ea.mono fun _ _ ⟨_, as, q⟩ => ⟨as, PyProof.Rows.Reads.keeps kp q⟩
  have so := fun (B : Around) (hB : B.units + 40 < cLine) => sorts_ok (prog := X.prog) (w := X.w) (A := B) (s := { s with heap := PySem.W.sortingHeap (h'.push (seqObj "list" its.toArray 0)) h'.objs.size its, toks := tk }) er hs hB
  have hal := (so X.A (by omega)).1
  have ero : PySem.W.EachIs (fun v d => ∃ as, Reads (PySem.W.sortingHeap (h'.push (seqObj "list" its.toArray 0)) h'.objs.size its) v ((fun x => x) d) as) its ds := er
  have so2 := PySem.W.sortVals_data (R := fun v d => ∃ x, RelV x v ∧ R K H av d x) (enc := fun x => x) false (ea.mono fun _ _ q => q.1) ero (by rw [List.map_id']; exact hal)
  rw [List.map_id'] at so2
  obtain ⟨ws, hw, hr⟩ := of_each so2
  refine wpAny_bind (wpAny_holding (wpAny_call_entry PyProof.Rows.slot_list_sort ⟨_, hoL, rfl⟩ PyProof.Rows.entry_list_sort
    (PySem.W.list_sort_vals (s := { s with heap := h'.push (seqObj "list" its.toArray 0), toks := tk }) hoL (so _ (by show X.A.units + 1 + 1 + 40 < cLine; omega)).2 (by rw [hil]; exact lim_size hl) ⟨_, rfl, ?_⟩)
    (PyProof.Rows.args_list_sort _)))
  obtain ⟨e', he'⟩ := PyProof.Rows.sortedHeap_at (vs := its) (out := (PySem.W.sortVals (PySem.W.dataKind (PySem.W.sortingHeap (h'.push (seqObj "list" its.toArray 0)) h'.objs.size its) ds) false its its).toArray) hoL
  have hlen : ws.length ≤ sizeLine := by
    rw [← hr.length]
    show (ds.mergeSort _).length ≤ _
    rw [List.length_mergeSort]
    exact lim_size hl
  refine wpAny_pure ⟨_, rfl, .ref h'.objs.size, upd H h'.objs.size (.lst ws), I1.laid (t' := tk) (fun b u e => ?_) (Nat.le_refl _)
    (show ObjOk X.prog X.w _ _ _ (.lst ws) from ⟨hlen, _, e', hw, he'⟩), rfl, hq _ _ (I1.hok.fresh (Nat.le_refl _)) hr⟩
  have hb : b < h'.objs.size := Heap.lt_size e
  rw [PyProof.Rows.sortedHeap_old (Nat.ne_of_lt hb) (by rw [size_push']; exact Nat.lt_succ_of_lt hb)]
  exact Heap.get?_push_of_some _ e
theorem sortD_some {ds : List D} {z : D} (h : (sortD ds).map .list = some z) : sortB ds = true ∧ ds.length ≤ lim ∧ z = .list (srt ds) := by
  unfold sortD at h
  split at h
  · rename_i hc
    rw [Bool.and_eq_true] at hc
    cases h
    exact ⟨hc.1, of_decide_eq_true hc.2, rfl⟩
  · cases h
theorem rdVs_none {M : Mem} {vs : List Val} (h : rdVs M vs = none) : True := trivial
theorem RD.keysR {K : Kf} {H : Hp} {av : Addr → Prop} : ∀ {kvs : List (NestedKey × D)} {xs : List (NestedKey × Addr × V)}, RD K H av kvs xs → Rs K H av (kvs.map fun kv => kv.1.data) (xs.map fun x => V.ref x.2.1)
  | [], _, h => by cases (show _ = [] from h); rfl
  | x :: kvs, _, h => by
    obtain ⟨q, v, r, e, _, r1, _, h2⟩ := h
    subst e
    exact ⟨_, _, rfl, r1, RD.keysR h2⟩
theorem RK.keysR {K : Kf} {H : Hp} {av : Addr → Prop} : ∀ {kvs : List (L2.Key × D)} {xs : List (L2.Key × V)}, RK K H av kvs xs → Rs K H av (kvs.map fun kv => dKey kv.1) (xs.map fun x => kV x.1)
  | [], _, h => by cases (show _ = [] from h); rfl
  | x :: kvs, _, h => by
    obtain ⟨v, r, e, _, h2⟩ := h
    subst e
    refine ⟨_, _, rfl, ?_, RK.keysR h2⟩
    obtain ⟨kk, _⟩ := x
    cases kk <;> rfl
theorem PN.refs {xs : List (NestedKey × Addr × V)} {us : List (NestedKey × Addr × Value)} (pr : PN xs us) : Vals (xs.map fun x => V.ref x.2.1) (us.map fun x => Value.ref x.2.1) := by
  induction pr with
  | nil => exact .nil
  | cons p _ ih => exact .cons (by show Value.ref _ = Value.ref _; rw [p.2.1]) ih
theorem c_sorted (ck : Ck k X) : CallR X (.builtin "sorted") (rB k .sorted) := by
  intro pins s σ H xs us Q I rr ⟨ex, am, M, vs, z, rm, rv, hz, q⟩
  have fin : ∀ {ds : List D} {z : D}, z = .list (srt ds) → ∀ {p : Addr} {vs' : List V} {Q : VK}, (∀ am' H' w, RM k.K ex am' M H' → F am M H am' M H' → R k.K H' (avS ex am' M) z w → Q w H') → H p = none → Rs k.K H (avS ex am M) (srt ds) vs' → Q (.ref p) (upd H p (.lst vs')) := by
    intro ds z e p vs' Q q hp hr
    subst e
    exact q am _ _ (rm.new _ hp) (F.new hp) (R.newL rm hp hr)
  unfold biV at hz
  dsimp only at hz
  cases hd : rdVs M vs with
  | some ds0 =>
    rw [hd] at hz
    have pr := rds_of rm rv hd
    obtain ⟨d, rfl, hz⟩ := d1_some (show d1 (dSeq fun xs => (sortD xs).map .list) ds0 = some z from hz)
    obtain ⟨ds, he, hz⟩ := dSeq_some hz
    obtain ⟨hs, hl, hze⟩ := sortD_some hz
    obtain ⟨x, rfl, hx⟩ := pair1 pr
    obtain ⟨u, rfl, rx⟩ := vals1 rr
    rcases he with rfl | rfl
    · obtain ⟨p, ws, rfl, hp, r⟩ := hx
      cases rx
      obtain ⟨its, rv1, pl, hzz⟩ := I.list (.inl (.inl hp))
      obtain ⟨o, n, ho, hc, _, hdat⟩ := pl
      refine sorted_by ck.K ck.hu I r hs hl (fun R hR => ?_) fun p' vs' hp' hr' => fin hze q hp' hr'
      exact wpAny_collect_seq p (.inl rfl) ho hc hdat (fun h' hk => by simpa using hR h' s.toks its hk rv1) (by rw [List.size_toArray, ← rv1.length]; exact hzz)
    · obtain ⟨p, ws, rfl, hp, r⟩ := hx
      cases rx
      obtain ⟨its, rv1, ⟨o, ho, hc, n, hdat⟩, hzz⟩ := I.tuple (by rw [ck.K]; exact hp.sq)
      refine sorted_by ck.K ck.hu I r hs hl (fun R hR => ?_) fun p' vs' hp' hr' => fin hze q hp' hr'
      exact wpAny_collect_seq p (.inr rfl) ho hc hdat (fun h' hk => by simpa using hR h' s.toks its hk rv1) (by rw [List.size_toArray, ← rv1.length]; exact hzz)
  | none =>
    rw [hd] at hz
    obtain ⟨v, rfl, hz⟩ := v1_some (show v1 (keysSorted M) vs = some z from hz)
    obtain ⟨x, rfl, hx⟩ := rvs1 rv
    obtain ⟨u, rfl, rx⟩ := vals1 rr
    cases v with
    | d _ => cases hz
    | ref i =>
      obtain ⟨p, hp, rfl⟩ := hx
      cases rx
      have hz : keysSorted M (.ref i) = some z := hz
      unfold keysSorted at hz
      dsimp only at hz
      cases hm : M[i]? with
      | none => rw [hm] at hz; cases hz
      | some ob =>
        cases ob with
        | dK kvs =>
          rw [hm] at hz
          obtain ⟨hs, hl, hze⟩ := sortD_some hz
          obtain ⟨ws, hH, r⟩ := rm.obj i _ p hm hp
          have hrd : L2.Rd H p (.dK ws) := .inl hH
          obtain ⟨z0, lo, vs, rel, dd⟩ := dk_rd I.hok hrd
          obtain ⟨ep, hat⟩ := dd.dictAt
          have rs := RK.keysR r
          have ek : (ws.map fun kv => kV kv.1) = vs.map fun p => kV p.1 := by
            have e := congrArg (List.map kV) rel.keys
            rw [List.map_map, List.map_map] at e
            exact e
          refine sorted_by ck.K ck.hu I rs hs (by simpa using hl) (fun R hR => ?_) fun p' vs' hp' hr' => fin hze q hp' hr'
          refine PySem.W.kdu_collect (PySem.W.kdl_dict (knd := mixKind X.prog X.w) (kvs := vs) (ep := ep) lo) (I.ok.hd ck.calm) hat (by rw [← rel.length]; exact z0) fun h' tk acc hk hacc => ?_
          refine hR h' tk _ hk ?_
          rw [ek]
          exact keys_at (by rw [Array.length_toList]; exact hacc.1) fun j v e => hacc.2 j v (by rw [← Array.getElem?_toList]; exact e)
        | dT kvs =>
          rw [hm] at hz
          obtain ⟨hs, hl, hze⟩ := sortD_some hz
          obtain ⟨xs, hH, r⟩ := rm.obj i _ p hm hp
          obtain ⟨h1, h2, _, us, pr, o, es, ep, ho, hx, hdt, he, _, _⟩ := dict_at ck.K ck.P ck.w I hH r
          have l1 : es.size = us.length := size_of_entries he
          have l2 : us.length = xs.length := by have := congrArg List.length (PN.keys pr); simpa using this
          have rs := r.keysR
          have rv1 := PN.refs pr
          refine sorted_by ck.K ck.hu I rs hs (by simpa using hl) (fun R hR => ?_) fun p' vs' hp' hr' => fin hze q hp' hr'
          refine PySem.W.kdu_collect (kdl_raw h1 hx hdt) (I.ok.hd ck.calm) ho (by rw [l1, l2]; exact h2) fun h' tk acc hk hacc => ?_
          have ea : acc.toList = us.map fun x => Value.ref x.2.1 := by
            have hl : acc.toList.length = us.length := by rw [Array.length_toList, hacc.1]; exact l1
            apply List.ext_getElem?
            intro j
            rw [List.getElem?_map]
            cases hj : acc.toList[j]? with
            | none =>
              have h1 := List.getElem?_eq_none_iff.mp hj
              rw [List.getElem?_eq_none (by omega)]
              all_goals rfl
            | some v =>
              obtain ⟨en, hen, hv⟩ := hacc.2 j v (by rw [← Array.getElem?_toList]; exact hj)
              have qe := entry_at he j
              rw [hen] at qe
              cases hb : us[j]? with
              | none =>
                rw [hb] at qe
                exact nomatch (show some en = none from qe)
              | some b =>
                rw [hb] at qe
                have e2 : en = entryOfKey (nestedKind X.prog X.w) b := Option.some.inj qe
                rw [hv, e2]
                all_goals rfl
          rw [ea]
          exact hR h' tk _ hk rv1
        | _ => rw [hm] at hz; cases hz
end
end Mp
end
section
set_option maxHeartbeats 4000000
/-! Built-ins by name; list(range(..)), tuple(range(..)); x[::-1]; enumerate. -/
namespace Mp
open PySem PySem.Spec PyProof.Rows L2

section
variable {X : Cx} {k : Kx} {E : XK} {e a b c o tg : Expr} {es : List Expr} {pos p0 p1 p2 p3 p apos cpos : Pos} {f g h : SF} {A : SA} {u v : SS}

/-! ### built-ins by name -/
theorem se_biB {bb : BI} {id : String} {x : Str} (cc : CallR X (.builtin id) (rB k bb)) (bn : Bn X x) (hv : bootBuiltins x = some (.builtin id)) (ha : SAs X k E (e :: es) A) (hn : x ≠ "__name__") (hdb : (x == ("__debug__" : Str)) = false)
    (he : starEach (e :: es) X.env = (false, eval e X.env) :: starEach es X.env) (hpl : (backTo pos (starEach es X.env)).any (·.1) = false) : SE X k E (.Call (.Name x p) (e :: es) [] pos) (sBi bb A) :=
  PE.imp (pe_callB cc bn.gl bn.mg hv ha hn hdb he hpl) fun σ H Q h => tr_bi bb h
theorem se_biT {bb : BI} {T : String} {x : Str} (cc : CallR X (.type T) (rB k bb)) (bn : Bn X x) (hv : bootBuiltins x = some (.type T)) (ha : SAs X k E (e :: es) A) (hn : x ≠ "__name__") (hdb : (x == ("__debug__" : Str)) = false)
    (he : starEach (e :: es) X.env = (false, eval e X.env) :: starEach es X.env) (hpl : (backTo pos (starEach es X.env)).any (·.1) = false) : SE X k E (.Call (.Name x p) (e :: es) [] pos) (sBi bb A) :=
  PE.imp (pe_callTy cc bn.gl bn.mg hv ha hn hdb he hpl) fun σ H Q h => tr_bi bb h

/-! ### a range as a row -/
theorem rs_rng {K : Kf} {H : Hp} {av : Addr → Prop} (a b : Int) : Rs K H av (rngD a b) (rgV a b) := by
  have key : ∀ (ns : List Nat), Rs K H av (ns.map fun (i : Nat) => .int (a + (i : Int))) (ns.map fun (i : Nat) => V.int (a + (i : Nat))) := by
    intro ns
    induction ns with
    | nil => rfl
    | cons n ns ih => exact ⟨_, _, rfl, rfl, ih⟩
  exact key _
theorem rngOk_ok {a b : Int} (h : rngOk a b = true) : RgOk a b := by
  obtain ⟨h1, h2, h3, h4, h5⟩ := of_decide_eq_true h
  exact ⟨h1, h2, h3, h4, Nat.le_trans h5 (by decide)⟩
theorem bi_rng1 {bb : BI} {mk : List D → D} (hb : ∀ ds, biD bb ds = d1 (dInt fun n => if rngOk 0 n then some (mk (rngD 0 n)) else none) ds) (hbv : ∀ M vs, biV bb M vs = biR bb M vs) {M : Mem} {v : Val} {z : D} (h : biV bb M [v] = some z) : ∃ n, rdV M v = some (.int n) ∧ rngOk 0 n = true ∧ z = mk (rngD 0 n) := by
  rw [hbv] at h
  obtain ⟨ds, hd, hz⟩ := bi_data h
  rw [hb] at hz
  obtain ⟨x, rfl, hz1⟩ := d1_some hz
  obtain ⟨n, rfl, hz2⟩ := dInt_some hz1
  split at hz2
  · rename_i ho
    cases hz2
    cases hr : rdV M v with
    | none => simp [rdVs, hr] at hd
    | some y =>
      have : y = .int n := by simpa [rdVs, hr] using hd
      exact ⟨n, by rw [this], ho, rfl⟩
  · cases hz2
theorem bi_rng2 {bb : BI} {mk : List D → D} (hb : ∀ ds, biD bb ds = d2 (fun x y => dInt (fun a => dInt (fun b => if rngOk a b then some (mk (rngD a b)) else none) y) x) ds) (hbv : ∀ M vs, biV bb M vs = biR bb M vs) {M : Mem} {v w : Val} {z : D} (h : biV bb M [v, w] = some z) :
    ∃ n m, rdV M v = some (.int n) ∧ rdV M w = some (.int m) ∧ rngOk n m = true ∧ z = mk (rngD n m) := by
  rw [hbv] at h
  obtain ⟨ds, hd, hz⟩ := bi_data h
  rw [hb] at hz
  obtain ⟨x, y, rfl, hz1⟩ := d2_some hz
  obtain ⟨n, rfl, hz2⟩ := dInt_some hz1
  obtain ⟨m, rfl, hz3⟩ := dInt_some hz2
  split at hz3
  · rename_i ho
    cases hz3
    cases hr : rdV M v with
    | none => simp [rdVs, hr] at hd
    | some x =>
      cases hr2 : rdV M w with
      | none => simp [rdVs, hr, hr2] at hd
      | some y =>
        have : x = .int n ∧ y = .int m := by simpa [rdVs, hr, hr2] using hd
        exact ⟨n, m, by rw [this.1], by rw [this.2], ho, rfl⟩
  · cases hz3
theorem int_of {K : Kf} {ex am : List Addr} {M : Mem} {H : Hp} {v : Val} {x : V} {n : Int} (m : RM K ex am M H) (r : RV K H (avS ex am M) am v x) (h : rdV M v = some (.int n)) : x = .int n := rd_of m r h
/-- the call of range as an argument -/
theorem prg1 (bn : Bn X "range") (ha : SE X k E a f) (hs : starEach [a] X.env = (false, eval a X.env) :: starEach [] X.env) : PRg X (.Call (.Name "range" p0) [a] [] p1) (tRg1 (tE k E f)) := prg_1 bn.gl bn.mg ha hs
theorem tr_rng1 {Qr : Int → Int → Hp → Prop} {bb : BI} {mk : List D → D} (hb : ∀ ds, biD bb ds = d1 (dInt fun n => if rngOk 0 n then some (mk (rngD 0 n)) else none) ds) (hbv : ∀ M vs, biV bb M vs = biR bb M vs) {σ : L2.St} {H : Hp} {Q : VK} (hw : tE k E (sBi bb (sCons f sNil)) σ H Q)
    (hq : ∀ ex am M H a b, RM k.K ex am M H → rngOk a b = true → (∀ am' H' w, RM k.K ex am' M H' → F am M H am' M H' → R k.K H' (avS ex am' M) (mk (rngD a b)) w → Q w H') → Qr a b H) : tRg1 (tE k E f) σ H Qr := by
  obtain ⟨ex, am, env, M, rm, re, p⟩ := hw
  have p' : Po k ex am M H E ((f env M).bind fun v M1 => (ofO (biV bb M1 [v]) M1).bind fun z M2 => .ok (.d z) M2) (okV k ex Q) := by
    unfold sBi sCons sNil at p
    rw [bind_bind] at p
    exact p
  refine ⟨ex, am, env, M, rm, re, p'.bind.mono fun v M1 am1 H1 rm1 f1 p1 x rx => ?_⟩
  obtain ⟨z, hz, p2⟩ := p1.ofO
  obtain ⟨n, h1, h2, rfl⟩ := bi_rng1 hb hbv hz
  exact ⟨n, int_of rm1 rx h1, hq ex am1 M1 H1 0 n rm1 h2 fun am' H' w rm' f' rw' => p2 am' H' rm' f' w rw'⟩
theorem tr_rng2 {Qr : Int → Int → Hp → Prop} {bb : BI} {mk : List D → D} (hb : ∀ ds, biD bb ds = d2 (fun x y => dInt (fun a => dInt (fun b => if rngOk a b then some (mk (rngD a b)) else none) y) x) ds) (hbv : ∀ M vs, biV bb M vs = biR bb M vs) {σ : L2.St} {H : Hp} {Q : VK} (hw : tE k E (sBi bb (sCons f (sCons g sNil))) σ H Q)
    (hq : ∀ ex am M H a b, RM k.K ex am M H → rngOk a b = true → (∀ am' H' w, RM k.K ex am' M H' → F am M H am' M H' → R k.K H' (avS ex am' M) (mk (rngD a b)) w → Q w H') → Qr a b H) : tRg2 (tE k E f) (tE k E g) σ H Qr := by
  obtain ⟨ex, am, env, M, rm, re, p⟩ := hw
  have p' : Po k ex am M H E ((f env M).bind fun v M1 => (g env M1).bind fun w M2 => (ofO (biV bb M2 [v, w]) M2).bind fun z M2 => .ok (.d z) M2) (okV k ex Q) := by
    unfold sBi sCons sNil at p
    rw [bind_bind] at p
    simp only [bind_bind, bind_ok] at p
    exact p
  refine ⟨ex, am, env, M, rm, re, p'.bind.mono fun v M1 am1 H1 rm1 f1 p1 x rx => ?_⟩
  refine ⟨ex, am1, env, M1, rm1, re.step rm f1, p1.bind.mono fun w M2 am2 H2 rm2 f2 p2 y ry => ?_⟩
  obtain ⟨z, hz, p3⟩ := p2.ofO
  obtain ⟨n, m, h1, h2, h3, rfl⟩ := bi_rng2 hb hbv hz
  exact ⟨n, m, int_of rm2 (rx.step rm1 f2) h1, int_of rm2 ry h2, hq ex am2 M2 H2 n m rm2 h3 fun am' H' w rm' f' rw' => p3 am' H' rm' f' w rw'⟩
theorem se_rngL1 (ck : Ck k X) (bl : Bn X "list") (bn : Bn X "range") (ha : SE X k E a f) (hs : starEach [a] X.env = (false, eval a X.env) :: starEach [] X.env) : SE X k E (.Call (.Name "list" p2) [.Call (.Name "range" p0) [a] [] p1] [] pos) (sBi .rngL (sCons f sNil)) :=
  PE.imp (pe_listRg ck.calm bl.gl bl.mg (prg1 bn ha hs) rfl) fun σ H Q hw => tr_rng1 (bb := .rngL) (mk := .list) (fun _ => rfl) (fun _ _ => rfl) hw fun ex am M H a b rm ho q => ⟨rngOk_ok ho, fun t ht => q _ _ _ (rm.new _ ht) (F.new ht) (R.newL rm ht (rs_rng a b))⟩
theorem se_rngT1 (ck : Ck k X) (bl : Bn X "tuple") (bn : Bn X "range") (ha : SE X k E a f) (hs : starEach [a] X.env = (false, eval a X.env) :: starEach [] X.env) : SE X k E (.Call (.Name "tuple" p2) [.Call (.Name "range" p0) [a] [] p1] [] pos) (sBi .rngT (sCons f sNil)) :=
  PE.imp (pe_tupRgS ck.calm bl.gl bl.mg (prg1 bn ha hs) rfl) fun σ H Q hw => tr_rng1 (bb := .rngT) (mk := .tuple) (fun _ => rfl) (fun _ _ => rfl) hw fun ex am M H a b rm ho q => ⟨rngOk_ok ho, fun t its ht => q _ _ _ (rm.new _ ht) (F.new ht) (R.newT rm ht (rs_rng a b))⟩
theorem se_rngL2 (ck : Ck k X) (bl : Bn X "list") (bn : Bn X "range") (ha : SE X k E a f) (hb : SE X k E b g) (hs : starEach [a, b] X.env = (false, eval a X.env) :: starEach [b] X.env) (hs2 : starEach [b] X.env = (false, eval b X.env) :: starEach [] X.env) (hp : (backTo p1 (starEach [b] X.env)).any (·.1) = false) :
    SE X k E (.Call (.Name "list" p2) [.Call (.Name "range" p0) [a, b] [] p1] [] pos) (sBi .rngL2 (sCons f (sCons g sNil))) :=
  PE.imp (pe_listRg ck.calm bl.gl bl.mg (prg_2 bn.gl bn.mg ha hb hs hs2 hp) rfl) fun σ H Q hw => tr_rng2 (bb := .rngL2) (mk := .list) (fun _ => rfl) (fun _ _ => rfl) hw fun ex am M H a b rm ho q => ⟨rngOk_ok ho, fun t ht => q _ _ _ (rm.new _ ht) (F.new ht) (R.newL rm ht (rs_rng a b))⟩
theorem se_rngT2 (ck : Ck k X) (bl : Bn X "tuple") (bn : Bn X "range") (ha : SE X k E a f) (hb : SE X k E b g) (hs : starEach [a, b] X.env = (false, eval a X.env) :: starEach [b] X.env) (hs2 : starEach [b] X.env = (false, eval b X.env) :: starEach [] X.env) (hp : (backTo p1 (starEach [b] X.env)).any (·.1) = false) :
    SE X k E (.Call (.Name "tuple" p2) [.Call (.Name "range" p0) [a, b] [] p1] [] pos) (sBi .rngT2 (sCons f (sCons g sNil))) :=
  PE.imp (pe_tupRgS ck.calm bl.gl bl.mg (prg_2 bn.gl bn.mg ha hb hs hs2 hp) rfl) fun σ H Q hw => tr_rng2 (bb := .rngT2) (mk := .tuple) (fun _ => rfl) (fun _ _ => rfl) hw fun ex am M H a b rm ho q => ⟨rngOk_ok ho, fun t its ht => q _ _ _ (rm.new _ ht) (F.new ht) (R.newT rm ht (rs_rng a b))⟩

/-! ### x[::-1] -/
theorem rev_adjust (n : Nat) : Builtin.Slice.sliceAdjust none none (-1) (n : Int) = ((n : Int) - 1, -1) := rfl
theorem rev_places (n : Nat) : Builtin.Slice.slicePlaces ((n : Int) - 1) (-1) (-1) = n := by
  unfold Builtin.Slice.slicePlaces
  have h1 : ¬ ((-1 : Int) > 0) := by decide
  simp only [h1, if_false]
  split
  · rw [show (- -1 : Int) = 1 by decide, Int.ediv_one]; omega
  · omega
theorem rev_pick (xs : Array Value) : ((List.range xs.size).filterMap fun (m : Nat) => xs[((xs.size : Int) - 1 + (m : Int) * (-1)).toNat]?) = xs.toList.reverse := by
  have e : ((List.range xs.size).filterMap fun (m : Nat) => xs[((xs.size : Int) - 1 + (m : Int) * (-1)).toNat]?) = ((List.range xs.size).map fun k => xs.size - 1 - k).filterMap (xs[·]?) := by
    rw [List.filterMap_map]
    have key : ∀ (l : List Nat) (f g : Nat → Option Value), (∀ m ∈ l, f m = g m) → l.filterMap f = l.filterMap g := by
      intro l f g
      induction l with
      | nil => intro _; rfl
      | cons x l ih =>
        intro h
        rw [List.filterMap_cons, List.filterMap_cons, h x List.mem_cons_self, ih fun m hm => h m (List.mem_cons_of_mem _ hm)]
    refine key _ _ _ fun m hm => ?_
    have := List.mem_range.mp hm
    have e2 : ((xs.size : Int) - 1 + (m : Int) * (-1)).toNat = xs.size - 1 - m := by omega
    show xs[((xs.size : Int) - 1 + (m : Int) * (-1)).toNat]? = xs[xs.size - 1 - m]?
    rw [e2]
  rw [e, PySem.W.krv_range, List.filterMap_reverse, PySem.W.krv_all]
theorem getItem_tuple_rev {prog : Program} {w : World} {A : Around} {E : Value → Shared → Prop} {s : Shared} {t sl : Addr} {items : Array Value} {vl vu vs : Value} {Q : Value → Shared → Prop} (ht : IsTup s.heap t items) (hs : s.heap.IsSliceOf sl vl vu vs) (pl : IsPart vl none) (pu : IsPart vu none) (ps : IsPart vs (some (-1)))
    (h : Q (.ref s.heap.objs.size) { s with heap := s.heap.push { cls := .type "tuple", data := .seq items.toList.reverse.toArray } })
    (hsz : items.size ≤ sizeLine) : wpAny (model prog w) A (getItem (.ref t) (.ref sl)) Q E s := by
  have htake : sizeOk (.seq items.toList.reverse.toArray) := by
    show items.toList.reverse.toArray.size ≤ sizeLine
    rw [List.size_toArray, List.length_reverse, Array.length_toList]
    exact hsz
  obtain ⟨os, hos, hcs, hds⟩ := id hs
  have hTs : s.TypeIs (.ref sl) "slice" := ⟨os, hos, hcs⟩
  unfold getItem
  try with_reducible refine wpAny_holding ?_
  first | refine wpAny_bind (wpAny_pure ?_) | skip
  refine wpAny_bind (wpAny_sequenceKey ht.typeIs (by decide) ?_)
  refine wpAny_bind (wpAny_callSpecial?_slot (name := Str.ofString "__getitem__") ht.typeIs PyProof.Rows.slot_tuple_getitem
    (wpAny_call_entry PyProof.Rows.slot_tuple_getitem ht.typeIs PyProof.Rows.entry_tuple_getitem ?_ (PyProof.Rows.args_tuple_getitem _ _)))
  show wpAny _ _ (Builtin.Tuple.tupleItemsOf (.ref t) >>= _) _ _ s
  refine wpAny_bind (PyProof.Rows.tupleItemsOf_ ht ?_)
  refine wpAny_bind (wpAny_typeOf hTs ?_)
  rw [if_pos (by decide)]
  have key : ∀ {Q : Int × Int × Nat → Shared → Prop}, Q ((items.size : Int) - 1, -1, items.size) s → wpAny (model prog w) A.in1 (Builtin.Slice.sliceApplied (.ref sl) (pure (items.size : Int))) Q E s := by
    intro Q hq
    unfold Builtin.Slice.sliceApplied Builtin.Slice.sliceFields
    refine wpAny_bind (wpAny_bind (wpAny_field hos hds (x := vl) rfl (wpAny_bind (wpAny_field hos hds (x := vu) rfl (wpAny_bind (wpAny_field hos hds (x := vs) rfl (wpAny_pure ?_)))))))
    refine wpAny_bind (HT.slicePart_ ps ?_)
    show wpAny _ _ (if ((-1 : Int) == 0) = true then _ else _) _ _ s
    rw [if_neg (by decide)]
    refine wpAny_bind (HT.slicePart_ pl (wpAny_bind (HT.slicePart_ pu (wpAny_bind (wpAny_pure ?_)))))
    show wpAny _ _ (match Builtin.Slice.sliceAdjust none none (-1) (items.size : Int) with | (lo, hi) => pure (lo, (-1 : Int), Builtin.Slice.slicePlaces lo hi (-1))) _ _ s
    rw [rev_adjust items.size]
    show wpAny _ _ (pure ((items.size : Int) - 1, (-1 : Int), Builtin.Slice.slicePlaces ((items.size : Int) - 1) (-1) (-1))) _ _ s
    rw [rev_places]
    exact wpAny_pure hq
  refine wpAny_bind (key ?_)
  have hno : ¬ ((((items.size : Int) - 1) == 0 && (-1 : Int) == 1 && items.size == items.size) = true) := by
    intro q
    rw [Bool.and_eq_true, Bool.and_eq_true] at q
    exact absurd q.1.2 (by decide)
  show wpAny _ _ (if (((items.size : Int) - 1) == 0 && (-1 : Int) == 1 && items.size == items.size) = true then _ else _) _ _ s
  rw [if_neg hno, rev_pick]
  first
    | exact wpAny_bind (m := Builtin.Tuple.tupleExact _) (wpAny_newObj_type (wpAny_pure ⟨_, rfl, wpAny_pure h⟩) htake)
    | exact wpAny_bind (m := Builtin.Tuple.tupleExact _) (wpAny_newObj_type (wpAny_bind (wpAny_pure (wpAny_pure ⟨_, rfl, wpAny_pure h⟩))) htake)
    | exact wpAny_bind (wpAny_bind (m := Builtin.Tuple.tupleExact _) (wpAny_newObj_type (wpAny_pure (wpAny_pure ⟨_, rfl, wpAny_pure h⟩)) htake))
    | exact wpAny_bind (wpAny_bind (m := Builtin.Tuple.tupleExact _) (wpAny_newObj_type (wpAny_pure ⟨_, rfl, wpAny_pure h⟩) htake))
def tRevA (K : PySem.W.Frag) (te : TE) : TE := fun σ H Q => te σ H fun x H1 => ∃ a xs, x = .ref a ∧ ((SqL K H1 a xs ∧ ∀ p, H1 p = none → Q (.ref p) (upd H1 p (.lst xs.reverse))) ∨ (SqT K H1 a xs ∧ ∀ p its, H1 p = none → Q (.ref p) (upd H1 p (sT its xs.reverse))))
theorem pe_revA {te : TE} {n : Nat} (he : PE X e te) : PE X (.Subscript e (.Slice none none (some (.UnaryOp .USub (.Constant (.int 1) n p1) p2)) p3) pos) (tRevA X.K te) := by
  refine ⟨fun pins s σ H Q I h => ?_⟩
  refine Subscript_ (thn (he.run pins s σ H _ I h) fun v s1 ⟨x, H1, I1, r1, q1⟩ => ?_)
  obtain ⟨a, xs, ex, q⟩ := q1
  subst ex
  cases r1
  have hst : PO X (some (.UnaryOp .USub (.Constant (.int 1) n p1) p2)) (tPart (tUn (rU fun i => .int (-i)) (tC (.int 1)))) := po_some (pe_un un_neg pe_int)
  refine wpAny_Slice (thn (po_none.run pins s1 σ H1 (fun o H2 => o = none ∧ H2 = H1) I1 ⟨rfl, rfl⟩) fun vl s2 ⟨l, H2, I2, pl, el, e2⟩ => ?_)
  subst el e2
  refine thn (po_none.run pins s2 σ H2 (fun o H3 => o = none ∧ H3 = H2) I2 ⟨rfl, rfl⟩) fun vu s3 ⟨u, H3, I3, pu, eu, e3⟩ => ?_
  subst eu e3
  refine thn (hst.run pins s3 σ H3 (fun o H4 => o = some (-1) ∧ H4 = H3) I3 ⟨1, rfl, -1, rfl, rfl, rfl⟩) fun vs s4 ⟨o, H4, I4, ps, eo, e4⟩ => ?_
  subst eo e4
  have I5 : Inv X pins σ H4 { s4 with heap := s4.heap.push { cls := .type "slice", data := .fields #[vl, vu, vs] } } := I4.kept (t' := s4.toks) fun b ob q => Heap.get?_push_of_some _ q
  show wpAny (model X.prog X.w) X.A (subscriptTail e (.Slice none none (some (.UnaryOp .USub (.Constant (.int 1) n p1) p2)) p3) (.ref a) (.ref s4.heap.objs.size)) (EP X pins σ Q) X.xe { s4 with heap := s4.heap.push { cls := .type "slice", data := .fields #[vl, vu, vs] } }
  rcases q with ⟨hx, q⟩ | ⟨hx, q⟩
  · obtain ⟨its, r, ht, hz⟩ := I5.list hx
    have hlen := r.length
    refine tail_any (ops := [.ref a, .ref s4.heap.objs.size]) ht.isList.typeIs (PySem.slot_list_getitem.lookup) ?_ (by with_unfolding_all rfl)
    refine wpAny_getItem_list_slice ht.isList (Heap.IsSliceOf.new _ vl vu vs) pl pu ps (by decide) ?_ (by rw [List.size_toArray]; omega)
    rw [PySem.W.krv_pick]
    refine ⟨.ref _, _, I5.laid (t' := s4.toks) (o := .lst xs.reverse) (fun b ob q => Heap.get?_push_of_some _ q) (Nat.le_refl _) ?_, rfl, q _ (I5.hok.fresh (Nat.le_refl _))⟩
    exact ⟨by rw [List.length_reverse]; exact hz, _, 0, r.reverse, Heap.get?_push_size _ rfl⟩
  · obtain ⟨its, r, ht, hz⟩ := I5.tuple hx
    have hlen := r.length
    refine tail_any (ops := [.ref a, .ref s4.heap.objs.size]) ht.typeIs (PyProof.Rows.slot_tuple_getitem.lookup) ?_ (by with_unfolding_all rfl)
    refine getItem_tuple_rev ht (Heap.IsSliceOf.new _ vl vu vs) pl pu ps ?_ (by rw [List.size_toArray]; omega)
    exact ⟨.ref _, _, inv_newT I5 (t' := s4.toks) (fun b ob q => Heap.get?_push_of_some _ q) r.reverse (by rw [List.length_reverse]; exact hz) (Nat.le_refl _) (Heap.get?_push_size _ rfl), rfl, q _ _ (I5.hok.fresh (Nat.le_refl _))⟩
theorem se_rev {n : Nat} (ck : Ck k X) (he : SE X k E e f) : SE X k E (.Subscript e (.Slice none none (some (.UnaryOp .USub (.Constant (.int 1) n p1) p2)) p3) pos) (sRev f) :=
  PE.imp (pe_revA he) fun σ H Q ⟨ex, am, env, M, rm, re, p⟩ => by
    refine ⟨ex, am, env, M, rm, re, p.bind.mono fun v M1 am1 H1 rm1 f1 p1 x rx => ?_⟩
    cases hr : rdV M1 v with
    | none => rw [hr] at p1; exact p1.elim
    | some d =>
      rw [hr] at p1
      obtain ⟨z, hz, p2⟩ := p1.ofO
      have rt := rd_of rm1 rx hr
      cases d with
      | list ds =>
        cases hz
        obtain ⟨q, vs, rfl, hq, r⟩ := rt
        exact ⟨q, vs, rfl, .inl ⟨.inl (.inl hq), fun t ht => p2 _ _ (rm1.new _ ht) (F.new ht) _ (R.newL rm1 ht r.reverse)⟩⟩
      | tuple ds =>
        cases hz
        obtain ⟨q, vs, rfl, hq, r⟩ := rt
        exact ⟨q, vs, rfl, .inr ⟨by rw [ck.K]; exact hq.sq, fun t its ht => p2 _ _ (rm1.new _ ht) (F.new ht) _ (R.newT rm1 ht r.reverse)⟩⟩
      | _ => cases hz
end

/-! ### enumerate -/
/-- the row at a as it stands at each turn, each item in a new pair -/
def IteS (S : Hp → List V → Prop) : It :=
  ⟨fun i H => ∃ (xs : List V) (x : V), S H xs ∧ xs[i]? = some x, fun i H v H' => ∃ T x its, v = .ref T ∧ H T = none ∧ H' = upd H T (sT its [.int (i : Nat), x]) ∧ ∀ xs, S H xs → xs[i]? = some x, fun i H => ∃ xs : List V, S H xs ∧ xs.length = i⟩
theorem turn_enumL {P : Program} {w : World} {K : PySem.W.Frag} {elts : List Expr} {kk : Nat} {tpos : Pos} (a e it : Addr) :
    Turn P w K (.Tuple elts kk tpos) (IteS fun H xs => SqL K H a xs) [e, it] e (fun i h => (∃ old, IsEnum h e it ((i : Nat) : Int) old) ∧ h.IsListIter it a i ∧ e ≠ it) where
  mem := by simp
  obj := (turn_enum (P := P) (w := w) (K := K) (elts := elts) (kk := kk) (tpos := tpos) a e it).obj
  keep := (turn_enum (P := P) (w := w) (K := K) (elts := elts) (kk := kk) (tpos := tpos) a e it).keep
  item := by
    intro X hP hw hK hc i pins s σ H E I hf st hg
    subst hP hw hK
    obtain ⟨⟨old, he⟩, hit, hne⟩ := st
    obtain ⟨xs, x, hq, hx⟩ := hg
    obtain ⟨its, rv, p, hz⟩ := I.list hq
    obtain ⟨u, hu, ru⟩ := rv.get hx
    have hel : e < s.heap.objs.size := Heap.lt_size he
    have hil : it < s.heap.objs.size := by obtain ⟨_, q, _⟩ := hit; exact Heap.lt_size q
    refine wpAny_pyNext_enum_item he hit p.isList (x := u) (by simpa using hu) hne fun h' ho hit' hT hsz hk => ?_
    refine ⟨_, rfl, wpAny_letOwnedTupleGo_enum (s := { s with heap := h', toks := s.toks + 1 }) ho fun h'' he' sb => ?_⟩
    have hT2 : h''.get? s.heap.objs.size = some { cls := .type "tuple", data := .seq #[.int i s.toks, u] } := (sb.2 _ (Nat.ne_of_gt hel)).trans hT
    have new : ObjOk X.prog X.w (upd H s.heap.objs.size (sT [.int i s.toks, u] [.int (i : Nat), x])) h'' s.heap.objs.size (sT [.int i s.toks, u] [.int (i : Nat), x]) :=
      ⟨hT2, by show 2 ≤ sizeLine; decide, [.int i s.toks, u], .cons ⟨_, rfl⟩ (.cons ru .nil), ⟨_, hT2, rfl, _, rfl⟩⟩
    have I1 : Inv X pins σ (upd H s.heap.objs.size (sT [.int i s.toks, u] [.int (i : Nat), x])) { s with heap := h'', toks := s.toks + 1 } :=
      I.turnedNew (ch := [e, it]) (fun b ob hb q => (sb.2 b (fun z => hb (by simp [z]))).trans (hk b ob (fun z => hb (by simp [z])) (fun z => hb (by simp [z])) q)) hf (Nat.le_refl _) new
    refine ⟨.ref s.heap.objs.size, _, I1, rfl, ⟨_, x, _, rfl, I.hok.fresh (Nat.le_refl _), rfl, fun ys hy => by rw [I.list_inj hy hq]; exact hx⟩, ⟨⟨u, ?_⟩, hit'.at fun o q => (sb.2 it (Ne.symm hne)).trans q, hne⟩, fun b hb => ?_⟩
    · have e1 : ((i + 1 : Nat) : Int) = (i : Int) + 1 := by omega
      rw [e1]; exact he'
    · have hb' : b < s.heap.objs.size := by
        have e' : b = e ∨ b = it := by simpa using hb
        rcases e' with z | z
        · rw [z]; exact hel
        · rw [z]; exact hil
      rw [upd_ne (Nat.ne_of_lt hb')]
      exact (hf b hb).1
  done := fun X hP hw hK hc i pins s σ H E I hf st ⟨xs, h1, h2⟩ => (turn_enum (P := P) (w := w) (K := K) (elts := elts) (kk := kk) (tpos := tpos) a e it).done X hP hw hK hc i pins s σ H E I hf st ⟨xs, h1, by omega⟩
  self := (turn_enum (P := P) (w := w) (K := K) (elts := elts) (kk := kk) (tpos := tpos) a e it).self
theorem turn_enumT {P : Program} {w : World} {K : PySem.W.Frag} {elts : List Expr} {kk : Nat} {tpos : Pos} (a e it : Addr) :
    Turn P w K (.Tuple elts kk tpos) (IteS fun H xs => SqT K H a xs) [e, it] e (fun i h => (∃ old, IsEnum h e it ((i : Nat) : Int) old) ∧ h.IsTupleIter it a i ∧ e ≠ it) where
  mem := by simp
  obj := fun i h st b hb => by
    obtain ⟨⟨old, he⟩, ⟨o, ho, hc, hd⟩, _⟩ := st
    have e' : b = e ∨ b = it := by simpa using hb
    rcases e' with z | z
    · rw [z]; exact ⟨_, he, fun v q => nomatch q⟩
    · rw [z]; exact ⟨o, ho, fun v q => by rw [hd] at q; cases q⟩
  keep := fun i h h' st k => let ⟨⟨old, he⟩, hi, hne⟩ := st; ⟨⟨old, k e (by simp) _ he⟩, hi.at fun o q => k it (by simp) o q, hne⟩
  item := by
    intro X hP hw hK hc i pins s σ H E I hf st hg
    subst hP hw hK
    obtain ⟨⟨old, he⟩, hit, hne⟩ := st
    obtain ⟨xs, x, hq, hx⟩ := hg
    obtain ⟨its, rv, p, hz⟩ := I.tuple hq
    obtain ⟨u, hu, ru⟩ := rv.get hx
    have hel : e < s.heap.objs.size := Heap.lt_size he
    have hil : it < s.heap.objs.size := by obtain ⟨_, q, _⟩ := hit; exact Heap.lt_size q
    have pt : s.heap.IsTuple a its.toArray := p
    have hae : a ≠ e := fun z => by
      obtain ⟨o, ho, hc, _⟩ := pt
      rw [z, show s.heap.get? e = _ from he] at ho
      cases ho
      injection hc with q
      exact absurd q (by decide)
    have hai : a ≠ it := fun z => by
      obtain ⟨o, ho, hc, _⟩ := pt
      obtain ⟨o', ho', hc', _⟩ := id hit
      rw [z, ho'] at ho
      cases ho
      rw [hc'] at hc
      injection hc with q
      exact absurd q (by decide)
    have hlt : i < its.toArray.size := by
      have := (List.getElem?_eq_some_iff.mp hu).1
      simpa using this
    refine wpAny_pyNext_enum_itemD (Draws.tuple (by first | exact I.ok.hd hc | simpa using I.ok.hd hc) it a hai its.toArray) he ⟨hit, pt⟩ hlt hne (by simp [hae.symm, hne]) fun u' h' tk hu' ho hit' hT hsz hk => ?_
    have eu : u' = u := by
      have h1 : its.toArray[i]? = some u := by simpa using hu
      rw [hu'] at h1
      exact Option.some.inj h1
    subst eu
    refine ⟨_, rfl, wpAny_letOwnedTupleGo_enum (s := { s with heap := h', toks := tk + 1 }) ho fun h'' he' sb => ?_⟩
    have hT2 : h''.get? s.heap.objs.size = some { cls := .type "tuple", data := .seq #[.int i tk, u'] } := (sb.2 _ (Nat.ne_of_gt hel)).trans hT
    have new : ObjOk X.prog X.w (upd H s.heap.objs.size (sT [.int i tk, u'] [.int (i : Nat), x])) h'' s.heap.objs.size (sT [.int i tk, u'] [.int (i : Nat), x]) :=
      ⟨hT2, by show 2 ≤ sizeLine; decide, [.int i tk, u'], .cons ⟨_, rfl⟩ (.cons ru .nil), ⟨_, hT2, rfl, _, rfl⟩⟩
    have I1 : Inv X pins σ (upd H s.heap.objs.size (sT [.int i tk, u'] [.int (i : Nat), x])) { s with heap := h'', toks := tk + 1 } :=
      I.turnedNew (ch := [e, it]) (fun b ob hb q => (sb.2 b (fun z => hb (by simp [z]))).trans (hk b ob (fun z => hb (by simp [z])) (fun z => hb (by simp [z])) q)) hf (Nat.le_refl _) new
    refine ⟨.ref s.heap.objs.size, _, I1, rfl, ⟨_, x, _, rfl, I.hok.fresh (Nat.le_refl _), rfl, fun ys hy => by rw [I.tuple_inj hy hq]; exact hx⟩, ⟨⟨u', ?_⟩, hit'.1.at fun o q => (sb.2 it (Ne.symm hne)).trans q, hne⟩, fun b hb => ?_⟩
    · have e1 : ((i + 1 : Nat) : Int) = (i : Int) + 1 := by omega
      rw [e1]; exact he'
    · have hb' : b < s.heap.objs.size := by
        have e' : b = e ∨ b = it := by simpa using hb
        rcases e' with z | z
        · rw [z]; exact hel
        · rw [z]; exact hil
      rw [upd_ne (Nat.ne_of_lt hb')]
      exact (hf b hb).1
  done := by
    intro X hP hw hK hc i pins s σ H E I hf st hg
    subst hP hw hK
    obtain ⟨⟨old, he⟩, hit, hne⟩ := st
    obtain ⟨xs, hq, hx⟩ := hg
    obtain ⟨its, rv, p, hz⟩ := I.tuple hq
    obtain ⟨f0, f1, f2, f3, f4, f5⟩ := hf it (by simp)
    have hl := rv.length
    have pt : s.heap.IsTuple a its.toArray := p
    have hai : a ≠ it := fun z => by
      obtain ⟨o, ho, hc, _⟩ := pt
      obtain ⟨o', ho', hc', _⟩ := id hit
      rw [z, ho'] at ho
      cases ho
      rw [hc'] at hc
      injection hc with q
      exact absurd q (by decide)
    have ei : i = its.toArray.size := by rw [List.size_toArray]; omega
    subst ei
    exact wpAny_pyNext_enum_endD (Draws.tuple (by first | exact I.ok.hd hc | simpa using I.ok.hd hc) it a hai its.toArray) he ⟨hit, pt⟩ fun h' eb => ⟨rfl, I.turned (t' := s.toks) (fun b o hb q => eb b o hb q) f0 f1 f3 f4 f5⟩
  self := fun A i s Q E st h => let ⟨⟨_, he⟩, _⟩ := st; wpAny_pyIter_enum he h

set_option maxHeartbeats 4000000 in
theorem meets_enum1 {v : Value} {o : Obj} {H : Heap → Prop} (B : Begins v o H) :
    Meets (Builtin.«enumerate.__new__» ⟨[.type "enumerate", v], []⟩) (fun _ R s => H s.heap ∧
      R (.ok (.ret (.ref (s.heap.push o).objs.size))) { s with heap := (s.heap.push o).push { cls := .type "enumerate", data := .fields #[.none, .bool false, .ref s.heap.objs.size, rawInt 0, .none, .none] } }) :=
  .of_wp fun prog w A R s h => by
    obtain ⟨hp, g, d, tk, os⟩ := s; obtain ⟨h1, h⟩ := h
    have hsub := sub_enumerate
    have q1 : ∀ {A' : Around} {E : Value → Shared → Prop} {Q : Value → Shared → Prop}, Q (.ref hp.objs.size) ⟨hp.push o, g, d, tk, os⟩ → wpAny (model prog w) A' (pyIter v) Q E ⟨hp, g, d, tk, os⟩ :=
      fun q => B.iter prog w _ _ ⟨hp, g, d, tk, os⟩ _ h1 q
    wp_walk using q1
    refine wpAny_stack_any fun st => wpAny_pure ?_
    split
    · rename_i c _ _ _ _ _
      cases (c == Value.type "enumerate")
      · wp_walk using q1
        exact ⟨_, rfl, h⟩
      · wp_walk using q1
        exact ⟨_, rfl, h⟩
    · wp_walk using q1
      exact ⟨_, rfl, h⟩
theorem call_enumT {prog : Program} {w : World} {A : Around} {E : Value → Shared → Prop} {s : Shared} {t : Addr} {items : Array Value} {Q : Value → Shared → Prop} (ht : s.heap.IsTuple t items)
    (h : ∀ h', IsEnum h' (s.heap.objs.size + 1) s.heap.objs.size 0 .none → h'.IsTupleIter s.heap.objs.size t 0 → (∀ b o, s.heap.get? b = some o → h'.get? b = some o) → Q (.ref (s.heap.objs.size + 1)) { s with heap := h' }) :
    wpAny (model prog w) A (call (.type "enumerate") [.ref t]) Q E s := by
  refine callType_new F.called_enumerate (by decide) (F.typeCall_enumerate_1 _) (F.newCall_enumerate_1 _) (fun obj => F.args_object_init_2 obj _) F.entry_enumerate_new (meets_enum1 (begins_tuple t items)) ⟨ht, ?_⟩
  let o : Obj := { cls := .type "tuple_iterator", data := .fields #[.ref t, .int 0 0] }
  have hz : (s.heap.push o).objs.size = s.heap.objs.size + 1 := Heap.size_push ..
  show _ ∧ _
  rw [hz]
  have he : IsEnum ((s.heap.push o).push { cls := .type "enumerate", data := .fields #[.none, .bool false, .ref s.heap.objs.size, rawInt 0, .none, .none] }) (s.heap.objs.size + 1) s.heap.objs.size 0 .none := by
    have := Heap.get?_push_size (s.heap.push o) (o := { cls := .type "enumerate", data := .fields #[.none, .bool false, .ref s.heap.objs.size, rawInt 0, .none, .none] }) rfl
    rw [hz] at this; exact this
  exact ⟨⟨_, he, rfl⟩, h _ he ⟨_, Heap.get?_push_of_some _ (Heap.get?_push_size _ rfl), rfl, rfl⟩ fun b o x => Heap.get?_push_of_some _ (Heap.get?_push_of_some _ x)⟩
section
variable {X : Cx} {k : Kx} {E : XK} {a : Expr} {p0 pos tpos : Pos} {elts : List Expr} {kk : Nat} {f : SF}
def iEnumA (K : PySem.W.Frag) (te : TE) : TI := fun σ H R => te σ H fun v H1 => ∃ (q : Addr) (xs : List V), v = .ref q ∧ ((SqL K H1 q xs ∧ R (IteS fun H xs => SqL K H q xs) H1) ∨ (SqT K H1 q xs ∧ R (IteS fun H xs => SqT K H q xs) H1))
theorem pi_enumA {te : TE} (hg : Gl X "enumerate") (hm : X.mg "enumerate" = none) (he : PE X a te) (hs : starEach [a] X.env = (false, eval a X.env) :: starEach [] X.env) :
    PI X (.Tuple elts kk tpos) (.Call (.Name "enumerate" p0) [a] [] pos) (iEnumA X.K te) := by
  refine ⟨fun pins s σ H R I h => ?_⟩
  refine Call_ (ld_blt I hg hm boot_enumerate (PyProof.Rows.callWith_type1 (args_cons (thn (he.run pins s σ H _ I h) fun u s1 ⟨v, H1, I1, r1, q1⟩ => args_nil ?_) hs) hs rfl))
  obtain ⟨q, xs, rfl, q1⟩ := q1
  cases r1
  have fp : ∀ b ∈ [s1.heap.objs.size + 1, s1.heap.objs.size], FpOk X pins H1 b := fun b hb => by
    have e' : b = s1.heap.objs.size + 1 ∨ b = s1.heap.objs.size := by simpa using hb
    have hle : s1.heap.objs.size ≤ b := by
      rcases e' with z | z
      · rw [z]; exact Nat.le_add_right _ _
      · rw [z]; exact Nat.le_refl _
    exact I1.fpOk hle (I1.hok.fresh hle)
  rcases q1 with ⟨hq, q1⟩ | ⟨hq, q1⟩
  · obtain ⟨its, rv, p', hz⟩ := I1.list hq
    refine call_enumerate_list p'.isList fun h' he hit hsz hk => wpAny_pyIter_enum he ?_
    have I2 : Inv X pins σ H1 { s1 with heap := h' } := I1.kept (t' := s1.toks) hk
    exact ⟨s1.heap.objs.size + 1, [s1.heap.objs.size + 1, s1.heap.objs.size], _, _, H1, rfl, I2, turn_enumL q (s1.heap.objs.size + 1) s1.heap.objs.size, ⟨⟨.none, he⟩, hit, Nat.succ_ne_self _⟩, fp, q1⟩
  · obtain ⟨its, rv, p', hz⟩ := I1.tuple hq
    refine call_enumT (show s1.heap.IsTuple q its.toArray from p') fun h' he hit hk => wpAny_pyIter_enum he ?_
    have I2 : Inv X pins σ H1 { s1 with heap := h' } := I1.kept (t' := s1.toks) hk
    exact ⟨s1.heap.objs.size + 1, [s1.heap.objs.size + 1, s1.heap.objs.size], _, _, H1, rfl, I2, turn_enumT q (s1.heap.objs.size + 1) s1.heap.objs.size, ⟨⟨.none, he⟩, hit, Nat.succ_ne_self _⟩, fp, q1⟩
theorem enmL_length : ∀ (xs : List D) (n : Nat), (enmL xs n).length = xs.length
  | [], _ => rfl
  | x :: xs, n => by show (enmL xs (n + 1)).length + 1 = xs.length + 1; rw [enmL_length xs]
theorem enmL_get : ∀ (xs : List D) (n i : Nat), (enmL xs n)[i]? = xs[i]?.map fun x => .tuple [.int ((n + i : Nat) : Int), x]
  | [], _, _ => by simp [enmL]
  | x :: xs, n, 0 => by simp [enmL]
  | x :: xs, n, i + 1 => by
    show (enmL xs (n + 1))[i]? = _
    rw [enmL_get xs (n + 1) i, show n + 1 + i = n + (i + 1) by omega]
    simp
theorem wk_enum {ex am : List Addr} {M : Mem} {H : Hp} {ds : List D} {vs : List V} {S : Hp → List V → Prop} (rm : RM k.K ex am M H) (r : Rs k.K H (avS ex am M) ds vs) (hS : ∀ am' M' H', F am M H am' M' H' → S H' vs) : Wk k ex am M H (IteS S) (enmL ds 0) := by
  have hl := r.length
  refine ⟨fun ex' i am' M' H' hx rm' f' hi => ?_, fun ex' am' M' H' hx rm' f' => ?_, fun ex' i am' M' H' H2 x hx rm' f' hi y => ?_⟩
  · rw [enmL_length] at hi
    exact ⟨vs, vs[i]'(by omega), hS _ _ _ f', by simp⟩
  · exact ⟨vs, hS _ _ _ f', by rw [enmL_length]; omega⟩
  · rw [enmL_length] at hi
    obtain ⟨T, y, its, rfl, hT, rfl, e2⟩ := y
    have hv' := e2 vs (hS _ _ _ f')
    obtain ⟨v, hv, rv⟩ := ((rm.agrx f' hx).rs _ _ r).get (List.getElem?_eq_getElem hi)
    rw [hv'] at hv
    cases hv
    refine ⟨.tuple [.int i, ds[i]], ?_, ?_, rm'.new _ hT, F.new hT⟩
    · rw [enmL_get, List.getElem?_eq_getElem hi]
      simp
    · exact R.newT rm' hT ⟨_, _, rfl, rfl, _, _, rfl, rv, rfl⟩
theorem si_enm (ck : Ck k X) (bn : Bn X "enumerate") (ha : SE X k E a f) (hs : starEach [a] X.env = (false, eval a X.env) :: starEach [] X.env) : SIt X k E (.Tuple elts kk tpos) (.Call (.Name "enumerate" p0) [a] [] pos) (sEnm f) :=
  PI.imp (pi_enumA bn.gl bn.mg ha hs) fun σ H Rr ⟨ex, am, env, M, rm, re, p⟩ => by
    refine ⟨ex, am, env, M, rm, re, p.bind.mono fun v M1 am1 H1 rm1 f1 p1 x rx => ?_⟩
    split at p1
    · obtain ⟨q, vs, rfl, hq, n, r⟩ := rx
      exact ⟨q, vs, rfl, .inl ⟨.inl (.inl hq), p1.now rm1 _ (wk_enum rm1 r fun am' M' H' f' => .inl (.inl (f'.keep q _ hq fun l => n (.inr l)).1))⟩⟩
    · obtain ⟨q, vs, rfl, hq, r⟩ := rx
      refine ⟨q, vs, rfl, .inr ⟨by rw [ck.K]; exact hq.sq, ?_⟩⟩
      rw [ck.K]
      exact p1.now rm1 _ (wk_enum rm1 r fun am' M' H' f' => ((rm1.agr f').tup q vs hq).sq)
    · exact p1.elim
end
end Mp
end
section
set_option maxHeartbeats 4000000
/-! dict of a list of pairs; new lists by + and turned round. -/
namespace Mp
open PySem PySem.Spec PyProof.Rows L2
section
variable {X : Cx} {k : Kx} {E : XK} {e a b c : Expr} {es : List Expr} {pos p0 p1 p2 p3 : Pos} {f g : SF} {A : SA}

theorem bind_asc {α β γ : Type} (r : Res α) (f : α → Mem → Res β) (g : β → Mem → Res γ) : (r.bind f).bind g = r.bind fun a M => (f a M).bind g := by
  cases r <;> rfl
/-- a new list by + that will be changed -/
theorem se_newCat (hK : X.K = k.K.K) (ha : SE X k E a f) (hb : SE X k E b g) : SE X k E (.BinOp a .Add b pos) (sNew (sBin .add f g)) :=
  PE.imp (pe_op (r := fun x y H Q => ∃ ex am M d1 d2 ds, RM k.K ex am M H ∧ RT k.K H (avS ex am M) d1 x ∧ RT k.K H (avS ex am M) d2 y ∧ binD .add d1 d2 = some (.list ds) ∧
      ∀ p vs, H p = none → Rs k.K H (avS ex am M) ds vs → Q (.ref p) (upd H p (.lst vs))) (by
    intro pins s σ H x y v u Q I rx ry ⟨ex, am, M, d1, d2, ds, rm, ra, rb, hz, q⟩
    obtain ⟨da, db, rfl, rfl, hl, rfl⟩ : ∃ da db, d1 = .list da ∧ d2 = .list db ∧ da.length + db.length ≤ lim ∧ ds = da ++ db := by
      cases d1 <;> cases d2 <;> simp [binD] at hz
      exact ⟨_, _, rfl, rfl, hz.1, hz.2.symm⟩
    obtain ⟨p, xs, rfl, hp, r1⟩ := ra
    obtain ⟨p', ys, rfl, hp', r2⟩ := rb
    exact op_cat pins s σ H _ _ v u Q I rx ry ⟨p, p', xs, ys, rfl, rfl, hp, hp', by rw [← r1.length, ← r2.length]; exact lim_size hl, fun t ht => q t _ ht (r1.append r2)⟩) ha hb) fun σ H Q ⟨ex, am, env, M, rm, re, p⟩ => by
    unfold sNew sBin at p
    rw [bind_asc] at p
    refine ⟨ex, am, env, M, rm, re, p.bind.mono fun v M1 am1 H1 rm1 f1 p1 x rx => ?_⟩
    rw [bind_asc] at p1
    refine ⟨ex, am1, env, M1, rm1, re.step rm f1, p1.bind.mono fun w M2 am2 H2 rm2 f2 p2 y ry => ?_⟩
    cases q1 : rdV M2 v with
    | none => rw [q1] at p2; exact p2.elim
    | some d1 =>
      cases q2 : rdV M2 w with
      | none => rw [q1, q2] at p2; exact p2.elim
      | some d2 =>
        rw [q1, q2] at p2
        dsimp only at p2
        cases q3 : binD .add d1 d2 with
        | none => rw [q3] at p2; exact p2.elim
        | some z =>
          rw [q3] at p2
          rw [ofO, bind_ok, bind_ok] at p2
          cases z with
          | list ds =>
            refine ⟨ex, am2, M2, d1, d2, ds, rm2, rd_of rm2 (rx.step rm1 f2) q1, rd_of rm2 ry q2, q3, fun q vs hq rs => ?_⟩
            have al := rm2.alloc (o := .lst vs) (ob := .lst ds) hq rfl fun H' av' am' g _ hs => ⟨vs, hs, g.rs _ _ rs⟩
            refine p2 _ _ al.1 al.2 _ ⟨q, ?_, rfl⟩
            rw [← rm2.len]
            simp
          | _ => exact p2.elim
/-- .. turned round -/
theorem se_newRev {n : Nat} (ck : Ck k X) (he : SE X k E e f) : SE X k E (.Subscript e (.Slice none none (some (.UnaryOp .USub (.Constant (.int 1) n p1) p2)) p3) pos) (sNew (sRev f)) :=
  PE.imp (pe_revA he) fun σ H Q ⟨ex, am, env, M, rm, re, p⟩ => by
    unfold sNew sRev at p
    rw [bind_asc] at p
    refine ⟨ex, am, env, M, rm, re, p.bind.mono fun v M1 am1 H1 rm1 f1 p1 x rx => ?_⟩
    cases hr : rdV M1 v with
    | none => rw [hr] at p1; exact p1.elim
    | some d =>
      rw [hr] at p1
      have rt := rd_of rm1 rx hr
      cases d with
      | list ds =>
        obtain ⟨q, vs, rfl, hq, r⟩ := rt
        refine ⟨q, vs, rfl, .inl ⟨.inl (.inl hq), fun t ht => ?_⟩⟩
        have al := rm1.alloc (o := .lst vs.reverse) (ob := .lst ds.reverse) ht rfl fun H' av' am' g _ hs => ⟨_, hs, g.rs _ _ r.reverse⟩
        refine p1 _ _ al.1 al.2 _ ⟨t, ?_, rfl⟩
        rw [← rm1.len]
        simp
      | _ => exact p1.elim

/-! ### dict(pairs) -/
theorem keyD_R {K : Kf} {H : Hp} {av : Addr → Prop} {d : D} {v : V} {q : L2.Key} (h : R K H av d v) (e : keyD d = some q) : v = kV q := key_R h e
theorem pairs_are {K : Kf} {H : Hp} {av : Addr → Prop} : ∀ {ds : List D} {vs : List V} {kvs : List (L2.Key × D)}, Rs K H av ds vs → dpairs ds = some kvs →
    ∃ (ps : List Addr) (zs : List (L2.Key × V)), vs = ps.map V.ref ∧ Paired (fun p kv => SqT K.K H p [kV kv.1, kv.2]) ps zs ∧ RK K H av kvs zs
  | [], _, _, h, e => by cases h; cases e; exact ⟨[], [], rfl, .nil, rfl⟩
  | d :: ds, _, kvs, h, e => by
    obtain ⟨v, r, rfl, h1, h2⟩ := h
    unfold dpairs at e
    cases q1 : dpair d with
    | none => rw [q1] at e; cases e
    | some kv =>
      cases q2 : dpairs ds with
      | none => rw [q1, q2] at e; cases e
      | some kvs2 =>
        rw [q1, q2] at e
        cases e
        obtain ⟨ps, zs, rfl, hp, hr⟩ := pairs_are h2 q2
        cases d with
        | tuple xs =>
          cases xs with
          | nil => cases q1
          | cons a t => cases t with
            | nil => cases q1
            | cons b t => cases t with
              | cons _ _ => cases q1
              | nil =>
                obtain ⟨p, us, rfl, hp1, hu⟩ := h1
                obtain ⟨va, ra, rfl, hva, hra⟩ := hu
                obtain ⟨vb, rb, rfl, hvb, hrb⟩ := hra
                cases (show rb = [] from hrb)
                have q1' : (keyD a).map (fun k => (k, b)) = some kv := q1
                obtain ⟨kk, hk, rfl⟩ := Option.map_eq_some_iff.mp q1'
                have e1 := key_R hva hk
                subst e1
                exact ⟨p :: ps, (kk, vb) :: zs, rfl, .cons hp1.sq hp, ⟨vb, zs, rfl, hvb, hr⟩⟩
        | _ => cases q1
theorem RK.merge {K : Kf} {H : Hp} {av : Addr → Prop} : ∀ {kvs : List (L2.Key × D)} {zs : List (L2.Key × V)} {acc : List (L2.Key × D)} {az : List (L2.Key × V)}, RK K H av kvs zs → RK K H av acc az →
    RK K H av (kvs.foldl (fun acc kv => dPut acc kv.1 kv.2) acc) (mergeK az zs)
  | [], _, _, _, h, g => by cases (show _ = [] from h); exact g
  | x :: kvs, _, acc, az, h, g => by
    obtain ⟨v, r, rfl, h1, h2⟩ := h
    exact RK.merge (kvs := kvs) (acc := dPut acc x.1 x.2) (az := putK az x.1 v) h2 (g.put x.1 h1)
theorem vPairs_some {vs : List Val} {kvs : List (L2.Key × D)} (h : vPairs vs = some kvs) : ∃ xs, vs = [.d (.list xs)] ∧ xs.length ≤ lim ∧ dpairs xs = some kvs := by
  obtain ⟨x, rfl, h1⟩ := v1_some h
  cases x with
  | ref _ => cases h1
  | d x => cases x with
    | list xs =>
      have h2 : (if xs.length ≤ lim then dpairs xs else none) = some kvs := h1
      split at h2
      · rename_i hl; exact ⟨xs, rfl, hl, h2⟩
      · cases h2
    | _ => cases h1
theorem se_dcp (ck : Ck k X) (bn : Bn X ("dict" : Str)) (ha : SAs X k E (e :: es) A) (he : starEach (e :: es) X.env = (false, eval e X.env) :: starEach es X.env) (hpl : (backTo pos (starEach es X.env)).any (·.1) = false) :
    SE X k E (.Call (.Name ("dict" : Str) p0) (e :: es) [] pos) (sDcp A) :=
  PE.imp (pe_callTy (call_dictP ck.calm) bn.gl bn.mg (by decide +kernel) ha (by decide +kernel) (by decide +kernel) he hpl) fun σ H Q ⟨ex, am, env, M, rm, re, p⟩ => by
    refine ⟨ex, am, env, M, rm, re, p.bind.mono fun vs M1 am1 H1 rm1 f1 p1 xs rxs => ?_⟩
    cases q : vPairs vs with
    | none => rw [q] at p1; exact p1.elim
    | some kvs =>
      rw [q] at p1
      obtain ⟨ys, rfl, hl, hp⟩ := vPairs_some q
      obtain ⟨v, r, rfl, h1, h2⟩ := rxs
      cases (show r = [] from h2)
      obtain ⟨a, us, rfl, hq, na, rs⟩ := h1
      obtain ⟨ps, zs, rfl, hpp, hrk⟩ := pairs_are rs hp
      refine ⟨a, ps, zs, rfl, .inl (.inl hq), by rw [ck.K]; exact hpp, fun t ht => ?_⟩
      have al := rm1.alloc (o := .dK (mergeK [] zs)) (ob := .dK (dAll kvs)) ht rfl fun H' av' am' g _ hs => ⟨_, hs, g.rk _ _ (RK.merge hrk (show RK _ _ _ [] [] from rfl))⟩
      refine p1 _ _ al.1 al.2 _ ⟨t, ?_, rfl⟩
      rw [← rm1.len]
      simp
end
end Mp
end
section
set_option maxHeartbeats 4000000
/-! Calls of the text's defs; a def's body keeps its promise. -/
namespace Mp
open PySem PySem.Spec PyProof.Rows L2

/-- a def's promise -/
def spC (k : Kx) (C : CT) (j : Nat) : Sp := fun vs H Q E => ∃ ex am M us, RM k.K ex am M H ∧ RVs k.K H (avS ex am M) am us vs ∧ Po k ex am M H E (C j us M) (okV k ex Q)

/-! ### keywords -/
def gP {α : Type} (np nk : Nat) (perm : List Nat) (us ws : List α) : List α := if us.length = np ∧ ws.length = nk then perm.filterMap fun i => (us ++ ws)[i]? else []
theorem kb_mk {K : PySem.W.Frag} {fd : FuncData} {ps ks : List Str} {np nk : Nat} {perm : List Nat} (h0 : ps ≠ []) (h : ∀ us ws : List Value, us.length = np → ws.length = nk → bindArgs fd ⟨us, ks.zip ws⟩ = pure (ps.zip (gP np nk perm us ws))) :
    KBinds K fd ps ks (gP np nk perm) (gP np nk perm) := by
  refine ⟨fun s us ws _ hl => ?_, fun {vs us zs ws} r rz => ?_⟩
  · by_cases hc : us.length = np ∧ ws.length = nk
    · exact .of_eq (h us ws hc.1 hc.2)
    · unfold gP at hl
      rw [if_neg hc] at hl
      exact absurd (List.eq_nil_of_length_eq_zero hl.symm) h0
  · unfold gP
    have e1 := r.length
    have e2 := rz.length
    have e3 : (vs.length = np ∧ zs.length = nk) ↔ (us.length = np ∧ ws.length = nk) := by rw [e1, e2]
    by_cases hc : vs.length = np ∧ zs.length = nk
    · rw [if_pos hc, if_pos (e3.mp hc)]
      have ra := r.append rz
      clear hc e1 e2 e3 h h0
      induction perm with
      | nil => exact .nil
      | cons i perm ih =>
        cases hv : (vs ++ zs)[i]? with
        | none =>
          have : (us ++ ws)[i]? = none := by
            rw [List.getElem?_eq_none_iff] at hv ⊢
            have := ra.length
            omega
          rw [List.filterMap_cons_none hv, List.filterMap_cons_none this]
          exact ih
        | some x =>
          obtain ⟨u, hu, ru⟩ := ra.get hv
          rw [List.filterMap_cons_some hv, List.filterMap_cons_some hu]
          exact .cons ru ih
    · rw [if_neg hc, if_neg fun z => hc (e3.mpr z)]
      exact .nil

structure KShape where
  j : Nat
  np : Nat
  ks : List Str
  perm : List Nat

/-- the text's defs, as they may be called here -/
structure Cl (k : Kx) (X : Cx) (E : XK) (C : CT) (n : Nat) (tb : List (Str × List Str)) (kb : List KShape) : Prop where
  fn : ∀ (j : Nat) (x : Str) (ps : List Str), tb[j]? = some (x, ps) → ∃ f fd, FnOk X.prog X.w X.K X.mg X.base (L2.CX X.prog X.w) n f fd ps (spC k C j) ∧ X.mg x = some (.ref f) ∧ PySem.W.keepIn X.K (.ref f) = true ∧ Binds X.K fd ps [] ∧
    ∀ sh ∈ kb, sh.j = j → KBinds X.K fd ps sh.ks (gP sh.np sh.ks.length sh.perm) (gP sh.np sh.ks.length sh.perm)
  room : Room n X.A
  pass : Passes (L2.CX X.prog X.w) X E

section
variable {X : Cx} {k : Kx} {E : XK} {C : CT} {n : Nat} {tb : List (Str × List Str)} {kb : List KShape} {e : Expr} {es : List Expr} {pos p0 kpos : Pos} {f g : SF} {A B : SA}
theorem se_call {j : Nat} {x : Str} {ps : List Str} (cl : Cl k X E C n tb kb) (hj : tb[j]? = some (x, ps)) (hg : Gl X x) (ha : SAs X k E (e :: es) A) (hdb : (x == ("__debug__" : Str)) = false) (he : starEach (e :: es) X.env = (false, eval e X.env) :: starEach es X.env)
    (hpl : (backTo pos (starEach es X.env)).any (·.1) = false) : SE X k E (.Call (.Name x p0) (e :: es) [] pos) (sCall C j A) := by
  obtain ⟨fa, fd, F, hm, hk, hb, _⟩ := cl.fn j x ps hj
  refine PE.imp (pe_call F cl.room hg hm hk hb .nil cl.pass ha hdb he hpl) fun σ H Q ⟨ex, am, env, M, rm, re, p⟩ => ?_
  refine ⟨ex, am, env, M, rm, re, p.bind.mono fun vs M1 am1 H1 rm1 f1 p1 xs rxs => ?_⟩
  show spC k C j (xs ++ []) H1 Q E
  rw [List.append_nil]
  exact ⟨ex, am1, M1, vs, rm1, rxs, p1⟩
theorem se_call0 {j : Nat} {x : Str} {ps : List Str} (cl : Cl k X E C n tb kb) (hj : tb[j]? = some (x, ps)) (hg : Gl X x) (hdb : (x == ("__debug__" : Str)) = false) : SE X k E (.Call (.Name x p0) [] [] pos) (sCall C j sNil) := by
  obtain ⟨fa, fd, F, hm, hk, hb, _⟩ := cl.fn j x ps hj
  refine PE.imp (pe_call0 F cl.room hg hm hk hb .nil cl.pass hdb) fun σ H Q ⟨ex, am, env, M, rm, re, p⟩ => ?_
  exact ⟨ex, am, M, [], rm, rfl, p⟩
abbrev SKs (X : Cx) (k : Kx) (E : XK) (es : List Keyword) (g : SA) : Prop := PK X es (tA k E g)
theorem PK.imp {X : Cx} {e : List Keyword} {t t' : TA} (h : PK X e t) (i : ∀ σ H Q, t' σ H Q → t σ H Q) : PK X e t' := ⟨fun pos pins s σ H Q I q => h.run pos pins s σ H Q I (i σ H Q q)⟩
theorem sk_nil : SKs X k E [] sNil := PK.imp pk_nil fun σ H Q ⟨ex, am, env, M, rm, re, p⟩ => p.now rm _ rfl
theorem sk_cons {nm : Option Str} {kws : List Keyword} (he : SE X k E e f) (hr : SKs X k E kws A) : SKs X k E (⟨nm, e, kpos⟩ :: kws) (sCons f A) :=
  PK.imp (pk_cons he hr) fun σ H Q ⟨ex, am, env, M, rm, re, p⟩ => by
    refine ⟨ex, am, env, M, rm, re, p.bind.mono fun v M1 am1 H1 rm1 f1 p1 x rx => ?_⟩
    refine ⟨ex, am1, env, M1, rm1, re.step rm f1, p1.bind.mono fun vs M2 am2 H2 rm2 f2 p2 xs rxs => ?_⟩
    exact p2.now rm2 (x :: xs) ⟨x, xs, rfl, rx.step rm1 f2, rxs⟩
theorem RVs.append {K : Kf} {H : Hp} {av : Addr → Prop} {am : List Addr} : ∀ {ds es : List Val} {vs us : List V}, RVs K H av am ds vs → RVs K H av am es us → RVs K H av am (ds ++ es) (vs ++ us)
  | [], _, _, _, h, g => by cases (show _ = [] from h); exact g
  | d :: ds, es, _, us, h, g => by
    obtain ⟨v, r, e, h1, h2⟩ := h
    subst e
    exact ⟨v, r ++ us, rfl, h1, RVs.append h2 g⟩
theorem permV_R {K : Kf} {H : Hp} {av : Addr → Prop} {am : List Addr} {vs : List Val} {xs : List V} (r : RVs K H av am vs xs) : ∀ {perm : List Nat} {us : List Val}, permV vs perm = some us → RVs K H av am us (perm.filterMap fun i => xs[i]?)
  | [], us, h => by cases h; rfl
  | i :: perm, us, h => by
    unfold permV at h
    cases h1 : vs[i]? with
    | none => rw [h1] at h; cases h
    | some v =>
      cases h2 : permV vs perm with
      | none => rw [h1, h2] at h; cases h
      | some ws =>
        rw [h1, h2] at h
        cases h
        obtain ⟨x, hx, rx⟩ := r.get h1
        rw [List.filterMap_cons_some hx]
        exact ⟨x, _, rfl, rx, permV_R r h2⟩
theorem sCallk_len {np nk : Nat} : True := trivial
theorem se_callk {j : Nat} {x : Str} {ps : List Str} {sh : KShape} {kws : List Keyword} (cl : Cl k X E C n tb kb) (hj : tb[j]? = some (x, ps)) (hs : sh ∈ kb) (hsj : sh.j = j) (hg : Gl X x) (ha : SAs X k E (e :: es) A) (hkw : SKs X k E kws B)
    (hla : ∀ env M vs M', A env M = .ok vs M' → vs.length = sh.np) (hlb : ∀ env M vs M', B env M = .ok vs M' → vs.length = sh.ks.length)
    (hall : (backToKw pos (keywordEach kws X.env)).all (·.1.isSome) = true) (hks : (backToKw pos (keywordEach kws X.env)).filterMap (·.1) = sh.ks)
    (hdb : (x == ("__debug__" : Str)) = false) (he : starEach (e :: es) X.env = (false, eval e X.env) :: starEach es X.env)
    (hpl : ((backTo pos (starEach (e :: es) X.env)).any (·.1) || (backToKw pos (keywordEach kws X.env)).any (·.1.isNone)) = false) : SE X k E (.Call (.Name x p0) (e :: es) kws pos) (sCallk C j A B sh.perm) := by
  obtain ⟨fa, fd, F, hm, hk, _, hb⟩ := cl.fn j x ps hj
  refine PE.imp (pe_callK F cl.room hg hm hk (hb sh hs hsj) cl.pass ha hkw hall hks hdb he hpl) fun σ H Q ⟨ex, am, env, M, rm, re, p⟩ => ?_
  have h1 : Po k ex am M H E (A env M) (fun vs M1 am1 H1 => vs.length = sh.np ∧ Po k ex am1 M1 H1 E ((B env M1).bind fun ws M2 => match permV (vs ++ ws) sh.perm with | some us => C j us M2 | none => .no) (okV k ex Q)) := by
    have p' := p.bind
    cases hA : A env M with
    | ok vs M1 => rw [hA] at p'; exact fun am1 H1 rm1 f1 => ⟨hla _ _ _ _ hA, p' am1 H1 rm1 f1⟩
    | ex e1 M1 => rw [hA] at p'; exact p'
    | no => rw [hA] at p'; exact p'
  refine ⟨ex, am, env, M, rm, re, h1.mono fun vs M1 am1 H1 rm1 f1 ⟨hl1, p1⟩ xs rxs => ?_⟩
  have h2 : Po k ex am1 M1 H1 E (B env M1) (fun ws M2 am2 H2 => ws.length = sh.ks.length ∧ Po k ex am2 M2 H2 E (match permV (vs ++ ws) sh.perm with | some us => C j us M2 | none => .no) (okV k ex Q)) := by
    have p' := p1.bind
    cases hB : B env M1 with
    | ok ws M2 => rw [hB] at p'; exact fun am1 H1 rm1 f1 => ⟨hlb _ _ _ _ hB, p' am1 H1 rm1 f1⟩
    | ex e1 M1 => rw [hB] at p'; exact p'
    | no => rw [hB] at p'; exact p'
  refine ⟨ex, am1, env, M1, rm1, re.step rm f1, h2.mono fun ws M2 am2 H2 rm2 f2 ⟨hl2, p2⟩ ys rys => ?_⟩
  cases hp : permV (vs ++ ws) sh.perm with
  | none => rw [hp] at p2; exact p2.elim
  | some us =>
    rw [hp] at p2
    have rr := (rxs.step rm1 f2).append rys
    have e3 : xs.length = sh.np ∧ ys.length = sh.ks.length := ⟨by rw [← rxs.length]; exact hl1, by rw [← rys.length]; exact hl2⟩
    refine ⟨ex, am2, M2, us, rm2, ?_, p2⟩
    unfold gP
    rw [if_pos e3]
    exact permV_R rr hp
/-- f(k = v, ..) -/
theorem se_callk0 {j : Nat} {x : Str} {ps : List Str} {sh : KShape} {kws : List Keyword} (cl : Cl k X E C n tb kb) (hj : tb[j]? = some (x, ps)) (hs : sh ∈ kb) (hsj : sh.j = j) (h0 : sh.np = 0) (hg : Gl X x) (hkw : SKs X k E kws B)
    (hlb : ∀ env M vs M', B env M = .ok vs M' → vs.length = sh.ks.length) (hall : (backToKw pos (keywordEach kws X.env)).all (·.1.isSome) = true) (hks : (backToKw pos (keywordEach kws X.env)).filterMap (·.1) = sh.ks)
    (hdb : (x == ("__debug__" : Str)) = false) (hpl : ((backTo pos (starEach [] X.env)).any (·.1) || (backToKw pos (keywordEach kws X.env)).any (·.1.isNone)) = false) : SE X k E (.Call (.Name x p0) [] kws pos) (sCallk C j sNil B sh.perm) := by
  obtain ⟨fa, fd, F, hm, hk, _, hb⟩ := cl.fn j x ps hj
  refine ⟨fun pins s σ H Q I ⟨ex, am, env, M, rm, re, p⟩ => ?_⟩
  have p1 : Po k ex am M H E ((B env M).bind fun ws M2 => match permV ([] ++ ws) sh.perm with | some us => C j us M2 | none => .no) (okV k ex Q) := p
  have h2 : Po k ex am M H E (B env M) (fun ws M2 am2 H2 => ws.length = sh.ks.length ∧ Po k ex am2 M2 H2 E (match permV ([] ++ ws) sh.perm with | some us => C j us M2 | none => .no) (okV k ex Q)) := by
    have p' := p1.bind
    cases hB : B env M with
    | ok ws M2 => rw [hB] at p'; exact fun am1 H1 rm1 f1 => ⟨hlb _ _ _ _ hB, p' am1 H1 rm1 f1⟩
    | ex e1 M1 => rw [hB] at p'; exact p'
    | no => rw [hB] at p'; exact p'
  have h3 : tA k E B σ H fun zs H2 => spC k C j (gP sh.np sh.ks.length sh.perm [] zs) H2 Q E := by
    refine ⟨ex, am, env, M, rm, re, h2.mono fun ws M2 am2 H2 rm2 f2 ⟨hl2, p2⟩ ys rys => ?_⟩
    cases hp : permV ([] ++ ws) sh.perm with
    | none => rw [hp] at p2; exact p2.elim
    | some us =>
      rw [hp] at p2
      have e3 : ([] : List V).length = sh.np ∧ ys.length = sh.ks.length := ⟨by rw [h0]; rfl, by rw [← rys.length]; exact hl2⟩
      refine ⟨ex, am2, M2, us, rm2, ?_, p2⟩
      unfold gP
      rw [if_pos e3]
      exact permV_R (vs := [] ++ ws) (xs := [] ++ ys) rys hp
  refine wpAny_Call_Name_kw (ld_glob I hg hm ?_ hdb)
  refine PySem.W.callWith_KW0 (h₀ := X.base) I.ok.mod.kin hk hall ?_ hpl
  refine thn (hkw.run pos pins s σ H _ I h3) fun ws s2 ⟨zs, H2, I2, rz, q2⟩ => ⟨I2.kIn, ?_⟩
  rw [hks]
  exact run_fnk F cl.room (hb sh hs hsj) cl.pass I2 .nil rz q2
end

/-! ### letting go -/
theorem live_take {am more : List Addr} {M1 : Mem} {a : Addr} {n : Nat} (hn : am.length = n) (l : live am (M1.take n) a) : live (am ++ more) M1 a := by
  obtain ⟨i, ob, h1, h2, h3⟩ := l
  have hi : i < n := by rw [← hn]; exact (List.getElem?_eq_some_iff.mp h1).1
  rw [List.getElem?_take_of_lt hi] at h2
  exact ⟨i, ob, by rw [List.getElem?_append_left (by omega)]; exact h1, h2, h3⟩
theorem RV.take {K : Kf} {H : Hp} {av av' : Addr → Prop} {am more : List Addr} {n : Nat} (hn : am.length = n) (g : Agr K H av H av') {v : Val} {x : V} (hv : okRef n v = true) (r : RV K H av (am ++ more) v x) : RV K H av' am v x := by
  cases v with
  | d d => exact g.r d x r
  | ref i =>
    obtain ⟨a, ha, e⟩ := r
    have hi : i < n := of_decide_eq_true hv
    exact ⟨a, by rw [List.getElem?_append_left (by omega)] at ha; exact ha, e⟩
theorem RVs.take {K : Kf} {H : Hp} {av av' : Addr → Prop} {am more : List Addr} {n : Nat} (hn : am.length = n) (g : Agr K H av H av') : ∀ {vs : List Val} {xs : List V}, (∀ v ∈ vs, okRef n v = true) → RVs K H av (am ++ more) vs xs → RVs K H av' am vs xs
  | [], _, _, r => r
  | v :: vs, _, hv, r => by
    obtain ⟨x, t, e, r1, r2⟩ := r
    exact ⟨x, t, e, RV.take hn g (hv v List.mem_cons_self) r1, RVs.take hn g (fun w hw => hv w (List.mem_cons_of_mem _ hw)) r2⟩
theorem RM.take {K : Kf} {ex am more : List Addr} {M1 : Mem} {H : Hp} {n : Nat} (hn : am.length = n) (m : RM K ex (am ++ more) M1 H) : RM K ex am (M1.take n) H ∧ Agr K H (avS ex (am ++ more) M1) H (avS ex am (M1.take n)) := by
  have hl : M1.length = n + more.length := by rw [← m.len, List.length_append, hn]
  have g : Agr K H (avS ex (am ++ more) M1) H (avS ex am (M1.take n)) := ⟨fun _ _ h => h, fun a vs h nl => ⟨h, fun l => nl (l.elim .inl fun z => .inr (live_take hn z))⟩⟩
  refine ⟨⟨by rw [List.length_take]; omega, fun i ob a h1 h2 => ?_, fun i j a ob1 ob2 h1 h2 h3 h4 h5 h6 => ?_, fun a h l => m.exL a h (live_take hn l), m.exH⟩, g⟩
  · have hi : i < n := by rw [← hn]; exact (List.getElem?_eq_some_iff.mp h2).1
    rw [List.getElem?_take_of_lt hi] at h1
    have h2' : (am ++ more)[i]? = some a := by rw [List.getElem?_append_left (by omega)]; exact h2
    have q := m.obj i ob a h1 h2'
    cases ob with
    | lst xs => obtain ⟨vs, e, r⟩ := q; exact ⟨vs, e, g.rs _ _ r⟩
    | box xs =>
      obtain ⟨vs, e, r, w⟩ := q
      refine ⟨vs, e, RVs.take hn g (fun v hv => ?_) r, w⟩
      have := w v hv
      cases v with
      | d _ => rfl
      | ref j => exact decide_eq_true (Nat.lt_trans (of_decide_eq_true this) hi)
    | dK xs => obtain ⟨vs, e, r⟩ := q; exact ⟨vs, e, g.rk _ _ r⟩
    | dT xs => obtain ⟨vs, e, r⟩ := q; exact ⟨vs, e, g.rd _ _ r⟩
    | ins c fs => exact q.elim
    | scr xs => obtain ⟨vs, e, r⟩ := q; exact ⟨vs, e, g.rs _ _ r⟩
    | dead => trivial
  · have lt : ∀ {i : Nat} {a : Addr}, am[i]? = some a → i < n := fun h => by rw [← hn]; exact (List.getElem?_eq_some_iff.mp h).1
    rw [List.getElem?_take_of_lt (lt h1)] at h3
    rw [List.getElem?_take_of_lt (lt h2)] at h4
    have up : ∀ {i : Nat} {a : Addr}, am[i]? = some a → (am ++ more)[i]? = some a := fun h => by rw [List.getElem?_append_left (by have := lt h; omega)]; exact h
    exact m.inj i j a _ _ (up h1) (up h2) h3 h4 h5 h6
theorem F.take {am more : List Addr} {M M1 : Mem} {H H1 : Hp} {n : Nat} (hn : am.length = n) (f : F am M H (am ++ more) M1 H1) : F am M H am (M1.take n) H1 :=
  ⟨fun a o h nl => let ⟨h1, n1⟩ := f.keep a o h nl; ⟨h1, fun l => n1 (live_take hn l)⟩, [], by simp⟩

/-! ### a def's body -/
theorem start_RE {K : Kf} {ex am : List Addr} {M : Mem} {H : Hp} {us : List Val} {vs : List V} {N : List Str} {ns np : Nat} (r : RVs K H (avS ex am M) am us vs) (hns : ns = N.length) (hnp : us.length = np) (hle : np ≤ ns) :
    RE K ex am M H (us.map some ++ List.replicate (ns - np) none) (L2.start N vs) := by
  have hl := r.length
  refine ⟨by unfold L2.start; simp; omega, fun i v h => ?_⟩
  have h' := getE_spec h
  have hi : i < us.length := by
    by_cases hi : i < us.length
    · exact hi
    · rw [List.getElem?_append_right (by simpa using hi)] at h'
      rw [List.getElem?_replicate] at h'
      split at h' <;> cases h'
  rw [List.getElem?_append_left (by simpa using hi), List.getElem?_map] at h'
  cases hu : us[i]? with
  | none => rw [hu] at h'; cases h'
  | some w =>
    rw [hu] at h'
    cases h'
    obtain ⟨x, hx, rx⟩ := r.get hu
    refine ⟨x, ?_, rx⟩
    unfold L2.start
    rw [List.getElem?_append_left (by rw [List.length_map, ← hl]; exact hi), List.getElem?_map, hx]
    rfl
/-- the body's end is the call's end -/
theorem body_end {k : Kx} {ex am : List Addr} {M : Mem} {H : Hp} {E : XK} {r : Res Fl} {tr : Bool} {Q : VK} (rm : RM k.K ex am M H)
    (p : Po k ex am M H E (r.bind fun fl M1 => match fl with | .nx _ => outV M.length tr (.d .none) M1 | .rt v => outV M.length tr v M1 | _ => .no) (okV k ex Q)) :
    Po k ex am M H E r (okF k ex { nx := fun _ H' => Q .non H', rt := Q }) := by
  cases r with
  | no => exact p
  | ex e1 M1 => exact p
  | ok fl M1 =>
    intro am1 H1 rm1 f1
    have out : ∀ (v : Val) (x : V), Po k ex am M H E (outV M.length tr v M1) (okV k ex Q) → RV k.K H1 (avS ex am1 M1) am1 v x → Q x H1 := by
      intro v x po rx
      unfold outV at po
      cases tr with
      | false => exact po am1 H1 rm1 f1 x rx
      | true =>
        obtain ⟨more, rfl⟩ := f1.ext
        have hn : am.length = M.length := rm.len
        obtain ⟨rm2, g⟩ := rm1.take hn
        have f2 := f1.take hn
        rw [if_pos rfl] at po
        cases v with
        | d d => exact po am H1 rm2 f2 x (g.r d x rx)
        | ref i =>
          dsimp only at po
          split at po
          · rename_i hi
            exact po am H1 rm2 f2 x (RV.take (v := .ref i) hn g (decide_eq_true hi) rx)
          · exact po.elim
    cases fl with
    | nx env => exact fun σ _ => out (.d .none) .non p rfl
    | rt v => exact fun x rx => out v x p rx
    | bk env => exact p.elim
    | ct env => exact p.elim
end Mp
end
section
set_option maxHeartbeats 4000000
/-! What must be seen of the text, by cases on its expressions. -/
namespace Mp
open PySem PySem.Spec PyProof.Rows L2

def nst : Expr → Bool
  | .Starred .. => false
  | _ => true
theorem star_of {e : Expr} {es : List Expr} {env : PySem.Env} (h : nst e = true) : starEach (e :: es) env = (false, eval e env) :: starEach es env := by
  cases e <;> first | rfl | cases h
theorem star_any {env : PySem.Env} : ∀ {es : List Expr}, es.all nst = true → (starEach es env).any (·.1) = false
  | [], _ => rfl
  | e :: es, h => by
    rw [List.all_cons, Bool.and_eq_true] at h
    rw [star_of h.1, List.any_cons, star_any h.2]
    rfl
theorem back_any {pos : Pos} {l : List (Bool × Sem Value)} : (backTo pos l).any (·.1) = l.any (·.1) := by
  unfold backTo
  rw [List.any_map]
  rfl
theorem back_all {pos : Pos} {l : List (Bool × Sem Value)} : (backTo pos l).all (fun x => !x.1) = l.all (fun x => !x.1) := by
  unfold backTo
  rw [List.all_map]
  rfl
theorem star_all {env : PySem.Env} : ∀ {es : List Expr}, es.all nst = true → (starEach es env).all (fun x => !x.1) = true
  | [], _ => rfl
  | e :: es, h => by
    rw [List.all_cons, Bool.and_eq_true] at h
    rw [star_of h.1, List.all_cons, star_all h.2]
    rfl
theorem backKw_all {pos : Pos} {env : PySem.Env} : ∀ {kws : List Keyword}, kws.all (fun q => q.arg.isSome) = true → (backToKw pos (keywordEach kws env)).all (·.1.isSome) = true
  | [], _ => rfl
  | ⟨n, e, p⟩ :: kws, h => by
    rw [List.all_cons, Bool.and_eq_true] at h
    show (n.isSome && (backToKw pos (keywordEach kws env)).all (·.1.isSome)) = true
    rw [backKw_all h.2]
    simpa using h.1
theorem backKw_any {pos : Pos} {env : PySem.Env} : ∀ {kws : List Keyword}, kws.all (fun q => q.arg.isSome) = true → (backToKw pos (keywordEach kws env)).any (·.1.isNone) = false
  | [], _ => rfl
  | ⟨n, e, p⟩ :: kws, h => by
    rw [List.all_cons, Bool.and_eq_true] at h
    show (n.isNone || (backToKw pos (keywordEach kws env)).any (·.1.isNone)) = false
    rw [backKw_any h.2]
    have h1 : n.isSome = true := h.1
    cases n with
    | none => cases h1
    | some _ => rfl
theorem backKw_names {pos : Pos} {env : PySem.Env} : ∀ {kws : List Keyword}, (backToKw pos (keywordEach kws env)).filterMap (·.1) = kws.filterMap (·.arg)
  | [] => rfl
  | ⟨n, e, p⟩ :: kws => by
    have ih := backKw_names (pos := pos) (env := env) (kws := kws)
    cases n with
    | none => exact ih
    | some x =>
      show x :: (backToKw pos (keywordEach kws env)).filterMap (·.1) = x :: kws.filterMap (·.arg)
      rw [ih]
def nSuper : Expr → Bool
  | .Call .. => false
  | _ => true
theorem base_of {o : Expr} {x : Str} {env : PySem.Env} {w : Sem Value} (h : nSuper o = true) : attributeBase o x env w = w := by
  cases o <;> first | rfl | cases h
def nSet : Expr → Bool
  | .Set .. => false
  | _ => true
theorem fold_of {e : Expr} {env : PySem.Env} (h : nSet e = true) : ∀ x, foldedSetIterable e env x = pure x := by
  intro x
  cases e <;> first | rfl | cases h
theorem marks_of {op : CmpOp} {e : Expr} (h : nSet e = true) : behindInMarks op e = false := by
  cases e <;> first | rfl | cases h
theorem asgEach_of {e : Expr} {es : List Expr} {env : PySem.Env} (h : nst e = true) : assignEach (e :: es) env = (false, assign e env) :: assignEach es env := by
  cases e <;> first | rfl | cases h
/-- a test by its value -/
def plT : Expr → Bool
  | .UnaryOp .Not _ _ => false
  | .BoolOp .. => false
  | .IfExp .. => false
  | .Compare .. => false
  | _ => true
theorem test_of {e : Expr} {env : PySem.Env} (h : plT e = true) : ∀ whole, isTrue e env whole = (do let v ← whole; standAt e.pos; holding [v] (truthy v)) := by
  intro whole
  cases e with
  | UnaryOp op a p => cases op <;> first | rfl | cases h
  | _ => first | rfl | cases h
/-- a, b = x, y: stored from the right -/
def swp (sc : Scope) (x y : Str) (px py : Pos) (a b : Expr) : Bool :=
  sc.kind == .function && sc.names.lookup x == some .local && sc.names.lookup y == some .local && py.line == px.line && !(x == y) && nst a && nst b && !(foldedForSure 8 a && foldedForSure 8 b) && !(constantsAlone 8 a && constantsAlone 8 b)

theorem swp_some {sc : Scope} {x y : Str} {px py : Pos} {a b : Expr} {env : PySem.Env} {kt k2 : Nat} {pt pt2 : Pos} (hs : env.scope = sc) (h : swp sc x y px py a b = true) :
    swappedStores [.Tuple [.Name x px, .Name y py] kt pt] (.Tuple [a, b] k2 pt2) env = pure (some [x, y]) := by
  subst hs
  unfold swp at h
  simp only [Bool.and_eq_true, beq_iff_eq, Bool.not_eq_true', Bool.and_eq_false_iff] at h
  obtain ⟨⟨⟨⟨⟨⟨⟨⟨h1, h2⟩, h3⟩, h4⟩, h5⟩, h6⟩, h7⟩, h8⟩, h9⟩ := h
  have hk : env.blockKind = .function := by unfold Env.blockKind; rw [h1]; rfl
  have sa : ∀ {e : Expr}, nst e = true → (match e with | .Starred .. => true | _ => false) = false := by
    intro e he
    cases e <;> first | rfl | cases he
  have s1 : ([a, b].any fun | .Starred .. => true | _ => false) = false := by
    rw [List.any_cons, List.any_cons, List.any_nil, sa h6, sa h7]; rfl
  have n1 : ([Expr.Name x px, .Name y py].filterMap fun
      | .Name id pos => if env.kindOf id == some .local && pos.line == px.line then some id else none
      | _ => none) = [x, y] := by
    have k1 : env.kindOf x = some .local := h2
    have k2 : env.kindOf y = some .local := h3
    simp [k1, k2, h4]
  have d1 : ([x, y] : List Str).eraseDups.length = 2 := by
    have h5' : ¬ y = x := fun e => by rw [e] at h5; simp at h5
    simp [List.eraseDups_cons, h5']
  have f1 : ([a, b].all (foldedForSure 8)) = false := by
    rw [List.all_cons, List.all_cons, List.all_nil]
    rcases h8 with h | h <;> rw [h] <;> simp
  have f2 : ([a, b].all (constantsAlone 8)) = false := by
    rw [List.all_cons, List.all_cons, List.all_nil]
    rcases h9 with h | h <;> rw [h] <;> simp
  have c3 : ∀ l : List Str, l = [x, y] → ¬ ((l.length != 2 || l.eraseDups.length != l.length) = true) := by
    intro l hl
    subst hl
    rw [d1]
    show ¬ (((2 : Nat) != 2 || (2 : Nat) != 2) = true)
    decide
  have c1 : ¬ ((!((2 : Nat) == 2 || (2 : Nat) == 3) || (2 : Nat) != 2 || env.blockKind != .function) = true) := by
    rw [hk]
    decide
  unfold swappedStores
  dsimp only
  refine (if_neg ?_).trans ((if_neg ?_).trans ((if_neg ?_).trans ((if_neg ?_).trans ((if_neg ?_).trans ?_))))
  · exact c1
  · exact fun h => Bool.false_ne_true (s1.symm.trans h)
  · exact c3 _ n1
  · exact fun h => Bool.false_ne_true (f1.symm.trans h)
  · exact fun h => Bool.false_ne_true (f2.symm.trans h)
  · exact congrArg (fun l => (pure (some l) : Sem (Option (List Str)))) n1
/-- a, b = x, y where a name is a cell: a pair is made and taken apart -/
def swpN (sc : Scope) (x y : Str) (a b : Expr) : Bool := sc.kind == .function && nst a && nst b && !(sc.names.lookup x == some .local && sc.names.lookup y == some .local)
theorem swp_none {sc : Scope} {x y : Str} {px py : Pos} {a b : Expr} {env : PySem.Env} {kt k2 : Nat} {pt pt2 : Pos} (hs : env.scope = sc) (h : swpN sc x y a b = true) :
    swappedStores [.Tuple [.Name x px, .Name y py] kt pt] (.Tuple [a, b] k2 pt2) env = pure none := by
  subst hs
  unfold swpN at h
  simp only [Bool.and_eq_true, beq_iff_eq, Bool.not_eq_true'] at h
  obtain ⟨⟨⟨h1, h6⟩, h7⟩, h8⟩ := h
  have hk : env.blockKind = .function := by unfold Env.blockKind; rw [h1]; rfl
  have sa : ∀ {e : Expr}, nst e = true → (match e with | .Starred .. => true | _ => false) = false := by
    intro e he
    cases e <;> first | rfl | cases he
  have s1 : ([a, b].any fun | .Starred .. => true | _ => false) = false := by
    rw [List.any_cons, List.any_cons, List.any_nil, sa h6, sa h7]; rfl
  have n1 : ([Expr.Name x px, .Name y py].filterMap fun
      | .Name id pos => if env.kindOf id == some .local && pos.line == px.line then some id else none
      | _ => none).length ≠ 2 := by
    have h8' : (env.kindOf x == some .local && env.kindOf y == some .local) = false := h8
    cases hx : (env.kindOf x == some NameKind.local) with
    | false =>
      simp only [List.filterMap_cons, List.filterMap_nil, hx, Bool.false_and, Bool.false_eq_true, if_false]
      split <;> simp
    | true =>
      rw [hx] at h8'
      have hy : (env.kindOf y == some NameKind.local) = false := by simpa using h8'
      simp only [List.filterMap_cons, List.filterMap_nil, hx, hy, Bool.false_and, Bool.false_eq_true, if_false]
      split <;> simp
  have c3 : ∀ l : List Str, l.length ≠ 2 → ((l.length != 2 || l.eraseDups.length != l.length) = true) := by
    intro l hl
    rw [Bool.or_eq_true]
    exact .inl (by simpa using hl)
  have c1 : ¬ ((!((2 : Nat) == 2 || (2 : Nat) == 3) || (2 : Nat) != 2 || env.blockKind != .function) = true) := by
    rw [hk]
    decide
  unfold swappedStores
  dsimp only
  refine (if_neg ?_).trans ((if_neg ?_).trans (if_pos ?_))
  · exact c1
  · exact fun h => Bool.false_ne_true (s1.symm.trans h)
  · exact c3 _ n1
theorem stores_none {e tg : Expr} {env : PySem.Env} (h : (match tg, e with | .Tuple .., .Tuple .. => false | .List .., .Tuple .. => false | _, _ => true) = true) : swappedStores [tg] e env = pure none := by
  cases tg <;> cases e <;> first | rfl | cases h
theorem swaps_lc {elt : Expr} {gs : List Comprehension} {scope : Scope} {pos p1 : Pos} {l : Nat} {y : Str} {env : PySem.Env} {sc : Scope} (hs : env.scope = sc) (hk : sc.kind = .function) (hy : sc.names.lookup y = some .local) (hl : (p1.line == pos.line) = true)
    (hn : (!(scope.names.any fun q => q.1 == y && (q.2 == .local || q.2 == .cell))) = true) : swapsWith (.ListComp elt gs scope pos) (some (.Name y p1)) l env = pure true := by
  subst hs
  have hb : env.blockKind = .function := by unfold Env.blockKind; rw [hk]; rfl
  have hy' : env.kindOf y = some .local := hy
  show (pure (env.blockKind == .function && env.kindOf y == some .local && p1.line == pos.line && !(scope.names.any fun (n, k) => n == y && (k == .local || k == .cell))) : Sem Bool) = pure true
  rw [hb, hy', hl]
  congr 1
end Mp
end
section
set_option maxHeartbeats 4000000
/-! The check: a small Python's def is a def of the text. -/
namespace Mp
open PySem PySem.Spec PyProof.Rows L2

structure CC where
  N : List Str
  sc : Scope
  all : Bool
  tb : List (Str × List Str)
  gl : List Str
  bl : List Str
  kb : List KShape

def CC.vis (c : CC) (i : Nat) (x : Str) : Bool := c.N[i]? == some x && (c.sc.names.lookup x == some .local || c.sc.names.lookup x == some .cell || c.sc.names.lookup x == some .free) && !(x == ("__debug__" : Str)) && !(x == ("__classdict__" : Str))
def CC.loc (c : CC) (i : Nat) (x : Str) : Bool := c.N[i]? == some x && (c.sc.names.lookup x == some .local || (c.sc.names.lookup x == some .cell && c.all))
def CC.glob (c : CC) (x : Str) : Bool := c.sc.names.lookup x == some .globalImplicit && !(x == ("__debug__" : Str))
def CC.bn (c : CC) (x : Str) : Bool := c.glob x && c.bl.contains x
def conB : Const → D → Bool
  | .none, .none => true
  | .bool a, .bool b => a == b
  | .int a, .int b => a == b
  | .str a, .str b => a == b
  | _, _ => false
def opB : BOp → Operator → Bool
  | .add, .Add => true | .sub, .Sub => true | .mul, .Mult => true | .fdiv, .FloorDiv => true | .mod, .Mod => true | .pow, .Pow => true | .shl, .LShift => true
  | _, _ => false
def cmpB : COp → CmpOp → Bool
  | .eq, .Eq => true | .ne, .NotEq => true | .lt, .Lt => true | .le, .LtE => true | .gt, .Gt => true | .ge, .GtE => true | .isin, .In => true | .notin, .NotIn => true | .isN, .Is => true | .notN, .IsNot => true
  | _, _ => false
def mtN : MT → String
  | .append => "append" | .pop0 => "pop" | .popAt => "pop" | .insert => "insert" | .extend => "extend" | .index => "index" | .indexT => "index"
def MEs.len : MEs → Nat
  | .nil => 0
  | .cons _ es => es.len + 1

/-! ### shapes -/
def xName (f : Str → Bool) : Expr → Bool | .Name x _ => f x | _ => false
def xConst (f : Const → Bool) : Expr → Bool | .Constant k _ _ => f k | _ => false
def xTuple (f : List Expr → Bool) : Expr → Bool | .Tuple xs _ _ => f xs | _ => false
def xList (f : List Expr → Bool) : Expr → Bool | .List xs _ => f xs | _ => false
def xBin (f : Expr → Operator → Expr → Bool) : Expr → Bool | .BinOp x op y _ => f x op y | _ => false
def xUn (f : UnaryOp → Expr → Bool) : Expr → Bool | .UnaryOp op x _ => f op x | _ => false
def xCmp (f : Expr → List CmpOp → List Expr → Bool) : Expr → Bool | .Compare x ops ys _ => f x ops ys | _ => false
def xBool (f : BoolOp → List Expr → Pos → Bool) : Expr → Bool | .BoolOp op xs p => f op xs p | _ => false
def xIf (f : Expr → Expr → Expr → Bool) : Expr → Bool | .IfExp x y z _ => f x y z | _ => false
def xSub (f : Expr → Expr → Bool) : Expr → Bool | .Subscript x y _ => f x y | _ => false
def xSlice (f : Option Expr → Option Expr → Option Expr → Bool) : Expr → Bool | .Slice l h s _ => f l h s | _ => false
def xCall (f : Expr → List Expr → List Keyword → Pos → Bool) : Expr → Bool | .Call g xs ks p => f g xs ks p | _ => false
def xAttr (f : Expr → Str → Pos → Bool) : Expr → Bool | .Attribute x n p => f x n p | _ => false
def xComp (f : Expr → List Comprehension → Scope → Bool) : Expr → Bool | .ListComp e gs sc _ => f e gs sc | _ => false
def xDict (f : List (Option Expr) → List Expr → Bool) : Expr → Bool | .Dict ks vs _ => f ks vs | _ => false
section
variable {e : Expr}
theorem xName_s {f : Str → Bool} (h : xName f e = true) : ∃ x p, e = .Name x p ∧ f x = true := by cases e <;> first | exact ⟨_, _, rfl, h⟩ | cases h
theorem xConst_s {f : Const → Bool} (h : xConst f e = true) : ∃ x j p, e = .Constant x j p ∧ f x = true := by cases e <;> first | exact ⟨_, _, _, rfl, h⟩ | cases h
theorem xTuple_s {f : List Expr → Bool} (h : xTuple f e = true) : ∃ x j p, e = .Tuple x j p ∧ f x = true := by cases e <;> first | exact ⟨_, _, _, rfl, h⟩ | cases h
theorem xList_s {f : List Expr → Bool} (h : xList f e = true) : ∃ x p, e = .List x p ∧ f x = true := by cases e <;> first | exact ⟨_, _, rfl, h⟩ | cases h
theorem xBin_s {f : Expr → Operator → Expr → Bool} (h : xBin f e = true) : ∃ x o y p, e = .BinOp x o y p ∧ f x o y = true := by cases e <;> first | exact ⟨_, _, _, _, rfl, h⟩ | cases h
theorem xUn_s {f : UnaryOp → Expr → Bool} (h : xUn f e = true) : ∃ o x p, e = .UnaryOp o x p ∧ f o x = true := by cases e <;> first | exact ⟨_, _, _, rfl, h⟩ | cases h
theorem xCmp_s {f : Expr → List CmpOp → List Expr → Bool} (h : xCmp f e = true) : ∃ x o y p, e = .Compare x o y p ∧ f x o y = true := by cases e <;> first | exact ⟨_, _, _, _, rfl, h⟩ | cases h
theorem xBool_s {f : BoolOp → List Expr → Pos → Bool} (h : xBool f e = true) : ∃ o x p, e = .BoolOp o x p ∧ f o x p = true := by cases e <;> first | exact ⟨_, _, _, rfl, h⟩ | cases h
theorem xIf_s {f : Expr → Expr → Expr → Bool} (h : xIf f e = true) : ∃ x y z p, e = .IfExp x y z p ∧ f x y z = true := by cases e <;> first | exact ⟨_, _, _, _, rfl, h⟩ | cases h
theorem xSub_s {f : Expr → Expr → Bool} (h : xSub f e = true) : ∃ x y p, e = .Subscript x y p ∧ f x y = true := by cases e <;> first | exact ⟨_, _, _, rfl, h⟩ | cases h
theorem xSlice_s {f : Option Expr → Option Expr → Option Expr → Bool} (h : xSlice f e = true) : ∃ x y z p, e = .Slice x y z p ∧ f x y z = true := by cases e <;> first | exact ⟨_, _, _, _, rfl, h⟩ | cases h
theorem xCall_s {f : Expr → List Expr → List Keyword → Pos → Bool} (h : xCall f e = true) : ∃ x y z p, e = .Call x y z p ∧ f x y z p = true := by cases e <;> first | exact ⟨_, _, _, _, rfl, h⟩ | cases h
theorem xAttr_s {f : Expr → Str → Pos → Bool} (h : xAttr f e = true) : ∃ x y p, e = .Attribute x y p ∧ f x y p = true := by cases e <;> first | exact ⟨_, _, _, rfl, h⟩ | cases h
theorem xComp_s {f : Expr → List Comprehension → Scope → Bool} (h : xComp f e = true) : ∃ x y z p, e = .ListComp x y z p ∧ f x y z = true := by cases e <;> first | exact ⟨_, _, _, _, rfl, h⟩ | cases h
theorem xDict_s {f : List (Option Expr) → List Expr → Bool} (h : xDict f e = true) : ∃ x y p, e = .Dict x y p ∧ f x y = true := by cases e <;> first | exact ⟨_, _, _, rfl, h⟩ | cases h
end
def l0 {α : Type} (b : Bool) : List α → Bool | [] => b | _ :: _ => false
def l1 {α : Type} (f : α → Bool) : List α → Bool | [] => false | x :: r => l0 (f x) r
def l2 {α : Type} (f : α → α → Bool) : List α → Bool | [] => false | x :: r => l1 (f x) r
def l3 {α : Type} (f : α → α → α → Bool) : List α → Bool | [] => false | x :: r => l2 (f x) r
def lc {α : Type} (f : α → List α → Bool) : List α → Bool | [] => false | x :: r => f x r
theorem l0_s {α : Type} {b : Bool} {l : List α} (h : l0 b l = true) : l = [] ∧ b = true := by cases l with | nil => exact ⟨rfl, h⟩ | cons _ _ => cases h
theorem l1_s {α : Type} {f : α → Bool} {l : List α} (h : l1 f l = true) : ∃ x, l = [x] ∧ f x = true := by
  cases l with
  | nil => cases h
  | cons x r => obtain ⟨rfl, h⟩ := l0_s (show l0 (f x) r = true from h); exact ⟨x, rfl, h⟩
theorem l2_s {α : Type} {f : α → α → Bool} {l : List α} (h : l2 f l = true) : ∃ x y, l = [x, y] ∧ f x y = true := by
  cases l with
  | nil => cases h
  | cons x r => obtain ⟨y, rfl, h⟩ := l1_s (show l1 (f x) r = true from h); exact ⟨x, y, rfl, h⟩
theorem l3_s {α : Type} {f : α → α → α → Bool} {l : List α} (h : l3 f l = true) : ∃ x y z, l = [x, y, z] ∧ f x y z = true := by
  cases l with
  | nil => cases h
  | cons x r => obtain ⟨y, z, rfl, h⟩ := l2_s (show l2 (f x) r = true from h); exact ⟨x, y, z, rfl, h⟩
theorem lc_s {α : Type} {f : α → List α → Bool} {l : List α} (h : lc f l = true) : ∃ x r, l = x :: r ∧ f x r = true := by
  cases l with
  | nil => cases h
  | cons x r => exact ⟨x, r, rfl, h⟩
def sm {α : Type} (f : α → Bool) : Option α → Bool | none => false | some x => f x
theorem sm_s {α : Type} {f : α → Bool} {o : Option α} (h : sm f o = true) : ∃ x, o = some x ∧ f x = true := by cases o with | none => cases h | some x => exact ⟨x, rfl, h⟩

/-- a target -/
def chkG (c : CC) : Tg → Expr → Bool
  | .nm i => xName fun x => c.loc i x
  | .tup2 a b => xTuple (l2 fun x y => nst x && nst y && chkG c a x && chkG c b y)
  | .tup3 a b d => xTuple (l3 fun x y z => nst x && nst y && nst z && chkG c a x && chkG c b y && chkG c d z)
def isTupE : Expr → Bool
  | .Tuple .. => true
  | _ => false
theorem isTupE_s {e : Expr} (h : isTupE e = true) : ∃ x j p, e = .Tuple x j p := by cases e <;> first | exact ⟨_, _, _, rfl⟩ | cases h
def MEs.one (f : ME → Bool) : MEs → Bool
  | .nil => false
  | .cons a r => match r with | .nil => f a | .cons _ _ => false
def MEs.two (f : ME → ME → Bool) : MEs → Bool
  | .nil => false
  | .cons a r => MEs.one (f a) r
theorem MEs.one_s {f : ME → Bool} {es : MEs} (h : MEs.one f es = true) : ∃ a, es = .cons a .nil ∧ f a = true := by
  cases es with
  | nil => cases h
  | cons a r => cases r with | nil => exact ⟨a, rfl, h⟩ | cons _ _ => cases h
theorem MEs.two_s {f : ME → ME → Bool} {es : MEs} (h : MEs.two f es = true) : ∃ a b, es = .cons a (.cons b .nil) ∧ f a b = true := by
  cases es with
  | nil => cases h
  | cons a r => obtain ⟨b, rfl, h⟩ := MEs.one_s (show MEs.one (f a) r = true from h); exact ⟨a, b, rfl, h⟩
/-- name(range(..)) -/
def xRng (c : CC) (nm : Str) (f : List Expr → Bool) : Expr → Bool := xCall fun g xs ks _ => xName (fun x => x == nm && c.bn x) g && ks.isEmpty && l1 (xCall fun g2 ys ks2 _ => xName (fun y => y == ("range" : Str) && c.bn y) g2 && ks2.isEmpty && ys.all nst && f ys) xs
mutual
/-- an expression -/
def chkE : Nat → CC → ME → Expr → Bool
  | 0, _, _, _ => false
  | n + 1, c, e, x => match e with
    | .var i => xName (fun y => c.vis i y) x
    | .con d => xConst (fun k => conB k d) x
    | .glb g => xName (fun y => c.gl[g]? == some y && c.glob y) x
    | .tup es => xTuple (fun xs => chkEs n c es xs) x
    | .lst es => xList (fun xs => chkEs n c es xs) x
    | .box es => xList (fun xs => chkEs n c es xs) x
    | .new e => chkF n c e x || (match e with
      | .bin o a b => (match o with
        | .add => xBin (fun y op z => op == .Add && chkE n c a y && chkE n c b z) x
        | _ => false)
      | .rev a => xSub (fun y z => chkE n c a y && xSlice (fun l h s => l.isNone && h.isNone && sm (xUn fun op w => op == .USub && xConst (fun k => conB k (.int 1)) w) s) z) x
      | _ => false)
    | .bin o a b => xBin (fun y op z => opB o op && chkE n c a y && chkE n c b z) x
    | .neg a => xUn (fun op y => op == .USub && chkE n c a y) x
    | .cmp o a b => xCmp (fun y ops zs => l1 (fun op => cmpB o op) ops && l1 (fun z => nSet z && chkE n c b z) zs && chkE n c a y) x
    | .chn o p a b d => xCmp (fun y ops zs => l2 (fun o1 o2 => cmpB o o1 && cmpB p o2) ops && l2 (fun z w => nSet w && chkE n c b z && chkE n c d w) zs && chkE n c a y) x
    | .and a b => xBool (fun op xs p => op == .And && lc (fun y r => chkE n c a y && lc (fun z r2 => if r2.isEmpty then chkE n c b z else chkE n c b (.BoolOp .And (z :: r2) p)) r) xs) x
    | .or a b => xBool (fun op xs p => op == .Or && lc (fun y r => chkE n c a y && lc (fun z r2 => if r2.isEmpty then chkE n c b z else chkE n c b (.BoolOp .Or (z :: r2) p)) r) xs) x
    | .not a => xUn (fun op y => op == .Not && chkE n c a y) x
    | .ife t a b => xIf (fun y z w => chkT n c t y && chkE n c a z && chkE n c b w) x
    | .idx a i => xSub (fun y z => notSl z && chkE n c a y && chkE n c i z) x
    | .slc a lo hi => xSub (fun y z => chkE n c a y && xSlice (fun l h s => s.isNone && chkO n c lo l && chkO n c hi h) z) x
    | .rev a => xSub (fun y z => chkE n c a y && xSlice (fun l h s => l.isNone && h.isNone && sm (xUn fun op w => op == .USub && xConst (fun k => conB k (.int 1)) w) s) z) x
    | .call k es => xCall (fun g xs ks _ => xName (fun y => (c.tb[k]?.map (·.1)) == some y && c.glob y) g && ks.isEmpty && xs.all nst && chkEs n c es xs) x
    | .callk k es ks perm => xCall (fun g xs kws _ => xName (fun y => (c.tb[k]?.map (·.1)) == some y && c.glob y) g && xs.all nst && kws.all (fun q => q.arg.isSome) && chkEs n c es xs && chkK n c ks kws &&
        c.kb.any fun sh => sh.j == k && sh.np == es.len && sh.ks == kws.filterMap (·.arg) && sh.perm == perm && ks.len == sh.ks.length) x
    | .bi b es => match b with
      | .rngL => MEs.one (fun a => xRng c ("list" : Str) (l1 fun z => chkE n c a z) x) es
      | .rngT => MEs.one (fun a => xRng c ("tuple" : Str) (l1 fun z => chkE n c a z) x) es
      | .rngL2 => MEs.two (fun a b => xRng c ("list" : Str) (l2 fun z w => chkE n c a z && chkE n c b w) x) es
      | .rngT2 => MEs.two (fun a b => xRng c ("tuple" : Str) (l2 fun z w => chkE n c a z && chkE n c b w) x) es
      | b => xCall (fun g xs ks _ => xName (fun y => y == Str.ofString (biN b) && c.bn y) g && ks.isEmpty && !xs.isEmpty && xs.all nst && chkEs n c es xs) x
    | .isi a t => xCall (fun g xs ks _ => xName (fun y => y == ("isinstance" : Str) && c.bn y) g && ks.isEmpty && l2 (fun y z => nst y && chkE n c a y && xName (fun w => w == Str.ofString (tkN t) && c.bn w) z) xs) x
    | .mt m o es => xCall (fun g xs ks cp => xAttr (fun y nm ap => nm == Str.ofString (mtN m) && nSuper y && (ap.endLine == cp.line) && chkE n c o y) g && ks.isEmpty && xs.all nst && decide (xs.length < 20) && (match m with | .pop0 => xs.isEmpty | _ => !xs.isEmpty) && chkEs n c es xs) x
    | .lc own tg it ifs e => xComp (fun elt gs sc => l1 (fun q => q.is_async == 0 && (own.all fun i => decide (i < c.N.length)) && blkC c.N c.sc sc (own.map fun i => (c.N.getD i "", i)) && tgIn own tg && nSet q.iter && chkI n c q.target it q.iter &&
        chkG { c with sc := relS sc c.sc, all := false } tg q.target && chkTs n { c with sc := relS sc c.sc, all := false } ifs q.ifs && chkE n { c with sc := relS sc c.sc, all := false } e elt) gs) x
    | .dcp es => xCall (fun g xs ks _ => xName (fun y => y == ("dict" : Str) && c.bn y) g && ks.isEmpty && !xs.isEmpty && xs.all nst && chkEs n c es xs) x
    | .dnw _ => xDict (fun ks vs => ks.isEmpty && vs.isEmpty) x
    | .ddsp a b => match a, b with
      | .var i, .con (.bool t) => xDict (fun ks vs => l1 (sm (xName fun y => c.vis i y)) ks && l1 (xConst fun k => conB k (.bool t)) vs) x
      | _, _ => false
/-- a piece that makes a new list -/
def chkF : Nat → CC → ME → Expr → Bool
  | 0, _, _, _ => false
  | n + 1, c, e, x => match e with
    | .lst es => xList (fun xs => chkEs n c es xs) x
    | .bi b es => match b with
      | .rngL => MEs.one (fun a => xRng c ("list" : Str) (l1 fun z => chkE n c a z) x) es
      | _ => false
    | .lc own tg it ifs e => xComp (fun elt gs sc => l1 (fun q => q.is_async == 0 && (own.all fun i => decide (i < c.N.length)) && blkC c.N c.sc sc (own.map fun i => (c.N.getD i "", i)) && tgIn own tg && nSet q.iter && chkI n c q.target it q.iter &&
        chkG { c with sc := relS sc c.sc, all := false } tg q.target && chkTs n { c with sc := relS sc c.sc, all := false } ifs q.ifs && chkE n { c with sc := relS sc c.sc, all := false } e elt) gs) x
    | _ => false
def chkEs : Nat → CC → MEs → List Expr → Bool
  | 0, _, _, _ => false
  | n + 1, c, es, xs => match es with
    | .nil => xs.isEmpty
    | .cons e es => lc (fun x r => nst x && chkE n c e x && chkEs n c es r) xs
def chkK : Nat → CC → MEs → List Keyword → Bool
  | 0, _, _, _ => false
  | n + 1, c, es, xs => match es with
    | .nil => xs.isEmpty
    | .cons e es => lc (fun q r => chkE n c e q.value && chkK n c es r) xs
def chkO : Nat → CC → MO → Option Expr → Bool
  | 0, _, _, _ => false
  | n + 1, c, o, x => match o with
    | .non => x.isNone
    | .som e => sm (fun y => chkE n c e y) x
/-- what is walked -/
def chkI : Nat → CC → Expr → MI → Expr → Bool
  | 0, _, _, _, _ => false
  | n + 1, c, tx, it, x => match it with
    | .ov e => chkE n c e x
    | .rg1 a => xCall (fun g xs ks _ => xName (fun y => y == ("range" : Str) && c.bn y) g && ks.isEmpty && l1 (fun y => nst y && chkE n c a y) xs) x
    | .rg2 a b => xCall (fun g xs ks _ => xName (fun y => y == ("range" : Str) && c.bn y) g && ks.isEmpty && l2 (fun y z => nst y && nst z && chkE n c a y && chkE n c b z) xs) x
    | .enm a => isTupE tx && xCall (fun g xs ks _ => xName (fun y => y == ("enumerate" : Str) && c.bn y) g && ks.isEmpty && l1 (fun y => nst y && chkE n c a y) xs) x
/-- a comprehension's test -/
def chkTs : Nat → CC → MEs → List Expr → Bool
  | 0, _, _, _ => false
  | n + 1, c, es, xs => match es with
    | .nil => xs.isEmpty
    | .cons e r => match r with
      | .nil => l1 (fun x => chkT n c e x) xs
      | .cons _ _ => false
/-- a test -/
def chkT : Nat → CC → ME → Expr → Bool
  | 0, _, _, _ => false
  | n + 1, c, e, x => (plT x && chkE n c e x) || (match e with
    | .cmp o a b => xCmp (fun y ops zs => l1 (fun op => cmpB o op) ops && l1 (fun z => nSet z && chkE n c b z) zs && chkE n c a y) x
    | .chn o p a b d => xCmp (fun y ops zs => l2 (fun o1 o2 => cmpB o o1 && cmpB p o2) ops && l2 (fun z w => nSet w && chkE n c b z && chkE n c d w) zs && chkE n c a y) x
    | .not a => xUn (fun op y => op == .Not && chkT n c a y) x
    | .and _ _ => chkW n c .And e x
    | .or _ _ => chkW n c .Or e x
    | _ => false)
/-- a chain of tests -/
def chkW : Nat → CC → BoolOp → ME → Expr → Bool
  | 0, _, _, _, _ => false
  | n + 1, c, w, e, x => xBool (fun op xs p => op == w && lc (fun y r => if r.isEmpty then chkT n c e y else match w, e with
    | .And, .and a b => chkT n c a y && chkW n c w b (.BoolOp op r p)
    | .Or, .or a b => chkT n c a y && chkW n c w b (.BoolOp op r p)
    | _, _ => false) xs) x
end
end Mp
end
section
set_option maxHeartbeats 4000000
/-! The check is sound: expressions. -/
namespace Mp
open PySem PySem.Spec PyProof.Rows L2

structure Cc (c : CC) (k : Kx) (X : Cx) (G : Nat → Option D) : Prop where
  ck : Ck k X
  N : X.N = c.N
  sc : X.env.scope = c.sc
  al : c.all = true → ∀ x, X.fn x = true
  bl : ∀ x ∈ c.bl, X.mg x = none
  gv : ∀ (g : Nat) (x : Str), c.gl[g]? = some x → ∃ v u d, X.mg x = some u ∧ RelV v u ∧ G g = some d ∧ ∀ H av, R k.K H av d v

section
variable {c : CC} {k : Kx} {X : Cx} {G : Nat → Option D} {E : XK} {C : CT} {m : Nat}
theorem Cc.vis (h : Cc c k X G) {i : Nat} {x : Str} (v : c.vis i x = true) : X.N[i]? = some x ∧ Vis X.env.scope x ∧ (x == ("__debug__" : Str)) = false ∧ (x == ("__classdict__" : Str)) = false := by
  unfold CC.vis at v
  simp only [Bool.and_eq_true, Bool.or_eq_true, beq_iff_eq, Bool.not_eq_true'] at v
  obtain ⟨⟨⟨h1, h2⟩, h3⟩, h4⟩ := v
  refine ⟨by rw [h.N]; exact h1, ?_, h3, h4⟩
  unfold Vis
  rw [h.sc]
  rcases h2 with (h2 | h2) | h2
  · exact .inl h2
  · exact .inr (.inl h2)
  · exact .inr (.inr h2)
theorem Cc.loc (h : Cc c k X G) {i : Nat} {x : Str} (v : c.loc i x = true) : X.N[i]? = some x ∧ L2.Loc X.env.scope x ∧ (X.fn x = true ∨ X.env.scope.names.lookup x = some .local) := by
  unfold CC.loc at v
  simp only [Bool.and_eq_true, Bool.or_eq_true, beq_iff_eq] at v
  obtain ⟨h1, h2⟩ := v
  refine ⟨by rw [h.N]; exact h1, ?_, ?_⟩
  · unfold L2.Loc
    rw [h.sc]
    rcases h2 with h2 | h2
    · exact .inl h2
    · exact .inr h2.1
  · rw [h.sc]
    rcases h2 with h2 | h2
    · exact .inr h2
    · exact .inl (h.al h2.2 x)
theorem Cc.glob (h : Cc c k X G) {x : Str} (v : c.glob x = true) : Gl X x ∧ (x == ("__debug__" : Str)) = false := by
  unfold CC.glob at v
  simp only [Bool.and_eq_true, beq_iff_eq, Bool.not_eq_true'] at v
  refine ⟨?_, v.2⟩
  show X.env.scope.names.lookup x = _
  rw [h.sc]
  exact v.1
theorem Cc.bn (h : Cc c k X G) {x : Str} (v : c.bn x = true) : Bn X x := by
  unfold CC.bn at v
  rw [Bool.and_eq_true] at v
  exact ⟨(h.glob v.1).1, h.bl x (by simpa using v.2)⟩
theorem opB_s {o : BOp} {op : Operator} (h : opB o op = true) : op = opOf o := by cases o <;> cases op <;> first | rfl | cases h
theorem cmpB_s {o : COp} {op : CmpOp} (h : cmpB o op = true) : op = cmpOf o := by cases o <;> cases op <;> first | rfl | cases h
theorem conB_s {a : Const} {d : D} (h : conB a d = true) : cD a = some d := by
  cases a <;> cases d <;> first | (cases h; done) | rfl | (simp only [conB, beq_iff_eq] at h; rw [h]; rfl)

/-! ### targets -/
theorem chkG_ok (h : Cc c k X G) : ∀ (t : Tg) (x : Expr), chkG c t x = true → SG X k x t
  | .nm i, x, v => by
    obtain ⟨y, p, rfl, v1⟩ := xName_s v
    obtain ⟨h1, h2, h3⟩ := h.loc v1
    exact sg_nm h.ck h1 h2 h3
  | .tup2 a b, x, v => by
    obtain ⟨xs, j, p, rfl, v1⟩ := xTuple_s v
    obtain ⟨y, z, rfl, v2⟩ := l2_s v1
    simp only [Bool.and_eq_true] at v2
    obtain ⟨⟨⟨n1, n2⟩, v3⟩, v4⟩ := v2
    exact sg_tup2 h.ck (chkG_ok h a y v3) (chkG_ok h b z v4) (by rw [asgEach_of n1, asgEach_of n2]; rfl) (by rw [asgEach_of n1, asgEach_of n2]; rfl) (by rw [asgEach_of n1]; rfl) (by rw [asgEach_of n2]; rfl)
  | .tup3 a b d, x, v => by
    obtain ⟨xs, j, p, rfl, v1⟩ := xTuple_s v
    obtain ⟨y, z, w, rfl, v2⟩ := l3_s v1
    simp only [Bool.and_eq_true] at v2
    obtain ⟨⟨⟨⟨⟨n1, n2⟩, n3⟩, v3⟩, v4⟩, v5⟩ := v2
    exact sg_tup3 h.ck (chkG_ok h a y v3) (chkG_ok h b z v4) (chkG_ok h d w v5) (by rw [asgEach_of n1, asgEach_of n2, asgEach_of n3]; rfl) (by rw [asgEach_of n1, asgEach_of n2, asgEach_of n3]; rfl) (by rw [asgEach_of n1]; rfl) (by rw [asgEach_of n2]; rfl) (by rw [asgEach_of n3]; rfl)

/-! ### blocks -/
theorem Cl.blk {s : Shared} {H : Hp} {scope : Scope} {cenv : PySem.Env} {fp : List Addr} (h : Cl k X E C m c.tb c.kb) : Cl k (X.blk s H scope cenv fp) E00 C m c.tb c.kb := ⟨h.fn, h.room, passL⟩
theorem Cc.blk {s : Shared} {H : Hp} {scope : Scope} {cl : List (Str × Addr)} {Ca : Addr} {fp : List Addr} (h : Cc c k X G) (hk : scope.kind = .function) : Cc { c with sc := relS scope c.sc, all := false } k (X.blk s H scope (compEnvC scope cl Ca X.env) fp) G := by
  have hs : (compEnvC scope cl Ca X.env).scope = relS scope c.sc := by rw [← h.sc]; rfl
  refine ⟨⟨h.ck.K, h.ck.hu, h.ck.calm, h.ck.nd, h.ck.P, h.ck.w, ?_, PassesOwn.never⟩, h.N, hs, fun z => Bool.noConfusion z, h.bl, h.gv⟩
  show (compEnvC scope cl Ca X.env).scope.kind = _
  rw [hs]
  exact hk

/-! ### what new lists are -/
theorem lst_val {g : SA} : ∀ env M v M', sLst g env M = .ok v M' → ∃ xs, v = .d (.list xs) := by
  intro env M v M' h
  unfold sLst at h
  cases q : g env M with
  | no => rw [q] at h; cases h
  | ex e1 M1 => rw [q] at h; cases h
  | ok vs M1 =>
    rw [q, bind_ok] at h
    cases q2 : toDs vs with
    | none => rw [q2] at h; cases h
    | some ds =>
      rw [q2] at h
      dsimp only at h
      split at h
      · cases h; exact ⟨_, rfl⟩
      · cases h
theorem sf_rngL1 {a : Expr} {f : SF} {p0 p1 p2 pos : Pos} (ck : Ck k X) (bl : Bn X "list") (bn : Bn X "range") (ha : SE X k E a f) (hs : starEach [a] X.env = (false, eval a X.env) :: starEach [] X.env) : SFr X k E (.Call (.Name "list" p2) [.Call (.Name "range" p0) [a] [] p1] [] pos) (sBi .rngL (sCons f sNil)) :=
  PE.imp (pe_listRg ck.calm bl.gl bl.mg (prg1 bn ha hs) rfl) fun σ H Q ⟨ex, am, env, M, rm, re, p⟩ => by
    have p' : Po k ex am M H E ((f env M).bind fun v M1 => (ofO (biV .rngL M1 [v]) M1).bind fun z M2 => .ok (.d z) M2) (fun (v : Val) M1 am1 H1 => ∀ xs p vs, v = .d (.list xs) → H1 p = none → Rs k.K H1 (avS ex am1 M1) xs vs → Q (.ref p) (upd H1 p (.lst vs))) := by
      unfold sBi sCons sNil at p
      rw [bind_bind] at p
      exact p
    refine ⟨ex, am, env, M, rm, re, p'.bind.mono fun v M1 am1 H1 rm1 f1 p1 x rx => ?_⟩
    obtain ⟨z, hz, p2⟩ := p1.ofO
    obtain ⟨n, h1, h2, rfl⟩ := bi_rng1 (bb := .rngL) (mk := .list) (fun _ => rfl) (fun _ _ => rfl) hz
    exact ⟨n, int_of rm1 rx h1, rngOk_ok h2, fun t ht => p2.now rm1 _ t _ rfl ht (rs_rng 0 n)⟩

theorem mes_len : ∀ (es : MEs) (env : Env) (M : Mem) (vs : List Val) (M' : Mem), evEs G C es env M = .ok vs M' → vs.length = es.len
  | .nil, env, M, vs, M', h => by cases h; rfl
  | .cons e es, env, M, vs, M', h => by
    have h' : (evE G C e env M).bind (fun v M1 => (evEs G C es env M1).bind fun vs M2 => .ok (v :: vs) M2) = .ok vs M' := h
    cases q : evE G C e env M with
    | no => rw [q] at h'; cases h'
    | ex e1 M1 => rw [q] at h'; cases h'
    | ok v M1 =>
      rw [q, bind_ok] at h'
      cases q2 : evEs G C es env M1 with
      | no => rw [q2] at h'; cases h'
      | ex e1 M3 => rw [q2] at h'; cases h'
      | ok ws M3 =>
        rw [q2, bind_ok] at h'
        cases h'
        show ws.length + 1 = es.len + 1
        rw [mes_len es env M1 ws _ q2]
end

/-- the check with fuel n is sound -/
structure Sd (n : Nat) : Prop where
  E : ∀ {c : CC} {k : Kx} {X : Cx} {G : Nat → Option D} {E : XK} {C : CT} {m : Nat}, Cc c k X G → Cl k X E C m c.tb c.kb → ∀ {e : ME} {x : Expr}, chkE n c e x = true → SE X k E x (evE G C e)
  F : ∀ {c : CC} {k : Kx} {X : Cx} {G : Nat → Option D} {E : XK} {C : CT} {m : Nat}, Cc c k X G → Cl k X E C m c.tb c.kb → ∀ {e : ME} {x : Expr}, chkF n c e x = true → SFr X k E x (evE G C e)
  Es : ∀ {c : CC} {k : Kx} {X : Cx} {G : Nat → Option D} {E : XK} {C : CT} {m : Nat}, Cc c k X G → Cl k X E C m c.tb c.kb → ∀ {e : MEs} {x : List Expr}, chkEs n c e x = true → SAs X k E x (evEs G C e)
  K : ∀ {c : CC} {k : Kx} {X : Cx} {G : Nat → Option D} {E : XK} {C : CT} {m : Nat}, Cc c k X G → Cl k X E C m c.tb c.kb → ∀ {e : MEs} {x : List Keyword}, chkK n c e x = true → SKs X k E x (evEs G C e)
  O : ∀ {c : CC} {k : Kx} {X : Cx} {G : Nat → Option D} {E : XK} {C : CT} {m : Nat}, Cc c k X G → Cl k X E C m c.tb c.kb → ∀ {e : MO} {x : Option Expr}, chkO n c e x = true → SOs X k E x (evO G C e)
  I : ∀ {c : CC} {k : Kx} {X : Cx} {G : Nat → Option D} {E : XK} {C : CT} {m : Nat}, Cc c k X G → Cl k X E C m c.tb c.kb → ∀ {tx : Expr} {e : MI} {x : Expr}, chkI n c tx e x = true → SIt X k E tx x (evI G C e)
  Ts : ∀ {c : CC} {k : Kx} {X : Cx} {G : Nat → Option D} {C : CT} {m : Nat}, Cc c k X G → Cl k X E00 C m c.tb c.kb → ∀ {e : MEs} {x : List Expr}, chkTs n c e x = true → PTs X x (tIfs k (evC G C e))
  T : ∀ {c : CC} {k : Kx} {X : Cx} {G : Nat → Option D} {E : XK} {C : CT} {m : Nat}, Cc c k X G → Cl k X E C m c.tb c.kb → ∀ {e : ME} {x : Expr}, chkT n c e x = true → ST X k E x (evE G C e)
  W : ∀ {c : CC} {k : Kx} {X : Cx} {G : Nat → Option D} {E : XK} {C : CT} {m : Nat}, Cc c k X G → Cl k X E C m c.tb c.kb → ∀ {w : BoolOp} {e : ME} {x : Expr}, chkW n c w e x = true → SW X k E x (evE G C e)

section
variable {n : Nat} {c : CC} {k : Kx} {X : Cx} {G : Nat → Option D} {E : XK} {C : CT} {m : Nat} {x : Expr}
theorem own_map {N : List Str} {own : List Nat} : (own.map fun i => (N.getD i "", i)).map (·.2) = own := by
  rw [List.map_map]
  exact List.map_id' own
theorem rng_s {nm : Str} {f : List Expr → Bool} (h : Cc c k X G) (v : xRng c nm f x = true) : ∃ p p1 p2 p3 ys, x = .Call (.Name nm p) [.Call (.Name "range" p1) ys [] p2] [] p3 ∧ Bn X nm ∧ Bn X "range" ∧ ys.all nst = true ∧ f ys = true := by
  obtain ⟨g, xs, ks, p, rfl, v0⟩ := xCall_s v
  simp only [Bool.and_eq_true, List.isEmpty_iff] at v0
  obtain ⟨⟨v1, rfl⟩, v3⟩ := v0
  obtain ⟨y, p0, rfl, v2⟩ := xName_s v1
  rw [Bool.and_eq_true, beq_iff_eq] at v2
  obtain ⟨rfl, b1⟩ := v2
  obtain ⟨z, rfl, v5⟩ := l1_s v3
  obtain ⟨g2, ys, ks2, p2, rfl, v6⟩ := xCall_s v5
  simp only [Bool.and_eq_true, List.isEmpty_iff] at v6
  obtain ⟨⟨⟨v7, rfl⟩, v8⟩, v9⟩ := v6
  obtain ⟨y2, p1, rfl, v10⟩ := xName_s v7
  rw [Bool.and_eq_true, beq_iff_eq] at v10
  obtain ⟨rfl, b2⟩ := v10
  exact ⟨_, _, _, _, ys, rfl, h.bn b1, h.bn b2, v8, v9⟩
theorem nst1 {a : Expr} {es : List Expr} (h : (a :: es).all nst = true) : nst a = true ∧ es.all nst = true := by
  rw [List.all_cons, Bool.and_eq_true] at h
  exact h
theorem lc_ok (sd : Sd n) (h : Cc c k X G) (cl : Cl k X E C m c.tb c.kb) {own : List Nat} {tg : Tg} {it : MI} {ifs : MEs} {e : ME}
    (v : xComp (fun elt gs sc => l1 (fun q => q.is_async == 0 && (own.all fun i => decide (i < c.N.length)) && blkC c.N c.sc sc (own.map fun i => (c.N.getD i "", i)) && tgIn own tg && nSet q.iter && chkI n c q.target it q.iter &&
        chkG { c with sc := relS sc c.sc, all := false } tg q.target && chkTs n { c with sc := relS sc c.sc, all := false } ifs q.ifs && chkE n { c with sc := relS sc c.sc, all := false } e elt) gs) x = true) :
    SFr X k E x (evE G C (.lc own tg it ifs e)) := by
  obtain ⟨elt, gs, sc, p, rfl, w0⟩ := xComp_s v
  obtain ⟨q, rfl, w1⟩ := l1_s w0
  obtain ⟨tx, ix, fx, as⟩ := q
  simp only [Bool.and_eq_true, beq_iff_eq] at w1
  obtain ⟨⟨⟨⟨⟨⟨⟨⟨rfl, _⟩, v1⟩, v2⟩, v3⟩, v4⟩, v5⟩, v6⟩, v7⟩ := w1
  have ok : BlkOk X.N X.env.scope sc (own.map fun i => (c.N.getD i "", i)) := by
    rw [h.N, h.sc]
    exact blkOk_by v1
  have key := se_lcf (pos := p) h.ck (sd.I h cl v4) ok (t := tg) (by rw [own_map]; exact v2) (c := evC G C ifs) (f := evE G C e) (fun s H Ca cl' fp => chkG_ok (h.blk ok.kind) tg tx v5)
    (fun s H Ca cl' fp => sd.Ts (h.blk ok.kind) cl.blk v6) (fun s H Ca cl' fp => sd.E (h.blk ok.kind) cl.blk v7) (fold_of v3)
  rw [own_map] at key
  exact key
theorem call_s {g : Expr} {xs : List Expr} {ks : List Keyword} {p : Pos} {nm : Str} (h : Cc c k X G) (v : xName (fun y => y == nm && c.bn y) g = true) : ∃ p0, g = .Name nm p0 ∧ Bn X nm := by
  obtain ⟨y, p0, rfl, v1⟩ := xName_s v
  rw [Bool.and_eq_true, beq_iff_eq] at v1
  obtain ⟨rfl, b⟩ := v1
  exact ⟨p0, rfl, h.bn b⟩
/-- a built-in by its name -/
theorem bi_ok (h : Cc c k X G) {b : BI} {A : SA} {e : Expr} {es : List Expr} {p0 p : Pos} (bn : Bn X (Str.ofString (biN b))) (hb : biN b ≠ "") (ha : SAs X k E (e :: es) A) (ns : (e :: es).all nst = true) : SE X k E (.Call (.Name (Str.ofString (biN b)) p0) (e :: es) [] p) (sBi b A) := by
  have he := star_of (env := X.env) (es := es) (nst1 ns).1
  have hp : (backTo p (starEach es X.env)).any (·.1) = false := by rw [back_any]; exact star_any (nst1 ns).2
  cases b with
  | len => exact se_biB (c_len h.ck) bn (by decide +kernel) ha (by decide +kernel) (by decide +kernel) he hp
  | abs => exact se_biB c_abs bn (by decide +kernel) ha (by decide +kernel) (by decide +kernel) he hp
  | int => exact se_biT c_int bn (by decide +kernel) ha (by decide +kernel) (by decide +kernel) he hp
  | tuple => exact se_biT (c_tuple h.ck) bn (by decide +kernel) ha (by decide +kernel) (by decide +kernel) he hp
  | list => exact se_biT (c_list h.ck) bn (by decide +kernel) ha (by decide +kernel) (by decide +kernel) he hp
  | sorted => exact se_biB (c_sorted h.ck) bn (by decide +kernel) ha (by decide +kernel) (by decide +kernel) he hp
  | sum => exact se_biB (c_sum h.ck) bn (by decide +kernel) ha (by decide +kernel) (by decide +kernel) he hp
  | min2 => exact se_biB (c_min h.ck) bn (by decide +kernel) ha (by decide +kernel) (by decide +kernel) he hp
  | max2 => exact se_biB (c_max h.ck) bn (by decide +kernel) ha (by decide +kernel) (by decide +kernel) he hp
  | _ => exact absurd rfl hb
end
end Mp
end
section
set_option maxHeartbeats 4000000
/-! The check is sound: expressions, the induction. -/
namespace Mp
open PySem PySem.Spec PyProof.Rows L2

section
variable {n : Nat} {c : CC} {k : Kx} {X : Cx} {G : Nat → Option D} {E : XK} {C : CT} {m : Nat} {x : Expr}
theorem xCmp1_s {f : Expr → Bool} {g : CmpOp → Bool} {q : Expr → Bool} (v : xCmp (fun y ops zs => l1 g ops && l1 q zs && f y) x = true) : ∃ y op z p, x = .Compare y [op] [z] p ∧ g op = true ∧ q z = true ∧ f y = true := by
  obtain ⟨y, ops, zs, p, rfl, v1⟩ := xCmp_s v
  simp only [Bool.and_eq_true] at v1
  obtain ⟨⟨v2, v3⟩, v4⟩ := v1
  obtain ⟨op, rfl, v5⟩ := l1_s v2
  obtain ⟨z, rfl, v6⟩ := l1_s v3
  exact ⟨y, op, z, p, rfl, v5, v6, v4⟩
theorem xCmp2_s {f : Expr → Bool} {g : CmpOp → CmpOp → Bool} {q : Expr → Expr → Bool} (v : xCmp (fun y ops zs => l2 g ops && l2 q zs && f y) x = true) : ∃ y o1 o2 z w p, x = .Compare y [o1, o2] [z, w] p ∧ g o1 o2 = true ∧ q z w = true ∧ f y = true := by
  obtain ⟨y, ops, zs, p, rfl, v1⟩ := xCmp_s v
  simp only [Bool.and_eq_true] at v1
  obtain ⟨⟨v2, v3⟩, v4⟩ := v1
  obtain ⟨o1, o2, rfl, v5⟩ := l2_s v2
  obtain ⟨z, w, rfl, v6⟩ := l2_s v3
  exact ⟨y, o1, o2, z, w, p, rfl, v5, v6, v4⟩
theorem isEmpty_no {α : Type} {l : List α} (h : (!l.isEmpty) = true) : ∃ a r, l = a :: r := by
  cases l with
  | nil => cases h
  | cons a r => exact ⟨a, r, rfl⟩
theorem tb_s {k : Nat} {y : Str} (h : ((c.tb[k]?.map (·.1)) == some y) = true) : ∃ ps, c.tb[k]? = some (y, ps) := by
  rw [beq_iff_eq] at h
  cases q : c.tb[k]? with
  | none => rw [q] at h; cases h
  | some z =>
    rw [q] at h
    obtain ⟨a, b⟩ := z
    cases h
    exact ⟨b, rfl⟩
theorem sd_es (sd : Sd n) (h : Cc c k X G) (cl : Cl k X E C m c.tb c.kb) {e : MEs} {x : List Expr} (v : chkEs (n + 1) c e x = true) : SAs X k E x (evEs G C e) := by
  unfold chkEs at v
  cases e with
  | nil =>
    obtain rfl := List.isEmpty_iff.mp v
    exact sa_nil
  | cons e es =>
    obtain ⟨y, r, rfl, v1⟩ := lc_s v
    simp only [Bool.and_eq_true] at v1
    obtain ⟨⟨v2, v3⟩, v4⟩ := v1
    exact sa_cons (sd.E h cl v3) (sd.Es h cl v4) (star_of v2)
theorem sd_k (sd : Sd n) (h : Cc c k X G) (cl : Cl k X E C m c.tb c.kb) {e : MEs} {x : List Keyword} (v : chkK (n + 1) c e x = true) : SKs X k E x (evEs G C e) := by
  unfold chkK at v
  cases e with
  | nil =>
    obtain rfl := List.isEmpty_iff.mp v
    exact sk_nil
  | cons e es =>
    obtain ⟨⟨nm, y, kp⟩, r, rfl, v1⟩ := lc_s v
    simp only [Bool.and_eq_true] at v1
    exact sk_cons (sd.E h cl v1.1) (sd.K h cl v1.2)
theorem sd_o (sd : Sd n) (h : Cc c k X G) (cl : Cl k X E C m c.tb c.kb) {e : MO} {x : Option Expr} (v : chkO (n + 1) c e x = true) : SOs X k E x (evO G C e) := by
  unfold chkO at v
  cases e with
  | non =>
    obtain rfl := Option.isNone_iff_eq_none.mp v
    exact so_non
  | som e =>
    obtain ⟨y, rfl, v1⟩ := sm_s v
    exact so_som (sd.E h cl v1)
theorem sd_i (sd : Sd n) (h : Cc c k X G) (cl : Cl k X E C m c.tb c.kb) {tx : Expr} {e : MI} {x : Expr} (v : chkI (n + 1) c tx e x = true) : SIt X k E tx x (evI G C e) := by
  unfold chkI at v
  cases e with
  | ov e => exact si_ov h.ck (sd.E h cl v)
  | rg1 a =>
    obtain ⟨g, xs, ks, p, rfl, v0⟩ := xCall_s v
    simp only [Bool.and_eq_true, List.isEmpty_iff] at v0
    obtain ⟨⟨v1, rfl⟩, v2⟩ := v0
    obtain ⟨p0, rfl, b⟩ := call_s (xs := xs) (ks := []) (p := p) h v1
    obtain ⟨y, rfl, v3⟩ := l1_s v2
    rw [Bool.and_eq_true] at v3
    exact si_rg1 b (sd.E h cl v3.2) (star_of v3.1)
  | rg2 a b =>
    obtain ⟨g, xs, ks, p, rfl, v0⟩ := xCall_s v
    simp only [Bool.and_eq_true, List.isEmpty_iff] at v0
    obtain ⟨⟨v1, rfl⟩, v2⟩ := v0
    obtain ⟨p0, rfl, b⟩ := call_s (xs := xs) (ks := []) (p := p) h v1
    obtain ⟨y, z, rfl, v3⟩ := l2_s v2
    simp only [Bool.and_eq_true] at v3
    obtain ⟨⟨⟨n1, n2⟩, v4⟩, v5⟩ := v3
    exact si_rg2 b (sd.E h cl v4) (sd.E h cl v5) (by rw [star_of n1, star_of n2]; rfl) (star_of n2)
  | enm a =>
    rw [Bool.and_eq_true] at v
    obtain ⟨t, v⟩ := v
    obtain ⟨els, j, tp, rfl⟩ := isTupE_s t
    obtain ⟨g, xs, ks, p, rfl, v0⟩ := xCall_s v
    simp only [Bool.and_eq_true, List.isEmpty_iff] at v0
    obtain ⟨⟨v1, rfl⟩, v2⟩ := v0
    obtain ⟨p0, rfl, b⟩ := call_s (xs := xs) (ks := []) (p := p) h v1
    obtain ⟨y, rfl, v3⟩ := l1_s v2
    rw [Bool.and_eq_true] at v3
    exact si_enm h.ck b (sd.E h cl v3.2) (star_of v3.1)
theorem sd_ts (sd : Sd n) (h : Cc c k X G) (cl : Cl k X E00 C m c.tb c.kb) {e : MEs} {x : List Expr} (v : chkTs (n + 1) c e x = true) : PTs X x (tIfs k (evC G C e)) := by
  unfold chkTs at v
  cases e with
  | nil =>
    obtain rfl := List.isEmpty_iff.mp v
    exact pts_nil
  | cons e r =>
    cases r with
    | nil =>
      obtain ⟨y, rfl, v1⟩ := l1_s v
      exact pts_one (sd.T h cl v1)
    | cons _ _ => cases v
theorem sd_f (sd : Sd n) (h : Cc c k X G) (cl : Cl k X E C m c.tb c.kb) {e : ME} (v : chkF (n + 1) c e x = true) : SFr X k E x (evE G C e) := by
  unfold chkF at v
  cases e with
  | lst es =>
    obtain ⟨xs, p, rfl, v1⟩ := xList_s v
    exact sf_lst (sd.Es h cl v1)
  | bi b es =>
    cases b with
    | rngL =>
      obtain ⟨a, rfl, v1⟩ := MEs.one_s v
      obtain ⟨p, p1, p2, p3, ys, rfl, b1, b2, ns, v2⟩ := rng_s h v1
      obtain ⟨z, rfl, v3⟩ := l1_s v2
      exact sf_rngL1 h.ck b1 b2 (sd.E h cl v3) (star_of (nst1 ns).1)
    | _ => cases v
  | lc own tg it ifs e => exact lc_ok sd h cl v
  | _ => cases v
theorem sd_w (sd : Sd n) (h : Cc c k X G) (cl : Cl k X E C m c.tb c.kb) {w : BoolOp} {e : ME} (v : chkW (n + 1) c w e x = true) : SW X k E x (evE G C e) := by
  unfold chkW at v
  obtain ⟨op, xs, p, rfl, v1⟩ := xBool_s v
  rw [Bool.and_eq_true, beq_iff_eq] at v1
  obtain ⟨rfl, v2⟩ := v1
  obtain ⟨y, r, rfl, v3⟩ := lc_s v2
  cases r with
  | nil =>
    have v4 : chkT n c e y = true := v3
    cases op with
    | And => exact sw_and1 (sd.T h cl v4)
    | Or => exact sw_or1 (sd.T h cl v4)
  | cons z r =>
    cases op with
    | And =>
      cases e with
      | and a b =>
        have v4 : (chkT n c a y && chkW n c .And b (.BoolOp .And (z :: r) p)) = true := v3
        rw [Bool.and_eq_true] at v4
        exact sw_and (sd.T h cl v4.1) (sd.W h cl v4.2)
      | _ => cases v3
    | Or =>
      cases e with
      | or a b =>
        have v4 : (chkT n c a y && chkW n c .Or b (.BoolOp .Or (z :: r) p)) = true := v3
        rw [Bool.and_eq_true] at v4
        exact sw_or (sd.T h cl v4.1) (sd.W h cl v4.2)
      | _ => cases v3
theorem sd_t (sd : Sd n) (h : Cc c k X G) (cl : Cl k X E C m c.tb c.kb) {e : ME} (v : chkT (n + 1) c e x = true) : ST X k E x (evE G C e) := by
  unfold chkT at v
  rw [Bool.or_eq_true] at v
  rcases v with v | v
  · rw [Bool.and_eq_true] at v
    exact st_tru h.ck (sd.E h cl v.2) (test_of v.1)
  · cases e with
    | cmp o a b =>
      obtain ⟨y, op, z, p, rfl, v1, v2, v3⟩ := xCmp1_s v
      rw [Bool.and_eq_true] at v2
      cases cmpB_s v1
      exact st_cmp h.ck o (sd.E h cl v3) (sd.E h cl v2.2) (marks_of v2.1)
    | chn o p a b d =>
      obtain ⟨y, o1, o2, z, w, ps, rfl, v1, v2, v3⟩ := xCmp2_s v
      simp only [Bool.and_eq_true] at v1 v2
      cases cmpB_s v1.1
      cases cmpB_s v1.2
      exact st_chn h.ck o p (sd.E h cl v3) (sd.E h cl v2.1.2) (sd.E h cl v2.2) (by show behindInMarks _ w = false; exact marks_of v2.1.1)
    | not a =>
      obtain ⟨op, y, p, rfl, v1⟩ := xUn_s v
      rw [Bool.and_eq_true, beq_iff_eq] at v1
      obtain ⟨rfl, v2⟩ := v1
      exact st_not (sd.T h cl v2)
    | and a b => exact (sd.W h cl v).pt
    | or a b => exact (sd.W h cl v).pt
    | _ => cases v
theorem sd_e (sd : Sd n) (h : Cc c k X G) (cl : Cl k X E C m c.tb c.kb) {e : ME} (v : chkE (n + 1) c e x = true) : SE X k E x (evE G C e) := by
  unfold chkE at v
  cases e with
  | var i =>
    obtain ⟨y, p, rfl, v1⟩ := xName_s v
    obtain ⟨h1, h2, h3, h4⟩ := h.vis v1
    exact se_var h1 h2 h3 h4
  | con d =>
    obtain ⟨y, j, p, rfl, v1⟩ := xConst_s v
    exact se_con (conB_s v1)
  | glb g =>
    obtain ⟨y, p, rfl, v1⟩ := xName_s v
    rw [Bool.and_eq_true, beq_iff_eq] at v1
    obtain ⟨w, u, d, h1, h2, h3, h4⟩ := h.gv g y v1.1
    obtain ⟨h5, h6⟩ := h.glob v1.2
    exact se_glb h5 h1 h2 h6 h3 h4
  | tup es =>
    obtain ⟨xs, j, p, rfl, v1⟩ := xTuple_s v
    exact se_tup (sd.Es h cl v1)
  | lst es =>
    obtain ⟨xs, p, rfl, v1⟩ := xList_s v
    exact se_of_f (sf_lst (sd.Es h cl v1)) lst_val
  | box es =>
    obtain ⟨xs, p, rfl, v1⟩ := xList_s v
    exact se_box (sd.Es h cl v1)
  | new e =>
    rw [Bool.or_eq_true] at v
    rcases v with v | v
    · exact se_new (sd.F h cl v)
    · cases e with
      | bin o a b =>
        cases o with
        | add =>
          obtain ⟨y, op, z, p, rfl, v1⟩ := xBin_s v
          simp only [Bool.and_eq_true, beq_iff_eq] at v1
          obtain ⟨⟨rfl, v2⟩, v3⟩ := v1
          exact se_newCat h.ck.K (sd.E h cl v2) (sd.E h cl v3)
        | _ => cases v
      | rev a =>
        obtain ⟨y, z, p, rfl, v1⟩ := xSub_s v
        rw [Bool.and_eq_true] at v1
        obtain ⟨l, u, s, p2, rfl, v2⟩ := xSlice_s v1.2
        simp only [Bool.and_eq_true] at v2
        obtain ⟨⟨v3, v4⟩, v5⟩ := v2
        obtain rfl := Option.isNone_iff_eq_none.mp v3
        obtain rfl := Option.isNone_iff_eq_none.mp v4
        obtain ⟨w, rfl, v6⟩ := sm_s v5
        obtain ⟨op, q, p3, rfl, v7⟩ := xUn_s v6
        rw [Bool.and_eq_true, beq_iff_eq] at v7
        obtain ⟨rfl, v8⟩ := v7
        obtain ⟨kk, j, p4, rfl, v9⟩ := xConst_s v8
        have e1 : kk = .int 1 := by
          cases kk <;> first | (cases v9; done) | (simp only [conB, beq_iff_eq] at v9; rw [v9])
        subst e1
        exact se_newRev h.ck (sd.E h cl v1.1)
      | _ => cases v
  | dcp es =>
    obtain ⟨g, xs, ks, p, rfl, v0⟩ := xCall_s v
    simp only [Bool.and_eq_true, List.isEmpty_iff] at v0
    obtain ⟨⟨⟨⟨v1, rfl⟩, v3⟩, v4⟩, v5⟩ := v0
    obtain ⟨p0, rfl, bn⟩ := call_s (xs := xs) (ks := []) (p := p) h v1
    obtain ⟨e1, es1, rfl⟩ := isEmpty_no v3
    exact se_dcp h.ck bn (sd.Es h cl v5) (star_of (nst1 v4).1) (by rw [back_any]; exact star_any (nst1 v4).2)
  | bin o a b =>
    obtain ⟨y, op, z, p, rfl, v1⟩ := xBin_s v
    simp only [Bool.and_eq_true] at v1
    cases opB_s v1.1.1
    exact se_bin h.ck.K o (sd.E h cl v1.1.2) (sd.E h cl v1.2)
  | neg a =>
    obtain ⟨op, y, p, rfl, v1⟩ := xUn_s v
    rw [Bool.and_eq_true, beq_iff_eq] at v1
    obtain ⟨rfl, v2⟩ := v1
    exact se_neg (sd.E h cl v2)
  | cmp o a b =>
    obtain ⟨y, op, z, p, rfl, v1, v2, v3⟩ := xCmp1_s v
    rw [Bool.and_eq_true] at v2
    cases cmpB_s v1
    exact se_cmp h.ck o (sd.E h cl v3) (sd.E h cl v2.2) (marks_of v2.1)
  | chn o p a b d =>
    obtain ⟨y, o1, o2, z, w, ps, rfl, v1, v2, v3⟩ := xCmp2_s v
    simp only [Bool.and_eq_true] at v1 v2
    cases cmpB_s v1.1
    cases cmpB_s v1.2
    exact se_chn h.ck o p (sd.E h cl v3) (sd.E h cl v2.1.2) (sd.E h cl v2.2) (by show behindInMarks _ w = false; exact marks_of v2.1.1)
  | and a b =>
    obtain ⟨op, xs, p, rfl, v1⟩ := xBool_s v
    rw [Bool.and_eq_true, beq_iff_eq] at v1
    obtain ⟨rfl, v2⟩ := v1
    obtain ⟨y, r, rfl, v3⟩ := lc_s v2
    rw [Bool.and_eq_true] at v3
    obtain ⟨z, r2, rfl, v4⟩ := lc_s v3.2
    cases r2 with
    | nil => exact se_and h.ck (sd.E h cl v3.1) (se_one (sd.E h cl v4))
    | cons u r3 => exact se_and h.ck (sd.E h cl v3.1) (sd.E h cl v4)
  | or a b =>
    obtain ⟨op, xs, p, rfl, v1⟩ := xBool_s v
    rw [Bool.and_eq_true, beq_iff_eq] at v1
    obtain ⟨rfl, v2⟩ := v1
    obtain ⟨y, r, rfl, v3⟩ := lc_s v2
    rw [Bool.and_eq_true] at v3
    obtain ⟨z, r2, rfl, v4⟩ := lc_s v3.2
    cases r2 with
    | nil => exact se_or h.ck (sd.E h cl v3.1) (se_one (sd.E h cl v4))
    | cons u r3 => exact se_or h.ck (sd.E h cl v3.1) (sd.E h cl v4)
  | not a =>
    obtain ⟨op, y, p, rfl, v1⟩ := xUn_s v
    rw [Bool.and_eq_true, beq_iff_eq] at v1
    obtain ⟨rfl, v2⟩ := v1
    exact se_not h.ck (sd.E h cl v2)
  | ife t a b =>
    obtain ⟨y, z, w, p, rfl, v1⟩ := xIf_s v
    simp only [Bool.and_eq_true] at v1
    exact se_if (sd.T h cl v1.1.1) (sd.E h cl v1.1.2) (sd.E h cl v1.2)
  | idx a i =>
    obtain ⟨y, z, p, rfl, v1⟩ := xSub_s v
    simp only [Bool.and_eq_true] at v1
    exact se_idx h.ck (sd.E h cl v1.1.2) (sd.E h cl v1.2) v1.1.1
  | slc a lo hi =>
    obtain ⟨y, z, p, rfl, v1⟩ := xSub_s v
    rw [Bool.and_eq_true] at v1
    obtain ⟨l, u, s, p2, rfl, v2⟩ := xSlice_s v1.2
    simp only [Bool.and_eq_true] at v2
    obtain ⟨⟨v3, v4⟩, v5⟩ := v2
    obtain rfl := Option.isNone_iff_eq_none.mp v3
    exact se_slc h.ck (sd.E h cl v1.1) (sd.O h cl v4) (sd.O h cl v5)
  | rev a =>
    obtain ⟨y, z, p, rfl, v1⟩ := xSub_s v
    rw [Bool.and_eq_true] at v1
    obtain ⟨l, u, s, p2, rfl, v2⟩ := xSlice_s v1.2
    simp only [Bool.and_eq_true] at v2
    obtain ⟨⟨v3, v4⟩, v5⟩ := v2
    obtain rfl := Option.isNone_iff_eq_none.mp v3
    obtain rfl := Option.isNone_iff_eq_none.mp v4
    obtain ⟨w, rfl, v6⟩ := sm_s v5
    obtain ⟨op, q, p3, rfl, v7⟩ := xUn_s v6
    rw [Bool.and_eq_true, beq_iff_eq] at v7
    obtain ⟨rfl, v8⟩ := v7
    obtain ⟨kk, j, p4, rfl, v9⟩ := xConst_s v8
    have e1 : kk = .int 1 := by
      cases kk <;> first | (cases v9; done) | (simp only [conB, beq_iff_eq] at v9; rw [v9])
    subst e1
    exact se_rev h.ck (sd.E h cl v1.1)
  | call j es =>
    obtain ⟨g, xs, ks, p, rfl, v0⟩ := xCall_s v
    simp only [Bool.and_eq_true, List.isEmpty_iff] at v0
    obtain ⟨⟨⟨v1, rfl⟩, v3⟩, v4⟩ := v0
    obtain ⟨y, p0, rfl, v5⟩ := xName_s v1
    rw [Bool.and_eq_true] at v5
    obtain ⟨ps, hps⟩ := tb_s v5.1
    obtain ⟨hg, hd⟩ := h.glob v5.2
    have sa := sd.Es h cl v4
    cases xs with
    | nil =>
      cases es with
      | nil => exact se_call0 cl hps hg hd
      | cons _ _ => cases n with
        | zero => cases v4
        | succ n => cases v4
    | cons e1 es1 => exact se_call cl hps hg sa hd (star_of (nst1 v3).1) (by rw [back_any]; exact star_any (nst1 v3).2)
  | callk j es ks perm =>
    obtain ⟨g, xs, kws, p, rfl, v0⟩ := xCall_s v
    simp only [Bool.and_eq_true] at v0
    obtain ⟨⟨⟨⟨⟨v1, v3⟩, v4⟩, v5⟩, v6⟩, v7⟩ := v0
    obtain ⟨y, p0, rfl, v8⟩ := xName_s v1
    rw [Bool.and_eq_true] at v8
    obtain ⟨ps, hps⟩ := tb_s v8.1
    obtain ⟨hg, hd⟩ := h.glob v8.2
    obtain ⟨sh, hsh, v9⟩ := List.any_eq_true.mp v7
    simp only [Bool.and_eq_true, beq_iff_eq] at v9
    obtain ⟨⟨⟨⟨q1, q2⟩, q3⟩, q4⟩, q5⟩ := v9
    cases xs with
    | nil =>
      cases es with
      | nil =>
        have key := se_callk0 (p0 := p0) (pos := p) cl hps hsh q1 q2 hg (sd.K h cl v6) (fun env M vs M' hh => by rw [← q5]; exact mes_len ks env M vs M' hh)
          (backKw_all v4) (by rw [backKw_names]; exact q3.symm) hd (by rw [backKw_any v4]; rfl)
        rw [q4] at key
        exact key
      | cons _ _ => cases n with
        | zero => cases v5
        | succ n => cases v5
    | cons e1 es1 =>
      have key := se_callk (p0 := p0) (pos := p) cl hps hsh q1 hg (sd.Es h cl v5) (sd.K h cl v6) (fun env M vs M' hh => by rw [q2]; exact mes_len es env M vs M' hh) (fun env M vs M' hh => by rw [← q5]; exact mes_len ks env M vs M' hh)
        (backKw_all v4) (by rw [backKw_names]; exact q3.symm) hd (star_of (nst1 v3).1) (by rw [back_any, star_any v3, backKw_any v4]; rfl)
      rw [q4] at key
      exact key
  | bi b es =>
    have plain : xCall (fun g xs ks _ => xName (fun y => y == Str.ofString (biN b) && c.bn y) g && ks.isEmpty && !xs.isEmpty && xs.all nst && chkEs n c es xs) x = true → biN b ≠ "" → SE X k E x (sBi b (evEs G C es)) := by
      intro w hb
      obtain ⟨g, xs, ks, p, rfl, v0⟩ := xCall_s w
      simp only [Bool.and_eq_true, List.isEmpty_iff] at v0
      obtain ⟨⟨⟨⟨v1, rfl⟩, v3⟩, v4⟩, v5⟩ := v0
      obtain ⟨p0, rfl, bn⟩ := call_s (xs := xs) (ks := []) (p := p) h v1
      obtain ⟨e1, es1, rfl⟩ := isEmpty_no v3
      exact bi_ok h bn hb (sd.Es h cl v5) v4
    cases b with
    | rngL =>
      obtain ⟨a, rfl, v1⟩ := MEs.one_s v
      obtain ⟨p, p1, p2, p3, ys, rfl, b1, b2, ns, v2⟩ := rng_s h v1
      obtain ⟨z, rfl, v3⟩ := l1_s v2
      exact se_rngL1 h.ck b1 b2 (sd.E h cl v3) (star_of (nst1 ns).1)
    | rngT =>
      obtain ⟨a, rfl, v1⟩ := MEs.one_s v
      obtain ⟨p, p1, p2, p3, ys, rfl, b1, b2, ns, v2⟩ := rng_s h v1
      obtain ⟨z, rfl, v3⟩ := l1_s v2
      exact se_rngT1 h.ck b1 b2 (sd.E h cl v3) (star_of (nst1 ns).1)
    | rngL2 =>
      obtain ⟨a, b, rfl, v1⟩ := MEs.two_s v
      obtain ⟨p, p1, p2, p3, ys, rfl, b1, b2, ns, v2⟩ := rng_s h v1
      obtain ⟨z, w, rfl, v3⟩ := l2_s v2
      rw [Bool.and_eq_true] at v3
      exact se_rngL2 h.ck b1 b2 (sd.E h cl v3.1) (sd.E h cl v3.2) (star_of (nst1 ns).1) (star_of (nst1 (nst1 ns).2).1) (by rw [back_any]; exact star_any (nst1 ns).2)
    | rngT2 =>
      obtain ⟨a, b, rfl, v1⟩ := MEs.two_s v
      obtain ⟨p, p1, p2, p3, ys, rfl, b1, b2, ns, v2⟩ := rng_s h v1
      obtain ⟨z, w, rfl, v3⟩ := l2_s v2
      rw [Bool.and_eq_true] at v3
      exact se_rngT2 h.ck b1 b2 (sd.E h cl v3.1) (sd.E h cl v3.2) (star_of (nst1 ns).1) (star_of (nst1 (nst1 ns).2).1) (by rw [back_any]; exact star_any (nst1 ns).2)
    | len => exact plain v (by decide)
    | abs => exact plain v (by decide)
    | int => exact plain v (by decide)
    | tuple => exact plain v (by decide)
    | list => exact plain v (by decide)
    | sorted => exact plain v (by decide)
    | sum => exact plain v (by decide)
    | min2 => exact plain v (by decide)
    | max2 => exact plain v (by decide)
  | isi a t =>
    obtain ⟨g, xs, ks, p, rfl, v0⟩ := xCall_s v
    simp only [Bool.and_eq_true, List.isEmpty_iff] at v0
    obtain ⟨⟨v1, rfl⟩, v3⟩ := v0
    obtain ⟨p0, rfl, bn⟩ := call_s (xs := xs) (ks := []) (p := p) h v1
    obtain ⟨y, z, rfl, v4⟩ := l2_s v3
    simp only [Bool.and_eq_true] at v4
    obtain ⟨⟨n1, v5⟩, v6⟩ := v4
    obtain ⟨p1, rfl, bt⟩ := call_s (xs := []) (ks := []) (p := p) h v6
    exact se_isi h.ck t (sd.E h cl v5) bn bt fun p => star_of n1
  | mt mm o es =>
    obtain ⟨g, xs, ks, cp, rfl, v0⟩ := xCall_s v
    simp only [Bool.and_eq_true, List.isEmpty_iff] at v0
    obtain ⟨⟨⟨⟨⟨v1, rfl⟩, v3⟩, v4⟩, v5⟩, v6⟩ := v0
    obtain ⟨y, nm, ap, rfl, v7⟩ := xAttr_s v1
    simp only [Bool.and_eq_true] at v7
    obtain ⟨⟨⟨w1, w2⟩, w3⟩, w4⟩ := v7
    rw [beq_iff_eq] at w1
    subst w1
    have ho := sd.E h cl w4
    have hes := sd.Es h cl v6
    have hl : xs.length < 20 := of_decide_eq_true v4
    have few : ∀ {e1 : Expr} {es1 : List Expr}, xs = e1 :: es1 → ((backTo cp (starEach (e1 :: es1) X.env)).all (fun x => !x.1) && (backToKw cp (keywordEach [] X.env)).all (fun x => x.1.isSome)
      && decide ((e1 :: es1).length + ([] : List Keyword).length + (if ([] : List Keyword).isEmpty then 0 else 1) < 30)) = true := by
      intro e1 es1 he
      subst he
      rw [back_all, star_all v3]
      have : (e1 :: es1).length + 0 + 0 < 30 := by omega
      simp only [Bool.true_and]
      show (true && decide ((e1 :: es1).length + 0 + 0 < 30)) = true
      rw [decide_eq_true this]
      rfl
    cases mm with
    | pop0 =>
      obtain rfl := List.isEmpty_iff.mp v5
      cases es with
      | nil => exact PE.imp (pe_bmS0 PySem.F.plainAttrs_list PySem.F.slot_list_pop PySem.F.type_list_pop m_pop0 ho (base_of w2) w3) fun σ H Q hh => tr_mt0 h.ck .pop0 hh
      | cons _ _ => cases n with
        | zero => cases v6
        | succ n => cases v6
    | append =>
      obtain ⟨e1, es1, he⟩ := isEmpty_no v5
      have fw := few he
      subst he
      exact PE.imp (pe_bmS PySem.F.plainAttrs_list PySem.F.slot_list_append PySem.F.type_list_append m_append ho hes (base_of w2) fw w3 (star_of (nst1 v3).1) (by rw [back_any]; exact star_any (nst1 v3).2)) fun σ H Q hh => tr_mt h.ck .append hh
    | popAt =>
      obtain ⟨e1, es1, he⟩ := isEmpty_no v5
      have fw := few he
      subst he
      exact PE.imp (pe_bmS PySem.F.plainAttrs_list PySem.F.slot_list_pop PySem.F.type_list_pop m_popAt ho hes (base_of w2) fw w3 (star_of (nst1 v3).1) (by rw [back_any]; exact star_any (nst1 v3).2)) fun σ H Q hh => tr_mt h.ck .popAt hh
    | insert =>
      obtain ⟨e1, es1, he⟩ := isEmpty_no v5
      have fw := few he
      subst he
      exact PE.imp (pe_bmS PySem.F.plainAttrs_list PySem.F.slot_list_insert PySem.F.type_list_insert m_insert ho hes (base_of w2) fw w3 (star_of (nst1 v3).1) (by rw [back_any]; exact star_any (nst1 v3).2)) fun σ H Q hh => tr_mt h.ck .insert hh
    | extend =>
      obtain ⟨e1, es1, he⟩ := isEmpty_no v5
      have fw := few he
      subst he
      exact PE.imp (pe_bmS PySem.F.plainAttrs_list PySem.F.slot_list_extend PySem.F.type_list_extend m_extend ho hes (base_of w2) fw w3 (star_of (nst1 v3).1) (by rw [back_any]; exact star_any (nst1 v3).2)) fun σ H Q hh => tr_mt h.ck .extend hh
    | index =>
      obtain ⟨e1, es1, he⟩ := isEmpty_no v5
      have fw := few he
      subst he
      exact PE.imp (pe_bmS PySem.F.plainAttrs_list PySem.F.slot_list_index PySem.F.type_list_index (m_index h.ck) ho hes (base_of w2) fw w3 (star_of (nst1 v3).1) (by rw [back_any]; exact star_any (nst1 v3).2)) fun σ H Q hh => tr_mt h.ck .index hh
    | indexT =>
      obtain ⟨e1, es1, he⟩ := isEmpty_no v5
      have fw := few he
      subst he
      exact PE.imp (pe_bmS PySem.F.plainAttrs_tuple PySem.F.slot_tuple_index PySem.F.type_tuple_index (m_indexT h.ck) ho hes (base_of w2) fw w3 (star_of (nst1 v3).1) (by rw [back_any]; exact star_any (nst1 v3).2)) fun σ H Q hh => tr_mt h.ck .indexT hh
  | lc own tg it ifs e => exact se_of_f (lc_ok sd h cl v) lc_list_val
  | dnw t =>
    obtain ⟨ks, vs, p, rfl, v1⟩ := xDict_s v
    simp only [Bool.and_eq_true, List.isEmpty_iff] at v1
    obtain ⟨rfl, rfl⟩ := v1
    cases t with
    | true => exact se_dnwT h.ck
    | false => exact se_dnwK
  | ddsp a b =>
    cases a with
    | var i =>
      cases b with
      | con d =>
        cases d with
        | bool t =>
          obtain ⟨ks, vs, p, rfl, v1⟩ := xDict_s v
          rw [Bool.and_eq_true] at v1
          obtain ⟨o1, rfl, v2⟩ := l1_s v1.1
          obtain ⟨y, rfl, v3⟩ := sm_s v2
          obtain ⟨nm, p1, rfl, v4⟩ := xName_s v3
          obtain ⟨z, rfl, v5⟩ := l1_s v1.2
          obtain ⟨kk, j, p2, rfl, v6⟩ := xConst_s v5
          have e1 : kk = .bool t := by
            cases kk <;> first | (cases v6; done) | (simp only [conB, beq_iff_eq] at v6; rw [v6])
          subst e1
          obtain ⟨h1, h2, h3, h4⟩ := h.vis v4
          exact se_ddsp h.ck h1 h2 h3 h4
        | _ => cases v
      | _ => cases v
    | _ => cases v
end
theorem sd : ∀ n, Sd n
  | 0 => by constructor <;> (intros; rename_i v; exact absurd (show false = true from v) Bool.false_ne_true)
  | n + 1 => ⟨fun h cl _ _ v => sd_e (sd n) h cl v, fun h cl _ _ v => sd_f (sd n) h cl v, fun h cl _ _ v => sd_es (sd n) h cl v, fun h cl _ _ v => sd_k (sd n) h cl v, fun h cl _ _ v => sd_o (sd n) h cl v, fun h cl _ _ _ v => sd_i (sd n) h cl v, fun h cl _ _ v => sd_ts (sd n) h cl v, fun h cl _ _ v => sd_t (sd n) h cl v, fun h cl _ _ _ v => sd_w (sd n) h cl v⟩
end Mp
end
section
set_option maxHeartbeats 4000000
/-! The check on statements, on defs; it is sound. -/
namespace Mp
open PySem PySem.Spec PyProof.Rows L2

/-! ### shapes of statements -/
def yAsg (f : Expr → Expr → Pos → Bool) : Stmt → Bool | .Assign ts e p => l1 (fun t => f t e p) ts | _ => false
def yAug (f : Expr → Operator → Expr → Bool) : Stmt → Bool | .AugAssign t o e _ => f t o e | _ => false
def yFor (f : Expr → Expr → List Stmt → Bool) : Stmt → Bool | .For t e b r _ => r.isEmpty && f t e b | _ => false
def yWhile (f : Expr → List Stmt → Bool) : Stmt → Bool | .While e b r _ => r.isEmpty && f e b | _ => false
def yIf (f : Expr → List Stmt → List Stmt → Bool) : Stmt → Bool | .If e a b _ => f e a b | _ => false
def yExpr (f : Expr → Bool) : Stmt → Bool | .Expr e _ => f e | _ => false
def yRet (f : Option Expr → Bool) : Stmt → Bool | .Return e _ => f e | _ => false
def yBrk : Stmt → Bool | .Break _ => true | _ => false
def yCtn : Stmt → Bool | .Continue _ => true | _ => false
def yPas : Stmt → Bool | .Pass _ => true | .Expr (.Constant (.str _) _ _) _ => true | _ => false
section
variable {s : Stmt}
theorem yAsg_s {f : Expr → Expr → Pos → Bool} (h : yAsg f s = true) : ∃ t e p, s = .Assign [t] e p ∧ f t e p = true := by
  cases s <;> first | (obtain ⟨t, rfl, h1⟩ := l1_s h; exact ⟨_, _, _, rfl, h1⟩) | cases h
theorem yAug_s {f : Expr → Operator → Expr → Bool} (h : yAug f s = true) : ∃ t o e p, s = .AugAssign t o e p ∧ f t o e = true := by cases s <;> first | exact ⟨_, _, _, _, rfl, h⟩ | cases h
theorem yFor_s {f : Expr → Expr → List Stmt → Bool} (h : yFor f s = true) : ∃ t e b p, s = .For t e b [] p ∧ f t e b = true := by
  cases s with
  | For t e b r p =>
    have h' : (r.isEmpty && f t e b) = true := h
    rw [Bool.and_eq_true, List.isEmpty_iff] at h'
    obtain ⟨rfl, h2⟩ := h'
    exact ⟨_, _, _, _, rfl, h2⟩
  | _ => cases h
theorem yWhile_s {f : Expr → List Stmt → Bool} (h : yWhile f s = true) : ∃ e b p, s = .While e b [] p ∧ f e b = true := by
  cases s with
  | While e b r p =>
    have h' : (r.isEmpty && f e b) = true := h
    rw [Bool.and_eq_true, List.isEmpty_iff] at h'
    obtain ⟨rfl, h2⟩ := h'
    exact ⟨_, _, _, rfl, h2⟩
  | _ => cases h
theorem yIf_s {f : Expr → List Stmt → List Stmt → Bool} (h : yIf f s = true) : ∃ e a b p, s = .If e a b p ∧ f e a b = true := by cases s <;> first | exact ⟨_, _, _, _, rfl, h⟩ | cases h
theorem yExpr_s {f : Expr → Bool} (h : yExpr f s = true) : ∃ e p, s = .Expr e p ∧ f e = true := by cases s <;> first | exact ⟨_, _, rfl, h⟩ | cases h
theorem yRet_s {f : Option Expr → Bool} (h : yRet f s = true) : ∃ e p, s = .Return e p ∧ f e = true := by cases s <;> first | exact ⟨_, _, rfl, h⟩ | cases h
end

/-- neither side a row against a row -/
def noTT : Expr → Expr → Bool
  | .Tuple .., .Tuple .. => false
  | .List .., .Tuple .. => false
  | _, _ => true
theorem noTT_s {t e : Expr} {env : PySem.Env} (h : noTT t e = true) : swappedStores [t] e env = pure none := by
  cases t <;> cases e <;> first | rfl | cases h
/-- a comprehension, stored at a name, in the frame's own block -/
def chkLC (n : Nat) (c : CC) (y : Str) (p1 : Pos) : ME → Expr → Bool
  | .lc own tg it ifs e, x => (p1.line == x.pos.line) && (c.sc.kind == .function) && (c.sc.names.lookup y == some .local) && xComp (fun elt gs sc => (!(sc.names.any fun q => q.1 == y && (q.2 == .local || q.2 == .cell))) && l1 (fun q => q.is_async == 0 && blkC c.N c.sc sc (own.map fun i => (c.N.getD i "", i)) && tgIn own tg && nSet q.iter && chkI n c q.target it q.iter &&
        chkG { c with sc := relS sc c.sc, all := false } tg q.target && chkTs n { c with sc := relS sc c.sc, all := false } ifs q.ifs && chkE n { c with sc := relS sc c.sc, all := false } e elt) gs) x
  | _, _ => false
def isAS : BOp → Bool
  | .add => true
  | .sub => true
  | _ => false
theorem isAS_s {o : BOp} (h : isAS o = true) : o = .add ∨ o = .sub := by cases o <;> first | exact .inl rfl | exact .inr rfl | cases h
def deNew : ME → ME
  | .new e => e
  | e => e
def okSet (c : CC) (y : Str) (x : Expr) : Bool := notComp x || (xComp (fun _ _ _ => true) x && c.sc.names.lookup y == some .cell)
theorem swaps_ok {c : CC} {k : Kx} {X : Cx} {G : Nat → Option D} (h : Cc c k X G) {y : Str} {x : Expr} {p1 : Pos} {l : Nat} (v : okSet c y x = true) : swapsWith x (some (.Name y p1)) l X.env = pure false := by
  unfold okSet at v
  rw [Bool.or_eq_true] at v
  rcases v with v | v
  · exact swaps_false v
  · rw [Bool.and_eq_true, beq_iff_eq] at v
    obtain ⟨elt, gs, sc, p, rfl, _⟩ := xComp_s v.1
    have hy : X.env.kindOf y = some .cell := by
      show X.env.scope.names.lookup y = _
      rw [h.sc]
      exact v.2
    show (pure (X.env.blockKind == .function && X.env.kindOf y == some .local && p1.line == p.line && !(sc.names.any fun (n, k) => n == y && (k == .local || k == .cell))) : Sem Bool) = pure false
    rw [hy]
    have e : (some NameKind.cell == some NameKind.local) = false := by decide
    rw [e]
    simp
mutual
def chkS : Nat → CC → MS → Stmt → Bool
  | 0, _, _, _ => false
  | n + 1, c, s, st => match s with
    | .set i e => yAsg (fun t x p => xName (fun y => c.loc i y) t && (xName (fun y => okSet c y x && chkE n c e x) t || (xName (fun y => chkLC n c y t.pos (deNew e) x) t))) st
    | .asg tg e => yAsg (fun t x _ => nst t && noTT t x && notComp x && chkG c tg t && chkE n c e x) st
    | .par2 i j a b => yAsg (fun t x _ => xTuple (l2 fun t1 t2 => xName (fun y => xName (fun z => c.N[i]? == some y && c.N[j]? == some z && !(i == j) && xTuple (l2 fun u v => (swp c.sc y z t1.pos t2.pos u v || (swpN c.sc y z u v && c.loc i y && c.loc j z)) && chkE n c a u && chkE n c b v) x) t2) t1) t) st
    | .setI o i e => yAsg (fun t x _ => xSub (fun y z => notSl z && notComp x && chkE n c o y && chkE n c i z && chkE n c e x) t) st
    | .aug i o e => yAug (fun t op x => opB o op && isAS o && xName (fun y => c.loc i y) t && chkE n c e x) st
    | .exp e => yExpr (fun x => notComp x && chkE n c e x) st
    | .ret e => yRet (sm fun x => chkE n c e x) st
    | .retn => yRet (fun x => x.isNone) st
    | .iff e a b => yIf (fun x xs ys => chkT n c e x && chkSs n c a xs && chkSs n c b ys) st
    | .forr tg it b => yFor (fun t x xs => nSet x && chkG c tg t && chkI n c t it x && chkSs n c b xs) st
    | .whil e b => yWhile (fun x xs => chkT n c e x && chkSs n c b xs) st
    | .brk => yBrk st
    | .ctn => yCtn st
    | .pas => yPas st
    | .frz _ => false
def chkSs : Nat → CC → MSs → List Stmt → Bool
  | 0, _, _, _ => false
  | n + 1, c, ss, sts => match ss with
    | .nil => sts.isEmpty
    | .cons s ss => match s with
      | .frz _ => chkSs n c ss sts
      | s => lc (fun st r => chkS n c s st && chkSs n c ss r) sts
end
structure SdS (n : Nat) : Prop where
  S : ∀ {c : CC} {k : Kx} {X : Cx} {G : Nat → Option D} {E : XK} {C : CT} {m : Nat}, Cc c k X G → Cl k X E C m c.tb c.kb → ∀ {s : MS} {st : Stmt}, chkS n c s st = true → SSt X k E st (evS G C s)
  Ss : ∀ {c : CC} {k : Kx} {X : Cx} {G : Nat → Option D} {E : XK} {C : CT} {m : Nat}, Cc c k X G → Cl k X E C m c.tb c.kb → ∀ {s : MSs} {st : List Stmt}, chkSs n c s st = true → SSs X k E st (evSs G C s)
section
variable {n : Nat} {c : CC} {k : Kx} {X : Cx} {G : Nat → Option D} {E : XK} {C : CT} {m : Nat}
theorem set_lc (h : Cc c k X G) (cl : Cl k X E C m c.tb c.kb) {i : Nat} {y : Str} {p1 spos : Pos} {e : ME} {x : Expr} (hi : X.N[i]? = some y) (v : chkLC n c y p1 e x = true) (nw : Bool) :
    SSt X k E (.Assign [.Name y p1] x spos) (sSet i (if nw then sNew (evE G C e) else evE G C e)) := by
  unfold chkLC at v
  cases e with
  | lc own tg it ifs e =>
    simp only [Bool.and_eq_true, beq_iff_eq] at v
    obtain ⟨⟨⟨a1, a2⟩, a3⟩, a4⟩ := v
    obtain ⟨elt, gs, sc, p, rfl, w0⟩ := xComp_s a4
    rw [Bool.and_eq_true] at w0
    obtain ⟨wn, w0⟩ := w0
    obtain ⟨q, rfl, w1⟩ := l1_s w0
    obtain ⟨tx, ix, fx, as⟩ := q
    simp only [Bool.and_eq_true, beq_iff_eq] at w1
    obtain ⟨⟨⟨⟨⟨⟨⟨rfl, v1⟩, v2⟩, v3⟩, v4⟩, v5⟩, v6⟩, v7⟩ := w1
    have ok : BlkOk X.N X.env.scope sc (own.map fun i => (c.N.getD i "", i)) := by
      rw [h.N, h.sc]
      exact blkOk_by v1
    have key := ss_setLc (k := k) (E := E) (pos := p) (p1 := p1) (spos := spos) (i := i) (y := y) h.ck hi (by rw [h.sc]; exact a3) (swaps_lc (l := spos.line) h.sc a2 a3 (by rw [beq_iff_eq]; exact a1) wn) ((sd n).I h cl v4) ok (t := tg) (by rw [own_map]; exact v2) (c := evC G C ifs) (f := evE G C e)
      (fun s H Ca cl' fp => chkG_ok (h.blk ok.kind) tg tx v5) (fun s H Ca cl' fp => (sd n).Ts (h.blk ok.kind) cl.blk v6) (fun s H Ca cl' fp => (sd n).E (h.blk ok.kind) cl.blk v7) (fold_of v3) nw
    rw [own_map] at key
    exact key
  | _ => cases v
theorem sds_ss (sds : SdS n) (h : Cc c k X G) (cl : Cl k X E C m c.tb c.kb) {s : MSs} {st : List Stmt} (v : chkSs (n + 1) c s st = true) : SSs X k E st (evSs G C s) := by
  unfold chkSs at v
  cases s with
  | nil =>
    obtain rfl := List.isEmpty_iff.mp v
    exact sss_nil
  | cons s ss =>
    have plain : lc (fun st r => chkS n c s st && chkSs n c ss r) st = true → SSs X k E st (evSs G C (.cons s ss)) := by
      intro w
      obtain ⟨y, r, rfl, w1⟩ := lc_s w
      rw [Bool.and_eq_true] at w1
      exact sss_cons (sds.S h cl w1.1) (sds.Ss h cl w1.2)
    cases s with
    | frz i => exact sss_frz (sds.Ss h cl v)
    | _ => exact plain v
theorem sds_s (sds : SdS n) (h : Cc c k X G) (cl : Cl k X E C m c.tb c.kb) {s : MS} {st : Stmt} (v : chkS (n + 1) c s st = true) : SSt X k E st (evS G C s) := by
  unfold chkS at v
  cases s with
  | set i e =>
    obtain ⟨t, x, p, rfl, v1⟩ := yAsg_s v
    rw [Bool.and_eq_true] at v1
    obtain ⟨y, p1, rfl, v2⟩ := xName_s v1.1
    obtain ⟨h1, h2, h3⟩ := h.loc v2
    rcases Bool.or_eq_true _ _ ▸ v1.2 with v3 | v3
    · have v3 : (okSet c y x && chkE n c e x) = true := v3
      rw [Bool.and_eq_true] at v3
      exact ss_set h.ck h1 h2 h3 ((sd n).E h cl v3.2) (swaps_ok h v3.1)
    · have v4 : chkLC n c y p1 (deNew e) x = true := v3
      cases e with
      | new e1 => exact set_lc (p1 := p1) h cl h1 v4 true
      | _ => exact set_lc (p1 := p1) h cl h1 v4 false
  | asg tg e =>
    obtain ⟨t, x, p, rfl, v1⟩ := yAsg_s v
    simp only [Bool.and_eq_true] at v1
    obtain ⟨⟨⟨⟨n1, n2⟩, n3⟩, v2⟩, v3⟩ := v1
    exact ss_asg ((sd n).E h cl v3) (chkG_ok h tg t v2) (swaps_false n3) (noTT_s n2) (by rw [asgEach_of n1]; rfl)
  | par2 i j a b =>
    obtain ⟨t, x, p, rfl, v1⟩ := yAsg_s v
    obtain ⟨ts, kk, pt, rfl, v2⟩ := xTuple_s v1
    obtain ⟨t1, t2, rfl, v3⟩ := l2_s v2
    obtain ⟨y, py, rfl, v4⟩ := xName_s v3
    obtain ⟨z, pz, rfl, v5⟩ := xName_s v4
    simp only [Bool.and_eq_true, beq_iff_eq] at v5
    obtain ⟨⟨⟨w1, w2⟩, w3⟩, w4⟩ := v5
    obtain ⟨us, k2, pt2, rfl, w5⟩ := xTuple_s w4
    obtain ⟨u, w, rfl, w6⟩ := l2_s w5
    simp only [Bool.and_eq_true] at w6
    obtain ⟨⟨w7, w8⟩, w9⟩ := w6
    have hij : i ≠ j := fun e => by rw [e] at w3; simp at w3
    rcases Bool.or_eq_true _ _ ▸ w7 with w7 | w7
    case inr =>
      simp only [Bool.and_eq_true] at w7
      obtain ⟨⟨q1, q2⟩, q3⟩ := w7
      have hs := swp_none (px := py) (py := pz) (kt := kk) (k2 := k2) (pt := pt) (pt2 := pt2) h.sc q1
      unfold swpN at q1
      simp only [Bool.and_eq_true] at q1
      obtain ⟨i1, i2, i3⟩ := h.loc q2
      obtain ⟨j1, j2, j3⟩ := h.loc q3
      exact ss_par2t h.ck i1 j1 i2 j2 i3 j3 ((sd n).E h cl w8) ((sd n).E h cl w9) (star_of q1.1.1.2) (star_of q1.1.2) hs
    have hs := swp_some (kt := kk) (k2 := k2) (pt := pt) (pt2 := pt2) h.sc w7
    unfold swp at w7
    simp only [Bool.and_eq_true, beq_iff_eq] at w7
    obtain ⟨⟨⟨⟨⟨⟨⟨⟨q1, q2⟩, q3⟩, q4⟩, q5⟩, q6⟩, q7⟩, q8⟩, q9⟩ := w7
    exact ss_par2 h.ck (by rw [h.N]; exact w1) (by rw [h.N]; exact w2) hij (by rw [h.sc]; exact q2) (by rw [h.sc]; exact q3) ((sd n).E h cl w8) ((sd n).E h cl w9) (star_of q6) (star_of q7) hs rfl
  | setI o i e =>
    obtain ⟨t, x, p, rfl, v1⟩ := yAsg_s v
    obtain ⟨y, z, p0, rfl, v2⟩ := xSub_s v1
    simp only [Bool.and_eq_true] at v2
    obtain ⟨⟨⟨⟨n1, n2⟩, v3⟩, v4⟩, v5⟩ := v2
    exact ss_setI ((sd n).E h cl v3) ((sd n).E h cl v4) ((sd n).E h cl v5) (set_ok h.ck) (fun _ => by cases z <;> first | rfl | cases n1) (show swapsWith x (some (.Subscript y z p0)) p.line X.env = pure false from swaps_false n2) (noTT_s (by cases x <;> rfl)) rfl
  | aug i o e =>
    obtain ⟨t, op, x, p, rfl, v1⟩ := yAug_s v
    simp only [Bool.and_eq_true] at v1
    obtain ⟨⟨⟨v2, v3⟩, v4⟩, v5⟩ := v1
    cases opB_s v2
    obtain ⟨y, p0, rfl, v6⟩ := xName_s v4
    obtain ⟨h1, h2, h3⟩ := h.loc v6
    exact ss_aug h.ck h1 h2 h3 ((sd n).E h cl v5) (isAS_s v3)
  | exp e =>
    obtain ⟨x, p, rfl, v1⟩ := yExpr_s v
    rw [Bool.and_eq_true] at v1
    exact ss_exp ((sd n).E h cl v1.2) (swaps_false v1.1)
  | ret e =>
    obtain ⟨x, p, rfl, v1⟩ := yRet_s v
    obtain ⟨y, rfl, v2⟩ := sm_s v1
    exact ss_ret ((sd n).E h cl v2)
  | retn =>
    obtain ⟨x, p, rfl, v1⟩ := yRet_s v
    obtain rfl := Option.isNone_iff_eq_none.mp v1
    exact ss_retn
  | iff e a b =>
    obtain ⟨x, xs, ys, p, rfl, v1⟩ := yIf_s v
    simp only [Bool.and_eq_true] at v1
    exact ss_iff ((sd n).T h cl v1.1.1) (sds.Ss h cl v1.1.2) (sds.Ss h cl v1.2)
  | forr tg it b =>
    obtain ⟨t, x, xs, p, rfl, v1⟩ := yFor_s v
    simp only [Bool.and_eq_true] at v1
    obtain ⟨⟨⟨n1, v2⟩, v3⟩, v4⟩ := v1
    exact ss_for h.ck ((sd n).I h cl v3) (chkG_ok h tg t v2) (sds.Ss h cl v4) (fold_of n1)
  | whil e b =>
    obtain ⟨x, xs, p, rfl, v1⟩ := yWhile_s v
    rw [Bool.and_eq_true] at v1
    exact ss_whil h.ck ((sd n).T h cl v1.1) (sds.Ss h cl v1.2)
  | brk => cases st <;> first | exact ss_brk | cases v
  | ctn => cases st <;> first | exact ss_ctn | cases v
  | pas =>
    cases st with
    | Pass p => exact ss_pas
    | Expr e p =>
      cases e with
      | Constant kk j p2 =>
        cases kk with
        | str z => exact ss_doc
        | _ => cases v
      | _ => cases v
    | _ => cases v
  | frz i => cases v
end
theorem sds : ∀ n, SdS n
  | 0 => by constructor <;> (intros; rename_i v; exact absurd (show false = true from v) Bool.false_ne_true)
  | n + 1 => ⟨fun h cl _ _ v => sds_s (sds n) h cl v, fun h cl _ _ v => sds_ss (sds n) h cl v⟩

/-! ### defs -/
structure Df where
  name : Str
  ps : List Str
  N : List Str
  fn : Fn
  st : Stmt
def scB (N ps : List Str) (sc : Scope) : Bool :=
  (sc.kind == .function) && (sc.isCoroutine == false) && (sc.isGenerator == false) && decide N.Nodup && (N.take ps.length == ps) && (ps.all fun x => sc.names.lookup x == some .local || sc.names.lookup x == some .cell) && (sc.names.all fun y => !(y.2 == .free))
theorem scB_s {N ps : List Str} {sc : Scope} (h : scB N ps sc = true) : FnScope N ps sc := by
  unfold scB at h
  simp only [Bool.and_eq_true, beq_iff_eq, decide_eq_true_eq, List.all_eq_true, Bool.or_eq_true, Bool.not_eq_true', beq_eq_false_iff_ne] at h
  obtain ⟨⟨⟨⟨⟨⟨h1, h2⟩, h3⟩, h4⟩, h5⟩, h6⟩, h7⟩ := h
  exact ⟨h1, h2, h3, h4, h5, h6, h7⟩
/-- the text's defs, its constants, its free built-ins, its calls with keywords -/
structure Tx where
  ds : List Df
  gl : List Str
  bl : List Str
  kb : List KShape
def Tx.cc (t : Tx) (d : Df) : CC := { N := d.N, sc := defScope d.st, all := true, tb := t.ds.map fun d => (d.name, d.ps), gl := t.gl, bl := t.bl, kb := t.kb }
def chkD (n : Nat) (t : Tx) (d : Df) : Bool := scB d.N d.ps (defScope d.st) && (d.fn.np == d.ps.length) && (d.fn.ns == d.N.length) && chkSs n (t.cc d) d.fn.body (defBody d.st)
def Tx.T (t : Tx) : List Fn := t.ds.map (·.fn)
section
variable {P : Program} {w : World} {K : PySem.W.Frag} {mg : Str → Option Value} {base : Heap}
/-- how a def of the text stands behind the top -/
structure Stands (K : PySem.W.Frag) (mg : Str → Option Value) (t : Tx) (j : Nat) (d : Df) : Prop where
  ex : ∃ f fd, Fun K d.name d.name d.st f fd ∧ mg d.name = some (.ref f) ∧ Binds K fd d.ps [] ∧ ∀ sh ∈ t.kb, sh.j = j → KBinds K fd d.ps sh.ks (gP sh.np sh.ks.length sh.perm) (gP sh.np sh.ks.length sh.perm)
theorem fn_ok {n : Nat} {t : Tx} {k : Kx} {G : Nat → Option D} (hkK : K = k.K.K) (hkP : P = k.K.P) (hkw : w = k.K.w) (hc : t.ds.all (chkD n t) = true) (hst : ∀ (j : Nat) (d : Df), t.ds[j]? = some d → Stands K mg t j d) (hbl : ∀ x ∈ t.bl, mg x = none)
    (hgv : ∀ (g : Nat) (x : Str), t.gl[g]? = some x → ∃ v u d, mg x = some u ∧ RelV v u ∧ G g = some d ∧ ∀ H av, R k.K H av d v) : ∀ (m j : Nat) (d : Df), t.ds[j]? = some d → ∀ (f : Addr) (fd : FuncData), Fun K d.name d.name d.st f fd →
    FnOk P w K mg base (L2.CX P w) m f fd d.ps (spC k (callAt G t.T m) j)
  | 0, j, d, hd, f, fd, F => by
    refine ⟨fun vs H Q E h => ?_, fun A outer s H args us vs Q E hr he hbd hv h => ?_⟩
    · obtain ⟨_, _, _, _, _, _, p⟩ := h
      exact p.elim
    · obtain ⟨_, _, _, _, _, _, p⟩ := h
      exact p.elim
  | m + 1, j, d, hd, f, fd, F => by
    have ih := fn_ok hkK hkP hkw hc hst hbl hgv m
    have hcd : chkD n t d = true := List.all_eq_true.mp hc d (List.mem_of_getElem? hd)
    unfold chkD at hcd
    simp only [Bool.and_eq_true, beq_iff_eq] at hcd
    obtain ⟨⟨⟨c1, c2⟩, c3⟩, c4⟩ := hcd
    have S := scB_s c1
    have hT : t.T[j]? = some d.fn := by unfold Tx.T; rw [List.getElem?_map, hd]; rfl
    have run : ∀ us M, callAt G t.T (m + 1) j us M = runFn G (callAt G t.T m) d.fn us M := by
      intro us M
      show (match t.T[j]? with | some fn => runFn G (callAt G t.T m) fn us M | none => .no) = _
      rw [hT]
    have hlen : ∀ vs H Q E, spC k (callAt G t.T (m + 1)) j vs H Q E → vs.length = d.ps.length := by
      intro vs H Q E h
      obtain ⟨ex, am, M, us, rm, rv, p⟩ := h
      rw [run] at p
      unfold runFn at p
      split at p
      · rename_i hl
        rw [← rv.length, hl, c2]
      · exact p.elim
    refine F.okX S hlen fun cdv A outer s H vs Q E hr hsp => ?_
    have hl := hlen vs H Q E hsp
    obtain ⟨ex, am, M, us, rm, rv, p⟩ := hsp
    rw [run] at p
    unfold runFn at p
    split at p
    · rename_i hul
      have p2 := body_end rm p
      let X := cxOf (L2.CX P w) P w K mg base d.N d.name (defScope d.st) f cdv A outer s H E
      have ck : Ck k X := ⟨hkK, by have := hr.un; show (A.deeper _).units + 100 < cLine; omega, rfl, S.nd, hkP, hkw, S.kind, passes_of rfl⟩
      have cc : Cc (t.cc d) k X G := ⟨ck, rfl, rfl, fun _ _ => rfl, hbl, hgv⟩
      have tk : Takes X (fun cls d _ H => E cls d H) := takes_of rfl rfl rfl rfl
      have cl : Cl k X E (callAt G t.T m) m (t.cc d).tb (t.cc d).kb := by
        refine ⟨fun j x ps hj => ?_, hr, passes_call tk fun _ _ _ _ h => h⟩
        have hj' : (t.ds.map fun d => (d.name, d.ps))[j]? = some (x, ps) := hj
        rw [List.getElem?_map] at hj'
        obtain ⟨d2, hd2, e⟩ := Option.map_eq_some_iff.mp hj'
        cases e
        obtain ⟨f2, fd2, F2, hm, hb, hkb⟩ := (hst j d2 hd2).ex
        exact ⟨f2, fd2, ih j d2 hd2 f2 fd2 F2, hm, F2.kp, hb, hkb⟩
      refine ⟨tS k E (evSs G (callAt G t.T m) d.fn.body), (sds n).Ss cc cl c4, ex, am, _, M, rm, start_RE rv c3 hul ?_, p2⟩
      rw [c2, c3]
      have := congrArg List.length S.pre
      rw [List.length_take] at this
      omega
    · exact p.elim
end
end Mp
end
section
set_option maxHeartbeats 4000000
/-! From the small Python's law to the law of the row. -/
namespace Mp
open PySem PySem.Spec PyProof.Rows L2

theorem stands_mk {K : PySem.W.Frag} {mg : Str → Option Value} {h : Heap} {t : Tx} {j : Nat} {d : Df} (X : K.In h) (Gn : h.Ns mainGlobals mg) {f : Addr} {oc : Value} {od an : Option Addr} {osl : Array (Option Value)} {kV doc pm cdv ct : Value}
    (a : PySem.W.nsIn K mainGlobals d.name = some (some (.ref f))) (l : K.lookup f = some ⟨oc, od, .func (PySem.W.fnOf d.name d.name (defArgs d.st) (defBody d.st) (defScope d.st) .none kV doc pm an cdv ct), osl⟩) (c : PySem.W.codeIn K cdv d.name = true) (kp : PySem.W.keepIn K (.ref f) = true)
    (hb : ∀ (kV doc pm : Value) (an : Option Addr) (cdv ct : Value) (us : List Value), us.length = d.ps.length → bindArgs (PySem.W.fnOf d.name d.name (defArgs d.st) (defBody d.st) (defScope d.st) .none kV doc pm an cdv ct) ⟨us, []⟩ = pure (d.ps.zip us))
    (hk : ∀ sh ∈ t.kb, sh.j = j → d.ps ≠ [] ∧ ∀ (kV doc pm : Value) (an : Option Addr) (cdv ct : Value) (us ws : List Value), us.length = sh.np → ws.length = sh.ks.length → bindArgs (PySem.W.fnOf d.name d.name (defArgs d.st) (defBody d.st) (defScope d.st) .none kV doc pm an cdv ct) ⟨us, sh.ks.zip ws⟩ = pure (d.ps.zip (gP sh.np sh.ks.length sh.perm us ws))) :
    Stands K mg t j d :=
  ⟨f, _, fun_mk l c kp, PySem.W.mg_of X Gn a, .all (hb kV doc pm an cdv ct), fun sh hs hj => kb_mk (hk sh hs hj).1 ((hk sh hs hj).2 kV doc pm an cdv ct)⟩

/-- the constants of the module that are whole numbers, texts -/
theorem law_hsp {k : Kx} {G : Nat → Option D} {T : List Fn} {m j : Nat} {H : Hp} {a : Addr} {ns : List Int} (hO : Only H) (hS : SqL k.K.K H a (ns.map V.int)) (hl : ∃ M', callAt G T m j [.ref 0] [.scr (ns.map .int)] = .ok (.d (.bool true)) M') :
    spC k (callAt G T m) j [.ref a] H (fun v _ => v = .bl true) fun _ _ _ => False := by
  obtain ⟨M', hM⟩ := hl
  have hs : ScrAt k.K H a (ns.map V.int) := by
    rcases hS with (h | h) | h
    · rcases hO a with z | ⟨o, xs, z⟩
      · rw [h] at z; cases z
      · rw [h] at z; cases z
    · exact .inl h
    · exact .inr h
  have rs : ∀ (ns : List Int) (av : Addr → Prop), Rs k.K H av (ns.map .int) (ns.map V.int) := by
    intro ns av
    induction ns with
    | nil => rfl
    | cons n ns ih => exact ⟨_, _, rfl, rfl, ih⟩
  refine ⟨[], [a], [.scr (ns.map .int)], [.ref 0], ⟨rfl, fun i ob b h1 h2 => ?_, fun i j b o1 o2 h1 h2 h3 h4 h5 h6 => ?_, fun b h => by simp at h, fun b h => by simp at h⟩, ⟨_, [], rfl, ⟨a, rfl, rfl⟩, rfl⟩, ?_⟩
  · cases i with
    | zero =>
      simp at h1 h2
      subst h1 h2
      exact ⟨_, hs, rs ns _⟩
    | succ i => simp at h1
  · cases i with
    | zero =>
      simp at h3
      subst h3
      cases h5
    | succ i => simp at h3
  · rw [hM]
    intro am' H' rm f x rx
    exact rx
theorem law_hcx {P : Program} {w : World} (H : Hp) (s : Shared) (e : Value) (s' : Shared) (h : L2.CX P w [] H s (fun _ _ _ => False) e s') : False := by
  obtain ⟨_, _, _, _, _, _, _, _, _, _, _, _, z⟩ := h
  exact z
/-- the goal that the head leaves -/
theorem law_F {P : Program} {w : World} {K : PySem.W.Frag} {mg : Str → Option Value} {fa : Addr} {n : Nat} {t : Tx} {k : Kx} {G : Nat → Option D} (m j : Nat) {d : Df} (hkK : K = k.K.K) (hkP : P = k.K.P) (hkw : w = k.K.w) (hc : t.ds.all (chkD n t) = true)
    (hst : ∀ (j : Nat) (d : Df), t.ds[j]? = some d → Stands K mg t j d) (hbl : ∀ x ∈ t.bl, mg x = none) (hgv : ∀ (g : Nat) (x : Str), t.gl[g]? = some x → ∃ v u d, mg x = some u ∧ RelV v u ∧ G g = some d ∧ ∀ H av, R k.K H av d v)
    (hd : t.ds[j]? = some d) (hp : d.ps = [("script" : Str)]) (hfa : mg d.name = some (.ref fa))
    (hb : ∀ (kV doc pm : Value) (an : Option Addr) (cdv ct : Value) (s : Shared) (u : Value), BindsTo s (PySem.W.fnOf d.name d.name (defArgs d.st) (defBody d.st) (defScope d.st) .none kV doc pm an cdv ct) ⟨[u], []⟩ [("script", u)]) :
    ∃ fd : FuncData, (∀ (s : Shared) (v : Value), BindsTo s fd ⟨[v], []⟩ [("script", v)]) ∧ ∀ base : Heap, K.In base → base.Ns mainGlobals mg → FnOk P w K mg base (L2.CX P w) m fa fd ["script"] (spC k (callAt G t.T m) j) := by
  obtain ⟨f, fd, F, hm, _, _⟩ := (hst j d hd).ex
  rw [hm] at hfa
  cases hfa
  refine ⟨fd, fun s v => ?_, fun base _ _ => ?_⟩
  · obtain ⟨oc, od, kV, doc, pm, an, cdv, ct, osl, rfl, _, _⟩ := F.ex
    exact hb kV doc pm an cdv ct s v
  · rw [← hp]
    exact fn_ok hkK hkP hkw hc hst hbl hgv m j d hd _ fd F
end Mp
end
section
set_option maxHeartbeats 4000000
/-! Rows for computing with the small Python, piece by piece. -/
namespace Mp
open PySem PySem.Spec PyProof.Rows L2 Mp

theorem bind_congr {α β : Type} {r r' : Res α} {f : α → Mem → Res β} (h : r = r') : r.bind f = r'.bind f := by rw [h]
section
variable {G : Nat → Option D} {C : CT} {σ : Env} {M : Mem} {f g h : SF} {A B : SA} {u v : SS} {it : SI}
@[simp] theorem x_bok {α β : Type} (a : α) (M : Mem) (f : α → Mem → Res β) : (Res.ok a M).bind f = f a M := id rfl
@[simp] theorem x_bex {α β : Type} (e : Exn) (M : Mem) (f : α → Mem → Res β) : (Res.ex e M : Res α).bind f = .ex e M := id rfl
@[simp] theorem x_bno {α β : Type} (f : α → Mem → Res β) : (Res.no : Res α).bind f = .no := id rfl
@[simp] theorem x_ofS {α : Type} (a : α) : ofO (some a) M = .ok a M := id rfl
@[simp] theorem x_ofN {α : Type} : ofO (none : Option α) M = .no := id rfl
-- syntax
@[simp] theorem x_var {i : Nat} : evE G C (.var i) σ M = ofO (getE σ i) M := id rfl
@[simp] theorem x_con {d : D} : evE G C (.con d) σ M = .ok (.d d) M := id rfl
@[simp] theorem x_glb {i : Nat} : evE G C (.glb i) σ M = (ofO (G i) M).bind fun x M1 => .ok (.d x) M1 := id rfl
@[simp] theorem x_nil : evEs G C .nil σ M = .ok [] M := id rfl
@[simp] theorem x_cons {e : ME} {es : MEs} : evEs G C (.cons e es) σ M = (evE G C e σ M).bind fun v M1 => (evEs G C es σ M1).bind fun vs M2 => .ok (v :: vs) M2 := id rfl
@[simp] theorem x_tup {es : MEs} : evE G C (.tup es) σ M = (evEs G C es σ M).bind fun vs M1 => match toDs vs with
  | some ds => if ds.length ≤ lim then .ok (.d (.tuple ds)) M1 else .no
  | none => .no := id rfl
@[simp] theorem x_lst {es : MEs} : evE G C (.lst es) σ M = (evEs G C es σ M).bind fun vs M1 => match toDs vs with
  | some ds => if ds.length ≤ lim then .ok (.d (.list ds)) M1 else .no
  | none => .no := id rfl
@[simp] theorem x_box {es : MEs} : evE G C (.box es) σ M = (evEs G C es σ M).bind fun vs M1 => if vs.length ≤ lim then .ok (.ref M1.length) (M1 ++ [.box vs]) else .no := id rfl
@[simp] theorem x_new {e : ME} : evE G C (.new e) σ M = (evE G C e σ M).bind fun v M1 => match v with
  | .d (.list xs) => .ok (.ref M1.length) (M1 ++ [.lst xs])
  | _ => .no := id rfl
@[simp] theorem x_bin {o : BOp} {a b : ME} : evE G C (.bin o a b) σ M = (evE G C a σ M).bind fun v M1 => (evE G C b σ M1).bind fun w M2 => match rdV M2 v, rdV M2 w with
  | some x, some y => (ofO (binD o x y) M2).bind fun z M3 => .ok (.d z) M3
  | _, _ => .no := id rfl
@[simp] theorem x_neg {a : ME} : evE G C (.neg a) σ M = (evE G C a σ M).bind fun v M1 => match v with
  | .d (.int i) => .ok (.d (.int (-i))) M1
  | _ => .no := id rfl
@[simp] theorem x_cmp {o : COp} {a b : ME} : evE G C (.cmp o a b) σ M = (evE G C a σ M).bind fun v M1 => (evE G C b σ M1).bind fun w M2 => (ofO (cmpV M2 o v w) M2).bind fun b M3 => .ok (.d (.bool b)) M3 := id rfl
@[simp] theorem x_chn {o p : COp} {a b c : ME} : evE G C (.chn o p a b c) σ M = (evE G C a σ M).bind fun v M1 => (evE G C b σ M1).bind fun w M2 => (ofO (cmpV M2 o v w) M2).bind fun b M3 =>
  if b then (evE G C c σ M3).bind fun u M4 => (ofO (cmpV M4 p w u) M4).bind fun c M5 => .ok (.d (.bool c)) M5 else .ok (.d (.bool false)) M3 := id rfl
@[simp] theorem x_and {a b : ME} : evE G C (.and a b) σ M = (evE G C a σ M).bind fun v M1 => (ofO (truV M1 v) M1).bind fun t M2 => if t then evE G C b σ M2 else .ok v M2 := id rfl
@[simp] theorem x_or {a b : ME} : evE G C (.or a b) σ M = (evE G C a σ M).bind fun v M1 => (ofO (truV M1 v) M1).bind fun t M2 => if t then .ok v M2 else evE G C b σ M2 := id rfl
@[simp] theorem x_not {a : ME} : evE G C (.not a) σ M = (evE G C a σ M).bind fun v M1 => (ofO (truV M1 v) M1).bind fun t M2 => .ok (.d (.bool (!t))) M2 := id rfl
@[simp] theorem x_ife {c a b : ME} : evE G C (.ife c a b) σ M = (evE G C c σ M).bind fun v M1 => (ofO (truV M1 v) M1).bind fun t M2 => if t then evE G C a σ M2 else evE G C b σ M2 := id rfl
@[simp] theorem x_idx {a b : ME} : evE G C (.idx a b) σ M = (evE G C a σ M).bind fun v M1 => (evE G C b σ M1).bind fun w M2 => ofO (idxV M2 v w) M2 := id rfl
@[simp] theorem x_non : evO G C .non σ M = .ok none M := id rfl
@[simp] theorem x_som {e : ME} : evO G C (.som e) σ M = (evE G C e σ M).bind fun v M1 => match v with
  | .d (.int i) => .ok (some i) M1
  | _ => .no := id rfl
@[simp] theorem x_slc {a : ME} {lo hi : MO} : evE G C (.slc a lo hi) σ M = (evE G C a σ M).bind fun v M1 => (evO G C lo σ M1).bind fun l M2 => (evO G C hi σ M2).bind fun h M3 => match rdS M3 v with
  | some x => (ofO (cutD x l h) M3).bind fun z M4 => .ok (.d z) M4
  | none => .no := id rfl
@[simp] theorem x_rev {a : ME} : evE G C (.rev a) σ M = (evE G C a σ M).bind fun v M1 => match rdV M1 v with
  | some x => (ofO (revD x) M1).bind fun z M2 => .ok (.d z) M2
  | none => .no := id rfl
@[simp] theorem x_call {k : Nat} {es : MEs} : evE G C (.call k es) σ M = (evEs G C es σ M).bind fun vs M1 => C k vs M1 := id rfl
@[simp] theorem x_callk {k : Nat} {es ks : MEs} {p : List Nat} : evE G C (.callk k es ks p) σ M = (evEs G C es σ M).bind fun vs M1 => (evEs G C ks σ M1).bind fun ws M2 => match permV (vs ++ ws) p with
  | some us => C k us M2
  | none => .no := id rfl
@[simp] theorem x_bi {b : BI} {es : MEs} : evE G C (.bi b es) σ M = (evEs G C es σ M).bind fun vs M1 => (ofO (biV b M1 vs) M1).bind fun z M2 => .ok (.d z) M2 := id rfl
@[simp] theorem x_isi {a : ME} {t : TK} : evE G C (.isi a t) σ M = (evE G C a σ M).bind fun v M1 => match v with
  | .d x => .ok (.d (.bool (isD t x))) M1
  | _ => .no := id rfl
@[simp] theorem x_mt {m : MT} {o : ME} {es : MEs} : evE G C (.mt m o es) σ M = (evE G C o σ M).bind fun v M1 => if kindM m M1 v then (evEs G C es σ M1).bind fun vs M2 => match mtV m M2 v vs with
  | some (z, M3) => .ok z M3
  | none => .no else .no := id rfl
@[simp] theorem x_dnw {t : Bool} : evE G C (.dnw t) σ M = .ok (.ref M.length) (M ++ [if t then .dT [] else .dK []]) := id rfl
@[simp] theorem x_ddsp {a b : ME} : evE G C (.ddsp a b) σ M = (evE G C a σ M).bind fun v M1 => (evE G C b σ M1).bind fun w M2 => match v, w with
  | .d x, .d y => match nkT x with
    | some ks => .ok (.ref M2.length) (M2 ++ [.dT [(ks, y)]])
    | none => .no
  | _, _ => .no := id rfl
@[simp] theorem x_dcp {es : MEs} : evE G C (.dcp es) σ M = (evEs G C es σ M).bind fun vs M1 => match vPairs vs with
  | some kvs => .ok (.ref M1.length) (M1 ++ [.dK (dAll kvs)])
  | none => .no := id rfl
@[simp] theorem x_lc {own : List Nat} {tg : Tg} {it : MI} {ifs : MEs} {e : ME} : evE G C (.lc own tg it ifs e) σ M = (evI G C it σ M).bind fun xs M1 => match lcL tg own (evC G C ifs) (evE G C e) σ xs M1 with
  | .ok ys M2 => if ys.length ≤ lim then .ok (.d (.list ys)) M2 else .no
  | _ => .no := id rfl
@[simp] theorem x_ov {e : ME} : evI G C (.ov e) σ M = (evE G C e σ M).bind fun v M1 => match v with
  | .d (.list xs) => .ok xs M1
  | .d (.tuple xs) => .ok xs M1
  | _ => .no := id rfl
@[simp] theorem x_rg1 {e : ME} : evI G C (.rg1 e) σ M = (evE G C e σ M).bind fun v M1 => match v with
  | .d (.int n) => if rngOk 0 n then .ok (rngD 0 n) M1 else .no
  | _ => .no := id rfl
@[simp] theorem x_rg2 {a b : ME} : evI G C (.rg2 a b) σ M = (evE G C a σ M).bind fun v M1 => (evE G C b σ M1).bind fun w M2 => match v, w with
  | .d (.int a), .d (.int b) => if rngOk a b then .ok (rngD a b) M2 else .no
  | _, _ => .no := id rfl
@[simp] theorem x_enm {e : ME} : evI G C (.enm e) σ M = (evE G C e σ M).bind fun v M1 => match v with
  | .d (.list xs) => .ok (enmL xs 0) M1
  | .d (.tuple xs) => .ok (enmL xs 0) M1
  | _ => .no := id rfl
-- statements
@[simp] theorem x_snil : evSs G C .nil σ M = .ok (.nx σ) M := id rfl
def sqK (g : SS) : Fl → Mem → Res Fl
  | .nx σ1, M1 => g σ1 M1
  | .rt v, M1 => .ok (.rt v) M1
  | .bk σ1, M1 => .ok (.bk σ1) M1
  | .ct σ1, M1 => .ok (.ct σ1) M1
@[simp] theorem x_scons {s : MS} {ss : MSs} : evSs G C (.cons s ss) σ M = (evS G C s σ M).bind (sqK (evSs G C ss)) := by
  show (evS G C s σ M).bind _ = _
  congr 1
  funext fl M1
  cases fl <;> rfl
@[simp] theorem x_sqn {g : SS} : sqK g (.nx σ) M = g σ M := id rfl
@[simp] theorem x_sqr {g : SS} {w : Val} : sqK g (.rt w) M = .ok (.rt w) M := id rfl
@[simp] theorem x_sqb {g : SS} : sqK g (.bk σ) M = .ok (.bk σ) M := id rfl
@[simp] theorem x_sqc {g : SS} : sqK g (.ct σ) M = .ok (.ct σ) M := id rfl
@[simp] theorem x_set {i : Nat} {e : ME} : evS G C (.set i e) σ M = (evE G C e σ M).bind fun v M1 => .ok (.nx (σ.set i (some v))) M1 := id rfl
@[simp] theorem x_asg {tg : Tg} {e : ME} : evS G C (.asg tg e) σ M = (evE G C e σ M).bind fun v M1 => match v with
  | .d x => (ofO (asgT tg x σ) M1).bind fun σ1 M2 => .ok (.nx σ1) M2
  | _ => .no := id rfl
@[simp] theorem x_par2 {i j : Nat} {a b : ME} : evS G C (.par2 i j a b) σ M = (evE G C a σ M).bind fun v M1 => (evE G C b σ M1).bind fun w M2 => .ok (.nx ((σ.set i (some v)).set j (some w))) M2 := id rfl
@[simp] theorem x_setI {o i e : ME} : evS G C (.setI o i e) σ M = (evE G C e σ M).bind fun v M1 => (evE G C o σ M1).bind fun o M2 => (evE G C i σ M2).bind fun w M3 => match setV M3 o w v with
  | some M4 => .ok (.nx σ) M4
  | none => .no := id rfl
@[simp] theorem x_aug {i : Nat} {o : BOp} {e : ME} : evS G C (.aug i o e) σ M = match getE σ i with
  | some (.d (.int x)) => (evE G C e σ M).bind fun v M1 => match o, v with
    | .add, .d (.int y) => .ok (.nx (σ.set i (some (.d (.int (x + y)))))) M1
    | .sub, .d (.int y) => .ok (.nx (σ.set i (some (.d (.int (x - y)))))) M1
    | _, _ => .no
  | _ => .no := id rfl
@[simp] theorem x_exp {e : ME} : evS G C (.exp e) σ M = (evE G C e σ M).bind fun _ M1 => .ok (.nx σ) M1 := id rfl
@[simp] theorem x_ret {e : ME} : evS G C (.ret e) σ M = (evE G C e σ M).bind fun v M1 => .ok (.rt v) M1 := id rfl
@[simp] theorem x_retn : evS G C .retn σ M = .ok (.rt (.d .none)) M := id rfl
@[simp] theorem x_iff {e : ME} {a b : MSs} : evS G C (.iff e a b) σ M = (evE G C e σ M).bind fun v M1 => (ofO (truV M1 v) M1).bind fun t M2 => if t then evSs G C a σ M2 else evSs G C b σ M2 := id rfl
@[simp] theorem x_forr {tg : Tg} {it : MI} {b : MSs} : evS G C (.forr tg it b) σ M = (evI G C it σ M).bind fun xs M1 => forL tg (evSs G C b) xs σ M1 := id rfl
@[simp] theorem x_whil {e : ME} {b : MSs} : evS G C (.whil e b) σ M = whL (evE G C e) (evSs G C b) wfuel σ M := id rfl
@[simp] theorem x_brk : evS G C .brk σ M = .ok (.bk σ) M := id rfl
@[simp] theorem x_ctn : evS G C .ctn σ M = .ok (.ct σ) M := id rfl
@[simp] theorem x_pas : evS G C .pas σ M = .ok (.nx σ) M := id rfl
@[simp] theorem x_frz {i : Nat} : evS G C (.frz i) σ M = match getE σ i with
  | some (.ref j) => match M[j]? with
    | some (.lst xs) => .ok (.nx (σ.set i (some (.d (.list xs))))) (M.set j .dead)
    | _ => .no
  | _ => .no := id rfl
-- values
@[simp] theorem x_gete0 {v : Val} {σ : Env} : getE (some v :: σ) 0 = some v := id rfl
@[simp] theorem x_getes {o : Option Val} {i : Nat} {σ : Env} : getE (o :: σ) (i + 1) = getE σ i := id rfl
@[simp] theorem x_toDs0 : toDs [] = some [] := id rfl
@[simp] theorem x_toDs {x : D} {r : List Val} : toDs (.d x :: r) = (toDs r).map (x :: ·) := id rfl
@[simp] theorem x_rdd {x : D} : rdV M (.d x) = some x := id rfl
theorem x_rdr {i : Nat} {xs : List D} (h : M[i]? = some (.lst xs)) : rdV M (.ref i) = some (.list xs) := by simp [rdV, h]
theorem x_rdr_dT {i : Nat} {xs : List (NestedKey × D)} (h : M[i]? = some (.dT xs)) : rdV M (.ref i) = none := by simp [rdV, h]
@[simp] theorem x_rsd {x : D} : rdS M (.d x) = some x := id rfl
@[simp] theorem x_rdVs0 : rdVs M [] = some [] := id rfl
@[simp] theorem x_rdVs1 {x : D} : rdVs M [.d x] = some [x] := id rfl
@[simp] theorem x_rdVs2 {x y : D} : rdVs M [.d x, .d y] = some [x, y] := id rfl
@[simp] theorem x_trud {x : D} : truV M (.d x) = truD x := id rfl
@[simp] theorem x_trub {b : Bool} : truD (.bool b) = some b := id rfl
@[simp] theorem x_trui {i : Int} : truD (.int i) = some (i != 0) := id rfl
@[simp] theorem x_trun : truD .none = some false := id rfl
@[simp] theorem x_trut {xs : List D} : truD (.tuple xs) = some (!xs.isEmpty) := id rfl
@[simp] theorem x_trul {xs : List D} : truD (.list xs) = some (!xs.isEmpty) := id rfl
theorem x_trur {i : Nat} {xs : List D} (h : M[i]? = some (.lst xs)) : truV M (.ref i) = some (!xs.isEmpty) := by simp [truV, rdV, h]
@[simp] theorem x_cmpd {o : COp} {x y : D} : cmpV M o (.d x) (.d y) = cmpD o x y := id rfl
theorem x_cmpr {o : COp} {x : D} {i : Nat} {xs : List D} (h : M[i]? = some (.lst xs)) : cmpV M o (.d x) (.ref i) = cmpD o x (.list xs) := by simp [cmpV, rdV, h]
@[simp] theorem x_eqi {a b : Int} : cmpD .eq (.int a) (.int b) = some (decide (a = b)) := by
  have h : eqD (.int a) (.int b) = some (a == b) := id rfl
  show eqD (.int a) (.int b) = _
  rw [h]
  by_cases e : a = b <;> simp [e]
@[simp] theorem x_lti {a b : Int} : cmpD .lt (.int a) (.int b) = some (decide (a < b)) := id rfl
@[simp] theorem x_lei {a b : Int} : cmpD .le (.int a) (.int b) = some (decide (a ≤ b)) := id rfl
@[simp] theorem x_gti {a b : Int} : cmpD .gt (.int a) (.int b) = some (decide (b < a)) := id rfl
@[simp] theorem x_gei {a b : Int} : cmpD .ge (.int a) (.int b) = some (decide (b ≤ a)) := id rfl
@[simp] theorem x_ine {x y : D} : cmpD .ne x y = (eqD x y).map not := id rfl
@[simp] theorem x_addi {a b : Int} : binD .add (.int a) (.int b) = some (.int (a + b)) := id rfl
@[simp] theorem x_subi {a b : Int} : binD .sub (.int a) (.int b) = some (.int (a - b)) := id rfl
@[simp] theorem x_muli {a b : Int} : binD .mul (.int a) (.int b) = if mulOk a b then some (.int (a * b)) else none := id rfl
@[simp] theorem x_modi {a b : Int} : binD .mod (.int a) (.int b) = if 0 < b then some (.int (a % b)) else none := id rfl
@[simp] theorem x_divi {a b : Int} : binD .fdiv (.int a) (.int b) = if decide (0 < b) && small b then some (.int (a / b)) else none := id rfl
@[simp] theorem x_powi {a b : Int} : binD .pow (.int a) (.int b) = if decide (0 ≤ b) && (decide (b ≤ 1000000) && decide (a.natAbs < 2 ^ 64) || decide (b ≤ 1000) && decide (a.natAbs < 2 ^ 250)) then some (.int (a ^ b.toNat)) else none := id rfl
@[simp] theorem x_shli {a b : Int} : binD .shl (.int a) (.int b) = if decide (0 ≤ b) && decide (b ≤ 1000000) && decide (a.natAbs < 2 ^ 64) then some (.int (a * 2 ^ b.toNat)) else none := id rfl
@[simp] theorem x_addt {a b : List D} : binD .add (.tuple a) (.tuple b) = if a.length + b.length ≤ lim then some (.tuple (a ++ b)) else none := id rfl
@[simp] theorem x_addl {a b : List D} : binD .add (.list a) (.list b) = if a.length + b.length ≤ lim then some (.list (a ++ b)) else none := id rfl
@[simp] theorem x_ixt {xs : List D} {i : Int} : idxV M (.d (.tuple xs)) (.d (.int i)) = (L2.atI xs i).map .d := id rfl
@[simp] theorem x_ixl {xs : List D} {i : Int} : idxV M (.d (.list xs)) (.d (.int i)) = (L2.atI xs i).map .d := id rfl
theorem x_ixb {j : Nat} {xs : List Val} {i : Int} (h : M[j]? = some (.box xs)) : idxV M (.ref j) (.d (.int i)) = L2.atI xs i := by simp [idxV, h]
theorem x_ixr {j : Nat} {xs : List D} {i : Int} (h : M[j]? = some (.lst xs)) : idxV M (.ref j) (.d (.int i)) = (L2.atI xs i).map .d := by simp [idxV, h]
@[simp] theorem x_lenl {xs : List D} : lenV M (.d (.list xs)) = some xs.length := id rfl
@[simp] theorem x_lent {xs : List D} : lenV M (.d (.tuple xs)) = some xs.length := id rfl
theorem x_lenr {j : Nat} {xs : List D} (h : M[j]? = some (.lst xs)) : lenV M (.ref j) = some xs.length := by simp [lenV, h]
@[simp] theorem x_blen {v : Val} : biV .len M [v] = (lenV M v).map .int := id rfl
@[simp] theorem x_babs {i : Int} : biV .abs M [.d (.int i)] = some (.int (if i < 0 then -i else i)) := id rfl
@[simp] theorem x_binti {i : Int} : biV .int M [.d (.int i)] = some (.int i) := id rfl
@[simp] theorem x_bintb {b : Bool} : biV .int M [.d (.bool b)] = some (.int (if b then 1 else 0)) := id rfl
@[simp] theorem x_btupl {xs : List D} : biV .tuple M [.d (.list xs)] = some (.tuple xs) := id rfl
@[simp] theorem x_btupt {xs : List D} : biV .tuple M [.d (.tuple xs)] = some (.tuple xs) := id rfl
@[simp] theorem x_blisl {xs : List D} : biV .list M [.d (.list xs)] = some (.list xs) := id rfl
@[simp] theorem x_blist {xs : List D} : biV .list M [.d (.tuple xs)] = some (.list xs) := id rfl
theorem x_btupr {j : Nat} {xs : List D} (h : M[j]? = some (.lst xs)) : biV .tuple M [.ref j] = some (.tuple xs) := by simp [biV, biR, rdVs, rdV, h, biD, d1, dSeq]
@[simp] theorem x_brt {n : Int} : biV .rngT M [.d (.int n)] = if rngOk 0 n then some (.tuple (rngD 0 n)) else none := id rfl
@[simp] theorem x_brl {n : Int} : biV .rngL M [.d (.int n)] = if rngOk 0 n then some (.list (rngD 0 n)) else none := id rfl
@[simp] theorem x_bsl {xs : List D} : biV .sorted M [.d (.list xs)] = (sortD xs).map .list := id rfl
@[simp] theorem x_bst {xs : List D} : biV .sorted M [.d (.tuple xs)] = (sortD xs).map .list := id rfl
theorem x_bsr {j : Nat} {xs : List D} (h : M[j]? = some (.lst xs)) : biV .sorted M [.ref j] = (sortD xs).map .list := by simp [biV, rdVs, rdV, h, biD, d1, dSeq]
theorem x_bsd {j : Nat} {xs : List (NestedKey × D)} (h : M[j]? = some (.dT xs)) : biV .sorted M [.ref j] = (sortD (xs.map fun kv => kv.1.data)).map .list := by simp [biV, rdVs, rdV, h, v1, keysSorted]
end
@[simp] theorem x_mull {n : Int} {xs : List D} : binD .mul (.list xs) (.int n) = if decide (-(2 ^ 63) ≤ n) && decide (n < 2 ^ 63) && decide (xs.length * n.toNat ≤ lim) then some (.list (List.replicate n.toNat xs).flatten) else none := id rfl
/-- a call, one level down -/
theorem call_is {G : Nat → Option D} {T : List Fn} {j : Nat} {f : Fn} (hf : T[j]? = some f) (m : Nat) (us : List Val) (M : Mem) : callAt G T (m + 1) j us M = runFn G (callAt G T m) f us M := by
  show (match T[j]? with | some fn => runFn G (callAt G T m) fn us M | none => .no) = _
  rw [hf]
end Mp
end
section
set_option maxHeartbeats 4000000
/-! Tuples of whole numbers as data; loops in plain words. -/
namespace Mp
open PySem PySem.Spec PyProof.Rows L2 Mp

@[simp] theorem x_eqdi {a b : Int} : eqD (.int a) (.int b) = some (decide (a = b)) := x_eqi
/-! ### memory -/
section
variable {M : Mem} {i : Nat} {xs : List D} {ys : List Val} {kvs : List (NestedKey × D)}
theorem x_kind {m : MT} (hm : m ≠ .index) (hm2 : m ≠ .indexT) (h : M[i]? = some (.lst xs)) : kindM m M (.ref i) = true := by
  have e : isRL M (.ref i) = true := by simp [isRL, h]
  cases m <;> first | exact e | exact absurd rfl hm | exact absurd rfl hm2
theorem x_kindT {x : List D} : kindM .indexT M (.d (.tuple x)) = true := rfl
theorem x_app {x : D} (h : M[i]? = some (.lst xs)) : mtV .append M (.ref i) [.d x] = if xs.length < lim then some (.d .none, M.set i (.lst (xs ++ [x]))) else none := by
  by_cases hl : xs.length < lim <;> simp [mtV, onL, h, v1, vD, oB, hl]
theorem x_pop0 (h : M[i]? = some (.lst xs)) : mtV .pop0 M (.ref i) [] = xs[xs.length - 1]?.map fun y => (.d y, M.set i (.lst xs.dropLast)) := by
  simp [mtV, onL, h, v0]
theorem x_popAt {j : Int} (h : M[i]? = some (.lst xs)) : mtV .popAt M (.ref i) [.d (.int j)] = popA M i xs j := by
  simp [mtV, onL, h, v1, vD, dInt]
theorem x_ins {j : Int} {x : D} (h : M[i]? = some (.lst xs)) : mtV .insert M (.ref i) [.d (.int j), .d x] = if 0 ≤ j ∧ j ≤ xs.length ∧ xs.length < lim then some (.d .none, M.set i (.lst (xs.take j.toNat ++ [x] ++ xs.drop j.toNat))) else none := by
  by_cases hl : 0 ≤ j ∧ j ≤ xs.length ∧ xs.length < lim
  · simp only [mtV, onL, h, v2, v1, vD, dInt]
    rw [decide_eq_true hl, if_pos hl]
    rfl
  · simp only [mtV, onL, h, v2, v1, vD, dInt]
    rw [decide_eq_false hl, if_neg hl]
    rfl
theorem popA_ok {j : Int} {n : Nat} {y : D} (h1 : -(2 ^ 63) ≤ j) (h2 : j < 2 ^ 63) (hn : seqIndex? j xs.length = some n) (hy : xs[n]? = some y) : popA M i xs j = some (.d y, M.set i (.lst (xs.eraseIdx n))) := by
  unfold popA
  rw [show (decide (-(2 ^ 63) ≤ j ∧ j < 2 ^ 63)) = true from decide_eq_true ⟨h1, h2⟩]
  simp [oB, hn, hy]
theorem x_setb {k : Int} {v : Val} (h : M[i]? = some (.box ys)) : setV M (.ref i) (.d (.int k)) v = if okRef i v then (L2.ixN ys.length k).map fun n => M.set i (.box (ys.set n v)) else none := by
  by_cases hv : okRef i v = true <;> simp [setV, h, hv]
theorem x_sett {x y : D} {q : NestedKey} (h : M[i]? = some (.dT kvs)) (hq : nkT x = some q) : setV M (.ref i) (.d x) (.d y) = if kvs.length < lim then some (M.set i (.dT (dPut kvs q y))) else none := by
  by_cases hl : kvs.length < lim <;> simp [setV, h, hq, hl]
theorem x_notin_dT {x : D} {q : NestedKey} (h : M[i]? = some (.dT kvs)) (hq : nkT x = some q) : cmpV M .notin (.d x) (.ref i) = some (!(dGet kvs q).isSome) := by
  simp [cmpV, rdV, h, inDict, hq]
end

/-! ### loops -/
theorem lcL_map {tg : Tg} {own : List Nat} {f : SF} {σ : Env} {M : Mem} {y : D → D} : ∀ {xs : List D}, (∀ x ∈ xs, ∃ σ1, asgT tg x (wipeE σ own) = some σ1 ∧ f σ1 M = .ok (.d (y x)) M) → lcL tg own none f σ xs M = .ok (xs.map y) M
  | [], _ => rfl
  | x :: xs, h => by
    obtain ⟨σ1, h1, h2⟩ := h x List.mem_cons_self
    have ih := lcL_map (xs := xs) fun z hz => h z (List.mem_cons_of_mem _ hz)
    unfold lcL
    rw [h1]
    simp only [sTst, x_bok, h2, ih, if_pos, List.map_cons]
theorem lcL_fil {tg : Tg} {own : List Nat} {c f : SF} {σ : Env} {M : Mem} {p : D → Bool} {y : D → D} : ∀ {xs : List D}, (∀ x ∈ xs, ∃ σ1, asgT tg x (wipeE σ own) = some σ1 ∧ sTst (some c) σ1 M = .ok (p x) M ∧ (p x = true → f σ1 M = .ok (.d (y x)) M)) → lcL tg own (some c) f σ xs M = .ok ((xs.filter p).map y) M
  | [], _ => rfl
  | x :: xs, h => by
    obtain ⟨σ1, h1, h2, h3⟩ := h x List.mem_cons_self
    have ih := lcL_fil (xs := xs) fun z hz => h z (List.mem_cons_of_mem _ hz)
    unfold lcL
    rw [h1]
    dsimp only
    rw [h2, x_bok]
    cases hp : p x with
    | true => rw [if_pos rfl, h3 hp, x_bok]; dsimp only; rw [ih, x_bok, List.filter_cons_of_pos hp, List.map_cons]
    | false => rw [if_neg Bool.false_ne_true, ih, List.filter_cons_of_neg (by rw [hp]; exact Bool.false_ne_true)]
/-- a comprehension whose items draw: the memory moves among those of P -/
theorem lcL_inv {tg : Tg} {own : List Nat} {f : SF} {σ : Env} (P : Nat → List D → Mem → Prop) : ∀ {xs : List D} {n : Nat} {acc : List D} {M : Mem}, P n acc M → (∀ (i : Nat) (x : D) (acc : List D) (M : Mem), xs[i]? = some x → P (n + i) acc M → ∃ σ1 y M2, asgT tg x (wipeE σ own) = some σ1 ∧ f σ1 M = .ok (.d y) M2 ∧ P (n + i + 1) (acc ++ [y]) M2) →
    ∃ ys M', lcL tg own none f σ xs M = .ok ys M' ∧ P (n + xs.length) (acc ++ ys) M'
  | [], n, acc, M, h0, _ => ⟨[], M, rfl, by simpa using h0⟩
  | x :: xs, n, acc, M, h0, hs => by
    obtain ⟨σ1, y, M2, h1, h2, h3⟩ := hs 0 x acc M rfl h0
    obtain ⟨ys, M', h4, h5⟩ := lcL_inv P (xs := xs) (n := n + 1) (acc := acc ++ [y]) (M := M2) h3 fun i z a M hz hp => by
      have := hs (i + 1) z a M (by simpa using hz) (by rw [show n + (i + 1) = n + 1 + i by omega]; exact hp)
      rw [show n + (i + 1) + 1 = n + 1 + i + 1 by omega] at this
      exact this
    refine ⟨y :: ys, M', ?_, ?_⟩
    · unfold lcL
      rw [h1]
      simp only [sTst, x_bok, h2, h4, if_pos]
    · rw [show n + (x :: xs).length = n + 1 + xs.length by simp; omega]
      simpa using h5
/-- a loop; it may return -/
theorem forL_inv {tg : Tg} {b : SS} (P : Nat → Env → Mem → Prop) (Q : Val → Mem → Prop) : ∀ {xs : List D} {n : Nat} {σ : Env} {M : Mem}, P n σ M →
    (∀ (i : Nat) (x : D) (σ : Env) (M : Mem), xs[i]? = some x → P (n + i) σ M → ∃ σ1, asgT tg x σ = some σ1 ∧ ((∃ σ2 M2, b σ1 M = .ok (.nx σ2) M2 ∧ P (n + i + 1) σ2 M2) ∨ ∃ v M2, b σ1 M = .ok (.rt v) M2 ∧ Q v M2)) →
    (∃ σ' M', forL tg b xs σ M = .ok (.nx σ') M' ∧ P (n + xs.length) σ' M') ∨ ∃ v M', forL tg b xs σ M = .ok (.rt v) M' ∧ Q v M'
  | [], n, σ, M, h0, _ => .inl ⟨σ, M, rfl, h0⟩
  | x :: xs, n, σ, M, h0, hs => by
    obtain ⟨σ1, h1, h2⟩ := hs 0 x σ M rfl h0
    rcases h2 with ⟨σ2, M2, h2, h3⟩ | ⟨v, M2, h2, h3⟩
    · have ih := forL_inv P Q (xs := xs) (n := n + 1) (σ := σ2) (M := M2) h3 fun i z σ M hz hp => by
        have := hs (i + 1) z σ M (by simpa using hz) (by rw [show n + (i + 1) = n + 1 + i by omega]; exact hp)
        rw [show n + (i + 1) + 1 = n + 1 + i + 1 by omega] at this
        exact this
      have e : forL tg b (x :: xs) σ M = forL tg b xs σ2 M2 := by
        unfold forL
        rw [h1]
        simp only [h2, x_bok]
        cases xs <;> rfl
      rw [e, show n + (x :: xs).length = n + 1 + xs.length by simp; omega]
      exact ih
    · refine .inr ⟨v, M2, ?_, h3⟩
      unfold forL
      rw [h1]
      simp only [h2, x_bok]

/-! ### tuples of whole numbers -/
def iT (p : List Int) : D := .tuple (p.map .int)
theorem eqvAll_ints : ∀ p q : List Int, PyData.eqvAll (p.map .int) (q.map .int) = decide (p = q)
  | [], [] => rfl
  | [], _ :: _ => rfl
  | _ :: _, [] => rfl
  | a :: p, b :: q => by
    show ((a == b) && PyData.eqvAll (p.map .int) (q.map .int)) = _
    rw [eqvAll_ints p q]
    by_cases e : a = b <;> by_cases e2 : p = q <;> simp [e, e2]
theorem eqv_iT (p q : List Int) : PyData.eqv (iT p) (iT q) = decide (p = q) := eqvAll_ints p q
theorem eqvAll_iT : ∀ ps qs : List (List Int), PyData.eqvAll (ps.map iT) (qs.map iT) = decide (ps = qs)
  | [], [] => rfl
  | [], _ :: _ => rfl
  | _ :: _, [] => rfl
  | a :: p, b :: q => by
    show (PyData.eqv (iT a) (iT b) && PyData.eqvAll (p.map iT) (q.map iT)) = _
    rw [eqvAll_iT p q, eqv_iT]
    by_cases e : a = b <;> by_cases e2 : p = q <;> simp [e, e2]
theorem canLay_ints : ∀ p : List Int, PyData.canLayAll0 (p.map .int) = true
  | [] => rfl
  | a :: p => by
    show ((PyData.int a).canLay0 && PyData.canLayAll0 (p.map .int)) = true
    rw [canLay_ints p]
    rfl
theorem depth_ints : ∀ p : List Int, PyData.depthAll (p.map .int) = 0
  | [] => rfl
  | a :: p => by
    show max (PyData.int a).depth (PyData.depthAll (p.map .int)) = 0
    rw [depth_ints p]
    rfl
theorem canLay_iTs : ∀ ps : List (List Int), PyData.canLayAll0 (ps.map iT) = true
  | [] => rfl
  | a :: p => by
    show (PyData.canLayAll0 (a.map .int) && PyData.canLayAll0 (p.map iT)) = true
    rw [canLay_iTs p, canLay_ints]
    rfl
theorem depth_iT (p : List Int) : (iT p).depth = 1 := by
  show PyData.depthAll (p.map .int) + 1 = 1
  rw [depth_ints]
theorem depth_iTs : ∀ ps : List (List Int), PyData.depthAll (ps.map iT) ≤ 1
  | [] => Nat.zero_le _
  | a :: p => by
    show max (iT a).depth (PyData.depthAll (p.map iT)) ≤ 1
    have := depth_iTs p
    rw [depth_iT]
    omega
theorem shaped_iT (p : List Int) : SeqAt.shaped (iT p) = true := by
  show (PyData.canLayAll0 (p.map .int) && decide ((iT p).depth ≤ 64)) = true
  rw [canLay_ints, depth_iT]
  rfl
theorem shaped_ints (p : List Int) : SeqAt.shaped (.list (p.map .int)) = true := by
  show (PyData.canLayAll0 (p.map .int) && decide (PyData.depthAll (p.map .int) + 1 ≤ 64)) = true
  rw [canLay_ints, depth_ints]
  rfl
theorem shaped_iTs (ps : List (List Int)) : SeqAt.shaped (.list (ps.map iT)) = true := by
  show (PyData.canLayAll0 (ps.map iT) && decide (PyData.depthAll (ps.map iT) + 1 ≤ 64)) = true
  rw [canLay_iTs]
  have := depth_iTs ps
  exact decide_eq_true (by omega)
theorem shaped_iTt (ps : List (List Int)) : SeqAt.shaped (.tuple (ps.map iT)) = true := by
  show (PyData.canLayAll0 (ps.map iT) && decide (PyData.depthAll (ps.map iT) + 1 ≤ 64)) = true
  rw [canLay_iTs]
  have := depth_iTs ps
  exact decide_eq_true (by omega)
theorem any_iT (x : List Int) : ∀ ps : List (List Int), ((ps.map iT).any fun y => PyData.eqv y (iT x)) = decide (x ∈ ps)
  | [] => by simp
  | a :: p => by
    rw [List.map_cons, List.any_cons, any_iT x p, eqv_iT]
    by_cases e : a = x
    · simp [e]
    · have : ¬ x = a := fun h => e h.symm
      simp [e, this]
theorem in_iT (x : List Int) (ps : List (List Int)) : inD (iT x) (.list (ps.map iT)) = some (decide (x ∈ ps)) := by
  show (if (flatD (iT x) && _) || (SeqAt.shaped (iT x) && SeqAt.shaped (.list (ps.map iT))) then some _ else none) = _
  rw [shaped_iT, shaped_iTs, any_iT]
  simp
theorem any_int (x : Int) : ∀ p : List Int, ((p.map PyData.int).any fun y => PyData.eqv y (.int x)) = decide (x ∈ p)
  | [] => by simp
  | a :: p => by
    rw [List.map_cons, List.any_cons, any_int x p]
    show ((a == x) || _) = _
    by_cases e : a = x
    · simp [e]
    · have : ¬ x = a := fun h => e h.symm
      simp [e, this]
theorem flat_ints (p : List Int) : (p.map PyData.int).all flatD = true := by
  rw [List.all_map]
  exact List.all_eq_true.mpr fun _ _ => rfl
theorem in_int (x : Int) (p : List Int) : inD (.int x) (.tuple (p.map .int)) = some (decide (x ∈ p)) := by
  show (if flatD (.int x) && (p.map PyData.int).all flatD then some _ else none) = _
  rw [flat_ints, any_int]
  simp [flatD]
theorem eqD_iT (p q : List Int) : eqD (iT p) (iT q) = some (decide (p = q)) := by
  unfold eqD
  rw [shaped_iT, shaped_iT, eqv_iT]
  rfl
theorem eqD_iTt (ps qs : List (List Int)) : eqD (.tuple (ps.map iT)) (.tuple (qs.map iT)) = some (decide (ps = qs)) := by
  unfold eqD
  rw [shaped_iTt, shaped_iTt]
  show some (PyData.eqvAll (ps.map iT) (qs.map iT)) = _
  rw [eqvAll_iT]
theorem eqD_ints (p q : List Int) : eqD (.list (p.map .int)) (.list (q.map .int)) = some (decide (p = q)) := by
  unfold eqD
  rw [shaped_ints, shaped_ints]
  show some (PyData.eqvAll (p.map .int) (q.map .int)) = _
  rw [eqvAll_ints]
theorem intsOf_ints : ∀ p : List Int, intsOf (p.map .int) = some p
  | [] => rfl
  | a :: p => by
    show (intsOf (p.map .int)).map (a :: ·) = _
    rw [intsOf_ints p]
    rfl
theorem lexLt_lt : ∀ p q : List Int, HT.lexLt p q = decide (p < q)
  | [], [] => by simp [HT.lexLt_nil_nil]
  | [], _ :: _ => by simp [HT.lexLt_nil_cons]
  | _ :: _, [] => by simp [HT.lexLt_cons_nil]
  | a :: p, b :: q => by
    rw [HT.lexLt_cons, lexLt_lt p q]
    by_cases e : a = b <;> simp [e, List.cons_lt_cons_iff]
theorem lt_iT (p q : List Int) : cmpD .lt (iT p) (iT q) = some (decide (p < q)) := by
  show ltD (.tuple (p.map .int)) (.tuple (q.map .int)) = _
  unfold ltD
  dsimp only
  rw [intsOf_ints, intsOf_ints]
  dsimp only
  rw [lexLt_lt]
/-! ### sorting -/
def sortP (ps : List (List Int)) : List (List Int) := ps.mergeSort fun p q => decide (p ≤ q)
theorem dataLe_iT (p q : List Int) : PySem.W.dataLe false (fun x => x) (iT p) (iT q) = decide (p ≤ q) := by
  show (!PySem.W.dataLt (.tuple (q.map .int)) (.tuple (p.map .int))) = _
  rw [PySem.W.dataLt_tuple]
  show (!PySem.W.rowLt (q.map .int) (p.map .int)) = _
  rw [PySem.W.dataLt_ints]
  by_cases h : q < p
  · have h' : ¬ p ≤ q := fun r => List.not_lt.mpr r h
    simp [h, h']
  · have h' : p ≤ q := List.not_lt.mp h
    simp [h, h']
theorem alike_iT (p q : List Int) : PySem.W.alike (iT p) (iT q) = true := by
  show PySem.W.alikeAll (p.map .int) (q.map .int) = true
  exact PySem.W.alike_ints p q
theorem sortB_iT {ps : List (List Int)} (h : (∀ p ∈ ps, p ≠ []) ∨ ∀ p ∈ ps, p = []) : sortB (ps.map iT) = true := by
  unfold sortB
  rw [Bool.and_eq_true, Bool.and_eq_true]
  refine ⟨⟨?_, ?_⟩, ?_⟩
  · refine List.all_eq_true.mpr fun x hx => List.all_eq_true.mpr fun y hy => ?_
    obtain ⟨p, _, rfl⟩ := List.mem_map.mp hx
    obtain ⟨q, _, rfl⟩ := List.mem_map.mp hy
    exact alike_iT p q
  · rcases h with h | h
    · rw [Bool.or_eq_true, Bool.or_eq_true, Bool.or_eq_true]
      refine .inl (.inl (.inl (List.all_eq_true.mpr fun x hx => ?_)))
      obtain ⟨p, hp, rfl⟩ := List.mem_map.mp hx
      cases p with
      | nil => exact absurd rfl (h _ hp)
      | cons a p => rfl
    · rw [Bool.or_eq_true]
      refine .inr (List.all_eq_true.mpr fun x hx => ?_)
      obtain ⟨p, hp, rfl⟩ := List.mem_map.mp hx
      rw [h p hp]
      rfl
  · refine List.all_eq_true.mpr fun x hx => ?_
    obtain ⟨p, _, rfl⟩ := List.mem_map.mp hx
    rw [depth_iT]
    rfl
theorem sortD_iT {ps : List (List Int)} (h : (∀ p ∈ ps, p ≠ []) ∨ ∀ p ∈ ps, p = []) (hl : ps.length ≤ lim) : sortD (ps.map iT) = some ((sortP ps).map iT) := by
  unfold sortD
  rw [sortB_iT h, List.length_map, decide_eq_true hl]
  rw [Bool.and_self, if_pos rfl]
  congr 1
  exact (List.map_mergeSort fun a _ b _ => (dataLe_iT a b).symm).symm
theorem sortP_perm (ps : List (List Int)) : (sortP ps).Perm ps := List.mergeSort_perm _ _
theorem sortP_pw (ps : List (List Int)) : (sortP ps).Pairwise fun p q => p ≤ q := by
  have h := List.pairwise_mergeSort (le := fun p q : List Int => decide (p ≤ q)) (fun a b c h1 h2 => decide_eq_true (List.le_trans (of_decide_eq_true h1) (of_decide_eq_true h2)))
    (fun a b => by rcases List.le_total a b with h | h <;> simp [h]) ps
  exact h.imp fun h => of_decide_eq_true h
theorem sortP_eq {ps qs : List (List Int)} (h : ps.Perm qs) : sortP ps = sortP qs :=
  List.Perm.eq_of_pairwise (fun a b _ _ h1 h2 => List.le_antisymm h1 h2) (sortP_pw ps) (sortP_pw qs) (((sortP_perm ps).trans h).trans (sortP_perm qs).symm)
theorem sortP_id {ps : List (List Int)} (h : ps.Pairwise fun p q => p ≤ q) : sortP ps = ps :=
  List.Perm.eq_of_pairwise (fun a b _ _ h1 h2 => List.le_antisymm h1 h2) (sortP_pw ps) h (sortP_perm ps)
/-! ### keys -/
def kI (p : List Int) : NestedKey := .tup (p.map .num)
theorem nkDs_ints : ∀ p : List Int, nkDs (p.map .int) = some (p.map .num)
  | [] => rfl
  | a :: p => by
    show (match nkD (.int a), nkDs (p.map .int) with | some k, some ks => some (k :: ks) | _, _ => none) = _
    rw [nkDs_ints p]
    rfl
theorem kI_depth (p : List Int) : (kI p).depth ≤ 8 := by
  have key : ∀ p : List Int, NestedKey.depthAll (p.map .num) ≤ 1 := by
    intro p
    induction p with
    | nil => exact Nat.zero_le _
    | cons a p ih => simp [NestedKey.depthAll, NestedKey.depth] at *; omega
  have := key p
  show (NestedKey.tup (p.map .num)).depth ≤ 8
  simp [NestedKey.depth]
  omega
theorem nkT_iT (p : List Int) : nkT (iT p) = some (kI p) := by
  show (match nkDs (p.map .int) with | some ks => if (NestedKey.tup ks).depth ≤ 8 then some (NestedKey.tup ks) else none | none => none) = _
  rw [nkDs_ints]
  dsimp only
  exact if_pos (kI_depth p)
theorem kI_data (p : List Int) : (kI p).data = iT p := (nkT_data (nkT_iT p)).1
theorem map_int_inj : ∀ {p q : List Int}, p.map PyData.int = q.map PyData.int → p = q
  | [], [], _ => rfl
  | [], _ :: _, h => by cases h
  | _ :: _, [], h => by cases h
  | a :: p, b :: q, h => by
    rw [List.map_cons, List.map_cons] at h
    injection h with h1 h2
    injection h1 with h1
    rw [h1, map_int_inj h2]
theorem iT_inj {p q : List Int} (h : iT p = iT q) : p = q := by
  injection h with h
  exact map_int_inj h
theorem kI_inj {p q : List Int} (h : kI p = kI q) : p = q := iT_inj (by rw [← kI_data, ← kI_data, h])
end Mp
end
section
set_option maxHeartbeats 4000000
/-! Plain words for laws: loops, ranges, whole numbers sorted, dicts of whole numbers. -/
namespace Mp
open PySem PySem.Spec PyProof.Rows L2 Mp

def nthS : MSs → Nat → MS
  | .nil, _ => .pas
  | .cons s _, 0 => s
  | .cons _ ss, n + 1 => nthS ss n
def bodyOf : MS → MSs
  | .forr _ _ b => b
  | .whil _ b => b
  | .iff _ b _ => b
  | _ => .nil
theorem sqn {G : Nat → Option D} {C : CT} {s : MS} {ss : MSs} {σ σ' : Env} {M M' : Mem} (h : evS G C s σ M = .ok (.nx σ') M') : evSs G C (.cons s ss) σ M = evSs G C ss σ' M' := by
  rw [x_scons, h, x_bok, x_sqn]
theorem sqr {G : Nat → Option D} {C : CT} {s : MS} {ss : MSs} {σ : Env} {v : Val} {M M' : Mem} (h : evS G C s σ M = .ok (.rt v) M') : evSs G C (.cons s ss) σ M = .ok (.rt v) M' := by
  rw [x_scons, h, x_bok, x_sqr]
theorem sq1 {G : Nat → Option D} {C : CT} {s : MS} {ss : MSs} {σ : Env} {f : Fl} {M M' : Mem} (h : evS G C s σ M = .ok f M') : evSs G C (.cons s ss) σ M = sqK (evSs G C ss) f M' := by
  rw [x_scons, h, x_bok]
/-- 0, 1, .. -/
def rI (n : Nat) : List Int := (List.range n).map fun (i : Nat) => (i : Int)
theorem rI_len (n : Nat) : (rI n).length = n := by simp [rI]
theorem rngD_rI (n : Nat) : rngD 0 n = (rI n).map .int := by
  unfold rngD rI
  rw [List.map_map]
  simp
theorem rngOk_n {n : Nat} (h : n ≤ lim) : rngOk 0 n = true := by
  unfold rngOk lim at *
  exact decide_eq_true (by omega)
theorem mem_rI {n : Nat} {a : Int} : a ∈ rI n ↔ 0 ≤ a ∧ a < n := by
  unfold rI
  rw [List.mem_map]
  constructor
  · rintro ⟨i, hi, rfl⟩
    have := List.mem_range.mp hi
    omega
  · rintro ⟨h0, h1⟩
    exact ⟨a.toNat, List.mem_range.mpr (by omega), by omega⟩
theorem rI_get {n i : Nat} (h : i < n) : (rI n)[i]? = some (i : Int) := by
  unfold rI
  rw [List.getElem?_map, List.getElem?_range h]
  rfl
theorem rI_at {n i : Nat} {x : D} (h : ((rI n).map PyData.int)[i]? = some x) : i < n ∧ x = .int (i : Nat) := by
  have hi := (List.getElem?_eq_some_iff.mp h).1
  rw [List.length_map, rI_len] at hi
  rw [List.getElem?_map, rI_get hi] at h
  exact ⟨hi, (Option.some.inj h).symm⟩
/-- a loop «while» with a measure -/
theorem whL_inv {c : SF} {b : SS} (P : Nat → Env → Mem → Prop) (Q : Env → Mem → Prop) (hs : ∀ m σ M, P m σ M → ∃ v t, c σ M = .ok v M ∧ truV M v = some t ∧ ((t = false ∧ Q σ M) ∨ (t = true ∧ ∃ m' σ2 M2, m' < m ∧ b σ M = .ok (.nx σ2) M2 ∧ P m' σ2 M2))) :
    ∀ (m : Nat) (σ : Env) (M : Mem), P m σ M → ∀ fuel, m < fuel → ∃ σ' M', whL c b fuel σ M = .ok (.nx σ') M' ∧ Q σ' M' := by
  intro m
  induction m using Nat.strongRecOn with
  | ind m ih =>
    intro σ M h fuel hf
    obtain ⟨v, t, h1, h2, h3⟩ := hs m σ M h
    cases fuel with
    | zero => omega
    | succ fuel =>
      unfold whL
      rw [h1, x_bok, h2, x_ofS, x_bok]
      rcases h3 with ⟨rfl, hq⟩ | ⟨rfl, m', σ2, M2, hm, hb, hp⟩
      · exact ⟨σ, M, rfl, hq⟩
      · rw [if_pos rfl, hb, x_bok]
        exact ih m' hm σ2 M2 hp fuel (by omega)
/-- a loop that does not return -/
theorem forL_go {tg : Tg} {b : SS} (P : Nat → Env → Mem → Prop) {xs : List D} {σ : Env} {M : Mem} (h0 : P 0 σ M)
    (hs : ∀ (i : Nat) (x : D) (σ : Env) (M : Mem), xs[i]? = some x → P i σ M → ∃ σ1 σ2 M2, asgT tg x σ = some σ1 ∧ b σ1 M = .ok (.nx σ2) M2 ∧ P (i + 1) σ2 M2) :
    ∃ σ' M', forL tg b xs σ M = .ok (.nx σ') M' ∧ P xs.length σ' M' := by
  rcases forL_inv P (fun _ _ => False) (xs := xs) (n := 0) h0 (fun i x σ M hx hp => by
    rw [Nat.zero_add] at hp ⊢
    obtain ⟨σ1, σ2, M2, h1, h2, h3⟩ := hs i x σ M hx hp
    exact ⟨σ1, h1, .inl ⟨σ2, M2, h2, h3⟩⟩) with ⟨σ', M', e, h⟩ | ⟨_, _, _, h⟩
  · rw [Nat.zero_add] at h
    exact ⟨σ', M', e, h⟩
  · exact h.elim
theorem lc_ex {tg : Tg} {own : List Nat} {f : SF} {σ : Env} {M : Mem} (Pr : D → Prop) {xs : List D} (h : ∀ x ∈ xs, ∃ σ1 y, asgT tg x (wipeE σ own) = some σ1 ∧ f σ1 M = .ok (.d y) M ∧ Pr y) : ∃ ys, lcL tg own none f σ xs M = .ok ys M ∧ ys.length = xs.length ∧ ∀ y ∈ ys, Pr y := by
  obtain ⟨ys, M', e, rfl, hl, hp⟩ := lcL_inv (tg := tg) (own := own) (f := f) (σ := σ) (fun i acc M' => M' = M ∧ acc.length = i ∧ ∀ y ∈ acc, Pr y) (xs := xs) (n := 0) (acc := []) (M := M) ⟨rfl, rfl, fun y hy => by cases hy⟩ (fun i x acc M' hx hP => by
    obtain ⟨rfl, hl, hp⟩ := hP
    obtain ⟨σ1, y, h1, h2, h3⟩ := h x (List.mem_of_getElem? hx)
    refine ⟨σ1, y, M', h1, h2, rfl, by simp [hl], fun z hz => ?_⟩
    rcases List.mem_append.mp hz with hz | hz
    · exact hp z hz
    · rw [List.mem_singleton.mp hz]
      exact h3)
  refine ⟨ys, e, ?_, ?_⟩
  · simpa using hl
  · simpa using hp
/-! ### pieces of rows -/
theorem cutL_len {α : Type} (xs : List α) (lo hi : Option Int) : (cutL xs lo hi).length ≤ xs.length := by
  unfold cutL
  rw [List.length_take, List.length_drop]
  omega
theorem sIx_nat {n d k : Nat} : HT.sIx n d (some (k : Int)) = min k n := by
  have hk : ¬ (k : Int) < 0 := by omega
  simp [HT.sIx, hk]
theorem cutL_take {α : Type} (xs : List α) (k : Nat) : cutL xs none (some (k : Int)) = xs.take k := by
  have h0 : HT.sIx xs.length 0 none = 0 := rfl
  unfold cutL
  rw [h0, sIx_nat]
  by_cases h : k ≤ xs.length
  · rw [Nat.min_eq_left h]; simp
  · rw [Nat.min_eq_right (by omega), List.take_of_length_le (by simp), List.take_of_length_le (by omega)]
    simp
theorem cutL_drop {α : Type} (xs : List α) (k : Nat) : cutL xs (some (k : Int)) none = xs.drop k := by
  have h0 : HT.sIx xs.length xs.length none = xs.length := rfl
  unfold cutL
  rw [h0, sIx_nat]
  by_cases h : k ≤ xs.length
  · rw [Nat.min_eq_left h, List.take_of_length_le (by simp)]
  · rw [Nat.min_eq_right (by omega), List.drop_of_length_le (by omega), List.drop_of_length_le (by omega)]
    simp
theorem cutL_mid {α : Type} (xs : List α) (j k : Nat) (h : j + k ≤ xs.length) : cutL xs (some (j : Int)) (some ((j + k : Nat) : Int)) = (xs.drop j).take k := by
  unfold cutL
  rw [sIx_nat, sIx_nat, Nat.min_eq_left h, Nat.min_eq_left (show j ≤ xs.length by omega)]
  congr 1
  omega
theorem cutL_init {α : Type} (xs : List α) : cutL xs none (some (-1)) = xs.dropLast := by
  have h0 : HT.sIx xs.length 0 none = 0 := rfl
  unfold cutL
  rw [h0]
  have : HT.sIx xs.length xs.length (some (-1)) = xs.length - 1 := by
    simp [HT.sIx]
    omega
  rw [this]
  simp [List.dropLast_eq_take]
theorem atI0 {α : Type} (x : α) (xs : List α) : L2.atI (x :: xs) 0 = some x := L2.atI_nat (j := 0) rfl
theorem atI_get {α : Type} {xs : List α} {a : Int} (h0 : 0 ≤ a) (h1 : a < xs.length) : ∃ x, L2.atI xs a = some x ∧ x ∈ xs := by
  have hn : a.toNat < xs.length := by omega
  refine ⟨xs[a.toNat], ?_, List.getElem_mem hn⟩
  have := L2.atI_nat (List.getElem?_eq_getElem hn)
  rw [show ((a.toNat : Nat) : Int) = a by omega] at this
  exact this
theorem atI_last {α : Type} (xs : List α) (x : α) : L2.atI (xs ++ [x]) (-1) = some x := by
  unfold L2.atI L2.ixN
  have h : (-1 + ((xs.length : Int) + 1)).toNat = xs.length := by omega
  have h1 : (1 : Int) ≤ (xs.length : Int) + 1 := by omega
  simp [h, h1]
theorem enmL_len : ∀ (xs : List D) (n : Nat), (enmL xs n).length = xs.length
  | [], _ => rfl
  | x :: xs, n => by simp [enmL, enmL_len xs (n + 1)]
@[simp] theorem x_cutt {xs : List D} {lo hi : Option Int} : cutD (.tuple xs) lo hi = some (.tuple (cutL xs lo hi)) := id rfl
@[simp] theorem x_cutl {xs : List D} {lo hi : Option Int} : cutD (.list xs) lo hi = some (.list (cutL xs lo hi)) := id rfl
@[simp] theorem x_revt {xs : List D} : revD (.tuple xs) = some (.tuple xs.reverse) := id rfl
@[simp] theorem x_revl {xs : List D} : revD (.list xs) = some (.list xs.reverse) := id rfl
@[simp] theorem x_ceq {x y : D} : cmpD .eq x y = eqD x y := id rfl
@[simp] theorem x_bsum {xs : List D} {M : Mem} : biV .sum M [.d (.list xs)] = (intsOf xs).map fun ns => .int ns.sum := by
  show biR .sum M [.d (.list xs)] = _
  rfl
theorem mul_ok {a b : Int} (h : b.natAbs < 2 ^ 64) : mulOk a b = true := by
  unfold mulOk
  rw [Bool.or_eq_true]
  exact .inr (decide_eq_true h)
theorem small_ok {a : Int} (h : a.natAbs < 2 ^ 64) : small a = true := by
  unfold small lim9
  exact decide_eq_true (Nat.lt_of_lt_of_le h (Nat.pow_le_pow_right (by decide) (by decide)))
/-! ### sorting whole numbers -/
def sI (xs : List Int) : List Int := xs.mergeSort fun a b => decide (a ≤ b)
theorem dataLe_int (a b : Int) : PySem.W.dataLe false (fun x => x) (.int a) (.int b) = decide (a ≤ b) := by
  show (!PySem.W.dataLt (.int b) (.int a)) = _
  rw [PySem.W.dataLt_int]
  by_cases h : b < a
  · have h' : ¬ a ≤ b := by omega
    simp [h, h']
  · have h' : a ≤ b := by omega
    simp [h, h']
theorem sortB_int (xs : List Int) : sortB (xs.map .int) = true := by
  unfold sortB
  rw [Bool.and_eq_true, Bool.and_eq_true]
  refine ⟨⟨?_, ?_⟩, ?_⟩
  · refine List.all_eq_true.mpr fun x hx => List.all_eq_true.mpr fun y hy => ?_
    obtain ⟨p, _, rfl⟩ := List.mem_map.mp hx
    obtain ⟨q, _, rfl⟩ := List.mem_map.mp hy
    rfl
  · rw [Bool.or_eq_true, Bool.or_eq_true, Bool.or_eq_true]
    refine .inl (.inl (.inr (List.all_eq_true.mpr fun x hx => ?_)))
    obtain ⟨p, _, rfl⟩ := List.mem_map.mp hx
    rfl
  · refine List.all_eq_true.mpr fun x hx => ?_
    obtain ⟨p, _, rfl⟩ := List.mem_map.mp hx
    rfl
theorem sortD_int {xs : List Int} (h : xs.length ≤ lim) : sortD (xs.map .int) = some ((sI xs).map .int) := by
  unfold sortD
  rw [sortB_int, List.length_map, decide_eq_true h]
  rw [Bool.and_self, if_pos rfl]
  congr 1
  exact (List.map_mergeSort fun a _ b _ => (dataLe_int a b).symm).symm
theorem sI_perm (xs : List Int) : (sI xs).Perm xs := List.mergeSort_perm _ _
theorem sI_len (xs : List Int) : (sI xs).length = xs.length := (sI_perm xs).length_eq
theorem sI_pw (xs : List Int) : (sI xs).Pairwise fun a b => a ≤ b := by
  have h := List.pairwise_mergeSort (le := fun a b : Int => decide (a ≤ b)) (fun a b c h1 h2 => decide_eq_true (Int.le_trans (of_decide_eq_true h1) (of_decide_eq_true h2)))
    (fun a b => by rcases Int.le_total a b with h | h <;> simp [h]) xs
  exact h.imp fun h => of_decide_eq_true h
theorem sI_eq {xs ys : List Int} (h : xs.Perm ys) : sI xs = sI ys :=
  List.Perm.eq_of_pairwise (fun a b _ _ h1 h2 => Int.le_antisymm h1 h2) (sI_pw xs) (sI_pw ys) (((sI_perm xs).trans h).trans (sI_perm ys).symm)
theorem sI_id {xs : List Int} (h : xs.Pairwise fun a b => a ≤ b) : sI xs = xs :=
  List.Perm.eq_of_pairwise (fun a b _ _ h1 h2 => Int.le_antisymm h1 h2) (sI_pw xs) h (sI_perm xs)
theorem sortD_mem {xs ys : List D} (h : sortD xs = some ys) : ys.Perm xs := by
  unfold sortD at h
  split at h
  · cases h; exact List.mergeSort_perm _ _
  · cases h
/-! ### each once -/
def ins (acc : List Int) (x : Int) : List Int := if x ∈ acc then acc else acc ++ [x]
def dd (xs : List Int) : List Int := xs.foldl ins []
theorem mem_ins {acc : List Int} {x a : Int} : a ∈ ins acc x ↔ a ∈ acc ∨ a = x := by
  unfold ins
  split
  · rename_i h
    constructor
    · exact .inl
    · rintro (h1 | rfl)
      · exact h1
      · exact h
  · simp
theorem mem_foldins : ∀ {xs acc : List Int} {a : Int}, a ∈ xs.foldl ins acc ↔ a ∈ acc ∨ a ∈ xs
  | [], _, _ => by simp
  | x :: xs, acc, a => by
    rw [List.foldl_cons, mem_foldins, mem_ins, List.mem_cons]
    constructor
    · rintro ((h | h) | h) <;> simp [h]
    · rintro (h | h | h) <;> simp [h]
theorem mem_dd {xs : List Int} {a : Int} : a ∈ dd xs ↔ a ∈ xs := by
  unfold dd
  rw [mem_foldins]
  simp
theorem ins_nodup {acc : List Int} {x : Int} (h : acc.Nodup) : (ins acc x).Nodup := by
  unfold ins
  split
  · exact h
  · rename_i hx
    rw [List.nodup_append]
    exact ⟨h, by simp, fun a ha b hb e => hx (by rw [List.mem_singleton.mp hb] at e; rw [← e]; exact ha)⟩
theorem foldins_nodup : ∀ {xs acc : List Int}, acc.Nodup → (xs.foldl ins acc).Nodup
  | [], _, h => h
  | x :: xs, acc, h => foldins_nodup (xs := xs) (ins_nodup h)
theorem dd_nodup (xs : List Int) : (dd xs).Nodup := foldins_nodup (by simp)
theorem foldins_len : ∀ {xs acc : List Int}, (xs.foldl ins acc).length ≤ acc.length + xs.length
  | [], _ => by simp
  | x :: xs, acc => by
    have := foldins_len (xs := xs) (acc := ins acc x)
    have h2 : (ins acc x).length ≤ acc.length + 1 := by unfold ins; split <;> simp
    rw [List.foldl_cons, List.length_cons]
    omega
theorem dd_len (xs : List Int) : (dd xs).length ≤ xs.length := by
  have := foldins_len (xs := xs) (acc := [])
  rw [List.length_nil, Nat.zero_add] at this
  exact this
theorem sdd_eq {xs ys : List Int} (h : ∀ a, a ∈ xs ↔ a ∈ ys) : sI (dd xs) = sI (dd ys) :=
  sI_eq ((List.perm_ext_iff_of_nodup (dd_nodup xs) (dd_nodup ys)).mpr fun a => by rw [mem_dd, mem_dd, h])
theorem mem_sI {xs : List Int} {a : Int} : a ∈ sI xs ↔ a ∈ xs := (sI_perm xs).mem_iff
theorem sdd_idem (xs : List Int) : sI (dd (sI (dd xs))) = sI (dd xs) := sdd_eq fun a => by rw [mem_sI, mem_dd]
theorem dd_append (xs ys : List Int) : dd (xs ++ ys) = ys.foldl ins (dd xs) := by
  unfold dd
  rw [List.foldl_append]
/-! ### dicts of whole numbers -/
def dkI (xs : List Int) : List (L2.Key × D) := xs.map fun x => (.inl x, .bool true)
theorem dkI_len (xs : List Int) : (dkI xs).length = xs.length := List.length_map _
theorem dkI_any (x : Int) : ∀ xs : List Int, ((dkI xs).any fun z => decide (z.1 = (Sum.inl x : L2.Key))) = decide (x ∈ xs)
  | [] => by simp [dkI]
  | a :: xs => by
    have ih := dkI_any x xs
    unfold dkI at *
    rw [List.map_cons, List.any_cons, ih]
    by_cases e : a = x
    · simp [e]
    · have hne : ¬ x = a := fun h => e h.symm
      simp [e, hne]
theorem dkI_get (x : Int) : ∀ xs : List Int, (dGet (dkI xs) (Sum.inl x : L2.Key)).isSome = decide (x ∈ xs)
  | [] => by simp [dkI, dGet]
  | a :: xs => by
    have ih := dkI_get x xs
    unfold dGet dkI at *
    rw [List.map_cons, List.find?_cons]
    by_cases e : a = x
    · simp [e]
    · have hne : ¬ x = a := fun h => e h.symm
      have hd : (decide ((Sum.inl a : L2.Key) = Sum.inl x)) = false := decide_eq_false fun h => e (Sum.inl.inj h)
      rw [hd]
      simp only [List.mem_cons, hne, false_or]
      exact ih
theorem dkI_put (acc : List Int) (x : Int) : dPut (dkI acc) (Sum.inl x : L2.Key) (.bool true) = dkI (ins acc x) := by
  unfold dPut ins
  rw [dkI_any]
  by_cases h : x ∈ acc
  · rw [decide_eq_true h, if_pos rfl, if_pos h]
    unfold dkI
    rw [List.map_map]
    refine List.map_congr_left fun a _ => ?_
    show (if _ then _ else _) = _
    split <;> rfl
  · rw [decide_eq_false h, if_neg Bool.false_ne_true, if_neg h]
    simp [dkI]
theorem dkI_keys (xs : List Int) : (dkI xs).map (fun z => dKey z.1) = xs.map .int := by
  unfold dkI
  rw [List.map_map]
  rfl
def prI (x : Int) : D := .tuple [.int x, .bool true]
theorem dpairs_int : ∀ xs : List Int, dpairs (xs.map prI) = some (dkI xs)
  | [] => rfl
  | x :: xs => by
    show (match dpair (prI x), dpairs (xs.map prI) with | some k, some r => some (k :: r) | _, _ => none) = _
    rw [dpairs_int xs]
    rfl
theorem dAll_fold : ∀ (xs acc : List Int), (dkI xs).foldl (fun a kv => dPut a kv.1 kv.2) (dkI acc) = dkI (xs.foldl ins acc)
  | [], _ => rfl
  | x :: xs, acc => by
    show (dkI xs).foldl (fun a kv => dPut a kv.1 kv.2) (dPut (dkI acc) (Sum.inl x : L2.Key) (.bool true)) = _
    rw [dkI_put, dAll_fold xs]
    rfl
theorem dAll_int (xs : List Int) : dAll (dkI xs) = dkI (dd xs) := dAll_fold xs []
theorem x_dcpI {xs : List Int} (h : xs.length ≤ lim) : vPairs [.d (.list (xs.map prI))] = some (dkI xs) := by
  show (if (xs.map prI).length ≤ lim then dpairs (xs.map prI) else none) = _
  rw [List.length_map, if_pos h, dpairs_int]
section
variable {M : Mem} {i : Nat} {xs : List Int} {kvs : List (L2.Key × D)}
theorem x_setk {x : Int} (h : M[i]? = some (.dK (dkI xs))) (hl : xs.length < lim) : setV M (.ref i) (.d (.int x)) (.d (.bool true)) = some (M.set i (.dK (dkI (ins xs x)))) := by
  have hl' : (dkI xs).length < lim := by rw [dkI_len]; exact hl
  simp [setV, h, keyD, hl', dkI_put]
theorem x_ink {x : Int} (h : M[i]? = some (.dK (dkI xs))) : cmpV M .isin (.d (.int x)) (.ref i) = some (decide (x ∈ xs)) := by
  simp [cmpV, rdV, h, inDict, keyD, dkI_get]
theorem x_notink {x : Int} (h : M[i]? = some (.dK (dkI xs))) : cmpV M .notin (.d (.int x)) (.ref i) = some (!decide (x ∈ xs)) := by
  simp [cmpV, rdV, h, inDict, keyD, dkI_get]
theorem x_bsk (h : M[i]? = some (.dK (dkI xs))) (hl : xs.length ≤ lim) : biV .sorted M [.ref i] = some (.list ((sI xs).map .int)) := by
  have e : biV .sorted M [.ref i] = (sortD ((dkI xs).map fun kv => dKey kv.1)).map .list := by simp [biV, rdVs, rdV, h, v1, keysSorted]
  rw [e, dkI_keys, sortD_int hl]
  rfl
end
/-! ### data that is like itself -/
def pl : Nat → D → Bool
  | _, .int _ => true
  | _, .bool _ => true
  | _, .str _ => true
  | d + 1, .tuple xs => xs.all (pl d) && decide (xs.length ≤ lim)
  | _, _ => false
end Mp
end
section
set_option maxHeartbeats 4000000
/-! k09: the text's defs as small Python; they are the row's. -/
namespace Mp.k09
open PySem PySem.Spec PyProof.Rows L2 Mp
def topS (i : Nat) : Stmt := PySem.Challenge.pw_mustleave_k09_trials.main.body.getD i (.Pass ⟨0, 0, 0, 0⟩)
def b0 : MSs := (.cons 
  (.set 1 (.new (.lst .nil))) (.cons 
  (.forr (.nm 2) (.ov (.var 0)) (.cons (.iff (.cmp .eq (.idx (.var 2) (.con (.int 0))) (.con (.str ("show" : Str)))) (.cons (.exp (.mt .append (.var 1) (.cons (.idx (.var 2) (.con (.int 1))) .nil))) .nil) (.cons (.iff (.cmp .eq (.idx (.var 2) (.con (.int 0))) (.con (.str ("when" : Str)))) (.cons (.forr (.tup3 (.nm 3) (.nm 4) (.nm 5)) (.ov (.idx (.var 2) (.con (.int 1)))) (.cons (.set 1 (.new (.bin .add (.var 1) (.lst (.cons (.var 4) (.cons (.var 5) .nil)))))) .nil)) (.cons (.set 1 (.new (.bin .add (.bin .add (.var 1) (.call 0 (.cons (.idx (.var 2) (.con (.int 2))) .nil))) (.call 0 (.cons (.idx (.var 2) (.con (.int 3))) .nil))))) .nil)) .nil) .nil)) .nil)) (.cons 
  (.frz 1) (.cons 
  (.ret (.var 1)) .nil))))
def f0 : Fn := { np := 1, ns := 6, body := b0, tr := true }
def d0 : Df := { name := "terms_in", ps := [("block" : Str)], N := [("block" : Str), ("found" : Str), ("item" : Str), ("sign" : Str), ("one" : Str), ("other" : Str)], fn := f0, st := topS 1 }
def b1 : MSs := (.cons 
  (.set 2 (.dnw false)) (.cons 
  (.forr (.nm 3) (.ov (.var 1)) (.cons (.forr (.nm 4) (.ov (.call 0 (.cons (.idx (.idx (.idx (.var 0) (.con (.int 1))) (.var 3)) (.con (.int 1))) .nil))) (.cons (.iff (.cmp .eq (.idx (.var 4) (.con (.int 0))) (.con (.str ("c" : Str)))) (.cons (.setI (.var 2) (.idx (.var 4) (.con (.int 1))) (.con (.bool true))) .nil) .nil) .nil)) .nil)) (.cons 
  (.ret (.bi .tuple (.cons (.bi .sorted (.cons (.var 2) .nil)) .nil))) .nil)))
def f1 : Fn := { np := 2, ns := 5, body := b1, tr := true }
def d1 : Df := { name := "constants_in", ps := [("program" : Str), ("asks" : Str)], N := [("program" : Str), ("asks" : Str), ("found" : Str), ("ask" : Str), ("term" : Str)], fn := f1, st := topS 2 }
def b2 : MSs := (.cons 
  (.ret (.call 1 (.cons (.var 0) (.cons (.bi .rngL (.cons (.bi .len (.cons (.idx (.var 0) (.con (.int 1))) .nil)) .nil)) .nil)))) .nil)
def f2 : Fn := { np := 1, ns := 1, body := b2, tr := true }
def d2 : Df := { name := "constants_of", ps := [("program" : Str)], N := [("program" : Str)], fn := f2, st := topS 3 }
def b3 : MSs := (.cons 
  (.ret (.lc [2, 3] (.tup2 (.nm 2) (.nm 3)) (.enm (.idx (.var 0) (.con (.int 0)))) (.cons (.cmp .ne (.var 2) (.var 1)) .nil) (.tup (.cons (.var 2) (.cons (.bi .len (.cons (.idx (.var 3) (.con (.int 1))) .nil)) .nil))))) .nil)
def f3 : Fn := { np := 2, ns := 4, body := b3, tr := true }
def d3 : Df := { name := "other_fields", ps := [("program" : Str), ("holder" : Str)], N := [("program" : Str), ("holder" : Str), ("at" : Str), ("one" : Str)], fn := f3, st := topS 5 }
def b4 : MSs := (.cons 
  (.set 2 (.dnw false)) (.cons 
  (.forr (.nm 3) (.ov (.call 2 (.cons (.var 0) .nil))) (.cons (.setI (.var 2) (.var 3) (.con (.bool true))) .nil)) (.cons 
  (.forr (.nm 4) (.ov (.var 1)) (.cons (.forr (.nm 3) (.ov (.var 4)) (.cons (.setI (.var 2) (.var 3) (.con (.bool true))) .nil)) .nil)) (.cons 
  (.ret (.bi .sorted (.cons (.var 2) .nil))) .nil))))
def f4 : Fn := { np := 2, ns := 5, body := b4, tr := true }
def d4 : Df := { name := "known_integers", ps := [("program" : Str), ("records" : Str)], N := [("program" : Str), ("records" : Str), ("found" : Str), ("integer" : Str), ("record" : Str)], fn := f4, st := topS 6 }
def b5 : MSs := (.cons 
  (.set 2 (.new (.lst .nil))) (.cons 
  (.set 3 (.dnw false)) (.cons 
  (.forr (.nm 4) (.ov (.var 0)) (.cons (.setI (.var 3) (.var 4) (.con (.bool true))) .nil)) (.cons 
  (.set 4 (.con (.int 0))) (.cons 
  (.whil (.cmp .lt (.bi .len (.cons (.var 2) .nil)) (.var 1)) (.cons (.iff (.cmp .notin (.var 4) (.var 3)) (.cons (.exp (.mt .append (.var 2) (.cons (.var 4) .nil))) .nil) .nil) (.cons (.aug 4 .add (.con (.int 1))) .nil))) (.cons 
  (.frz 2) (.cons 
  (.ret (.var 2)) .nil)))))))
def f5 : Fn := { np := 2, ns := 5, body := b5, tr := true }
def d5 : Df := { name := "further_integers", ps := [("known" : Str), ("many" : Str)], N := [("known" : Str), ("many" : Str), ("told" : Str), ("marks" : Str), ("integer" : Str)], fn := f5, st := topS 7 }
def b6 : MSs := (.cons 
  (.set 3 (.call 4 (.cons (.var 0) (.cons (.var 2) .nil)))) (.cons 
  (.set 4 (.bi .sum (.cons (.lc [5, 6] (.tup2 (.nm 5) (.nm 6)) (.ov (.call 3 (.cons (.var 0) (.cons (.var 1) .nil)))) .nil (.var 6)) .nil))) (.cons 
  (.ret (.bi .tuple (.cons (.bi .sorted (.cons (.bin .add (.var 3) (.call 5 (.cons (.var 3) (.cons (.var 4) .nil)))) .nil)) .nil))) .nil)))
def f6 : Fn := { np := 3, ns := 7, body := b6, tr := true }
def d6 : Df := { name := "trial_integers", ps := [("program" : Str), ("holder" : Str), ("records" : Str)], N := [("program" : Str), ("holder" : Str), ("records" : Str), ("known" : Str), ("many" : Str), ("at" : Str), ("fields" : Str)], fn := f6, st := topS 8 }
def b7 : MSs := (.cons 
  (.set 3 (.lst (.cons (.tup (.cons (.tup .nil) (.cons (.con (.int 0)) .nil))) .nil))) (.cons 
  (.forr (.nm 4) (.rg1 (.var 2)) (.cons (.set 5 (.new (.lst .nil))) (.cons (.forr (.tup2 (.nm 6) (.nm 7)) (.ov (.var 3)) (.cons (.set 5 (.new (.bin .add (.var 5) (.lc [8] (.nm 8) (.ov (.bin .add (.var 0) (.slc (.var 1) .non (.som (.var 7))))) .nil (.tup (.cons (.bin .add (.var 6) (.tup (.cons (.var 8) .nil))) (.cons (.var 7) .nil))))))) (.cons (.exp (.mt .append (.var 5) (.cons (.tup (.cons (.bin .add (.var 6) (.tup (.cons (.idx (.var 1) (.var 7)) .nil))) (.cons (.bin .add (.var 7) (.con (.int 1))) .nil))) .nil))) .nil))) (.cons (.frz 5) (.cons (.set 3 (.var 5)) .nil))))) (.cons 
  (.ret (.lc [6, 7] (.tup2 (.nm 6) (.nm 7)) (.ov (.var 3)) .nil (.var 6))) .nil)))
def f7 : Fn := { np := 3, ns := 9, body := b7, tr := true }
def d7 : Df := { name := "rows_of_trials", ps := [("known" : Str), ("further" : Str), ("many" : Str)], N := [("known" : Str), ("further" : Str), ("many" : Str), ("rows" : Str), ("place" : Str), ("longer" : Str), ("row" : Str), ("come" : Str), ("integer" : Str)], fn := f7, st := topS 9 }
def b8 : MSs := (.cons 
  (.set 3 (.call 3 (.cons (.var 0) (.cons (.var 1) .nil)))) (.cons 
  (.set 4 (.bi .sum (.cons (.lc [10, 11] (.tup2 (.nm 10) (.nm 11)) (.ov (.var 3)) .nil (.var 11)) .nil))) (.cons 
  (.set 5 (.call 4 (.cons (.var 0) (.cons (.var 2) .nil)))) (.cons 
  (.set 6 (.new (.lst .nil))) (.cons 
  (.forr (.nm 7) (.ov (.call 7 (.cons (.var 5) (.cons (.call 5 (.cons (.var 5) (.cons (.var 4) .nil))) (.cons (.var 4) .nil))))) (.cons (.set 8 (.new (.lc [12] (.nm 12) (.ov (.idx (.var 0) (.con (.int 0)))) .nil (.tup .nil)))) (.cons (.set 9 (.con (.int 0))) (.cons (.forr (.tup2 (.nm 10) (.nm 11)) (.ov (.var 3)) (.cons (.setI (.var 8) (.var 10) (.slc (.var 7) (.som (.var 9)) (.som (.bin .add (.var 9) (.var 11))))) (.cons (.aug 9 .add (.var 11)) .nil))) (.cons (.exp (.mt .append (.var 6) (.cons (.bi .tuple (.cons (.var 8) .nil)) .nil))) .nil))))) (.cons 
  (.ret (.bi .tuple (.cons (.bi .sorted (.cons (.var 6) .nil)) .nil))) .nil))))))
def f8 : Fn := { np := 3, ns := 13, body := b8, tr := true }
def d8 : Df := { name := "trial_worlds", ps := [("program" : Str), ("holder" : Str), ("records" : Str)], N := [("program" : Str), ("holder" : Str), ("records" : Str), ("others" : Str), ("many" : Str), ("known" : Str), ("worlds" : Str), ("row" : Str), ("world" : Str), ("place" : Str), ("at" : Str), ("fields" : Str), ("one" : Str)], fn := f8, st := topS 10 }
def b9 : MSs := (.cons 
  (.par2 2 3 (.new (.lst .nil)) (.con (.int 16091))) (.cons 
  (.forr (.nm 1) (.ov (.slc (.var 0) .non (.som (.con (.int 43))))) (.cons (.set 4 (.bin .mod (.bi .abs (.cons (.bi .int (.cons (.var 1) .nil)) .nil)) (.bin .pow (.bin .pow (.con (.int 10)) (.con (.int 27))) (.con (.int 9))))) (.cons (.set 3 (.bin .mod (.bi .int (.cons (.bin .add (.bin .add (.bin .add (.bin .mul (.var 3) (.con (.int 28019))) (.bin .mod (.var 4) (.con (.int 989381)))) (.bin .mul (.con (.int 29)) (.bi .int (.cons (.cmp .lt (.bi .int (.cons (.var 1) .nil)) (.con (.int 0))) .nil)))) (.con (.int 13))) .nil)) (.con (.int 2147480683)))) (.cons (.iff (.cmp .gt (.var 4) (.bin .pow (.con (.int 10)) (.con (.int 13)))) (.cons (.exp (.mt .append (.var 2) (.cons (.var 4) .nil))) .nil) .nil) .nil)))) (.cons 
  (.ret (.box (.cons (.new (.rev (.var 2))) (.cons (.bin .add (.var 3) (.con (.int 9))) (.cons (.bin .mod (.bi .int (.cons (.bin .add (.bin .mul (.var 3) (.con (.int 601))) (.con (.int 67))) .nil)) (.con (.int 999999587))) .nil))))) .nil)))
def f9 : Fn := { np := 1, ns := 5, body := b9, tr := false }
def d9 : Df := { name := "_law_scale", ps := [("script" : Str)], N := [("script" : Str), ("cell" : Str), ("great" : Str), ("load" : Str), ("size" : Str)], fn := f9, st := topS 12 }
def b10 : MSs := (.cons 
  (.iff (.cmp .lt (.var 2) (.con (.int 2))) (.cons (.ret (.con (.int 0))) .nil) .nil) (.cons 
  (.iff (.cmp .gt (.bi .len (.cons (.idx (.var 0) (.con (.int 0))) .nil)) (.con (.int 0))) (.cons (.set 4 (.bi .int (.cons (.mt .pop0 (.idx (.var 0) (.con (.int 0))) .nil) .nil))) (.cons (.iff (.cmp .ge (.var 4) (.var 2)) (.cons (.exp (.mt .append (.idx (.var 0) (.con (.int 0))) (.cons (.bin .fdiv (.var 4) (.var 2)) .nil))) .nil) .nil) (.cons (.ret (.bin .mod (.var 4) (.var 2))) .nil))) .nil) (.cons 
  (.setI (.var 0) (.con (.int 1)) (.bin .mod (.bi .int (.cons (.bin .add (.bin .add (.bin .mul (.idx (.var 0) (.con (.int 1))) (.con (.int 17507))) (.bin .mul (.con (.int 71)) (.var 1))) (.con (.int 113))) .nil)) (.con (.int 2147480683)))) (.cons 
  (.set 3 (.bin .mod (.bi .int (.cons (.bin .fdiv (.idx (.var 0) (.con (.int 2))) (.bin .add (.con (.int 53)) (.bin .mul (.con (.int 2)) (.var 1)))) .nil)) (.con (.int 17)))) (.cons 
  (.ret (.ife (.or (.cmp .eq (.var 1) (.con (.int 0))) (.cmp .lt (.var 3) (.con (.int 15)))) (.bin .mod (.bi .int (.cons (.bin .fdiv (.idx (.var 0) (.con (.int 1))) (.con (.int 103))) .nil)) (.var 2)) (.bin .mul (.bin .sub (.var 3) (.con (.int 15))) (.bin .sub (.var 2) (.con (.int 1)))))) .nil)))))
def f10 : Fn := { np := 3, ns := 5, body := b10, tr := true }
def d10 : Df := { name := "_law_weigh", ps := [("scale" : Str), ("place" : Str), ("many" : Str)], N := [("scale" : Str), ("place" : Str), ("many" : Str), ("lean" : Str), ("size" : Str)], fn := f10, st := topS 13 }
def b11 : MSs := (.cons 
  (.iff (.isi (.var 1) .tuple) (.cons (.ret (.and (.isi (.var 0) .tuple) (.and (.cmp .eq (.bi .len (.cons (.var 0) .nil)) (.bi .len (.cons (.var 1) .nil))) (.cmp .eq (.bi .len (.cons (.lc [2] (.nm 2) (.rg1 (.bi .len (.cons (.var 1) .nil))) (.cons (.not (.call 11 (.cons (.idx (.var 0) (.var 2)) (.cons (.idx (.var 1) (.var 2)) .nil)))) .nil) (.con (.int 1))) .nil)) (.con (.int 0)))))) .nil) .nil) (.cons 
  (.ret (.and (.isi (.var 0) .int) (.and (.not (.isi (.var 0) .bool)) (.cmp .eq (.var 0) (.var 1))))) .nil))
def f11 : Fn := { np := 2, ns := 3, body := b11, tr := true }
def d11 : Df := { name := "_law_same", ps := [("told" : Str), ("due" : Str)], N := [("told" : Str), ("due" : Str), ("at" : Str)], fn := f11, st := topS 14 }
def b12 : MSs := (.cons 
  (.set 1 (.idx (.tup (.cons (.tup (.cons (.con (.int 1)) (.cons (.con (.int 1)) .nil))) (.cons (.tup (.cons (.con (.int 2)) (.cons (.con (.int 1)) .nil))) (.cons (.tup (.cons (.con (.int 1)) (.cons (.con (.int 1)) (.cons (.con (.int 1)) .nil)))) (.cons (.tup (.cons (.con (.int 2)) .nil)) (.cons (.tup (.cons (.con (.int 1)) (.cons (.con (.int 2)) (.cons (.con (.int 1)) .nil)))) (.cons (.tup (.cons (.con (.int 3)) (.cons (.con (.int 1)) .nil))) (.cons (.tup (.cons (.con (.int 1)) (.cons (.con (.int 3)) .nil))) (.cons (.tup (.cons (.con (.int 2)) (.cons (.con (.int 2)) .nil))) .nil))))))))) (.call 10 (.cons (.var 0) (.cons (.con (.int 1)) (.cons (.con (.int 8)) .nil)))))) (.cons 
  (.ret (.bi .tuple (.cons (.lc [2] (.nm 2) (.rg1 (.bi .len (.cons (.var 1) .nil))) .nil (.tup (.cons (.idx (.tup (.cons (.con (.str ("a" : Str))) (.cons (.con (.str ("shop" : Str))) (.cons (.con (.str ("b" : Str))) .nil)))) (.var 2)) (.cons (.slc (.tup (.cons (.con (.str ("x" : Str))) (.cons (.con (.str ("y" : Str))) (.cons (.con (.str ("z" : Str))) (.cons (.con (.str ("id" : Str))) .nil))))) .non (.som (.idx (.var 1) (.var 2)))) .nil)))) .nil))) .nil))
def f12 : Fn := { np := 1, ns := 3, body := b12, tr := true }
def d12 : Df := { name := "_law_holders", ps := [("scale" : Str)], N := [("scale" : Str), ("sizes" : Str), ("at" : Str)], fn := f12, st := topS 15 }
def b13 : MSs := (.cons 
  (.ret (.idx (.tup (.cons (.con (.int 0)) (.cons (.con (.int 1)) (.cons (.con (.int 2)) (.cons (.con (.int 5)) (.cons (.neg (.con (.int 1))) (.cons (.bin .pow (.con (.int 10)) (.con (.int 9))) (.cons (.con (.int 3)) (.cons (.neg (.con (.int 7))) .nil))))))))) (.call 10 (.cons (.var 0) (.cons (.con (.int 2)) (.cons (.con (.int 8)) .nil)))))) .nil)
def f13 : Fn := { np := 1, ns := 1, body := b13, tr := true }
def d13 : Df := { name := "_law_integer", ps := [("scale" : Str)], N := [("scale" : Str)], fn := f13, st := topS 16 }
def b14 : MSs := (.cons 
  (.set 3 (.call 15 (.cons (.var 1) .nil))) (.cons 
  (.set 4 (.box (.cons (.new (.lst (.cons (.tup (.cons (.con (.str ("show" : Str))) (.cons (.idx (.var 3) (.call 10 (.cons (.var 0) (.cons (.con (.int 3)) (.cons (.bi .len (.cons (.var 3) .nil)) .nil))))) .nil))) .nil))) (.cons (.new (.lst (.cons (.tup (.cons (.con (.str ("say" : Str))) (.cons (.con (.str ("no" : Str))) .nil))) .nil))) .nil)))) (.cons 
  (.forr (.nm 5) (.rg1 (.bi .len (.cons (.var 2) .nil))) (.cons (.par2 10 11 (.tup (.cons (.con (.str ("c" : Str))) (.cons (.idx (.var 2) (.var 5)) .nil))) (.idx (.var 3) (.call 10 (.cons (.var 0) (.cons (.con (.int 4)) (.cons (.bi .len (.cons (.var 3) .nil)) .nil)))))) (.cons (.set 6 (.call 10 (.cons (.var 0) (.cons (.con (.int 5)) (.cons (.con (.int 4)) .nil))))) (.cons (.set 6 (.ife (.or (.cmp .lt (.var 5) (.con (.int 2))) (.cmp .lt (.var 6) (.con (.int 2)))) (.var 6) (.con (.int 0)))) (.cons (.set 7 (.tup (.cons (.con (.str ("show" : Str))) (.cons (.var 10) .nil)))) (.cons (.iff (.cmp .eq (.var 6) (.con (.int 1))) (.cons (.set 7 (.tup (.cons (.con (.str ("when" : Str))) (.cons (.tup (.cons (.tup (.cons (.con (.str ("=" : Str))) (.cons (.var 11) (.cons (.var 10) .nil)))) .nil)) (.cons (.tup .nil) (.cons (.tup (.cons (.tup (.cons (.con (.str ("say" : Str))) (.cons (.con (.str ("yes" : Str))) .nil))) .nil)) .nil)))))) .nil) .nil) (.cons (.iff (.cmp .eq (.var 6) (.con (.int 2))) (.cons (.set 7 (.tup (.cons (.con (.str ("when" : Str))) (.cons (.tup (.cons (.tup (.cons (.con (.str ("!" : Str))) (.cons (.var 10) (.cons (.var 10) .nil)))) (.cons (.tup (.cons (.con (.str ("=" : Str))) (.cons (.var 11) (.cons (.var 11) .nil)))) .nil))) (.cons (.tup (.cons (.tup (.cons (.con (.str ("show" : Str))) (.cons (.var 11) .nil))) .nil)) (.cons (.tup (.cons (.tup (.cons (.con (.str ("show" : Str))) (.cons (.var 10) .nil))) .nil)) .nil)))))) .nil) .nil) (.cons (.iff (.cmp .eq (.var 6) (.con (.int 3))) (.cons (.set 7 (.tup (.cons (.con (.str ("when" : Str))) (.cons (.tup .nil) (.cons (.tup (.cons (.tup (.cons (.con (.str ("when" : Str))) (.cons (.tup (.cons (.tup (.cons (.con (.str ("=" : Str))) (.cons (.var 10) (.cons (.var 11) .nil)))) .nil)) (.cons (.tup (.cons (.tup (.cons (.con (.str ("say" : Str))) (.cons (.con (.str ("in" : Str))) .nil))) .nil)) (.cons (.tup .nil) .nil))))) .nil)) (.cons (.tup .nil) .nil)))))) .nil) .nil) (.cons (.exp (.mt .append (.idx (.var 4) (.call 10 (.cons (.var 0) (.cons (.con (.int 6)) (.cons (.con (.int 2)) .nil))))) (.cons (.var 7) .nil))) .nil))))))))) (.cons 
  (.par2 8 9 (.bi .tuple (.cons (.idx (.var 4) (.con (.int 0))) .nil)) (.bi .tuple (.cons (.idx (.var 4) (.con (.int 1))) .nil))) (.cons 
  (.iff (.or (.cmp .eq (.call 10 (.cons (.var 0) (.cons (.con (.int 7)) (.cons (.con (.int 2)) .nil)))) (.con (.int 0))) (.cmp .gt (.bi .len (.cons (.var 8) .nil)) (.con (.int 4)))) (.cons (.ret (.tup (.cons (.var 1) (.cons (.tup (.cons (.tup (.cons (.con (.str ("q" : Str))) (.cons (.var 8) .nil))) (.cons (.tup (.cons (.con (.str ("r" : Str))) (.cons (.var 9) .nil))) .nil))) .nil)))) .nil) .nil) (.cons 
  (.ret (.tup (.cons (.var 1) (.cons (.tup (.cons (.tup (.cons (.con (.str ("q" : Str))) (.cons (.bin .add (.var 8) (.tup (.cons (.tup (.cons (.con (.str ("call" : Str))) (.cons (.con (.int 1)) .nil))) .nil))) .nil))) (.cons (.tup (.cons (.con (.str ("r" : Str))) (.cons (.var 9) .nil))) .nil))) .nil)))) .nil))))))
def f14 : Fn := { np := 3, ns := 12, body := b14, tr := true }
def d14 : Df := { name := "_law_program", ps := [("scale" : Str), ("holders" : Str), ("constants" : Str)], N := [("scale" : Str), ("holders" : Str), ("constants" : Str), ("fields" : Str), ("lots" : Str), ("at" : Str), ("way" : Str), ("item" : Str), ("one" : Str), ("other" : Str), ("term" : Str), ("field" : Str)], fn := f14, st := topS 17 }
def b15 : MSs := (.cons 
  (.set 1 (.lst .nil)) (.cons 
  (.forr (.nm 2) (.rg1 (.bi .len (.cons (.var 0) .nil))) (.cons (.set 1 (.bin .add (.var 1) (.lc [3] (.nm 3) (.rg1 (.bi .len (.cons (.idx (.idx (.var 0) (.var 2)) (.con (.int 1))) .nil))) .nil (.tup (.cons (.con (.str ("f" : Str))) (.cons (.var 2) (.cons (.var 3) .nil))))))) .nil)) (.cons 
  (.ret (.var 1)) .nil)))
def f15 : Fn := { np := 1, ns := 4, body := b15, tr := true }
def d15 : Df := { name := "_law_fields", ps := [("holders" : Str)], N := [("holders" : Str), ("told" : Str), ("at" : Str), ("k" : Str)], fn := f15, st := topS 18 }
def b16 : MSs := (.cons 
  (.set 4 (.dcp (.cons (.lc [9] (.nm 9) (.ov (.var 2)) .nil (.tup (.cons (.var 9) (.cons (.con (.bool true)) .nil)))) .nil))) (.cons 
  (.forr (.nm 5) (.ov (.var 3)) (.cons (.forr (.nm 7) (.ov (.var 5)) (.cons (.setI (.var 4) (.var 7) (.con (.bool true))) .nil)) .nil)) (.cons 
  (.set 6 (.bi .sum (.cons (.lc [10] (.nm 10) (.rg1 (.bi .len (.cons (.var 0) .nil))) (.cons (.cmp .ne (.var 10) (.var 1)) .nil) (.bi .len (.cons (.idx (.idx (.var 0) (.var 10)) (.con (.int 1))) .nil))) .nil))) (.cons 
  (.par2 8 7 (.new (.lst .nil)) (.con (.int 0))) (.cons 
  (.whil (.cmp .lt (.bi .len (.cons (.var 8) .nil)) (.var 6)) (.cons (.iff (.cmp .notin (.var 7) (.var 4)) (.cons (.exp (.mt .append (.var 8) (.cons (.var 7) .nil))) .nil) .nil) (.cons (.set 7 (.bin .add (.var 7) (.con (.int 1)))) .nil))) (.cons 
  (.frz 8) (.cons 
  (.ret (.tup (.cons (.bi .sorted (.cons (.var 4) .nil)) (.cons (.var 8) .nil)))) .nil)))))))
def f16 : Fn := { np := 4, ns := 11, body := b16, tr := true }
def d16 : Df := { name := "_law_integers", ps := [("holders" : Str), ("holder" : Str), ("constants" : Str), ("records" : Str)], N := [("holders" : Str), ("holder" : Str), ("constants" : Str), ("records" : Str), ("known" : Str), ("record" : Str), ("many" : Str), ("integer" : Str), ("fresh" : Str), ("constant" : Str), ("at" : Str)], fn := f16, st := topS 19 }
def b17 : MSs := (.cons 
  (.set 2 (.bin .add (.lst (.cons (.con (.int 1)) .nil)) (.bin .mul (.lst (.cons (.con (.int 0)) .nil)) (.var 1)))) (.cons 
  (.forr (.nm 3) (.rg1 (.var 1)) (.cons (.set 2 (.lc [4] (.nm 4) (.rg1 (.bin .add (.var 1) (.con (.int 1)))) .nil (.bin .add (.bin .mul (.idx (.var 2) (.var 4)) (.bin .add (.var 0) (.var 4))) (.ife (.cmp .gt (.var 4) (.con (.int 0))) (.idx (.var 2) (.bin .sub (.var 4) (.con (.int 1)))) (.con (.int 0)))))) .nil)) (.cons 
  (.ret (.bi .sum (.cons (.var 2) .nil))) .nil)))
def f17 : Fn := { np := 2, ns := 5, body := b17, tr := true }
def d17 : Df := { name := "_law_count", ps := [("many" : Str), ("fields" : Str)], N := [("many" : Str), ("fields" : Str), ("rows" : Str), ("field" : Str), ("j" : Str)], fn := f17, st := topS 20 }
def b18 : MSs := (.cons 
  (.set 4 (.lst (.cons (.tup (.cons (.tup .nil) (.cons (.con (.int 0)) .nil))) .nil))) (.cons 
  (.forr (.nm 5) (.rg1 (.bi .len (.cons (.var 0) .nil))) (.cons (.set 4 (.lc [8, 9] (.tup2 (.nm 8) (.nm 9)) (.ov (.var 4)) .nil (.tup (.cons (.bin .add (.var 8) (.tup (.cons (.tup .nil) .nil))) (.cons (.var 9) .nil))))) (.cons (.forr (.nm 6) (.ov (.ife (.cmp .ne (.var 5) (.var 1)) (.idx (.idx (.var 0) (.var 5)) (.con (.int 1))) (.tup .nil))) (.cons (.set 7 (.new (.lst .nil))) (.cons (.forr (.tup2 (.nm 8) (.nm 9)) (.ov (.var 4)) (.cons (.forr (.nm 10) (.ov (.bin .add (.var 2) (.slc (.var 3) .non (.som (.bin .add (.var 9) (.con (.int 1))))))) (.cons (.set 11 (.bin .add (.var 9) (.bi .int (.cons (.and (.cmp .lt (.var 9) (.bi .len (.cons (.var 3) .nil))) (.cmp .eq (.var 10) (.idx (.var 3) (.var 9)))) .nil)))) (.cons (.exp (.mt .append (.var 7) (.cons (.tup (.cons (.bin .add (.slc (.var 8) .non (.som (.neg (.con (.int 1))))) (.tup (.cons (.bin .add (.idx (.var 8) (.neg (.con (.int 1)))) (.tup (.cons (.var 10) .nil))) .nil))) (.cons (.var 11) .nil))) .nil))) .nil))) .nil)) (.cons (.frz 7) (.cons (.set 4 (.var 7)) .nil))))) .nil))) (.cons 
  (.ret (.bi .tuple (.cons (.bi .sorted (.cons (.lc [8, 9] (.tup2 (.nm 8) (.nm 9)) (.ov (.var 4)) .nil (.var 8)) .nil)) .nil))) .nil)))
def f18 : Fn := { np := 4, ns := 12, body := b18, tr := true }
def d18 : Df := { name := "_law_worlds", ps := [("holders" : Str), ("holder" : Str), ("known" : Str), ("fresh" : Str)], N := [("holders" : Str), ("holder" : Str), ("known" : Str), ("fresh" : Str), ("rows" : Str), ("at" : Str), ("field" : Str), ("more" : Str), ("world" : Str), ("come" : Str), ("integer" : Str), ("later" : Str)], fn := f18, st := topS 21 }
def b19 : MSs := (.cons 
  (.set 4 (.new (.lst .nil))) (.cons 
  (.forr (.nm 5) (.rg1 (.call 10 (.cons (.var 0) (.cons (.con (.int 8)) (.cons (.con (.int 4)) .nil))))) (.cons (.set 6 (.new (.lst .nil))) (.cons (.forr (.nm 7) (.ov (.idx (.idx (.var 1) (.var 2)) (.con (.int 1)))) (.cons (.set 8 (.call 10 (.cons (.var 0) (.cons (.con (.int 9)) (.cons (.con (.int 4)) .nil))))) (.cons (.exp (.mt .append (.var 6) (.cons (.ife (.and (.cmp .eq (.var 8) (.con (.int 0))) (.cmp .gt (.bi .len (.cons (.var 3) .nil)) (.con (.int 0)))) (.idx (.var 3) (.call 10 (.cons (.var 0) (.cons (.con (.int 10)) (.cons (.bi .len (.cons (.var 3) .nil)) .nil))))) (.ife (.cmp .eq (.var 8) (.con (.int 1))) (.call 10 (.cons (.var 0) (.cons (.con (.int 11)) (.cons (.con (.int 4)) .nil)))) (.call 13 (.cons (.var 0) .nil)))) .nil))) .nil))) (.cons (.exp (.mt .append (.var 4) (.cons (.bi .tuple (.cons (.var 6) .nil)) .nil))) .nil)))) (.cons 
  (.ret (.bi .tuple (.cons (.bin .add (.var 4) (.slc (.var 4) .non (.som (.bi .int (.cons (.cmp .eq (.call 10 (.cons (.var 0) (.cons (.con (.int 12)) (.cons (.con (.int 3)) .nil)))) (.con (.int 0))) .nil))))) .nil))) .nil)))
def f19 : Fn := { np := 4, ns := 9, body := b19, tr := true }
def d19 : Df := { name := "_law_records", ps := [("scale" : Str), ("holders" : Str), ("holder" : Str), ("constants" : Str)], N := [("scale" : Str), ("holders" : Str), ("holder" : Str), ("constants" : Str), ("told" : Str), ("lap" : Str), ("row" : Str), ("field" : Str), ("way" : Str)], fn := f19, st := topS 22 }
def b20 : MSs := (.cons 
  (.set 2 (.call 12 (.cons (.var 0) .nil))) (.cons 
  (.set 3 (.bi .sorted (.cons (.dcp (.cons (.lc [11] (.nm 11) (.rg1 (.call 10 (.cons (.var 0) (.cons (.con (.int 13)) (.cons (.con (.int 5)) .nil))))) .nil (.tup (.cons (.call 13 (.cons (.var 0) .nil)) (.cons (.con (.bool true)) .nil)))) .nil)) .nil))) (.cons 
  (.par2 7 8 (.call 14 (.cons (.var 0) (.cons (.var 2) (.cons (.var 3) .nil)))) (.call 10 (.cons (.var 0) (.cons (.con (.int 14)) (.cons (.bi .len (.cons (.var 2) .nil)) .nil))))) (.cons 
  (.set 4 (.call 19 (.cons (.var 0) (.cons (.var 2) (.cons (.var 8) (.cons (.var 3) .nil)))))) (.cons 
  (.asg (.tup2 (.nm 9) (.nm 10)) (.call 16 (.cons (.var 2) (.cons (.var 8) (.cons (.var 3) (.cons (.var 4) .nil)))))) (.cons 
  (.whil (.and (.cmp .gt (.call 17 (.cons (.bi .len (.cons (.var 9) .nil)) (.cons (.bi .len (.cons (.var 10) .nil)) .nil))) (.var 1)) (.cmp .gt (.bi .len (.cons (.var 4) .nil)) (.con (.int 0)))) (.cons (.set 4 (.slc (.var 4) (.som (.con (.int 1))) .non)) (.cons (.asg (.tup2 (.nm 9) (.nm 10)) (.call 16 (.cons (.var 2) (.cons (.var 8) (.cons (.var 3) (.cons (.var 4) .nil)))))) .nil))) (.cons 
  (.set 5 (.bi .tuple (.cons (.bi .sorted (.cons (.bin .add (.var 9) (.var 10)) .nil)) .nil))) (.cons 
  (.iff (.not (.call 11 (.cons (.tup (.cons (.call 6 (.cons (.var 7) (.cons (.var 8) (.cons (.var 4) .nil)))) (.cons (.callk 6 .nil (.cons (.rev (.var 4)) (.cons (.var 8) (.cons (.var 7) .nil))) [2, 1, 0]) .nil))) (.cons (.tup (.cons (.var 5) (.cons (.var 5) .nil))) .nil)))) (.cons (.ret (.con (.bool false))) .nil) .nil) (.cons 
  (.iff (.cmp .gt (.call 17 (.cons (.bi .len (.cons (.var 9) .nil)) (.cons (.bi .len (.cons (.var 10) .nil)) .nil))) (.var 1)) (.cons (.ret (.con (.bool true))) .nil) .nil) (.cons 
  (.set 6 (.call 18 (.cons (.var 2) (.cons (.var 8) (.cons (.var 9) (.cons (.var 10) .nil)))))) (.cons 
  (.ret (.call 11 (.cons (.call 8 (.cons (.var 7) (.cons (.var 8) (.cons (.var 4) .nil)))) (.cons (.var 6) .nil)))) .nil)))))))))))
def f20 : Fn := { np := 2, ns := 12, body := b20, tr := true }
def d20 : Df := { name := "_law_asked", ps := [("scale" : Str), ("most" : Str)], N := [("scale" : Str), ("most" : Str), ("holders" : Str), ("constants" : Str), ("records" : Str), ("integers" : Str), ("due" : Str), ("program" : Str), ("holder" : Str), ("known" : Str), ("fresh" : Str), ("lap" : Str)], fn := f20, st := topS 23 }
def b21 : MSs := (.cons 
  (.set 1 (.call 9 (.cons (.var 0) .nil))) (.cons 
  (.set 2 (.cmp .eq (.call 10 (.cons (.var 1) (.cons (.con (.int 15)) (.cons (.con (.int 13)) .nil)))) (.con (.int 4)))) (.cons 
  (.forr (.nm 3) (.rg1 (.con (.int 4))) (.cons (.iff (.not (.call 20 (.cons (.var 1) (.cons (.ife (.and (.var 2) (.cmp .eq (.var 3) (.con (.int 0)))) (.con (.int 3000)) (.con (.int 300))) .nil)))) (.cons (.ret (.con (.bool false))) .nil) .nil) .nil)) (.cons 
  (.set 4 (.tup (.cons (.tup (.cons (.tup (.cons (.con (.str ("a" : Str))) (.cons (.tup (.cons (.con (.str ("x" : Str))) .nil)) .nil))) (.cons (.tup (.cons (.con (.str ("b" : Str))) (.cons (.tup (.cons (.con (.str ("y" : Str))) .nil)) .nil))) (.cons (.tup (.cons (.con (.str ("c" : Str))) (.cons (.tup (.cons (.con (.str ("z" : Str))) .nil)) .nil))) .nil)))) (.cons (.tup (.cons (.tup (.cons (.con (.str ("q" : Str))) (.cons (.tup .nil) .nil))) .nil)) .nil)))) (.cons 
  (.set 5 (.tup (.cons (.call 6 (.cons (.var 4) (.cons (.con (.int 1)) (.cons (.tup .nil) .nil)))) (.cons (.call 8 (.cons (.var 4) (.cons (.con (.int 1)) (.cons (.tup .nil) .nil)))) (.cons (.call 8 (.cons (.var 4) (.cons (.con (.int 2)) (.cons (.tup (.cons (.tup (.cons (.con (.int 0)) .nil)) .nil)) .nil)))) .nil))))) (.cons 
  (.set 6 (.tup (.cons (.tup (.cons (.con (.int 0)) (.cons (.con (.int 1)) .nil))) (.cons (.tup (.cons (.tup (.cons (.tup (.cons (.con (.int 0)) .nil)) (.cons (.tup .nil) (.cons (.tup (.cons (.con (.int 0)) .nil)) .nil)))) (.cons (.tup (.cons (.tup (.cons (.con (.int 0)) .nil)) (.cons (.tup .nil) (.cons (.tup (.cons (.con (.int 1)) .nil)) .nil)))) .nil))) (.cons (.tup (.cons (.tup (.cons (.tup (.cons (.con (.int 0)) .nil)) (.cons (.tup (.cons (.con (.int 0)) .nil)) (.cons (.tup .nil) .nil)))) (.cons (.tup (.cons (.tup (.cons (.con (.int 0)) .nil)) (.cons (.tup (.cons (.con (.int 1)) .nil)) (.cons (.tup .nil) .nil)))) (.cons (.tup (.cons (.tup (.cons (.con (.int 1)) .nil)) (.cons (.tup (.cons (.con (.int 0)) .nil)) (.cons (.tup .nil) .nil)))) (.cons (.tup (.cons (.tup (.cons (.con (.int 1)) .nil)) (.cons (.tup (.cons (.con (.int 1)) .nil)) (.cons (.tup .nil) .nil)))) (.cons (.tup (.cons (.tup (.cons (.con (.int 1)) .nil)) (.cons (.tup (.cons (.con (.int 2)) .nil)) (.cons (.tup .nil) .nil)))) .nil)))))) .nil))))) (.cons 
  (.iff (.not (.call 11 (.cons (.var 5) (.cons (.var 6) .nil)))) (.cons (.ret (.con (.bool false))) .nil) .nil) (.cons 
  (.set 7 (.tup (.cons (.tup (.cons (.tup (.cons (.con (.str ("a" : Str))) (.cons (.tup (.cons (.con (.str ("x" : Str))) (.cons (.con (.str ("y" : Str))) .nil))) .nil))) .nil)) (.cons (.tup (.cons (.tup (.cons (.con (.str ("q" : Str))) (.cons (.tup (.cons (.tup (.cons (.con (.str ("show" : Str))) (.cons (.tup (.cons (.con (.str ("c" : Str))) (.cons (.con (.int 4)) .nil))) .nil))) .nil)) .nil))) (.cons (.tup (.cons (.con (.str ("r" : Str))) (.cons (.tup (.cons (.tup (.cons (.con (.str ("say" : Str))) (.cons (.con (.str ("no" : Str))) .nil))) .nil)) .nil))) (.cons (.tup (.cons (.con (.str ("s" : Str))) (.cons (.tup (.cons (.tup (.cons (.con (.str ("show" : Str))) (.cons (.tup (.cons (.con (.str ("c" : Str))) (.cons (.neg (.con (.int 4))) .nil))) .nil))) (.cons (.tup (.cons (.con (.str ("show" : Str))) (.cons (.tup (.cons (.con (.str ("c" : Str))) (.cons (.con (.int 4)) .nil))) .nil))) .nil))) .nil))) .nil)))) .nil)))) (.cons 
  (.set 5 (.tup (.cons (.call 6 (.cons (.var 7) (.cons (.con (.int 0)) (.cons (.tup (.cons (.tup (.cons (.con (.int 0)) (.cons (.con (.int 9)) .nil))) .nil)) .nil)))) (.cons (.callk 8 .nil (.cons (.var 7) (.cons (.con (.int 0)) (.cons (.tup (.cons (.tup (.cons (.con (.int 0)) (.cons (.con (.int 9)) .nil))) (.cons (.tup (.cons (.con (.int 4)) (.cons (.con (.int 4)) .nil))) .nil))) .nil))) [0, 1, 2]) (.cons (.call 6 (.cons (.var 7) (.cons (.con (.int 0)) (.cons (.tup .nil) .nil)))) .nil))))) (.cons 
  (.ret (.call 11 (.cons (.var 5) (.cons (.tup (.cons (.tup (.cons (.neg (.con (.int 4))) (.cons (.con (.int 0)) (.cons (.con (.int 4)) (.cons (.con (.int 9)) .nil))))) (.cons (.tup (.cons (.tup (.cons (.tup .nil) .nil)) .nil)) (.cons (.tup (.cons (.neg (.con (.int 4))) (.cons (.con (.int 4)) .nil))) .nil)))) .nil)))) .nil))))))))))
def f21 : Fn := { np := 1, ns := 8, body := b21, tr := true }
def d21 : Df := { name := "law", ps := [("script" : Str)], N := [("script" : Str), ("scale" : Str), ("great" : Str), ("lap" : Str), ("bare" : Str), ("told" : Str), ("due" : Str), ("lone" : Str)], fn := f21, st := topS 24 }
def tx : Tx := { ds := [d0, d1, d2, d3, d4, d5, d6, d7, d8, d9, d10, d11, d12, d13, d14, d15, d16, d17, d18, d19, d20, d21], gl := [], bl := [("abs" : Str), ("bool" : Str), ("dict" : Str), ("enumerate" : Str), ("int" : Str), ("isinstance" : Str), ("len" : Str), ("list" : Str), ("range" : Str), ("sorted" : Str), ("sum" : Str), ("tuple" : Str)], kb := [⟨6, 0, [("records" : Str), ("holder" : Str), ("program" : Str)], [2, 1, 0]⟩, ⟨8, 0, [("program" : Str), ("holder" : Str), ("records" : Str)], [0, 1, 2]⟩] }
def Gc : Nat → Option D := fun _ => none
theorem chk : tx.ds.all (chkD 100 tx) = true := by decide +kernel
end Mp.k09
end
section
set_option maxHeartbeats 4000000
namespace Mp.k09
open PySem PySem.Spec PyProof.Rows L2 Mp

/-! ### the scale -/
def scM (s : List D) (G L : List Int) (c d : Int) (R : Mem) : Mem := .scr s :: .lst (G.map .int) :: .lst (L.map .int) :: .box [.ref 2, .d (.int c), .d (.int d)] :: R
def Sk (s : List D) (R M : Mem) : Prop := ∃ (G L : List Int) (c d : Int), L.length ≤ 43 ∧ M = scM s G L c d R
theorem Sk.len {s : List D} {R M : Mem} (h : Sk s R M) : M.length = R.length + 4 := by
  obtain ⟨G, L, c, d, _, rfl⟩ := h
  simp [scM]
theorem Sk.get {s : List D} {R M : Mem} (h : Sk s R M) (i : Nat) : M[i + 4]? = R[i]? := by
  obtain ⟨G, L, c, d, _, rfl⟩ := h
  rfl
theorem Sk.set {s : List D} {R M : Mem} (h : Sk s R M) (i : Nat) (ob : Ob) : Sk s (R.set i ob) (M.set (i + 4) ob) := by
  obtain ⟨G, L, c, d, hL, rfl⟩ := h
  exact ⟨G, L, c, d, hL, rfl⟩
theorem Sk.app {s : List D} {R M : Mem} (h : Sk s R M) (ob : Ob) : Sk s (R ++ [ob]) (M ++ [ob]) := by
  obtain ⟨G, L, c, d, hL, rfl⟩ := h
  exact ⟨G, L, c, d, hL, rfl⟩
theorem Sk.take {s : List D} {R R' M : Mem} (h : Sk s (R ++ R') M) : Sk s R (M.take (R.length + 4)) := by
  obtain ⟨G, L, c, d, hL, rfl⟩ := h
  exact ⟨G, L, c, d, hL, by simp [scM]⟩
theorem t10 (m : Nat) {s : List D} {R M : Mem} {pl many : Int} (h : Sk s R M) (hp0 : 0 ≤ pl) (hp1 : pl ≤ 1000) (h1 : 1 ≤ many) (h2 : many < 2 ^ 62) :
    ∃ r M', callAt Gc tx.T (m + 1) 10 [.ref 3, .d (.int pl), .d (.int many)] M = .ok (.d (.int r)) M' ∧ Sk s R M' ∧ 0 ≤ r ∧ r < many := by
  obtain ⟨G, L, c, d, hL, rfl⟩ := h
  rw [call_is (f := f10) rfl]
  have hs : small many = true := small_ok (by omega)
  by_cases hm2 : many < 2
  · refine ⟨0, scM s G L c d R, ?_, ⟨G, L, c, d, hL, rfl⟩, by omega, by omega⟩
    simp [runFn, f10, b10, hm2, outV]
  have hpm : 0 < many := by omega
  have hm2' : (decide (many < 2)) = false := decide_eq_false hm2
  rcases List.eq_nil_or_concat L with rfl | ⟨L0, a, rfl⟩
  · have hd : 0 < 53 + 2 * pl := by omega
    have hds : small (53 + 2 * pl) = true := small_ok (by omega)
    have h103 : small 103 = true := small_ok (by decide)
    have hb1 : 0 ≤ d / (53 + 2 * pl) % 17 := Int.emod_nonneg _ (by decide)
    have hb2 : d / (53 + 2 * pl) % 17 < 17 := Int.emod_lt_of_pos _ (by decide)
    let c' : Int := (c * 17507 + 71 * pl + 113) % 2147480683
    have hmm : mulOk (d / (53 + 2 * pl) % 17 - 15) (many - 1) = true := mul_ok (by omega)
    have hm3 : mulOk c 17507 = true := mul_ok (by decide)
    have hm4 : mulOk 71 pl = true := mul_ok (by omega)
    have hm5 : mulOk 2 pl = true := mul_ok (by omega)
    by_cases hq : pl = 0 ∨ d / (53 + 2 * pl) % 17 < 15
    · refine ⟨c' / 103 % many, scM s G [] c' d R, ?_, ⟨G, [], c', d, by simp, rfl⟩, Int.emod_nonneg _ (by omega), Int.emod_lt_of_pos _ (by omega)⟩
      by_cases hq1 : pl = 0
      · subst hq1
        have hm4 : mulOk 71 0 = true := mul_ok (by decide)
        have hm5 : mulOk 2 0 = true := mul_ok (by decide)
        have hds : small 53 = true := small_ok (by decide)
        simp [runFn, f10, b10, hm2, scM, x_ixb, x_lenr, L2.atI, L2.ixN, x_setb, okRef, h103, hds, hm3, hm4, hm5, hpm, outV, c']
      · have hq2 := hq.resolve_left hq1
        simp [runFn, f10, b10, hm2, scM, x_ixb, x_lenr, L2.atI, L2.ixN, x_setb, okRef, h103, hds, hd, hm3, hm4, hm5, hpm, outV, c', hq1, hq2]
    · have hq1 : ¬ pl = 0 := fun e => hq (.inl e)
      have hq2 : ¬ d / (53 + 2 * pl) % 17 < 15 := fun e => hq (.inr e)
      have hq3 : d / (53 + 2 * pl) % 17 = 15 ∨ d / (53 + 2 * pl) % 17 = 16 := by omega
      refine ⟨(d / (53 + 2 * pl) % 17 - 15) * (many - 1), scM s G [] c' d R, ?_, ⟨G, [], c', d, by simp, rfl⟩, ?_, ?_⟩
      · simp [runFn, f10, b10, hm2, scM, x_ixb, x_lenr, L2.atI, L2.ixN, x_setb, okRef, h103, hds, hd, hm3, hm4, hm5, hpm, outV, c', hq1, hq2, hmm]
      · rcases hq3 with e | e <;> rw [e] <;> simp <;> omega
      · rcases hq3 with e | e <;> rw [e] <;> simp <;> omega
  · rw [List.concat_eq_append] at hL ⊢
    have hL0 : L0.length + 1 ≤ 43 := by simpa using hL
    have hll : L0.length < lim := by unfold lim; omega
    have hg : ((L0 ++ [a]).map PyData.int)[((L0 ++ [a]).map PyData.int).length - 1]? = some (.int a) := by simp
    have hdl : ((L0 ++ [a]).map PyData.int).dropLast = L0.map .int := by simp
    have hr : (scM s G (L0 ++ [a]) c d R)[2]? = some (.lst ((L0 ++ [a]).map .int)) := rfl
    have hb : (scM s G (L0 ++ [a]) c d R)[3]? = some (.box [.ref 2, .d (.int c), .d (.int d)]) := rfl
    have hset : (scM s G (L0 ++ [a]) c d R).set 2 (.lst (L0.map .int)) = scM s G L0 c d R := rfl
    have hpop := x_pop0 hr
    rw [hg, hdl, hset] at hpop
    have hb2 : (scM s G L0 c d R)[3]? = some (.box [.ref 2, .d (.int c), .d (.int d)]) := rfl
    have hr2 : (scM s G L0 c d R)[2]? = some (.lst (L0.map .int)) := rfl
    have happ : mtV .append (scM s G L0 c d R) (.ref 2) [.d (.int (a / many))] = some (.d .none, scM s G (L0 ++ [a / many]) c d R) := by
      rw [x_app hr2, List.length_map, if_pos hll]
      simp [scM]
    have k1 := x_kind (m := .pop0) (fun h => by cases h) (fun h => by cases h) hr
    have k2 := x_kind (m := .append) (fun h => by cases h) (fun h => by cases h) hr2
    have hlen := x_lenr hr
    have i1 : idxV (scM s G (L0 ++ [a]) c d R) (.ref 3) (.d (.int 0)) = some (.ref 2) := by rw [x_ixb hb, atI0]
    have i2 : idxV (scM s G L0 c d R) (.ref 3) (.d (.int 0)) = some (.ref 2) := by rw [x_ixb hb2, atI0]
    have hp : (0 : Int) < ((L0 ++ [a]).map PyData.int).length := by rw [List.length_map, List.length_append, List.length_singleton]; omega
    have htk : ∀ L' : List Int, (scM s G L' c d R).take (scM s G (L0 ++ [a]) c d R).length = scM s G L' c d R := fun L' => List.take_of_length_le (by simp [scM])
    have tk1 := htk L0
    have tk2 := htk (L0 ++ [a / many])
    by_cases ha : many ≤ a
    · refine ⟨a % many, scM s G (L0 ++ [a / many]) c d R, ?_, ⟨G, L0 ++ [a / many], c, d, by simpa using hL0, rfl⟩, Int.emod_nonneg _ (by omega), Int.emod_lt_of_pos _ (by omega)⟩
      generalize ((L0 ++ [a]).map PyData.int).length = n at *
      generalize scM s G (L0 ++ [a]) c d R = M0 at *
      generalize scM s G L0 c d R = M1 at *
      generalize scM s G (L0 ++ [a / many]) c d R = M2 at *
      have hp' : 0 < n := by omega
      simp [runFn, f10, b10, hm2, i1, i2, hlen, hp', k1, k2, hpop, happ, ha, hpm, hs, outV, tk2]
    · refine ⟨a % many, scM s G L0 c d R, ?_, ⟨G, L0, c, d, by omega, rfl⟩, Int.emod_nonneg _ (by omega), Int.emod_lt_of_pos _ (by omega)⟩
      generalize ((L0 ++ [a]).map PyData.int).length = n at *
      generalize scM s G (L0 ++ [a]) c d R = M0 at *
      generalize scM s G L0 c d R = M1 at *
      have hp' : 0 < n := by omega
      simp [runFn, f10, b10, hm2, i1, i2, hlen, hp', k1, k2, hpop, ha, hpm, hs, outV, tk1]
/-! ### the same -/
/-- whole numbers and rows of them -/
def pn : Nat → D → Bool
  | _, .int _ => true
  | d + 1, .tuple xs => xs.all (pn d) && decide (xs.length ≤ lim)
  | _, _ => false
theorem same : ∀ (d m : Nat) (x : D) (M : Mem), pn d x = true → callAt Gc tx.T (m + d + 1) 11 [.d x, .d x] M = .ok (.d (.bool true)) M := by
  intro d
  induction d with
  | zero =>
    intro m x M h
    rw [call_is (f := f11) rfl]
    cases x with
    | int i => simp [runFn, f11, b11, isD, outV]
    | _ => cases h
  | succ d ih =>
    intro m x M h
    rw [show m + (d + 1) + 1 = (m + d + 1) + 1 by omega, call_is (f := f11) rfl]
    cases x with
    | int i => simp [runFn, f11, b11, isD, outV]
    | tuple xs =>
      have h' : (xs.all (pn d) && decide (xs.length ≤ lim)) = true := h
      rw [Bool.and_eq_true] at h'
      have hl : xs.length ≤ lim := of_decide_eq_true h'.2
      have hr := rngOk_n hl
      have e := lcL_fil (tg := .nm 2) (own := [2]) (c := evE Gc (callAt Gc tx.T (m + d + 1)) (.not (.call 11 (.cons (.idx (.var 0) (.var 2)) (.cons (.idx (.var 1) (.var 2)) .nil))))) (f := evE Gc (callAt Gc tx.T (m + d + 1)) (.con (.int 1)))
        (σ := [some (.d (.tuple xs)), some (.d (.tuple xs)), none]) (M := M) (p := fun _ => false) (y := fun x => .int 1) (xs := (rI xs.length).map .int) (fun x hx => by
          obtain ⟨a, ha, rfl⟩ := List.mem_map.mp hx
          obtain ⟨a0, a1⟩ := mem_rI.mp ha
          have hn : a.toNat < xs.length := by omega
          have hat : L2.atI xs a = some xs[a.toNat] := by
            have := L2.atI_nat (List.getElem?_eq_getElem hn)
            rw [show ((a.toNat : Nat) : Int) = a by omega] at this
            exact this
          have hc := ih m xs[a.toNat] M (List.all_eq_true.mp h'.1 _ (List.getElem_mem hn))
          exact ⟨_, rfl, by simp [sTst, wipeE, hat, hc], fun z => by cases z⟩)
      have e0 : ∀ l : List D, l.filter (fun _ => false) = [] := fun l => List.filter_eq_nil_iff.mpr fun _ _ => Bool.false_ne_true
      rw [e0] at e
      simp only [runFn, f11, b11]
      simp [evC, hr, rngD_rI, isD] at e ⊢
      rw [e]
      simp [outV]
    | _ => cases h
theorem pn_iT {d : Nat} {p : List Int} (h : p.length ≤ lim) : pn (d + 1) (iT p) = true := by
  show ((p.map PyData.int).all (pn d) && decide ((p.map PyData.int).length ≤ lim)) = true
  rw [List.length_map, decide_eq_true h, Bool.and_true]
  refine List.all_eq_true.mpr fun x hx => ?_
  obtain ⟨a, _, rfl⟩ := List.mem_map.mp hx
  cases d <;> rfl
/-- the whole numbers that are drawn -/
theorem t13 (m : Nat) {s : List D} {R M : Mem} (h : Sk s R M) : ∃ r M', callAt Gc tx.T (m + 2) 13 [.ref 3] M = .ok (.d (.int r)) M' ∧ Sk s R M' := by
  obtain ⟨r, M', g, h', r0, r1⟩ := t10 m h (pl := 2) (many := 8) (by decide) (by decide) (by decide) (by decide)
  have l8 : 8 ≤ lim := by unfold lim; omega
  obtain ⟨x, hx, hm⟩ := atI_get (xs := [PyData.int 0, .int 1, .int 2, .int 5, .int (-1), .int (10 ^ (9 : Int).toNat), .int 3, .int (-7)]) r0 r1
  obtain ⟨y, rfl⟩ : ∃ y, x = .int y := by
    simp only [List.mem_cons, List.not_mem_nil, or_false] at hm
    rcases hm with rfl | rfl | rfl | rfl | rfl | rfl | rfl | rfl <;> exact ⟨_, rfl⟩
  refine ⟨y, M', ?_, h'⟩
  have htk : M'.take M.length = M' := List.take_of_length_le (by rw [h.len, h'.len]; exact Nat.le_refl _)
  rw [call_is (f := f13) rfl]
  have hp : (decide ((0 : Int) ≤ 9) && (decide ((9 : Int) ≤ 1000000) && decide ((10 : Int).natAbs < 2 ^ 64) || decide ((9 : Int) ≤ 1000) && decide ((10 : Int).natAbs < 2 ^ 250))) = true := by decide
  have hx' : L2.atI [PyData.int 0, .int 1, .int 2, .int 5, .int (-1), .int 1000000000, .int 3, .int (-7)] r = some (.int y) := hx
  simp [runFn, f13, b13, outV, l8, g, hx', htk]
end Mp.k09
end
section
set_option maxHeartbeats 4000000
namespace Mp.k09
open PySem PySem.Spec PyProof.Rows L2 Mp

def eBig : ME := .bin .pow (.bin .pow (.con (.int 10)) (.con (.int 27))) (.con (.int 9))
theorem h_big {C : CT} : ∃ K : Int, 0 < K ∧ ∀ σ M, evE Gc C eBig σ M = .ok (.d (.int K)) M := by
  refine ⟨((10 : Int) ^ (27 : Int).toNat) ^ (9 : Int).toNat, Int.pow_pos (Int.pow_pos (by decide)), fun σ M => ?_⟩
  unfold eBig
  rw [x_bin, x_bin, x_con, x_bok, x_con, x_bok, x_rdd, x_rdd]
  dsimp only
  rw [x_powi, if_pos (by decide), x_ofS, x_bok, x_bok, x_con, x_bok, x_rdd, x_rdd]
  dsimp only
  rw [x_powi, if_pos (by decide +kernel), x_ofS, x_bok]
def eMid : ME := .bin .pow (.con (.int 10)) (.con (.int 13))
theorem h_mid {C : CT} : ∃ K : Int, ∀ σ M, evE Gc C eMid σ M = .ok (.d (.int K)) M := by
  refine ⟨(10 : Int) ^ (13 : Int).toNat, fun σ M => ?_⟩
  unfold eMid
  rw [x_bin, x_con, x_bok, x_con, x_bok, x_rdd, x_rdd]
  dsimp only
  rw [x_powi, if_pos (by decide), x_ofS, x_bok]
def s9a : MS := .set 4 (.bin .mod (.bi .abs (.cons (.bi .int (.cons (.var 1) .nil)) .nil)) eBig)
def s9b : MS := .set 3 (.bin .mod (.bi .int (.cons (.bin .add (.bin .add (.bin .add (.bin .mul (.var 3) (.con (.int 28019))) (.bin .mod (.var 4) (.con (.int 989381)))) (.bin .mul (.con (.int 29)) (.bi .int (.cons (.cmp .lt (.bi .int (.cons (.var 1) .nil)) (.con (.int 0))) .nil)))) (.con (.int 13))) .nil)) (.con (.int 2147480683)))
def s9c : MS := .iff (.cmp .gt (.var 4) eMid) (.cons (.exp (.mt .append (.var 2) (.cons (.var 4) .nil))) .nil) .nil
def b9in : MSs := .cons s9a (.cons s9b (.cons s9c .nil))
theorem b9_is : b9 = .cons (.par2 2 3 (.new (.lst .nil)) (.con (.int 16091))) (.cons (.forr (.nm 1) (.ov (.slc (.var 0) .non (.som (.con (.int 43))))) b9in) (.cons (nthS b9 2) .nil)) := rfl
section
variable {C : CT} {s : List D} {G : List Int} {a load : Int} {z : Option Val}
def M9 (s : List D) (G : List Int) : Mem := [.scr s, .lst (G.map .int)]
theorem e9a : ∃ z', evS Gc C s9a [some (.ref 0), some (.d (.int a)), some (.ref 1), some (.d (.int load)), z] (M9 s G) = .ok (.nx [some (.ref 0), some (.d (.int a)), some (.ref 1), some (.d (.int load)), some (.d (.int z'))]) (M9 s G) := by
  obtain ⟨K, hK, h⟩ := h_big (C := C)
  refine ⟨(if a < 0 then -a else a) % K, ?_⟩
  simp [s9a, h, hK]
theorem e9b {b : Int} : ∃ l', evS Gc C s9b [some (.ref 0), some (.d (.int a)), some (.ref 1), some (.d (.int load)), some (.d (.int b))] (M9 s G) = .ok (.nx [some (.ref 0), some (.d (.int a)), some (.ref 1), some (.d (.int l')), some (.d (.int b))]) (M9 s G) := by
  have h1 : mulOk load 28019 = true := mul_ok (by decide)
  have h2 : ∀ t : Int, (t = 0 ∨ t = 1) → mulOk 29 t = true := fun t ht => mul_ok (by rcases ht with rfl | rfl <;> decide)
  have h3 := h2 0 (.inl rfl)
  have h4 := h2 1 (.inr rfl)
  by_cases hn : a < 0
  · exact ⟨_, by simp [s9b, h1, h3, h4, hn]; rfl⟩
  · exact ⟨_, by simp [s9b, h1, h3, h4, hn]; rfl⟩
theorem e9c {b : Int} (hl : G.length < lim) : ∃ G', G'.length ≤ G.length + 1 ∧ evS Gc C s9c [some (.ref 0), some (.d (.int a)), some (.ref 1), some (.d (.int load)), some (.d (.int b))] (M9 s G) = .ok (.nx [some (.ref 0), some (.d (.int a)), some (.ref 1), some (.d (.int load)), some (.d (.int b))]) (M9 s G') := by
  obtain ⟨K, h⟩ := h_mid (C := C)
  by_cases hb : K < b
  · refine ⟨G ++ [b], by simp, ?_⟩
    have hr : (M9 s G)[1]? = some (.lst (G.map .int)) := rfl
    have ha := x_app (x := .int b) hr
    rw [if_pos (by rw [List.length_map]; exact hl)] at ha
    have hk := x_kind (m := .append) (fun h => by cases h) (fun h => by cases h) hr
    have e : (M9 s G).set 1 (.lst (G.map .int ++ [.int b])) = M9 s (G ++ [b]) := by simp [M9]
    rw [e] at ha
    simp [s9c, h, hb, hk, ha]
  · exact ⟨G, by omega, by simp [s9c, h, hb]⟩
end
theorem t9 (m : Nat) {ns : List Int} (hn : ns.length ≤ 63) : ∃ M, callAt Gc tx.T (m + 1) 9 [.ref 0] [.scr (ns.map .int)] = .ok (.ref 3) M ∧ Sk (ns.map .int) [] M := by
  rw [call_is (f := f9) rfl]
  let s : List D := ns.map .int
  have hls : s.length = ns.length := List.length_map _
  obtain ⟨σ', M', e, G, y, z, load, rfl, rfl, hG⟩ := forL_go (tg := .nm 1) (b := evSs Gc (callAt Gc tx.T m) b9in) (xs := s.take 43) (σ := [some (.ref 0), none, some (.ref 1), some (.d (.int 16091)), none]) (M := M9 s [])
    (fun i σ M => ∃ (G : List Int) (y z : Option Val) (load : Int), σ = [some (.ref 0), y, some (.ref 1), some (.d (.int load)), z] ∧ M = M9 s G ∧ G.length ≤ i) ⟨[], none, none, 16091, rfl, rfl, Nat.le_refl _⟩ (by
    rintro i x σ M hx ⟨G, y, z, load, rfl, rfl, hG⟩
    have hi := (List.getElem?_eq_some_iff.mp hx).1
    rw [List.length_take] at hi
    obtain ⟨a, rfl⟩ : ∃ a, x = .int a := by
      have := List.mem_of_mem_take (List.mem_of_getElem? hx)
      obtain ⟨a, _, rfl⟩ := List.mem_map.mp this
      exact ⟨a, rfl⟩
    obtain ⟨z', h1⟩ := e9a (C := callAt Gc tx.T m) (s := s) (G := G) (a := a) (load := load) (z := z)
    obtain ⟨l', h2⟩ := e9b (C := callAt Gc tx.T m) (s := s) (G := G) (a := a) (load := load) (b := z')
    obtain ⟨G', hG', h3⟩ := e9c (C := callAt Gc tx.T m) (s := s) (G := G) (a := a) (load := l') (b := z') (by unfold lim; omega)
    refine ⟨[some (.ref 0), some (.d (.int a)), some (.ref 1), some (.d (.int load)), z], _, _, rfl, ?_, G', some (.d (.int a)), some (.d (.int z')), l', rfl, rfl, by omega⟩
    unfold b9in
    rw [sqn h1, sqn h2, sqn h3, x_snil])
  rw [List.length_take] at hG
  have h3 : 3 ≤ lim := by unfold lim; omega
  have e1 : evS Gc (callAt Gc tx.T m) (.par2 2 3 (.new (.lst .nil)) (.con (.int 16091))) [some (.ref 0), none, none, none, none] [.scr s] = .ok (.nx [some (.ref 0), none, some (.ref 1), some (.d (.int 16091)), none]) (M9 s []) := by
    simp [M9]
  have hc : cutD (.list s) none (some 43) = some (.list (s.take 43)) := by
    show some (PyData.list (cutL s none (some ((43 : Nat) : Int)))) = _
    rw [cutL_take]
  have hrd : rdS (M9 s []) (.ref 0) = some (.list s) := rfl
  have e2 : evS Gc (callAt Gc tx.T m) (.forr (.nm 1) (.ov (.slc (.var 0) .non (.som (.con (.int 43))))) b9in) [some (.ref 0), none, some (.ref 1), some (.d (.int 16091)), none] (M9 s []) = .ok (.nx [some (.ref 0), y, some (.ref 1), some (.d (.int load)), z]) (M9 s G) := by
    rw [x_forr, x_ov, x_slc]
    simp only [x_var, x_gete0, x_ofS, x_bok, x_non, x_som, x_con, hrd, hc]
    exact e
  have hrd2 : rdV [Ob.scr s, Ob.lst (G.map .int)] (.ref 1) = some (.list (G.map .int)) := rfl
  have h4 : mulOk load 601 = true := mul_ok (by decide)
  have e3 : evS Gc (callAt Gc tx.T m) (nthS b9 2) [some (.ref 0), y, some (.ref 1), some (.d (.int load)), z] (M9 s G) = .ok (.rt (.ref 3)) (scM s G G.reverse (load + 9) ((load * 601 + 67) % 999999587) []) := by
    simp [nthS, b9, hrd2, h4, h3, M9, scM, List.map_reverse]
  refine ⟨_, ?_, G, G.reverse, load + 9, (load * 601 + 67) % 999999587, by rw [List.length_reverse]; omega, rfl⟩
  unfold runFn
  rw [show f9.body = b9 from rfl, b9_is]
  show ((evSs Gc _ _ [some (.ref 0), none, none, none, none] [.scr s]).bind _) = _
  rw [sqn e1, sqn e2, sqr e3, x_bok]
  rfl
end Mp.k09
end
section
set_option maxHeartbeats 4000000
namespace Mp.k09
open PySem PySem.Spec PyProof.Rows L2 Mp

/-! ### terms in blocks -/
def stD (s : Str) : D := .str s
theorem q_show1 : eqD (.str ("show" : Str)) (.str ("show" : Str)) = some true := by decide +kernel
theorem q_say1 : eqD (.str ("say" : Str)) (.str ("show" : Str)) = some false := by decide +kernel
theorem q_call1 : eqD (.str ("call" : Str)) (.str ("show" : Str)) = some false := by decide +kernel
theorem q_when1 : eqD (.str ("when" : Str)) (.str ("show" : Str)) = some false := by decide +kernel
theorem q_say2 : eqD (.str ("say" : Str)) (.str ("when" : Str)) = some false := by decide +kernel
theorem q_call2 : eqD (.str ("call" : Str)) (.str ("when" : Str)) = some false := by decide +kernel
theorem q_when2 : eqD (.str ("when" : Str)) (.str ("when" : Str)) = some true := by decide +kernel
theorem q_c : eqD (.str ("c" : Str)) (.str ("c" : Str)) = some true := by decide +kernel
theorem q_f : eqD (.str ("f" : Str)) (.str ("c" : Str)) = some false := by decide +kernel
def row (P : D → List D → Prop) : List D → List D → Prop
  | [], l => l = []
  | x :: xs, l => ∃ l1 l2, P x l1 ∧ row P xs l2 ∧ l = l1 ++ l2
def c3 (c : D × D × D) : D := .tuple [c.1, c.2.1, c.2.2]
def TI : Nat → D → List D → Prop
  | 0, x, l => (∃ t, x = .tuple [.str ("show" : Str), t] ∧ l = [t]) ∨ (∃ a, x = .tuple [.str ("say" : Str), a] ∧ l = []) ∨ (∃ a, x = .tuple [.str ("call" : Str), a] ∧ l = [])
  | n + 1, x, l => (∃ t, x = .tuple [.str ("show" : Str), t] ∧ l = [t]) ∨ (∃ a, x = .tuple [.str ("say" : Str), a] ∧ l = []) ∨ (∃ a, x = .tuple [.str ("call" : Str), a] ∧ l = []) ∨
    ∃ (cs : List (D × D × D)) (b1 b2 l1 l2 : List D), x = .tuple [.str ("when" : Str), .tuple (cs.map c3), .tuple b1, .tuple b2] ∧ row (TI n) b1 l1 ∧ row (TI n) b2 l2 ∧ l = cs.flatMap (fun c => [c.2.1, c.2.2]) ++ l1 ++ l2
def body0 : MSs := bodyOf (nthS b0 1)
def s0w : MSs := .cons (.forr (.tup3 (.nm 3) (.nm 4) (.nm 5)) (.ov (.idx (.var 2) (.con (.int 1)))) (.cons (.set 1 (.new (.bin .add (.var 1) (.lst (.cons (.var 4) (.cons (.var 5) .nil)))))) .nil)) (.cons (.set 1 (.new (.bin .add (.bin .add (.var 1) (.call 0 (.cons (.idx (.var 2) (.con (.int 2))) .nil))) (.call 0 (.cons (.idx (.var 2) (.con (.int 3))) .nil))))) .nil)
theorem body0_is : body0 = .cons (.iff (.cmp .eq (.idx (.var 2) (.con (.int 0))) (.con (.str ("show" : Str)))) (.cons (.exp (.mt .append (.var 1) (.cons (.idx (.var 2) (.con (.int 1))) .nil))) .nil) (.cons (.iff (.cmp .eq (.idx (.var 2) (.con (.int 0))) (.con (.str ("when" : Str)))) s0w .nil) .nil)) .nil := rfl
section
variable {C : CT} {M0 X : Mem} {k : Nat} {acc : List D} {b : Val} {s3 s4 s5 : Option Val}
theorem set_app (M0 X : Mem) (k : Nat) (ob : Ob) : (M0 ++ X).set (M0.length + k) ob = M0 ++ X.set k ob := by
  rw [List.set_append_right _ _ (by omega)]
  congr 2
  omega
theorem get_app (M0 X : Mem) (k : Nat) : (M0 ++ X)[M0.length + k]? = X[k]? := by
  rw [List.getElem?_append_right (by omega)]
  congr 1
  omega
theorem e0_show {t : D} (hX : X[k]? = some (.lst acc)) (hl : acc.length < lim) : evSs Gc C body0 [some b, some (.ref (M0.length + k)), some (.d (.tuple [.str ("show" : Str), t])), s3, s4, s5] (M0 ++ X) =
    .ok (.nx [some b, some (.ref (M0.length + k)), some (.d (.tuple [.str ("show" : Str), t])), s3, s4, s5]) (M0 ++ X.set k (.lst (acc ++ [t]))) := by
  have hr : (M0 ++ X)[M0.length + k]? = some (.lst acc) := by rw [get_app]; exact hX
  have hk := x_kind (m := .append) (fun h => by cases h) (fun h => by cases h) hr
  have ha := x_app (x := t) hr
  rw [if_pos hl, set_app] at ha
  simp [body0_is, L2.atI, L2.ixN, q_show1, hk, ha]
theorem e0_say {a : D} {w : Str} (h1 : eqD (.str w) (.str ("show" : Str)) = some false) (h2 : eqD (.str w) (.str ("when" : Str)) = some false) {M : Mem} {σ : Option Val} : evSs Gc C body0 [some b, σ, some (.d (.tuple [.str w, a])), s3, s4, s5] M =
    .ok (.nx [some b, σ, some (.d (.tuple [.str w, a])), s3, s4, s5]) M := by
  simp [body0_is, L2.atI, L2.ixN, h1, h2]
theorem e0_cond {it : Val} {x : D × D × D} (hX : X[k]? = some (.lst acc)) (hl : acc.length + 2 ≤ lim) : evSs Gc C (.cons (.set 1 (.new (.bin .add (.var 1) (.lst (.cons (.var 4) (.cons (.var 5) .nil)))))) .nil) [some b, some (.ref (M0.length + k)), some it, some (.d x.1), some (.d x.2.1), some (.d x.2.2)] (M0 ++ X) =
    .ok (.nx [some b, some (.ref (M0.length + X.length)), some it, some (.d x.1), some (.d x.2.1), some (.d x.2.2)]) (M0 ++ (X ++ [.lst (acc ++ [x.2.1, x.2.2])])) := by
  have hr : (M0 ++ X)[M0.length + k]? = some (.lst acc) := by rw [get_app]; exact hX
  have h2 : 2 ≤ lim := by omega
  simp [x_rdr hr, hl, h2]
theorem e0_when {cs : List (D × D × D)} {b1 b2 l1 l2 : List D} (hX : X[k]? = some (.lst acc)) (hl : acc.length + (cs.flatMap (fun c => [c.2.1, c.2.2]) ++ l1 ++ l2).length ≤ lim)
    (hc1 : ∀ M, C 0 [.d (.tuple b1)] M = .ok (.d (.list l1)) M) (hc2 : ∀ M, C 0 [.d (.tuple b2)] M = .ok (.d (.list l2)) M) :
    ∃ X' t3 t4 t5, evSs Gc C body0 [some b, some (.ref (M0.length + k)), some (.d (.tuple [.str ("when" : Str), .tuple (cs.map c3), .tuple b1, .tuple b2])), s3, s4, s5] (M0 ++ X) =
    .ok (.nx [some b, some (.ref (M0.length + X'.length)), some (.d (.tuple [.str ("when" : Str), .tuple (cs.map c3), .tuple b1, .tuple b2])), t3, t4, t5]) (M0 ++ (X' ++ [.lst (acc ++ (cs.flatMap (fun c => [c.2.1, c.2.2]) ++ l1 ++ l2))])) := by
  let it : Val := .d (.tuple [.str ("when" : Str), .tuple (cs.map c3), .tuple b1, .tuple b2])
  rw [List.length_append, List.length_append] at hl
  obtain ⟨σ', M', e, X1, k1, t3, t4, t5, rfl, rfl, hX1⟩ := forL_go (tg := .tup3 (.nm 3) (.nm 4) (.nm 5)) (b := evSs Gc C (.cons (.set 1 (.new (.bin .add (.var 1) (.lst (.cons (.var 4) (.cons (.var 5) .nil)))))) .nil)) (xs := cs.map c3)
    (σ := [some b, some (.ref (M0.length + k)), some it, s3, s4, s5]) (M := M0 ++ X)
    (fun i σ M => ∃ (X1 : Mem) (k1 : Nat) (t3 t4 t5 : Option Val), σ = [some b, some (.ref (M0.length + k1)), some it, t3, t4, t5] ∧ M = M0 ++ X1 ∧ X1[k1]? = some (.lst (acc ++ (cs.take i).flatMap (fun c => [c.2.1, c.2.2]))))
    ⟨X, k, s3, s4, s5, rfl, rfl, by simpa using hX⟩ (by
      rintro i x σ M hx ⟨X1, k1, t3, t4, t5, rfl, rfl, hX1⟩
      rw [List.getElem?_map] at hx
      obtain ⟨c, hc, rfl⟩ := Option.map_eq_some_iff.mp hx
      have hi := (List.getElem?_eq_some_iff.mp hc).1
      have hlen : ((cs.take (i + 1)).flatMap fun c => [c.2.1, c.2.2]).length ≤ (cs.flatMap fun c => [c.2.1, c.2.2]).length := by
        conv => rhs; rw [← List.take_append_drop (i + 1) cs, List.flatMap_append, List.length_append]
        omega
      have htk : (cs.take (i + 1)).flatMap (fun c => [c.2.1, c.2.2]) = (cs.take i).flatMap (fun c => [c.2.1, c.2.2]) ++ [c.2.1, c.2.2] := by
        rw [List.take_add_one, hc, List.flatMap_append]
        simp
      rw [htk, List.length_append] at hlen
      have e1 := e0_cond (C := C) (b := b) (M0 := M0) (it := it) (x := c) hX1 (by rw [List.length_append]; simp only [List.length_cons, List.length_nil] at hlen; omega)
      exact ⟨_, _, _, rfl, e1, _, X1.length, _, _, _, rfl, rfl, by rw [htk]; simp⟩)
  rw [List.length_map, List.take_length] at hX1
  have hr : (M0 ++ X1)[M0.length + k1]? = some (.lst (acc ++ cs.flatMap fun c => [c.2.1, c.2.2])) := by rw [get_app]; exact hX1
  have hla : acc.length + (cs.flatMap fun c => [c.2.1, c.2.2]).length + l1.length ≤ lim := by omega
  have hlb : acc.length + (cs.flatMap fun c => [c.2.1, c.2.2]).length + l1.length + l2.length ≤ lim := by omega
  have e2 : evS Gc C (.forr (.tup3 (.nm 3) (.nm 4) (.nm 5)) (.ov (.idx (.var 2) (.con (.int 1)))) (.cons (.set 1 (.new (.bin .add (.var 1) (.lst (.cons (.var 4) (.cons (.var 5) .nil)))))) .nil)) [some b, some (.ref (M0.length + k)), some it, s3, s4, s5] (M0 ++ X) = .ok (.nx [some b, some (.ref (M0.length + k1)), some it, t3, t4, t5]) (M0 ++ X1) := by
    rw [x_forr, ← e]
    simp [it, L2.atI, L2.ixN]
  refine ⟨X1, t3, t4, t5, ?_⟩
  have e3 : evS Gc C (.set 1 (.new (.bin .add (.bin .add (.var 1) (.call 0 (.cons (.idx (.var 2) (.con (.int 2))) .nil))) (.call 0 (.cons (.idx (.var 2) (.con (.int 3))) .nil))))) [some b, some (.ref (M0.length + k1)), some it, t3, t4, t5] (M0 ++ X1) =
      .ok (.nx [some b, some (.ref (M0.length + X1.length)), some it, t3, t4, t5]) (M0 ++ (X1 ++ [.lst (acc ++ (cs.flatMap (fun c => [c.2.1, c.2.2]) ++ l1 ++ l2))])) := by
    generalize cs.flatMap (fun c => [c.2.1, c.2.2]) = F at *
    have h1 : acc.length + F.length + l1.length ≤ lim := hla
    simp only [it, List.length_append] at *
    simp [L2.atI, L2.ixN, x_rdr hr, hc1, hc2]
    have h2 : acc.length + (F.length + l1.length) ≤ lim := by omega
    have h3 : acc.length + (F.length + (l1.length + l2.length)) ≤ lim := by omega
    have h4 : acc.length + (F.length + l1.length) + l2.length ≤ lim := by omega
    simp [h1, h2, h3, h4]
  have e4 : evSs Gc C s0w [some b, some (.ref (M0.length + k)), some it, s3, s4, s5] (M0 ++ X) = .ok (.nx [some b, some (.ref (M0.length + X1.length)), some it, t3, t4, t5]) (M0 ++ (X1 ++ [.lst (acc ++ (cs.flatMap (fun c => [c.2.1, c.2.2]) ++ l1 ++ l2))])) := by
    unfold s0w
    rw [sqn e2, sqn e3, x_snil]
  rw [body0_is]
  simp only [it] at e4
  generalize s0w = w at *
  simp [L2.atI, L2.ixN, q_when1, q_when2, e4]
theorem step0 {n : Nat} (hC : ∀ n', n = n' + 1 → ∀ (bs l : List D) (M : Mem), row (TI n') bs l → l.length ≤ 1000000 → C 0 [.d (.tuple bs)] M = .ok (.d (.list l)) M) {x : D} {l : List D} (h : TI n x l) (hX : X[k]? = some (.lst acc)) (hl : acc.length + l.length ≤ 1000000) :
    ∃ X' k' t3 t4 t5, evSs Gc C body0 [some b, some (.ref (M0.length + k)), some (.d x), s3, s4, s5] (M0 ++ X) = .ok (.nx [some b, some (.ref (M0.length + k')), some (.d x), t3, t4, t5]) (M0 ++ X') ∧ X'[k']? = some (.lst (acc ++ l)) := by
  have hk : k < X.length := (List.getElem?_eq_some_iff.mp hX).1
  have base : ((∃ t, x = .tuple [.str ("show" : Str), t] ∧ l = [t]) ∨ (∃ a, x = .tuple [.str ("say" : Str), a] ∧ l = []) ∨ (∃ a, x = .tuple [.str ("call" : Str), a] ∧ l = [])) → ∃ X' k' t3 t4 t5, evSs Gc C body0 [some b, some (.ref (M0.length + k)), some (.d x), s3, s4, s5] (M0 ++ X) = .ok (.nx [some b, some (.ref (M0.length + k')), some (.d x), t3, t4, t5]) (M0 ++ X') ∧ X'[k']? = some (.lst (acc ++ l)) := by
    rintro (⟨t, rfl, rfl⟩ | ⟨a, rfl, rfl⟩ | ⟨a, rfl, rfl⟩)
    · exact ⟨_, k, _, _, _, e0_show hX (by simp only [List.length_singleton] at hl; unfold lim; omega), by simp [hk]⟩
    · exact ⟨_, k, _, _, _, e0_say q_say1 q_say2, by rw [List.append_nil]; exact hX⟩
    · exact ⟨_, k, _, _, _, e0_say q_call1 q_call2, by rw [List.append_nil]; exact hX⟩
  cases n with
  | zero => exact base h
  | succ n =>
    rcases h with h | h | h | ⟨cs, b1, b2, l1, l2, rfl, h1, h2, rfl⟩
    · exact base (.inl h)
    · exact base (.inr (.inl h))
    · exact base (.inr (.inr h))
    · have hl' := hl
      rw [List.length_append, List.length_append] at hl'
      obtain ⟨X', t3, t4, t5, e⟩ := e0_when (C := C) (M0 := M0) (b := b) (s3 := s3) (s4 := s4) (s5 := s5) (cs := cs) hX (by unfold lim; omega) (fun M => hC n rfl b1 l1 M h1 (by omega)) (fun M => hC n rfl b2 l2 M h2 (by omega))
      exact ⟨_, X'.length, t3, t4, t5, e, by simp⟩
theorem loop0 {n : Nat} (hC : ∀ n', n = n' + 1 → ∀ (bs l : List D) (M : Mem), row (TI n') bs l → l.length ≤ 1000000 → C 0 [.d (.tuple bs)] M = .ok (.d (.list l)) M) : ∀ {bs l acc : List D} {X : Mem} {k : Nat} {s2 s3 s4 s5 : Option Val}, row (TI n) bs l → X[k]? = some (.lst acc) → acc.length + l.length ≤ 1000000 →
    ∃ X' k' t2 t3 t4 t5, forL (.nm 2) (evSs Gc C body0) bs [some b, some (.ref (M0.length + k)), s2, s3, s4, s5] (M0 ++ X) = .ok (.nx [some b, some (.ref (M0.length + k')), t2, t3, t4, t5]) (M0 ++ X') ∧ X'[k']? = some (.lst (acc ++ l))
  | [], l, acc, X, k, s2, s3, s4, s5, h, hX, hl => by
    obtain rfl : l = [] := h
    exact ⟨X, k, s2, s3, s4, s5, rfl, by rw [List.append_nil]; exact hX⟩
  | x :: bs, l, acc, X, k, s2, s3, s4, s5, h, hX, hl => by
    obtain ⟨l1, l2, h1, h2, rfl⟩ := h
    rw [List.length_append] at hl
    obtain ⟨X1, k1, t3, t4, t5, e1, hX1⟩ := step0 (b := b) (M0 := M0) (s3 := s3) (s4 := s4) (s5 := s5) hC h1 hX (by omega)
    obtain ⟨X2, k2, u2, u3, u4, u5, e2, hX2⟩ := loop0 hC (s2 := some (.d x)) (s3 := t3) (s4 := t4) (s5 := t5) h2 hX1 (by rw [List.length_append]; omega)
    refine ⟨X2, k2, u2, u3, u4, u5, ?_, by rw [List.append_assoc] at hX2; exact hX2⟩
    rw [← e2]
    unfold forL
    show ((evSs Gc C body0 [some b, some (.ref (M0.length + k)), some (.d x), s3, s4, s5] (M0 ++ X)).bind _) = _
    rw [e1, x_bok]
    dsimp only
    cases bs <;> rfl
end
theorem b0_is : b0 = .cons (.set 1 (.new (.lst .nil))) (.cons (.forr (.nm 2) (.ov (.var 0)) body0) (.cons (.frz 1) (.cons (.ret (.var 1)) .nil))) := rfl
theorem t0go (j n : Nat) (bs l : List D) (M : Mem) (h : row (TI n) bs l) (hl : l.length ≤ 1000000) (hC : ∀ n', n = n' + 1 → ∀ (bs l : List D) (M : Mem), row (TI n') bs l → l.length ≤ 1000000 → callAt Gc tx.T j 0 [.d (.tuple bs)] M = .ok (.d (.list l)) M) :
    callAt Gc tx.T (j + 1) 0 [.d (.tuple bs)] M = .ok (.d (.list l)) M := by
  rw [call_is (f := f0) rfl]
  obtain ⟨X', k', t2, t3, t4, t5, e, hX'⟩ := loop0 (C := callAt Gc tx.T j) (b := .d (.tuple bs)) (M0 := M) (acc := []) (X := [.lst []]) (k := 0) (s2 := none) (s3 := none) (s4 := none) (s5 := none) hC h rfl (by simpa using hl)
  rw [List.nil_append] at hX'
  have e1 : evS Gc (callAt Gc tx.T j) (.set 1 (.new (.lst .nil))) [some (.d (.tuple bs)), none, none, none, none, none] M = .ok (.nx [some (.d (.tuple bs)), some (.ref (M.length + 0)), none, none, none, none]) (M ++ [.lst []]) := by simp
  have e2 : evS Gc (callAt Gc tx.T j) (.forr (.nm 2) (.ov (.var 0)) body0) [some (.d (.tuple bs)), some (.ref (M.length + 0)), none, none, none, none] (M ++ [.lst []]) = .ok (.nx [some (.d (.tuple bs)), some (.ref (M.length + k')), t2, t3, t4, t5]) (M ++ X') := by
    rw [x_forr, x_ov, x_var, x_gete0, x_ofS, x_bok, x_bok]
    exact e
  have hr : (M ++ X')[M.length + k']? = some (.lst l) := by rw [get_app]; exact hX'
  have e3 : evS Gc (callAt Gc tx.T j) (.frz 1) [some (.d (.tuple bs)), some (.ref (M.length + k')), t2, t3, t4, t5] (M ++ X') = .ok (.nx [some (.d (.tuple bs)), some (.d (.list l)), t2, t3, t4, t5]) (M ++ X'.set k' .dead) := by
    simp [hr, set_app]
  unfold runFn
  rw [show f0.body = b0 from rfl, b0_is]
  show ((evSs Gc _ _ [some (.d (.tuple bs)), none, none, none, none, none] M).bind _) = _
  rw [sqn e1, sqn e2, sqn e3]
  simp [outV, f0]
theorem t0 : ∀ (n m : Nat) (bs l : List D) (M : Mem), row (TI n) bs l → l.length ≤ 1000000 → callAt Gc tx.T (m + n + 1) 0 [.d (.tuple bs)] M = .ok (.d (.list l)) M := by
  intro n
  induction n with
  | zero =>
    intro m bs l M h hl
    exact t0go m 0 bs l M h hl fun n' e => by cases e
  | succ n ih =>
    intro m bs l M h hl
    have := t0go (m + n + 1) (n + 1) bs l M h hl fun n' e bs l M h hl => by
      cases e
      exact ih m bs l M h hl
    exact this
/-! ### the constants of a program -/
abbrev Tm := Int ⊕ (Int × Int)
def tmD : Tm → D
  | .inl x => .tuple [.str ("c" : Str), .int x]
  | .inr (a, b) => .tuple [.str ("f" : Str), .int a, .int b]
def cons (ts : List Tm) : List Int := ts.filterMap fun t => match t with | .inl x => some x | .inr _ => none
structure Ask where
  nm : D
  bs : List D
  ts : List Tm
def Ask.D (a : Ask) : Mp.D := .tuple [a.nm, .tuple a.bs]
def Ask.ok (n : Nat) (a : Ask) : Prop := row (TI n) a.bs (a.ts.map tmD) ∧ a.ts.length ≤ 1000
def prD (hs : List (D × List D)) (asks : List Ask) : D := .tuple [.tuple (hs.map fun h => .tuple [h.1, .tuple h.2]), .tuple (asks.map Ask.D)]
def in1 : MSs := .cons (.iff (.cmp .eq (.idx (.var 4) (.con (.int 0))) (.con (.str ("c" : Str)))) (.cons (.setI (.var 2) (.idx (.var 4) (.con (.int 1))) (.con (.bool true))) .nil) .nil) .nil
def out1 : MSs := .cons (.forr (.nm 4) (.ov (.call 0 (.cons (.idx (.idx (.idx (.var 0) (.con (.int 1))) (.var 3)) (.con (.int 1))) .nil))) in1) .nil
theorem b1_is : b1 = .cons (.set 2 (.dnw false)) (.cons (.forr (.nm 3) (.ov (.var 1)) out1) (.cons (.ret (.bi .tuple (.cons (.bi .sorted (.cons (.var 2) .nil)) .nil))) .nil)) := rfl
theorem get_end (M : Mem) (ob : Ob) : (M ++ [ob])[M.length]? = some ob := by simp
theorem set_end (M : Mem) (ob ob' : Ob) : (M ++ [ob]).set M.length ob' = M ++ [ob'] := by simp
theorem loop1 {C : CT} {M : Mem} {p l ask : Val} : ∀ {ts : List Tm} {acc : List Int} {s4 : Option Val}, acc.length + ts.length < lim → ∃ t4, forL (.nm 4) (evSs Gc C in1) (ts.map tmD) [some p, some l, some (.ref M.length), some ask, s4] (M ++ [.dK (dkI acc)]) =
    .ok (.nx [some p, some l, some (.ref M.length), some ask, t4]) (M ++ [.dK (dkI ((cons ts).foldl ins acc))])
  | [], acc, s4, _ => ⟨s4, rfl⟩
  | t :: ts, acc, s4, hl => by
    rw [List.length_cons] at hl
    cases t with
    | inl x =>
      have hi : (ins acc x).length ≤ acc.length + 1 := by unfold ins; split <;> simp
      obtain ⟨t4, e⟩ := loop1 (C := C) (M := M) (p := p) (l := l) (ask := ask) (ts := ts) (acc := ins acc x) (s4 := some (.d (tmD (.inl x)))) (by omega)
      refine ⟨t4, ?_⟩
      have hs := x_setk (x := x) (get_end M (.dK (dkI acc))) (by omega)
      rw [set_end] at hs
      have e1 : evSs Gc C in1 [some p, some l, some (.ref M.length), some ask, some (.d (tmD (.inl x)))] (M ++ [.dK (dkI acc)]) = .ok (.nx [some p, some l, some (.ref M.length), some ask, some (.d (tmD (.inl x)))]) (M ++ [.dK (dkI (ins acc x))]) := by
        simp [in1, tmD, L2.atI, L2.ixN, q_c, hs]
      show forL _ _ (tmD (.inl x) :: ts.map tmD) _ _ = _
      have e2 : forL (.nm 4) (evSs Gc C in1) (tmD (.inl x) :: ts.map tmD) [some p, some l, some (.ref M.length), some ask, s4] (M ++ [.dK (dkI acc)]) = forL (.nm 4) (evSs Gc C in1) (ts.map tmD) [some p, some l, some (.ref M.length), some ask, some (.d (tmD (.inl x)))] (M ++ [.dK (dkI (ins acc x))]) := by
        conv => lhs; unfold forL
        show ((evSs Gc C in1 [some p, some l, some (.ref M.length), some ask, some (.d (tmD (.inl x)))] (M ++ [.dK (dkI acc)])).bind _) = _
        rw [e1, x_bok]
      rw [e2, e]
      rfl
    | inr ab =>
      obtain ⟨a, b⟩ := ab
      obtain ⟨t4, e⟩ := loop1 (C := C) (M := M) (p := p) (l := l) (ask := ask) (ts := ts) (acc := acc) (s4 := some (.d (tmD (.inr (a, b))))) (by omega)
      refine ⟨t4, ?_⟩
      have e1 : evSs Gc C in1 [some p, some l, some (.ref M.length), some ask, some (.d (tmD (.inr (a, b))))] (M ++ [.dK (dkI acc)]) = .ok (.nx [some p, some l, some (.ref M.length), some ask, some (.d (tmD (.inr (a, b))))]) (M ++ [.dK (dkI acc)]) := by
        simp [in1, tmD, L2.atI, L2.ixN, q_f]
      have e2 : forL (.nm 4) (evSs Gc C in1) (tmD (.inr (a, b)) :: ts.map tmD) [some p, some l, some (.ref M.length), some ask, s4] (M ++ [.dK (dkI acc)]) = forL (.nm 4) (evSs Gc C in1) (ts.map tmD) [some p, some l, some (.ref M.length), some ask, some (.d (tmD (.inr (a, b))))] (M ++ [.dK (dkI acc)]) := by
        conv => lhs; unfold forL
        show ((evSs Gc C in1 [some p, some l, some (.ref M.length), some ask, some (.d (tmD (.inr (a, b))))] (M ++ [.dK (dkI acc)])).bind _) = _
        rw [e1, x_bok]
      show forL _ _ (tmD (.inr (a, b)) :: ts.map tmD) _ _ = _
      rw [e2, e]
      rfl
def allC (asks : List Ask) : List Int := asks.flatMap fun a => cons a.ts
theorem cons_len (ts : List Tm) : (cons ts).length ≤ ts.length := List.length_filterMap_le _ _
theorem t1 (n m : Nat) {hs : List (D × List D)} {asks : List Ask} (M : Mem) (hok : ∀ a ∈ asks, a.ok n) (hl : asks.length ≤ 1000) : callAt Gc tx.T (m + n + 2) 1 [.d (prD hs asks), .d (.list ((rI asks.length).map .int))] M = .ok (.d (iT (sI (dd (allC asks))))) M := by
  rw [show m + n + 2 = (m + n + 1) + 1 by omega, call_is (f := f1) rfl]
  let C := callAt Gc tx.T (m + n + 1)
  obtain ⟨σ', M', e, acc, s3, s4, rfl, rfl, hacc, hlen⟩ := forL_go (tg := .nm 3) (b := evSs Gc C out1) (xs := (rI asks.length).map .int) (σ := [some (.d (prD hs asks)), some (.d (.list ((rI asks.length).map .int))), some (.ref M.length), none, none]) (M := M ++ [.dK []])
    (fun i σ M' => ∃ (acc : List Int) (s3 s4 : Option Val), σ = [some (.d (prD hs asks)), some (.d (.list ((rI asks.length).map .int))), some (.ref M.length), s3, s4] ∧ M' = M ++ [.dK (dkI acc)] ∧ acc = dd (allC (asks.take i)) ∧ acc.length ≤ i * 1000)
    ⟨[], none, none, rfl, rfl, rfl, Nat.le_refl _⟩ (by
      rintro i x σ M' hx ⟨acc, s3, s4, rfl, rfl, hacc, hlen⟩
      obtain ⟨hi, rfl⟩ := rI_at hx
      have hget : asks[i]? = some asks[i] := List.getElem?_eq_getElem hi
      obtain ⟨hrow, hts⟩ := hok asks[i] (List.getElem_mem hi)
      have hc0 := t0 n m asks[i].bs (asks[i].ts.map tmD) (M ++ [.dK (dkI acc)]) hrow (by rw [List.length_map]; omega)
      obtain ⟨t4, e1⟩ := loop1 (C := C) (M := M) (p := .d (prD hs asks)) (l := .d (.list ((rI asks.length).map .int))) (ask := .d (.int (i : Nat))) (ts := asks[i].ts) (acc := acc) (s4 := s4) (by unfold lim; omega)
      have hat : L2.atI (asks.map Ask.D) ((i : Nat) : Int) = some (Ask.D asks[i]) := L2.atI_nat (by rw [List.getElem?_map, hget]; rfl)
      refine ⟨[some (.d (prD hs asks)), some (.d (.list ((rI asks.length).map .int))), some (.ref M.length), some (.d (.int (i : Nat))), s4], [some (.d (prD hs asks)), some (.d (.list ((rI asks.length).map .int))), some (.ref M.length), some (.d (.int (i : Nat))), t4], M ++ [.dK (dkI ((cons asks[i].ts).foldl ins acc))], rfl, ?_, _, _, _, rfl, rfl, ?_, ?_⟩
      · have e2 : evS Gc C (.forr (.nm 4) (.ov (.call 0 (.cons (.idx (.idx (.idx (.var 0) (.con (.int 1))) (.var 3)) (.con (.int 1))) .nil))) in1) [some (.d (prD hs asks)), some (.d (.list ((rI asks.length).map .int))), some (.ref M.length), some (.d (.int (i : Nat))), s4] (M ++ [.dK (dkI acc)]) =
            .ok (.nx [some (.d (prD hs asks)), some (.d (.list ((rI asks.length).map .int))), some (.ref M.length), some (.d (.int (i : Nat))), t4]) (M ++ [.dK (dkI ((cons asks[i].ts).foldl ins acc))]) := by
          rw [x_forr, x_ov, ← e1]
          have i1 : L2.atI [PyData.tuple (hs.map fun h => .tuple [h.1, .tuple h.2]), .tuple (asks.map Ask.D)] 1 = some (.tuple (asks.map Ask.D)) := rfl
          have i2 : L2.atI [asks[i].nm, PyData.tuple asks[i].bs] 1 = some (.tuple asks[i].bs) := rfl
          have hat' : L2.atI (asks.map Ask.D) ((i : Nat) : Int) = some (.tuple [asks[i].nm, PyData.tuple asks[i].bs]) := hat
          simp only [x_call, x_cons, x_idx, x_var, x_con, x_nil, x_gete0, x_getes, x_ofS, x_bok, prD, x_ixt, i1, i2, hat', Option.map_some, C]
          rw [hc0]
          rfl
        unfold out1
        rw [sqn e2, x_snil]
      · rw [hacc, List.take_add_one, hget]
        unfold allC
        rw [List.flatMap_append, dd_append]
        simp
      · have := foldins_len (xs := cons asks[i].ts) (acc := acc)
        have := cons_len asks[i].ts
        omega)
  rw [List.length_map, rI_len] at hlen
  rw [List.length_map, rI_len, List.take_length] at hacc
  have hb := x_bsk (get_end M (.dK (dkI acc))) (by unfold lim; omega)
  have e1 : evS Gc C (.set 2 (.dnw false)) [some (.d (prD hs asks)), some (.d (.list ((rI asks.length).map .int))), none, none, none] M = .ok (.nx [some (.d (prD hs asks)), some (.d (.list ((rI asks.length).map .int))), some (.ref M.length), none, none]) (M ++ [.dK []]) := by simp
  have e2 : evS Gc C (.forr (.nm 3) (.ov (.var 1)) out1) [some (.d (prD hs asks)), some (.d (.list ((rI asks.length).map .int))), some (.ref M.length), none, none] (M ++ [.dK []]) = .ok (.nx [some (.d (prD hs asks)), some (.d (.list ((rI asks.length).map .int))), some (.ref M.length), s3, s4]) (M ++ [.dK (dkI acc)]) := by
    rw [x_forr, ← e]
    simp
  unfold runFn
  rw [show f1.body = b1 from rfl, b1_is]
  show ((evSs Gc C _ [some (.d (prD hs asks)), some (.d (.list ((rI asks.length).map .int))), none, none, none] M).bind _) = _
  rw [sqn e1, sqn e2]
  rw [← hacc]
  simp [hb, outV, f1, iT]
theorem t2 (n m : Nat) {hs : List (D × List D)} {asks : List Ask} (M : Mem) (hok : ∀ a ∈ asks, a.ok n) (hl : asks.length ≤ 1000) : callAt Gc tx.T (m + n + 3) 2 [.d (prD hs asks)] M = .ok (.d (iT (sI (dd (allC asks))))) M := by
  have h1 := t1 n m M hok hl (hs := hs)
  have hr := rngOk_n (n := asks.length) (by unfold lim; omega)
  rw [show m + n + 3 = (m + n + 2) + 1 by omega, call_is (f := f2) rfl]
  have i1 : L2.atI [PyData.tuple (hs.map fun h => .tuple [h.1, .tuple h.2]), .tuple (asks.map Ask.D)] 1 = some (.tuple (asks.map Ask.D)) := rfl
  generalize hp : prD hs asks = p at *
  have hp' : idxV M (.d p) (.d (.int 1)) = some (.d (.tuple (asks.map Ask.D))) := by rw [← hp]; simp [prD, i1]
  simp [runFn, f2, b2, hp', hr, rngD_rI, h1, outV, iT]
end Mp.k09
end
section
set_option maxHeartbeats 4000000
namespace Mp.k09
open PySem PySem.Spec PyProof.Rows L2 Mp

/-- a loop that folds -/
theorem forL_fold {α β : Type} {tg : Tg} {b : SS} (enc : α → D) (σf : Option Val → Env) (Mf : β → Mem) (f : β → α → β) (inv : β → List α → Prop) (hi : ∀ s x xs, inv s (x :: xs) → inv (f s x) xs)
    (hs : ∀ s x xs t, inv s (x :: xs) → asgT tg (enc x) (σf t) = some (σf (some (.d (enc x)))) ∧ b (σf (some (.d (enc x)))) (Mf s) = .ok (.nx (σf (some (.d (enc x))))) (Mf (f s x))) :
    ∀ (xs : List α) (s : β) (t : Option Val), inv s xs → ∃ t', forL tg b (xs.map enc) (σf t) (Mf s) = .ok (.nx (σf t')) (Mf (xs.foldl f s))
  | [], s, t, _ => ⟨t, rfl⟩
  | x :: xs, s, t, h => by
    obtain ⟨h1, h2⟩ := hs s x xs t h
    obtain ⟨t', e⟩ := forL_fold enc σf Mf f inv hi hs xs (f s x) (some (.d (enc x))) (hi s x xs h)
    refine ⟨t', ?_⟩
    rw [List.foldl_cons, ← e, List.map_cons]
    conv => lhs; unfold forL
    rw [h1]
    dsimp only
    rw [h2, x_bok]
/-! ### the others' fields -/
def hsD (hs : List (D × List D)) : List D := hs.map fun h => .tuple [h.1, .tuple h.2]
def ot : List (D × List D) → Nat → Nat → List (Nat × Nat)
  | [], _, _ => []
  | x :: r, i, h => if i ≠ h then (i, x.2.length) :: ot r (i + 1) h else ot r (i + 1) h
def otD (z : Nat × Nat) : D := .tuple [.int (z.1 : Nat), .int (z.2 : Nat)]
def p3 (h : Nat) (x : D) : Bool := match x with | .tuple [.int i, _] => decide (i ≠ (h : Int)) | _ => false
def y3 (x : D) : D := match x with | .tuple [.int i, .tuple [_, .tuple fs]] => .tuple [.int i, .int fs.length] | _ => .none
theorem enm_mem : ∀ {xs : List D} {n : Nat} {x : D}, x ∈ enmL xs n → ∃ (i : Nat) (y : D), x = .tuple [.int (i : Nat), y] ∧ y ∈ xs
  | [], _, _, h => by cases h
  | y :: xs, n, x, h => by
    rcases List.mem_cons.mp h with rfl | h
    · exact ⟨n, y, rfl, List.mem_cons_self⟩
    · obtain ⟨i, z, e, hz⟩ := enm_mem h
      exact ⟨i, z, e, List.mem_cons_of_mem _ hz⟩
theorem ot_enm (h : Nat) : ∀ (hs : List (D × List D)) (i : Nat), ((enmL (hsD hs) i).filter (p3 h)).map y3 = (ot hs i h).map otD
  | [], _ => rfl
  | x :: hs, i => by
    show (List.filter (p3 h) (.tuple [.int (i : Nat), .tuple [x.1, .tuple x.2]] :: enmL (hsD hs) (i + 1))).map y3 = _
    have ih := ot_enm h hs (i + 1)
    have hp : p3 h (.tuple [.int (i : Nat), .tuple [x.1, .tuple x.2]]) = decide ((i : Int) ≠ (h : Int)) := rfl
    unfold ot
    by_cases e : i = h
    · have : ¬ ((i : Int) ≠ (h : Int)) := fun z => z (by omega)
      rw [List.filter_cons_of_neg (by rw [hp, decide_eq_false this]; exact Bool.false_ne_true), ih, if_neg (fun z => z e)]
    · have : (i : Int) ≠ (h : Int) := fun z => e (by omega)
      rw [List.filter_cons_of_pos (by rw [hp, decide_eq_true this]), List.map_cons, ih, if_pos e]
      rfl
theorem ot_len (h : Nat) : ∀ (hs : List (D × List D)) (i : Nat), (ot hs i h).length ≤ hs.length
  | [], _ => Nat.le_refl _
  | x :: hs, i => by
    have := ot_len h hs (i + 1)
    unfold ot
    split <;> simp <;> omega
theorem hp0 (hs : List (D × List D)) (a : D) (M : Mem) : idxV M (.d (.tuple [.tuple (hsD hs), a])) (.d (.int 0)) = some (.d (.tuple (hsD hs))) := rfl
/-- a program: its holders ahead -/
def Pr (hs : List (D × List D)) (p : D) : Prop := ∃ a, p = .tuple [.tuple (hsD hs), a]
theorem t3 (m : Nat) {hs : List (D × List D)} {p : D} (hp : Pr hs p) (h : Nat) (M : Mem) (hl : hs.length ≤ 1000) : callAt Gc tx.T (m + 1) 3 [.d p, .d (.int (h : Nat))] M = .ok (.d (.list ((ot hs 0 h).map otD))) M := by
  obtain ⟨a, rfl⟩ := hp
  rw [call_is (f := f3) rfl]
  have l2 : 2 ≤ lim := by unfold lim; omega
  have e := lcL_fil (tg := .tup2 (.nm 2) (.nm 3)) (own := [2, 3]) (c := evE Gc (callAt Gc tx.T m) (.cmp .ne (.var 2) (.var 1))) (f := evE Gc (callAt Gc tx.T m) (.tup (.cons (.var 2) (.cons (.bi .len (.cons (.idx (.var 3) (.con (.int 1))) .nil)) .nil))))
    (σ := [some (.d (.tuple [.tuple (hsD hs), a])), some (.d (.int (h : Nat))), none, none]) (M := M) (p := p3 h) (y := y3) (xs := enmL (hsD hs) 0) (fun x hx => by
      obtain ⟨i, y, rfl, hy⟩ := enm_mem hx
      obtain ⟨z, _, rfl⟩ := List.mem_map.mp hy
      refine ⟨_, rfl, ?_, fun _ => ?_⟩
      · simp [sTst, wipeE, p3]
      · simp [wipeE, y3, L2.atI, L2.ixN, l2])
  rw [ot_enm] at e
  have hll : (ot hs 0 h).length ≤ lim := by
    have := ot_len h hs 0
    unfold lim; omega
  simp only [runFn, f3, b3]
  simp [evC, atI0] at e ⊢
  rw [e]
  simp [outV, hll]
def many (hs : List (D × List D)) (h : Nat) : Nat := ((ot hs 0 h).map (·.2)).sum
theorem ot_range (h : Nat) : ∀ (hs : List (D × List D)) (k : Nat), ot hs k h = ((List.range' k hs.length).filter fun i => decide (i ≠ h)).map fun i => (i, ((hs[i - k]?).map fun z => z.2.length).getD 0)
  | [], _ => rfl
  | x :: hs, k => by
    rw [List.length_cons, List.range'_succ]
    have ih := ot_range h hs (k + 1)
    have tl : ((List.range' (k + 1) hs.length).filter fun i => decide (i ≠ h)).map (fun i => (i, (((x :: hs)[i - k]?).map fun z => z.2.length).getD 0)) = ot hs (k + 1) h := by
      rw [ih]
      refine List.map_congr_left fun i hi => ?_
      have := (List.mem_range'_1.mp (List.mem_filter.mp hi).1).1
      rw [show i - k = (i - (k + 1)) + 1 by omega, List.getElem?_cons_succ]
    unfold ot
    by_cases e : k = h
    · rw [List.filter_cons_of_neg (by simp [e]), tl, if_neg (fun z => z e)]
    · rw [List.filter_cons_of_pos (by simp [e]), List.map_cons, tl, if_pos e]
      simp
theorem sumN (xs : List Nat) : intsOf (xs.map fun (k : Nat) => PyData.int k) = some (xs.map fun (k : Nat) => (k : Int)) := by
  have := intsOf_ints (xs.map fun (k : Nat) => (k : Int))
  rw [List.map_map] at this
  exact this
theorem sum_cast : ∀ xs : List Nat, (xs.map fun (k : Nat) => (k : Int)).sum = (xs.sum : Nat)
  | [] => rfl
  | x :: xs => by
    rw [List.map_cons, List.sum_cons, List.sum_cons, sum_cast xs]
    omega
/-! ### known, fresh -/
def knw (cs : List Int) (rs : List (List Int)) : List Int := sI (dd (cs ++ rs.flatten))
theorem t4 (m : Nat) {p : D} {cs : List Int} {rs : List (List Int)} (M : Mem) (hC : ∀ M, callAt Gc tx.T m 2 [.d p] M = .ok (.d (iT cs)) M) (hl : cs.length + rs.flatten.length ≤ 1000) :
    callAt Gc tx.T (m + 1) 4 [.d p, .d (.tuple (rs.map iT))] M = .ok (.d (.list ((knw cs rs).map .int))) M := by
  rw [call_is (f := f4) rfl]
  let C := callAt Gc tx.T m
  let bs : MSs := .cons (.setI (.var 2) (.var 3) (.con (.bool true))) .nil
  have step : ∀ (s4 : Option Val) (xs : List Int) (acc : List Int) (t : Option Val), acc.length + xs.length ≤ 1000 → ∃ t', forL (.nm 3) (evSs Gc C bs) (xs.map PyData.int) [some (.d p), some (.d (.tuple (rs.map iT))), some (.ref M.length), t, s4] (M ++ [.dK (dkI acc)]) =
      .ok (.nx [some (.d p), some (.d (.tuple (rs.map iT))), some (.ref M.length), t', s4]) (M ++ [.dK (dkI (xs.foldl ins acc))]) := fun s4 =>
    forL_fold PyData.int (fun t => [some (.d p), some (.d (.tuple (rs.map iT))), some (.ref M.length), t, s4]) (fun acc => M ++ [.dK (dkI acc)]) ins (fun acc xs => acc.length + xs.length ≤ 1000) (fun s x xs h => by
      have : (ins s x).length ≤ s.length + 1 := by unfold ins; split <;> simp
      rw [List.length_cons] at h
      omega) (fun s x xs t h => by
      have hs := x_setk (x := x) (get_end M (.dK (dkI s))) (by rw [List.length_cons] at h; unfold lim; omega)
      rw [set_end] at hs
      exact ⟨rfl, by simp [bs, hs]⟩)
  obtain ⟨t1, h1⟩ := step none cs [] none (by simp; omega)
  have hb : f4.body = .cons (.set 2 (.dnw false)) (.cons (.forr (.nm 3) (.ov (.call 2 (.cons (.var 0) .nil))) bs) (.cons (.forr (.nm 4) (.ov (.var 1)) (.cons (.forr (.nm 3) (.ov (.var 4)) bs) .nil)) (.cons (.ret (.bi .sorted (.cons (.var 2) .nil))) .nil))) := rfl
  have outer : ∀ (rs' : List (List Int)) (acc : List Int) (t s4 : Option Val), acc.length + rs'.flatten.length ≤ 1000 → ∃ t' s', forL (.nm 4) (evSs Gc C (.cons (.forr (.nm 3) (.ov (.var 4)) bs) .nil)) (rs'.map iT) [some (.d p), some (.d (.tuple (rs.map iT))), some (.ref M.length), t, s4] (M ++ [.dK (dkI acc)]) =
      .ok (.nx [some (.d p), some (.d (.tuple (rs.map iT))), some (.ref M.length), t', s']) (M ++ [.dK (dkI (rs'.flatten.foldl ins acc))]) := by
    intro rs'
    induction rs' with
    | nil => intro acc t s4 _; exact ⟨t, s4, rfl⟩
    | cons r rs' ih =>
      intro acc t s4 hle
      rw [List.flatten_cons, List.length_append] at hle
      obtain ⟨t1, e1⟩ := step (some (.d (iT r))) r acc t (by omega)
      have hf := foldins_len (xs := r) (acc := acc)
      obtain ⟨t2, s2, e2⟩ := ih (r.foldl ins acc) t1 (some (.d (iT r))) (by omega)
      refine ⟨t2, s2, ?_⟩
      rw [List.flatten_cons, List.foldl_append, ← e2, List.map_cons]
      conv => lhs; unfold forL
      show ((evSs Gc C (.cons (.forr (.nm 3) (.ov (.var 4)) bs) .nil) [some (.d p), some (.d (.tuple (rs.map iT))), some (.ref M.length), t, some (.d (iT r))] (M ++ [.dK (dkI acc)])).bind _) = _
      have e3 : evS Gc C (.forr (.nm 3) (.ov (.var 4)) bs) [some (.d p), some (.d (.tuple (rs.map iT))), some (.ref M.length), t, some (.d (iT r))] (M ++ [.dK (dkI acc)]) = .ok (.nx [some (.d p), some (.d (.tuple (rs.map iT))), some (.ref M.length), t1, some (.d (iT r))]) (M ++ [.dK (dkI (r.foldl ins acc))]) := by
        rw [x_forr, ← e1]
        rfl
      rw [sqn e3, x_snil, x_bok]
  have hf := foldins_len (xs := cs) (acc := [])
  rw [List.length_nil] at hf
  obtain ⟨t2, s2, h2⟩ := outer rs (cs.foldl ins []) t1 none (by omega)
  have e1 : evS Gc C (.set 2 (.dnw false)) [some (.d p), some (.d (.tuple (rs.map iT))), none, none, none] M = .ok (.nx [some (.d p), some (.d (.tuple (rs.map iT))), some (.ref M.length), none, none]) (M ++ [.dK (dkI [])]) := by simp [dkI]
  have e2 : evS Gc C (.forr (.nm 3) (.ov (.call 2 (.cons (.var 0) .nil))) bs) [some (.d p), some (.d (.tuple (rs.map iT))), some (.ref M.length), none, none] (M ++ [.dK (dkI [])]) = .ok (.nx [some (.d p), some (.d (.tuple (rs.map iT))), some (.ref M.length), t1, none]) (M ++ [.dK (dkI (cs.foldl ins []))]) := by
    rw [x_forr, ← h1]
    simp [C, hC, iT]
  have e3 : evS Gc C (.forr (.nm 4) (.ov (.var 1)) (.cons (.forr (.nm 3) (.ov (.var 4)) bs) .nil)) [some (.d p), some (.d (.tuple (rs.map iT))), some (.ref M.length), t1, none] (M ++ [.dK (dkI (cs.foldl ins []))]) = .ok (.nx [some (.d p), some (.d (.tuple (rs.map iT))), some (.ref M.length), t2, s2]) (M ++ [.dK (dkI (rs.flatten.foldl ins (cs.foldl ins [])))]) := by
    rw [x_forr, ← h2]
    simp
  have hd : rs.flatten.foldl ins (cs.foldl ins []) = dd (cs ++ rs.flatten) := by unfold dd; rw [List.foldl_append]
  rw [hd] at e3
  have hdl := dd_len (cs ++ rs.flatten)
  rw [List.length_append] at hdl
  have hb2 := x_bsk (get_end M (.dK (dkI (dd (cs ++ rs.flatten))))) (by unfold lim; omega)
  unfold runFn
  rw [hb]
  show ((evSs Gc C _ [some (.d p), some (.d (.tuple (rs.map iT))), none, none, none] M).bind _) = _
  rw [sqn e1, sqn e2, sqn e3]
  simp [hb2, outV, f4, knw]
/-- the first whole numbers that are not known -/
def fr (kn : List Int) : Nat → Int → Nat → List Int
  | 0, _, _ => []
  | n + 1, i, need => if need = 0 then [] else if i ∈ kn then fr kn n (i + 1) need else i :: fr kn n (i + 1) (need - 1)
def above (kn : List Int) (i : Int) : Nat := (kn.filter fun a => decide (i ≤ a)).length
theorem above_le (kn : List Int) (i : Int) : above kn i ≤ kn.length := List.length_filter_le _ _
theorem above_step : ∀ {kn : List Int} {i : Int}, above kn (i + 1) ≤ above kn i ∧ (i ∈ kn → above kn (i + 1) < above kn i)
  | [], i => ⟨Nat.le_refl _, fun h => by cases h⟩
  | a :: kn, i => by
    obtain ⟨h1, h2⟩ := above_step (kn := kn) (i := i)
    unfold above at *
    by_cases e1 : i + 1 ≤ a
    · have e2 : i ≤ a := by omega
      rw [List.filter_cons_of_pos (by simpa using e1), List.filter_cons_of_pos (by simpa using e2)]
      simp only [List.length_cons]
      refine ⟨by omega, fun h => ?_⟩
      have := h2 ((List.mem_cons.mp h).resolve_left (by omega))
      omega
    · rw [List.filter_cons_of_neg (by simpa using e1)]
      by_cases e2 : i ≤ a
      · rw [List.filter_cons_of_pos (by simpa using e2)]
        simp only [List.length_cons]
        exact ⟨by omega, fun _ => by omega⟩
      · rw [List.filter_cons_of_neg (by simpa using e2)]
        exact ⟨h1, fun h => h2 ((List.mem_cons.mp h).resolve_left (by omega))⟩
theorem fr_zero (kn : List Int) (n : Nat) (i : Int) : fr kn n i 0 = [] := by cases n <;> rfl
theorem fr_props {kn : List Int} : ∀ {n : Nat} {i : Int} {need : Nat}, above kn i + need ≤ n → (fr kn n i need).length = need ∧ (fr kn n i need).Pairwise (· < ·) ∧ ∀ a ∈ fr kn n i need, i ≤ a ∧ a ∉ kn
  | 0, i, need, h => by
    have : need = 0 := by omega
    subst this
    exact ⟨rfl, .nil, fun a h => by cases h⟩
  | n + 1, i, need, h => by
    unfold fr
    by_cases h0 : need = 0
    · rw [if_pos h0]
      exact ⟨by rw [h0]; rfl, .nil, fun a h => by cases h⟩
    · rw [if_neg h0]
      obtain ⟨s1, s2⟩ := above_step (kn := kn) (i := i)
      by_cases hk : i ∈ kn
      · rw [if_pos hk]
        have := s2 hk
        obtain ⟨a1, a2, a3⟩ := fr_props (kn := kn) (n := n) (i := i + 1) (need := need) (by omega)
        exact ⟨a1, a2, fun a ha => ⟨by have := (a3 a ha).1; omega, (a3 a ha).2⟩⟩
      · rw [if_neg hk]
        obtain ⟨a1, a2, a3⟩ := fr_props (kn := kn) (n := n) (i := i + 1) (need := need - 1) (by omega)
        refine ⟨by rw [List.length_cons, a1]; omega, List.pairwise_cons.mpr ⟨fun b hb => by have := (a3 b hb).1; omega, a2⟩, fun a ha => ?_⟩
        rcases List.mem_cons.mp ha with rfl | ha
        · exact ⟨by omega, hk⟩
        · exact ⟨by have := (a3 a ha).1; omega, (a3 a ha).2⟩
def fresh (kn : List Int) (k : Nat) : List Int := fr kn (kn.length + k) 0 k
theorem fresh_props (kn : List Int) (k : Nat) : (fresh kn k).length = k ∧ (fresh kn k).Pairwise (· < ·) ∧ ∀ a ∈ fresh kn k, a ∉ kn := by
  obtain ⟨h1, h2, h3⟩ := fr_props (kn := kn) (n := kn.length + k) (i := 0) (need := k) (by have := above_le kn 0; omega)
  exact ⟨h1, h2, fun a ha => (h3 a ha).2⟩
theorem fr_step {kn : List Int} {n : Nat} {i : Int} {need : Nat} (h0 : need ≠ 0) : fr kn (n + 1) i need = if i ∈ kn then fr kn n (i + 1) need else i :: fr kn n (i + 1) (need - 1) := by
  conv => lhs; unfold fr
  rw [if_neg h0]
end Mp.k09
end
section
set_option maxHeartbeats 4000000
namespace Mp.k09
open PySem PySem.Spec PyProof.Rows L2 Mp

def c5 : ME := .cmp .lt (.bi .len (.cons (.var 2) .nil)) (.var 1)
def w5 : MSs := .cons (.iff (.cmp .notin (.var 4) (.var 3)) (.cons (.exp (.mt .append (.var 2) (.cons (.var 4) .nil))) .nil) .nil) (.cons (.aug 4 .add (.con (.int 1))) .nil)
def m5 : MSs := .cons (.setI (.var 3) (.var 4) (.con (.bool true))) .nil
theorem b5_is : b5 = .cons (.set 2 (.new (.lst .nil))) (.cons (.set 3 (.dnw false)) (.cons (.forr (.nm 4) (.ov (.var 0)) m5) (.cons (.set 4 (.con (.int 0))) (.cons (.whil c5 w5) (.cons (.frz 2) (.cons (.ret (.var 2)) .nil)))))) := rfl
def M5 (M : Mem) (told acc : List Int) : Mem := M ++ [.lst (told.map .int), .dK (dkI acc)]
theorem M5_0 (M : Mem) (told acc : List Int) : (M5 M told acc)[M.length]? = some (.lst (told.map .int)) := get_app M _ 0
theorem M5_1 (M : Mem) (told acc : List Int) : (M5 M told acc)[M.length + 1]? = some (.dK (dkI acc)) := get_app M _ 1
theorem M5_s0 (M : Mem) (told acc : List Int) (ob : Ob) : (M5 M told acc).set M.length ob = M ++ [ob, .dK (dkI acc)] := set_app M _ 0 ob
theorem M5_s1 (M : Mem) (told acc acc' : List Int) : (M5 M told acc).set (M.length + 1) (.dK (dkI acc')) = M5 M told acc' := set_app M _ 1 _
section
variable {C : CT} {M : Mem} {kn : List Int} {k : Nat}
abbrev S5 (M : Mem) (kn : List Int) (k : Nat) (t : Option Val) : Env := [some (.d (.list (kn.map .int))), some (.d (.int (k : Nat))), some (.ref M.length), some (.ref (M.length + 1)), t]
theorem c5_is {told acc : List Int} {t : Option Val} : evE Gc C c5 (S5 M kn k t) (M5 M told acc) = .ok (.d (.bool (decide (told.length < k)))) (M5 M told acc) := by
  have h := x_lenr (M5_0 M told acc)
  rw [List.length_map] at h
  simp [c5, h]
theorem w5_in {told acc : List Int} {i : Int} (h : i ∈ acc) : evSs Gc C w5 (S5 M kn k (some (.d (.int i)))) (M5 M told acc) = .ok (.nx (S5 M kn k (some (.d (.int (i + 1)))))) (M5 M told acc) := by
  have hn := x_notink (x := i) (M5_1 M told acc)
  rw [decide_eq_true h] at hn
  simp [w5, hn]
theorem w5_out {told acc : List Int} {i : Int} (h : i ∉ acc) (hl : told.length < lim) : evSs Gc C w5 (S5 M kn k (some (.d (.int i)))) (M5 M told acc) = .ok (.nx (S5 M kn k (some (.d (.int (i + 1)))))) (M5 M (told ++ [i]) acc) := by
  have hn := x_notink (x := i) (M5_1 M told acc)
  rw [decide_eq_false h] at hn
  have ha := x_app (x := .int i) (M5_0 M told acc)
  rw [List.length_map, if_pos hl, M5_s0] at ha
  have hk := x_kind (m := .append) (fun h => by cases h) (fun h => by cases h) (M5_0 M told acc)
  have e : M ++ [Ob.lst (told.map PyData.int ++ [.int i]), .dK (dkI acc)] = M5 M (told ++ [i]) acc := by simp [M5]
  rw [e] at ha
  simp [w5, hn, hk, ha]
end
theorem t5 (m : Nat) {kn : List Int} {k : Nat} (M : Mem) (hl : kn.length + k ≤ 10000) : callAt Gc tx.T (m + 1) 5 [.d (.list (kn.map .int)), .d (.int (k : Nat))] M = .ok (.d (.list ((fresh kn k).map .int))) M := by
  rw [call_is (f := f5) rfl]
  let C := callAt Gc tx.T m
  obtain ⟨t1, h1⟩ := forL_fold (tg := .nm 4) (b := evSs Gc C m5) PyData.int (fun t => S5 M kn k t) (fun acc => M5 M [] acc) ins (fun acc xs => acc.length + xs.length ≤ 10000) (fun s x xs h => by
      have : (ins s x).length ≤ s.length + 1 := by unfold ins; split <;> simp
      rw [List.length_cons] at h
      omega) (fun s x xs t h => by
      have hs := x_setk (x := x) (M5_1 M [] s) (by rw [List.length_cons] at h; unfold lim; omega)
      rw [M5_s1] at hs
      exact ⟨rfl, by simp [m5, hs]⟩) kn [] none (by simp; omega)
  have hdd : kn.foldl ins [] = dd kn := rfl
  rw [hdd] at h1
  obtain ⟨σ', M', h2, told, i, rfl, rfl, ht⟩ := whL_inv (c := evE Gc C c5) (b := evSs Gc C w5) (fun n σ M' => ∃ (told : List Int) (i : Int) (need : Nat), σ = S5 M kn k (some (.d (.int i))) ∧ M' = M5 M told (dd kn) ∧ told ++ fr kn n i need = fresh kn k ∧ told.length + need = k ∧ above kn i + need ≤ n)
    (fun σ M' => ∃ (told : List Int) (i : Int), σ = S5 M kn k (some (.d (.int i))) ∧ M' = M5 M told (dd kn) ∧ told = fresh kn k)
    (by
      rintro n σ M' ⟨told, i, need, rfl, rfl, h1, h2, h3⟩
      refine ⟨_, decide (told.length < k), c5_is, rfl, ?_⟩
      by_cases h0 : need = 0
      · subst h0
        rw [fr_zero, List.append_nil] at h1
        exact .inl ⟨decide_eq_false (by omega), told, i, rfl, rfl, h1⟩
      · refine .inr ⟨decide_eq_true (by omega), ?_⟩
        obtain ⟨n, rfl⟩ : ∃ n', n = n' + 1 := ⟨n - 1, by omega⟩
        rw [fr_step h0] at h1
        obtain ⟨s1, s2⟩ := above_step (kn := kn) (i := i)
        by_cases hk : i ∈ kn
        · rw [if_pos hk] at h1
          have := s2 hk
          exact ⟨n, _, _, by omega, w5_in (mem_dd.mpr hk), told, i + 1, need, rfl, rfl, h1, h2, by omega⟩
        · rw [if_neg hk] at h1
          refine ⟨n, _, _, by omega, w5_out (fun h => hk (mem_dd.mp h)) (by unfold lim; omega), told ++ [i], i + 1, need - 1, rfl, rfl, by rw [List.append_assoc]; exact h1, by simp; omega, by omega⟩)
    (kn.length + k) (S5 M kn k (some (.d (.int 0)))) (M5 M [] (dd kn)) ⟨[], 0, k, rfl, rfl, rfl, by simp, by have := above_le kn 0; omega⟩ wfuel (by unfold wfuel; omega)
  subst ht
  have e0 : evS Gc C (.set 2 (.new (.lst .nil))) [some (.d (.list (kn.map .int))), some (.d (.int (k : Nat))), none, none, none] M = .ok (.nx [some (.d (.list (kn.map .int))), some (.d (.int (k : Nat))), some (.ref M.length), none, none]) (M ++ [.lst []]) := by simp
  have e1 : evS Gc C (.set 3 (.dnw false)) [some (.d (.list (kn.map .int))), some (.d (.int (k : Nat))), some (.ref M.length), none, none] (M ++ [.lst []]) = .ok (.nx (S5 M kn k none)) (M5 M [] []) := by simp [M5, dkI]
  have e2 : evS Gc C (.forr (.nm 4) (.ov (.var 0)) m5) (S5 M kn k none) (M5 M [] []) = .ok (.nx (S5 M kn k t1)) (M5 M [] (dd kn)) := by
    rw [x_forr, ← h1]
    simp
  have e3 : evS Gc C (.set 4 (.con (.int 0))) (S5 M kn k t1) (M5 M [] (dd kn)) = .ok (.nx (S5 M kn k (some (.d (.int 0))))) (M5 M [] (dd kn)) := by simp
  have e4 : evS Gc C (.whil c5 w5) (S5 M kn k (some (.d (.int 0)))) (M5 M [] (dd kn)) = .ok (.nx (S5 M kn k (some (.d (.int i))))) (M5 M (fresh kn k) (dd kn)) := by rw [x_whil]; exact h2
  have e5 : evS Gc C (.frz 2) (S5 M kn k (some (.d (.int i)))) (M5 M (fresh kn k) (dd kn)) = .ok (.nx [some (.d (.list (kn.map .int))), some (.d (.int (k : Nat))), some (.d (.list ((fresh kn k).map .int))), some (.ref (M.length + 1)), some (.d (.int i))]) (M ++ [.dead, .dK (dkI (dd kn))]) := by
    simp [M5_0, M5_s0]
  unfold runFn
  rw [show f5.body = b5 from rfl, b5_is]
  show ((evSs Gc C _ [some (.d (.list (kn.map .int))), some (.d (.int (k : Nat))), none, none, none] M).bind _) = _
  rw [sqn e0, sqn e1, sqn e2, sqn e3, sqn e4, sqn e5]
  simp [outV, f5]
/-- the program's many: the others' fields together -/
theorem lc_many {C : CT} {σ : Env} {M : Mem} {hs : List (D × List D)} {h : Nat} {a b : Nat} (hab : b < σ.length) (hab2 : a < σ.length) (hne : a ≠ b) : lcL (.tup2 (.nm a) (.nm b)) [a, b] none (evE Gc C (.var b)) σ ((ot hs 0 h).map otD) M = .ok ((ot hs 0 h).map fun z => .int (z.2 : Nat)) M := by
  have e := lcL_map (tg := .tup2 (.nm a) (.nm b)) (own := [a, b]) (f := evE Gc C (.var b)) (σ := σ) (M := M) (y := fun x => match x with | .tuple [_, .int i] => .int i | _ => .none) (xs := (ot hs 0 h).map otD) (fun x hx => by
    obtain ⟨z, _, rfl⟩ := List.mem_map.mp hx
    have hlen : ∀ own : List Nat, (wipeE σ own).length = σ.length := by
      intro own
      induction own with
      | nil => rfl
      | cons v vs ih => show ((wipeE σ vs).set v none).length = _; rw [List.length_set, ih]
    refine ⟨((wipeE σ [a, b]).set a (some (.d (.int (z.1 : Nat))))).set b (some (.d (.int (z.2 : Nat)))), rfl, ?_⟩
    rw [x_var]
    have : getE (((wipeE σ [a, b]).set a (some (.d (.int (z.1 : Nat))))).set b (some (.d (.int (z.2 : Nat))))) b = some (.d (.int (z.2 : Nat))) := by
      unfold getE
      rw [List.getElem?_set_self (by rw [List.length_set, hlen]; exact hab)]
    rw [this]
    rfl)
  rw [e, List.map_map]
  rfl
theorem sum_many (hs : List (D × List D)) (h : Nat) : (intsOf ((ot hs 0 h).map fun z => PyData.int (z.2 : Nat))).map (fun ns => PyData.int ns.sum) = some (.int (many hs h : Nat)) := by
  have e : ((ot hs 0 h).map fun z => PyData.int (z.2 : Nat)) = ((ot hs 0 h).map (·.2)).map fun (k : Nat) => PyData.int k := by rw [List.map_map]; rfl
  rw [e, sumN]
  show some (PyData.int _) = _
  rw [sum_cast]
  rfl
theorem t6 (m : Nat) {hs : List (D × List D)} {p : D} {cs : List Int} {rs : List (List Int)} {h : Nat} (M : Mem) (hp : Pr hs p) (hC : ∀ M, callAt Gc tx.T m 2 [.d p] M = .ok (.d (iT cs)) M) (hl : cs.length + rs.flatten.length ≤ 1000) (hl2 : hs.length ≤ 1000) (hl3 : many hs h ≤ 1000) (hm : 1 ≤ m) :
    callAt Gc tx.T (m + 2) 6 [.d p, .d (.int (h : Nat)), .d (.tuple (rs.map iT))] M = .ok (.d (iT (sI (knw cs rs ++ fresh (knw cs rs) (many hs h))))) M := by
  have h4 := t4 m M hC hl
  have h3 := t3 m hp h M hl2
  have hkl : (knw cs rs).length ≤ 1000 := by
    have := dd_len (cs ++ rs.flatten)
    unfold knw
    rw [sI_len]
    rw [List.length_append] at this
    omega
  have h5 := t5 m (kn := knw cs rs) (k := many hs h) M (by omega)
  rw [show m + 2 = (m + 1) + 1 by omega, call_is (f := f6) rfl]
  generalize hkn : knw cs rs = kn at *
  have hfl := (fresh_props kn (many hs h)).1
  have hll : kn.length + (fresh kn (many hs h)).length ≤ lim := by unfold lim; omega
  have hll2 : kn.length + many hs h ≤ lim := by unfold lim; omega
  have hs1 := sortD_int (xs := kn ++ fresh kn (many hs h)) (by rw [List.length_append]; exact hll)
  rw [List.map_append] at hs1
  have hm1 := lc_many (C := callAt Gc tx.T (m + 1)) (σ := [some (.d p), some (.d (.int (h : Nat))), some (.d (.tuple (rs.map iT))), some (.d (.list (kn.map .int))), none, none, none]) (M := M) (hs := hs) (h := h) (a := 5) (b := 6) (by simp) (by simp) (by decide)
  have hm2 := sum_many hs h
  have hol : (ot hs 0 h).length ≤ lim := by
    have := ot_len h hs 0
    unfold lim; omega
  generalize fresh kn (many hs h) = fs at *
  simp only [runFn, f6, b6]
  simp [h4, h3, evC, hm1, hol, hm2, h5, hll, hll2, hs1, outV, iT, hfl]
end Mp.k09
end
section
set_option maxHeartbeats 4000000
namespace Mp.k09
open PySem PySem.Spec PyProof.Rows L2 Mp

theorem run_rt {G : Nat → Option D} {C : CT} {fn : Fn} {vs : List Val} {M M1 : Mem} {v : Val} {σ0 : Env} (hl : vs.length = fn.np) (hσ : vs.map some ++ List.replicate (fn.ns - fn.np) none = σ0) (h : evSs G C fn.body σ0 M = .ok (.rt v) M1) : runFn G C fn vs M = outV M.length fn.tr v M1 := by
  unfold runFn
  rw [if_pos hl, hσ, h, x_bok]
theorem out_d {n : Nat} {x : D} {M : Mem} : outV n true (.d x) M = .ok (.d x) (M.take n) := rfl
theorem take_app (M X : Mem) : (M ++ X).take M.length = M := by simp
abbrev St := List Int × Nat
def stD' (z : St) : D := .tuple [iT z.1, .int (z.2 : Nat)]
def ex7 (kn fu : List Int) (z : St) : List St := ((kn ++ fu.take z.2).map fun x => (z.1 ++ [x], z.2)) ++ [(z.1 ++ [fu.getD z.2 0], z.2 + 1)]
def RW (kn fu : List Int) : Nat → List St
  | 0 => [([], 0)]
  | k + 1 => (RW kn fu k).flatMap (ex7 kn fu)
theorem RW_props {kn fu : List Int} : ∀ {k : Nat} {z : St}, z ∈ RW kn fu k → z.1.length = k ∧ z.2 ≤ k
  | 0, z, h => by
    rw [List.mem_singleton.mp h]
    exact ⟨rfl, Nat.le_refl _⟩
  | k + 1, z, h => by
    obtain ⟨y, hy, hz⟩ := List.mem_flatMap.mp h
    obtain ⟨h1, h2⟩ := RW_props hy
    rcases List.mem_append.mp hz with hz | hz
    · obtain ⟨x, _, rfl⟩ := List.mem_map.mp hz
      exact ⟨by simp [h1], by show y.2 ≤ k + 1; omega⟩
    · rw [List.mem_singleton.mp hz]
      exact ⟨by simp [h1], by show y.2 + 1 ≤ k + 1; omega⟩
def s7a : MS := .set 5 (.new (.bin .add (.var 5) (.lc [8] (.nm 8) (.ov (.bin .add (.var 0) (.slc (.var 1) .non (.som (.var 7))))) .nil (.tup (.cons (.bin .add (.var 6) (.tup (.cons (.var 8) .nil))) (.cons (.var 7) .nil))))))
def s7b : MS := .exp (.mt .append (.var 5) (.cons (.tup (.cons (.bin .add (.var 6) (.tup (.cons (.idx (.var 1) (.var 7)) .nil))) (.cons (.bin .add (.var 7) (.con (.int 1))) .nil))) .nil))
def in7 : MSs := .cons s7a (.cons s7b .nil)
def out7 : MSs := .cons (.set 5 (.new (.lst .nil))) (.cons (.forr (.tup2 (.nm 6) (.nm 7)) (.ov (.var 3)) in7) (.cons (.frz 5) (.cons (.set 3 (.var 5)) .nil)))
theorem b7_is : b7 = .cons (.set 3 (.lst (.cons (.tup (.cons (.tup .nil) (.cons (.con (.int 0)) .nil))) .nil))) (.cons (.forr (.nm 4) (.rg1 (.var 2)) out7) (.cons (.ret (.lc [6, 7] (.tup2 (.nm 6) (.nm 7)) (.ov (.var 3)) .nil (.var 6))) .nil)) := rfl
def y7 (r : List Int) (c : Nat) (x : D) : D := match x with | .int a => stD' (r ++ [a], c) | _ => .none
def fst2 (x : D) : D := match x with | .tuple [a, _] => a | _ => .none
section
variable {C : CT} {M0 X : Mem} {kn fu : List Int} {rows : D} {k j : Nat} {t4 t6 t7 t8 : Option Val}
abbrev S7 (kn fu : List Int) (k : Nat) (rows : D) (t4 t5 t6 t7 t8 : Option Val) : Env := [some (.d (.list (kn.map .int))), some (.d (.list (fu.map .int))), some (.d (.int (k : Nat))), some (.d rows), t4, t5, t6, t7, t8]
theorem step7 {acc : List St} {z : St} (hX : X[j]? = some (.lst (acc.map stD'))) (hc : z.2 < fu.length) (hr : z.1.length ≤ 1000) (hl : acc.length + (ex7 kn fu z).length ≤ 1000000) :
    ∃ t8', evSs Gc C in7 (S7 kn fu k rows t4 (some (.ref (M0.length + j))) (some (.d (iT z.1))) (some (.d (.int (z.2 : Nat)))) t8) (M0 ++ X) =
    .ok (.nx (S7 kn fu k rows t4 (some (.ref (M0.length + X.length))) (some (.d (iT z.1))) (some (.d (.int (z.2 : Nat)))) t8')) (M0 ++ (X ++ [.lst ((acc ++ ex7 kn fu z).map stD')])) := by
  obtain ⟨r, c⟩ := z
  have hc' : c < fu.length := hc
  have hr' : r.length ≤ 1000 := hr
  have hg : (M0 ++ X)[M0.length + j]? = some (.lst (acc.map stD')) := by rw [get_app]; exact hX
  have hlen : (ex7 kn fu (r, c)).length = (kn ++ fu.take c).length + 1 := by unfold ex7; rw [List.length_append, List.length_map]; rfl
  rw [hlen] at hl
  have l1 : 1 ≤ lim := by unfold lim; omega
  have l2 : 2 ≤ lim := by unfold lim; omega
  have lr : r.length + 1 ≤ lim := by unfold lim; omega
  have e := lcL_map (tg := .nm 8) (own := [8]) (f := evE Gc C (.tup (.cons (.bin .add (.var 6) (.tup (.cons (.var 8) .nil))) (.cons (.var 7) .nil)))) (σ := S7 kn fu k rows t4 (some (.ref (M0.length + j))) (some (.d (iT r))) (some (.d (.int (c : Nat)))) t8) (M := M0 ++ X)
    (y := y7 r c) (xs := (kn ++ fu.take c).map .int) (fun x hx => by
      obtain ⟨a, _, rfl⟩ := List.mem_map.mp hx
      exact ⟨_, rfl, by simp [wipeE, iT, y7, stD', l1, l2, lr]⟩)
  have e2 : (((kn ++ fu.take c).map PyData.int).map (y7 r c)) = ((kn ++ fu.take c).map fun x => (r ++ [x], c)).map stD' := by
    rw [List.map_map, List.map_map]
    rfl
  rw [e2] at e
  have hcl : (fu.map PyData.int).take c = (fu.take c).map .int := List.map_take.symm
  have hll1 : kn.length + (fu.take c).length ≤ lim := by
    rw [List.length_append] at hl
    unfold lim; omega
  have hll2 : kn.length + min c fu.length ≤ lim := by rw [← List.length_take]; exact hll1
  have hll3 : acc.length + (kn.length + min c fu.length) ≤ lim := by
    rw [List.length_append, List.length_take] at hl
    unfold lim; omega
  have e3 : evS Gc C s7a (S7 kn fu k rows t4 (some (.ref (M0.length + j))) (some (.d (iT r))) (some (.d (.int (c : Nat)))) t8) (M0 ++ X) =
      .ok (.nx (S7 kn fu k rows t4 (some (.ref (M0.length + X.length))) (some (.d (iT r))) (some (.d (.int (c : Nat)))) t8)) (M0 ++ (X ++ [.lst ((acc ++ (kn ++ fu.take c).map fun x => (r ++ [x], c)).map stD')])) := by
    simp only [s7a, x_set, x_new, x_bin, x_var, x_lc, x_ov, x_slc, x_non, x_som, x_gete0, x_getes, x_ofS, x_bok, x_rdd, x_rsd, x_cutl, cutL_take, hcl, x_addl, List.length_map, List.length_take, hll2, if_true, ← List.map_append, evC, e, x_rdr hg, List.length_append, hll3]
    simp [hll2, hll3]
  have hg2 : (M0 ++ (X ++ [.lst ((acc ++ (kn ++ fu.take c).map fun x => (r ++ [x], c)).map stD')]))[M0.length + X.length]? = some (.lst ((acc ++ (kn ++ fu.take c).map fun x => (r ++ [x], c)).map stD')) := by
    rw [get_app]; simp
  have hk := x_kind (m := .append) (fun h => by cases h) (fun h => by cases h) hg2
  have ha := x_app (x := stD' (r ++ [fu.getD c 0], c + 1)) hg2
  rw [if_pos (by rw [List.length_map, List.length_append, List.length_map]; unfold lim; omega), set_app] at ha
  have hat : L2.atI (fu.map PyData.int) (c : Int) = some (.int (fu.getD c 0)) := L2.atI_nat (by rw [List.getElem?_map, List.getD_eq_getElem?_getD, List.getElem?_eq_getElem hc']; rfl)
  have e4 : (X ++ [Ob.lst ((acc ++ (kn ++ fu.take c).map fun x => (r ++ [x], c)).map stD')]).set X.length (.lst ((acc ++ (kn ++ fu.take c).map fun x => (r ++ [x], c)).map stD' ++ [stD' (r ++ [fu.getD c 0], c + 1)])) = X ++ [.lst ((acc ++ ex7 kn fu (r, c)).map stD')] := by
    simp [ex7]
  rw [e4] at ha
  refine ⟨t8, ?_⟩
  unfold in7
  rw [sqn e3]
  generalize M0 ++ (X ++ [Ob.lst ((acc ++ (kn ++ fu.take c).map fun x => (r ++ [x], c)).map stD')]) = M1 at *
  have hst : stD' (r ++ [fu.getD c 0], c + 1) = .tuple [.tuple (r.map .int ++ [.int (fu.getD c 0)]), .int ((c : Int) + 1)] := by simp [stD', iT]
  rw [hst] at ha
  generalize fu.getD c 0 = v at *
  simp [s7b, hk, iT, hat, l1, l2, lr, ha]
theorem loop7 : ∀ {zs acc : List St} {X : Mem} {j : Nat} {t6 t7 t8 : Option Val}, X[j]? = some (.lst (acc.map stD')) → (∀ z ∈ zs, z.2 < fu.length ∧ z.1.length ≤ 1000) → acc.length + (zs.flatMap (ex7 kn fu)).length ≤ 1000000 →
    ∃ X' j' u6 u7 u8, forL (.tup2 (.nm 6) (.nm 7)) (evSs Gc C in7) (zs.map stD') (S7 kn fu k rows t4 (some (.ref (M0.length + j))) t6 t7 t8) (M0 ++ X) =
    .ok (.nx (S7 kn fu k rows t4 (some (.ref (M0.length + j'))) u6 u7 u8)) (M0 ++ X') ∧ X'[j']? = some (.lst ((acc ++ zs.flatMap (ex7 kn fu)).map stD'))
  | [], acc, X, j, t6, t7, t8, hX, _, _ => ⟨X, j, t6, t7, t8, rfl, by simpa using hX⟩
  | z :: zs, acc, X, j, t6, t7, t8, hX, hz, hl => by
    rw [List.flatMap_cons, List.length_append] at hl
    obtain ⟨u8, e1⟩ := step7 (C := C) (kn := kn) (fu := fu) (k := k) (rows := rows) (t4 := t4) (t8 := t8) (M0 := M0) hX (hz z List.mem_cons_self).1 (hz z List.mem_cons_self).2 (by omega)
    obtain ⟨X', j', v6, v7, v8, e2, hX'⟩ := loop7 (zs := zs) (acc := acc ++ ex7 kn fu z) (X := X ++ [.lst ((acc ++ ex7 kn fu z).map stD')]) (j := X.length) (t6 := some (.d (iT z.1))) (t7 := some (.d (.int (z.2 : Nat)))) (t8 := u8) (by simp) (fun y hy => hz y (List.mem_cons_of_mem _ hy)) (by rw [List.length_append]; omega)
    refine ⟨X', j', v6, v7, v8, ?_, by rw [List.flatMap_cons, ← List.append_assoc]; exact hX'⟩
    rw [← e2, List.map_cons]
    conv => lhs; unfold forL
    show ((evSs Gc C in7 (S7 kn fu k rows t4 (some (.ref (M0.length + j))) (some (.d (iT z.1))) (some (.d (.int (z.2 : Nat)))) t8) (M0 ++ X)).bind _) = _
    rw [e1, x_bok]
end
theorem t7 (m : Nat) {kn fu : List Int} {k : Nat} (M : Mem) (hk : k ≤ fu.length) (hk2 : k ≤ 1000) (hB : ∀ i ≤ k, (RW kn fu i).length ≤ 1000000) :
    callAt Gc tx.T (m + 1) 7 [.d (.list (kn.map .int)), .d (.list (fu.map .int)), .d (.int (k : Nat))] M = .ok (.d (.list ((RW kn fu k).map fun z => iT z.1))) M := by
  rw [call_is (f := f7) rfl]
  let C := callAt Gc tx.T m
  obtain ⟨σ', M', e, X, t4, t5, t6, t7, t8, rfl, rfl⟩ := forL_go (tg := .nm 4) (b := evSs Gc C out7) (xs := (rI k).map .int) (σ := S7 kn fu k (.list ((RW kn fu 0).map stD')) none none none none none) (M := M)
    (fun i σ M' => ∃ (X : Mem) (t4 t5 t6 t7 t8 : Option Val), σ = S7 kn fu k (.list ((RW kn fu i).map stD')) t4 t5 t6 t7 t8 ∧ M' = M ++ X) ⟨[], none, none, none, none, none, rfl, by simp⟩ (by
      rintro i x σ M' hx ⟨X, t4, t5, t6, t7, t8, rfl, rfl⟩
      obtain ⟨hi, rfl⟩ := rI_at hx
      obtain ⟨X', j', u6, u7, u8, e1, hX'⟩ := loop7 (C := C) (M0 := M) (kn := kn) (fu := fu) (rows := .list ((RW kn fu i).map stD')) (k := k) (t4 := some (.d (.int (i : Nat)))) (zs := RW kn fu i) (acc := []) (X := X ++ [.lst []]) (j := X.length) (t6 := t6) (t7 := t7) (t8 := t8) (by simp)
        (fun z hz => ⟨by have := (RW_props hz).2; omega, by have := (RW_props hz).1; omega⟩) (by have := hB (i + 1) (by omega); show [].length + (RW kn fu (i + 1)).length ≤ _; simpa using this)
      have hg : (M ++ X')[M.length + j']? = some (.lst ((RW kn fu (i + 1)).map stD')) := by rw [get_app]; exact hX'
      refine ⟨S7 kn fu k (.list ((RW kn fu i).map stD')) (some (.d (.int (i : Nat)))) t5 t6 t7 t8, _, _, rfl, ?_, X'.set j' .dead, some (.d (.int (i : Nat))), some (.d (.list ((RW kn fu (i + 1)).map stD'))), u6, u7, u8, rfl, rfl⟩
      have a1 : evS Gc C (.set 5 (.new (.lst .nil))) (S7 kn fu k (.list ((RW kn fu i).map stD')) (some (.d (.int (i : Nat)))) t5 t6 t7 t8) (M ++ X) = .ok (.nx (S7 kn fu k (.list ((RW kn fu i).map stD')) (some (.d (.int (i : Nat)))) (some (.ref (M.length + X.length))) t6 t7 t8)) (M ++ (X ++ [.lst []])) := by simp
      have a2 : evS Gc C (.forr (.tup2 (.nm 6) (.nm 7)) (.ov (.var 3)) in7) (S7 kn fu k (.list ((RW kn fu i).map stD')) (some (.d (.int (i : Nat)))) (some (.ref (M.length + X.length))) t6 t7 t8) (M ++ (X ++ [.lst []])) = .ok (.nx (S7 kn fu k (.list ((RW kn fu i).map stD')) (some (.d (.int (i : Nat)))) (some (.ref (M.length + j'))) u6 u7 u8)) (M ++ X') := by
        rw [x_forr, ← e1]
        simp
      have a3 : evS Gc C (.frz 5) (S7 kn fu k (.list ((RW kn fu i).map stD')) (some (.d (.int (i : Nat)))) (some (.ref (M.length + j'))) u6 u7 u8) (M ++ X') = .ok (.nx (S7 kn fu k (.list ((RW kn fu i).map stD')) (some (.d (.int (i : Nat)))) (some (.d (.list ((RW kn fu (i + 1)).map stD')))) u6 u7 u8)) (M ++ X'.set j' .dead) := by
        simp [hg, set_app]
      unfold out7
      rw [sqn a1, sqn a2, sqn a3]
      simp)
  rw [List.length_map, rI_len] at e
  have l1 : 1 ≤ lim := by unfold lim; omega
  have l2 : 2 ≤ lim := by unfold lim; omega
  have a0 : evS Gc C (.set 3 (.lst (.cons (.tup (.cons (.tup .nil) (.cons (.con (.int 0)) .nil))) .nil))) [some (.d (.list (kn.map .int))), some (.d (.list (fu.map .int))), some (.d (.int (k : Nat))), none, none, none, none, none, none] M = .ok (.nx (S7 kn fu k (.list ((RW kn fu 0).map stD')) none none none none none)) M := by
    simp [l1, l2, RW, stD', iT]
  have hr := rngOk_n (n := k) (by unfold lim; omega)
  have a1 : evS Gc C (.forr (.nm 4) (.rg1 (.var 2)) out7) (S7 kn fu k (.list ((RW kn fu 0).map stD')) none none none none none) M = .ok (.nx (S7 kn fu k (.list ((RW kn fu k).map stD')) t4 t5 t6 t7 t8)) (M ++ X) := by
    rw [x_forr, ← e]
    simp [hr, rngD_rI]
  have e2 := lcL_map (tg := .tup2 (.nm 6) (.nm 7)) (own := [6, 7]) (f := evE Gc C (.var 6)) (σ := S7 kn fu k (.list ((RW kn fu k).map stD')) t4 t5 t6 t7 t8) (M := M ++ X)
    (y := fst2) (xs := (RW kn fu k).map stD') (fun x hx => by
      obtain ⟨z, _, rfl⟩ := List.mem_map.mp hx
      exact ⟨_, rfl, by simp [wipeE]; rfl⟩)
  have e3 : (((RW kn fu k).map stD').map fst2) = (RW kn fu k).map fun z => iT z.1 := by
    rw [List.map_map]
    rfl
  rw [e3] at e2
  have hll : (RW kn fu k).length ≤ lim := by have := hB k (Nat.le_refl _); unfold lim; omega
  rw [run_rt (fn := f7) (σ0 := [some (.d (.list (kn.map .int))), some (.d (.list (fu.map .int))), some (.d (.int (k : Nat))), none, none, none, none, none, none]) (v := .d (.list ((RW kn fu k).map fun z => iT z.1))) (M1 := M ++ X) rfl rfl ?_]
  · show outV M.length true _ _ = _
    rw [out_d, take_app]
  show evSs Gc C b7 _ M = _
  rw [b7_is, sqn a0, sqn a1]
  simp [evC, e2, hll]
end Mp.k09
end
section
set_option maxHeartbeats 4000000
namespace Mp.k09
open PySem PySem.Spec PyProof.Rows L2 Mp

theorem cutL_gen {α : Type} (xs : List α) (j k : Nat) : cutL xs (some (j : Int)) (some ((j : Int) + (k : Int))) = (xs.drop j).take k := by
  have e : (j : Int) + (k : Int) = ((j + k : Nat) : Int) := by omega
  rw [e]
  by_cases h : j + k ≤ xs.length
  · exact cutL_mid xs j k h
  · unfold cutL
    rw [sIx_nat, sIx_nat, Nat.min_eq_right (show xs.length ≤ j + k by omega)]
    by_cases hj : j ≤ xs.length
    · rw [Nat.min_eq_left hj, List.take_of_length_le (by simp), List.take_of_length_le (by rw [List.length_drop]; omega)]
    · rw [Nat.min_eq_right (by omega), List.drop_of_length_le (Nat.le_refl _), List.drop_of_length_le (by omega)]
      simp
theorem ot_lt (h : Nat) : ∀ {hs : List (D × List D)} {i : Nat} {z : Nat × Nat}, z ∈ ot hs i h → i ≤ z.1 ∧ z.1 < i + hs.length
  | [], _, _, hz => by cases hz
  | x :: hs, i, z, hz => by
    unfold ot at hz
    rw [List.length_cons]
    split at hz
    · rcases List.mem_cons.mp hz with rfl | hz
      · exact ⟨Nat.le_refl _, by show i < _; omega⟩
      · have := ot_lt h hz; omega
    · have := ot_lt h hz; omega
def spl : List (Nat × Nat) → List Int → Nat → List (List Int) → List (List Int)
  | [], _, _, w => w
  | z :: o, r, pl, w => spl o r (pl + z.2) (w.set z.1 ((r.drop pl).take z.2))
def wD (w : List (List Int)) : D := .tuple (w.map iT)
def world (hs : List (D × List D)) (h : Nat) (r : List Int) : List (List Int) := spl (ot hs 0 h) r 0 (List.replicate hs.length [])
theorem spl_len : ∀ (o : List (Nat × Nat)) (r : List Int) (pl : Nat) (w : List (List Int)), (spl o r pl w).length = w.length
  | [], _, _, _ => rfl
  | z :: o, r, pl, w => by
    show (spl o r (pl + z.2) (w.set z.1 ((r.drop pl).take z.2))).length = _
    rw [spl_len, List.length_set]
def in8 : MSs := .cons (.setI (.var 8) (.var 10) (.slc (.var 7) (.som (.var 9)) (.som (.bin .add (.var 9) (.var 11))))) (.cons (.aug 9 .add (.var 11)) .nil)
def out8 : MSs := .cons (.set 8 (.new (.lc [12] (.nm 12) (.ov (.idx (.var 0) (.con (.int 0)))) .nil (.tup .nil)))) (.cons (.set 9 (.con (.int 0))) (.cons (.forr (.tup2 (.nm 10) (.nm 11)) (.ov (.var 3)) in8) (.cons (.exp (.mt .append (.var 6) (.cons (.bi .tuple (.cons (.var 8) .nil)) .nil))) .nil)))
theorem b8_is : b8 = .cons (nthS b8 0) (.cons (nthS b8 1) (.cons (nthS b8 2) (.cons (.set 6 (.new (.lst .nil))) (.cons (.forr (.nm 7) (.ov (.call 7 (.cons (.var 5) (.cons (.call 5 (.cons (.var 5) (.cons (.var 4) .nil))) (.cons (.var 4) .nil))))) out8) (.cons (.ret (.bi .tuple (.cons (.bi .sorted (.cons (.var 6) .nil)) .nil))) .nil))))) := rfl
section
variable {C : CT} {M0 : Mem} {hs : List (D × List D)} {h : Nat}
abbrev S8 (a0 a1 a2 a3 a4 a5 t6 t7 t8 t9 t10 t11 : Option Val) : Env := [a0, a1, a2, a3, a4, a5, t6, t7, t8, t9, t10, t11, none]
variable {a0 a1 a2 a3 a4 a5 t6 t7 t10 t11 : Option Val}
theorem loop8 {r : List Int} {j : Nat} : ∀ {o : List (Nat × Nat)} {pl : Nat} {w : List (List Int)} {X : Mem} {t10 t11 : Option Val}, (∀ z ∈ o, z.1 < w.length) → X[j]? = some (.lst (w.map iT)) →
    ∃ pl' u10 u11, forL (.tup2 (.nm 10) (.nm 11)) (evSs Gc C in8) (o.map otD) (S8 a0 a1 a2 a3 a4 a5 t6 (some (.d (iT r))) (some (.ref (M0.length + j))) (some (.d (.int (pl : Nat)))) t10 t11) (M0 ++ X) =
    .ok (.nx (S8 a0 a1 a2 a3 a4 a5 t6 (some (.d (iT r))) (some (.ref (M0.length + j))) (some (.d (.int (pl' : Nat)))) u10 u11)) (M0 ++ X.set j (.lst ((spl o r pl w).map iT)))
  | [], pl, w, X, t10, t11, _, hX => by
    have hj := (List.getElem?_eq_some_iff.mp hX)
    obtain ⟨hj, hj2⟩ := hj
    refine ⟨pl, t10, t11, ?_⟩
    have : X.set j (.lst ((spl [] r pl w).map iT)) = X := by
      show X.set j (.lst (w.map iT)) = X
      rw [← hj2]
      exact List.set_getElem_self _
    rw [this]
    rfl
  | (a, f) :: o, pl, w, X, t10, t11, ho, hX => by
    have ha : a < w.length := ho (a, f) List.mem_cons_self
    have hj := (List.getElem?_eq_some_iff.mp hX).1
    have hg : (M0 ++ X)[M0.length + j]? = some (.lst (w.map iT)) := by rw [get_app]; exact hX
    obtain ⟨pl', u10, u11, e⟩ := loop8 (r := r) (j := j) (o := o) (pl := pl + f) (w := w.set a ((r.drop pl).take f)) (X := X.set j (.lst ((w.set a ((r.drop pl).take f)).map iT))) (t10 := some (.d (.int (a : Nat)))) (t11 := some (.d (.int (f : Nat)))) (fun z hz => by rw [List.length_set]; exact ho z (List.mem_cons_of_mem _ hz)) (by simp [hj])
    refine ⟨pl', u10, u11, ?_⟩
    rw [List.set_set] at e
    have e0 : spl ((a, f) :: o) r pl w = spl o r (pl + f) (w.set a ((r.drop pl).take f)) := rfl
    rw [e0, ← e, List.map_cons]
    conv => lhs; unfold forL
    show ((evSs Gc C in8 (S8 a0 a1 a2 a3 a4 a5 t6 (some (.d (iT r))) (some (.ref (M0.length + j))) (some (.d (.int (pl : Nat)))) (some (.d (.int (a : Nat)))) (some (.d (.int (f : Nat))))) (M0 ++ X)).bind _) = _
    have hc := cutL_gen (r.map PyData.int) pl f
    have hix : L2.ixN (w.map iT).length ((a : Nat) : Int) = some a := by
      unfold L2.ixN
      rw [List.length_map, if_pos (by omega), if_pos (by omega)]
      simp
    have hset : setV (M0 ++ X) (.ref (M0.length + j)) (.d (.int (a : Nat))) (.d (iT ((r.drop pl).take f))) = some (M0 ++ X.set j (.lst ((w.set a ((r.drop pl).take f)).map iT))) := by
      simp only [setV, hg, hix, Option.map_some, set_app]
      rw [List.map_set]
    have hiT : PyData.tuple (((r.map PyData.int).drop pl).take f) = iT ((r.drop pl).take f) := by simp [iT, List.map_drop, List.map_take]
    have e1 : evS Gc C (.setI (.var 8) (.var 10) (.slc (.var 7) (.som (.var 9)) (.som (.bin .add (.var 9) (.var 11))))) (S8 a0 a1 a2 a3 a4 a5 t6 (some (.d (iT r))) (some (.ref (M0.length + j))) (some (.d (.int (pl : Nat)))) (some (.d (.int (a : Nat)))) (some (.d (.int (f : Nat))))) (M0 ++ X) =
        .ok (.nx (S8 a0 a1 a2 a3 a4 a5 t6 (some (.d (iT r))) (some (.ref (M0.length + j))) (some (.d (.int (pl : Nat)))) (some (.d (.int (a : Nat)))) (some (.d (.int (f : Nat)))))) (M0 ++ X.set j (.lst ((w.set a ((r.drop pl).take f)).map iT))) := by
      have hcut : cutD (iT r) (some (pl : Int)) (some ((pl : Int) + (f : Int))) = some (iT ((r.drop pl).take f)) := by
        show some (PyData.tuple (cutL (r.map PyData.int) _ _)) = _
        rw [hc, hiT]
      simp [hcut, hset]
    unfold in8
    rw [sqn e1]
    simp
/-- one row, one world -/
theorem step8 {p : D} {r : List Int} {ws : List (List (List Int))} {X : Mem} (hp : Pr hs p) (hX : X[0]? = some (.lst (ws.map wD))) (hl : ws.length < lim) (hl2 : hs.length ≤ 1000) {t8 t9 : Option Val} :
    ∃ X' u8 u9 u10 u11, evSs Gc C out8 (S8 (some (.d p)) a1 a2 (some (.d (.list ((ot hs 0 h).map otD)))) a4 a5 (some (.ref M0.length)) (some (.d (iT r))) t8 t9 t10 t11) (M0 ++ X) =
    .ok (.nx (S8 (some (.d p)) a1 a2 (some (.d (.list ((ot hs 0 h).map otD)))) a4 a5 (some (.ref M0.length)) (some (.d (iT r))) u8 u9 u10 u11)) (M0 ++ X') ∧ X'[0]? = some (.lst ((ws ++ [world hs h r]).map wD)) := by
  obtain ⟨a, rfl⟩ := hp
  have hX0 := (List.getElem?_eq_some_iff.mp hX).1
  have l0 : hs.length ≤ lim := by unfold lim; omega
  have e := lcL_map (tg := .nm 12) (own := [12]) (f := evE Gc C (.tup .nil)) (σ := S8 (some (.d (.tuple [.tuple (hsD hs), a]))) a1 a2 (some (.d (.list ((ot hs 0 h).map otD)))) a4 a5 (some (.ref M0.length)) (some (.d (iT r))) t8 t9 t10 t11) (M := M0 ++ X)
    (y := fun _ => .tuple []) (xs := hsD hs) (fun x hx => ⟨_, rfl, by simp⟩)
  have e2 : (hsD hs).map (fun _ => PyData.tuple []) = (List.replicate hs.length ([] : List Int)).map iT := by
    unfold hsD
    rw [List.map_map, List.map_replicate]
    exact List.eq_replicate_iff.mpr ⟨by simp, fun b hb => by obtain ⟨_, _, rfl⟩ := List.mem_map.mp hb; rfl⟩
  rw [e2] at e
  have s0 : evS Gc C (.set 8 (.new (.lc [12] (.nm 12) (.ov (.idx (.var 0) (.con (.int 0)))) .nil (.tup .nil)))) (S8 (some (.d (.tuple [.tuple (hsD hs), a]))) a1 a2 (some (.d (.list ((ot hs 0 h).map otD)))) a4 a5 (some (.ref M0.length)) (some (.d (iT r))) t8 t9 t10 t11) (M0 ++ X) =
      .ok (.nx (S8 (some (.d (.tuple [.tuple (hsD hs), a]))) a1 a2 (some (.d (.list ((ot hs 0 h).map otD)))) a4 a5 (some (.ref M0.length)) (some (.d (iT r))) (some (.ref (M0.length + X.length))) t9 t10 t11)) (M0 ++ (X ++ [.lst ((List.replicate hs.length ([] : List Int)).map iT)])) := by
    simp only [x_set, x_new, x_lc, x_ov, x_idx, x_var, x_con, x_gete0, x_ofS, x_bok, hp0, evC, e, List.length_map, List.length_replicate, l0, if_true]
    simp
  have s1 : evS Gc C (.set 9 (.con (.int 0))) (S8 (some (.d (.tuple [.tuple (hsD hs), a]))) a1 a2 (some (.d (.list ((ot hs 0 h).map otD)))) a4 a5 (some (.ref M0.length)) (some (.d (iT r))) (some (.ref (M0.length + X.length))) t9 t10 t11) (M0 ++ (X ++ [.lst ((List.replicate hs.length ([] : List Int)).map iT)])) =
      .ok (.nx (S8 (some (.d (.tuple [.tuple (hsD hs), a]))) a1 a2 (some (.d (.list ((ot hs 0 h).map otD)))) a4 a5 (some (.ref M0.length)) (some (.d (iT r))) (some (.ref (M0.length + X.length))) (some (.d (.int (0 : Nat)))) t10 t11)) (M0 ++ (X ++ [.lst ((List.replicate hs.length ([] : List Int)).map iT)])) := by
    simp
  obtain ⟨pl', u10, u11, e3⟩ := loop8 (C := C) (M0 := M0) (a0 := some (.d (.tuple [.tuple (hsD hs), a]))) (a1 := a1) (a2 := a2) (a3 := some (.d (.list ((ot hs 0 h).map otD)))) (a4 := a4) (a5 := a5) (t6 := some (.ref M0.length)) (r := r) (j := X.length) (o := ot hs 0 h) (pl := 0) (w := List.replicate hs.length []) (X := X ++ [.lst ((List.replicate hs.length ([] : List Int)).map iT)]) (t10 := t10) (t11 := t11) (fun z hz => by
    have := (ot_lt h hz).2
    rw [List.length_replicate]
    omega) (by simp)
  have s2' : ∀ R, forL (.tup2 (.nm 10) (.nm 11)) (evSs Gc C in8) ((ot hs 0 h).map otD) (S8 (some (.d (.tuple [.tuple (hsD hs), a]))) a1 a2 (some (.d (.list ((ot hs 0 h).map otD)))) a4 a5 (some (.ref M0.length)) (some (.d (iT r))) (some (.ref (M0.length + X.length))) (some (.d (.int (0 : Nat)))) t10 t11) (M0 ++ (X ++ [.lst ((List.replicate hs.length ([] : List Int)).map iT)])) = R → evS Gc C (.forr (.tup2 (.nm 10) (.nm 11)) (.ov (.var 3)) in8) (S8 (some (.d (.tuple [.tuple (hsD hs), a]))) a1 a2 (some (.d (.list ((ot hs 0 h).map otD)))) a4 a5 (some (.ref M0.length)) (some (.d (iT r))) (some (.ref (M0.length + X.length))) (some (.d (.int (0 : Nat)))) t10 t11) (M0 ++ (X ++ [.lst ((List.replicate hs.length ([] : List Int)).map iT)])) = R := fun R hR => by
    rw [x_forr, x_ov, x_var]
    simp only [x_gete0, x_getes, x_ofS, x_bok]
    exact hR
  have s2 := s2' _ e3
  have hw : spl (ot hs 0 h) r 0 (List.replicate hs.length []) = world hs h r := rfl
  rw [hw] at s2
  have e4 : (X ++ [Ob.lst ((List.replicate hs.length ([] : List Int)).map iT)]).set X.length (.lst ((world hs h r).map iT)) = X ++ [.lst ((world hs h r).map iT)] := by simp
  rw [e4] at s2
  have hg : (M0 ++ (X ++ [Ob.lst ((world hs h r).map iT)]))[M0.length + X.length]? = some (.lst ((world hs h r).map iT)) := by rw [get_app]; simp
  have hg0 : (M0 ++ (X ++ [Ob.lst ((world hs h r).map iT)]))[M0.length]? = some (.lst (ws.map wD)) := by
    have := get_app M0 (X ++ [Ob.lst ((world hs h r).map iT)]) 0
    rw [Nat.add_zero] at this
    rw [this, List.getElem?_append_left hX0]
    exact hX
  have hb := x_btupr hg
  have hk := x_kind (m := .append) (fun h => by cases h) (fun h => by cases h) hg0
  have ha := x_app (x := wD (world hs h r)) hg0
  have hse : (M0 ++ (X ++ [Ob.lst ((world hs h r).map iT)])).set M0.length (.lst (ws.map wD ++ [wD (world hs h r)])) = M0 ++ (X ++ [Ob.lst ((world hs h r).map iT)]).set 0 (.lst (ws.map wD ++ [wD (world hs h r)])) := set_app M0 _ 0 _
  rw [List.length_map, if_pos hl, hse] at ha
  refine ⟨(X ++ [Ob.lst ((world hs h r).map iT)]).set 0 (.lst (ws.map wD ++ [wD (world hs h r)])), some (.ref (M0.length + X.length)), some (.d (.int (pl' : Nat))), u10, u11, ?_, ?_⟩
  · unfold out8
    rw [sqn s0, sqn s1, sqn s2]
    generalize M0 ++ (X ++ [Ob.lst ((world hs h r).map iT)]) = M1 at *
    unfold wD at ha ⊢
    simp [hb, hk, ha]
  · rw [List.getElem?_set_self (by simp), List.map_append]
    rfl
end
end Mp.k09
end
section
set_option maxHeartbeats 4000000
namespace Mp.k09
open PySem PySem.Spec PyProof.Rows L2 Mp

def worlds (hs : List (D × List D)) (h : Nat) (kn : List Int) : List (List (List Int)) := (RW kn (fresh kn (many hs h)) (many hs h)).map fun z => world hs h z.1
theorem t8 (m : Nat) {hs : List (D × List D)} {p : D} {cs : List Int} {rs : List (List Int)} {h : Nat} {zs : List D} (M : Mem) (hp : Pr hs p) (hC : ∀ M, callAt Gc tx.T m 2 [.d p] M = .ok (.d (iT cs)) M) (hl : cs.length + rs.flatten.length ≤ 1000) (hl2 : hs.length ≤ 1000) (hl3 : many hs h ≤ 1000) (hm : 1 ≤ m)
    (hB : ∀ i ≤ many hs h, (RW (knw cs rs) (fresh (knw cs rs) (many hs h)) i).length ≤ 1000000) (hz : sortD ((worlds hs h (knw cs rs)).map wD) = some zs) :
    callAt Gc tx.T (m + 2) 8 [.d p, .d (.int (h : Nat)), .d (.tuple (rs.map iT))] M = .ok (.d (.tuple zs)) M := by
  have h4 := fun M => t4 m M hC hl
  have h3 := fun M => t3 m hp h M hl2
  have hkl : (knw cs rs).length ≤ 1000 := by
    have := dd_len (cs ++ rs.flatten)
    unfold knw
    rw [sI_len]
    rw [List.length_append] at this
    omega
  have h5 := fun M => t5 m (kn := knw cs rs) (k := many hs h) M (by omega)
  unfold worlds at hz
  generalize hkn : knw cs rs = kn at *
  have hfl := (fresh_props kn (many hs h)).1
  generalize fresh kn (many hs h) = fs at *
  have h7 := fun M => t7 m (kn := kn) (fu := fs) (k := many hs h) M (by omega) (by omega) hB
  have hol : (ot hs 0 h).length ≤ lim := by
    have := ot_len h hs 0
    unfold lim; omega
  rw [show m + 2 = (m + 1) + 1 by omega, call_is (f := f8) rfl]
  let C := callAt Gc tx.T (m + 1)
  have s0 : evS Gc C (nthS b8 0) [some (.d p), some (.d (.int (h : Nat))), some (.d (.tuple (rs.map iT))), none, none, none, none, none, none, none, none, none, none] M = .ok (.nx [some (.d p), some (.d (.int (h : Nat))), some (.d (.tuple (rs.map iT))), some (.d (.list ((ot hs 0 h).map otD))), none, none, none, none, none, none, none, none, none]) M := by
    simp [nthS, b8, C, h3]
  have hm1 := lc_many (C := C) (σ := [some (.d p), some (.d (.int (h : Nat))), some (.d (.tuple (rs.map iT))), some (.d (.list ((ot hs 0 h).map otD))), none, none, none, none, none, none, none, none, none]) (M := M) (hs := hs) (h := h) (a := 10) (b := 11) (by simp) (by simp) (by decide)
  have hm2 := sum_many hs h
  have s1 : evS Gc C (nthS b8 1) [some (.d p), some (.d (.int (h : Nat))), some (.d (.tuple (rs.map iT))), some (.d (.list ((ot hs 0 h).map otD))), none, none, none, none, none, none, none, none, none] M = .ok (.nx [some (.d p), some (.d (.int (h : Nat))), some (.d (.tuple (rs.map iT))), some (.d (.list ((ot hs 0 h).map otD))), some (.d (.int (many hs h : Nat))), none, none, none, none, none, none, none, none]) M := by
    simp [nthS, b8, evC, hm1, hol, hm2]
  have s2 : evS Gc C (nthS b8 2) [some (.d p), some (.d (.int (h : Nat))), some (.d (.tuple (rs.map iT))), some (.d (.list ((ot hs 0 h).map otD))), some (.d (.int (many hs h : Nat))), none, none, none, none, none, none, none, none] M = .ok (.nx [some (.d p), some (.d (.int (h : Nat))), some (.d (.tuple (rs.map iT))), some (.d (.list ((ot hs 0 h).map otD))), some (.d (.int (many hs h : Nat))), some (.d (.list (kn.map .int))), none, none, none, none, none, none, none]) M := by
    simp [nthS, b8, C, h4]
  have s3 : evS Gc C (.set 6 (.new (.lst .nil))) [some (.d p), some (.d (.int (h : Nat))), some (.d (.tuple (rs.map iT))), some (.d (.list ((ot hs 0 h).map otD))), some (.d (.int (many hs h : Nat))), some (.d (.list (kn.map .int))), none, none, none, none, none, none, none] M = .ok (.nx (S8 (some (.d p)) (some (.d (.int (h : Nat)))) (some (.d (.tuple (rs.map iT)))) (some (.d (.list ((ot hs 0 h).map otD)))) (some (.d (.int (many hs h : Nat)))) (some (.d (.list (kn.map .int)))) (some (.ref M.length)) none none none none none)) (M ++ [.lst []]) := by
    simp
  have hbig := hB _ (Nat.le_refl _)
  obtain ⟨σ', M', e, X, u7, u8, u9, u10, u11, rfl, rfl, hX⟩ := forL_go (tg := .nm 7) (b := evSs Gc C out8) (xs := (RW kn fs (many hs h)).map fun z => iT z.1)
    (σ := S8 (some (.d p)) (some (.d (.int (h : Nat)))) (some (.d (.tuple (rs.map iT)))) (some (.d (.list ((ot hs 0 h).map otD)))) (some (.d (.int (many hs h : Nat)))) (some (.d (.list (kn.map .int)))) (some (.ref M.length)) none none none none none) (M := M ++ [.lst []])
    (fun i σ M' => ∃ (X : Mem) (u7 u8 u9 u10 u11 : Option Val), σ = S8 (some (.d p)) (some (.d (.int (h : Nat)))) (some (.d (.tuple (rs.map iT)))) (some (.d (.list ((ot hs 0 h).map otD)))) (some (.d (.int (many hs h : Nat)))) (some (.d (.list (kn.map .int)))) (some (.ref M.length)) u7 u8 u9 u10 u11 ∧ M' = M ++ X ∧
      X[0]? = some (.lst ((((RW kn fs (many hs h)).take i).map fun z => world hs h z.1).map wD)))
    ⟨[.lst []], none, none, none, none, none, rfl, rfl, rfl⟩ (by
      rintro i x σ M' hx ⟨X, u7, u8, u9, u10, u11, rfl, rfl, hX⟩
      rw [List.getElem?_map] at hx
      obtain ⟨z, hzz, rfl⟩ := Option.map_eq_some_iff.mp hx
      have hi := (List.getElem?_eq_some_iff.mp hzz).1
      obtain ⟨X', v8, v9, v10, v11, e1, hX'⟩ := step8 (C := C) (M0 := M) (h := h) (a1 := some (.d (.int (h : Nat)))) (a2 := some (.d (.tuple (rs.map iT)))) (a4 := some (.d (.int (many hs h : Nat)))) (a5 := some (.d (.list (kn.map .int)))) (t10 := u10) (t11 := u11) (t8 := u8) (t9 := u9) (r := z.1) hp hX (by rw [List.length_map, List.length_take]; unfold lim; omega) hl2
      refine ⟨_, _, _, rfl, e1, X', some (.d (iT z.1)), v8, v9, v10, v11, rfl, rfl, ?_⟩
      rw [hX', List.take_add_one, hzz]
      simp)
  rw [List.length_map, List.take_length] at hX
  have s4 : evS Gc C (.forr (.nm 7) (.ov (.call 7 (.cons (.var 5) (.cons (.call 5 (.cons (.var 5) (.cons (.var 4) .nil))) (.cons (.var 4) .nil))))) out8) (S8 (some (.d p)) (some (.d (.int (h : Nat)))) (some (.d (.tuple (rs.map iT)))) (some (.d (.list ((ot hs 0 h).map otD)))) (some (.d (.int (many hs h : Nat)))) (some (.d (.list (kn.map .int)))) (some (.ref M.length)) none none none none none) (M ++ [.lst []]) =
      .ok (.nx (S8 (some (.d p)) (some (.d (.int (h : Nat)))) (some (.d (.tuple (rs.map iT)))) (some (.d (.list ((ot hs 0 h).map otD)))) (some (.d (.int (many hs h : Nat)))) (some (.d (.list (kn.map .int)))) (some (.ref M.length)) u7 u8 u9 u10 u11)) (M ++ X) := by
    rw [x_forr, ← e]
    simp [C, h5, h7]
  have hg0 : (M ++ X)[M.length]? = some (.lst (((RW kn fs (many hs h)).map fun z => world hs h z.1).map wD)) := by
    have := get_app M X 0
    rw [Nat.add_zero] at this
    rw [this]
    exact hX
  have hs := x_bsr hg0
  rw [hz] at hs
  rw [run_rt (fn := f8) (σ0 := [some (.d p), some (.d (.int (h : Nat))), some (.d (.tuple (rs.map iT))), none, none, none, none, none, none, none, none, none, none]) (v := .d (.tuple zs)) (M1 := M ++ X) rfl rfl ?_]
  · show outV M.length true _ _ = _
    rw [out_d, take_app]
  show evSs Gc C b8 _ M = _
  rw [b8_is, sqn s0, sqn s1, sqn s2, sqn s3, sqn s4]
  simp [hs]
end Mp.k09
end
section
set_option maxHeartbeats 4000000
namespace Mp.k09
open PySem PySem.Spec PyProof.Rows L2 Mp

theorem at1 {α : Type} (x y : α) (r : List α) : L2.atI (x :: y :: r) 1 = some y := L2.atI_nat (j := 1) rfl
def c16 : ME := .cmp .lt (.bi .len (.cons (.var 8) .nil)) (.var 6)
def w16 : MSs := .cons (.iff (.cmp .notin (.var 7) (.var 4)) (.cons (.exp (.mt .append (.var 8) (.cons (.var 7) .nil))) .nil) .nil) (.cons (.set 7 (.bin .add (.var 7) (.con (.int 1)))) .nil)
def m16 : MSs := .cons (.setI (.var 4) (.var 7) (.con (.bool true))) .nil
def o16 : MSs := .cons (.forr (.nm 7) (.ov (.var 5)) m16) .nil
theorem b16_is : b16 = .cons (nthS b16 0) (.cons (.forr (.nm 5) (.ov (.var 3)) o16) (.cons (nthS b16 2) (.cons (nthS b16 3) (.cons (.whil c16 w16) (.cons (.frz 8) (.cons (nthS b16 6) .nil)))))) := rfl
def M16 (M : Mem) (told acc : List Int) : Mem := M ++ [.dK (dkI acc), .lst (told.map .int)]
theorem M16_0 (M : Mem) (told acc : List Int) : (M16 M told acc)[M.length]? = some (.dK (dkI acc)) := get_app M _ 0
theorem M16_1 (M : Mem) (told acc : List Int) : (M16 M told acc)[M.length + 1]? = some (.lst (told.map .int)) := get_app M _ 1
theorem M16_s1 (M : Mem) (told acc : List Int) (ob : Ob) : (M16 M told acc).set (M.length + 1) ob = M ++ [.dK (dkI acc), ob] := set_app M _ 1 _
def p16 (h : Nat) (x : D) : Bool := match x with | .int i => decide (i ≠ (h : Int)) | _ => false
def y16 (hs : List (D × List D)) (x : D) : D := match x with | .int i => .int ((((hs[i.toNat]?).map fun z => z.2.length).getD 0 : Nat) : Int) | _ => .none
theorem ot16 (hs : List (D × List D)) (h : Nat) : ((((rI hs.length).map PyData.int).filter (p16 h)).map (y16 hs)) = (ot hs 0 h).map fun z => .int (z.2 : Nat) := by
  unfold rI
  rw [List.map_map, List.filter_map, List.map_map, ot_range, List.map_map, ← List.range_eq_range']
  have hf : (List.range hs.length).filter (p16 h ∘ (PyData.int ∘ fun (i : Nat) => (i : Int))) = (List.range hs.length).filter fun i => decide (i ≠ h) := by
    refine List.filter_congr fun i _ => ?_
    show decide ((i : Int) ≠ (h : Int)) = decide (i ≠ h)
    by_cases e : i = h
    · simp [e]
    · have : ¬ (i : Int) = (h : Int) := by omega
      simp [e, this]
  rw [hf]
  refine List.map_congr_left fun i _ => ?_
  show y16 hs (.int (i : Nat)) = _
  simp [y16]
section
variable {C : CT} {M : Mem} {a0 a1 a2 a3 a5 t5 t7 t9 t10 : Option Val} {k : Nat}
abbrev S16 (M : Mem) (a0 a1 a2 a3 a5 : Option Val) (k : Nat) (t : Option Val) : Env := [a0, a1, a2, a3, some (.ref M.length), a5, some (.d (.int (k : Nat))), t, some (.ref (M.length + 1)), none, none]
theorem c16_is {told acc : List Int} {t : Option Val} : evE Gc C c16 (S16 M a0 a1 a2 a3 a5 k t) (M16 M told acc) = .ok (.d (.bool (decide (told.length < k)))) (M16 M told acc) := by
  have h := x_lenr (M16_1 M told acc)
  rw [List.length_map] at h
  simp [c16, h]
theorem w16_in {told acc : List Int} {i : Int} (h : i ∈ acc) : evSs Gc C w16 (S16 M a0 a1 a2 a3 a5 k (some (.d (.int i)))) (M16 M told acc) = .ok (.nx (S16 M a0 a1 a2 a3 a5 k (some (.d (.int (i + 1)))))) (M16 M told acc) := by
  have hn := x_notink (x := i) (M16_0 M told acc)
  rw [decide_eq_true h] at hn
  simp [w16, hn]
theorem w16_out {told acc : List Int} {i : Int} (h : i ∉ acc) (hl : told.length < lim) : evSs Gc C w16 (S16 M a0 a1 a2 a3 a5 k (some (.d (.int i)))) (M16 M told acc) = .ok (.nx (S16 M a0 a1 a2 a3 a5 k (some (.d (.int (i + 1)))))) (M16 M (told ++ [i]) acc) := by
  have hn := x_notink (x := i) (M16_0 M told acc)
  rw [decide_eq_false h] at hn
  have ha := x_app (x := .int i) (M16_1 M told acc)
  rw [List.length_map, if_pos hl, M16_s1] at ha
  have hk := x_kind (m := .append) (fun h => by cases h) (fun h => by cases h) (M16_1 M told acc)
  have e : M ++ [Ob.dK (dkI acc), .lst (told.map PyData.int ++ [.int i])] = M16 M (told ++ [i]) acc := by simp [M16]
  rw [e] at ha
  simp [w16, hn, hk, ha]
end
theorem t16 (m : Nat) {hs : List (D × List D)} {h : Nat} {cs : List Int} {rs : List (List Int)} (M : Mem) (hl : cs.length + rs.flatten.length ≤ 1000) (hl2 : hs.length ≤ 1000) (hl3 : many hs h ≤ 1000) :
    callAt Gc tx.T (m + 1) 16 [.d (.tuple (hsD hs)), .d (.int (h : Nat)), .d (.list (cs.map .int)), .d (.tuple (rs.map iT))] M = .ok (.d (.tuple [.list ((knw cs rs).map .int), .list ((fresh (knw cs rs) (many hs h)).map .int)])) M := by
  rw [call_is (f := f16) rfl]
  let C := callAt Gc tx.T m
  let a0 : Option Val := some (.d (.tuple (hsD hs)))
  let a1 : Option Val := some (.d (.int (h : Nat)))
  let a2 : Option Val := some (.d (.list (cs.map .int)))
  let a3 : Option Val := some (.d (.tuple (rs.map iT)))
  let k := many hs h
  have l2 : 2 ≤ lim := by unfold lim; omega
  have lcs : cs.length ≤ lim := by unfold lim; omega
  -- known = dict(..)
  have e0 := lcL_map (tg := .nm 9) (own := [9]) (f := evE Gc C (.tup (.cons (.var 9) (.cons (.con (.bool true)) .nil)))) (σ := [a0, a1, a2, a3, none, none, none, none, none, none, none]) (M := M)
    (y := fun x => .tuple [x, .bool true]) (xs := cs.map .int) (fun x hx => ⟨_, rfl, by simp [wipeE, l2]⟩)
  have e0' : (cs.map PyData.int).map (fun x => PyData.tuple [x, .bool true]) = cs.map prI := by rw [List.map_map]; rfl
  rw [e0'] at e0
  have hdc := x_dcpI lcs
  have s0 : evS Gc C (nthS b16 0) [a0, a1, a2, a3, none, none, none, none, none, none, none] M = .ok (.nx [a0, a1, a2, a3, some (.ref M.length), none, none, none, none, none, none]) (M ++ [.dK (dkI (dd cs))]) := by
    simp only [nthS, b16, x_set, x_dcp, x_cons, x_nil, x_lc, x_ov, x_var, x_gete0, x_getes, x_ofS, x_bok, evC, a2] at e0 ⊢
    rw [e0]
    simp [lcs, hdc, dAll_int]
  -- records
  have step : ∀ (t5 : Option Val) (xs : List Int) (acc : List Int) (t : Option Val), acc.length + xs.length ≤ 1000 → ∃ t', forL (.nm 7) (evSs Gc C m16) (xs.map PyData.int) [a0, a1, a2, a3, some (.ref M.length), t5, none, t, none, none, none] (M ++ [.dK (dkI acc)]) =
      .ok (.nx [a0, a1, a2, a3, some (.ref M.length), t5, none, t', none, none, none]) (M ++ [.dK (dkI (xs.foldl ins acc))]) := fun t5 =>
    forL_fold PyData.int (fun t => [a0, a1, a2, a3, some (.ref M.length), t5, none, t, none, none, none]) (fun acc => M ++ [.dK (dkI acc)]) ins (fun acc xs => acc.length + xs.length ≤ 1000) (fun s x xs h => by
      have : (ins s x).length ≤ s.length + 1 := by unfold ins; split <;> simp
      rw [List.length_cons] at h
      omega) (fun s x xs t h => by
      have hs := x_setk (x := x) (get_end M (.dK (dkI s))) (by rw [List.length_cons] at h; unfold lim; omega)
      rw [set_end] at hs
      exact ⟨rfl, by simp [m16, hs]⟩)
  have outer : ∀ (rs' : List (List Int)) (acc : List Int) (t s4 : Option Val), acc.length + rs'.flatten.length ≤ 1000 → ∃ t' s', forL (.nm 5) (evSs Gc C o16) (rs'.map iT) [a0, a1, a2, a3, some (.ref M.length), s4, none, t, none, none, none] (M ++ [.dK (dkI acc)]) =
      .ok (.nx [a0, a1, a2, a3, some (.ref M.length), s', none, t', none, none, none]) (M ++ [.dK (dkI (rs'.flatten.foldl ins acc))]) := by
    intro rs'
    induction rs' with
    | nil => intro acc t s4 _; exact ⟨t, s4, rfl⟩
    | cons r rs' ih =>
      intro acc t s4 hle
      rw [List.flatten_cons, List.length_append] at hle
      obtain ⟨t1, e1⟩ := step (some (.d (iT r))) r acc t (by omega)
      have hf := foldins_len (xs := r) (acc := acc)
      obtain ⟨t2, s2, e2⟩ := ih (r.foldl ins acc) t1 (some (.d (iT r))) (by omega)
      refine ⟨t2, s2, ?_⟩
      rw [List.flatten_cons, List.foldl_append, ← e2, List.map_cons]
      conv => lhs; unfold forL
      show ((evSs Gc C o16 [a0, a1, a2, a3, some (.ref M.length), some (.d (iT r)), none, t, none, none, none] (M ++ [.dK (dkI acc)])).bind _) = _
      have e3 : evS Gc C (.forr (.nm 7) (.ov (.var 5)) m16) [a0, a1, a2, a3, some (.ref M.length), some (.d (iT r)), none, t, none, none, none] (M ++ [.dK (dkI acc)]) = .ok (.nx [a0, a1, a2, a3, some (.ref M.length), some (.d (iT r)), none, t1, none, none, none]) (M ++ [.dK (dkI (r.foldl ins acc))]) := by
        rw [x_forr, ← e1]
        rfl
      unfold o16
      rw [sqn e3, x_snil, x_bok]
  have hdl0 := dd_len cs
  obtain ⟨t7, t5, h2⟩ := outer rs (dd cs) none none (by omega)
  rw [← dd_append] at h2
  have s1 : evS Gc C (.forr (.nm 5) (.ov (.var 3)) o16) [a0, a1, a2, a3, some (.ref M.length), none, none, none, none, none, none] (M ++ [.dK (dkI (dd cs))]) = .ok (.nx [a0, a1, a2, a3, some (.ref M.length), t5, none, t7, none, none, none]) (M ++ [.dK (dkI (dd (cs ++ rs.flatten)))]) := by
    rw [x_forr, ← h2]
    simp [a3]
  -- many
  have hr := rngOk_n (n := hs.length) (by unfold lim; omega)
  have hhl : (hsD hs).length = hs.length := List.length_map _
  have e2 := lcL_fil (tg := .nm 10) (own := [10]) (c := evE Gc C (.cmp .ne (.var 10) (.var 1))) (f := evE Gc C (.bi .len (.cons (.idx (.idx (.var 0) (.var 10)) (.con (.int 1))) .nil))) (σ := [a0, a1, a2, a3, some (.ref M.length), t5, none, t7, none, none, none]) (M := M ++ [.dK (dkI (dd (cs ++ rs.flatten)))])
    (p := p16 h) (y := y16 hs) (xs := (rI hs.length).map .int) (fun x hx => by
      obtain ⟨a, ha, rfl⟩ := List.mem_map.mp hx
      obtain ⟨ha0, ha1⟩ := mem_rI.mp ha
      have hlt : a.toNat < hs.length := by omega
      have hat : L2.atI (hsD hs) a = some (.tuple [hs[a.toNat].1, .tuple hs[a.toNat].2]) := by
        have := L2.atI_nat (xs := hsD hs) (j := a.toNat) (v := .tuple [hs[a.toNat].1, .tuple hs[a.toNat].2]) (by unfold hsD; rw [List.getElem?_map, List.getElem?_eq_getElem hlt]; rfl)
        rw [show ((a.toNat : Nat) : Int) = a by omega] at this
        exact this
      refine ⟨_, rfl, ?_, fun _ => ?_⟩
      · simp [sTst, wipeE, p16, a1]
      · simp [wipeE, y16, a0, hat, at1, hlt])
  rw [ot16] at e2
  have hol : (ot hs 0 h).length ≤ lim := by
    have := ot_len h hs 0
    unfold lim; omega
  have hm2 := sum_many hs h
  have s2 : evS Gc C (nthS b16 2) [a0, a1, a2, a3, some (.ref M.length), t5, none, t7, none, none, none] (M ++ [.dK (dkI (dd (cs ++ rs.flatten)))]) = .ok (.nx [a0, a1, a2, a3, some (.ref M.length), t5, some (.d (.int (k : Nat))), t7, none, none, none]) (M ++ [.dK (dkI (dd (cs ++ rs.flatten)))]) := by
    simp [nthS, b16, evC, a0, hhl, hr, rngD_rI] at e2 ⊢
    rw [e2]
    simp [hol, hm2, k]
  have s3 : evS Gc C (nthS b16 3) [a0, a1, a2, a3, some (.ref M.length), t5, some (.d (.int (k : Nat))), t7, none, none, none] (M ++ [.dK (dkI (dd (cs ++ rs.flatten)))]) = .ok (.nx (S16 M a0 a1 a2 a3 t5 k (some (.d (.int 0))))) (M16 M [] (dd (cs ++ rs.flatten))) := by
    simp [nthS, b16, M16]
  have hmem : ∀ i : Int, i ∈ dd (cs ++ rs.flatten) ↔ i ∈ knw cs rs := fun i => by unfold knw; rw [mem_sI]
  have hkl : (knw cs rs).length ≤ 1000 := by
    have := dd_len (cs ++ rs.flatten)
    unfold knw
    rw [sI_len]
    rw [List.length_append] at this
    omega
  have hdl : (dd (cs ++ rs.flatten)).length ≤ lim := by
    have := dd_len (cs ++ rs.flatten)
    rw [List.length_append] at this
    unfold lim; omega
  have hkn : sI (dd (cs ++ rs.flatten)) = knw cs rs := rfl
  generalize dd (cs ++ rs.flatten) = acc at *
  generalize knw cs rs = kn at *
  obtain ⟨σ', M', h4, told, i, rfl, rfl, ht⟩ := whL_inv (c := evE Gc C c16) (b := evSs Gc C w16) (fun n σ M' => ∃ (told : List Int) (i : Int) (need : Nat), σ = S16 M a0 a1 a2 a3 t5 k (some (.d (.int i))) ∧ M' = M16 M told acc ∧ told ++ fr kn n i need = fresh kn k ∧ told.length + need = k ∧ above kn i + need ≤ n)
    (fun σ M' => ∃ (told : List Int) (i : Int), σ = S16 M a0 a1 a2 a3 t5 k (some (.d (.int i))) ∧ M' = M16 M told acc ∧ told = fresh kn k)
    (by
      rintro n σ M' ⟨told, i, need, rfl, rfl, h1, h2, h3⟩
      refine ⟨_, decide (told.length < k), c16_is, rfl, ?_⟩
      by_cases h0 : need = 0
      · subst h0
        rw [fr_zero, List.append_nil] at h1
        exact .inl ⟨decide_eq_false (by omega), told, i, rfl, rfl, h1⟩
      · refine .inr ⟨decide_eq_true (by omega), ?_⟩
        obtain ⟨n, rfl⟩ : ∃ n', n = n' + 1 := ⟨n - 1, by omega⟩
        rw [fr_step h0] at h1
        obtain ⟨s1, s2⟩ := above_step (kn := kn) (i := i)
        have hk3 : k ≤ 1000 := hl3
        by_cases hk : i ∈ kn
        · rw [if_pos hk] at h1
          have := s2 hk
          exact ⟨n, _, _, by omega, w16_in ((hmem i).mpr hk), told, i + 1, need, rfl, rfl, h1, h2, by omega⟩
        · rw [if_neg hk] at h1
          refine ⟨n, _, _, by omega, w16_out (fun h => hk ((hmem i).mp h)) (by unfold lim; omega), told ++ [i], i + 1, need - 1, rfl, rfl, by rw [List.append_assoc]; exact h1, by simp; omega, by omega⟩)
    (kn.length + k) (S16 M a0 a1 a2 a3 t5 k (some (.d (.int 0)))) (M16 M [] acc) ⟨[], 0, k, rfl, rfl, rfl, by simp, by have := above_le kn 0; omega⟩ wfuel (by have hk3 : k ≤ 1000 := hl3; unfold wfuel; omega)
  subst ht
  have s4 : evS Gc C (.whil c16 w16) (S16 M a0 a1 a2 a3 t5 k (some (.d (.int 0)))) (M16 M [] acc) = .ok (.nx (S16 M a0 a1 a2 a3 t5 k (some (.d (.int i))))) (M16 M (fresh kn k) acc) := by rw [x_whil]; exact h4
  have s5 : evS Gc C (.frz 8) (S16 M a0 a1 a2 a3 t5 k (some (.d (.int i)))) (M16 M (fresh kn k) acc) = .ok (.nx [a0, a1, a2, a3, some (.ref M.length), t5, some (.d (.int (k : Nat))), some (.d (.int i)), some (.d (.list ((fresh kn k).map .int))), none, none]) (M ++ [.dK (dkI acc), .dead]) := by
    simp [M16_1, M16_s1]
  have hg : (M ++ [Ob.dK (dkI acc), .dead])[M.length]? = some (.dK (dkI acc)) := get_app M _ 0
  have hb := x_bsk hg hdl
  rw [hkn] at hb
  rw [run_rt (fn := f16) (σ0 := [a0, a1, a2, a3, none, none, none, none, none, none, none]) (v := .d (.tuple [.list (kn.map .int), .list ((fresh kn k).map .int)])) (M1 := M ++ [.dK (dkI acc), .dead]) rfl rfl ?_]
  · show outV M.length true _ _ = _
    rw [out_d, take_app]
  show evSs Gc C b16 _ M = _
  rw [b16_is, sqn s0, sqn s1, sqn s2, sqn s3, sqn s4, sqn s5]
  simp [nthS, b16, hb, l2]
end Mp.k09
end
section
set_option maxHeartbeats 4000000
namespace Mp.k09
open PySem PySem.Spec PyProof.Rows L2 Mp

theorem all_int : ∀ {ys : List D}, (∀ y ∈ ys, ∃ i, y = .int i) → ∃ vs : List Int, ys = vs.map .int
  | [], _ => ⟨[], rfl⟩
  | y :: ys, h => by
    obtain ⟨i, rfl⟩ := h y List.mem_cons_self
    obtain ⟨vs, rfl⟩ := all_int fun z hz => h z (List.mem_cons_of_mem _ hz)
    exact ⟨i :: vs, rfl⟩
theorem atI_int {vs : List Int} {a : Int} (h0 : 0 ≤ a) (h1 : a < vs.length) : ∃ v, L2.atI (vs.map PyData.int) a = some (.int v) := by
  obtain ⟨x, hx, hm⟩ := atI_get (xs := vs.map PyData.int) h0 (by rw [List.length_map]; exact h1)
  obtain ⟨v, _, rfl⟩ := List.mem_map.mp hm
  exact ⟨v, hx⟩
theorem rep_flat {α : Type} (x : α) : ∀ n : Nat, (List.replicate n [x]).flatten = List.replicate n x
  | 0 => rfl
  | n + 1 => by
    rw [List.replicate_succ, List.flatten_cons, rep_flat x n, List.replicate_succ]
    rfl
/-! ### how many rows -/
def in17 : MSs := bodyOf (nthS b17 1)
theorem b17_is : b17 = .cons (nthS b17 0) (.cons (.forr (.nm 3) (.rg1 (.var 1)) in17) (.cons (nthS b17 2) .nil)) := rfl
def e17 : ME := .bin .add (.bin .mul (.idx (.var 2) (.var 4)) (.bin .add (.var 0) (.var 4))) (.ife (.cmp .gt (.var 4) (.con (.int 0))) (.idx (.var 2) (.bin .sub (.var 4) (.con (.int 1)))) (.con (.int 0)))
theorem in17_is : in17 = .cons (.set 2 (.lc [4] (.nm 4) (.rg1 (.bin .add (.var 1) (.con (.int 1)))) .nil e17)) .nil := rfl
theorem t17 (m : Nat) {a b : Nat} (M : Mem) (ha : a ≤ 10000) (hb : b ≤ 1000) : ∃ v : Int, callAt Gc tx.T (m + 1) 17 [.d (.int (a : Nat)), .d (.int (b : Nat))] M = .ok (.d (.int v)) M := by
  rw [call_is (f := f17) rfl]
  let C := callAt Gc tx.T m
  have hr := rngOk_n (n := b) (by unfold lim; omega)
  have hr1 : rngOk 0 ((b : Int) + 1) = true := rngOk_n (n := b + 1) (by unfold lim; omega)
  have hr2 : rngD 0 ((b : Int) + 1) = (rI (b + 1)).map .int := rngD_rI (b + 1)
  have l1 : 1 ≤ lim := by unfold lim; omega
  obtain ⟨σ', M', e, vs, x3, rfl, rfl, hv⟩ := forL_go (tg := .nm 3) (b := evSs Gc C in17) (xs := (rI b).map .int) (σ := [some (.d (.int (a : Nat))), some (.d (.int (b : Nat))), some (.d (.list ((1 :: List.replicate b 0).map .int))), none, none]) (M := M)
    (fun i σ M' => ∃ (vs : List Int) (x3 : Option Val), σ = [some (.d (.int (a : Nat))), some (.d (.int (b : Nat))), some (.d (.list (vs.map .int))), x3, none] ∧ M' = M ∧ vs.length = b + 1)
    ⟨1 :: List.replicate b 0, none, rfl, rfl, by simp⟩ (by
      rintro i x σ M' hx ⟨vs, x3, rfl, rfl, hv⟩
      obtain ⟨ys, e1, hyl, hyp⟩ := lc_ex (tg := .nm 4) (own := [4]) (f := evE Gc C e17) (σ := [some (.d (.int (a : Nat))), some (.d (.int (b : Nat))), some (.d (.list (vs.map .int))), some (.d x), none]) (M := M') (fun y => ∃ i, y = .int i) (xs := (rI (b + 1)).map .int) (fun y hy => by
        obtain ⟨j, hj, rfl⟩ := List.mem_map.mp hy
        obtain ⟨j0, j1⟩ := mem_rI.mp hj
        obtain ⟨v, hv1⟩ := atI_int (vs := vs) (a := j) j0 (by omega)
        have hm : mulOk v ((a : Int) + j) = true := mul_ok (by omega)
        by_cases hj0 : 0 < j
        · obtain ⟨u, hu⟩ := atI_int (vs := vs) (a := j - 1) (by omega) (by omega)
          exact ⟨_, .int (v * ((a : Int) + j) + u), rfl, by simp [e17, wipeE, hv1, hm, hj0, hu], _, rfl⟩
        · exact ⟨_, .int (v * ((a : Int) + j) + 0), rfl, by simp [e17, wipeE, hv1, hm, hj0], _, rfl⟩)
      rw [List.length_map, rI_len] at hyl
      obtain ⟨us, rfl⟩ := all_int hyp
      rw [List.length_map] at hyl
      have hll : us.length ≤ lim := by unfold lim; omega
      refine ⟨[some (.d (.int (a : Nat))), some (.d (.int (b : Nat))), some (.d (.list (vs.map .int))), some (.d x), none], _, _, rfl, ?_, us, some (.d x), rfl, rfl, hyl⟩
      rw [in17_is]
      simp [evC, hr1, hr2] at e1 ⊢
      rw [e1]
      simp [hll])
  have hs := intsOf_ints vs
  refine ⟨vs.sum, ?_⟩
  have s0 : evS Gc C (nthS b17 0) [some (.d (.int (a : Nat))), some (.d (.int (b : Nat))), none, none, none] M' = .ok (.nx [some (.d (.int (a : Nat))), some (.d (.int (b : Nat))), some (.d (.list ((1 :: List.replicate b 0).map .int))), none, none]) M' := by
    have h1 : (-(2 ^ 63) : Int) ≤ (b : Int) := by omega
    have h2 : (b : Int) < 2 ^ 63 := by omega
    have h3 : b ≤ lim := by unfold lim; omega
    have h4 : 1 + b ≤ lim := by unfold lim; omega
    have h5 : b + 1 ≤ lim := by unfold lim; omega
    have hm : binD .mul (.list [.int 0]) (.int (b : Nat)) = some (.list (List.replicate b (.int 0))) := by
      have h6 : [PyData.int 0].length * (b : Int).toNat ≤ lim := by rw [Int.toNat_natCast, List.length_singleton, Nat.one_mul]; exact h3
      have hc : (decide (-(2 ^ 63) ≤ (b : Int)) && decide ((b : Int) < 2 ^ 63) && decide ([PyData.int 0].length * (b : Int).toNat ≤ lim)) = true := by
        rw [decide_eq_true h1, decide_eq_true h2, decide_eq_true h6]
        rfl
      rw [x_mull, if_pos hc, Int.toNat_natCast, rep_flat]
    simp only [nthS, b17, x_set, x_bin, x_lst, x_cons, x_con, x_bok, x_nil, x_toDs, x_toDs0, Option.map_some, x_var, x_gete0, x_getes, x_ofS, x_rdd]
    simp [l1, hm, h4, h5]
  have s1 : evS Gc C (.forr (.nm 3) (.rg1 (.var 1)) in17) [some (.d (.int (a : Nat))), some (.d (.int (b : Nat))), some (.d (.list ((1 :: List.replicate b 0).map .int))), none, none] M' = .ok (.nx [some (.d (.int (a : Nat))), some (.d (.int (b : Nat))), some (.d (.list (vs.map .int))), x3, none]) M' := by
    rw [x_forr, ← e]
    simp [hr, rngD_rI]
  rw [run_rt (fn := f17) (σ0 := [some (.d (.int (a : Nat))), some (.d (.int (b : Nat))), none, none, none]) (v := .d (.int vs.sum)) (M1 := M') rfl rfl ?_]
  · show outV M'.length true _ _ = _
    rw [out_d]
    simp
  show evSs Gc C b17 _ M' = _
  rw [b17_is, sqn s0, sqn s1]
  simp [nthS, b17, hs]
/-! ### fields -/
def fD (z : Int × Int) : D := tmD (.inr z)
def tot (hs : List (D × List D)) : Nat := (hs.map fun z => z.2.length).sum
theorem hs_at {hs : List (D × List D)} {i : Nat} (h : i < hs.length) : L2.atI (hsD hs) ((i : Nat) : Int) = some (.tuple [hs[i].1, .tuple hs[i].2]) := L2.atI_nat (by unfold hsD; rw [List.getElem?_map, List.getElem?_eq_getElem h]; rfl)
def in15 : MSs := bodyOf (nthS b15 1)
theorem b15_is : b15 = .cons (nthS b15 0) (.cons (.forr (.nm 2) (.rg1 (.bi .len (.cons (.var 0) .nil))) in15) (.cons (nthS b15 2) .nil)) := rfl
def e15 : ME := .tup (.cons (.con (.str ("f" : Str))) (.cons (.var 2) (.cons (.var 3) .nil)))
theorem in15_is : in15 = .cons (.set 1 (.bin .add (.var 1) (.lc [3] (.nm 3) (.rg1 (.bi .len (.cons (.idx (.idx (.var 0) (.var 2)) (.con (.int 1))) .nil))) .nil e15))) .nil := rfl
def y15 (i : Nat) (x : D) : D := match x with | .int a => fD ((i : Int), a) | _ => .none
theorem t15 (m : Nat) {hs : List (D × List D)} (M : Mem) (hl : hs.length ≤ 10) (hf : ∀ z ∈ hs, z.2.length ≤ 100) : ∃ fl : List (Int × Int), callAt Gc tx.T (m + 1) 15 [.d (.tuple (hsD hs))] M = .ok (.d (.list (fl.map fD))) M ∧ fl.length = tot hs := by
  rw [call_is (f := f15) rfl]
  let C := callAt Gc tx.T m
  have hhl : (hsD hs).length = hs.length := List.length_map _
  have hr := rngOk_n (n := hs.length) (by unfold lim; omega)
  have l3 : 3 ≤ lim := by unfold lim; omega
  obtain ⟨σ', M', e, fl, x2, rfl, rfl, hv, hb⟩ := forL_go (tg := .nm 2) (b := evSs Gc C in15) (xs := (rI hs.length).map .int) (σ := [some (.d (.tuple (hsD hs))), some (.d (.list [])), none, none]) (M := M)
    (fun i σ M' => ∃ (fl : List (Int × Int)) (x2 : Option Val), σ = [some (.d (.tuple (hsD hs))), some (.d (.list (fl.map fD))), x2, none] ∧ M' = M ∧ fl.length = tot (hs.take i) ∧ fl.length ≤ i * 100)
    ⟨[], none, rfl, rfl, rfl, Nat.le_refl _⟩ (by
      rintro i x σ M' hx ⟨fl, x2, rfl, rfl, hv, hb⟩
      obtain ⟨hi, rfl⟩ := rI_at hx
      have hfi := hf hs[i] (List.getElem_mem hi)
      have hat := hs_at hi
      have hr1 := rngOk_n (n := hs[i].2.length) (by unfold lim; omega)
      have e1 := lcL_map (tg := .nm 3) (own := [3]) (f := evE Gc C e15) (σ := [some (.d (.tuple (hsD hs))), some (.d (.list (fl.map fD))), some (.d (.int (i : Nat))), none]) (M := M') (y := y15 i) (xs := (rI hs[i].2.length).map .int) (fun y hy => by
        obtain ⟨j, hj, rfl⟩ := List.mem_map.mp hy
        exact ⟨_, rfl, by simp [e15, wipeE, l3, y15, fD, tmD]⟩)
      have e2 : ((rI hs[i].2.length).map PyData.int).map (y15 i) = ((rI hs[i].2.length).map fun a => ((i : Int), a)).map fD := by
        rw [List.map_map, List.map_map]
        rfl
      rw [e2] at e1
      have h1 : hs[i].2.length ≤ lim := by unfold lim; omega
      have h2 : fl.length + hs[i].2.length ≤ lim := by unfold lim; omega
      refine ⟨[some (.d (.tuple (hsD hs))), some (.d (.list (fl.map fD))), some (.d (.int (i : Nat))), none], _, _, rfl, ?_, fl ++ (rI hs[i].2.length).map fun a => ((i : Int), a), some (.d (.int (i : Nat))), rfl, rfl, ?_, ?_⟩
      · rw [in15_is]
        generalize hs[i].2 = fs at *
        generalize hs[i].1 = nm at *
        simp only [x_scons, x_set, x_bin, x_lc, x_rg1, x_bi, x_cons, x_idx, x_var, x_con, x_nil, x_gete0, x_getes, x_ofS, x_bok, x_ixt, hat, Option.map_some, at1]
        simp [hr1, rngD_rI, evC, e1, rI_len, h1, h2]
      · rw [List.length_append, List.length_map, rI_len, hv]
        unfold tot
        rw [List.take_add_one, List.getElem?_eq_getElem hi, List.map_append, List.sum_append]
        simp
      · rw [List.length_append, List.length_map, rI_len]
        omega)
  rw [List.length_map, rI_len, List.take_length] at hv
  refine ⟨fl, ?_, hv⟩
  have s0 : evS Gc C (nthS b15 0) [some (.d (.tuple (hsD hs))), none, none, none] M' = .ok (.nx [some (.d (.tuple (hsD hs))), some (.d (.list [])), none, none]) M' := by simp [nthS, b15]
  have s1 : evS Gc C (.forr (.nm 2) (.rg1 (.bi .len (.cons (.var 0) .nil))) in15) [some (.d (.tuple (hsD hs))), some (.d (.list [])), none, none] M' = .ok (.nx [some (.d (.tuple (hsD hs))), some (.d (.list (fl.map fD))), x2, none]) M' := by
    rw [x_forr, ← e]
    simp [hhl, hr, rngD_rI]
  rw [run_rt (fn := f15) (σ0 := [some (.d (.tuple (hsD hs))), none, none, none]) (v := .d (.list (fl.map fD))) (M1 := M') rfl rfl ?_]
  · show outV M'.length true _ _ = _
    rw [out_d]
    simp
  show evSs Gc C b15 _ M' = _
  rw [b15_is, sqn s0, sqn s1]
  simp [nthS, b15]
/-! ### holders -/
def szs : List (List Int) := [[1, 1], [2, 1], [1, 1, 1], [2], [1, 2, 1], [3, 1], [1, 3], [2, 2]]
def nms : List D := [.str ("a" : Str), .str ("shop" : Str), .str ("b" : Str)]
def fds : List D := [.str ("x" : Str), .str ("y" : Str), .str ("z" : Str), .str ("id" : Str)]
def mkH (sz : List Int) : List (D × List D) := (rI sz.length).map fun i => (nms.getD i.toNat .none, fds.take (sz.getD i.toNat 0).toNat)
def e12 : ME := .tup (.cons (.idx (.tup (.cons (.con (.str ("a" : Str))) (.cons (.con (.str ("shop" : Str))) (.cons (.con (.str ("b" : Str))) .nil)))) (.var 2)) (.cons (.slc (.tup (.cons (.con (.str ("x" : Str))) (.cons (.con (.str ("y" : Str))) (.cons (.con (.str ("z" : Str))) (.cons (.con (.str ("id" : Str))) .nil))))) .non (.som (.idx (.var 1) (.var 2)))) .nil))
theorem b12_is : b12 = .cons (nthS b12 0) (.cons (.ret (.bi .tuple (.cons (.lc [2] (.nm 2) (.rg1 (.bi .len (.cons (.var 1) .nil))) .nil e12) .nil))) .nil) := rfl
def y12 (sz : List Int) (x : D) : D := match x with | .int i => .tuple [nms.getD i.toNat .none, .tuple (fds.take (sz.getD i.toNat 0).toNat)] | _ => .none
theorem szs_ok : ∀ sz ∈ szs, sz.length ≤ 3 ∧ ∀ a ∈ sz, 0 ≤ a := by decide
theorem t12 (m : Nat) {s : List D} {R M : Mem} (h : Sk s R M) : ∃ sz M', callAt Gc tx.T (m + 2) 12 [.ref 3] M = .ok (.d (.tuple (hsD (mkH sz)))) M' ∧ Sk s R M' ∧ sz ∈ szs := by
  obtain ⟨r, M', g, h', r0, r1⟩ := t10 m h (pl := 1) (many := 8) (by decide) (by decide) (by decide) (by decide)
  have l1 : 1 ≤ lim := by unfold lim; omega
  have l2 : 2 ≤ lim := by unfold lim; omega
  have l3 : 3 ≤ lim := by unfold lim; omega
  have l4 : 4 ≤ lim := by unfold lim; omega
  have l8 : 8 ≤ lim := by unfold lim; omega
  obtain ⟨x, hx, hm⟩ := atI_get (xs := szs.map iT) r0 r1
  obtain ⟨sz, hsz, rfl⟩ := List.mem_map.mp hm
  obtain ⟨hz1, hz2⟩ := szs_ok sz hsz
  refine ⟨sz, M', ?_, h', hsz⟩
  have htk : M'.take M.length = M' := List.take_of_length_le (by rw [h.len, h'.len]; exact Nat.le_refl _)
  rw [show m + 2 = (m + 1) + 1 by omega, call_is (f := f12) rfl]
  let C := callAt Gc tx.T (m + 1)
  have hx' : L2.atI [PyData.tuple [.int 1, .int 1], .tuple [.int 2, .int 1], .tuple [.int 1, .int 1, .int 1], .tuple [.int 2], .tuple [.int 1, .int 2, .int 1], .tuple [.int 3, .int 1], .tuple [.int 1, .int 3], .tuple [.int 2, .int 2]] r = some (iT sz) := hx
  have s0 : evS Gc C (nthS b12 0) [some (.ref 3), none, none] M = .ok (.nx [some (.ref 3), some (.d (iT sz)), none]) M' := by
    simp [nthS, b12, l1, l2, l3, l8, g, C, hx']
  have hr := rngOk_n (n := sz.length) (by unfold lim; omega)
  have e := lcL_map (tg := .nm 2) (own := [2]) (f := evE Gc C e12) (σ := [some (.ref 3), some (.d (iT sz)), none]) (M := M') (y := y12 sz) (xs := (rI sz.length).map .int) (fun y hy => by
    obtain ⟨j, hj, rfl⟩ := List.mem_map.mp hy
    obtain ⟨j0, j1⟩ := mem_rI.mp hj
    have hjn : j.toNat < sz.length := by omega
    have a1 : L2.atI [PyData.str ("a" : Str), .str ("shop" : Str), .str ("b" : Str)] j = some (nms.getD j.toNat .none) := by
      have := L2.atI_nat (xs := nms) (j := j.toNat) (v := nms.getD j.toNat .none) (by
        have h3 : j.toNat < nms.length := by show j.toNat < 3; omega
        rw [List.getD_eq_getElem?_getD, List.getElem?_eq_getElem h3]
        rfl)
      rw [show ((j.toNat : Nat) : Int) = j by omega] at this
      exact this
    have a2 : L2.atI (sz.map PyData.int) j = some (.int (sz.getD j.toNat 0)) := by
      have := L2.atI_nat (xs := sz.map PyData.int) (j := j.toNat) (v := .int (sz.getD j.toNat 0)) (by
        rw [List.getElem?_map, List.getD_eq_getElem?_getD, List.getElem?_eq_getElem hjn]
        rfl)
      rw [show ((j.toNat : Nat) : Int) = j by omega] at this
      exact this
    have h0 : 0 ≤ sz.getD j.toNat 0 := by
      rw [List.getD_eq_getElem?_getD, List.getElem?_eq_getElem hjn]
      exact hz2 _ (List.getElem_mem hjn)
    have a3 : cutL [PyData.str ("x" : Str), .str ("y" : Str), .str ("z" : Str), .str ("id" : Str)] none (some (sz.getD j.toNat 0)) = fds.take (sz.getD j.toNat 0).toNat := by
      have := cutL_take fds (sz.getD j.toNat 0).toNat
      rw [show (((sz.getD j.toNat 0).toNat : Nat) : Int) = sz.getD j.toNat 0 by omega] at this
      exact this
    have hy : y12 sz (.int j) = .tuple [nms.getD j.toNat .none, .tuple (fds.take (sz.getD j.toNat 0).toNat)] := rfl
    rw [hy]
    generalize sz.getD j.toNat 0 = v at *
    generalize nms.getD j.toNat .none = w at *
    refine ⟨_, rfl, ?_⟩
    simp [e12, wipeE, iT, l2, l3, l4, a1, a2, a3])
  have e2 : ((rI sz.length).map PyData.int).map (y12 sz) = hsD (mkH sz) := by
    unfold hsD mkH
    rw [List.map_map, List.map_map]
    rfl
  rw [e2] at e
  have hl : (hsD (mkH sz)).length ≤ lim := by
    unfold hsD mkH
    rw [List.length_map, List.length_map, rI_len]
    unfold lim; omega
  rw [run_rt (fn := f12) (σ0 := [some (.ref 3), none, none]) (v := .d (.tuple (hsD (mkH sz)))) (M1 := M') rfl rfl ?_]
  · show outV M.length true _ _ = _
    rw [out_d, htk]
  show evSs Gc C b12 _ M = _
  rw [b12_is, sqn s0]
  have hlen : lenV M' (.d (iT sz)) = some (sz.length : Int) := by simp [iT]
  simp [hlen, hr, rngD_rI, evC, e, hl]
end Mp.k09
end
section
set_option maxHeartbeats 4000000
namespace Mp.k09
open PySem PySem.Spec PyProof.Rows L2 Mp

abbrev LS := List (List Int) × Nat
def lsD (z : LS) : D := .tuple [wD z.1, .int (z.2 : Nat)]
def lat (fu : List Int) (c : Nat) (x : Int) : Nat := if x = fu.getD c 0 then c + 1 else c
def ext (w : List (List Int)) (x : Int) : List (List Int) := w.dropLast ++ [w.getLastD [] ++ [x]]
def exC (kn fu : List Int) (z : LS) : List LS := (kn ++ fu.take (z.2 + 1)).map fun x => (ext z.1 x, lat fu z.2 x)
/-! ### the law's worlds -/
def outA : MSs := bodyOf (nthS b18 1)
def outB : MSs := bodyOf (nthS outA 1)
def inC : MSs := bodyOf (nthS outB 1)
def inD' : MSs := bodyOf (nthS inC 0)
theorem b18_is : b18 = .cons (nthS b18 0) (.cons (.forr (.nm 5) (.rg1 (.bi .len (.cons (.var 0) .nil))) outA) (.cons (nthS b18 2) .nil)) := rfl
theorem outA_is : outA = .cons (nthS outA 0) (.cons (.forr (.nm 6) (.ov (.ife (.cmp .ne (.var 5) (.var 1)) (.idx (.idx (.var 0) (.var 5)) (.con (.int 1))) (.tup .nil))) outB) .nil) := rfl
theorem outB_is : outB = .cons (.set 7 (.new (.lst .nil))) (.cons (.forr (.tup2 (.nm 8) (.nm 9)) (.ov (.var 4)) inC) (.cons (.frz 7) (.cons (.set 4 (.var 7)) .nil))) := rfl
theorem inC_is : inC = .cons (.forr (.nm 10) (.ov (.bin .add (.var 2) (.slc (.var 3) .non (.som (.bin .add (.var 9) (.con (.int 1))))))) inD') .nil := rfl
theorem inD_is : inD' = .cons (nthS inD' 0) (.cons (nthS inD' 1) .nil) := rfl
section
variable {C : CT} {M0 X : Mem} {kn fu : List Int} {a0 a1 a4 a5 a6 : Option Val} {j : Nat}
abbrev S18 (kn fu : List Int) (a0 a1 a4 a5 a6 a7 a8 a9 a10 a11 : Option Val) : Env := [a0, a1, some (.d (.list (kn.map .int))), some (.d (.list (fu.map .int))), a4, a5, a6, a7, a8, a9, a10, a11]
theorem stepD {acc : List LS} {w0 : List (List Int)} {l : List Int} {c : Nat} {x : Int} {t11 : Option Val} (hX : X[j]? = some (.lst (acc.map lsD))) (hc : c < fu.length) (hw : w0.length ≤ 1000) (hl : l.length ≤ 1000) (ha : acc.length < lim) :
    ∃ u11, evSs Gc C inD' (S18 kn fu a0 a1 a4 a5 a6 (some (.ref (M0.length + j))) (some (.d (wD (w0 ++ [l])))) (some (.d (.int (c : Nat)))) (some (.d (.int x))) t11) (M0 ++ X) =
    .ok (.nx (S18 kn fu a0 a1 a4 a5 a6 (some (.ref (M0.length + j))) (some (.d (wD (w0 ++ [l])))) (some (.d (.int (c : Nat)))) (some (.d (.int x))) u11)) (M0 ++ X.set j (.lst ((acc ++ [(ext (w0 ++ [l]) x, lat fu c x)]).map lsD))) := by
  have hg : (M0 ++ X)[M0.length + j]? = some (.lst (acc.map lsD)) := by rw [get_app]; exact hX
  have hk := x_kind (m := .append) (fun h => by cases h) (fun h => by cases h) hg
  have hap := x_app (x := lsD (ext (w0 ++ [l]) x, lat fu c x)) hg
  rw [List.length_map, if_pos ha, set_app] at hap
  have hat : L2.atI (fu.map PyData.int) (c : Int) = some (.int (fu.getD c 0)) := L2.atI_nat (by rw [List.getElem?_map, List.getD_eq_getElem?_getD, List.getElem?_eq_getElem hc]; rfl)
  have e0 : evS Gc C (nthS inD' 0) (S18 kn fu a0 a1 a4 a5 a6 (some (.ref (M0.length + j))) (some (.d (wD (w0 ++ [l])))) (some (.d (.int (c : Nat)))) (some (.d (.int x))) t11) (M0 ++ X) =
      .ok (.nx (S18 kn fu a0 a1 a4 a5 a6 (some (.ref (M0.length + j))) (some (.d (wD (w0 ++ [l])))) (some (.d (.int (c : Nat)))) (some (.d (.int x))) (some (.d (.int (lat fu c x : Nat)))))) (M0 ++ X) := by
    unfold lat
    generalize fu.getD c 0 = v at *
    by_cases e : x = v
    · subst e
      simp [nthS, inD', inC, outB, outA, bodyOf, b18, hc, hat]
    · simp [nthS, inD', inC, outB, outA, bodyOf, b18, hc, hat, e]
  have h1 : cutL (w0.map iT ++ [iT l]) none (some (-1)) = w0.map iT := by rw [cutL_init, List.dropLast_concat]
  have h2 : L2.atI (w0.map iT ++ [iT l]) (-1) = some (iT l) := atI_last _ _
  have l1 : 1 ≤ lim := by unfold lim; omega
  have l2 : 2 ≤ lim := by unfold lim; omega
  have l3 : l.length + 1 ≤ lim := by unfold lim; omega
  have l4 : w0.length + 1 ≤ lim := by unfold lim; omega
  have he : lsD (ext (w0 ++ [l]) x, lat fu c x) = .tuple [.tuple (w0.map iT ++ [.tuple (l.map .int ++ [.int x])]), .int (lat fu c x : Nat)] := by simp [lsD, wD, ext, iT]
  rw [he] at hap
  have hfin : acc.map lsD ++ [PyData.tuple [.tuple (w0.map iT ++ [.tuple (l.map .int ++ [.int x])]), .int (lat fu c x : Nat)]] = (acc ++ [(ext (w0 ++ [l]) x, lat fu c x)]).map lsD := by rw [List.map_append, List.map_cons, he, List.map_nil]
  rw [hfin] at hap
  refine ⟨some (.d (.int (lat fu c x : Nat))), ?_⟩
  rw [inD_is, sqn e0]
  generalize lat fu c x = y at *
  have hwD : wD (w0 ++ [l]) = .tuple (w0.map iT ++ [iT l]) := by simp [wD]
  rw [hwD]
  generalize M0 ++ X.set j (.lst ((acc ++ [(ext (w0 ++ [l]) x, y)]).map lsD)) = M2 at *
  unfold iT at h1 h2 hap ⊢
  simp [nthS, inD', inC, outB, outA, bodyOf, b18, h1, h2, l1, l2, l3, l4, hk, hap]
theorem loopD {w0 : List (List Int)} {l : List Int} {c : Nat} (hc : c < fu.length) (hw : w0.length ≤ 1000) (hl : l.length ≤ 1000) : ∀ {xs : List Int} {acc : List LS} {X : Mem} {t10 t11 : Option Val}, X[j]? = some (.lst (acc.map lsD)) → acc.length + xs.length < lim →
    ∃ u10 u11, forL (.nm 10) (evSs Gc C inD') (xs.map .int) (S18 kn fu a0 a1 a4 a5 a6 (some (.ref (M0.length + j))) (some (.d (wD (w0 ++ [l])))) (some (.d (.int (c : Nat)))) t10 t11) (M0 ++ X) =
    .ok (.nx (S18 kn fu a0 a1 a4 a5 a6 (some (.ref (M0.length + j))) (some (.d (wD (w0 ++ [l])))) (some (.d (.int (c : Nat)))) u10 u11)) (M0 ++ X.set j (.lst ((acc ++ xs.map fun x => (ext (w0 ++ [l]) x, lat fu c x)).map lsD)))
  | [], acc, X, t10, t11, hX, _ => by
    obtain ⟨hj, hj2⟩ := List.getElem?_eq_some_iff.mp hX
    refine ⟨t10, t11, ?_⟩
    have : X.set j (.lst ((acc ++ ([] : List Int).map fun x => (ext (w0 ++ [l]) x, lat fu c x)).map lsD)) = X := by
      rw [List.map_nil, List.append_nil, ← hj2]
      exact List.set_getElem_self _
    rw [this]
    rfl
  | x :: xs, acc, X, t10, t11, hX, hlen => by
    rw [List.length_cons] at hlen
    have hj := (List.getElem?_eq_some_iff.mp hX).1
    obtain ⟨u11, e1⟩ := stepD (C := C) (M0 := M0) (kn := kn) (fu := fu) (a0 := a0) (a1 := a1) (a4 := a4) (a5 := a5) (a6 := a6) (x := x) (t11 := t11) hX hc hw hl (by omega)
    obtain ⟨v10, v11, e2⟩ := loopD hc hw hl (xs := xs) (acc := acc ++ [(ext (w0 ++ [l]) x, lat fu c x)]) (X := X.set j (.lst ((acc ++ [(ext (w0 ++ [l]) x, lat fu c x)]).map lsD))) (t10 := some (.d (.int x))) (t11 := u11) (by simp [hj]) (by rw [List.length_append, List.length_singleton]; omega)
    refine ⟨v10, v11, ?_⟩
    rw [List.set_set, List.append_assoc] at e2
    rw [List.map_cons (f := fun x => (ext (w0 ++ [l]) x, lat fu c x))]
    have e3 : [(ext (w0 ++ [l]) x, lat fu c x)] ++ xs.map (fun x => (ext (w0 ++ [l]) x, lat fu c x)) = (ext (w0 ++ [l]) x, lat fu c x) :: xs.map (fun x => (ext (w0 ++ [l]) x, lat fu c x)) := rfl
    rw [e3] at e2
    rw [← e2, List.map_cons]
    conv => lhs; unfold forL
    show ((evSs Gc C inD' (S18 kn fu a0 a1 a4 a5 a6 (some (.ref (M0.length + j))) (some (.d (wD (w0 ++ [l])))) (some (.d (.int (c : Nat)))) (some (.d (.int x))) t11) (M0 ++ X)).bind _) = _
    rw [e1, x_bok]
theorem loopC (hkl : kn.length + fu.length ≤ 100000) : ∀ {zs acc : List LS} {X : Mem} {t8 t9 t10 t11 : Option Val}, X[j]? = some (.lst (acc.map lsD)) → (∀ z ∈ zs, z.2 < fu.length ∧ z.1 ≠ [] ∧ z.1.length ≤ 1000 ∧ ∀ l ∈ z.1, l.length ≤ 1000) → acc.length + (zs.flatMap (exC kn fu)).length ≤ 1000000 →
    ∃ u8 u9 u10 u11, forL (.tup2 (.nm 8) (.nm 9)) (evSs Gc C inC) (zs.map lsD) (S18 kn fu a0 a1 a4 a5 a6 (some (.ref (M0.length + j))) t8 t9 t10 t11) (M0 ++ X) =
    .ok (.nx (S18 kn fu a0 a1 a4 a5 a6 (some (.ref (M0.length + j))) u8 u9 u10 u11)) (M0 ++ X.set j (.lst ((acc ++ zs.flatMap (exC kn fu)).map lsD)))
  | [], acc, X, t8, t9, t10, t11, hX, _, _ => by
    obtain ⟨hj, hj2⟩ := List.getElem?_eq_some_iff.mp hX
    refine ⟨t8, t9, t10, t11, ?_⟩
    have : X.set j (.lst ((acc ++ ([] : List LS).flatMap (exC kn fu)).map lsD)) = X := by
      rw [List.flatMap_nil, List.append_nil, ← hj2]
      exact List.set_getElem_self _
    rw [this]
    rfl
  | (w, c) :: zs, acc, X, t8, t9, t10, t11, hX, hz, hlen => by
    rw [List.flatMap_cons, List.length_append] at hlen
    have hj := (List.getElem?_eq_some_iff.mp hX).1
    obtain ⟨hc, hw0, hw1, hw2⟩ := hz (w, c) List.mem_cons_self
    rcases List.eq_nil_or_concat w with rfl | ⟨w0, l, rfl⟩
    · exact absurd rfl hw0
    rw [List.concat_eq_append] at *
    have hl := hw2 l (by simp)
    have hw0' : w0.length ≤ 1000 := by
      have : (w0 ++ [l]).length ≤ 1000 := hw1
      rw [List.length_append] at this
      omega
    have hex : (exC kn fu (w0 ++ [l], c)).length = (kn ++ fu.take (c + 1)).length := by unfold exC; rw [List.length_map]
    obtain ⟨u10, u11, e1⟩ := loopD (C := C) (M0 := M0) (kn := kn) (a0 := a0) (a1 := a1) (a4 := a4) (a5 := a5) (a6 := a6) (w0 := w0) (l := l) (c := c) hc hw0' hl (xs := kn ++ fu.take (c + 1)) (acc := acc) (X := X) (t10 := t10) (t11 := t11) hX (by rw [← hex]; unfold lim; omega)
    obtain ⟨v8, v9, v10, v11, e2⟩ := loopC hkl (zs := zs) (acc := acc ++ exC kn fu (w0 ++ [l], c)) (X := X.set j (.lst ((acc ++ exC kn fu (w0 ++ [l], c)).map lsD))) (t8 := some (.d (wD (w0 ++ [l])))) (t9 := some (.d (.int (c : Nat)))) (t10 := u10) (t11 := u11) (by simp [hj]) (fun y hy => hz y (List.mem_cons_of_mem _ hy)) (by rw [List.length_append]; omega)
    refine ⟨v8, v9, v10, v11, ?_⟩
    rw [List.set_set, List.append_assoc, ← List.flatMap_cons] at e2
    rw [← e2, List.map_cons]
    conv => lhs; unfold forL
    show ((evSs Gc C inC (S18 kn fu a0 a1 a4 a5 a6 (some (.ref (M0.length + j))) (some (.d (wD (w0 ++ [l])))) (some (.d (.int (c : Nat)))) t10 t11) (M0 ++ X)).bind _) = _
    have hcl : cutL (fu.map PyData.int) none (some ((c : Int) + 1)) = (fu.take (c + 1)).map .int := by
      have := cutL_take (fu.map PyData.int) (c + 1)
      rw [show (((c + 1 : Nat)) : Int) = (c : Int) + 1 by omega] at this
      rw [this, List.map_take]
    have hll : kn.length + (fu.take (c + 1)).length ≤ lim := by
      rw [List.length_take]
      unfold lim; omega
    have hll' : kn.length + min (c + 1) fu.length ≤ lim := by rw [← List.length_take]; exact hll
    have e3 : evS Gc C (.forr (.nm 10) (.ov (.bin .add (.var 2) (.slc (.var 3) .non (.som (.bin .add (.var 9) (.con (.int 1))))))) inD') (S18 kn fu a0 a1 a4 a5 a6 (some (.ref (M0.length + j))) (some (.d (wD (w0 ++ [l])))) (some (.d (.int (c : Nat)))) t10 t11) (M0 ++ X) =
        .ok (.nx (S18 kn fu a0 a1 a4 a5 a6 (some (.ref (M0.length + j))) (some (.d (wD (w0 ++ [l])))) (some (.d (.int (c : Nat)))) u10 u11)) (M0 ++ X.set j (.lst ((acc ++ exC kn fu (w0 ++ [l], c)).map lsD))) := by
      have e1' : forL (.nm 10) (evSs Gc C inD') ((kn ++ fu.take (c + 1)).map .int) (S18 kn fu a0 a1 a4 a5 a6 (some (.ref (M0.length + j))) (some (.d (wD (w0 ++ [l])))) (some (.d (.int (c : Nat)))) t10 t11) (M0 ++ X) =
        .ok (.nx (S18 kn fu a0 a1 a4 a5 a6 (some (.ref (M0.length + j))) (some (.d (wD (w0 ++ [l])))) (some (.d (.int (c : Nat)))) u10 u11)) (M0 ++ X.set j (.lst ((acc ++ exC kn fu (w0 ++ [l], c)).map lsD))) := e1
      rw [x_forr, ← e1', List.map_append]
      generalize inD' = ID at *
      simp [hcl, hll']
    rw [inC_is, sqn e3, x_snil, x_bok]
end
end Mp.k09
end
section
set_option maxHeartbeats 4000000
namespace Mp.k09
open PySem PySem.Spec PyProof.Rows L2 Mp

theorem le_sum_mem : ∀ {xs : List Nat} {x : Nat}, x ∈ xs → x ≤ xs.sum
  | y :: xs, x, h => by
    rw [List.sum_cons]
    rcases List.mem_cons.mp h with rfl | h
    · omega
    · have := le_sum_mem h; omega
theorem flatMap_cong {α β : Type} {f g : α → List β} : ∀ {xs : List α}, (∀ x ∈ xs, f x = g x) → xs.flatMap f = xs.flatMap g
  | [], _ => rfl
  | x :: xs, h => by
    rw [List.flatMap_cons, List.flatMap_cons, h x List.mem_cons_self, flatMap_cong fun y hy => h y (List.mem_cons_of_mem _ hy)]
def fl (z : LS) : St := (z.1.flatten, z.2)
structure Rel (kn fu : List Int) (k : Nat) (sz : List Nat) (rows : List LS) : Prop where
  eq : rows.map fl = RW kn fu k
  shp : ∀ z ∈ rows, z.1.map List.length = sz
def addH (rows : List LS) : List LS := rows.map fun z => (z.1 ++ [[]], z.2)
section
variable {kn fu : List Int} {k : Nat} {sz : List Nat} {rows : List LS}
theorem Rel.one (R : Rel kn fu k sz rows) {z : LS} (h : z ∈ rows) : z.1.flatten.length = k ∧ z.2 ≤ k ∧ z.1.length = sz.length ∧ ∀ l ∈ z.1, l.length ≤ k := by
  have h1 : fl z ∈ RW kn fu k := by rw [← R.eq]; exact List.mem_map.mpr ⟨z, h, rfl⟩
  obtain ⟨h2, h3⟩ := RW_props h1
  have h2' : z.1.flatten.length = k := h2
  refine ⟨h2', h3, by rw [← R.shp z h, List.length_map], fun l hl => ?_⟩
  rw [← h2', List.length_flatten]
  exact le_sum_mem (List.mem_map.mpr ⟨l, hl, rfl⟩)
theorem Rel.len (R : Rel kn fu k sz rows) : rows.length = (RW kn fu k).length := by rw [← R.eq, List.length_map]
theorem Rel.add (R : Rel kn fu k sz rows) : Rel kn fu k (sz ++ [0]) (addH rows) := by
  refine ⟨?_, fun z hz => ?_⟩
  · rw [← R.eq]
    unfold addH
    rw [List.map_map]
    refine List.map_congr_left fun z _ => ?_
    show (_, _) = (_, _)
    simp
  · obtain ⟨y, hy, rfl⟩ := List.mem_map.mp hz
    show (y.1 ++ [[]]).map List.length = _
    rw [List.map_append, R.shp y hy]
    rfl
theorem ext_flat (w0 : List (List Int)) (l : List Int) (x : Int) : (ext (w0 ++ [l]) x).flatten = (w0 ++ [l]).flatten ++ [x] := by simp [ext]
theorem ext_len (w0 : List (List Int)) (l : List Int) (x : Int) : (ext (w0 ++ [l]) x).map List.length = w0.map List.length ++ [l.length + 1] := by simp [ext]
theorem exC_fl {w0 : List (List Int)} {l : List Int} {c : Nat} (hc : c < fu.length) (hp : fu.Pairwise (· < ·)) (hd : ∀ a ∈ fu, a ∉ kn) : (exC kn fu (w0 ++ [l], c)).map fl = ex7 kn fu (fl (w0 ++ [l], c)) := by
  have hg : fu.getD c 0 = fu[c] := by rw [List.getD_eq_getElem?_getD, List.getElem?_eq_getElem hc]; rfl
  unfold exC ex7
  rw [List.map_map]
  show (kn ++ fu.take (c + 1)).map _ = _
  rw [List.take_add_one, List.getElem?_eq_getElem hc]
  show (kn ++ (fu.take c ++ [fu[c]])).map _ = ((kn ++ fu.take c).map fun x => ((w0 ++ [l]).flatten ++ [x], c)) ++ [((w0 ++ [l]).flatten ++ [fu.getD c 0], c + 1)]
  rw [← List.append_assoc, List.map_append]
  congr 1
  · refine List.map_congr_left fun x hx => ?_
    have hne : x ≠ fu[c] := by
      rcases List.mem_append.mp hx with hx | hx
      · exact fun e => hd fu[c] (List.getElem_mem hc) (e ▸ hx)
      · obtain ⟨i, hi, rfl⟩ := List.mem_take_iff_getElem.mp hx
        have hi' : i < c := by omega
        have := List.pairwise_iff_getElem.mp hp i c (by omega) hc hi'
        omega
    show ((ext (w0 ++ [l]) x).flatten, lat fu c x) = _
    unfold lat
    rw [ext_flat, hg, if_neg hne]
  · show [((ext (w0 ++ [l]) fu[c]).flatten, lat fu c fu[c])] = _
    unfold lat
    rw [ext_flat, hg, if_pos rfl]
theorem Rel.field {sz0 : List Nat} {s : Nat} (R : Rel kn fu k (sz0 ++ [s]) rows) (hk : k < fu.length) (hp : fu.Pairwise (· < ·)) (hd : ∀ a ∈ fu, a ∉ kn) : Rel kn fu (k + 1) (sz0 ++ [s + 1]) (rows.flatMap (exC kn fu)) := by
  have sp : ∀ z ∈ rows, ∃ w0 l, z.1 = w0 ++ [l] ∧ w0.map List.length = sz0 ∧ l.length = s := by
    intro z hz
    have h := R.shp z hz
    rcases List.eq_nil_or_concat z.1 with h0 | ⟨w0, l, h0⟩
    · rw [h0] at h
      simp at h
    · rw [List.concat_eq_append] at h0
      rw [h0, List.map_append] at h
      obtain ⟨h1, h2⟩ := List.append_inj' h rfl
      exact ⟨w0, l, h0, h1, by simpa using h2⟩
  refine ⟨?_, fun z hz => ?_⟩
  · show _ = (RW kn fu k).flatMap (ex7 kn fu)
    rw [← R.eq, List.flatMap_map, List.map_flatMap]
    refine flatMap_cong fun z hz => ?_
    obtain ⟨w0, l, h1, _, _⟩ := sp z hz
    have hz2 := (R.one hz).2.1
    have hze : z = (w0 ++ [l], z.2) := by rw [← h1]
    rw [hze]
    exact exC_fl (by omega) hp hd
  · obtain ⟨y, hy, hz⟩ := List.mem_flatMap.mp hz
    obtain ⟨w0, l, h1, h2, h3⟩ := sp y hy
    obtain ⟨x, _, rfl⟩ := List.mem_map.mp hz
    show (ext y.1 x).map List.length = _
    rw [h1, ext_len, h2, h3]
end
/-! ### which fields -/
def szF : List (D × List D) → Nat → Nat → List Nat
  | [], _, _ => []
  | x :: r, i, h => (if i ≠ h then x.2.length else 0) :: szF r (i + 1) h
theorem szF_sum (h : Nat) : ∀ (hs : List (D × List D)) (i : Nat), ((ot hs i h).map (·.2)).sum = (szF hs i h).sum
  | [], _ => rfl
  | x :: hs, i => by
    have ih := szF_sum h hs (i + 1)
    unfold ot szF
    rw [List.sum_cons, ← ih]
    by_cases e : i ≠ h
    · rw [if_pos e, if_pos e]; rfl
    · rw [if_neg e, if_neg e]; simp
theorem szF_len (h : Nat) : ∀ (hs : List (D × List D)) (i : Nat), (szF hs i h).length = hs.length
  | [], _ => rfl
  | x :: hs, i => by
    show (szF hs (i + 1) h).length + 1 = _
    rw [szF_len h hs]
    rfl
theorem szF_get (h : Nat) : ∀ (hs : List (D × List D)) (k i : Nat), (szF hs k h)[i]? = hs[i]?.map fun x => if k + i ≠ h then x.2.length else 0
  | [], _, _ => rfl
  | x :: hs, k, 0 => rfl
  | x :: hs, k, i + 1 => by
    show (szF hs (k + 1) h)[i]? = _
    rw [szF_get h hs, show k + 1 + i = k + (i + 1) by omega]
    rfl
theorem world_flat (h : Nat) : ∀ (hs : List (D × List D)) (i : Nat) (pre suf : List (List Int)), pre.length = i → suf.map List.length = szF hs i h →
    spl (ot hs i h) (pre.flatten ++ suf.flatten) pre.flatten.length (pre ++ List.replicate hs.length []) = pre ++ suf
  | [], i, pre, suf, _, hs => by
    have : suf = [] := List.map_eq_nil_iff.mp hs
    subst this
    rfl
  | x :: hs, i, pre, [], _, hsu => by cases hsu
  | x :: hs, i, pre, l :: suf, hpre, hsu => by
    have h1 : l.length = if i ≠ h then x.2.length else 0 := (List.cons.inj hsu).1
    have h2 : suf.map List.length = szF hs (i + 1) h := (List.cons.inj hsu).2
    have ih := world_flat h hs (i + 1) (pre ++ [l]) suf (by rw [List.length_append, hpre]; rfl) h2
    have hfl : (pre ++ [l]).flatten ++ suf.flatten = pre.flatten ++ (l :: suf).flatten := by simp
    have hfl2 : (pre ++ [l]).flatten.length = pre.flatten.length + l.length := by simp
    rw [hfl, hfl2] at ih
    unfold ot
    by_cases e : i ≠ h
    · rw [if_pos e] at h1 ⊢
      have h3 : ((pre.flatten ++ (l :: suf).flatten).drop pre.flatten.length).take x.2.length = l := by
        rw [List.drop_left, List.flatten_cons, ← h1]
        exact List.take_left
      have h4 : (pre ++ List.replicate (x :: hs).length []).set i l = pre ++ ([l] ++ List.replicate hs.length []) := by
        rw [List.set_append_right _ _ (by omega), hpre, Nat.sub_self]
        rfl
      show spl (ot hs (i + 1) h) (pre.flatten ++ (l :: suf).flatten) (pre.flatten.length + x.2.length) ((pre ++ List.replicate (x :: hs).length []).set i (((pre.flatten ++ (l :: suf).flatten).drop pre.flatten.length).take x.2.length)) = _
      rw [h3, h4, ← h1, ← List.append_assoc, ih, List.append_assoc]
      rfl
    · rw [if_neg e] at h1 ⊢
      have hl0 : l = [] := List.eq_nil_of_length_eq_zero h1
      subst hl0
      have ih' : spl (ot hs (i + 1) h) (pre.flatten ++ ([] :: suf).flatten) pre.flatten.length (pre ++ [[]] ++ List.replicate hs.length []) = pre ++ [[]] ++ suf := ih
      have h4 : pre ++ List.replicate (x :: hs).length ([] : List Int) = (pre ++ [[]]) ++ List.replicate hs.length [] := by
        rw [List.append_assoc]
        rfl
      rw [h4, ih', List.append_assoc]
      rfl
theorem worlds_rel {hs : List (D × List D)} {h : Nat} {kn : List Int} {rows : List LS} (R : Rel kn (fresh kn (many hs h)) (many hs h) (szF hs 0 h) rows) : worlds hs h kn = rows.map (·.1) := by
  unfold worlds
  rw [← R.eq, List.map_map]
  refine List.map_congr_left fun z hz => ?_
  have := world_flat h hs 0 [] z.1 rfl (R.shp z hz)
  exact this
end Mp.k09
end
section
set_option maxHeartbeats 4000000
namespace Mp.k09
open PySem PySem.Spec PyProof.Rows L2 Mp

section
variable {C : CT} {M0 : Mem} {kn fu : List Int} {a0 a1 a5 : Option Val}
theorem loopB (hkl : kn.length + fu.length ≤ 100000) (hf1 : fu.length ≤ 1000) (hp : fu.Pairwise (· < ·)) (hd : ∀ a ∈ fu, a ∉ kn) (hB : ∀ i ≤ fu.length, (RW kn fu i).length ≤ 1000000) {sz0 : List Nat} (hsz : sz0.length ≤ 100) :
    ∀ {fs : List D} {k s : Nat} {rows : List LS} {X : Mem} {t6 t7 t8 t9 t10 t11 : Option Val}, Rel kn fu k (sz0 ++ [s]) rows → k + fs.length ≤ fu.length →
    ∃ rows' X' u6 u7 u8 u9 u10 u11, forL (.nm 6) (evSs Gc C outB) fs (S18 kn fu a0 a1 (some (.d (.list (rows.map lsD)))) a5 t6 t7 t8 t9 t10 t11) (M0 ++ X) =
    .ok (.nx (S18 kn fu a0 a1 (some (.d (.list (rows'.map lsD)))) a5 u6 u7 u8 u9 u10 u11)) (M0 ++ X') ∧ Rel kn fu (k + fs.length) (sz0 ++ [s + fs.length]) rows'
  | [], k, s, rows, X, t6, t7, t8, t9, t10, t11, R, _ => ⟨rows, X, t6, t7, t8, t9, t10, t11, rfl, R⟩
  | f :: fs, k, s, rows, X, t6, t7, t8, t9, t10, t11, R, hk => by
    rw [List.length_cons] at hk
    have hk1 : k < fu.length := by omega
    have R1 := R.field hk1 hp hd
    have hlen1 : (rows.flatMap (exC kn fu)).length ≤ 1000000 := by rw [R1.len]; exact hB (k + 1) (by omega)
    obtain ⟨v8, v9, v10, v11, e1⟩ := loopC (C := C) (M0 := M0) (a0 := a0) (a1 := a1) (a4 := some (.d (.list (rows.map lsD)))) (a5 := a5) (a6 := some (.d f)) (j := X.length) hkl (zs := rows) (acc := []) (X := X ++ [.lst []]) (t8 := t8) (t9 := t9) (t10 := t10) (t11 := t11) (by simp) (fun z hz => by
      obtain ⟨h1, h2, h3, h4⟩ := R.one hz
      rw [List.length_append, List.length_singleton] at h3
      exact ⟨by omega, fun e => by rw [e] at h3; simp at h3, by omega, fun l hl => by have := h4 l hl; omega⟩) (by simpa using hlen1)
    rw [List.nil_append] at e1
    have e2 : (X ++ [Ob.lst []]).set X.length (.lst ((rows.flatMap (exC kn fu)).map lsD)) = X ++ [.lst ((rows.flatMap (exC kn fu)).map lsD)] := by simp
    rw [e2] at e1
    have R1' : Rel kn fu (k + 1) (sz0 ++ [s + 1]) (rows.flatMap (exC kn fu)) := R1
    generalize rows.flatMap (exC kn fu) = rows1 at *
    obtain ⟨rows', X', u6, u7, u8, u9, u10, u11, e3, R3⟩ := loopB hkl hf1 hp hd hB hsz (fs := fs) (X := X ++ [.dead]) (t6 := some (.d f)) (t7 := some (.d (.list (rows1.map lsD)))) (t8 := v8) (t9 := v9) (t10 := v10) (t11 := v11) R1' (by omega)
    refine ⟨rows', X', u6, u7, u8, u9, u10, u11, ?_, by rw [List.length_cons, show k + (fs.length + 1) = k + 1 + fs.length by omega, show s + (fs.length + 1) = s + 1 + fs.length by omega]; exact R3⟩
    rw [← e3]
    conv => lhs; unfold forL
    show ((evSs Gc C outB (S18 kn fu a0 a1 (some (.d (.list (rows.map lsD)))) a5 (some (.d f)) t7 t8 t9 t10 t11) (M0 ++ X)).bind _) = _
    have s0 : evS Gc C (.set 7 (.new (.lst .nil))) (S18 kn fu a0 a1 (some (.d (.list (rows.map lsD)))) a5 (some (.d f)) t7 t8 t9 t10 t11) (M0 ++ X) = .ok (.nx (S18 kn fu a0 a1 (some (.d (.list (rows.map lsD)))) a5 (some (.d f)) (some (.ref (M0.length + X.length))) t8 t9 t10 t11)) (M0 ++ (X ++ [.lst []])) := by simp
    have s1 : evS Gc C (.forr (.tup2 (.nm 8) (.nm 9)) (.ov (.var 4)) inC) (S18 kn fu a0 a1 (some (.d (.list (rows.map lsD)))) a5 (some (.d f)) (some (.ref (M0.length + X.length))) t8 t9 t10 t11) (M0 ++ (X ++ [.lst []])) = .ok (.nx (S18 kn fu a0 a1 (some (.d (.list (rows.map lsD)))) a5 (some (.d f)) (some (.ref (M0.length + X.length))) v8 v9 v10 v11)) (M0 ++ (X ++ [.lst (rows1.map lsD)])) := by
      rw [x_forr, ← e1]
      generalize inC = IC at *
      simp
    have hg : (M0 ++ (X ++ [Ob.lst (rows1.map lsD)]))[M0.length + X.length]? = some (.lst (rows1.map lsD)) := by rw [get_app]; simp
    have hst : (M0 ++ (X ++ [Ob.lst (rows1.map lsD)])).set (M0.length + X.length) .dead = M0 ++ (X ++ [.dead]) := by rw [set_app]; simp
    have s2 : evS Gc C (.frz 7) (S18 kn fu a0 a1 (some (.d (.list (rows.map lsD)))) a5 (some (.d f)) (some (.ref (M0.length + X.length))) v8 v9 v10 v11) (M0 ++ (X ++ [.lst (rows1.map lsD)])) = .ok (.nx (S18 kn fu a0 a1 (some (.d (.list (rows.map lsD)))) a5 (some (.d f)) (some (.d (.list (rows1.map lsD)))) v8 v9 v10 v11)) (M0 ++ (X ++ [.dead])) := by
      rw [x_frz]
      simp only [x_gete0, x_getes, hg, hst]
      rfl
    rw [outB_is, sqn s0, sqn s1, sqn s2]
    simp
theorem hs_at' {hs : List (D × List D)} {i : Nat} {x : D × List D} (h : hs[i]? = some x) : L2.atI (hsD hs) ((i : Nat) : Int) = some (.tuple [x.1, .tuple x.2]) := L2.atI_nat (by unfold hsD; rw [List.getElem?_map, h]; rfl)
def y18 (x : D) : D := match x with | .tuple [.tuple w, c] => .tuple [.tuple (w ++ [.tuple []]), c] | _ => .none
theorem stepA {hs : List (D × List D)} {h i : Nat} {x : D × List D} (hkl : kn.length + fu.length ≤ 100000) (hf1 : fu.length ≤ 1000) (hp : fu.Pairwise (· < ·)) (hd : ∀ a ∈ fu, a ∉ kn) (hB : ∀ i ≤ fu.length, (RW kn fu i).length ≤ 1000000) {sz0 : List Nat} (hsz : sz0.length ≤ 100) (hx : hs[i]? = some x)
    {k : Nat} {rows : List LS} {X : Mem} {t6 t7 t8 t9 t10 t11 : Option Val} (R : Rel kn fu k sz0 rows) (hk : k + (if i ≠ h then x.2.length else 0) ≤ fu.length) :
    ∃ rows' X' u6 u7 u8 u9 u10 u11, evSs Gc C outA (S18 kn fu (some (.d (.tuple (hsD hs)))) (some (.d (.int (h : Nat)))) (some (.d (.list (rows.map lsD)))) (some (.d (.int (i : Nat)))) t6 t7 t8 t9 t10 t11) (M0 ++ X) =
    .ok (.nx (S18 kn fu (some (.d (.tuple (hsD hs)))) (some (.d (.int (h : Nat)))) (some (.d (.list (rows'.map lsD)))) (some (.d (.int (i : Nat)))) u6 u7 u8 u9 u10 u11)) (M0 ++ X') ∧ Rel kn fu (k + (if i ≠ h then x.2.length else 0)) (sz0 ++ [if i ≠ h then x.2.length else 0]) rows' := by
  have l1 : 1 ≤ lim := by unfold lim; omega
  have l2 : 2 ≤ lim := by unfold lim; omega
  have e := lcL_map (tg := .tup2 (.nm 8) (.nm 9)) (own := [8, 9]) (f := evE Gc C (.tup (.cons (.bin .add (.var 8) (.tup (.cons (.tup .nil) .nil))) (.cons (.var 9) .nil)))) (σ := S18 kn fu (some (.d (.tuple (hsD hs)))) (some (.d (.int (h : Nat)))) (some (.d (.list (rows.map lsD)))) (some (.d (.int (i : Nat)))) t6 t7 t8 t9 t10 t11) (M := M0 ++ X)
    (y := y18) (xs := rows.map lsD) (fun y hy => by
      obtain ⟨z, hz, rfl⟩ := List.mem_map.mp hy
      have hz3 := (R.one hz).2.2.1
      have : z.1.length + 1 ≤ lim := by unfold lim; omega
      exact ⟨_, rfl, by simp [wipeE, lsD, wD, y18, l1, l2, this]⟩)
  have e0 : (rows.map lsD).map y18 = (addH rows).map lsD := by
    unfold addH
    rw [List.map_map, List.map_map]
    refine List.map_congr_left fun z _ => ?_
    show PyData.tuple [.tuple (z.1.map iT ++ [.tuple []]), .int (z.2 : Nat)] = _
    simp [lsD, wD, iT]
  rw [e0] at e
  have R1 := R.add
  have hlen : (addH rows).length ≤ lim := by
    rw [R1.len]
    have := hB k (by omega)
    unfold lim; omega
  obtain ⟨rows', X', u6, u7, u8, u9, u10, u11, e1, R2⟩ := loopB (C := C) (M0 := M0) (a0 := some (.d (.tuple (hsD hs)))) (a1 := some (.d (.int (h : Nat)))) (a5 := some (.d (.int (i : Nat)))) hkl hf1 hp hd hB hsz (fs := if i ≠ h then x.2 else []) (X := X) (t6 := t6) (t7 := t7) (t8 := t8) (t9 := t9) (t10 := t10) (t11 := t11) R1 (by by_cases ee : i ≠ h <;> simp only [ee, ne_eq, not_true, not_false_iff, if_true, if_false, List.length_nil] at hk ⊢ <;> exact hk)
  have hle : (if i ≠ h then x.2 else []).length = if i ≠ h then x.2.length else 0 := by by_cases ee : i ≠ h <;> simp [ee]
  rw [hle, Nat.zero_add] at R2
  refine ⟨rows', X', u6, u7, u8, u9, u10, u11, ?_, R2⟩
  have hat := hs_at' hx
  have s0 : evS Gc C (nthS outA 0) (S18 kn fu (some (.d (.tuple (hsD hs)))) (some (.d (.int (h : Nat)))) (some (.d (.list (rows.map lsD)))) (some (.d (.int (i : Nat)))) t6 t7 t8 t9 t10 t11) (M0 ++ X) = .ok (.nx (S18 kn fu (some (.d (.tuple (hsD hs)))) (some (.d (.int (h : Nat)))) (some (.d (.list ((addH rows).map lsD)))) (some (.d (.int (i : Nat)))) t6 t7 t8 t9 t10 t11)) (M0 ++ X) := by
    show evS Gc C (.set 4 (.lc [8, 9] (.tup2 (.nm 8) (.nm 9)) (.ov (.var 4)) .nil (.tup (.cons (.bin .add (.var 8) (.tup (.cons (.tup .nil) .nil))) (.cons (.var 9) .nil))))) _ _ = _
    simp only [x_set, x_lc, x_ov, x_var, x_gete0, x_getes, x_ofS, x_bok, evC, e, List.length_map, hlen, if_true]
    simp
  have s1 : evS Gc C (.forr (.nm 6) (.ov (.ife (.cmp .ne (.var 5) (.var 1)) (.idx (.idx (.var 0) (.var 5)) (.con (.int 1))) (.tup .nil))) outB) (S18 kn fu (some (.d (.tuple (hsD hs)))) (some (.d (.int (h : Nat)))) (some (.d (.list ((addH rows).map lsD)))) (some (.d (.int (i : Nat)))) t6 t7 t8 t9 t10 t11) (M0 ++ X) =
      .ok (.nx (S18 kn fu (some (.d (.tuple (hsD hs)))) (some (.d (.int (h : Nat)))) (some (.d (.list (rows'.map lsD)))) (some (.d (.int (i : Nat)))) u6 u7 u8 u9 u10 u11)) (M0 ++ X') := by
    rw [x_forr, ← e1]
    generalize outB = OB at *
    by_cases ee : i = h
    · have e5 : (if i ≠ h then x.2 else []) = [] := if_neg fun z => z ee
      rw [e5]
      subst ee
      simp
    · have e5 : (if i ≠ h then x.2 else []) = x.2 := if_pos ee
      rw [e5]
      have ee' : ¬ (i : Int) = (h : Int) := by omega
      have ee2 : (decide ((i : Int) = (h : Int))) = false := decide_eq_false ee'
      simp [ee, ee', ee2, hat, at1]
  rw [outA_is, sqn s0, sqn s1, x_snil]
end
theorem t18 (m : Nat) {hs : List (D × List D)} {h : Nat} {kn : List Int} {zs : List D} (M : Mem) (hkl : kn.length ≤ 10000) (hhs : hs.length ≤ 100) (hmn : many hs h ≤ 1000) (hB : ∀ i ≤ many hs h, (RW kn (fresh kn (many hs h)) i).length ≤ 1000000) (hz : sortD ((worlds hs h kn).map wD) = some zs) :
    callAt Gc tx.T (m + 1) 18 [.d (.tuple (hsD hs)), .d (.int (h : Nat)), .d (.list (kn.map .int)), .d (.list ((fresh kn (many hs h)).map .int))] M = .ok (.d (.tuple zs)) M := by
  rw [call_is (f := f18) rfl]
  let C := callAt Gc tx.T m
  obtain ⟨fl1, fl2, fl3⟩ := fresh_props kn (many hs h)
  have wr := fun rows => worlds_rel (hs := hs) (h := h) (kn := kn) (rows := rows)
  generalize hfu : fresh kn (many hs h) = fu at *
  have hhl : (hsD hs).length = hs.length := List.length_map _
  have hr := rngOk_n (n := hs.length) (by unfold lim; omega)
  have hsum : ∀ i, ((szF hs 0 h).take i).sum ≤ many hs h := by
    intro i
    unfold many
    rw [szF_sum]
    conv => rhs; rw [← List.take_append_drop i (szF hs 0 h), List.sum_append]
    omega
  obtain ⟨σ', M', e, rows, X, t5, t6, t7, t8, t9, t10, t11, rfl, rfl, R⟩ := forL_go (tg := .nm 5) (b := evSs Gc C outA) (xs := (rI hs.length).map .int) (σ := S18 kn fu (some (.d (.tuple (hsD hs)))) (some (.d (.int (h : Nat)))) (some (.d (.list ([([], 0)].map lsD)))) none none none none none none none) (M := M)
    (fun i σ M' => ∃ (rows : List LS) (X : Mem) (t5 t6 t7 t8 t9 t10 t11 : Option Val), σ = S18 kn fu (some (.d (.tuple (hsD hs)))) (some (.d (.int (h : Nat)))) (some (.d (.list (rows.map lsD)))) t5 t6 t7 t8 t9 t10 t11 ∧ M' = M ++ X ∧ Rel kn fu ((szF hs 0 h).take i).sum ((szF hs 0 h).take i) rows)
    ⟨[([], 0)], [], none, none, none, none, none, none, none, rfl, by simp, rfl, fun z hz => by rw [List.mem_singleton.mp hz]; rfl⟩ (by
      rintro i x σ M' hx ⟨rows, X, t5, t6, t7, t8, t9, t10, t11, rfl, rfl, R⟩
      obtain ⟨hi, rfl⟩ := rI_at hx
      have hg : hs[i]? = some hs[i] := List.getElem?_eq_getElem hi
      have htk : (szF hs 0 h).take (i + 1) = (szF hs 0 h).take i ++ [if i ≠ h then hs[i].2.length else 0] := by
        rw [List.take_add_one, szF_get, hg]
        simp
      have hsm := hsum (i + 1)
      rw [htk, List.sum_append, List.sum_singleton] at hsm
      obtain ⟨rows', X', u6, u7, u8, u9, u10, u11, e1, R'⟩ := stepA (C := C) (M0 := M) (h := h) (by omega) (by omega) fl2 fl3 (by rw [fl1]; exact hB) (by rw [List.length_take, szF_len]; omega) hg (X := X) (t6 := t6) (t7 := t7) (t8 := t8) (t9 := t9) (t10 := t10) (t11 := t11) R (by rw [fl1]; exact hsm)
      refine ⟨_, _, _, rfl, e1, rows', X', some (.d (.int (i : Nat))), u6, u7, u8, u9, u10, u11, rfl, rfl, ?_⟩
      rw [htk, List.sum_append, List.sum_singleton]
      exact R')
  have hfull : (szF hs 0 h).take hs.length = szF hs 0 h := List.take_of_length_le (by rw [szF_len]; exact Nat.le_refl _)
  rw [List.length_map, rI_len, hfull] at R
  have hms : (szF hs 0 h).sum = many hs h := (szF_sum h hs 0).symm
  rw [hms] at R
  rw [wr rows R, List.map_map] at hz
  have l1 : 1 ≤ lim := by unfold lim; omega
  have l2 : 2 ≤ lim := by unfold lim; omega
  have s0 : evS Gc C (nthS b18 0) [some (.d (.tuple (hsD hs))), some (.d (.int (h : Nat))), some (.d (.list (kn.map .int))), some (.d (.list (fu.map .int))), none, none, none, none, none, none, none, none] M = .ok (.nx (S18 kn fu (some (.d (.tuple (hsD hs)))) (some (.d (.int (h : Nat)))) (some (.d (.list ([([], 0)].map lsD)))) none none none none none none none)) M := by
    simp [nthS, b18, l1, l2, lsD, wD]
  have s1 : evS Gc C (.forr (.nm 5) (.rg1 (.bi .len (.cons (.var 0) .nil))) outA) (S18 kn fu (some (.d (.tuple (hsD hs)))) (some (.d (.int (h : Nat)))) (some (.d (.list ([([], 0)].map lsD)))) none none none none none none none) M = .ok (.nx (S18 kn fu (some (.d (.tuple (hsD hs)))) (some (.d (.int (h : Nat)))) (some (.d (.list (rows.map lsD)))) t5 t6 t7 t8 t9 t10 t11)) (M ++ X) := by
    rw [x_forr, ← e]
    generalize outA = OA at *
    simp [hhl, hr, rngD_rI]
  have e2 := lcL_map (tg := .tup2 (.nm 8) (.nm 9)) (own := [8, 9]) (f := evE Gc C (.var 8)) (σ := S18 kn fu (some (.d (.tuple (hsD hs)))) (some (.d (.int (h : Nat)))) (some (.d (.list (rows.map lsD)))) t5 t6 t7 t8 t9 t10 t11) (M := M ++ X)
    (y := fst2) (xs := rows.map lsD) (fun x hx => by
      obtain ⟨z, _, rfl⟩ := List.mem_map.mp hx
      exact ⟨_, rfl, by simp [wipeE]; rfl⟩)
  have e3 : (rows.map lsD).map fst2 = rows.map (wD ∘ fun z => z.1) := by
    rw [List.map_map]
    rfl
  rw [e3] at e2
  have hll : rows.length ≤ lim := by
    rw [R.len]
    have := hB _ (Nat.le_refl _)
    unfold lim; omega
  rw [run_rt (fn := f18) (σ0 := [some (.d (.tuple (hsD hs))), some (.d (.int (h : Nat))), some (.d (.list (kn.map .int))), some (.d (.list (fu.map .int))), none, none, none, none, none, none, none, none]) (v := .d (.tuple zs)) (M1 := M ++ X) rfl rfl ?_]
  · show outV M.length true _ _ = _
    rw [out_d, take_app]
  show evSs Gc C b18 _ M = _
  rw [b18_is, sqn s0, sqn s1]
  show evSs Gc C (.cons (.ret (.bi .tuple (.cons (.bi .sorted (.cons (.lc [8, 9] (.tup2 (.nm 8) (.nm 9)) (.ov (.var 4)) .nil (.var 8)) .nil)) .nil))) .nil) _ _ = _
  simp only [x_scons, x_ret, x_bi, x_cons, x_nil, x_lc, x_ov, x_var, x_gete0, x_getes, x_ofS, x_bok, evC, e2, List.length_map, hll, if_true, x_bsl, hz, Option.map_some, x_btupl, x_sqr]
end Mp.k09
end
section
set_option maxHeartbeats 4000000
namespace Mp.k09
open PySem PySem.Spec PyProof.Rows L2 Mp

/-! ### records -/
def out19 : MSs := bodyOf (nthS b19 1)
def in19 : MSs := bodyOf (nthS out19 1)
theorem b19_is : b19 = .cons (.set 4 (.new (.lst .nil))) (.cons (.forr (.nm 5) (.rg1 (.call 10 (.cons (.var 0) (.cons (.con (.int 8)) (.cons (.con (.int 4)) .nil))))) out19) (.cons (nthS b19 2) .nil)) := rfl
theorem out19_is : out19 = .cons (.set 6 (.new (.lst .nil))) (.cons (.forr (.nm 7) (.ov (.idx (.idx (.var 1) (.var 2)) (.con (.int 1)))) in19) (.cons (.exp (.mt .append (.var 4) (.cons (.bi .tuple (.cons (.var 6) .nil)) .nil))) .nil)) := rfl
def e19 : ME := .ife (.and (.cmp .eq (.var 8) (.con (.int 0))) (.cmp .gt (.bi .len (.cons (.var 3) .nil)) (.con (.int 0)))) (.idx (.var 3) (.call 10 (.cons (.var 0) (.cons (.con (.int 10)) (.cons (.bi .len (.cons (.var 3) .nil)) .nil))))) (.ife (.cmp .eq (.var 8) (.con (.int 1))) (.call 10 (.cons (.var 0) (.cons (.con (.int 11)) (.cons (.con (.int 4)) .nil)))) (.call 13 (.cons (.var 0) .nil)))
theorem in19_is : in19 = .cons (.set 8 (.call 10 (.cons (.var 0) (.cons (.con (.int 9)) (.cons (.con (.int 4)) .nil))))) (.cons (.exp (.mt .append (.var 6) (.cons e19 .nil))) .nil) := rfl
section
variable {m : Nat} {s : List D} {cs : List Int} {a1 a2 a4 a5 a7 : Option Val}
abbrev S19 (cs : List Int) (a1 a2 a4 a5 a6 a7 a8 : Option Val) : Env := [some (.ref 3), a1, a2, some (.d (.list (cs.map .int))), a4, a5, a6, a7, a8]
theorem step19 {R M : Mem} {k : Nat} {row : List Int} {t8 : Option Val} (h : Sk s R M) (hcs : cs.length ≤ 1000) (hX : R[k]? = some (.lst (row.map .int))) (hl : row.length < lim) : ∃ x u8 M', evSs Gc (callAt Gc tx.T (m + 2)) in19 (S19 cs a1 a2 a4 a5 (some (.ref (k + 4))) a7 t8) M =
    .ok (.nx (S19 cs a1 a2 a4 a5 (some (.ref (k + 4))) a7 u8)) M' ∧ Sk s (R.set k (.lst ((row ++ [x]).map .int))) M' := by
  obtain ⟨w, M1, g1, h1, w0, w1⟩ := t10 (m + 1) h (pl := 9) (many := 4) (by decide) (by decide) (by decide) (by decide)
  have s0 : evS Gc (callAt Gc tx.T (m + 2)) (.set 8 (.call 10 (.cons (.var 0) (.cons (.con (.int 9)) (.cons (.con (.int 4)) .nil))))) (S19 cs a1 a2 a4 a5 (some (.ref (k + 4))) a7 t8) M = .ok (.nx (S19 cs a1 a2 a4 a5 (some (.ref (k + 4))) a7 (some (.d (.int w))))) M1 := by
    simp [g1]
  have he : ∃ x M2, evE Gc (callAt Gc tx.T (m + 2)) e19 (S19 cs a1 a2 a4 a5 (some (.ref (k + 4))) a7 (some (.d (.int w)))) M1 = .ok (.d (.int x)) M2 ∧ Sk s R M2 := by
    by_cases hw : w = 0 ∧ 0 < cs.length
    · obtain ⟨rfl, hc⟩ := hw
      obtain ⟨r, M2, g2, h2, r0, r1⟩ := t10 (m + 1) h1 (pl := 10) (many := (cs.length : Nat)) (by decide) (by decide) (by omega) (by omega)
      obtain ⟨v, hv⟩ := atI_int (vs := cs) (a := r) r0 r1
      exact ⟨v, M2, by simp [e19, hc, g2, hv], h2⟩
    · by_cases hw1 : w = 1
      · subst hw1
        obtain ⟨r, M2, g2, h2, r0, r1⟩ := t10 (m + 1) h1 (pl := 11) (many := 4) (by decide) (by decide) (by decide) (by decide)
        exact ⟨r, M2, by simp [e19, g2], h2⟩
      · obtain ⟨r, M2, g2, h2⟩ := t13 m h1
        refine ⟨r, M2, ?_, h2⟩
        by_cases hw0 : w = 0
        · have hc : ¬ 0 < cs.length := fun h => hw ⟨hw0, h⟩
          subst hw0
          simp [e19, hc, g2]
        · simp [e19, hw0, hw1, g2]
  obtain ⟨x, M2, he, h2⟩ := he
  have hk0 := (List.getElem?_eq_some_iff.mp hX).1
  have hg1 : M1[k + 4]? = some (.lst (row.map .int)) := by rw [h1.get]; exact hX
  have hg2 : M2[k + 4]? = some (.lst (row.map .int)) := by rw [h2.get]; exact hX
  have hk := x_kind (m := .append) (fun h => by cases h) (fun h => by cases h) hg1
  have ha := x_app (x := .int x) hg2
  rw [List.length_map, if_pos hl] at ha
  have hsk := h2.set k (.lst (row.map .int ++ [.int x]))
  have e : (row ++ [x]).map PyData.int = row.map .int ++ [.int x] := by simp
  refine ⟨x, some (.d (.int w)), M2.set (k + 4) (.lst (row.map .int ++ [.int x])), ?_, by rw [e]; exact hsk⟩
  rw [in19_is, sqn s0]
  generalize e19 = E at *
  simp [hk, he, ha]
theorem loop19 {k : Nat} (hcs : cs.length ≤ 1000) : ∀ {fs : List D} {R M : Mem} {row : List Int} {a7 t8 : Option Val}, Sk s R M → R[k]? = some (.lst (row.map .int)) → row.length + fs.length ≤ 1000 →
    ∃ xs u7 u8 M', forL (.nm 7) (evSs Gc (callAt Gc tx.T (m + 2)) in19) fs (S19 cs a1 a2 a4 a5 (some (.ref (k + 4))) a7 t8) M = .ok (.nx (S19 cs a1 a2 a4 a5 (some (.ref (k + 4))) u7 u8)) M' ∧ Sk s (R.set k (.lst ((row ++ xs).map .int))) M' ∧ xs.length = fs.length
  | [], R, M, row, a7, t8, h, hX, _ => by
    obtain ⟨hj, hj2⟩ := List.getElem?_eq_some_iff.mp hX
    refine ⟨[], a7, t8, M, rfl, ?_, rfl⟩
    have : R.set k (.lst ((row ++ []).map .int)) = R := by
      rw [List.append_nil, ← hj2]
      exact List.set_getElem_self _
    rw [this]
    exact h
  | f :: fs, R, M, row, a7, t8, h, hX, hl => by
    rw [List.length_cons] at hl
    have hk0 := (List.getElem?_eq_some_iff.mp hX).1
    obtain ⟨x, u8, M1, e1, h1⟩ := step19 (m := m) (a1 := a1) (a2 := a2) (a4 := a4) (a5 := a5) (a7 := some (.d f)) (t8 := t8) h hcs hX (by unfold lim; omega)
    obtain ⟨xs, v7, v8, M2, e2, h2, hxl⟩ := loop19 (k := k) hcs (fs := fs) (a7 := some (.d f)) (t8 := u8) (row := row ++ [x]) h1 (by simp [hk0]) (by rw [List.length_append, List.length_singleton]; omega)
    rw [List.set_set, List.append_assoc] at h2
    refine ⟨[x] ++ xs, v7, v8, M2, ?_, h2, by simp [hxl]⟩
    rw [← e2]
    conv => lhs; unfold forL
    show ((evSs Gc (callAt Gc tx.T (m + 2)) in19 (S19 cs a1 a2 a4 a5 (some (.ref (k + 4))) (some (.d f)) t8) M).bind _) = _
    rw [e1, x_bok]
end
theorem t19 (m : Nat) {s : List D} {R M : Mem} {hs : List (D × List D)} {h : Nat} {cs : List Int} (hsk : Sk s R M) (hcs : cs.length ≤ 1000) (hh : h < hs.length) (hf : ∀ z ∈ hs, z.2.length ≤ 10) :
    ∃ (rs : List (List Int)) (M' : Mem), callAt Gc tx.T (m + 3) 19 [.ref 3, .d (.tuple (hsD hs)), .d (.int (h : Nat)), .d (.list (cs.map .int))] M = .ok (.d (.tuple (rs.map iT))) M' ∧ Sk s R M' ∧ rs.length ≤ 4 ∧ ∀ r ∈ rs, r.length = (hs[h]).2.length := by
  have hml := hsk.len
  rw [show m + 3 = (m + 2) + 1 by omega, call_is (f := f19) rfl]
  let C := callAt Gc tx.T (m + 2)
  let a1 : Option Val := some (.d (.tuple (hsD hs)))
  let a2 : Option Val := some (.d (.int (h : Nat)))
  have hat := hs_at hh
  have hfl := hf hs[h] (List.getElem_mem hh)
  have h0 := hsk.app (Ob.lst (([] : List (List Int)).map iT))
  have s0 : evS Gc C (.set 4 (.new (.lst .nil))) [some (.ref 3), a1, a2, some (.d (.list (cs.map .int))), none, none, none, none, none] M = .ok (.nx (S19 cs a1 a2 (some (.ref (R.length + 4))) none none none none)) (M ++ [.lst []]) := by simp [hml]
  obtain ⟨n, M1, g1, h1, n0, n1⟩ := t10 (m + 1) h0 (pl := 8) (many := 4) (by decide) (by decide) (by decide) (by decide)
  obtain ⟨n, rfl⟩ : ∃ k : Nat, n = (k : Int) := ⟨n.toNat, by omega⟩
  have hr := rngOk_n (n := n) (by unfold lim; omega)
  obtain ⟨σ', M', e, told, E, t5, t6, t7, t8, rfl, hsk2, htl, htr⟩ := forL_go (tg := .nm 5) (b := evSs Gc C out19) (xs := (rI n).map .int) (σ := S19 cs a1 a2 (some (.ref (R.length + 4))) none none none none) (M := M1)
    (fun i σ M' => ∃ (told : List (List Int)) (E : Mem) (t5 t6 t7 t8 : Option Val), σ = S19 cs a1 a2 (some (.ref (R.length + 4))) t5 t6 t7 t8 ∧ Sk s (R ++ (.lst (told.map iT) :: E)) M' ∧ told.length = i ∧ ∀ r ∈ told, r.length = (hs[h]).2.length)
    ⟨[], [], none, none, none, none, rfl, h1, rfl, fun r hr => by cases hr⟩ (by
      rintro i x σ M' hx ⟨told, E, t5, t6, t7, t8, rfl, hk, htl, htr⟩
      obtain ⟨hi, rfl⟩ := rI_at hx
      have hn2 : n < 4 := by omega
      have hlen := hk.len
      have hk1 := hk.app (Ob.lst (([] : List Int).map .int))
      let Rb : Mem := R ++ (.lst (told.map iT) :: E)
      have hRb : Rb.length = R.length + (E.length + 1) := by simp [Rb]
      obtain ⟨xs, u7, u8, M2, e1, hk2, hxl⟩ := loop19 (m := m) (s := s) (cs := cs) (a1 := a1) (a2 := a2) (a4 := some (.ref (R.length + 4))) (a5 := some (.d (.int (i : Nat)))) (k := Rb.length) hcs (fs := hs[h].2) (R := Rb ++ [Ob.lst (([] : List Int).map .int)]) (row := []) (a7 := t7) (t8 := t8) hk1 (by simp) (by simp; omega)
      rw [List.nil_append] at hk2
      have e2 : (Rb ++ [Ob.lst (([] : List Int).map .int)]).set Rb.length (.lst (xs.map .int)) = Rb ++ [.lst (xs.map .int)] := by simp
      rw [e2] at hk2
      have b0 : evS Gc C (.set 6 (.new (.lst .nil))) (S19 cs a1 a2 (some (.ref (R.length + 4))) (some (.d (.int (i : Nat)))) t6 t7 t8) M' = .ok (.nx (S19 cs a1 a2 (some (.ref (R.length + 4))) (some (.d (.int (i : Nat)))) (some (.ref (Rb.length + 4))) t7 t8)) (M' ++ [.lst []]) := by
        have : M'.length = Rb.length + 4 := hlen
        simp [this]
      have b1 : evS Gc C (.forr (.nm 7) (.ov (.idx (.idx (.var 1) (.var 2)) (.con (.int 1)))) in19) (S19 cs a1 a2 (some (.ref (R.length + 4))) (some (.d (.int (i : Nat)))) (some (.ref (Rb.length + 4))) t7 t8) (M' ++ [.lst []]) = .ok (.nx (S19 cs a1 a2 (some (.ref (R.length + 4))) (some (.d (.int (i : Nat)))) (some (.ref (Rb.length + 4))) u7 u8)) M2 := by
        rw [x_forr, ← e1]
        generalize in19 = IN at *
        simp only [x_ov, x_idx, x_var, x_con, x_gete0, x_getes, x_ofS, x_bok, a1, a2, x_ixt, hat, Option.map_some, at1]
        rfl
      have g6 : M2[Rb.length + 4]? = some (.lst (xs.map .int)) := by rw [hk2.get]; simp
      have g4 : M2[R.length + 4]? = some (.lst (told.map iT)) := by
        rw [hk2.get]
        simp [Rb]
      have hb := x_btupr g6
      have hkd := x_kind (m := .append) (fun h => by cases h) (fun h => by cases h) g4
      have ha := x_app (x := .tuple (xs.map .int)) g4
      rw [List.length_map, if_pos (by unfold lim; omega)] at ha
      have hk3 := hk2.set R.length (.lst (told.map iT ++ [.tuple (xs.map .int)]))
      have e3 : (Rb ++ [Ob.lst (xs.map .int)]).set R.length (.lst (told.map iT ++ [.tuple (xs.map .int)])) = R ++ (.lst ((told ++ [xs]).map iT) :: (E ++ [.lst (xs.map .int)])) := by
        simp [Rb, iT]
      rw [e3] at hk3
      refine ⟨S19 cs a1 a2 (some (.ref (R.length + 4))) (some (.d (.int (i : Nat)))) t6 t7 t8, _, _, rfl, ?_, told ++ [xs], E ++ [.lst (xs.map .int)], some (.d (.int (i : Nat))), some (.ref (Rb.length + 4)), u7, u8, rfl, hk3, by simp [htl], fun r hr => ?_⟩
      · rw [out19_is, sqn b0, sqn b1]
        simp [hb, hkd, ha]
      · rcases List.mem_append.mp hr with hr | hr
        · exact htr r hr
        · rw [List.mem_singleton.mp hr]; exact hxl)
  rw [List.length_map, rI_len] at htl
  have s1 : evS Gc C (.forr (.nm 5) (.rg1 (.call 10 (.cons (.var 0) (.cons (.con (.int 8)) (.cons (.con (.int 4)) .nil))))) out19) (S19 cs a1 a2 (some (.ref (R.length + 4))) none none none none) (M ++ [.lst []]) = .ok (.nx (S19 cs a1 a2 (some (.ref (R.length + 4))) t5 t6 t7 t8)) M' := by
    rw [x_forr, ← e]
    generalize out19 = OU at *
    have g1' : callAt Gc tx.T (m + 2) 10 [.ref 3, .d (.int 8), .d (.int 4)] (M ++ [Ob.lst []]) = .ok (.d (.int (n : Nat))) M1 := g1
    simp [C, g1', hr, rngD_rI]
  obtain ⟨r, M2, g2, h2, r0, r1⟩ := t10 (m + 1) hsk2 (pl := 12) (many := 3) (by decide) (by decide) (by decide) (by decide)
  have g4 : M2[R.length + 4]? = some (.lst (told.map iT)) := by
    rw [h2.get]
    simp
  have hrd : rdV M2 (.ref (R.length + 4)) = some (.list (told.map iT)) := x_rdr g4
  have hrs : rdS M2 (.ref (R.length + 4)) = some (.list (told.map iT)) := by simp [rdS, g4]
  have htk : ∀ M2, Sk s (R ++ (.lst (told.map iT) :: E)) M2 → Sk s R (M2.take M.length) := fun M2 h => by rw [hml]; exact h.take
  by_cases hr0 : r = 0
  · refine ⟨told ++ told.take 1, M2.take M.length, ?_, htk M2 h2, by rw [List.length_append, List.length_take]; omega, fun x hx => ?_⟩
    · rw [run_rt (fn := f19) (σ0 := [some (.ref 3), a1, a2, some (.d (.list (cs.map .int))), none, none, none, none, none]) (v := .d (.tuple ((told ++ told.take 1).map iT))) (M1 := M2) rfl rfl ?_]
      · rfl
      show evSs Gc C b19 _ M = _
      rw [b19_is, sqn s0, sqn s1]
      have hc : cutL (told.map iT) none (some 1) = (told.take 1).map iT := by
        have := cutL_take (told.map iT) 1
        rw [← List.map_take] at this
        exact this
      have hl1 : told.length + min 1 told.length ≤ lim := by unfold lim; omega
      subst hr0
      simp [nthS, b19, C, g2, hrd, hrs, hc, hl1]
    · rcases List.mem_append.mp hx with hx | hx
      · exact htr x hx
      · exact htr x (List.mem_of_mem_take hx)
  · refine ⟨told, M2.take M.length, ?_, htk M2 h2, by omega, htr⟩
    rw [run_rt (fn := f19) (σ0 := [some (.ref 3), a1, a2, some (.d (.list (cs.map .int))), none, none, none, none, none]) (v := .d (.tuple (told.map iT))) (M1 := M2) rfl rfl ?_]
    · rfl
    show evSs Gc C b19 _ M = _
    rw [b19_is, sqn s0, sqn s1]
    have hc : cutL (told.map iT) none (some 0) = [] := cutL_take (told.map iT) 0
    have hl1 : told.length ≤ lim := by unfold lim; omega
    simp [nthS, b19, C, g2, hrd, hrs, hc, hl1, hr0]
end Mp.k09
end
section
set_option maxHeartbeats 4000000
namespace Mp.k09
open PySem PySem.Spec PyProof.Rows L2 Mp

theorem row_app {P : D → List D → Prop} : ∀ {xs l : List D} {x : D} {l' : List D}, row P xs l → P x l' → row P (xs ++ [x]) (l ++ l')
  | [], l, x, l', h, hx => by
    obtain rfl : l = [] := h
    exact ⟨l', [], hx, rfl, by simp⟩
  | y :: xs, l, x, l', h, hx => by
    obtain ⟨l1, l2, h1, h2, rfl⟩ := h
    exact ⟨l1, l2 ++ l', h1, row_app h2 hx, by rw [List.append_assoc]⟩
/-! ### items -/
def itD (w : Int) (t f : D) : D :=
  if w = 1 then .tuple [.str ("when" : Str), .tuple [.tuple [.str ("=" : Str), f, t]], .tuple [], .tuple [.tuple [.str ("say" : Str), .str ("yes" : Str)]]]
  else if w = 2 then .tuple [.str ("when" : Str), .tuple [.tuple [.str ("!" : Str), t, t], .tuple [.str ("=" : Str), f, f]], .tuple [.tuple [.str ("show" : Str), f]], .tuple [.tuple [.str ("show" : Str), t]]]
  else if w = 3 then .tuple [.str ("when" : Str), .tuple [], .tuple [.tuple [.str ("when" : Str), .tuple [.tuple [.str ("=" : Str), t, f]], .tuple [.tuple [.str ("say" : Str), .str ("in" : Str)]], .tuple []]], .tuple []]
  else .tuple [.str ("show" : Str), t]
theorem it_ok {w : Int} (h0 : 0 ≤ w) (h1 : w < 4) (c : Int) (f : Int × Int) : ∃ ts : List Tm, TI 2 (itD w (tmD (.inl c)) (fD f)) (ts.map tmD) ∧ ts.length ≤ 6 ∧ ∀ x, x ∈ cons ts ↔ x = c := by
  have say : ∀ (a : D), TI 1 (.tuple [.str ("say" : Str), a]) [] := fun a => .inr (.inl ⟨a, rfl, rfl⟩)
  have say0 : ∀ (a : D), TI 0 (.tuple [.str ("say" : Str), a]) [] := fun a => .inr (.inl ⟨a, rfl, rfl⟩)
  have show1 : ∀ (a : D), TI 1 (.tuple [.str ("show" : Str), a]) [a] := fun a => .inl ⟨a, rfl, rfl⟩
  have one : ∀ {n : Nat} {x : D} {l : List D}, TI n x l → row (TI n) [x] l := fun h => ⟨_, [], h, rfl, by simp⟩
  have : w = 0 ∨ w = 1 ∨ w = 2 ∨ w = 3 := by omega
  rcases this with rfl | rfl | rfl | rfl
  · exact ⟨[.inl c], .inl ⟨_, rfl, rfl⟩, by simp, fun x => by simp [cons]⟩
  · refine ⟨[.inr f, .inl c], .inr (.inr (.inr ⟨[(.str ("=" : Str), fD f, tmD (.inl c))], [], [.tuple [.str ("say" : Str), .str ("yes" : Str)]], [], [], rfl, rfl, one (say _), rfl⟩)), by simp, fun x => by simp [cons]⟩
  · refine ⟨[.inl c, .inl c, .inr f, .inr f, .inr f, .inl c], .inr (.inr (.inr ⟨[(.str ("!" : Str), tmD (.inl c), tmD (.inl c)), (.str ("=" : Str), fD f, fD f)], [.tuple [.str ("show" : Str), fD f]], [.tuple [.str ("show" : Str), tmD (.inl c)]], [fD f], [tmD (.inl c)], rfl, one (show1 _), one (show1 _), rfl⟩)), by simp, fun x => by simp [cons]⟩
  · refine ⟨[.inl c, .inr f], .inr (.inr (.inr ⟨[], [.tuple [.str ("when" : Str), .tuple [.tuple [.str ("=" : Str), tmD (.inl c), fD f]], .tuple [.tuple [.str ("say" : Str), .str ("in" : Str)]], .tuple []]], [], [tmD (.inl c), fD f], [], rfl, one (.inr (.inr (.inr ⟨[(.str ("=" : Str), tmD (.inl c), fD f)], [.tuple [.str ("say" : Str), .str ("in" : Str)]], [], [], [], rfl, one (say0 _), rfl, rfl⟩))), rfl, rfl⟩)), by simp, fun x => by simp [cons]⟩
theorem cons_app (a b : List Tm) : cons (a ++ b) = cons a ++ cons b := by simp [cons]
/-! ### the program that is drawn -/
def in14 : MSs := bodyOf (nthS b14 2)
def a14 (i : Nat) : MS := nthS in14 i
theorem in14_is : in14 = .cons (a14 0) (.cons (a14 1) (.cons (a14 2) (.cons (a14 3) (.cons (a14 4) (.cons (a14 5) (.cons (a14 6) (.cons (a14 7) .nil))))))) := rfl
theorem b14_is : b14 = .cons (nthS b14 0) (.cons (nthS b14 1) (.cons (.forr (.nm 5) (.rg1 (.bi .len (.cons (.var 2) .nil))) in14) (.cons (nthS b14 3) (.cons (nthS b14 4) (.cons (nthS b14 5) .nil))))) := rfl
section
variable {m : Nat} {s : List D} {cs : List Int} {fl : List (Int × Int)} {a1 : Option Val} {R M : Mem}
abbrev S14 (cs : List Int) (fl : List (Int × Int)) (n : Nat) (a1 a5 a6 a7 a10 a11 : Option Val) : Env := [some (.ref 3), a1, some (.d (.list (cs.map .int))), some (.d (.list (fl.map fD))), some (.ref (n + 6)), a5, a6, a7, none, none, a10, a11]
def R14 (R : Mem) (o1 o2 : List D) : Mem := R ++ [.lst o1, .lst o2, .box [.ref (R.length + 4), .ref (R.length + 5)]]
theorem R14_0 {o1 o2 : List D} (h : Sk s (R14 R o1 o2) M) : M[R.length + 4]? = some (.lst o1) := by rw [h.get]; simp [R14]
theorem R14_1 {o1 o2 : List D} (h : Sk s (R14 R o1 o2) M) : M[R.length + 5]? = some (.lst o2) := by
  have := h.get (R.length + 1)
  rw [show R.length + 1 + 4 = R.length + 5 by omega] at this
  rw [this]
  unfold R14
  rw [List.getElem?_append_right (by omega), show R.length + 1 - R.length = 1 by omega]
  rfl
theorem R14_2 {o1 o2 : List D} (h : Sk s (R14 R o1 o2) M) : M[R.length + 6]? = some (.box [.ref (R.length + 4), .ref (R.length + 5)]) := by
  have := h.get (R.length + 2)
  rw [show R.length + 2 + 4 = R.length + 6 by omega] at this
  rw [this]
  unfold R14
  rw [List.getElem?_append_right (by omega), show R.length + 2 - R.length = 2 by omega]
  rfl
theorem R14_s0 {o1 o2 : List D} (h : Sk s (R14 R o1 o2) M) (o : List D) : Sk s (R14 R o o2) (M.set (R.length + 4) (.lst o)) := by
  have := h.set R.length (.lst o)
  have e : (R14 R o1 o2).set R.length (.lst o) = R14 R o o2 := by simp [R14]
  rw [e] at this
  exact this
theorem R14_s1 {o1 o2 : List D} (h : Sk s (R14 R o1 o2) M) (o : List D) : Sk s (R14 R o1 o) (M.set (R.length + 5) (.lst o)) := by
  have := h.set (R.length + 1) (.lst o)
  have e : (R14 R o1 o2).set (R.length + 1) (.lst o) = R14 R o1 o := by
    unfold R14
    rw [List.set_append_right _ _ (by omega), show R.length + 1 - R.length = 1 by omega]
    rfl
  rw [e] at this
  exact this
theorem step14 {o1 o2 : List D} {i : Nat} {a6 a7 a10 a11 : Option Val} (h : Sk s (R14 R o1 o2) M) (hi : i < cs.length) (hf : fl ≠ []) (hfl : fl.length ≤ 1000) (hl1 : o1.length < lim) (hl2 : o2.length < lim) :
    ∃ (w : Int) (f : Int × Int) (b : Bool) (u6 u7 u10 u11 : Option Val) (M' : Mem), 0 ≤ w ∧ w < 4 ∧ evSs Gc (callAt Gc tx.T (m + 2)) in14 (S14 cs fl R.length a1 (some (.d (.int (i : Nat)))) a6 a7 a10 a11) M =
    .ok (.nx (S14 cs fl R.length a1 (some (.d (.int (i : Nat)))) u6 u7 u10 u11)) M' ∧ Sk s (R14 R (if b then o1 ++ [itD w (tmD (.inl (cs.getD i 0))) (fD f)] else o1) (if b then o2 else o2 ++ [itD w (tmD (.inl (cs.getD i 0))) (fD f)])) M' := by
  have l1 : 1 ≤ lim := by unfold lim; omega
  have l2 : 2 ≤ lim := by unfold lim; omega
  have l3 : 3 ≤ lim := by unfold lim; omega
  have l4 : 4 ≤ lim := by unfold lim; omega
  have l0 : 0 ≤ lim := Nat.zero_le _
  have hfp : 0 < fl.length := List.length_pos_iff.mpr hf
  obtain ⟨r, M1, g1, h1, r0, r1⟩ := t10 (m + 1) h (pl := 4) (many := (fl.length : Nat)) (by decide) (by decide) (by omega) (by omega)
  obtain ⟨fd, hfd, hfm⟩ := atI_get (xs := fl.map fD) r0 (by rw [List.length_map]; exact r1)
  obtain ⟨f, _, rfl⟩ := List.mem_map.mp hfm
  have hci : L2.atI (cs.map PyData.int) (i : Int) = some (.int (cs.getD i 0)) := L2.atI_nat (by rw [List.getElem?_map, List.getD_eq_getElem?_getD, List.getElem?_eq_getElem hi]; rfl)
  have htm : tmD (.inl (cs.getD i 0)) = .tuple [.str ("c" : Str), .int (cs.getD i 0)] := rfl
  have s0 : evS Gc (callAt Gc tx.T (m + 2)) (a14 0) (S14 cs fl R.length a1 (some (.d (.int (i : Nat)))) a6 a7 a10 a11) M = .ok (.nx (S14 cs fl R.length a1 (some (.d (.int (i : Nat)))) a6 a7 (some (.d (tmD (.inl (cs.getD i 0))))) (some (.d (fD f))))) M1 := by
    rw [htm]
    generalize cs.getD i 0 = c at *
    simp [a14, in14, bodyOf, nthS, b14, hci, l2, g1, hfd]
  obtain ⟨w0, M2, g2, h2, w00, w01⟩ := t10 (m + 1) h1 (pl := 5) (many := 4) (by decide) (by decide) (by decide) (by decide)
  generalize tmD (.inl (cs.getD i 0)) = t at *
  generalize hfe : fD f = fd at *
  have s1 : evS Gc (callAt Gc tx.T (m + 2)) (a14 1) (S14 cs fl R.length a1 (some (.d (.int (i : Nat)))) a6 a7 (some (.d t)) (some (.d fd))) M1 = .ok (.nx (S14 cs fl R.length a1 (some (.d (.int (i : Nat)))) (some (.d (.int w0))) a7 (some (.d t)) (some (.d fd)))) M2 := by
    simp [a14, in14, bodyOf, nthS, b14, g2]
  have s2 : ∃ w : Int, 0 ≤ w ∧ w < 4 ∧ evS Gc (callAt Gc tx.T (m + 2)) (a14 2) (S14 cs fl R.length a1 (some (.d (.int (i : Nat)))) (some (.d (.int w0))) a7 (some (.d t)) (some (.d fd))) M2 = .ok (.nx (S14 cs fl R.length a1 (some (.d (.int (i : Nat)))) (some (.d (.int w))) a7 (some (.d t)) (some (.d fd)))) M2 := by
    by_cases hi2 : i < 2
    · have hi3 : (i : Int) < 2 := by omega
      exact ⟨w0, w00, w01, by simp [a14, in14, bodyOf, nthS, b14, hi2, hi3]⟩
    · have hi3 : ¬ (i : Int) < 2 := by omega
      by_cases hw2 : w0 < 2
      · exact ⟨w0, w00, w01, by simp [a14, in14, bodyOf, nthS, b14, hi2, hi3, hw2]⟩
      · exact ⟨0, by decide, by decide, by simp [a14, in14, bodyOf, nthS, b14, hi2, hi3, hw2]⟩
  obtain ⟨w, hw0, hw1, s2⟩ := s2
  have s3 : evS Gc (callAt Gc tx.T (m + 2)) (a14 3) (S14 cs fl R.length a1 (some (.d (.int (i : Nat)))) (some (.d (.int w))) a7 (some (.d t)) (some (.d fd))) M2 = .ok (.nx (S14 cs fl R.length a1 (some (.d (.int (i : Nat)))) (some (.d (.int w))) (some (.d (itD 0 t fd))) (some (.d t)) (some (.d fd)))) M2 := by
    simp [a14, in14, bodyOf, nthS, b14, l2, itD]
  have s4 : evS Gc (callAt Gc tx.T (m + 2)) (a14 4) (S14 cs fl R.length a1 (some (.d (.int (i : Nat)))) (some (.d (.int w))) (some (.d (itD 0 t fd))) (some (.d t)) (some (.d fd))) M2 = .ok (.nx (S14 cs fl R.length a1 (some (.d (.int (i : Nat)))) (some (.d (.int w))) (some (.d (if w = 1 then itD 1 t fd else itD 0 t fd))) (some (.d t)) (some (.d fd)))) M2 := by
    by_cases e : w = 1
    · subst e; simp [a14, in14, bodyOf, nthS, b14, l0, l1, l2, l3, l4, itD]
    · simp [a14, in14, bodyOf, nthS, b14, e]
  have s5 : evS Gc (callAt Gc tx.T (m + 2)) (a14 5) (S14 cs fl R.length a1 (some (.d (.int (i : Nat)))) (some (.d (.int w))) (some (.d (if w = 1 then itD 1 t fd else itD 0 t fd))) (some (.d t)) (some (.d fd))) M2 = .ok (.nx (S14 cs fl R.length a1 (some (.d (.int (i : Nat)))) (some (.d (.int w))) (some (.d (if w = 2 then itD 2 t fd else if w = 1 then itD 1 t fd else itD 0 t fd))) (some (.d t)) (some (.d fd)))) M2 := by
    by_cases e : w = 2
    · subst e; simp [a14, in14, bodyOf, nthS, b14, l0, l1, l2, l3, l4, itD]
    · simp [a14, in14, bodyOf, nthS, b14, e]
  have s6 : evS Gc (callAt Gc tx.T (m + 2)) (a14 6) (S14 cs fl R.length a1 (some (.d (.int (i : Nat)))) (some (.d (.int w))) (some (.d (if w = 2 then itD 2 t fd else if w = 1 then itD 1 t fd else itD 0 t fd))) (some (.d t)) (some (.d fd))) M2 = .ok (.nx (S14 cs fl R.length a1 (some (.d (.int (i : Nat)))) (some (.d (.int w))) (some (.d (itD w t fd))) (some (.d t)) (some (.d fd)))) M2 := by
    have : w = 0 ∨ w = 1 ∨ w = 2 ∨ w = 3 := by omega
    rcases this with rfl | rfl | rfl | rfl <;> simp [a14, in14, bodyOf, nthS, b14, l0, l1, l2, l3, l4, itD]
  obtain ⟨r2, M3, g3, h3, r20, r21⟩ := t10 (m + 1) h2 (pl := 6) (many := 2) (by decide) (by decide) (by decide) (by decide)
  have hbx := R14_2 h3
  have hx0 := R14_0 h3
  have hx1 := R14_1 h3
  generalize hit : itD w t fd = it at *
  have hr2 : r2 = 0 ∨ r2 = 1 := by omega
  rcases hr2 with rfl | rfl
  · have hix : idxV M3 (.ref (R.length + 6)) (.d (.int 0)) = some (.ref (R.length + 4)) := by rw [x_ixb hbx]; rfl
    have hk := x_kind (m := .append) (fun h => by cases h) (fun h => by cases h) hx0
    have ha := x_app (x := it) hx0
    rw [if_pos hl1] at ha
    refine ⟨w, f, true, some (.d (.int w)), some (.d it), some (.d t), some (.d fd), M3.set (R.length + 4) (.lst (o1 ++ [it])), hw0, hw1, ?_, ?_⟩
    · rw [in14_is, sqn s0, sqn s1, sqn s2, sqn s3, sqn s4, sqn s5, sqn s6]
      simp [a14, in14, bodyOf, nthS, b14, g3, hix, hk, ha]
    · show Sk s (R14 R (o1 ++ [itD w t (fD f)]) o2) _
      rw [hfe, hit]
      exact R14_s0 h3 _
  · have hix : idxV M3 (.ref (R.length + 6)) (.d (.int 1)) = some (.ref (R.length + 5)) := by rw [x_ixb hbx]; rfl
    have hk := x_kind (m := .append) (fun h => by cases h) (fun h => by cases h) hx1
    have ha := x_app (x := it) hx1
    rw [if_pos hl2] at ha
    refine ⟨w, f, false, some (.d (.int w)), some (.d it), some (.d t), some (.d fd), M3.set (R.length + 5) (.lst (o2 ++ [it])), hw0, hw1, ?_, ?_⟩
    · rw [in14_is, sqn s0, sqn s1, sqn s2, sqn s3, sqn s4, sqn s5, sqn s6]
      simp [a14, in14, bodyOf, nthS, b14, g3, hix, hk, ha]
    · show Sk s (R14 R o1 (o2 ++ [itD w t (fD f)])) _
      rw [hfe, hit]
      exact R14_s1 h3 _
end
theorem t14 (m : Nat) {s : List D} {R M : Mem} {hs : List (D × List D)} {cs : List Int} (h : Sk s R M) (hcs : cs.length ≤ 100) (hl : hs.length ≤ 10) (hf : ∀ z ∈ hs, z.2.length ≤ 100) (htot : 0 < tot hs) (htot2 : tot hs ≤ 1000) :
    ∃ (asks : List Ask) (M' : Mem), callAt Gc tx.T (m + 3) 14 [.ref 3, .d (.tuple (hsD hs)), .d (.list (cs.map .int))] M = .ok (.d (prD hs asks)) M' ∧ Sk s R M' ∧ asks.length = 2 ∧ (∀ a ∈ asks, a.ok 2) ∧ ∀ x, x ∈ allC asks ↔ x ∈ cs := by
  have hml := h.len
  have l0 : 0 ≤ lim := Nat.zero_le _
  have l1 : 1 ≤ lim := by unfold lim; omega
  have l2 : 2 ≤ lim := by unfold lim; omega
  rw [show m + 3 = (m + 2) + 1 by omega, call_is (f := f14) rfl]
  let C := callAt Gc tx.T (m + 2)
  let a1 : Option Val := some (.d (.tuple (hsD hs)))
  let a2 : Option Val := some (.d (.list (cs.map .int)))
  obtain ⟨fl, hfl, hfll⟩ := t15 (m + 1) M hl hf
  have s0 : evS Gc C (nthS b14 0) [some (.ref 3), a1, a2, none, none, none, none, none, none, none, none, none] M = .ok (.nx [some (.ref 3), a1, a2, some (.d (.list (fl.map fD))), none, none, none, none, none, none, none, none]) M := by
    simp [nthS, b14, C, a1, hfl]
  obtain ⟨r, M1, g1, h1, r0, r1⟩ := t10 (m + 1) h (pl := 3) (many := (fl.length : Nat)) (by decide) (by decide) (by omega) (by omega)
  obtain ⟨fd, hfd, hfm⟩ := atI_get (xs := fl.map fD) r0 (by rw [List.length_map]; exact r1)
  obtain ⟨f0, _, rfl⟩ := List.mem_map.mp hfm
  have hml1 := h1.len
  have hk : Sk s (R14 R [.tuple [.str ("show" : Str), fD f0]] [.tuple [.str ("say" : Str), .str ("no" : Str)]]) (M1 ++ [.lst [.tuple [.str ("show" : Str), fD f0]], .lst [.tuple [.str ("say" : Str), .str ("no" : Str)]], .box [.ref (R.length + 4), .ref (R.length + 5)]]) := by
    have := ((h1.app (.lst [.tuple [.str ("show" : Str), fD f0]])).app (.lst [.tuple [.str ("say" : Str), .str ("no" : Str)]])).app (.box [.ref (R.length + 4), .ref (R.length + 5)])
    simpa [R14] using this
  have s1 : evS Gc C (nthS b14 1) [some (.ref 3), a1, a2, some (.d (.list (fl.map fD))), none, none, none, none, none, none, none, none] M = .ok (.nx (S14 cs fl R.length a1 none none none none none)) (M1 ++ [.lst [.tuple [.str ("show" : Str), fD f0]], .lst [.tuple [.str ("say" : Str), .str ("no" : Str)]], .box [.ref (R.length + 4), .ref (R.length + 5)]]) := by
    generalize fD f0 = fd at *
    simp [nthS, b14, C, g1, hfd, l1, l2, hml1, a2]
  have row1 : row (TI 2) [.tuple [.str ("show" : Str), fD f0]] (([.inr f0] : List Tm).map tmD) := ⟨[fD f0], [], .inl ⟨_, rfl, rfl⟩, rfl, rfl⟩
  have row2 : row (TI 2) [.tuple [.str ("say" : Str), .str ("no" : Str)]] (([] : List Tm).map tmD) := ⟨[], [], .inr (.inl ⟨_, rfl, rfl⟩), rfl, rfl⟩
  have hr := rngOk_n (n := cs.length) (by unfold lim; omega)
  obtain ⟨σ', M2, e, o1, o2, ts1, ts2, t5, t6, t7, t10', t11', rfl, h2, q1, q2, q3, q4, q5⟩ := forL_go (tg := .nm 5) (b := evSs Gc C in14) (xs := (rI cs.length).map .int) (σ := S14 cs fl R.length a1 none none none none none) (M := M1 ++ [.lst [.tuple [.str ("show" : Str), fD f0]], .lst [.tuple [.str ("say" : Str), .str ("no" : Str)]], .box [.ref (R.length + 4), .ref (R.length + 5)]])
    (fun i σ M' => ∃ (o1 o2 : List D) (ts1 ts2 : List Tm) (t5 t6 t7 t10 t11 : Option Val), σ = S14 cs fl R.length a1 t5 t6 t7 t10 t11 ∧ Sk s (R14 R o1 o2) M' ∧ row (TI 2) o1 (ts1.map tmD) ∧ row (TI 2) o2 (ts2.map tmD) ∧
      (∀ x, x ∈ cons ts1 ∨ x ∈ cons ts2 ↔ x ∈ cs.take i) ∧ ts1.length + ts2.length ≤ 1 + 6 * i ∧ o1.length + o2.length ≤ 2 + i)
    ⟨_, _, [.inr f0], [], none, none, none, none, none, rfl, hk, row1, row2, fun x => by simp [cons], by simp, by simp⟩ (by
      rintro i x σ M' hx ⟨o1, o2, ts1, ts2, t5, t6, t7, t10', t11', rfl, hk, q1, q2, q3, q4, q5⟩
      obtain ⟨hi, rfl⟩ := rI_at hx
      obtain ⟨w, f, b, u6, u7, u10, u11, M3, w0, w1, e1, hk3⟩ := step14 (m := m) (cs := cs) (fl := fl) (a1 := a1) (i := i) (a6 := t6) (a7 := t7) (a10 := t10') (a11 := t11') hk hi (fun e => by rw [e] at hfll; simp at hfll; omega) (by omega) (by unfold lim; omega) (by unfold lim; omega)
      obtain ⟨ts, hti, htl, htc⟩ := it_ok w0 w1 (cs.getD i 0) f
      have hci : cs[i]? = some (cs.getD i 0) := by rw [List.getD_eq_getElem?_getD, List.getElem?_eq_getElem hi]; rfl
      have htk : ∀ x, x ∈ cs.take (i + 1) ↔ x ∈ cs.take i ∨ x = cs.getD i 0 := fun x => by
        rw [List.take_add_one, hci, List.mem_append]
        simp
      cases b with
      | true =>
        refine ⟨_, _, _, rfl, e1, _, _, ts1 ++ ts, ts2, some (.d (.int (i : Nat))), u6, u7, u10, u11, rfl, hk3, ?_, q2, fun x => ?_, by rw [List.length_append]; omega, ?_⟩
        · rw [List.map_append]
          exact row_app q1 hti
        · rw [cons_app, List.mem_append, htk, ← q3, htc]
          constructor
          · rintro ((h | h) | h) <;> simp [h]
          · rintro ((h | h) | h) <;> simp [h]
        · rw [if_pos rfl, if_pos rfl, List.length_append, List.length_singleton]
          omega
      | false =>
        refine ⟨_, _, _, rfl, e1, _, _, ts1, ts2 ++ ts, some (.d (.int (i : Nat))), u6, u7, u10, u11, rfl, hk3, q1, ?_, fun x => ?_, by rw [List.length_append]; omega, ?_⟩
        · rw [List.map_append]
          exact row_app q2 hti
        · rw [cons_app, List.mem_append, htk, ← q3, htc]
          constructor
          · rintro (h | h | h) <;> simp [h]
          · rintro ((h | h) | h) <;> simp [h]
        · rw [if_neg Bool.false_ne_true, if_neg Bool.false_ne_true, List.length_append, List.length_singleton]
          omega)
  rw [List.length_map, rI_len, List.take_length] at q3
  rw [List.length_map, rI_len] at q4 q5
  have s2 : evS Gc C (.forr (.nm 5) (.rg1 (.bi .len (.cons (.var 2) .nil))) in14) (S14 cs fl R.length a1 none none none none none) (M1 ++ [.lst [.tuple [.str ("show" : Str), fD f0]], .lst [.tuple [.str ("say" : Str), .str ("no" : Str)]], .box [.ref (R.length + 4), .ref (R.length + 5)]]) = .ok (.nx (S14 cs fl R.length a1 t5 t6 t7 t10' t11')) M2 := by
    rw [x_forr, ← e]
    generalize in14 = IN at *
    simp [hr, rngD_rI]
  have hbx := R14_2 h2
  have hx0 := R14_0 h2
  have hx1 := R14_1 h2
  have hix0 : idxV M2 (.ref (R.length + 6)) (.d (.int 0)) = some (.ref (R.length + 4)) := by rw [x_ixb hbx]; rfl
  have hix1 : idxV M2 (.ref (R.length + 6)) (.d (.int 1)) = some (.ref (R.length + 5)) := by rw [x_ixb hbx]; rfl
  have hb0 := x_btupr hx0
  have hb1 := x_btupr hx1
  have s3 : evS Gc C (nthS b14 3) (S14 cs fl R.length a1 t5 t6 t7 t10' t11') M2 = .ok (.nx [some (.ref 3), a1, a2, some (.d (.list (fl.map fD))), some (.ref (R.length + 6)), t5, t6, t7, some (.d (.tuple o1)), some (.d (.tuple o2)), t10', t11']) M2 := by
    simp [nthS, b14, hix0, hix1, hb0, hb1, a2]
  obtain ⟨r7, M3, g7, h3, _, _⟩ := t10 (m + 1) h2 (pl := 7) (many := 2) (by decide) (by decide) (by decide) (by decide)
  have htk : Sk s R (M3.take M.length) := by
    rw [hml]
    exact h3.take
  have hok2 : (⟨.str ("r" : Str), o2, ts2⟩ : Ask).ok 2 := ⟨q2, by show ts2.length ≤ 1000; omega⟩
  by_cases hc : r7 = 0 ∨ 4 < o1.length
  · refine ⟨[⟨.str ("q" : Str), o1, ts1⟩, ⟨.str ("r" : Str), o2, ts2⟩], M3.take M.length, ?_, htk, rfl, fun a ha => ?_, fun x => ?_⟩
    · have s4 : evS Gc C (nthS b14 4) [some (.ref 3), a1, a2, some (.d (.list (fl.map fD))), some (.ref (R.length + 6)), t5, t6, t7, some (.d (.tuple o1)), some (.d (.tuple o2)), t10', t11'] M2 = .ok (.rt (.d (prD hs [⟨.str ("q" : Str), o1, ts1⟩, ⟨.str ("r" : Str), o2, ts2⟩]))) M3 := by
        by_cases h7 : r7 = 0
        · subst h7
          simp [nthS, b14, C, g7, l2, a1, prD, hsD, Ask.D]
        · have h4 := hc.resolve_left h7
          have h4' : (4 : Int) < (o1.length : Int) := by omega
          simp [nthS, b14, C, g7, h7, h4, h4', l2, a1, prD, hsD, Ask.D]
      rw [run_rt (fn := f14) (σ0 := [some (.ref 3), a1, a2, none, none, none, none, none, none, none, none, none]) (v := .d (prD hs [⟨.str ("q" : Str), o1, ts1⟩, ⟨.str ("r" : Str), o2, ts2⟩])) (M1 := M3) rfl rfl ?_]
      · rfl
      show evSs Gc C b14 _ M = _
      rw [b14_is, sqn s0, sqn s1, sqn s2, sqn s3, sqr s4]
    · simp only [List.mem_cons, List.not_mem_nil, or_false] at ha
      rcases ha with rfl | rfl
      · exact ⟨q1, by show ts1.length ≤ 1000; omega⟩
      · exact hok2
    · rw [← q3]
      simp [allC]
  · have h7 : ¬ r7 = 0 := fun e => hc (.inl e)
    have h4 : ¬ 4 < o1.length := fun e => hc (.inr e)
    have ho : o1.length + 1 ≤ lim := by unfold lim; omega
    refine ⟨[⟨.str ("q" : Str), o1 ++ [.tuple [.str ("call" : Str), .int 1]], ts1⟩, ⟨.str ("r" : Str), o2, ts2⟩], M3.take M.length, ?_, htk, rfl, fun a ha => ?_, fun x => ?_⟩
    · have s4 : evS Gc C (nthS b14 4) [some (.ref 3), a1, a2, some (.d (.list (fl.map fD))), some (.ref (R.length + 6)), t5, t6, t7, some (.d (.tuple o1)), some (.d (.tuple o2)), t10', t11'] M2 = .ok (.nx [some (.ref 3), a1, a2, some (.d (.list (fl.map fD))), some (.ref (R.length + 6)), t5, t6, t7, some (.d (.tuple o1)), some (.d (.tuple o2)), t10', t11']) M3 := by
        have h4' : ¬ (4 : Int) < (o1.length : Int) := by omega
        simp [nthS, b14, C, g7, h7, h4, h4']
      have s5 : evS Gc C (nthS b14 5) [some (.ref 3), a1, a2, some (.d (.list (fl.map fD))), some (.ref (R.length + 6)), t5, t6, t7, some (.d (.tuple o1)), some (.d (.tuple o2)), t10', t11'] M3 = .ok (.rt (.d (prD hs [⟨.str ("q" : Str), o1 ++ [.tuple [.str ("call" : Str), .int 1]], ts1⟩, ⟨.str ("r" : Str), o2, ts2⟩]))) M3 := by
        simp [nthS, b14, l1, l2, ho, a1, prD, hsD, Ask.D]
      rw [run_rt (fn := f14) (σ0 := [some (.ref 3), a1, a2, none, none, none, none, none, none, none, none, none]) (v := .d (prD hs [⟨.str ("q" : Str), o1 ++ [.tuple [.str ("call" : Str), .int 1]], ts1⟩, ⟨.str ("r" : Str), o2, ts2⟩])) (M1 := M3) rfl rfl ?_]
      · rfl
      show evSs Gc C b14 _ M = _
      rw [b14_is, sqn s0, sqn s1, sqn s2, sqn s3, sqn s4, sqr s5]
    · simp only [List.mem_cons, List.not_mem_nil, or_false] at ha
      rcases ha with rfl | rfl
      · refine ⟨?_, by show ts1.length ≤ 1000; omega⟩
        have := row_app (l' := []) q1 (show TI 2 (.tuple [.str ("call" : Str), .int 1]) [] from .inr (.inr (.inl ⟨_, rfl, rfl⟩)))
        rw [List.append_nil] at this
        exact this
      · exact hok2
    · rw [← q3]
      simp [allC]
end Mp.k09
end
section
set_option maxHeartbeats 4000000
namespace Mp.k09
open PySem PySem.Spec PyProof.Rows L2 Mp

theorem mk_ok : ∀ sz ∈ szs, 1 ≤ (mkH sz).length ∧ (mkH sz).length ≤ 3 ∧ (∀ z ∈ mkH sz, z.2.length ≤ 3) ∧ 1 ≤ tot (mkH sz) ∧ tot (mkH sz) ≤ 4 ∧ ∀ h ∈ List.range (mkH sz).length, many (mkH sz) h ≤ 3 := by decide +kernel
theorem flatMap_len {α β : Type} {f : α → List β} {B : Nat} : ∀ {xs : List α}, (∀ x ∈ xs, (f x).length ≤ B) → (xs.flatMap f).length ≤ xs.length * B
  | [], _ => by simp
  | x :: xs, h => by
    rw [List.flatMap_cons, List.length_append, List.length_cons, Nat.succ_mul]
    have h1 := h x List.mem_cons_self
    have h2 := flatMap_len fun y hy => h y (List.mem_cons_of_mem x hy)
    omega
theorem RW_len {kn fu : List Int} (hk : kn.length ≤ 50) : ∀ {i : Nat}, i ≤ 3 → (RW kn fu i).length ≤ 54 ^ i
  | 0, _ => Nat.le_refl _
  | i + 1, h => by
    have ih := RW_len hk (kn := kn) (fu := fu) (i := i) (by omega)
    have : (RW kn fu (i + 1)).length ≤ (RW kn fu i).length * 54 := flatMap_len fun z hz => by
      have hz2 := (RW_props hz).2
      unfold ex7
      rw [List.length_append, List.length_map, List.length_append, List.length_take, List.length_singleton]
      omega
    rw [Nat.pow_succ]
    have h2 := Nat.mul_le_mul_right 54 ih
    omega
theorem RW_big {kn fu : List Int} (hk : kn.length ≤ 50) {k : Nat} (hk3 : k ≤ 3) : ∀ i ≤ k, (RW kn fu i).length ≤ 1000000 := fun i hi => by
  have h1 := RW_len hk (kn := kn) (fu := fu) (i := i) (by omega)
  have h2 : 54 ^ i ≤ 54 ^ 3 := Nat.pow_le_pow_right (by decide) (by omega)
  have h3 : 54 ^ 3 ≤ 1000000 := by decide
  omega
/-! ### worlds, sorted -/
theorem alikeAll_iT : ∀ ps qs : List (List Int), PySem.W.alikeAll (ps.map iT) (qs.map iT) = true
  | [], _ => by simp [PySem.W.alikeAll]
  | _ :: _, [] => by simp [PySem.W.alikeAll]
  | p :: ps, q :: qs => by
    show PySem.W.alikeAll (iT p :: ps.map iT) (iT q :: qs.map iT) = true
    rw [PySem.W.alikeAll, alike_iT, alikeAll_iT ps qs]
    rfl
theorem depth_wD (w : List (List Int)) : (wD w).depth ≤ 2 := by
  show PyData.depthAll (w.map iT) + 1 ≤ 2
  have := depth_iTs w
  omega
theorem sort_w {ws : List (List (List Int))} (h : ∀ w ∈ ws, w ≠ []) (hl : ws.length ≤ lim) : ∃ zs, sortD (ws.map wD) = some zs ∧ zs.Perm (ws.map wD) := by
  have hb : sortB (ws.map wD) = true := by
    unfold sortB
    rw [Bool.and_eq_true, Bool.and_eq_true]
    refine ⟨⟨?_, ?_⟩, ?_⟩
    · refine List.all_eq_true.mpr fun x hx => List.all_eq_true.mpr fun y hy => ?_
      obtain ⟨p, _, rfl⟩ := List.mem_map.mp hx
      obtain ⟨q, _, rfl⟩ := List.mem_map.mp hy
      exact alikeAll_iT p q
    · rw [Bool.or_eq_true, Bool.or_eq_true, Bool.or_eq_true]
      refine .inl (.inl (.inl (List.all_eq_true.mpr fun x hx => ?_)))
      obtain ⟨p, hp, rfl⟩ := List.mem_map.mp hx
      cases p with
      | nil => exact absurd rfl (h _ hp)
      | cons a p => rfl
    · refine List.all_eq_true.mpr fun x hx => ?_
      obtain ⟨p, _, rfl⟩ := List.mem_map.mp hx
      have := depth_wD p
      exact decide_eq_true (by omega)
  have e : sortD (ws.map wD) = some ((ws.map wD).mergeSort (PySem.W.dataLe false fun x => x)) := by
    unfold sortD
    rw [hb, List.length_map, decide_eq_true hl]
    rfl
  exact ⟨_, e, sortD_mem e⟩
theorem spl_mem : ∀ {o : List (Nat × Nat)} {r : List Int} {pl : Nat} {w : List (List Int)} {l : List Int}, l ∈ spl o r pl w → l.length ≤ r.length ∨ l ∈ w
  | [], r, pl, w, l, h => .inr h
  | z :: o, r, pl, w, l, h => by
    have h' : l ∈ spl o r (pl + z.2) (w.set z.1 ((r.drop pl).take z.2)) := h
    rcases spl_mem h' with h1 | h1
    · exact .inl h1
    · rcases List.mem_or_eq_of_mem_set h1 with h2 | h2
      · exact .inr h2
      · refine .inl ?_
        rw [h2, List.length_take, List.length_drop]
        omega
theorem world_ok {hs : List (D × List D)} {h : Nat} {r : List Int} (h1 : hs.length ≤ 1000) (h2 : r.length ≤ 1000) : pn 2 (wD (world hs h r)) = true := by
  show (((world hs h r).map iT).all (pn 1) && decide (((world hs h r).map iT).length ≤ lim)) = true
  have hl : (world hs h r).length = hs.length := by unfold world; rw [spl_len, List.length_replicate]
  rw [List.length_map, hl, decide_eq_true (show hs.length ≤ lim by unfold lim; omega), Bool.and_true]
  refine List.all_eq_true.mpr fun x hx => ?_
  obtain ⟨l, hl2, rfl⟩ := List.mem_map.mp hx
  refine pn_iT ?_
  rcases spl_mem hl2 with h3 | h3
  · unfold lim; omega
  · rw [List.eq_of_mem_replicate h3]
    exact Nat.zero_le _
theorem worlds_ok {hs : List (D × List D)} {h : Nat} {kn : List Int} (h0 : 1 ≤ hs.length) (h1 : hs.length ≤ 1000) (hk : kn.length ≤ 50) (hm : many hs h ≤ 3) : ∃ zs, sortD ((worlds hs h kn).map wD) = some zs ∧ pn 3 (.tuple zs) = true := by
  have hlen : (worlds hs h kn).length ≤ 1000000 := by
    unfold worlds
    rw [List.length_map]
    exact RW_big hk hm _ (Nat.le_refl _)
  have hmem : ∀ w ∈ worlds hs h kn, ∃ r : List Int, r.length ≤ 1000 ∧ w = world hs h r := fun w hw => by
    obtain ⟨z, hz, rfl⟩ := List.mem_map.mp hw
    exact ⟨z.1, by rw [(RW_props hz).1]; omega, rfl⟩
  obtain ⟨zs, e, hp⟩ := sort_w (ws := worlds hs h kn) (fun w hw e => by
    obtain ⟨r, _, rfl⟩ := hmem w hw
    have hl : (world hs h r).length = hs.length := by unfold world; rw [spl_len, List.length_replicate]
    rw [e] at hl
    simp at hl
    omega) (by unfold lim; omega)
  refine ⟨zs, e, ?_⟩
  show (zs.all (pn 2) && decide (zs.length ≤ lim)) = true
  rw [hp.length_eq, List.length_map, decide_eq_true (show (worlds hs h kn).length ≤ lim by unfold lim; omega), Bool.and_true]
  refine List.all_eq_true.mpr fun x hx => ?_
  obtain ⟨w, hw, rfl⟩ := List.mem_map.mp (hp.mem_iff.mp hx)
  obtain ⟨r, hr, rfl⟩ := hmem w hw
  exact world_ok h1 hr
theorem knw_rev (cs : List Int) (rs : List (List Int)) : knw cs rs.reverse = knw cs rs := sdd_eq fun a => by
  simp
theorem knw_len {cs : List Int} {rs : List (List Int)} : (knw cs rs).length ≤ cs.length + rs.flatten.length := by
  have := dd_len (cs ++ rs.flatten)
  unfold knw
  rw [sI_len]
  rw [List.length_append] at this
  exact this
theorem flat_len {rs : List (List Int)} (h1 : rs.length ≤ 4) (h2 : ∀ r ∈ rs, r.length ≤ 3) : rs.flatten.length ≤ 12 := by
  have : ∀ rs : List (List Int), (∀ r ∈ rs, r.length ≤ 3) → rs.flatten.length ≤ 3 * rs.length := by
    intro rs
    induction rs with
    | nil => intro _; simp
    | cons r rs ih =>
      intro h
      rw [List.flatten_cons, List.length_append, List.length_cons]
      have h1 := h r List.mem_cons_self
      have h2 := ih fun x hx => h x (List.mem_cons_of_mem _ hx)
      omega
  have := this rs h2
  omega
/-! ### one asking -/
def c20 : ME := .and (.cmp .gt (.call 17 (.cons (.bi .len (.cons (.var 9) .nil)) (.cons (.bi .len (.cons (.var 10) .nil)) .nil))) (.var 1)) (.cmp .gt (.bi .len (.cons (.var 4) .nil)) (.con (.int 0)))
def w20 : MSs := bodyOf (nthS b20 5)
theorem w20_is : w20 = .cons (.set 4 (.slc (.var 4) (.som (.con (.int 1))) .non)) (.cons (nthS b20 4) .nil) := rfl
theorem b20_is : b20 = .cons (nthS b20 0) (.cons (nthS b20 1) (.cons (nthS b20 2) (.cons (nthS b20 3) (.cons (nthS b20 4) (.cons (.whil c20 w20) (.cons (nthS b20 6) (.cons (nthS b20 7) (.cons (nthS b20 8) (.cons (nthS b20 9) (.cons (nthS b20 10) .nil)))))))))) := rfl
section
variable {s : List D} {hs : List (D × List D)} {h : Nat} {cs : List Int} {p : D} {most : Int} {M : Mem} {t5 t6 : Option Val}
abbrev S20 (most : Int) (hs : List (D × List D)) (h : Nat) (cs : List Int) (p : D) (rs : List (List Int)) (t5 t6 : Option Val) : Env :=
  [some (.ref 3), some (.d (.int most)), some (.d (.tuple (hsD hs))), some (.d (.list (cs.map .int))), some (.d (.tuple (rs.map iT))), t5, t6, some (.d p), some (.d (.int (h : Nat))), some (.d (.list ((knw cs rs).map .int))), some (.d (.list ((fresh (knw cs rs) (many hs h)).map .int))), none]
abbrev C7 : CT := callAt Gc tx.T 7
theorem k20 {rs : List (List Int)} (hcs : cs.length ≤ 4) (hr1 : rs.length ≤ 4) (hr2 : ∀ r ∈ rs, r.length ≤ 3) : cs.length + rs.flatten.length ≤ 1000 ∧ (knw cs rs).length ≤ 50 := by
  have h1 := flat_len hr1 hr2
  have h2 := knw_len (cs := cs) (rs := rs)
  exact ⟨by omega, by omega⟩
theorem s20_4 {rs : List (List Int)} {x9 x10 : Option Val} (hcs : cs.length ≤ 4) (hr1 : rs.length ≤ 4) (hr2 : ∀ r ∈ rs, r.length ≤ 3) (hh : hs.length ≤ 3) (hm : many hs h ≤ 3) :
    evS Gc C7 (nthS b20 4) [some (.ref 3), some (.d (.int most)), some (.d (.tuple (hsD hs))), some (.d (.list (cs.map .int))), some (.d (.tuple (rs.map iT))), t5, t6, some (.d p), some (.d (.int (h : Nat))), x9, x10, none] M = .ok (.nx (S20 most hs h cs p rs t5 t6)) M := by
  have g := t16 6 (hs := hs) (h := h) (cs := cs) (rs := rs) M (k20 hcs hr1 hr2).1 (by omega) (by omega)
  simp [nthS, b20, C7, g, asgT]
theorem s20_c {rs : List (List Int)} (hcs : cs.length ≤ 4) (hr1 : rs.length ≤ 4) (hr2 : ∀ r ∈ rs, r.length ≤ 3) (hm : many hs h ≤ 3) :
    ∃ b : Bool, evE Gc C7 c20 (S20 most hs h cs p rs t5 t6) M = .ok (.d (.bool b)) M ∧ (b = true → rs ≠ []) := by
  have hfl := (fresh_props (knw cs rs) (many hs h)).1
  obtain ⟨v, hv⟩ := t17 6 (a := (knw cs rs).length) (b := (fresh (knw cs rs) (many hs h)).length) M (by have := (k20 hcs hr1 hr2).2; omega) (by omega)
  by_cases hc : most < v
  · refine ⟨decide (0 < rs.length), ?_, fun e => List.length_pos_iff.mp (of_decide_eq_true e)⟩
    simp [c20, C7, hv, hc]
  · exact ⟨false, by simp [c20, C7, hv, hc], fun e => by cases e⟩
theorem s20_5 (hcs : cs.length ≤ 4) (hh : hs.length ≤ 3) (hm : many hs h ≤ 3) {rs : List (List Int)} (hr1 : rs.length ≤ 4) (hr2 : ∀ r ∈ rs, r.length ≤ 3) :
    ∃ rs' : List (List Int), rs'.length ≤ 4 ∧ (∀ r ∈ rs', r.length ≤ 3) ∧ evS Gc C7 (.whil c20 w20) (S20 most hs h cs p rs t5 t6) M = .ok (.nx (S20 most hs h cs p rs' t5 t6)) M := by
  obtain ⟨σ', M', e, rs', rfl, rfl, h1, h2⟩ := whL_inv (c := evE Gc C7 c20) (b := evSs Gc C7 w20) (fun n σ M' => ∃ rs' : List (List Int), σ = S20 most hs h cs p rs' t5 t6 ∧ M' = M ∧ rs'.length = n ∧ rs'.length ≤ 4 ∧ ∀ r ∈ rs', r.length ≤ 3)
    (fun σ M' => ∃ rs' : List (List Int), σ = S20 most hs h cs p rs' t5 t6 ∧ M' = M ∧ rs'.length ≤ 4 ∧ ∀ r ∈ rs', r.length ≤ 3) (by
      rintro n σ M' ⟨rs', rfl, rfl, hn, h1, h2⟩
      obtain ⟨b, hb, hne⟩ := s20_c (p := p) (most := most) (M := M') (t5 := t5) (t6 := t6) (hs := hs) (h := h) hcs h1 h2 hm
      refine ⟨_, b, hb, rfl, ?_⟩
      cases b with
      | false => exact .inl ⟨rfl, rs', rfl, rfl, h1, h2⟩
      | true =>
        have hpos := List.length_pos_iff.mpr (hne rfl)
        have hd1 : (rs'.drop 1).length ≤ 4 := by rw [List.length_drop]; omega
        have hd2 : ∀ r ∈ rs'.drop 1, r.length ≤ 3 := fun r hr => h2 r (List.mem_of_mem_drop hr)
        refine .inr ⟨rfl, n - 1, S20 most hs h cs p (rs'.drop 1) t5 t6, M', by omega, ?_, rs'.drop 1, rfl, rfl, by rw [List.length_drop]; omega, hd1, hd2⟩
        have hc : cutL (rs'.map iT) (some 1) none = (rs'.drop 1).map iT := by
          have := cutL_drop (rs'.map iT) 1
          rw [← List.map_drop] at this
          exact this
        have e1 : evS Gc C7 (.set 4 (.slc (.var 4) (.som (.con (.int 1))) .non)) (S20 most hs h cs p rs' t5 t6) M' = .ok (.nx [some (.ref 3), some (.d (.int most)), some (.d (.tuple (hsD hs))), some (.d (.list (cs.map .int))), some (.d (.tuple ((rs'.drop 1).map iT))), t5, t6, some (.d p), some (.d (.int (h : Nat))), some (.d (.list ((knw cs rs').map .int))), some (.d (.list ((fresh (knw cs rs') (many hs h)).map .int))), none]) M' := by
          simp [hc]
        rw [w20_is, sqn e1, sqn (s20_4 hcs hd1 hd2 hh hm), x_snil])
    rs.length (S20 most hs h cs p rs t5 t6) M ⟨rs, rfl, rfl, rfl, hr1, hr2⟩ wfuel (by unfold wfuel; omega)
  exact ⟨rs', h1, h2, by rw [x_whil]; exact e⟩
end
end Mp.k09
end
section
set_option maxHeartbeats 4000000
namespace Mp.k09
open PySem PySem.Spec PyProof.Rows L2 Mp

theorem pn_pair {d : Nat} {x y : D} (hx : pn d x = true) (hy : pn d y = true) : pn (d + 1) (.tuple [x, y]) = true := by
  show (([x, y].all (pn d)) && decide (2 ≤ lim)) = true
  rw [decide_eq_true (show 2 ≤ lim by unfold lim; omega), Bool.and_true, List.all_cons, List.all_cons, hx, hy]
  rfl
theorem t20 {s : List D} {R M : Mem} {most : Int} (h0 : Sk s R M) : ∃ M', callAt Gc tx.T 8 20 [.ref 3, .d (.int most)] M = .ok (.d (.bool true)) M' ∧ Sk s R M' := by
  have hml := h0.len
  rw [show (8 : Nat) = 7 + 1 from rfl, call_is (f := f20) rfl]
  have l2 : 2 ≤ lim := by unfold lim; omega
  -- holders
  obtain ⟨sz, M1, g1, k1, hsz⟩ := t12 5 h0
  obtain ⟨q1, q2, q3, q4, q5, q6⟩ := mk_ok sz hsz
  generalize mkH sz = hs at *
  have s0 : evS Gc C7 (nthS b20 0) [some (.ref 3), some (.d (.int most)), none, none, none, none, none, none, none, none, none, none] M = .ok (.nx [some (.ref 3), some (.d (.int most)), some (.d (.tuple (hsD hs))), none, none, none, none, none, none, none, none, none]) M1 := by
    simp [nthS, b20, C7, g1]
  -- constants
  obtain ⟨n, M2, g2, k2, n0, n1⟩ := t10 6 k1 (pl := 13) (many := 5) (by decide) (by decide) (by decide) (by decide)
  obtain ⟨n, rfl⟩ : ∃ k : Nat, n = (k : Int) := ⟨n.toNat, by omega⟩
  have hr := rngOk_n (n := n) (by unfold lim; omega)
  obtain ⟨ys, M3, e3, k3, xs, hxs, hxl⟩ := lcL_inv (tg := .nm 11) (own := [11]) (f := evE Gc C7 (.tup (.cons (.call 13 (.cons (.var 0) .nil)) (.cons (.con (.bool true)) .nil)))) (σ := [some (.ref 3), some (.d (.int most)), some (.d (.tuple (hsD hs))), none, none, none, none, none, none, none, none, none])
    (fun i acc M => Sk s R M ∧ ∃ xs : List Int, acc = xs.map prI ∧ xs.length = i) (xs := (rI n).map .int) (n := 0) (acc := []) (M := M2) ⟨k2, [], rfl, rfl⟩ (by
      rintro i x acc M' hx ⟨hk, xs, rfl, hl⟩
      obtain ⟨r, M'', g, hk'⟩ := t13 5 hk
      refine ⟨_, prI r, M'', rfl, ?_, hk', xs ++ [r], by simp, by simp [hl]⟩
      simp [wipeE, C7, g, l2, prI])
  rw [List.nil_append] at hxs
  subst hxs
  rw [Nat.zero_add, List.length_map, rI_len] at hxl
  have hxlim : xs.length ≤ lim := by unfold lim; omega
  have hdc := x_dcpI hxlim
  have hdl := dd_len xs
  have hg := x_bsk (get_end M3 (.dK (dkI (dd xs)))) (by unfold lim; omega)
  have hml3 := k3.len
  have s1 : evS Gc C7 (nthS b20 1) [some (.ref 3), some (.d (.int most)), some (.d (.tuple (hsD hs))), none, none, none, none, none, none, none, none, none] M1 = .ok (.nx [some (.ref 3), some (.d (.int most)), some (.d (.tuple (hsD hs))), some (.d (.list ((sI (dd xs)).map .int))), none, none, none, none, none, none, none, none]) (M3 ++ [.dK (dkI (dd xs))]) := by
    have g2' : C7 10 [.ref 3, .d (.int 13), .d (.int 5)] M1 = .ok (.d (.int (n : Nat))) M2 := g2
    simp [nthS, b20, g2', hr, rngD_rI, evC] at e3 ⊢
    rw [e3]
    simp [hxlim, hdc, dAll_int, hg]
  have k4 := k3.app (Ob.dK (dkI (dd xs)))
  have hcsl : (sI (dd xs)).length ≤ 4 := by rw [sI_len]; omega
  have hidem := sdd_idem xs
  generalize hcs : sI (dd xs) = cs at *
  generalize M3 ++ [Ob.dK (dkI (dd xs))] = M4 at *
  -- the program, the holder
  obtain ⟨asks, M5, g5, k5, p1, p2, p3⟩ := t14 4 (hs := hs) (cs := cs) k4 (by omega) (by omega) (fun z hz => by have := q3 z hz; omega) (by omega) (by omega)
  have hP : Pr hs (prD hs asks) := ⟨_, rfl⟩
  have hC : ∀ M, callAt Gc tx.T 5 2 [.d (prD hs asks)] M = .ok (.d (iT cs)) M := fun M => by
    have := t2 2 0 (hs := hs) (asks := asks) M p2 (by omega)
    have e : sI (dd (allC asks)) = cs := by
      rw [sdd_eq p3, hidem]
    rw [e] at this
    exact this
  obtain ⟨h, M6, g6, k6, hh0, hh1⟩ := t10 6 k5 (pl := 14) (many := (hs.length : Nat)) (by decide) (by decide) (by omega) (by omega)
  obtain ⟨h, rfl⟩ : ∃ k : Nat, h = (k : Int) := ⟨h.toNat, by omega⟩
  have hhl : (hsD hs).length = hs.length := List.length_map _
  have hlt : h < hs.length := by omega
  have s2 : evS Gc C7 (nthS b20 2) [some (.ref 3), some (.d (.int most)), some (.d (.tuple (hsD hs))), some (.d (.list (cs.map .int))), none, none, none, none, none, none, none, none] M4 = .ok (.nx [some (.ref 3), some (.d (.int most)), some (.d (.tuple (hsD hs))), some (.d (.list (cs.map .int))), none, none, none, some (.d (prD hs asks)), some (.d (.int (h : Nat))), none, none, none]) M6 := by
    have g5' : C7 14 [.ref 3, .d (.tuple (hsD hs)), .d (.list (cs.map .int))] M4 = .ok (.d (prD hs asks)) M5 := g5
    have g6' : C7 10 [.ref 3, .d (.int 14), .d (.int (hs.length : Nat))] M5 = .ok (.d (.int (h : Nat))) M6 := g6
    simp [nthS, b20, g5', hhl, g6']
  -- records
  obtain ⟨rs, M7, g7, k7, r1, r2⟩ := t19 4 (hs := hs) (h := h) (cs := cs) k6 (by omega) hlt (fun z hz => by have := q3 z hz; omega)
  have r2' : ∀ r ∈ rs, r.length ≤ 3 := fun r hr => by rw [r2 r hr]; exact q3 _ (List.getElem_mem hlt)
  have s3 : evS Gc C7 (nthS b20 3) [some (.ref 3), some (.d (.int most)), some (.d (.tuple (hsD hs))), some (.d (.list (cs.map .int))), none, none, none, some (.d (prD hs asks)), some (.d (.int (h : Nat))), none, none, none] M6 = .ok (.nx [some (.ref 3), some (.d (.int most)), some (.d (.tuple (hsD hs))), some (.d (.list (cs.map .int))), some (.d (.tuple (rs.map iT))), none, none, some (.d (prD hs asks)), some (.d (.int (h : Nat))), none, none, none]) M7 := by
    have g7' : C7 19 [.ref 3, .d (.tuple (hsD hs)), .d (.int (h : Nat)), .d (.list (cs.map .int))] M6 = .ok (.d (.tuple (rs.map iT))) M7 := g7
    simp [nthS, b20, g7']
  have hmn := q6 h (List.mem_range.mpr hlt)
  have s4 := s20_4 (p := prD hs asks) (most := most) (M := M7) (t5 := none) (t6 := none) (x9 := none) (x10 := none) (hs := hs) (h := h) hcsl r1 r2' q2 hmn
  obtain ⟨rs', v1, v2, s5⟩ := s20_5 (p := prD hs asks) (most := most) (M := M7) (t5 := none) (t6 := none) (hs := hs) (h := h) hcsl q2 hmn r1 r2'
  obtain ⟨w1, w2⟩ := k20 hcsl v1 v2
  have v1r : rs'.reverse.length ≤ 4 := by rw [List.length_reverse]; exact v1
  have v2r : ∀ r ∈ rs'.reverse, r.length ≤ 3 := fun r hr => v2 r (List.mem_reverse.mp hr)
  have w1r := (k20 hcsl v1r v2r).1
  -- trial integers
  have i1 := t6 5 (hs := hs) (p := prD hs asks) (cs := cs) (rs := rs') (h := h) M7 hP hC w1 (by omega) (by omega) (by decide)
  have i2 := t6 5 (hs := hs) (p := prD hs asks) (cs := cs) (rs := rs'.reverse) (h := h) M7 hP hC w1r (by omega) (by omega) (by decide)
  rw [knw_rev] at i2
  have hfl := (fresh_props (knw cs rs') (many hs h)).1
  obtain ⟨zs, z1, z2⟩ := worlds_ok (hs := hs) (h := h) (kn := knw cs rs') q1 (by omega) w2 hmn
  have hB := RW_big (kn := knw cs rs') (fu := fresh (knw cs rs') (many hs h)) w2 hmn
  have i3 := t8 5 (hs := hs) (p := prD hs asks) (cs := cs) (rs := rs') (h := h) (zs := zs) M7 hP hC w1 (by omega) (by omega) (by decide) hB z1
  have i4 := t18 6 (hs := hs) (h := h) (kn := knw cs rs') (zs := zs) M7 (by omega) (by omega) (by omega) hB z1
  obtain ⟨v, hv⟩ := t17 6 (a := (knw cs rs').length) (b := (fresh (knw cs rs') (many hs h)).length) M7 (by omega) (by omega)
  have same3 := same 3 3 (.tuple zs) M7 z2
  have e5 : S20 most hs h cs (prD hs asks) rs' none none = [some (.ref 3), some (.d (.int most)), some (.d (.tuple (hsD hs))), some (.d (.list (cs.map .int))), some (.d (.tuple (rs'.map iT))), none, none, some (.d (prD hs asks)), some (.d (.int (h : Nat))), some (.d (.list ((knw cs rs').map .int))), some (.d (.list ((fresh (knw cs rs') (many hs h)).map .int))), none] := rfl
  rw [e5] at s5
  have hrev : (rs'.map iT).reverse = rs'.reverse.map iT := List.map_reverse.symm
  generalize prD hs asks = p at *
  generalize knw cs rs' = kn at *
  generalize fresh kn (many hs h) = fs at *
  have hkl : kn.length + fs.length ≤ lim := by unfold lim; omega
  have hso := sortD_int (xs := kn ++ fs) (by rw [List.length_append]; exact hkl)
  rw [List.map_append] at hso
  have hin : pn 2 (.tuple [iT (sI (kn ++ fs)), iT (sI (kn ++ fs))]) = true := by
    have : pn 1 (iT (sI (kn ++ fs))) = true := pn_iT (by rw [sI_len, List.length_append]; exact hkl)
    exact pn_pair this this
  have same2 := same 2 4 _ M7 hin
  have s6 : evS Gc C7 (nthS b20 6) [some (.ref 3), some (.d (.int most)), some (.d (.tuple (hsD hs))), some (.d (.list (cs.map .int))), some (.d (.tuple (rs'.map iT))), none, none, some (.d p), some (.d (.int (h : Nat))), some (.d (.list (kn.map .int))), some (.d (.list (fs.map .int))), none] M7 = .ok (.nx [some (.ref 3), some (.d (.int most)), some (.d (.tuple (hsD hs))), some (.d (.list (cs.map .int))), some (.d (.tuple (rs'.map iT))), some (.d (iT (sI (kn ++ fs)))), none, some (.d p), some (.d (.int (h : Nat))), some (.d (.list (kn.map .int))), some (.d (.list (fs.map .int))), none]) M7 := by
    simp [nthS, b20, hkl, hso, iT]
  generalize iT (sI (kn ++ fs)) = it at *
  have i1' : C7 6 [.d p, .d (.int (h : Nat)), .d (.tuple (rs'.map iT))] M7 = .ok (.d it) M7 := i1
  have i2' : C7 6 [.d p, .d (.int (h : Nat)), .d (.tuple (rs'.reverse.map iT))] M7 = .ok (.d it) M7 := i2
  have i3' : C7 8 [.d p, .d (.int (h : Nat)), .d (.tuple (rs'.map iT))] M7 = .ok (.d (.tuple zs)) M7 := i3
  have i4' : C7 18 [.d (.tuple (hsD hs)), .d (.int (h : Nat)), .d (.list (kn.map .int)), .d (.list (fs.map .int))] M7 = .ok (.d (.tuple zs)) M7 := i4
  have hv' : C7 17 [.d (.int (kn.length : Nat)), .d (.int (fs.length : Nat))] M7 = .ok (.d (.int v)) M7 := hv
  have same2' : C7 11 [.d (.tuple [it, it]), .d (.tuple [it, it])] M7 = .ok (.d (.bool true)) M7 := same2
  have same3' : C7 11 [.d (.tuple zs), .d (.tuple zs)] M7 = .ok (.d (.bool true)) M7 := same3
  have s7 : evS Gc C7 (nthS b20 7) [some (.ref 3), some (.d (.int most)), some (.d (.tuple (hsD hs))), some (.d (.list (cs.map .int))), some (.d (.tuple (rs'.map iT))), some (.d it), none, some (.d p), some (.d (.int (h : Nat))), some (.d (.list (kn.map .int))), some (.d (.list (fs.map .int))), none] M7 = .ok (.nx [some (.ref 3), some (.d (.int most)), some (.d (.tuple (hsD hs))), some (.d (.list (cs.map .int))), some (.d (.tuple (rs'.map iT))), some (.d it), none, some (.d p), some (.d (.int (h : Nat))), some (.d (.list (kn.map .int))), some (.d (.list (fs.map .int))), none]) M7 := by
    simp only [List.map_reverse] at i2'
    simp [nthS, b20, permV, i1', i2', l2, same2']
  have htk : Sk s R (M7.take M.length) := by
    rw [hml]
    exact k7.take
  refine ⟨M7.take M.length, ?_, htk⟩
  have fin : evSs Gc C7 (.cons (nthS b20 8) (.cons (nthS b20 9) (.cons (nthS b20 10) .nil))) [some (.ref 3), some (.d (.int most)), some (.d (.tuple (hsD hs))), some (.d (.list (cs.map .int))), some (.d (.tuple (rs'.map iT))), some (.d it), none, some (.d p), some (.d (.int (h : Nat))), some (.d (.list (kn.map .int))), some (.d (.list (fs.map .int))), none] M7 = .ok (.rt (.d (.bool true))) M7 := by
    by_cases hc : most < v
    · simp [nthS, b20, hv', hc]
    · simp [nthS, b20, hv', hc, i4', i3', same3']
  rw [run_rt (fn := f20) (σ0 := [some (.ref 3), some (.d (.int most)), none, none, none, none, none, none, none, none, none, none]) (v := .d (.bool true)) (M1 := M7) rfl rfl ?_]
  · rfl
  show evSs Gc C7 b20 _ M = _
  rw [b20_is, sqn s0, sqn s1, sqn s2, sqn s3, sqn s4, sqn s5, sqn s6, sqn s7, fin]
end Mp.k09
end
section
set_option maxHeartbeats 4000000
namespace Mp.k09
open PySem PySem.Spec PyProof.Rows L2 Mp

theorem sI_of {xs ys : List Int} (p : xs.Perm ys) (h : ys.Pairwise fun a b => a ≤ b) : sI xs = ys := (sI_eq p).trans (sI_id h)
theorem sortD_id {ws : List (List (List Int))} (h : ∀ w ∈ ws, w ≠ []) (hl : ws.length ≤ lim) (hp : (ws.map wD).Pairwise fun a b => PySem.W.dataLe false (fun x => x) a b = true) : sortD (ws.map wD) = some (ws.map wD) := by
  obtain ⟨zs, e, _⟩ := sort_w h hl
  have e2 : sortD (ws.map wD) = some ((ws.map wD).mergeSort (PySem.W.dataLe false fun x => x)) := by
    unfold sortD at e ⊢
    split at e
    · rename_i hc
      rw [if_pos hc]
    · cases e
  rw [e2, List.mergeSort_of_pairwise hp]
/-! ### the two by hand -/
def hB : List (D × List D) := [(.str ("a" : Str), [.str ("x" : Str)]), (.str ("b" : Str), [.str ("y" : Str)]), (.str ("c" : Str), [.str ("z" : Str)])]
def aB : List Ask := [⟨.str ("q" : Str), [], []⟩]
def hL : List (D × List D) := [(.str ("a" : Str), [.str ("x" : Str), .str ("y" : Str)])]
def aL : List Ask := [⟨.str ("q" : Str), [.tuple [.str ("show" : Str), tmD (.inl 4)]], [.inl 4]⟩, ⟨.str ("r" : Str), [.tuple [.str ("say" : Str), .str ("no" : Str)]], []⟩, ⟨.str ("s" : Str), [.tuple [.str ("show" : Str), tmD (.inl (-4))], .tuple [.str ("show" : Str), tmD (.inl 4)]], [.inl (-4), .inl 4]⟩]
theorem aB_ok : ∀ a ∈ aB, a.ok 2 := by
  intro a ha
  rw [List.mem_singleton.mp ha]
  exact ⟨rfl, by decide⟩
theorem aL_ok : ∀ a ∈ aL, a.ok 2 := by
  intro a ha
  simp only [aL, List.mem_cons, List.not_mem_nil, or_false] at ha
  rcases ha with rfl | rfl | rfl
  · exact ⟨⟨[tmD (.inl 4)], [], .inl ⟨_, rfl, rfl⟩, rfl, rfl⟩, by decide⟩
  · exact ⟨⟨[], [], .inr (.inl ⟨_, rfl, rfl⟩), rfl, rfl⟩, by decide⟩
  · exact ⟨⟨[tmD (.inl (-4))], [tmD (.inl 4)], .inl ⟨_, rfl, rfl⟩, ⟨[tmD (.inl 4)], [], .inl ⟨_, rfl, rfl⟩, rfl, rfl⟩, rfl⟩, by decide⟩
theorem cB (M : Mem) : callAt Gc tx.T 6 2 [.d (prD hB aB)] M = .ok (.d (iT [])) M := by
  have := t2 2 1 (hs := hB) M aB_ok (by decide)
  rw [show sI (dd (allC aB)) = [] from sI_of (by decide) (by decide)] at this
  exact this
theorem cL (M : Mem) : callAt Gc tx.T 6 2 [.d (prD hL aL)] M = .ok (.d (iT [-4, 4])) M := by
  have := t2 2 1 (hs := hL) M aL_ok (by decide)
  rw [show sI (dd (allC aL)) = [-4, 4] from sI_of (by decide) (by decide)] at this
  exact this
theorem kB1 : knw [] [] = [] := sI_of (by decide) (by decide)
theorem kB2 : knw [] [[0]] = [0] := sI_of (by decide) (by decide)
theorem kL1 : knw [-4, 4] [[0, 9]] = [-4, 0, 4, 9] := sI_of (by decide) (by decide)
theorem kL2 : knw [-4, 4] [[0, 9], [4, 4]] = [-4, 0, 4, 9] := sI_of (by decide) (by decide)
theorem kL3 : knw [-4, 4] [] = [-4, 4] := sI_of (by decide) (by decide)
def wB1 : List (List (List Int)) := [[[0], [], [0]], [[0], [], [1]]]
def wB2 : List (List (List Int)) := [[[0], [0], []], [[0], [1], []], [[1], [0], []], [[1], [1], []], [[1], [2], []]]
def wL : List (List (List Int)) := [[[]]]
theorem wB1_is : worlds hB 1 [] = wB1 := by decide +kernel
theorem wB2_is : worlds hB 2 [0] = wB2 := by decide +kernel
theorem wL_is : worlds hL 0 [-4, 0, 4, 9] = wL := by decide +kernel
theorem sB1 : sortD (wB1.map wD) = some (wB1.map wD) := sortD_id (by decide) (by show 2 ≤ lim; unfold lim; omega) (by decide +kernel)
theorem sB2 : sortD (wB2.map wD) = some (wB2.map wD) := sortD_id (by decide) (by show 5 ≤ lim; unfold lim; omega) (by decide +kernel)
theorem sL : sortD (wL.map wD) = some (wL.map wD) := sortD_id (by decide) (by show 1 ≤ lim; unfold lim; omega) (by decide +kernel)
theorem x1 (M : Mem) : callAt Gc tx.T 8 6 [.d (prD hB aB), .d (.int 1), .d (.tuple [])] M = .ok (.d (iT [0, 1])) M := by
  have := t6 6 (hs := hB) (rs := []) (h := 1) M ⟨_, rfl⟩ cB (by decide) (by decide) (by decide +kernel) (by decide)
  rw [kB1, show sI ([] ++ fresh [] (many hB 1)) = [0, 1] from sI_of (by decide +kernel) (by decide)] at this
  exact this
theorem x2 (M : Mem) : callAt Gc tx.T 8 8 [.d (prD hB aB), .d (.int 1), .d (.tuple [])] M = .ok (.d (.tuple (wB1.map wD))) M := by
  refine t8 6 (hs := hB) (rs := []) (h := 1) M ⟨_, rfl⟩ cB (by decide) (by decide) (by decide +kernel) (by decide) ?_ ?_
  · rw [kB1]
    exact RW_big (by decide) (by decide +kernel)
  · rw [kB1, wB1_is]
    exact sB1
theorem x3 (M : Mem) : callAt Gc tx.T 8 8 [.d (prD hB aB), .d (.int 2), .d (.tuple [.tuple [.int 0]])] M = .ok (.d (.tuple (wB2.map wD))) M := by
  refine t8 6 (hs := hB) (rs := [[0]]) (h := 2) M ⟨_, rfl⟩ cB (by decide) (by decide) (by decide +kernel) (by decide) ?_ ?_
  · rw [kB2]
    exact RW_big (by decide) (by decide +kernel)
  · rw [kB2, wB2_is]
    exact sB2
theorem x4 (M : Mem) : callAt Gc tx.T 8 6 [.d (prD hL aL), .d (.int 0), .d (.tuple [.tuple [.int 0, .int 9]])] M = .ok (.d (iT [-4, 0, 4, 9])) M := by
  have := t6 6 (hs := hL) (rs := [[0, 9]]) (h := 0) M ⟨_, rfl⟩ cL (by decide) (by decide) (by decide +kernel) (by decide)
  rw [kL1, show sI ([-4, 0, 4, 9] ++ fresh [-4, 0, 4, 9] (many hL 0)) = [-4, 0, 4, 9] from sI_of (by decide +kernel) (by decide)] at this
  exact this
theorem x5 (M : Mem) : callAt Gc tx.T 8 8 [.d (prD hL aL), .d (.int 0), .d (.tuple [.tuple [.int 0, .int 9], .tuple [.int 4, .int 4]])] M = .ok (.d (.tuple (wL.map wD))) M := by
  refine t8 6 (hs := hL) (rs := [[0, 9], [4, 4]]) (h := 0) M ⟨_, rfl⟩ cL (by decide) (by decide) (by decide +kernel) (by decide) ?_ ?_
  · rw [kL2]
    exact RW_big (by decide) (by decide +kernel)
  · rw [kL2, wL_is]
    exact sL
theorem x6 (M : Mem) : callAt Gc tx.T 8 6 [.d (prD hL aL), .d (.int 0), .d (.tuple [])] M = .ok (.d (iT [-4, 4])) M := by
  have := t6 6 (hs := hL) (rs := []) (h := 0) M ⟨_, rfl⟩ cL (by decide) (by decide) (by decide +kernel) (by decide)
  rw [kL3, show sI ([-4, 4] ++ fresh [-4, 4] (many hL 0)) = [-4, 4] from sI_of (by decide +kernel) (by decide)] at this
  exact this
/-! ### the law -/
def in21 : MSs := bodyOf (nthS b21 2)
theorem b21_is : b21 = .cons (nthS b21 0) (.cons (nthS b21 1) (.cons (.forr (.nm 3) (.rg1 (.con (.int 4))) in21) (.cons (nthS b21 3) (.cons (nthS b21 4) (.cons (nthS b21 5) (.cons (nthS b21 6) (.cons (nthS b21 7) (.cons (nthS b21 8) (.cons (nthS b21 9) .nil))))))))) := rfl
abbrev C8 : CT := callAt Gc tx.T 8
abbrev S21 (g : Bool) (x3 x4 x5 x6 x7 : Option Val) : Env := [some (.ref 0), some (.ref 3), some (.d (.bool g)), x3, x4, x5, x6, x7]
def toB : D := .tuple [iT [0, 1], .tuple (wB1.map wD), .tuple (wB2.map wD)]
def toL : D := .tuple [iT [-4, 0, 4, 9], .tuple (wL.map wD), iT [-4, 4]]
theorem law_true (ns : List Int) (hn : ns.length ≤ 63) : ∃ M', callAt Gc tx.T 9 21 [.ref 0] [.scr (ns.map .int)] = .ok (.d (.bool true)) M' := by
  rw [show (9 : Nat) = 8 + 1 from rfl, call_is (f := f21) rfl]
  have l0 : 0 ≤ lim := Nat.zero_le _
  have l1 : 1 ≤ lim := by unfold lim; omega
  have l2 : 2 ≤ lim := by unfold lim; omega
  have l3 : 3 ≤ lim := by unfold lim; omega
  have l4 : 4 ≤ lim := by unfold lim; omega
  have l5 : 5 ≤ lim := by unfold lim; omega
  obtain ⟨M0, g0, k0⟩ := t9 7 hn
  have s0 : evS Gc C8 (nthS b21 0) [some (.ref 0), none, none, none, none, none, none, none] [.scr (ns.map .int)] = .ok (.nx [some (.ref 0), some (.ref 3), none, none, none, none, none, none]) M0 := by
    simp [nthS, b21, C8, g0]
  obtain ⟨r, M1, g1, k1, _, _⟩ := t10 7 k0 (pl := 15) (many := 13) (by decide) (by decide) (by decide) (by decide)
  have s1 : evS Gc C8 (nthS b21 1) [some (.ref 0), some (.ref 3), none, none, none, none, none, none] M0 = .ok (.nx (S21 (decide (r = 4)) none none none none none)) M1 := by
    simp [nthS, b21, C8, g1]
  generalize decide (r = 4) = g at *
  obtain ⟨σ', M2, e, x3', rfl, k2⟩ := forL_go (tg := .nm 3) (b := evSs Gc C8 in21) (xs := (rI 4).map .int) (σ := S21 g none none none none none) (M := M1)
    (fun i σ M' => ∃ x3 : Option Val, σ = S21 g x3 none none none none ∧ Sk (ns.map .int) [] M') ⟨none, rfl, k1⟩ (by
      rintro i x σ M' hx ⟨x3, rfl, hk⟩
      obtain ⟨hi, rfl⟩ := rI_at hx
      have ht : ∀ most : Int, ∃ M'', C8 20 [.ref 3, .d (.int most)] M' = .ok (.d (.bool true)) M'' ∧ Sk (ns.map .int) [] M'' := fun most => t20 hk
      have hb : in21 = .cons (nthS in21 0) .nil := rfl
      cases g with
      | false =>
        obtain ⟨M'', g2, k2⟩ := ht 300
        refine ⟨S21 false (some (.d (.int (i : Nat)))) none none none none, S21 false (some (.d (.int (i : Nat)))) none none none none, M'', rfl, ?_, _, rfl, k2⟩
        simp [in21, bodyOf, nthS, b21, g2]
      | true =>
        by_cases hi0 : i = 0
        · obtain ⟨M'', g2, k2⟩ := ht 3000
          refine ⟨S21 true (some (.d (.int (i : Nat)))) none none none none, S21 true (some (.d (.int (i : Nat)))) none none none none, M'', rfl, ?_, _, rfl, k2⟩
          subst hi0
          simp [in21, bodyOf, nthS, b21, g2]
        · obtain ⟨M'', g2, k2⟩ := ht 300
          refine ⟨S21 true (some (.d (.int (i : Nat)))) none none none none, S21 true (some (.d (.int (i : Nat)))) none none none none, M'', rfl, ?_, _, rfl, k2⟩
          have hi1 : ¬ (i : Int) = 0 := by omega
          simp [in21, bodyOf, nthS, b21, g2, hi0, hi1])
  have hr : rngOk 0 4 = true := by decide
  have hr2 : rngD 0 4 = (rI 4).map .int := rngD_rI 4
  have s2 : evS Gc C8 (.forr (.nm 3) (.rg1 (.con (.int 4))) in21) (S21 g none none none none none) M1 = .ok (.nx (S21 g x3' none none none none)) M2 := by
    rw [x_forr, ← e]
    generalize in21 = IN at *
    simp [hr, hr2]
  have s3 : evS Gc C8 (nthS b21 3) (S21 g x3' none none none none) M2 = .ok (.nx (S21 g x3' (some (.d (prD hB aB))) none none none)) M2 := by
    simp [nthS, b21, l0, l1, l2, l3, prD, hB, aB, Ask.D]
  have y1 := x1 M2
  have y2 := x2 M2
  have y3 := x3 M2
  have y4 := x4 M2
  have y5 := x5 M2
  have y6 := x6 M2
  have s4 : evS Gc C8 (nthS b21 4) (S21 g x3' (some (.d (prD hB aB))) none none none) M2 = .ok (.nx (S21 g x3' (some (.d (prD hB aB))) (some (.d toB)) none none)) M2 := by
    have y1' : C8 6 [.d (prD hB aB), .d (.int 1), .d (.tuple [])] M2 = _ := y1
    have y2' : C8 8 [.d (prD hB aB), .d (.int 1), .d (.tuple [])] M2 = _ := y2
    have y3' : C8 8 [.d (prD hB aB), .d (.int 2), .d (.tuple [.tuple [.int 0]])] M2 = _ := y3
    generalize prD hB aB = p at *
    unfold toB
    generalize iT [0, 1] = d1 at *
    generalize PyData.tuple (wB1.map wD) = d2 at *
    generalize PyData.tuple (wB2.map wD) = d3 at *
    simp [nthS, b21, l0, l1, l2, l3, y1', y2', y3']
  have s5 : evS Gc C8 (nthS b21 5) (S21 g x3' (some (.d (prD hB aB))) (some (.d toB)) none none) M2 = .ok (.nx (S21 g x3' (some (.d (prD hB aB))) (some (.d toB)) (some (.d toB)) none)) M2 := by
    generalize prD hB aB = p at *
    have ht : toB = .tuple [.tuple [.int 0, .int 1], .tuple [.tuple [.tuple [.int 0], .tuple [], .tuple [.int 0]], .tuple [.tuple [.int 0], .tuple [], .tuple [.int 1]]], .tuple [.tuple [.tuple [.int 0], .tuple [.int 0], .tuple []], .tuple [.tuple [.int 0], .tuple [.int 1], .tuple []], .tuple [.tuple [.int 1], .tuple [.int 0], .tuple []], .tuple [.tuple [.int 1], .tuple [.int 1], .tuple []], .tuple [.tuple [.int 1], .tuple [.int 2], .tuple []]]] := rfl
    conv => rhs; rw [show S21 g x3' (some (.d p)) (some (.d toB)) (some (.d toB)) none = [some (.ref 0), some (.ref 3), some (.d (.bool g)), x3', some (.d p), some (.d toB), some (.d toB), none] from rfl]
    generalize hT : toB = T at *
    rw [ht]
    simp [nthS, b21, l0, l1, l2, l3, l5]
  have q1 := same 4 3 toB M2 (by decide +kernel)
  have q2 := same 4 3 toL M2 (by decide +kernel)
  have q1' : C8 11 [.d toB, .d toB] M2 = .ok (.d (.bool true)) M2 := q1
  have q2' : C8 11 [.d toL, .d toL] M2 = .ok (.d (.bool true)) M2 := q2
  have s6 : evS Gc C8 (nthS b21 6) (S21 g x3' (some (.d (prD hB aB))) (some (.d toB)) (some (.d toB)) none) M2 = .ok (.nx (S21 g x3' (some (.d (prD hB aB))) (some (.d toB)) (some (.d toB)) none)) M2 := by
    generalize prD hB aB = p at *
    generalize toB = T at *
    simp [nthS, b21, q1']
  have s7 : evS Gc C8 (nthS b21 7) (S21 g x3' (some (.d (prD hB aB))) (some (.d toB)) (some (.d toB)) none) M2 = .ok (.nx (S21 g x3' (some (.d (prD hB aB))) (some (.d toB)) (some (.d toB)) (some (.d (prD hL aL))))) M2 := by
    generalize prD hB aB = p at *
    generalize toB = T at *
    simp [nthS, b21, l0, l1, l2, l3, prD, hL, aL, Ask.D, tmD]
  have s8 : evS Gc C8 (nthS b21 8) (S21 g x3' (some (.d (prD hB aB))) (some (.d toB)) (some (.d toB)) (some (.d (prD hL aL)))) M2 = .ok (.nx (S21 g x3' (some (.d (prD hB aB))) (some (.d toL)) (some (.d toB)) (some (.d (prD hL aL))))) M2 := by
    have y4' : C8 6 [.d (prD hL aL), .d (.int 0), .d (.tuple [.tuple [.int 0, .int 9]])] M2 = _ := y4
    have y5' : C8 8 [.d (prD hL aL), .d (.int 0), .d (.tuple [.tuple [.int 0, .int 9], .tuple [.int 4, .int 4]])] M2 = _ := y5
    have y6' : C8 6 [.d (prD hL aL), .d (.int 0), .d (.tuple [])] M2 = _ := y6
    generalize prD hB aB = p at *
    generalize prD hL aL = p2 at *
    generalize toB = T at *
    unfold toL
    generalize iT [-4, 0, 4, 9] = d1 at *
    generalize PyData.tuple (wL.map wD) = d2 at *
    generalize iT [-4, 4] = d3 at *
    simp [nthS, b21, l0, l1, l2, l3, permV, y4', y5', y6']
  have s9 : evS Gc C8 (nthS b21 9) (S21 g x3' (some (.d (prD hB aB))) (some (.d toL)) (some (.d toB)) (some (.d (prD hL aL)))) M2 = .ok (.rt (.d (.bool true))) M2 := by
    generalize prD hB aB = p at *
    generalize prD hL aL = p2 at *
    generalize toB = T at *
    have ht : toL = .tuple [.tuple [.int (-4), .int 0, .int 4, .int 9], .tuple [.tuple [.tuple []]], .tuple [.int (-4), .int 4]] := rfl
    have q3 : C8 11 [.d toL, .d (.tuple [.tuple [.int (-4), .int 0, .int 4, .int 9], .tuple [.tuple [.tuple []]], .tuple [.int (-4), .int 4]])] M2 = .ok (.d (.bool true)) M2 := q2'
    generalize toL = T2 at *
    simp [nthS, b21, l0, l1, l2, l3, l4, q3]
  rw [run_rt (fn := f21) (σ0 := [some (.ref 0), none, none, none, none, none, none, none]) (v := .d (.bool true)) (M1 := M2) rfl rfl ?_]
  · exact ⟨_, rfl⟩
  show evSs Gc C8 b21 _ _ = _
  rw [b21_is, sqn s0, sqn s1, sqn s2, sqn s3, sqn s4, sqn s5, sqn s6, sqn s7, sqn s8, sqr s9]
end Mp.k09
end
section
set_option maxHeartbeats 4000000
namespace Mp.k09
open PySem PySem.Spec PyProof.Rows L2 Mp
theorem bd0 : ∀ (kV doc pm : Value) (an : Option Addr) (cdv ct : Value) (us : List Value), us.length = d0.ps.length → bindArgs (PySem.W.fnOf d0.name d0.name (defArgs d0.st) (defBody d0.st) (defScope d0.st) .none kV doc pm an cdv ct) ⟨us, []⟩ = pure (d0.ps.zip us) :=
  fun _ _ _ _ _ _ us hl => match us, hl with | [_], _ => rfl
theorem bd1 : ∀ (kV doc pm : Value) (an : Option Addr) (cdv ct : Value) (us : List Value), us.length = d1.ps.length → bindArgs (PySem.W.fnOf d1.name d1.name (defArgs d1.st) (defBody d1.st) (defScope d1.st) .none kV doc pm an cdv ct) ⟨us, []⟩ = pure (d1.ps.zip us) :=
  fun _ _ _ _ _ _ us hl => match us, hl with | [_, _], _ => rfl
theorem bd2 : ∀ (kV doc pm : Value) (an : Option Addr) (cdv ct : Value) (us : List Value), us.length = d2.ps.length → bindArgs (PySem.W.fnOf d2.name d2.name (defArgs d2.st) (defBody d2.st) (defScope d2.st) .none kV doc pm an cdv ct) ⟨us, []⟩ = pure (d2.ps.zip us) :=
  fun _ _ _ _ _ _ us hl => match us, hl with | [_], _ => rfl
theorem bd3 : ∀ (kV doc pm : Value) (an : Option Addr) (cdv ct : Value) (us : List Value), us.length = d3.ps.length → bindArgs (PySem.W.fnOf d3.name d3.name (defArgs d3.st) (defBody d3.st) (defScope d3.st) .none kV doc pm an cdv ct) ⟨us, []⟩ = pure (d3.ps.zip us) :=
  fun _ _ _ _ _ _ us hl => match us, hl with | [_, _], _ => rfl
theorem bd4 : ∀ (kV doc pm : Value) (an : Option Addr) (cdv ct : Value) (us : List Value), us.length = d4.ps.length → bindArgs (PySem.W.fnOf d4.name d4.name (defArgs d4.st) (defBody d4.st) (defScope d4.st) .none kV doc pm an cdv ct) ⟨us, []⟩ = pure (d4.ps.zip us) :=
  fun _ _ _ _ _ _ us hl => match us, hl with | [_, _], _ => rfl
theorem bd5 : ∀ (kV doc pm : Value) (an : Option Addr) (cdv ct : Value) (us : List Value), us.length = d5.ps.length → bindArgs (PySem.W.fnOf d5.name d5.name (defArgs d5.st) (defBody d5.st) (defScope d5.st) .none kV doc pm an cdv ct) ⟨us, []⟩ = pure (d5.ps.zip us) :=
  fun _ _ _ _ _ _ us hl => match us, hl with | [_, _], _ => rfl
theorem bd6 : ∀ (kV doc pm : Value) (an : Option Addr) (cdv ct : Value) (us : List Value), us.length = d6.ps.length → bindArgs (PySem.W.fnOf d6.name d6.name (defArgs d6.st) (defBody d6.st) (defScope d6.st) .none kV doc pm an cdv ct) ⟨us, []⟩ = pure (d6.ps.zip us) :=
  fun _ _ _ _ _ _ us hl => match us, hl with | [_, _, _], _ => rfl
theorem bd7 : ∀ (kV doc pm : Value) (an : Option Addr) (cdv ct : Value) (us : List Value), us.length = d7.ps.length → bindArgs (PySem.W.fnOf d7.name d7.name (defArgs d7.st) (defBody d7.st) (defScope d7.st) .none kV doc pm an cdv ct) ⟨us, []⟩ = pure (d7.ps.zip us) :=
  fun _ _ _ _ _ _ us hl => match us, hl with | [_, _, _], _ => rfl
theorem bd8 : ∀ (kV doc pm : Value) (an : Option Addr) (cdv ct : Value) (us : List Value), us.length = d8.ps.length → bindArgs (PySem.W.fnOf d8.name d8.name (defArgs d8.st) (defBody d8.st) (defScope d8.st) .none kV doc pm an cdv ct) ⟨us, []⟩ = pure (d8.ps.zip us) :=
  fun _ _ _ _ _ _ us hl => match us, hl with | [_, _, _], _ => rfl
theorem bd9 : ∀ (kV doc pm : Value) (an : Option Addr) (cdv ct : Value) (us : List Value), us.length = d9.ps.length → bindArgs (PySem.W.fnOf d9.name d9.name (defArgs d9.st) (defBody d9.st) (defScope d9.st) .none kV doc pm an cdv ct) ⟨us, []⟩ = pure (d9.ps.zip us) :=
  fun _ _ _ _ _ _ us hl => match us, hl with | [_], _ => rfl
theorem bd10 : ∀ (kV doc pm : Value) (an : Option Addr) (cdv ct : Value) (us : List Value), us.length = d10.ps.length → bindArgs (PySem.W.fnOf d10.name d10.name (defArgs d10.st) (defBody d10.st) (defScope d10.st) .none kV doc pm an cdv ct) ⟨us, []⟩ = pure (d10.ps.zip us) :=
  fun _ _ _ _ _ _ us hl => match us, hl with | [_, _, _], _ => rfl
theorem bd11 : ∀ (kV doc pm : Value) (an : Option Addr) (cdv ct : Value) (us : List Value), us.length = d11.ps.length → bindArgs (PySem.W.fnOf d11.name d11.name (defArgs d11.st) (defBody d11.st) (defScope d11.st) .none kV doc pm an cdv ct) ⟨us, []⟩ = pure (d11.ps.zip us) :=
  fun _ _ _ _ _ _ us hl => match us, hl with | [_, _], _ => rfl
theorem bd12 : ∀ (kV doc pm : Value) (an : Option Addr) (cdv ct : Value) (us : List Value), us.length = d12.ps.length → bindArgs (PySem.W.fnOf d12.name d12.name (defArgs d12.st) (defBody d12.st) (defScope d12.st) .none kV doc pm an cdv ct) ⟨us, []⟩ = pure (d12.ps.zip us) :=
  fun _ _ _ _ _ _ us hl => match us, hl with | [_], _ => rfl
theorem bd13 : ∀ (kV doc pm : Value) (an : Option Addr) (cdv ct : Value) (us : List Value), us.length = d13.ps.length → bindArgs (PySem.W.fnOf d13.name d13.name (defArgs d13.st) (defBody d13.st) (defScope d13.st) .none kV doc pm an cdv ct) ⟨us, []⟩ = pure (d13.ps.zip us) :=
  fun _ _ _ _ _ _ us hl => match us, hl with | [_], _ => rfl
theorem bd14 : ∀ (kV doc pm : Value) (an : Option Addr) (cdv ct : Value) (us : List Value), us.length = d14.ps.length → bindArgs (PySem.W.fnOf d14.name d14.name (defArgs d14.st) (defBody d14.st) (defScope d14.st) .none kV doc pm an cdv ct) ⟨us, []⟩ = pure (d14.ps.zip us) :=
  fun _ _ _ _ _ _ us hl => match us, hl with | [_, _, _], _ => rfl
theorem bd15 : ∀ (kV doc pm : Value) (an : Option Addr) (cdv ct : Value) (us : List Value), us.length = d15.ps.length → bindArgs (PySem.W.fnOf d15.name d15.name (defArgs d15.st) (defBody d15.st) (defScope d15.st) .none kV doc pm an cdv ct) ⟨us, []⟩ = pure (d15.ps.zip us) :=
  fun _ _ _ _ _ _ us hl => match us, hl with | [_], _ => rfl
theorem bd16 : ∀ (kV doc pm : Value) (an : Option Addr) (cdv ct : Value) (us : List Value), us.length = d16.ps.length → bindArgs (PySem.W.fnOf d16.name d16.name (defArgs d16.st) (defBody d16.st) (defScope d16.st) .none kV doc pm an cdv ct) ⟨us, []⟩ = pure (d16.ps.zip us) :=
  fun _ _ _ _ _ _ us hl => match us, hl with | [_, _, _, _], _ => rfl
theorem bd17 : ∀ (kV doc pm : Value) (an : Option Addr) (cdv ct : Value) (us : List Value), us.length = d17.ps.length → bindArgs (PySem.W.fnOf d17.name d17.name (defArgs d17.st) (defBody d17.st) (defScope d17.st) .none kV doc pm an cdv ct) ⟨us, []⟩ = pure (d17.ps.zip us) :=
  fun _ _ _ _ _ _ us hl => match us, hl with | [_, _], _ => rfl
theorem bd18 : ∀ (kV doc pm : Value) (an : Option Addr) (cdv ct : Value) (us : List Value), us.length = d18.ps.length → bindArgs (PySem.W.fnOf d18.name d18.name (defArgs d18.st) (defBody d18.st) (defScope d18.st) .none kV doc pm an cdv ct) ⟨us, []⟩ = pure (d18.ps.zip us) :=
  fun _ _ _ _ _ _ us hl => match us, hl with | [_, _, _, _], _ => rfl
theorem bd19 : ∀ (kV doc pm : Value) (an : Option Addr) (cdv ct : Value) (us : List Value), us.length = d19.ps.length → bindArgs (PySem.W.fnOf d19.name d19.name (defArgs d19.st) (defBody d19.st) (defScope d19.st) .none kV doc pm an cdv ct) ⟨us, []⟩ = pure (d19.ps.zip us) :=
  fun _ _ _ _ _ _ us hl => match us, hl with | [_, _, _, _], _ => rfl
theorem bd20 : ∀ (kV doc pm : Value) (an : Option Addr) (cdv ct : Value) (us : List Value), us.length = d20.ps.length → bindArgs (PySem.W.fnOf d20.name d20.name (defArgs d20.st) (defBody d20.st) (defScope d20.st) .none kV doc pm an cdv ct) ⟨us, []⟩ = pure (d20.ps.zip us) :=
  fun _ _ _ _ _ _ us hl => match us, hl with | [_, _], _ => rfl
theorem bd21 : ∀ (kV doc pm : Value) (an : Option Addr) (cdv ct : Value) (us : List Value), us.length = d21.ps.length → bindArgs (PySem.W.fnOf d21.name d21.name (defArgs d21.st) (defBody d21.st) (defScope d21.st) .none kV doc pm an cdv ct) ⟨us, []⟩ = pure (d21.ps.zip us) :=
  fun _ _ _ _ _ _ us hl => match us, hl with | [_], _ => rfl
theorem kd0 : ∀ sh ∈ tx.kb, sh.j = 0 → d0.ps ≠ [] ∧ ∀ (kV doc pm : Value) (an : Option Addr) (cdv ct : Value) (us ws : List Value), us.length = sh.np → ws.length = sh.ks.length → bindArgs (PySem.W.fnOf d0.name d0.name (defArgs d0.st) (defBody d0.st) (defScope d0.st) .none kV doc pm an cdv ct) ⟨us, sh.ks.zip ws⟩ = pure (d0.ps.zip (gP sh.np sh.ks.length sh.perm us ws)) := by
  intro sh hs hj
  have hs2 : sh = ⟨6, 0, [("records" : Str), ("holder" : Str), ("program" : Str)], [2, 1, 0]⟩ ∨ sh = ⟨8, 0, [("program" : Str), ("holder" : Str), ("records" : Str)], [0, 1, 2]⟩ := by simpa [tx] using hs
  rcases hs2 with rfl | rfl
  · exact absurd hj (by decide)
  · exact absurd hj (by decide)
theorem kd1 : ∀ sh ∈ tx.kb, sh.j = 1 → d1.ps ≠ [] ∧ ∀ (kV doc pm : Value) (an : Option Addr) (cdv ct : Value) (us ws : List Value), us.length = sh.np → ws.length = sh.ks.length → bindArgs (PySem.W.fnOf d1.name d1.name (defArgs d1.st) (defBody d1.st) (defScope d1.st) .none kV doc pm an cdv ct) ⟨us, sh.ks.zip ws⟩ = pure (d1.ps.zip (gP sh.np sh.ks.length sh.perm us ws)) := by
  intro sh hs hj
  have hs2 : sh = ⟨6, 0, [("records" : Str), ("holder" : Str), ("program" : Str)], [2, 1, 0]⟩ ∨ sh = ⟨8, 0, [("program" : Str), ("holder" : Str), ("records" : Str)], [0, 1, 2]⟩ := by simpa [tx] using hs
  rcases hs2 with rfl | rfl
  · exact absurd hj (by decide)
  · exact absurd hj (by decide)
theorem kd2 : ∀ sh ∈ tx.kb, sh.j = 2 → d2.ps ≠ [] ∧ ∀ (kV doc pm : Value) (an : Option Addr) (cdv ct : Value) (us ws : List Value), us.length = sh.np → ws.length = sh.ks.length → bindArgs (PySem.W.fnOf d2.name d2.name (defArgs d2.st) (defBody d2.st) (defScope d2.st) .none kV doc pm an cdv ct) ⟨us, sh.ks.zip ws⟩ = pure (d2.ps.zip (gP sh.np sh.ks.length sh.perm us ws)) := by
  intro sh hs hj
  have hs2 : sh = ⟨6, 0, [("records" : Str), ("holder" : Str), ("program" : Str)], [2, 1, 0]⟩ ∨ sh = ⟨8, 0, [("program" : Str), ("holder" : Str), ("records" : Str)], [0, 1, 2]⟩ := by simpa [tx] using hs
  rcases hs2 with rfl | rfl
  · exact absurd hj (by decide)
  · exact absurd hj (by decide)
theorem kd3 : ∀ sh ∈ tx.kb, sh.j = 3 → d3.ps ≠ [] ∧ ∀ (kV doc pm : Value) (an : Option Addr) (cdv ct : Value) (us ws : List Value), us.length = sh.np → ws.length = sh.ks.length → bindArgs (PySem.W.fnOf d3.name d3.name (defArgs d3.st) (defBody d3.st) (defScope d3.st) .none kV doc pm an cdv ct) ⟨us, sh.ks.zip ws⟩ = pure (d3.ps.zip (gP sh.np sh.ks.length sh.perm us ws)) := by
  intro sh hs hj
  have hs2 : sh = ⟨6, 0, [("records" : Str), ("holder" : Str), ("program" : Str)], [2, 1, 0]⟩ ∨ sh = ⟨8, 0, [("program" : Str), ("holder" : Str), ("records" : Str)], [0, 1, 2]⟩ := by simpa [tx] using hs
  rcases hs2 with rfl | rfl
  · exact absurd hj (by decide)
  · exact absurd hj (by decide)
theorem kd4 : ∀ sh ∈ tx.kb, sh.j = 4 → d4.ps ≠ [] ∧ ∀ (kV doc pm : Value) (an : Option Addr) (cdv ct : Value) (us ws : List Value), us.length = sh.np → ws.length = sh.ks.length → bindArgs (PySem.W.fnOf d4.name d4.name (defArgs d4.st) (defBody d4.st) (defScope d4.st) .none kV doc pm an cdv ct) ⟨us, sh.ks.zip ws⟩ = pure (d4.ps.zip (gP sh.np sh.ks.length sh.perm us ws)) := by
  intro sh hs hj
  have hs2 : sh = ⟨6, 0, [("records" : Str), ("holder" : Str), ("program" : Str)], [2, 1, 0]⟩ ∨ sh = ⟨8, 0, [("program" : Str), ("holder" : Str), ("records" : Str)], [0, 1, 2]⟩ := by simpa [tx] using hs
  rcases hs2 with rfl | rfl
  · exact absurd hj (by decide)
  · exact absurd hj (by decide)
theorem kd5 : ∀ sh ∈ tx.kb, sh.j = 5 → d5.ps ≠ [] ∧ ∀ (kV doc pm : Value) (an : Option Addr) (cdv ct : Value) (us ws : List Value), us.length = sh.np → ws.length = sh.ks.length → bindArgs (PySem.W.fnOf d5.name d5.name (defArgs d5.st) (defBody d5.st) (defScope d5.st) .none kV doc pm an cdv ct) ⟨us, sh.ks.zip ws⟩ = pure (d5.ps.zip (gP sh.np sh.ks.length sh.perm us ws)) := by
  intro sh hs hj
  have hs2 : sh = ⟨6, 0, [("records" : Str), ("holder" : Str), ("program" : Str)], [2, 1, 0]⟩ ∨ sh = ⟨8, 0, [("program" : Str), ("holder" : Str), ("records" : Str)], [0, 1, 2]⟩ := by simpa [tx] using hs
  rcases hs2 with rfl | rfl
  · exact absurd hj (by decide)
  · exact absurd hj (by decide)
theorem kd6 : ∀ sh ∈ tx.kb, sh.j = 6 → d6.ps ≠ [] ∧ ∀ (kV doc pm : Value) (an : Option Addr) (cdv ct : Value) (us ws : List Value), us.length = sh.np → ws.length = sh.ks.length → bindArgs (PySem.W.fnOf d6.name d6.name (defArgs d6.st) (defBody d6.st) (defScope d6.st) .none kV doc pm an cdv ct) ⟨us, sh.ks.zip ws⟩ = pure (d6.ps.zip (gP sh.np sh.ks.length sh.perm us ws)) := by
  intro sh hs hj
  have hs2 : sh = ⟨6, 0, [("records" : Str), ("holder" : Str), ("program" : Str)], [2, 1, 0]⟩ ∨ sh = ⟨8, 0, [("program" : Str), ("holder" : Str), ("records" : Str)], [0, 1, 2]⟩ := by simpa [tx] using hs
  rcases hs2 with rfl | rfl
  · exact ⟨(by intro z; cases z), fun _ _ _ _ _ _ us ws h1 h2 => match us, ws, h1, h2 with | [], [_, _, _], _, _ => rfl⟩
  · exact absurd hj (by decide)
theorem kd7 : ∀ sh ∈ tx.kb, sh.j = 7 → d7.ps ≠ [] ∧ ∀ (kV doc pm : Value) (an : Option Addr) (cdv ct : Value) (us ws : List Value), us.length = sh.np → ws.length = sh.ks.length → bindArgs (PySem.W.fnOf d7.name d7.name (defArgs d7.st) (defBody d7.st) (defScope d7.st) .none kV doc pm an cdv ct) ⟨us, sh.ks.zip ws⟩ = pure (d7.ps.zip (gP sh.np sh.ks.length sh.perm us ws)) := by
  intro sh hs hj
  have hs2 : sh = ⟨6, 0, [("records" : Str), ("holder" : Str), ("program" : Str)], [2, 1, 0]⟩ ∨ sh = ⟨8, 0, [("program" : Str), ("holder" : Str), ("records" : Str)], [0, 1, 2]⟩ := by simpa [tx] using hs
  rcases hs2 with rfl | rfl
  · exact absurd hj (by decide)
  · exact absurd hj (by decide)
theorem kd8 : ∀ sh ∈ tx.kb, sh.j = 8 → d8.ps ≠ [] ∧ ∀ (kV doc pm : Value) (an : Option Addr) (cdv ct : Value) (us ws : List Value), us.length = sh.np → ws.length = sh.ks.length → bindArgs (PySem.W.fnOf d8.name d8.name (defArgs d8.st) (defBody d8.st) (defScope d8.st) .none kV doc pm an cdv ct) ⟨us, sh.ks.zip ws⟩ = pure (d8.ps.zip (gP sh.np sh.ks.length sh.perm us ws)) := by
  intro sh hs hj
  have hs2 : sh = ⟨6, 0, [("records" : Str), ("holder" : Str), ("program" : Str)], [2, 1, 0]⟩ ∨ sh = ⟨8, 0, [("program" : Str), ("holder" : Str), ("records" : Str)], [0, 1, 2]⟩ := by simpa [tx] using hs
  rcases hs2 with rfl | rfl
  · exact absurd hj (by decide)
  · exact ⟨(by intro z; cases z), fun _ _ _ _ _ _ us ws h1 h2 => match us, ws, h1, h2 with | [], [_, _, _], _, _ => rfl⟩
theorem kd9 : ∀ sh ∈ tx.kb, sh.j = 9 → d9.ps ≠ [] ∧ ∀ (kV doc pm : Value) (an : Option Addr) (cdv ct : Value) (us ws : List Value), us.length = sh.np → ws.length = sh.ks.length → bindArgs (PySem.W.fnOf d9.name d9.name (defArgs d9.st) (defBody d9.st) (defScope d9.st) .none kV doc pm an cdv ct) ⟨us, sh.ks.zip ws⟩ = pure (d9.ps.zip (gP sh.np sh.ks.length sh.perm us ws)) := by
  intro sh hs hj
  have hs2 : sh = ⟨6, 0, [("records" : Str), ("holder" : Str), ("program" : Str)], [2, 1, 0]⟩ ∨ sh = ⟨8, 0, [("program" : Str), ("holder" : Str), ("records" : Str)], [0, 1, 2]⟩ := by simpa [tx] using hs
  rcases hs2 with rfl | rfl
  · exact absurd hj (by decide)
  · exact absurd hj (by decide)
theorem kd10 : ∀ sh ∈ tx.kb, sh.j = 10 → d10.ps ≠ [] ∧ ∀ (kV doc pm : Value) (an : Option Addr) (cdv ct : Value) (us ws : List Value), us.length = sh.np → ws.length = sh.ks.length → bindArgs (PySem.W.fnOf d10.name d10.name (defArgs d10.st) (defBody d10.st) (defScope d10.st) .none kV doc pm an cdv ct) ⟨us, sh.ks.zip ws⟩ = pure (d10.ps.zip (gP sh.np sh.ks.length sh.perm us ws)) := by
  intro sh hs hj
  have hs2 : sh = ⟨6, 0, [("records" : Str), ("holder" : Str), ("program" : Str)], [2, 1, 0]⟩ ∨ sh = ⟨8, 0, [("program" : Str), ("holder" : Str), ("records" : Str)], [0, 1, 2]⟩ := by simpa [tx] using hs
  rcases hs2 with rfl | rfl
  · exact absurd hj (by decide)
  · exact absurd hj (by decide)
theorem kd11 : ∀ sh ∈ tx.kb, sh.j = 11 → d11.ps ≠ [] ∧ ∀ (kV doc pm : Value) (an : Option Addr) (cdv ct : Value) (us ws : List Value), us.length = sh.np → ws.length = sh.ks.length → bindArgs (PySem.W.fnOf d11.name d11.name (defArgs d11.st) (defBody d11.st) (defScope d11.st) .none kV doc pm an cdv ct) ⟨us, sh.ks.zip ws⟩ = pure (d11.ps.zip (gP sh.np sh.ks.length sh.perm us ws)) := by
  intro sh hs hj
  have hs2 : sh = ⟨6, 0, [("records" : Str), ("holder" : Str), ("program" : Str)], [2, 1, 0]⟩ ∨ sh = ⟨8, 0, [("program" : Str), ("holder" : Str), ("records" : Str)], [0, 1, 2]⟩ := by simpa [tx] using hs
  rcases hs2 with rfl | rfl
  · exact absurd hj (by decide)
  · exact absurd hj (by decide)
theorem kd12 : ∀ sh ∈ tx.kb, sh.j = 12 → d12.ps ≠ [] ∧ ∀ (kV doc pm : Value) (an : Option Addr) (cdv ct : Value) (us ws : List Value), us.length = sh.np → ws.length = sh.ks.length → bindArgs (PySem.W.fnOf d12.name d12.name (defArgs d12.st) (defBody d12.st) (defScope d12.st) .none kV doc pm an cdv ct) ⟨us, sh.ks.zip ws⟩ = pure (d12.ps.zip (gP sh.np sh.ks.length sh.perm us ws)) := by
  intro sh hs hj
  have hs2 : sh = ⟨6, 0, [("records" : Str), ("holder" : Str), ("program" : Str)], [2, 1, 0]⟩ ∨ sh = ⟨8, 0, [("program" : Str), ("holder" : Str), ("records" : Str)], [0, 1, 2]⟩ := by simpa [tx] using hs
  rcases hs2 with rfl | rfl
  · exact absurd hj (by decide)
  · exact absurd hj (by decide)
theorem kd13 : ∀ sh ∈ tx.kb, sh.j = 13 → d13.ps ≠ [] ∧ ∀ (kV doc pm : Value) (an : Option Addr) (cdv ct : Value) (us ws : List Value), us.length = sh.np → ws.length = sh.ks.length → bindArgs (PySem.W.fnOf d13.name d13.name (defArgs d13.st) (defBody d13.st) (defScope d13.st) .none kV doc pm an cdv ct) ⟨us, sh.ks.zip ws⟩ = pure (d13.ps.zip (gP sh.np sh.ks.length sh.perm us ws)) := by
  intro sh hs hj
  have hs2 : sh = ⟨6, 0, [("records" : Str), ("holder" : Str), ("program" : Str)], [2, 1, 0]⟩ ∨ sh = ⟨8, 0, [("program" : Str), ("holder" : Str), ("records" : Str)], [0, 1, 2]⟩ := by simpa [tx] using hs
  rcases hs2 with rfl | rfl
  · exact absurd hj (by decide)
  · exact absurd hj (by decide)
theorem kd14 : ∀ sh ∈ tx.kb, sh.j = 14 → d14.ps ≠ [] ∧ ∀ (kV doc pm : Value) (an : Option Addr) (cdv ct : Value) (us ws : List Value), us.length = sh.np → ws.length = sh.ks.length → bindArgs (PySem.W.fnOf d14.name d14.name (defArgs d14.st) (defBody d14.st) (defScope d14.st) .none kV doc pm an cdv ct) ⟨us, sh.ks.zip ws⟩ = pure (d14.ps.zip (gP sh.np sh.ks.length sh.perm us ws)) := by
  intro sh hs hj
  have hs2 : sh = ⟨6, 0, [("records" : Str), ("holder" : Str), ("program" : Str)], [2, 1, 0]⟩ ∨ sh = ⟨8, 0, [("program" : Str), ("holder" : Str), ("records" : Str)], [0, 1, 2]⟩ := by simpa [tx] using hs
  rcases hs2 with rfl | rfl
  · exact absurd hj (by decide)
  · exact absurd hj (by decide)
theorem kd15 : ∀ sh ∈ tx.kb, sh.j = 15 → d15.ps ≠ [] ∧ ∀ (kV doc pm : Value) (an : Option Addr) (cdv ct : Value) (us ws : List Value), us.length = sh.np → ws.length = sh.ks.length → bindArgs (PySem.W.fnOf d15.name d15.name (defArgs d15.st) (defBody d15.st) (defScope d15.st) .none kV doc pm an cdv ct) ⟨us, sh.ks.zip ws⟩ = pure (d15.ps.zip (gP sh.np sh.ks.length sh.perm us ws)) := by
  intro sh hs hj
  have hs2 : sh = ⟨6, 0, [("records" : Str), ("holder" : Str), ("program" : Str)], [2, 1, 0]⟩ ∨ sh = ⟨8, 0, [("program" : Str), ("holder" : Str), ("records" : Str)], [0, 1, 2]⟩ := by simpa [tx] using hs
  rcases hs2 with rfl | rfl
  · exact absurd hj (by decide)
  · exact absurd hj (by decide)
theorem kd16 : ∀ sh ∈ tx.kb, sh.j = 16 → d16.ps ≠ [] ∧ ∀ (kV doc pm : Value) (an : Option Addr) (cdv ct : Value) (us ws : List Value), us.length = sh.np → ws.length = sh.ks.length → bindArgs (PySem.W.fnOf d16.name d16.name (defArgs d16.st) (defBody d16.st) (defScope d16.st) .none kV doc pm an cdv ct) ⟨us, sh.ks.zip ws⟩ = pure (d16.ps.zip (gP sh.np sh.ks.length sh.perm us ws)) := by
  intro sh hs hj
  have hs2 : sh = ⟨6, 0, [("records" : Str), ("holder" : Str), ("program" : Str)], [2, 1, 0]⟩ ∨ sh = ⟨8, 0, [("program" : Str), ("holder" : Str), ("records" : Str)], [0, 1, 2]⟩ := by simpa [tx] using hs
  rcases hs2 with rfl | rfl
  · exact absurd hj (by decide)
  · exact absurd hj (by decide)
theorem kd17 : ∀ sh ∈ tx.kb, sh.j = 17 → d17.ps ≠ [] ∧ ∀ (kV doc pm : Value) (an : Option Addr) (cdv ct : Value) (us ws : List Value), us.length = sh.np → ws.length = sh.ks.length → bindArgs (PySem.W.fnOf d17.name d17.name (defArgs d17.st) (defBody d17.st) (defScope d17.st) .none kV doc pm an cdv ct) ⟨us, sh.ks.zip ws⟩ = pure (d17.ps.zip (gP sh.np sh.ks.length sh.perm us ws)) := by
  intro sh hs hj
  have hs2 : sh = ⟨6, 0, [("records" : Str), ("holder" : Str), ("program" : Str)], [2, 1, 0]⟩ ∨ sh = ⟨8, 0, [("program" : Str), ("holder" : Str), ("records" : Str)], [0, 1, 2]⟩ := by simpa [tx] using hs
  rcases hs2 with rfl | rfl
  · exact absurd hj (by decide)
  · exact absurd hj (by decide)
theorem kd18 : ∀ sh ∈ tx.kb, sh.j = 18 → d18.ps ≠ [] ∧ ∀ (kV doc pm : Value) (an : Option Addr) (cdv ct : Value) (us ws : List Value), us.length = sh.np → ws.length = sh.ks.length → bindArgs (PySem.W.fnOf d18.name d18.name (defArgs d18.st) (defBody d18.st) (defScope d18.st) .none kV doc pm an cdv ct) ⟨us, sh.ks.zip ws⟩ = pure (d18.ps.zip (gP sh.np sh.ks.length sh.perm us ws)) := by
  intro sh hs hj
  have hs2 : sh = ⟨6, 0, [("records" : Str), ("holder" : Str), ("program" : Str)], [2, 1, 0]⟩ ∨ sh = ⟨8, 0, [("program" : Str), ("holder" : Str), ("records" : Str)], [0, 1, 2]⟩ := by simpa [tx] using hs
  rcases hs2 with rfl | rfl
  · exact absurd hj (by decide)
  · exact absurd hj (by decide)
theorem kd19 : ∀ sh ∈ tx.kb, sh.j = 19 → d19.ps ≠ [] ∧ ∀ (kV doc pm : Value) (an : Option Addr) (cdv ct : Value) (us ws : List Value), us.length = sh.np → ws.length = sh.ks.length → bindArgs (PySem.W.fnOf d19.name d19.name (defArgs d19.st) (defBody d19.st) (defScope d19.st) .none kV doc pm an cdv ct) ⟨us, sh.ks.zip ws⟩ = pure (d19.ps.zip (gP sh.np sh.ks.length sh.perm us ws)) := by
  intro sh hs hj
  have hs2 : sh = ⟨6, 0, [("records" : Str), ("holder" : Str), ("program" : Str)], [2, 1, 0]⟩ ∨ sh = ⟨8, 0, [("program" : Str), ("holder" : Str), ("records" : Str)], [0, 1, 2]⟩ := by simpa [tx] using hs
  rcases hs2 with rfl | rfl
  · exact absurd hj (by decide)
  · exact absurd hj (by decide)
theorem kd20 : ∀ sh ∈ tx.kb, sh.j = 20 → d20.ps ≠ [] ∧ ∀ (kV doc pm : Value) (an : Option Addr) (cdv ct : Value) (us ws : List Value), us.length = sh.np → ws.length = sh.ks.length → bindArgs (PySem.W.fnOf d20.name d20.name (defArgs d20.st) (defBody d20.st) (defScope d20.st) .none kV doc pm an cdv ct) ⟨us, sh.ks.zip ws⟩ = pure (d20.ps.zip (gP sh.np sh.ks.length sh.perm us ws)) := by
  intro sh hs hj
  have hs2 : sh = ⟨6, 0, [("records" : Str), ("holder" : Str), ("program" : Str)], [2, 1, 0]⟩ ∨ sh = ⟨8, 0, [("program" : Str), ("holder" : Str), ("records" : Str)], [0, 1, 2]⟩ := by simpa [tx] using hs
  rcases hs2 with rfl | rfl
  · exact absurd hj (by decide)
  · exact absurd hj (by decide)
theorem kd21 : ∀ sh ∈ tx.kb, sh.j = 21 → d21.ps ≠ [] ∧ ∀ (kV doc pm : Value) (an : Option Addr) (cdv ct : Value) (us ws : List Value), us.length = sh.np → ws.length = sh.ks.length → bindArgs (PySem.W.fnOf d21.name d21.name (defArgs d21.st) (defBody d21.st) (defScope d21.st) .none kV doc pm an cdv ct) ⟨us, sh.ks.zip ws⟩ = pure (d21.ps.zip (gP sh.np sh.ks.length sh.perm us ws)) := by
  intro sh hs hj
  have hs2 : sh = ⟨6, 0, [("records" : Str), ("holder" : Str), ("program" : Str)], [2, 1, 0]⟩ ∨ sh = ⟨8, 0, [("program" : Str), ("holder" : Str), ("records" : Str)], [0, 1, 2]⟩ := by simpa [tx] using hs
  rcases hs2 with rfl | rfl
  · exact absurd hj (by decide)
  · exact absurd hj (by decide)
set_option maxHeartbeats 0 in
theorem allF {w : World} {K : PySem.W.Frag} {h : Heap} {mg : Str → Option Value} {fa : Addr} (X : K.In h) (Gn : h.Ns mainGlobals mg) (hfa : mg ("law" : Str) = some (.ref fa))
    {f0 : Addr} {oc0 : Value} {od0 an0 : Option Addr} {osl0 : Array (Option Value)} {kV0 doc0 pm0 cdv0 ct0 : Value}
    {f1 : Addr} {oc1 : Value} {od1 an1 : Option Addr} {osl1 : Array (Option Value)} {kV1 doc1 pm1 cdv1 ct1 : Value}
    {f2 : Addr} {oc2 : Value} {od2 an2 : Option Addr} {osl2 : Array (Option Value)} {kV2 doc2 pm2 cdv2 ct2 : Value}
    {f3 : Addr} {oc3 : Value} {od3 an3 : Option Addr} {osl3 : Array (Option Value)} {kV3 doc3 pm3 cdv3 ct3 : Value}
    {f4 : Addr} {oc4 : Value} {od4 an4 : Option Addr} {osl4 : Array (Option Value)} {kV4 doc4 pm4 cdv4 ct4 : Value}
    {f5 : Addr} {oc5 : Value} {od5 an5 : Option Addr} {osl5 : Array (Option Value)} {kV5 doc5 pm5 cdv5 ct5 : Value}
    {f6 : Addr} {oc6 : Value} {od6 an6 : Option Addr} {osl6 : Array (Option Value)} {kV6 doc6 pm6 cdv6 ct6 : Value}
    {f7 : Addr} {oc7 : Value} {od7 an7 : Option Addr} {osl7 : Array (Option Value)} {kV7 doc7 pm7 cdv7 ct7 : Value}
    {f8 : Addr} {oc8 : Value} {od8 an8 : Option Addr} {osl8 : Array (Option Value)} {kV8 doc8 pm8 cdv8 ct8 : Value}
    {f9 : Addr} {oc9 : Value} {od9 an9 : Option Addr} {osl9 : Array (Option Value)} {kV9 doc9 pm9 cdv9 ct9 : Value}
    {f10 : Addr} {oc10 : Value} {od10 an10 : Option Addr} {osl10 : Array (Option Value)} {kV10 doc10 pm10 cdv10 ct10 : Value}
    {f11 : Addr} {oc11 : Value} {od11 an11 : Option Addr} {osl11 : Array (Option Value)} {kV11 doc11 pm11 cdv11 ct11 : Value}
    {f12 : Addr} {oc12 : Value} {od12 an12 : Option Addr} {osl12 : Array (Option Value)} {kV12 doc12 pm12 cdv12 ct12 : Value}
    {f13 : Addr} {oc13 : Value} {od13 an13 : Option Addr} {osl13 : Array (Option Value)} {kV13 doc13 pm13 cdv13 ct13 : Value}
    {f14 : Addr} {oc14 : Value} {od14 an14 : Option Addr} {osl14 : Array (Option Value)} {kV14 doc14 pm14 cdv14 ct14 : Value}
    {f15 : Addr} {oc15 : Value} {od15 an15 : Option Addr} {osl15 : Array (Option Value)} {kV15 doc15 pm15 cdv15 ct15 : Value}
    {f16 : Addr} {oc16 : Value} {od16 an16 : Option Addr} {osl16 : Array (Option Value)} {kV16 doc16 pm16 cdv16 ct16 : Value}
    {f17 : Addr} {oc17 : Value} {od17 an17 : Option Addr} {osl17 : Array (Option Value)} {kV17 doc17 pm17 cdv17 ct17 : Value}
    {f18 : Addr} {oc18 : Value} {od18 an18 : Option Addr} {osl18 : Array (Option Value)} {kV18 doc18 pm18 cdv18 ct18 : Value}
    {f19 : Addr} {oc19 : Value} {od19 an19 : Option Addr} {osl19 : Array (Option Value)} {kV19 doc19 pm19 cdv19 ct19 : Value}
    {f20 : Addr} {oc20 : Value} {od20 an20 : Option Addr} {osl20 : Array (Option Value)} {kV20 doc20 pm20 cdv20 ct20 : Value}
    {f21 : Addr} {oc21 : Value} {od21 an21 : Option Addr} {osl21 : Array (Option Value)} {kV21 doc21 pm21 cdv21 ct21 : Value}
    (a0 : PySem.W.nsIn K mainGlobals d0.name = some (some (.ref f0))) (l0 : K.lookup f0 = some ⟨oc0, od0, .func (PySem.W.fnOf d0.name d0.name (defArgs d0.st) (defBody d0.st) (defScope d0.st) .none kV0 doc0 pm0 an0 cdv0 ct0), osl0⟩) (c0 : PySem.W.codeIn K cdv0 d0.name = true) (k0 : PySem.W.keepIn K (.ref f0) = true)
    (a1 : PySem.W.nsIn K mainGlobals d1.name = some (some (.ref f1))) (l1 : K.lookup f1 = some ⟨oc1, od1, .func (PySem.W.fnOf d1.name d1.name (defArgs d1.st) (defBody d1.st) (defScope d1.st) .none kV1 doc1 pm1 an1 cdv1 ct1), osl1⟩) (c1 : PySem.W.codeIn K cdv1 d1.name = true) (k1 : PySem.W.keepIn K (.ref f1) = true)
    (a2 : PySem.W.nsIn K mainGlobals d2.name = some (some (.ref f2))) (l2 : K.lookup f2 = some ⟨oc2, od2, .func (PySem.W.fnOf d2.name d2.name (defArgs d2.st) (defBody d2.st) (defScope d2.st) .none kV2 doc2 pm2 an2 cdv2 ct2), osl2⟩) (c2 : PySem.W.codeIn K cdv2 d2.name = true) (k2 : PySem.W.keepIn K (.ref f2) = true)
    (a3 : PySem.W.nsIn K mainGlobals d3.name = some (some (.ref f3))) (l3 : K.lookup f3 = some ⟨oc3, od3, .func (PySem.W.fnOf d3.name d3.name (defArgs d3.st) (defBody d3.st) (defScope d3.st) .none kV3 doc3 pm3 an3 cdv3 ct3), osl3⟩) (c3 : PySem.W.codeIn K cdv3 d3.name = true) (k3 : PySem.W.keepIn K (.ref f3) = true)
    (a4 : PySem.W.nsIn K mainGlobals d4.name = some (some (.ref f4))) (l4 : K.lookup f4 = some ⟨oc4, od4, .func (PySem.W.fnOf d4.name d4.name (defArgs d4.st) (defBody d4.st) (defScope d4.st) .none kV4 doc4 pm4 an4 cdv4 ct4), osl4⟩) (c4 : PySem.W.codeIn K cdv4 d4.name = true) (k4 : PySem.W.keepIn K (.ref f4) = true)
    (a5 : PySem.W.nsIn K mainGlobals d5.name = some (some (.ref f5))) (l5 : K.lookup f5 = some ⟨oc5, od5, .func (PySem.W.fnOf d5.name d5.name (defArgs d5.st) (defBody d5.st) (defScope d5.st) .none kV5 doc5 pm5 an5 cdv5 ct5), osl5⟩) (c5 : PySem.W.codeIn K cdv5 d5.name = true) (k5 : PySem.W.keepIn K (.ref f5) = true)
    (a6 : PySem.W.nsIn K mainGlobals d6.name = some (some (.ref f6))) (l6 : K.lookup f6 = some ⟨oc6, od6, .func (PySem.W.fnOf d6.name d6.name (defArgs d6.st) (defBody d6.st) (defScope d6.st) .none kV6 doc6 pm6 an6 cdv6 ct6), osl6⟩) (c6 : PySem.W.codeIn K cdv6 d6.name = true) (k6 : PySem.W.keepIn K (.ref f6) = true)
    (a7 : PySem.W.nsIn K mainGlobals d7.name = some (some (.ref f7))) (l7 : K.lookup f7 = some ⟨oc7, od7, .func (PySem.W.fnOf d7.name d7.name (defArgs d7.st) (defBody d7.st) (defScope d7.st) .none kV7 doc7 pm7 an7 cdv7 ct7), osl7⟩) (c7 : PySem.W.codeIn K cdv7 d7.name = true) (k7 : PySem.W.keepIn K (.ref f7) = true)
    (a8 : PySem.W.nsIn K mainGlobals d8.name = some (some (.ref f8))) (l8 : K.lookup f8 = some ⟨oc8, od8, .func (PySem.W.fnOf d8.name d8.name (defArgs d8.st) (defBody d8.st) (defScope d8.st) .none kV8 doc8 pm8 an8 cdv8 ct8), osl8⟩) (c8 : PySem.W.codeIn K cdv8 d8.name = true) (k8 : PySem.W.keepIn K (.ref f8) = true)
    (a9 : PySem.W.nsIn K mainGlobals d9.name = some (some (.ref f9))) (l9 : K.lookup f9 = some ⟨oc9, od9, .func (PySem.W.fnOf d9.name d9.name (defArgs d9.st) (defBody d9.st) (defScope d9.st) .none kV9 doc9 pm9 an9 cdv9 ct9), osl9⟩) (c9 : PySem.W.codeIn K cdv9 d9.name = true) (k9 : PySem.W.keepIn K (.ref f9) = true)
    (a10 : PySem.W.nsIn K mainGlobals d10.name = some (some (.ref f10))) (l10 : K.lookup f10 = some ⟨oc10, od10, .func (PySem.W.fnOf d10.name d10.name (defArgs d10.st) (defBody d10.st) (defScope d10.st) .none kV10 doc10 pm10 an10 cdv10 ct10), osl10⟩) (c10 : PySem.W.codeIn K cdv10 d10.name = true) (k10 : PySem.W.keepIn K (.ref f10) = true)
    (a11 : PySem.W.nsIn K mainGlobals d11.name = some (some (.ref f11))) (l11 : K.lookup f11 = some ⟨oc11, od11, .func (PySem.W.fnOf d11.name d11.name (defArgs d11.st) (defBody d11.st) (defScope d11.st) .none kV11 doc11 pm11 an11 cdv11 ct11), osl11⟩) (c11 : PySem.W.codeIn K cdv11 d11.name = true) (k11 : PySem.W.keepIn K (.ref f11) = true)
    (a12 : PySem.W.nsIn K mainGlobals d12.name = some (some (.ref f12))) (l12 : K.lookup f12 = some ⟨oc12, od12, .func (PySem.W.fnOf d12.name d12.name (defArgs d12.st) (defBody d12.st) (defScope d12.st) .none kV12 doc12 pm12 an12 cdv12 ct12), osl12⟩) (c12 : PySem.W.codeIn K cdv12 d12.name = true) (k12 : PySem.W.keepIn K (.ref f12) = true)
    (a13 : PySem.W.nsIn K mainGlobals d13.name = some (some (.ref f13))) (l13 : K.lookup f13 = some ⟨oc13, od13, .func (PySem.W.fnOf d13.name d13.name (defArgs d13.st) (defBody d13.st) (defScope d13.st) .none kV13 doc13 pm13 an13 cdv13 ct13), osl13⟩) (c13 : PySem.W.codeIn K cdv13 d13.name = true) (k13 : PySem.W.keepIn K (.ref f13) = true)
    (a14 : PySem.W.nsIn K mainGlobals d14.name = some (some (.ref f14))) (l14 : K.lookup f14 = some ⟨oc14, od14, .func (PySem.W.fnOf d14.name d14.name (defArgs d14.st) (defBody d14.st) (defScope d14.st) .none kV14 doc14 pm14 an14 cdv14 ct14), osl14⟩) (c14 : PySem.W.codeIn K cdv14 d14.name = true) (k14 : PySem.W.keepIn K (.ref f14) = true)
    (a15 : PySem.W.nsIn K mainGlobals d15.name = some (some (.ref f15))) (l15 : K.lookup f15 = some ⟨oc15, od15, .func (PySem.W.fnOf d15.name d15.name (defArgs d15.st) (defBody d15.st) (defScope d15.st) .none kV15 doc15 pm15 an15 cdv15 ct15), osl15⟩) (c15 : PySem.W.codeIn K cdv15 d15.name = true) (k15 : PySem.W.keepIn K (.ref f15) = true)
    (a16 : PySem.W.nsIn K mainGlobals d16.name = some (some (.ref f16))) (l16 : K.lookup f16 = some ⟨oc16, od16, .func (PySem.W.fnOf d16.name d16.name (defArgs d16.st) (defBody d16.st) (defScope d16.st) .none kV16 doc16 pm16 an16 cdv16 ct16), osl16⟩) (c16 : PySem.W.codeIn K cdv16 d16.name = true) (k16 : PySem.W.keepIn K (.ref f16) = true)
    (a17 : PySem.W.nsIn K mainGlobals d17.name = some (some (.ref f17))) (l17 : K.lookup f17 = some ⟨oc17, od17, .func (PySem.W.fnOf d17.name d17.name (defArgs d17.st) (defBody d17.st) (defScope d17.st) .none kV17 doc17 pm17 an17 cdv17 ct17), osl17⟩) (c17 : PySem.W.codeIn K cdv17 d17.name = true) (k17 : PySem.W.keepIn K (.ref f17) = true)
    (a18 : PySem.W.nsIn K mainGlobals d18.name = some (some (.ref f18))) (l18 : K.lookup f18 = some ⟨oc18, od18, .func (PySem.W.fnOf d18.name d18.name (defArgs d18.st) (defBody d18.st) (defScope d18.st) .none kV18 doc18 pm18 an18 cdv18 ct18), osl18⟩) (c18 : PySem.W.codeIn K cdv18 d18.name = true) (k18 : PySem.W.keepIn K (.ref f18) = true)
    (a19 : PySem.W.nsIn K mainGlobals d19.name = some (some (.ref f19))) (l19 : K.lookup f19 = some ⟨oc19, od19, .func (PySem.W.fnOf d19.name d19.name (defArgs d19.st) (defBody d19.st) (defScope d19.st) .none kV19 doc19 pm19 an19 cdv19 ct19), osl19⟩) (c19 : PySem.W.codeIn K cdv19 d19.name = true) (k19 : PySem.W.keepIn K (.ref f19) = true)
    (a20 : PySem.W.nsIn K mainGlobals d20.name = some (some (.ref f20))) (l20 : K.lookup f20 = some ⟨oc20, od20, .func (PySem.W.fnOf d20.name d20.name (defArgs d20.st) (defBody d20.st) (defScope d20.st) .none kV20 doc20 pm20 an20 cdv20 ct20), osl20⟩) (c20 : PySem.W.codeIn K cdv20 d20.name = true) (k20 : PySem.W.keepIn K (.ref f20) = true)
    (a21 : PySem.W.nsIn K mainGlobals d21.name = some (some (.ref f21))) (l21 : K.lookup f21 = some ⟨oc21, od21, .func (PySem.W.fnOf d21.name d21.name (defArgs d21.st) (defBody d21.st) (defScope d21.st) .none kV21 doc21 pm21 an21 cdv21 ct21), osl21⟩) (c21 : PySem.W.codeIn K cdv21 d21.name = true) (k21 : PySem.W.keepIn K (.ref f21) = true)
    (z0 : PySem.W.nsIn K mainGlobals ("abs" : Str) = some none)
    (z1 : PySem.W.nsIn K mainGlobals ("bool" : Str) = some none)
    (z2 : PySem.W.nsIn K mainGlobals ("dict" : Str) = some none)
    (z3 : PySem.W.nsIn K mainGlobals ("enumerate" : Str) = some none)
    (z4 : PySem.W.nsIn K mainGlobals ("int" : Str) = some none)
    (z5 : PySem.W.nsIn K mainGlobals ("isinstance" : Str) = some none)
    (z6 : PySem.W.nsIn K mainGlobals ("len" : Str) = some none)
    (z7 : PySem.W.nsIn K mainGlobals ("list" : Str) = some none)
    (z8 : PySem.W.nsIn K mainGlobals ("range" : Str) = some none)
    (z9 : PySem.W.nsIn K mainGlobals ("sorted" : Str) = some none)
    (z10 : PySem.W.nsIn K mainGlobals ("sum" : Str) = some none)
    (z11 : PySem.W.nsIn K mainGlobals ("tuple" : Str) = some none) :
    ∃ fd : FuncData, (∀ (s : Shared) (v : Value), BindsTo s fd ⟨[v], []⟩ [("script", v)]) ∧ ∀ base : Heap, K.In base → base.Ns mainGlobals mg → FnOk PySem.Challenge.pw_mustleave_k09_trials w K mg base (L2.CX PySem.Challenge.pw_mustleave_k09_trials w) 9 fa fd ["script"] (spC ⟨⟨K, PySem.Challenge.pw_mustleave_k09_trials, w⟩, fun _ => 0⟩ (callAt Gc tx.T 9) 21) := by
  have hst : ∀ (j : Nat) (d : Df), tx.ds[j]? = some d → Stands K mg tx j d := by
    intro j d hd
    match j, hd with
    | 0, hd => cases (Option.some.inj hd : d0 = d); exact stands_mk X Gn a0 l0 c0 k0 bd0 kd0
    | 1, hd => cases (Option.some.inj hd : d1 = d); exact stands_mk X Gn a1 l1 c1 k1 bd1 kd1
    | 2, hd => cases (Option.some.inj hd : d2 = d); exact stands_mk X Gn a2 l2 c2 k2 bd2 kd2
    | 3, hd => cases (Option.some.inj hd : d3 = d); exact stands_mk X Gn a3 l3 c3 k3 bd3 kd3
    | 4, hd => cases (Option.some.inj hd : d4 = d); exact stands_mk X Gn a4 l4 c4 k4 bd4 kd4
    | 5, hd => cases (Option.some.inj hd : d5 = d); exact stands_mk X Gn a5 l5 c5 k5 bd5 kd5
    | 6, hd => cases (Option.some.inj hd : d6 = d); exact stands_mk X Gn a6 l6 c6 k6 bd6 kd6
    | 7, hd => cases (Option.some.inj hd : d7 = d); exact stands_mk X Gn a7 l7 c7 k7 bd7 kd7
    | 8, hd => cases (Option.some.inj hd : d8 = d); exact stands_mk X Gn a8 l8 c8 k8 bd8 kd8
    | 9, hd => cases (Option.some.inj hd : d9 = d); exact stands_mk X Gn a9 l9 c9 k9 bd9 kd9
    | 10, hd => cases (Option.some.inj hd : d10 = d); exact stands_mk X Gn a10 l10 c10 k10 bd10 kd10
    | 11, hd => cases (Option.some.inj hd : d11 = d); exact stands_mk X Gn a11 l11 c11 k11 bd11 kd11
    | 12, hd => cases (Option.some.inj hd : d12 = d); exact stands_mk X Gn a12 l12 c12 k12 bd12 kd12
    | 13, hd => cases (Option.some.inj hd : d13 = d); exact stands_mk X Gn a13 l13 c13 k13 bd13 kd13
    | 14, hd => cases (Option.some.inj hd : d14 = d); exact stands_mk X Gn a14 l14 c14 k14 bd14 kd14
    | 15, hd => cases (Option.some.inj hd : d15 = d); exact stands_mk X Gn a15 l15 c15 k15 bd15 kd15
    | 16, hd => cases (Option.some.inj hd : d16 = d); exact stands_mk X Gn a16 l16 c16 k16 bd16 kd16
    | 17, hd => cases (Option.some.inj hd : d17 = d); exact stands_mk X Gn a17 l17 c17 k17 bd17 kd17
    | 18, hd => cases (Option.some.inj hd : d18 = d); exact stands_mk X Gn a18 l18 c18 k18 bd18 kd18
    | 19, hd => cases (Option.some.inj hd : d19 = d); exact stands_mk X Gn a19 l19 c19 k19 bd19 kd19
    | 20, hd => cases (Option.some.inj hd : d20 = d); exact stands_mk X Gn a20 l20 c20 k20 bd20 kd20
    | 21, hd => cases (Option.some.inj hd : d21 = d); exact stands_mk X Gn a21 l21 c21 k21 bd21 kd21
    | n + 22, hd => cases (show (none : Option Df) = some d from hd)
  have hbl : ∀ x ∈ tx.bl, mg x = none := by
    intro x hx
    have hx2 : x = ("abs" : Str) ∨ x = ("bool" : Str) ∨ x = ("dict" : Str) ∨ x = ("enumerate" : Str) ∨ x = ("int" : Str) ∨ x = ("isinstance" : Str) ∨ x = ("len" : Str) ∨ x = ("list" : Str) ∨ x = ("range" : Str) ∨ x = ("sorted" : Str) ∨ x = ("sum" : Str) ∨ x = ("tuple" : Str) := by simpa [tx] using hx
    rcases hx2 with rfl | rfl | rfl | rfl | rfl | rfl | rfl | rfl | rfl | rfl | rfl | rfl
    · exact PySem.W.mg_none_of X Gn z0
    · exact PySem.W.mg_none_of X Gn z1
    · exact PySem.W.mg_none_of X Gn z2
    · exact PySem.W.mg_none_of X Gn z3
    · exact PySem.W.mg_none_of X Gn z4
    · exact PySem.W.mg_none_of X Gn z5
    · exact PySem.W.mg_none_of X Gn z6
    · exact PySem.W.mg_none_of X Gn z7
    · exact PySem.W.mg_none_of X Gn z8
    · exact PySem.W.mg_none_of X Gn z9
    · exact PySem.W.mg_none_of X Gn z10
    · exact PySem.W.mg_none_of X Gn z11
  have hgv : ∀ (g : Nat) (x : Str), tx.gl[g]? = some x → ∃ v u d, mg x = some u ∧ RelV v u ∧ Gc g = some d ∧ ∀ H av, R (Kf.mk K PySem.Challenge.pw_mustleave_k09_trials w) H av d v := by
    intro g x hx
    match g, hx with
    | n + 0, hx => cases (show (none : Option Str) = some x from hx)
  exact law_F (n := 100) (t := tx) (k := ⟨⟨K, PySem.Challenge.pw_mustleave_k09_trials, w⟩, fun _ => 0⟩) (G := Gc) 9 21 (d := d21) rfl rfl rfl chk hst hbl hgv rfl rfl hfa (fun _ _ _ _ _ _ _ _ => .of_eq rfl)
end Mp.k09
open PySem PySem.W PyProof.Rows
set_option maxHeartbeats 0 in
theorem PySem.Challenge.cw_mustleave_k09_trials_holds : PySem.Challenge.rw_mustleave_k09_trials.Holds := by
  w_on; o_law; k_head; (case hw => w_witness2)
  k_fill
  refine L2.walk_of (l := PySem.Challenge.rw_mustleave_k09_trials) (n := 63) (k := 9) (x := "script") (CX := fun w => L2.CX PySem.Challenge.pw_mustleave_k09_trials w) (sp := fun w => Mp.spC ⟨⟨_, PySem.Challenge.pw_mustleave_k09_trials, w⟩, fun _ => 0⟩ (Mp.callAt Mp.k09.Gc Mp.k09.tx.T 9) 21) rfl (by decide) rfl ⟨rfl, by decide, by decide⟩ (fun w h Y => PySem.W.kIn_of Y) ?F (fun _ _ a ns hl hO hS => Mp.law_hsp (k := ⟨⟨_, _, _⟩, _⟩) hO hS (Mp.k09.law_true ns hl)) (fun _ H s e s2 hx => Mp.law_hcx H s e s2 hx)
  case F =>
    intro w mg fa h KX G hmg
    refine' Mp.k09.allF KX G hmg ?Ja0 ?Jl0 ?Jc0 ?Jk0 ?Ja1 ?Jl1 ?Jc1 ?Jk1 ?Ja2 ?Jl2 ?Jc2 ?Jk2 ?Ja3 ?Jl3 ?Jc3 ?Jk3 ?Ja4 ?Jl4 ?Jc4 ?Jk4 ?Ja5 ?Jl5 ?Jc5 ?Jk5 ?Ja6 ?Jl6 ?Jc6 ?Jk6 ?Ja7 ?Jl7 ?Jc7 ?Jk7 ?Ja8 ?Jl8 ?Jc8 ?Jk8 ?Ja9 ?Jl9 ?Jc9 ?Jk9 ?Ja10 ?Jl10 ?Jc10 ?Jk10 ?Ja11 ?Jl11 ?Jc11 ?Jk11 ?Ja12 ?Jl12 ?Jc12 ?Jk12 ?Ja13 ?Jl13 ?Jc13 ?Jk13 ?Ja14 ?Jl14 ?Jc14 ?Jk14 ?Ja15 ?Jl15 ?Jc15 ?Jk15 ?Ja16 ?Jl16 ?Jc16 ?Jk16 ?Ja17 ?Jl17 ?Jc17 ?Jk17 ?Ja18 ?Jl18 ?Jc18 ?Jk18 ?Ja19 ?Jl19 ?Jc19 ?Jk19 ?Ja20 ?Jl20 ?Jc20 ?Jk20 ?Ja21 ?Jl21 ?Jc21 ?Jk21 ?Jz0 ?Jz1 ?Jz2 ?Jz3 ?Jz4 ?Jz5 ?Jz6 ?Jz7 ?Jz8 ?Jz9 ?Jz10 ?Jz11
    (case Ja0 => k_is); (case Jl0 => k_is); (case Jc0 => k_is); (case Jk0 => k_is); (case Ja1 => k_is); (case Jl1 => k_is); (case Jc1 => k_is); (case Jk1 => k_is); (case Ja2 => k_is); (case Jl2 => k_is); (case Jc2 => k_is); (case Jk2 => k_is); (case Ja3 => k_is); (case Jl3 => k_is); (case Jc3 => k_is); (case Jk3 => k_is); (case Ja4 => k_is); (case Jl4 => k_is); (case Jc4 => k_is); (case Jk4 => k_is); (case Ja5 => k_is); (case Jl5 => k_is); (case Jc5 => k_is); (case Jk5 => k_is); (case Ja6 => k_is); (case Jl6 => k_is); (case Jc6 => k_is); (case Jk6 => k_is); (case Ja7 => k_is); (case Jl7 => k_is); (case Jc7 => k_is); (case Jk7 => k_is); (case Ja8 => k_is); (case Jl8 => k_is); (case Jc8 => k_is); (case Jk8 => k_is); (case Ja9 => k_is); (case Jl9 => k_is); (case Jc9 => k_is); (case Jk9 => k_is); (case Ja10 => k_is); (case Jl10 => k_is); (case Jc10 => k_is); (case Jk10 => k_is); (case Ja11 => k_is); (case Jl11 => k_is); (case Jc11 => k_is); (case Jk11 => k_is); (case Ja12 => k_is); (case Jl12 => k_is); (case Jc12 => k_is); (case Jk12 => k_is); (case Ja13 => k_is); (case Jl13 => k_is); (case Jc13 => k_is); (case Jk13 => k_is); (case Ja14 => k_is); (case Jl14 => k_is); (case Jc14 => k_is); (case Jk14 => k_is); (case Ja15 => k_is); (case Jl15 => k_is); (case Jc15 => k_is); (case Jk15 => k_is); (case Ja16 => k_is); (case Jl16 => k_is); (case Jc16 => k_is); (case Jk16 => k_is); (case Ja17 => k_is); (case Jl17 => k_is); (case Jc17 => k_is); (case Jk17 => k_is); (case Ja18 => k_is); (case Jl18 => k_is); (case Jc18 => k_is); (case Jk18 => k_is); (case Ja19 => k_is); (case Jl19 => k_is); (case Jc19 => k_is); (case Jk19 => k_is); (case Ja20 => k_is); (case Jl20 => k_is); (case Jc20 => k_is); (case Jk20 => k_is); (case Ja21 => k_is); (case Jl21 => k_is); (case Jc21 => k_is); (case Jk21 => k_is); (case Jz0 => k_is); (case Jz1 => k_is); (case Jz2 => k_is); (case Jz3 => k_is); (case Jz4 => k_is); (case Jz5 => k_is); (case Jz6 => k_is); (case Jz7 => k_is); (case Jz8 => k_is); (case Jz9 => k_is); (case Jz10 => k_is); (case Jz11 => k_is)
end
