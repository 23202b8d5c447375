import PyProof.Rows.All
import Wide.All
import OpenK.AllK
import Wide.FinOn
import HandS.ForMost
import HandS.Walk
import HandS.Deep
import HandS.IsInst
import HandS.Conv
import HandS.TupAny
import HandS.TupMul
import HandS.Style
import HandS.Flow
import HandS.Wide
import HandS.Exc
import HandS.Strs
import HandS.WordsExc
import KE.SortData
import KE.KDictKeyed
import KE.KDictDisplayH
import KE.KeyNested
import KE.IntBitsLaws
import HandS.More
import KE.GoesEnum
import PySem.Challenge.RW_mustleave_k06_programtools
set_option Elab.async false
set_option linter.all false
set_option maxRecDepth 100000
set_option autoImplicit false
section
set_option maxHeartbeats 4000000
/-! A small Python with data as values: its syntax (ME, MS) and what it computes (evE, evS, callAt). -/
namespace Mp
open PySem

abbrev D := PyData

/-- a value: data (never changed), or a place of the memory -/
inductive Val where
  | d (x : D)
  | ref (n : Nat)

/-- what is changed in place -/
inductive Ob where
  | lst (xs : List D)
  | box (xs : List Val)
  | dK (kvs : List (L2.Key × D))
  | dT (kvs : List (NestedKey × D))
  | ins (c : Nat) (fs : List (Str × Val))
  | scr (xs : List D)
  | dead

abbrev Mem := List Ob
abbrev Env := List (Option Val)
structure Exn where
  cls : Nat
  fs : List (Str × D)

inductive Res (α : Type) where
  | ok (a : α) (M : Mem)
  | ex (e : Exn) (M : Mem)
  | no

def Res.bind {α β : Type} (r : Res α) (f : α → Mem → Res β) : Res β :=
  match r with
  | .ok a M => f a M
  | .ex e M => .ex e M
  | .no => .no
theorem bind_ok {α β : Type} (a : α) (M : Mem) (f : α → Mem → Res β) : (Res.ok a M).bind f = f a M := rfl
theorem bind_ex {α β : Type} (e : Exn) (M : Mem) (f : α → Mem → Res β) : (Res.ex e M : Res α).bind f = .ex e M := rfl
theorem bind_no {α β : Type} (f : α → Mem → Res β) : (Res.no : Res α).bind f = .no := rfl

def lim : Nat := 10000000
def lim9 : Nat := 2 ^ 8000

inductive BOp where | add | sub | mul | fdiv | mod | pow | shl
inductive COp where | eq | ne | lt | le | gt | ge | isin | notin | isN | notN
inductive TK where | int | bool | str | tuple | list
inductive BI where | len | abs | int | tuple | list | sorted | sum | min2 | max2 | rngT | rngL | rngT2 | rngL2
inductive MT where | append | pop0 | popAt | insert | extend | index | indexT
inductive Tg where
  | nm (i : Nat)
  | tup2 (a b : Tg)
  | tup3 (a b c : Tg)

mutual
inductive ME where
  | var (i : Nat) | con (c : D) | glb (g : Nat)
  | tup (es : MEs) | lst (es : MEs) | box (es : MEs) | new (e : ME)
  | bin (o : BOp) (a b : ME) | neg (a : ME)
  | cmp (o : COp) (a b : ME) | chn (o1 o2 : COp) (a b c : ME)
  | and (a b : ME) | or (a b : ME) | not (a : ME) | ife (c a b : ME)
  | idx (a i : ME) | slc (a : ME) (lo hi : MO) | rev (a : ME)
  | call (k : Nat) (es : MEs)
  | callk (k : Nat) (es : MEs) (ks : MEs) (perm : List Nat)
  | bi (b : BI) (es : MEs)
  | isi (a : ME) (t : TK)
  | mt (m : MT) (o : ME) (es : MEs)
  | lc (own : List Nat) (tg : Tg) (it : MI) (ifs : MEs) (e : ME)
  | dnw (t : Bool) | ddsp (k v : ME) | dcp (es : MEs)
inductive MEs where | nil | cons (e : ME) (es : MEs)
inductive MO where | non | som (e : ME)
inductive MI where | ov (e : ME) | rg1 (a : ME) | rg2 (a b : ME) | enm (e : ME)
end

mutual
inductive MS where
  | set (i : Nat) (e : ME)
  | asg (tg : Tg) (e : ME)
  | par2 (i j : Nat) (a b : ME)
  | parN (is : List Nat) (es : MEs)
  | setI (o i e : ME)
  | aug (i : Nat) (o : BOp) (e : ME)
  | exp (e : ME)
  | ret (e : ME) | retn
  | iff (c : ME) (a b : MSs)
  | forr (tg : Tg) (it : MI) (b : MSs)
  | whil (c : ME) (b : MSs)
  | brk | ctn | pas
  | frz (i : Nat)
inductive MSs where | nil | cons (s : MS) (ss : MSs)
end

/-! ### values -/
def intsOf : List D → Option (List Int)
  | [] => some []
  | .int i :: r => (intsOf r).map (i :: ·)
  | _ :: _ => none
def keyD : D → Option L2.Key
  | .int i => some (.inl i)
  | .str s => some (.inr s)
  | _ => none
mutual
def nkD : D → Option NestedKey
  | .none => some .none
  | .int i => some (.num i)
  | .str s => some (.text s)
  | .tuple xs => (nkDs xs).map .tup
  | _ => none
def nkDs : List D → Option (List NestedKey)
  | [] => some []
  | x :: xs => match nkD x, nkDs xs with
    | some k, some ks => some (k :: ks)
    | _, _ => none
end
/-- a tuple as a key -/
def nkT : D → Option NestedKey
  | .tuple xs => match nkDs xs with
    | some ks => if (NestedKey.tup ks).depth ≤ 8 then some (.tup ks) else none
    | none => none
  | _ => none
def dKey : L2.Key → D
  | .inl i => .int i
  | .inr s => .str s
def flatD : D → Bool
  | .none | .bool _ | .int _ | .str _ => true
  | _ => false
def toD : Val → Option D
  | .d x => some x
  | .ref _ => none
def toDs : List Val → Option (List D)
  | [] => some []
  | .d x :: r => (toDs r).map (x :: ·)
  | .ref _ :: _ => none
/-- a value as data, a list of the memory as the list that it holds now -/
def rdV (M : Mem) : Val → Option D
  | .d x => some x
  | .ref i => match M[i]? with
    | some (.lst xs) => some (.list xs)
    | _ => none

/-- .. the script too -/
def rdS (M : Mem) : Val → Option D
  | .d x => some x
  | .ref i => match M[i]? with
    | some (.lst xs) => some (.list xs)
    | some (.scr xs) => some (.list xs)
    | _ => none

/-- a dict's entries -/
def dGet {κ : Type} [DecidableEq κ] (kvs : List (κ × D)) (k : κ) : Option D := (kvs.find? fun kv => decide (kv.1 = k)).map (·.2)
def dPut {κ : Type} [DecidableEq κ] (kvs : List (κ × D)) (k : κ) (v : D) : List (κ × D) :=
  if kvs.any fun kv => decide (kv.1 = k) then kvs.map fun kv => if kv.1 = k then (kv.1, v) else kv else kvs ++ [(k, v)]

def isTupD : D → Bool
  | .tuple _ => true
  | _ => false
def isTupNe : D → Bool
  | .tuple (_ :: _) => true
  | _ => false
def isOth : D → Bool
  | .none => false
  | .tuple _ => false
  | _ => true
def isTup0 : D → Bool
  | .tuple [] => true
  | _ => false
def sortB (ds : List D) : Bool :=
  (ds.all fun x => ds.all fun y => PySem.W.alike x y) && (ds.all isTupNe || ds.all isOth || (decide (ds.length ≤ 1) && ds.all isTupD) || ds.all isTup0) && (ds.all fun x => decide (x.depth ≤ 32))
def sortD (ds : List D) : Option (List D) := if sortB ds && decide (ds.length ≤ lim) then some (ds.mergeSort (PySem.W.dataLe false fun x => x)) else none

def small (i : Int) : Bool := decide (i.natAbs < lim9)
def mulOk (a b : Int) : Bool := (small a && small b) || decide (a.natAbs < 2 ^ 64) || decide (b.natAbs < 2 ^ 64)
def binD : BOp → D → D → Option D
  | .add, .int a, .int b => some (.int (a + b))
  | .add, .str a, .str b => if a.length + b.length ≤ lim then some (.str (a ++ b)) else none
  | .add, .tuple a, .tuple b => if a.length + b.length ≤ lim then some (.tuple (a ++ b)) else none
  | .add, .list a, .list b => if a.length + b.length ≤ lim then some (.list (a ++ b)) else none
  | .sub, .int a, .int b => some (.int (a - b))
  | .mul, .int a, .int b => if mulOk a b then some (.int (a * b)) else none
  | .fdiv, .int a, .int b => if decide (0 < b) && small b then some (.int (a / b)) else none
  | .mod, .int a, .int b => if 0 < b then some (.int (a % b)) else none
  | .pow, .int a, .int b => if decide (0 ≤ b) && (decide (b ≤ 1000000) && decide (a.natAbs < 2 ^ 64) || decide (b ≤ 1000) && decide (a.natAbs < 2 ^ 250)) then some (.int (a ^ b.toNat)) else none
  | .shl, .int a, .int b => if decide (0 ≤ b) && decide (b ≤ 1000000) && decide (a.natAbs < 2 ^ 64) then some (.int (a * 2 ^ b.toNat)) else none
  | .mul, .list a, .int b => if decide (-(2 ^ 63) ≤ b) && decide (b < 2 ^ 63) && decide (a.length * b.toNat ≤ lim) then some (.list (List.replicate b.toNat a).flatten) else none
  | _, _, _ => none
def eqD (a b : D) : Option Bool := if SeqAt.shaped a && SeqAt.shaped b then some (PyData.eqv a b) else none
def inD (x : D) : D → Option Bool
  | .list ds => if (flatD x && ds.all flatD) || (SeqAt.shaped x && SeqAt.shaped (.list ds)) then some (ds.any fun y => PyData.eqv y x) else none
  | .tuple ds => if flatD x && ds.all flatD then some (ds.any fun y => PyData.eqv y x) else none
  | _ => none
def ltD : D → D → Option Bool
  | .int a, .int b => some (decide (a < b))
  | .tuple a, .tuple b => match intsOf a, intsOf b with
    | some x, some y => some (HT.lexLt x y)
    | _, _ => none
  | _, _ => none
def cmpD : COp → D → D → Option Bool
  | .eq, a, b => eqD a b
  | .ne, a, b => (eqD a b).map not
  | .lt, a, b => ltD a b
  | .le, .int a, .int b => some (decide (a ≤ b))
  | .gt, .int a, .int b => some (decide (b < a))
  | .ge, .int a, .int b => some (decide (b ≤ a))
  | .isin, a, b => inD a b
  | .notin, a, b => (inD a b).map not
  | .isN, a, .none => match a with | .none => some true | _ => some false
  | .notN, a, .none => match a with | .none => some false | _ => some true
  | _, _, _ => none
def inDict (M : Mem) (x : D) (i : Nat) : Option Bool := match M[i]? with
  | some (.dK kvs) => (keyD x).map fun k => (dGet kvs k).isSome
  | some (.dT kvs) => (nkT x).map fun k => (dGet kvs k).isSome
  | _ => none
def cmpV (M : Mem) (o : COp) (a b : Val) : Option Bool :=
  match rdV M a with
  | none => none
  | some x => match rdV M b with
    | some y => cmpD o x y
    | none => match b, o with
      | .ref i, .isin => inDict M x i
      | .ref i, .notin => (inDict M x i).map not
      | _, _ => none
def truD : D → Option Bool
  | .none => some false
  | .bool b => some b
  | .int i => some (i != 0)
  | .str s => if s.length ≤ lim then some ((s.length : Int) != 0) else none
  | .list xs => some (!xs.isEmpty)
  | .tuple xs => some (!xs.isEmpty)
  | .dict _ => none
def truV (M : Mem) (v : Val) : Option Bool := (rdV M v).bind truD
def idxV (M : Mem) (v : Val) (w : Val) : Option Val :=
  match v with
  | .d (.list xs) => match w with | .d (.int i) => (L2.atI xs i).map .d | _ => none
  | .d (.tuple xs) => match w with | .d (.int i) => (L2.atI xs i).map .d | _ => none
  | .d (.str s) => match w with | .d (.int i) => if s.length ≤ lim then (L2.atI s.cps.toList i).map (fun c => .d (.str ⟨#[c]⟩)) else none | _ => none
  | .ref j => match M[j]? with
    | some (.lst xs) => match w with | .d (.int i) => (L2.atI xs i).map .d | _ => none
    | some (.box xs) => match w with | .d (.int i) => L2.atI xs i | _ => none
    | some (.dK kvs) => match w with | .d x => (keyD x).bind fun k => (dGet kvs k).map .d | _ => none
    | some (.dT kvs) => match w with | .d x => (nkT x).bind fun k => (dGet kvs k).map .d | _ => none
    | _ => none
  | _ => none
def cutL {α : Type} (xs : List α) (lo hi : Option Int) : List α := (xs.drop (HT.sIx xs.length 0 lo)).take (HT.sIx xs.length xs.length hi - HT.sIx xs.length 0 lo)
def cutD : D → Option Int → Option Int → Option D
  | .list xs, lo, hi => some (.list (cutL xs lo hi))
  | .tuple xs, lo, hi => some (.tuple (cutL xs lo hi))
  | _, _, _ => none
def revD : D → Option D
  | .list xs => some (.list xs.reverse)
  | .tuple xs => some (.tuple xs.reverse)
  | _ => none
def rngD (a b : Int) : List D := (List.range (b - a).toNat).map fun (i : Nat) => .int (a + (i : Int))
def rngOk (a b : Int) : Bool := decide (-(2 ^ 62) ≤ a ∧ a < 2 ^ 62 ∧ -(2 ^ 62) ≤ b ∧ b < 2 ^ 62 ∧ (b - a).toNat ≤ lim)
def isD : TK → D → Bool
  | .int, .int _ => true
  | .int, .bool _ => true
  | .bool, .bool _ => true
  | .str, .str _ => true
  | .tuple, .tuple _ => true
  | .list, .list _ => true
  | _, _ => false
def lenV (M : Mem) : Val → Option Int
  | .d (.list xs) => some xs.length
  | .d (.tuple xs) => some xs.length
  | .d (.str s) => if s.length ≤ lim then some s.length else none
  | .ref j => match M[j]? with
    | some (.lst xs) => some xs.length
    | some (.scr xs) => some xs.length
    | _ => none
  | _ => none
def d1 (f : D → Option D) : List D → Option D
  | [] => none
  | x :: r => match r with
    | [] => f x
    | _ :: _ => none
def d2 (f : D → D → Option D) : List D → Option D
  | [] => none
  | x :: r => match r with
    | [] => none
    | y :: r => match r with
      | [] => f x y
      | _ :: _ => none
def dInt {α : Type} (f : Int → Option α) : D → Option α
  | .int i => f i
  | _ => none
def dList {α : Type} (f : List D → Option α) : D → Option α
  | .list xs => f xs
  | _ => none
def dSeq (f : List D → Option D) : D → Option D
  | .list xs => f xs
  | .tuple xs => f xs
  | _ => none
def dInt1 : D → Option D
  | .int i => some (.int i)
  | .bool b => some (.int (if b then 1 else 0))
  | _ => none
def biD : BI → List D → Option D
  | .abs => d1 (dInt fun i => some (.int (if i < 0 then -i else i)))
  | .int => d1 dInt1
  | .tuple => d1 (dSeq fun xs => some (.tuple xs))
  | .list => d1 (dSeq fun xs => some (.list xs))
  | .sorted => d1 (dSeq fun xs => (sortD xs).map .list)
  | .sum => d1 (dList fun xs => (intsOf xs).map fun ns => .int ns.sum)
  | .min2 => d2 fun x y => dInt (fun i => dInt (fun j => some (.int (if j < i then j else i))) y) x
  | .max2 => d2 fun x y => dInt (fun i => dInt (fun j => some (.int (if j > i then j else i))) y) x
  | .rngT => d1 (dInt fun n => if rngOk 0 n then some (.tuple (rngD 0 n)) else none)
  | .rngL => d1 (dInt fun n => if rngOk 0 n then some (.list (rngD 0 n)) else none)
  | .rngT2 => d2 fun x y => dInt (fun a => dInt (fun b => if rngOk a b then some (.tuple (rngD a b)) else none) y) x
  | .rngL2 => d2 fun x y => dInt (fun a => dInt (fun b => if rngOk a b then some (.list (rngD a b)) else none) y) x
  | .len => fun _ => none
def rdVs (M : Mem) : List Val → Option (List D)
  | [] => some []
  | v :: r => match rdV M v, rdVs M r with
    | some x, some xs => some (x :: xs)
    | _, _ => none
def v1 {α : Type} (f : Val → Option α) : List Val → Option α
  | [] => none
  | x :: r => match r with
    | [] => f x
    | _ :: _ => none
/-- a dict's keys, sorted -/
def keysSorted (M : Mem) : Val → Option D
  | .d _ => none
  | .ref i => match M[i]? with
    | some (.dK kvs) => (sortD (kvs.map fun kv => dKey kv.1)).map .list
    | some (.dT kvs) => (sortD (kvs.map fun kv => kv.1.data)).map .list
    | _ => none
def biR (b : BI) (M : Mem) (vs : List Val) : Option D := (rdVs M vs).bind (biD b)
def biV (b : BI) (M : Mem) (vs : List Val) : Option D :=
  match b with
  | .len => v1 (fun v => (lenV M v).map .int) vs
  | .sorted => match rdVs M vs with
    | some ds => biD .sorted ds
    | none => v1 (keysSorted M) vs
  | .abs => biR .abs M vs
  | .int => biR .int M vs
  | .tuple => biR .tuple M vs
  | .list => biR .list M vs
  | .sum => biR .sum M vs
  | .min2 => biR .min2 M vs
  | .max2 => biR .max2 M vs
  | .rngT => biR .rngT M vs
  | .rngL => biR .rngL M vs
  | .rngT2 => biR .rngT2 M vs
  | .rngL2 => biR .rngL2 M vs
/-- the first place of an equal item -/
def indexD (x : D) : List D → Nat → Option Nat
  | [], _ => none
  | y :: r, n => if PyData.eqv y x then some n else indexD x r (n + 1)
def onL {α : Type} (M : Mem) (v : Val) (f : Nat → List D → Option α) : Option α := match v with
  | .d _ => none
  | .ref i => match M[i]? with
    | some (.lst xs) => f i xs
    | _ => none
def vD {α : Type} (f : D → Option α) : Val → Option α
  | .d x => f x
  | .ref _ => none
def v0 {α : Type} (z : Option α) : List Val → Option α
  | [] => z
  | _ :: _ => none
def v2 {α : Type} (f : Val → Val → Option α) : List Val → Option α
  | [] => none
  | x :: r => v1 (f x) r
def dTup {α : Type} (f : List D → Option α) : D → Option α
  | .tuple xs => f xs
  | _ => none
def oB {α : Type} (b : Bool) (z : Option α) : Option α := match b with
  | true => z
  | false => none
def popA (M : Mem) (i : Nat) (xs : List D) (j : Int) : Option (Val × Mem) := oB (decide (-(2 ^ 63) ≤ j ∧ j < 2 ^ 63)) ((seqIndex? j xs.length).bind fun k => xs[k]?.map fun y => (.d y, M.set i (.lst (xs.eraseIdx k))))
def mtV (m : MT) (M : Mem) (o : Val) (vs : List Val) : Option (Val × Mem) :=
  match m with
  | .append => onL M o fun i xs => v1 (vD fun x => oB (decide (xs.length < lim)) (some (.d .none, M.set i (.lst (xs ++ [x]))))) vs
  | .pop0 => onL M o fun i xs => v0 (xs[xs.length - 1]?.map fun y => (.d y, M.set i (.lst xs.dropLast))) vs
  | .popAt => onL M o fun i xs => v1 (vD (dInt fun j => popA M i xs j)) vs
  | .insert => onL M o fun i xs => v2 (fun a b => vD (dInt fun j => vD (fun x => oB (decide (0 ≤ j ∧ j ≤ xs.length ∧ xs.length < lim)) (some (.d .none, M.set i (.lst (xs.take j.toNat ++ [x] ++ xs.drop j.toNat))))) b) a) vs
  | .extend => onL M o fun i xs => v1 (vD (dList fun ys => oB (decide (xs.length + ys.length ≤ lim)) (some (.d .none, M.set i (.lst (xs ++ ys)))))) vs
  | .index => vD (dList fun xs => v1 (vD fun x => oB ((flatD x && xs.all flatD) || (SeqAt.shaped x && SeqAt.shaped (.list xs))) ((indexD x xs 0).map fun k => (.d (.int (k : Nat)), M))) vs) o
  | .indexT => vD (dTup fun xs => v1 (vD fun x => oB (flatD x && xs.all flatD) ((indexD x xs 0).map fun k => (.d (.int (k : Nat)), M))) vs) o

/-! ### names -/
def getE (σ : Env) (i : Nat) : Option Val := match σ[i]? with
  | some (some v) => some v
  | _ => none
def wipeE (σ : Env) : List Nat → Env
  | [] => σ
  | v :: vs => (wipeE σ vs).set v none
def asgT : Tg → D → Env → Option Env
  | .nm i, x, σ => some (σ.set i (some (.d x)))
  | .tup2 a b, .tuple [x, y], σ => (asgT a x σ).bind (asgT b y)
  | .tup3 a b c, .tuple [x, y, z], σ => ((asgT a x σ).bind (asgT b y)).bind (asgT c z)
  | _, _, _ => none

/-! ### what pieces compute -/
abbrev SF := Env → Mem → Res Val
abbrev SA := Env → Mem → Res (List Val)
abbrev SI := Env → Mem → Res (List D)
def ofO {α : Type} (o : Option α) (M : Mem) : Res α := match o with
  | some a => .ok a M
  | none => .no
def sVar (i : Nat) : SF := fun σ M => ofO (getE σ i) M
def sCon (c : D) : SF := fun _ M => .ok (.d c) M
def sNil : SA := fun _ M => .ok [] M
def sCons (f : SF) (g : SA) : SA := fun σ M => (f σ M).bind fun v M1 => (g σ M1).bind fun vs M2 => .ok (v :: vs) M2
def sTup (g : SA) : SF := fun σ M => (g σ M).bind fun vs M1 => match toDs vs with
  | some ds => if ds.length ≤ lim then .ok (.d (.tuple ds)) M1 else .no
  | none => .no
def sLst (g : SA) : SF := fun σ M => (g σ M).bind fun vs M1 => match toDs vs with
  | some ds => if ds.length ≤ lim then .ok (.d (.list ds)) M1 else .no
  | none => .no
def sBox (g : SA) : SF := fun σ M => (g σ M).bind fun vs M1 => if vs.length ≤ lim then .ok (.ref M1.length) (M1 ++ [.box vs]) else .no
def sNew (f : SF) : SF := fun σ M => (f σ M).bind fun v M1 => match v with
  | .d (.list xs) => .ok (.ref M1.length) (M1 ++ [.lst xs])
  | _ => .no
def sBin (o : BOp) (f g : SF) : SF := fun σ M => (f σ M).bind fun v M1 => (g σ M1).bind fun w M2 => match rdV M2 v, rdV M2 w with
  | some x, some y => (ofO (binD o x y) M2).bind fun z M3 => .ok (.d z) M3
  | _, _ => .no
def sNeg (f : SF) : SF := fun σ M => (f σ M).bind fun v M1 => match v with
  | .d (.int i) => .ok (.d (.int (-i))) M1
  | _ => .no
def sCmp (o : COp) (f g : SF) : SF := fun σ M => (f σ M).bind fun v M1 => (g σ M1).bind fun w M2 => (ofO (cmpV M2 o v w) M2).bind fun b M3 => .ok (.d (.bool b)) M3
def sChn (o p : COp) (f g h : SF) : SF := fun σ M => (f σ M).bind fun v M1 => (g σ M1).bind fun w M2 => (ofO (cmpV M2 o v w) M2).bind fun b M3 =>
  if b then (h σ M3).bind fun u M4 => (ofO (cmpV M4 p w u) M4).bind fun c M5 => .ok (.d (.bool c)) M5 else .ok (.d (.bool false)) M3
def sAnd (f g : SF) : SF := fun σ M => (f σ M).bind fun v M1 => (ofO (truV M1 v) M1).bind fun b M2 => if b then g σ M2 else .ok v M2
def sOr (f g : SF) : SF := fun σ M => (f σ M).bind fun v M1 => (ofO (truV M1 v) M1).bind fun b M2 => if b then .ok v M2 else g σ M2
def sNot (f : SF) : SF := fun σ M => (f σ M).bind fun v M1 => (ofO (truV M1 v) M1).bind fun b M2 => .ok (.d (.bool (!b))) M2
def sIf (c f g : SF) : SF := fun σ M => (c σ M).bind fun v M1 => (ofO (truV M1 v) M1).bind fun b M2 => if b then f σ M2 else g σ M2
def sIdx (f g : SF) : SF := fun σ M => (f σ M).bind fun v M1 => (g σ M1).bind fun w M2 => ofO (idxV M2 v w) M2
abbrev SO := Env → Mem → Res (Option Int)
def sNon : SO := fun _ M => .ok none M
def sSom (f : SF) : SO := fun σ M => (f σ M).bind fun v M1 => match v with
  | .d (.int i) => .ok (some i) M1
  | _ => .no
def sSlc (f : SF) (lo hi : SO) : SF := fun σ M => (f σ M).bind fun v M1 => (lo σ M1).bind fun l M2 => (hi σ M2).bind fun h M3 => match rdS M3 v with
  | some x => (ofO (cutD x l h) M3).bind fun z M4 => .ok (.d z) M4
  | none => .no
def sRev (f : SF) : SF := fun σ M => (f σ M).bind fun v M1 => match rdV M1 v with
  | some x => (ofO (revD x) M1).bind fun z M2 => .ok (.d z) M2
  | none => .no
def sBi (b : BI) (g : SA) : SF := fun σ M => (g σ M).bind fun vs M1 => (ofO (biV b M1 vs) M1).bind fun z M2 => .ok (.d z) M2
def sIsi (f : SF) (t : TK) : SF := fun σ M => (f σ M).bind fun v M1 => match v with
  | .d x => .ok (.d (.bool (isD t x))) M1
  | _ => .no
/-- the receiver's kind -/
def isRL (M : Mem) : Val → Bool
  | .d _ => false
  | .ref j => match M[j]? with
    | some (.lst _) => true
    | _ => false
def isDL : Val → Bool
  | .d x => match x with | .list _ => true | _ => false
  | .ref _ => false
def isDT : Val → Bool
  | .d x => match x with | .tuple _ => true | _ => false
  | .ref _ => false
def kindM (m : MT) (M : Mem) (v : Val) : Bool := match m with
  | .index => isDL v
  | .indexT => isDT v
  | .append => isRL M v
  | .pop0 => isRL M v
  | .popAt => isRL M v
  | .insert => isRL M v
  | .extend => isRL M v
def sMt (m : MT) (f : SF) (g : SA) : SF := fun σ M => (f σ M).bind fun v M1 => if kindM m M1 v then (g σ M1).bind fun vs M2 => match mtV m M2 v vs with
  | some (z, M3) => .ok z M3
  | none => .no else .no
def sDnw (t : Bool) : SF := fun _ M => .ok (.ref M.length) (M ++ [if t then .dT [] else .dK []])
/-- {k: v}, k a tuple -/
def sDdsp (f g : SF) : SF := fun σ M => (f σ M).bind fun v M1 => (g σ M1).bind fun w M2 => match v, w with
  | .d x, .d y => match nkT x with
    | some ks => .ok (.ref M2.length) (M2 ++ [.dT [(ks, y)]])
    | none => .no
  | _, _ => .no
/-- dict of pairs -/
def dpair : D → Option (L2.Key × D)
  | .tuple xs => match xs with
    | [] => none
    | a :: r => match r with
      | [] => none
      | b :: r => match r with
        | [] => (keyD a).map fun k => (k, b)
        | _ :: _ => none
  | _ => none
def dpairs : List D → Option (List (L2.Key × D))
  | [] => some []
  | x :: xs => match dpair x, dpairs xs with
    | some k, some r => some (k :: r)
    | _, _ => none
def dAll (kvs : List (L2.Key × D)) : List (L2.Key × D) := kvs.foldl (fun acc kv => dPut acc kv.1 kv.2) []
def vPairs : List Val → Option (List (L2.Key × D)) := v1 fun v => match v with
  | .d x => match x with
    | .list xs => if xs.length ≤ lim then dpairs xs else none
    | _ => none
  | .ref _ => none
def npair : D → Option (NestedKey × D)
  | .tuple xs => match xs with
    | [] => none
    | a :: r => match r with
      | [] => none
      | b :: r => match r with
        | [] => (nkT a).map fun k => (k, b)
        | _ :: _ => none
  | _ => none
def npairs : List D → Option (List (NestedKey × D))
  | [] => some []
  | x :: xs => match npair x, npairs xs with
    | some k, some r => some (k :: r)
    | _, _ => none
def dAllT (kvs : List (NestedKey × D)) : List (NestedKey × D) := kvs.foldl (fun acc kv => dPut acc kv.1 kv.2) []
def vPairsT : List Val → Option (List (NestedKey × D)) := v1 fun v => match v with
  | .d x => match x with
    | .list xs => if xs.length ≤ lim then npairs xs else none
    | _ => none
  | .ref _ => none
/-- dict of pairs, its keys whole numbers and texts, or tuples -/
def dcpO (vs : List Val) : Option Ob := match vPairs vs with
  | some kvs => some (.dK (dAll kvs))
  | none => match vPairsT vs with
    | some kvs => some (.dT (dAllT kvs))
    | none => none
def sDcp (g : SA) : SF := fun σ M => (g σ M).bind fun vs M1 => match dcpO vs with
  | some ob => .ok (.ref M1.length) (M1 ++ [ob])
  | none => .no
def sOv (f : SF) : SI := fun σ M => (f σ M).bind fun v M1 => match v with
  | .d (.list xs) => .ok xs M1
  | .d (.tuple xs) => .ok xs M1
  | _ => .no
def sRg1 (f : SF) : SI := fun σ M => (f σ M).bind fun v M1 => match v with
  | .d (.int n) => if rngOk 0 n then .ok (rngD 0 n) M1 else .no
  | _ => .no
def sRg2 (f g : SF) : SI := fun σ M => (f σ M).bind fun v M1 => (g σ M1).bind fun w M2 => match v, w with
  | .d (.int a), .d (.int b) => if rngOk a b then .ok (rngD a b) M2 else .no
  | _, _ => .no
def enmL : List D → Nat → List D
  | [], _ => []
  | x :: r, n => .tuple [.int n, x] :: enmL r (n + 1)
def sEnm (f : SF) : SI := fun σ M => (f σ M).bind fun v M1 => match v with
  | .d (.list xs) => .ok (enmL xs 0) M1
  | .d (.tuple xs) => .ok (enmL xs 0) M1
  | _ => .no
def sTst (c : Option SF) (σ : Env) (M : Mem) : Res Bool := match c with
  | none => .ok true M
  | some c => (c σ M).bind fun v M1 => ofO (truV M1 v) M1
/-- a comprehension's turns -/
def lcL (tg : Tg) (own : List Nat) (c : Option SF) (f : SF) (σ : Env) : List D → Mem → Res (List D)
  | [], M => .ok [] M
  | x :: xs, M => match asgT tg x (wipeE σ own) with
    | none => .no
    | some σ1 => (sTst c σ1 M).bind fun b M2 =>
      if b then (f σ1 M2).bind fun v M3 => match v with
        | .d y => (lcL tg own c f σ xs M3).bind fun ys M4 => .ok (y :: ys) M4
        | _ => .no
      else lcL tg own c f σ xs M2
def sLc (tg : Tg) (own : List Nat) (it : SI) (c : Option SF) (f : SF) : SF := fun σ M => (it σ M).bind fun xs M1 => match lcL tg own c f σ xs M1 with
  | .ok ys M2 => if ys.length ≤ lim then .ok (.d (.list ys)) M2 else .no
  | _ => .no

/-! ### statements -/
inductive Fl where
  | nx (σ : Env) | rt (v : Val) | bk (σ : Env) | ct (σ : Env)
abbrev SS := Env → Mem → Res Fl
def sSet (i : Nat) (f : SF) : SS := fun σ M => (f σ M).bind fun v M1 => .ok (.nx (σ.set i (some v))) M1
def sAsg (tg : Tg) (f : SF) : SS := fun σ M => (f σ M).bind fun v M1 => match v with
  | .d x => (ofO (asgT tg x σ) M1).bind fun σ1 M2 => .ok (.nx σ1) M2
  | _ => .no
def sPar2 (i j : Nat) (f g : SF) : SS := fun σ M => (f σ M).bind fun v M1 => (g σ M1).bind fun w M2 => .ok (.nx ((σ.set i (some v)).set j (some w))) M2
def setN : List Nat → List Val → Env → Env
  | i :: is, v :: vs, σ => setN is vs (σ.set i (some v))
  | _, _, σ => σ
def sParN (is : List Nat) (g : SA) : SS := fun σ M => (g σ M).bind fun vs M1 => if vs.length = is.length ∧ vs.length ≤ lim then .ok (.nx (setN is vs σ)) M1 else .no
def okRef (i : Nat) : Val → Bool
  | .d _ => true
  | .ref j => decide (j < i)
def setV (M : Mem) (o w v : Val) : Option Mem :=
  match o with
  | .ref i => match M[i]? with
    | some (.lst xs) => match w, v with
      | .d (.int k), .d x => (L2.ixN xs.length k).map fun j => M.set i (.lst (xs.set j x))
      | _, _ => none
    | some (.box xs) => match w with
      | .d (.int k) => if okRef i v then (L2.ixN xs.length k).map fun j => M.set i (.box (xs.set j v)) else none
      | _ => none
    | some (.dK kvs) => match w, v with
      | .d x, .d y => match keyD x with
        | some k => if kvs.length < lim then some (M.set i (.dK (dPut kvs k y))) else none
        | none => none
      | _, _ => none
    | some (.dT kvs) => match w, v with
      | .d x, .d y => match nkT x with
        | some k => if kvs.length < lim then some (M.set i (.dT (dPut kvs k y))) else none
        | none => none
      | _, _ => none
    | _ => none
  | _ => none
/-- o[i] = v : v, o, i in this order -/
def sSetI (fo fi fv : SF) : SS := fun σ M => (fv σ M).bind fun v M1 => (fo σ M1).bind fun o M2 => (fi σ M2).bind fun w M3 => match setV M3 o w v with
  | some M4 => .ok (.nx σ) M4
  | none => .no
def sAug (i : Nat) (o : BOp) (f : SF) : SS := fun σ M => match getE σ i with
  | some (.d (.int x)) => (f σ M).bind fun v M1 => match o, v with
    | .add, .d (.int y) => .ok (.nx (σ.set i (some (.d (.int (x + y)))))) M1
    | .sub, .d (.int y) => .ok (.nx (σ.set i (some (.d (.int (x - y)))))) M1
    | _, _ => .no
  | _ => .no
def sExp (f : SF) : SS := fun σ M => (f σ M).bind fun _ M1 => .ok (.nx σ) M1
def sRet (f : SF) : SS := fun σ M => (f σ M).bind fun v M1 => .ok (.rt v) M1
def sRetn : SS := fun _ M => .ok (.rt (.d .none)) M
def sIff (c : SF) (f g : SS) : SS := fun σ M => (c σ M).bind fun v M1 => (ofO (truV M1 v) M1).bind fun b M2 => if b then f σ M2 else g σ M2
/-- a loop's turns -/
def forL (tg : Tg) (b : SS) : List D → SS
  | [], σ, M => .ok (.nx σ) M
  | x :: xs, σ, M => match asgT tg x σ with
    | none => .no
    | some σ1 => (b σ1 M).bind fun fl M1 => match fl with
      | .nx σ2 => forL tg b xs σ2 M1
      | .ct σ2 => forL tg b xs σ2 M1
      | .bk σ2 => .ok (.nx σ2) M1
      | .rt v => .ok (.rt v) M1
def sFor (tg : Tg) (it : SI) (b : SS) : SS := fun σ M => (it σ M).bind fun xs M1 => forL tg b xs σ M1
def whL (c : SF) (b : SS) : Nat → SS
  | 0, _, _ => .no
  | n + 1, σ, M => (c σ M).bind fun v M1 => (ofO (truV M1 v) M1).bind fun t M2 => if t then (b σ M2).bind fun fl M3 => match fl with
      | .nx σ2 => whL c b n σ2 M3
      | .ct σ2 => whL c b n σ2 M3
      | .bk σ2 => .ok (.nx σ2) M3
      | .rt v => .ok (.rt v) M3
    else .ok (.nx σ) M2
def wfuel : Nat := 1000000
def sWhil (c : SF) (b : SS) : SS := whL c b wfuel
def sBrk : SS := fun σ M => .ok (.bk σ) M
def sCtn : SS := fun σ M => .ok (.ct σ) M
def sPas : SS := fun σ M => .ok (.nx σ) M
def sSeq (f g : SS) : SS := fun σ M => (f σ M).bind fun fl M1 => match fl with
  | .nx σ1 => g σ1 M1
  | .rt v => .ok (.rt v) M1
  | .bk σ1 => .ok (.bk σ1) M1
  | .ct σ1 => .ok (.ct σ1) M1
/-- the list at the name i is never changed any more: it is a value from here on -/
def sFrz (i : Nat) : SS := fun σ M => match getE σ i with
  | some (.ref j) => match M[j]? with
    | some (.lst xs) => .ok (.nx (σ.set i (some (.d (.list xs))))) (M.set j .dead)
    | _ => .no
  | _ => .no

/-! ### the whole -/
abbrev CT := Nat → List Val → Mem → Res Val
def sCall (C : CT) (k : Nat) (g : SA) : SF := fun σ M => (g σ M).bind fun vs M1 => C k vs M1
/-- place j of the parameters: the perm[j]-th of what is written -/
def permV (vs : List Val) : List Nat → Option (List Val)
  | [] => some []
  | p :: ps => match vs[p]?, permV vs ps with
    | some v, some r => some (v :: r)
    | _, _ => none
def sCallk (C : CT) (k : Nat) (g h : SA) (perm : List Nat) : SF := fun σ M => (g σ M).bind fun vs M1 => (h σ M1).bind fun ws M2 => match permV (vs ++ ws) perm with
  | some us => C k us M2
  | none => .no

section
variable (G : Nat → Option D) (C : CT)
def sGlb (g : Nat) : SF := fun _ M => (ofO (G g) M).bind fun x M1 => .ok (.d x) M1
mutual
def evE : ME → SF
  | .var i => sVar i
  | .con c => sCon c
  | .glb g => sGlb G g
  | .tup es => sTup (evEs es)
  | .lst es => sLst (evEs es)
  | .box es => sBox (evEs es)
  | .new e => sNew (evE e)
  | .bin o a b => sBin o (evE a) (evE b)
  | .neg a => sNeg (evE a)
  | .cmp o a b => sCmp o (evE a) (evE b)
  | .chn o p a b c => sChn o p (evE a) (evE b) (evE c)
  | .and a b => sAnd (evE a) (evE b)
  | .or a b => sOr (evE a) (evE b)
  | .not a => sNot (evE a)
  | .ife c a b => sIf (evE c) (evE a) (evE b)
  | .idx a i => sIdx (evE a) (evE i)
  | .slc a lo hi => sSlc (evE a) (evO lo) (evO hi)
  | .rev a => sRev (evE a)
  | .call k es => sCall C k (evEs es)
  | .callk k es ks p => sCallk C k (evEs es) (evEs ks) p
  | .bi b es => sBi b (evEs es)
  | .isi a t => sIsi (evE a) t
  | .mt m o es => sMt m (evE o) (evEs es)
  | .lc own tg it ifs e => sLc tg own (evI it) (evC ifs) (evE e)
  | .dnw t => sDnw t
  | .ddsp k v => sDdsp (evE k) (evE v)
  | .dcp es => sDcp (evEs es)
def evEs : MEs → SA
  | .nil => sNil
  | .cons e es => sCons (evE e) (evEs es)
def evO : MO → SO
  | .non => sNon
  | .som e => sSom (evE e)
def evI : MI → SI
  | .ov e => sOv (evE e)
  | .rg1 a => sRg1 (evE a)
  | .rg2 a b => sRg2 (evE a) (evE b)
  | .enm e => sEnm (evE e)
def evC : MEs → Option SF
  | .nil => none
  | .cons e _ => some (evE e)
end
mutual
def evS : MS → SS
  | .set i e => sSet i (evE G C e)
  | .asg tg e => sAsg tg (evE G C e)
  | .par2 i j a b => sPar2 i j (evE G C a) (evE G C b)
  | .parN is es => sParN is (evEs G C es)
  | .setI o i e => sSetI (evE G C o) (evE G C i) (evE G C e)
  | .aug i o e => sAug i o (evE G C e)
  | .exp e => sExp (evE G C e)
  | .ret e => sRet (evE G C e)
  | .retn => sRetn
  | .iff c a b => sIff (evE G C c) (evSs a) (evSs b)
  | .forr tg it b => sFor tg (evI G C it) (evSs b)
  | .whil c b => sWhil (evE G C c) (evSs b)
  | .brk => sBrk
  | .ctn => sCtn
  | .pas => sPas
  | .frz i => sFrz i
def evSs : MSs → SS
  | .nil => sPas
  | .cons s ss => sSeq (evS s) (evSs ss)
end
end

/-- a def: how many parameters, how many names, its body, whether what it made is let go at its end -/
structure Fn where
  np : Nat
  ns : Nat
  body : MSs
  tr : Bool
def outV (n : Nat) (tr : Bool) (v : Val) (M : Mem) : Res Val :=
  if tr then match v with
    | .d x => .ok (.d x) (M.take n)
    | .ref i => if i < n then .ok (.ref i) (M.take n) else .no
  else .ok v M
def runFn (G : Nat → Option D) (C : CT) (fn : Fn) (vs : List Val) (M : Mem) : Res Val :=
  if vs.length = fn.np then (evSs G C fn.body (vs.map some ++ List.replicate (fn.ns - fn.np) none) M).bind fun fl M1 => match fl with
    | .nx _ => outV M.length fn.tr (.d .none) M1
    | .rt v => outV M.length fn.tr v M1
    | _ => .no
  else .no
def callAt (G : Nat → Option D) (T : List Fn) : Nat → CT
  | 0 => fun _ _ _ => .no
  | n + 1 => fun k vs M => match T[k]? with
    | some fn => runFn G (callAt G T n) fn vs M
    | none => .no
end Mp
end
section
set_option maxHeartbeats 4000000
/-! How the small Python's values and memory lie in the abstract heap (R, RV, RM), what a step keeps (F). -/
namespace Mp
open PySem PySem.Spec PyProof.Rows L2

/-- the written part; the program, the world -/
structure Kf where
  K : PySem.W.Frag
  P : Program
  w : World
/-- a tuple whose object is known -/
def sT (its : List Value) (xs : List V) : HO := .frz { cls := .type "tuple", data := .seq its.toArray } (.tup xs)
def TupAt (K : Kf) (H : Hp) (a : Addr) (vs : List V) : Prop := (∃ its, H a = some (sT its vs)) ∨
  ∃ (o : Obj) (its : Array Value) (n : Nat), K.K.lookup a = some o ∧ o.cls = .type "tuple" ∧ o.dict = none ∧ o.data = .seq its n ∧ its.size ≤ sizeLine ∧ Vals vs its.toList
theorem TupAt.sq {K : Kf} {H : Hp} {a : Addr} {vs : List V} (h : TupAt K H a vs) : SqT K.K H a vs := by
  rcases h with ⟨its, h⟩ | ⟨o, its, n, h1, h2, h3, h4⟩
  · exact .inl (.inr ⟨_, h⟩)
  · exact .inr ⟨o, its, n, h1, h2, h4⟩
/-- a dict whose keys are tuples, by its own object -/
def dNφ (K : Kf) (a : Addr) (xs : List (NestedKey × Addr × V)) : Heap → Prop := fun h => (a == sysModules) = false ∧ xs.length ≤ sizeLine ∧ (xs.map (·.1)).Nodup ∧
  ∃ us : List (NestedKey × Addr × Value), Paired (fun (x : NestedKey × Addr × V) (u : NestedKey × Addr × Value) => x.1 = u.1 ∧ x.2.1 = u.2.1 ∧ RelV x.2.2 u.2.2) xs us ∧
  ∃ o es ep, h.get? a = some o ∧ o.ExactDict ∧ o.data = .dict es ep ∧ es.toList = us.map (entryOfKey (nestedKind K.P K.w))
def dN (K : Kf) (a : Addr) (xs : List (NestedKey × Addr × V)) : HO := .ext (dNφ K a xs)

/-! ### data -/
mutual
def R (K : Kf) (H : Hp) (av : Addr → Prop) : D → V → Prop
  | .none, v => v = .non
  | .bool b, v => v = .bl b
  | .int i, v => v = .int i
  | .str s, v => v = .str s
  | .tuple ds, v => ∃ a vs, v = .ref a ∧ TupAt K H a vs ∧ Rs K H av ds vs
  | .list ds, v => ∃ a vs, v = .ref a ∧ H a = some (.lst vs) ∧ ¬ av a ∧ Rs K H av ds vs
  | .dict _, _ => False
def Rs (K : Kf) (H : Hp) (av : Addr → Prop) : List D → List V → Prop
  | [], vs => vs = []
  | d :: ds, vs => ∃ v r, vs = v :: r ∧ R K H av d v ∧ Rs K H av ds r
end

def isDead : Ob → Bool
  | .dead => true
  | .scr _ => true
  | _ => false
/-- the script's list: never changed -/
def ScrAt (K : Kf) (H : Hp) (a : Addr) (vs : List V) : Prop := (∃ o, H a = some (.frz o (.lst vs))) ∨
  ∃ (o : Obj) (its : Array Value) (n : Nat), K.K.lookup a = some o ∧ o.cls = .type "list" ∧ o.dict = none ∧ o.data = .seq its n ∧ its.size ≤ sizeLine ∧ Vals vs its.toList
theorem ScrAt.sq {K : Kf} {H : Hp} {a : Addr} {vs : List V} (h : ScrAt K H a vs) : SqL K.K H a vs := by
  rcases h with h | h
  · exact .inl (.inr h)
  · exact .inr h
def live (am : List Addr) (M : Mem) (a : Addr) : Prop := ∃ (i : Nat) (ob : Ob), am[i]? = some a ∧ M[i]? = some ob ∧ isDead ob = false
def avS (ex am : List Addr) (M : Mem) (a : Addr) : Prop := a ∈ ex ∨ live am M a

def RV (K : Kf) (H : Hp) (av : Addr → Prop) (am : List Addr) : Val → V → Prop
  | .d x, v => R K H av x v
  | .ref i, v => ∃ a, am[i]? = some a ∧ v = .ref a
def RVs (K : Kf) (H : Hp) (av : Addr → Prop) (am : List Addr) : List Val → List V → Prop
  | [], vs => vs = []
  | x :: xs, vs => ∃ v r, vs = v :: r ∧ RV K H av am x v ∧ RVs K H av am xs r
def RK {κ : Type} (K : Kf) (H : Hp) (av : Addr → Prop) : List (κ × D) → List (κ × V) → Prop
  | [], vs => vs = []
  | x :: xs, vs => ∃ v r, vs = (x.1, v) :: r ∧ R K H av x.2 v ∧ RK K H av xs r

/-- the entries of a dict whose keys are tuples -/
def RD (K : Kf) (H : Hp) (av : Addr → Prop) : List (NestedKey × D) → List (NestedKey × Addr × V) → Prop
  | [], vs => vs = []
  | x :: xs, vs => ∃ q v r, vs = (x.1, q, v) :: r ∧ x.1.depth ≤ 8 ∧ R K H av x.1.data (.ref q) ∧ R K H av x.2 v ∧ RD K H av xs r

def RO (K : Kf) (H : Hp) (av : Addr → Prop) (am : List Addr) (i : Nat) (a : Addr) : Ob → Prop
  | .lst xs => ∃ vs, H a = some (.lst vs) ∧ Rs K H av xs vs
  | .box xs => ∃ vs, H a = some (.lst vs) ∧ RVs K H av am xs vs ∧ ∀ v ∈ xs, okRef i v = true
  | .dK kvs => ∃ vs, H a = some (.dK vs) ∧ RK K H av kvs vs
  | .dT kvs => ∃ xs, H a = some (dN K a xs) ∧ RD K H av kvs xs
  | .ins _ _ => False
  | .scr xs => ∃ vs, ScrAt K H a vs ∧ Rs K H av xs vs
  | .dead => True

structure RM (K : Kf) (ex am : List Addr) (M : Mem) (H : Hp) : Prop where
  len : am.length = M.length
  obj : ∀ (i : Nat) (ob : Ob) (a : Addr), M[i]? = some ob → am[i]? = some a → RO K H (avS ex am M) am i a ob
  inj : ∀ (i j : Nat) (a : Addr) (ob ob' : Ob), am[i]? = some a → am[j]? = some a → M[i]? = some ob → M[j]? = some ob' → isDead ob = false → isDead ob' = false → i = j
  exL : ∀ a, a ∈ ex → ¬ live am M a
  exH : ∀ a, a ∈ ex → ∃ o, H a = some o

def RE (K : Kf) (ex am : List Addr) (M : Mem) (H : Hp) (env : Env) (σ : L2.St) : Prop :=
  env.length = σ.length ∧ ∀ (i : Nat) (v : Val), getE env i = some v → ∃ x, σ[i]? = some (some x) ∧ RV K H (avS ex am M) am v x

structure F (am : List Addr) (M : Mem) (H : Hp) (am' : List Addr) (M' : Mem) (H' : Hp) : Prop where
  keep : ∀ a o, H a = some o → ¬ live am M a → H' a = some o ∧ ¬ live am' M' a
  ext : ∃ more, am' = am ++ more

section
variable {K : Kf} {H H' H1 H2 : Hp} {ex am am' am1 am2 : List Addr} {M M' M1 M2 : Mem} {av av' : Addr → Prop}

theorem F.refl : F am M H am M H := ⟨fun a o h n => ⟨h, n⟩, [], by simp⟩
theorem F.trans (f : F am M H am1 M1 H1) (g : F am1 M1 H1 am2 M2 H2) : F am M H am2 M2 H2 := by
  refine ⟨fun a o h n => ?_, ?_⟩
  · obtain ⟨h1, n1⟩ := f.keep a o h n
    exact g.keep a o h1 n1
  · obtain ⟨m1, e1⟩ := f.ext
    obtain ⟨m2, e2⟩ := g.ext
    exact ⟨m1 ++ m2, by rw [e2, e1, List.append_assoc]⟩
theorem F.at (f : F am M H am' M' H') {i : Nat} {a : Addr} (h : am[i]? = some a) : am'[i]? = some a := by
  obtain ⟨m, e⟩ := f.ext
  rw [e, List.getElem?_append_left (List.getElem?_eq_some_iff.mp h).1]
  exact h

/-- what lies live is a list, a dict, the script -/
theorem RO.ne {i : Nat} {a : Addr} {ob : Ob} (h : RO K H av am i a ob) (n : isDead ob = false) : (∃ o, H a = some o) ∧ (∀ vs, H a ≠ some (.tup vs)) ∧ ∀ o vs, H a ≠ some (.frz o (.tup vs)) := by
  cases ob with
  | lst xs => obtain ⟨vs, e, _⟩ := h; exact ⟨⟨_, e⟩, fun _ q => by rw [e] at q; simp at q, fun _ _ q => by rw [e] at q; simp at q⟩
  | box xs => obtain ⟨vs, e, _⟩ := h; exact ⟨⟨_, e⟩, fun _ q => by rw [e] at q; simp at q, fun _ _ q => by rw [e] at q; simp at q⟩
  | dK xs => obtain ⟨vs, e, _⟩ := h; exact ⟨⟨_, e⟩, fun _ q => by rw [e] at q; simp at q, fun _ _ q => by rw [e] at q; simp at q⟩
  | dT xs => obtain ⟨vs, e, _⟩ := h; exact ⟨⟨_, e⟩, fun _ q => by rw [e] at q; simp [dN] at q, fun _ _ q => by rw [e] at q; simp [dN] at q⟩
  | ins c fs => exact h.elim
  | scr xs => simp [isDead] at n
  | dead => simp [isDead] at n
theorem RM.liveH (m : RM K ex am M H) {a : Addr} (l : live am M a) : (∃ o, H a = some o) ∧ (∀ vs, H a ≠ some (.tup vs)) ∧ ∀ o vs, H a ≠ some (.frz o (.tup vs)) := by
  obtain ⟨i, ob, h1, h2, h3⟩ := l
  exact (m.obj i ob a h2 h1).ne h3
theorem RM.avH (m : RM K ex am M H) {a : Addr} (l : avS ex am M a) : ∃ o, H a = some o := by
  rcases l with l | l
  · exact m.exH a l
  · exact (m.liveH l).1

/-- two heaps that agree on what data reads -/
structure Agr (K : Kf) (H : Hp) (av : Addr → Prop) (H' : Hp) (av' : Addr → Prop) : Prop where
  tup : ∀ a vs, TupAt K H a vs → TupAt K H' a vs
  lst : ∀ a vs, H a = some (.lst vs) → ¬ av a → H' a = some (.lst vs) ∧ ¬ av' a
mutual
theorem Agr.r (g : Agr K H av H' av') : ∀ (d : D) (v : V), R K H av d v → R K H' av' d v
  | .none, _, h => h
  | .bool _, _, h => h
  | .int _, _, h => h
  | .str _, _, h => h
  | .tuple ds, v, h => by
    obtain ⟨a, vs, e, q, r⟩ := h
    exact ⟨a, vs, e, g.tup a vs q, Agr.rs g ds vs r⟩
  | .list ds, v, h => by
    obtain ⟨a, vs, e, q, n, r⟩ := h
    obtain ⟨q', n'⟩ := g.lst a vs q n
    exact ⟨a, vs, e, q', n', Agr.rs g ds vs r⟩
  | .dict _, _, h => h.elim
theorem Agr.rs (g : Agr K H av H' av') : ∀ (ds : List D) (vs : List V), Rs K H av ds vs → Rs K H' av' ds vs
  | [], _, h => h
  | d :: ds, _, h => by
    obtain ⟨v, r, e, h1, h2⟩ := h
    exact ⟨v, r, e, Agr.r g d v h1, Agr.rs g ds r h2⟩
end
theorem Agr.rk {κ : Type} (g : Agr K H av H' av') : ∀ (ds : List (κ × D)) (vs : List (κ × V)), RK K H av ds vs → RK K H' av' ds vs
  | [], _, h => h
  | d :: ds, _, h => by
    obtain ⟨v, r, e, h1, h2⟩ := h
    exact ⟨v, r, e, g.r _ _ h1, Agr.rk g ds r h2⟩
theorem Agr.rd (g : Agr K H av H' av') : ∀ (ds : List (NestedKey × D)) (vs : List (NestedKey × Addr × V)), RD K H av ds vs → RD K H' av' ds vs
  | [], _, h => h
  | d :: ds, _, h => by
    obtain ⟨q, v, r, e, hd, h0, h1, h2⟩ := h
    exact ⟨q, v, r, e, hd, g.r _ _ h0, g.r _ _ h1, Agr.rd g ds r h2⟩
theorem Agr.rv (g : Agr K H av H' av') (ha : ∀ (i : Nat) (a : Addr), am[i]? = some a → am'[i]? = some a) : ∀ (x : Val) (v : V), RV K H av am x v → RV K H' av' am' x v
  | .d x, v, h => g.r x v h
  | .ref i, v, h => by obtain ⟨a, e, q⟩ := h; exact ⟨a, ha i a e, q⟩
theorem Agr.rvs (g : Agr K H av H' av') (ha : ∀ (i : Nat) (a : Addr), am[i]? = some a → am'[i]? = some a) : ∀ (x : List Val) (v : List V), RVs K H av am x v → RVs K H' av' am' x v
  | [], _, h => h
  | x :: xs, _, h => by
    obtain ⟨v, r, e, h1, h2⟩ := h
    exact ⟨v, r, e, Agr.rv g ha x v h1, Agr.rvs g ha xs r h2⟩
/-- an object that itself stays -/
theorem Agr.ro (g : Agr K H av H' av') (ha : ∀ (i : Nat) (a : Addr), am[i]? = some a → am'[i]? = some a) {i : Nat} {a : Addr} {ob : Ob} (hs : ∀ o, H a = some o → H' a = some o) (h : RO K H av am i a ob) : RO K H' av' am' i a ob := by
  cases ob with
  | lst xs => obtain ⟨vs, e, r⟩ := h; exact ⟨vs, hs _ e, g.rs _ _ r⟩
  | box xs => obtain ⟨vs, e, r, w⟩ := h; exact ⟨vs, hs _ e, g.rvs ha _ _ r, w⟩
  | dK xs => obtain ⟨vs, e, r⟩ := h; exact ⟨vs, hs _ e, g.rk _ _ r⟩
  | dT xs => obtain ⟨vs, e, r⟩ := h; exact ⟨vs, hs _ e, g.rd _ _ r⟩
  | ins c fs => exact h.elim
  | scr xs => obtain ⟨vs, e, r⟩ := h; exact ⟨vs, e.imp (fun ⟨o, e⟩ => ⟨o, hs _ e⟩) id, g.rs _ _ r⟩
  | dead => trivial

/-- what is not live, where the heap changes at p -/
theorem RO.deadU {i : Nat} {a p : Addr} {ob : Ob} (d : isDead ob = true) (g : Agr K H av H' av') (hp : ∀ o vs, H p ≠ some (.frz o (.lst vs))) (hH : ∀ b, b ≠ p → H' b = H b) (h : RO K H av am i a ob) : RO K H' av' am' i a ob := by
  cases ob with
  | dead => trivial
  | scr xs =>
    obtain ⟨vs, e, r⟩ := h
    refine ⟨vs, ?_, g.rs _ _ r⟩
    rcases e with ⟨o, e⟩ | e
    · exact .inl ⟨o, by rw [hH a fun z => hp o vs (by rw [← z]; exact e)]; exact e⟩
    · exact .inr e
  | _ => simp [isDead] at d
theorem RO.nfrz {i : Nat} {a : Addr} {ob : Ob} (h : RO K H av am i a ob) (n : isDead ob = false) : ∀ o vs, H a ≠ some (.frz o (.lst vs)) := by
  intro o vs q
  cases ob with
  | lst xs => obtain ⟨vs, e, _⟩ := h; rw [e] at q; simp at q
  | box xs => obtain ⟨vs, e, _⟩ := h; rw [e] at q; simp at q
  | dK xs => obtain ⟨vs, e, _⟩ := h; rw [e] at q; simp at q
  | dT xs => obtain ⟨vs, e, _⟩ := h; rw [e] at q; simp [dN] at q
  | ins c fs => exact h.elim
  | scr xs => simp [isDead] at n
  | dead => simp [isDead] at n

/-- a step of evaluation keeps data -/
theorem RM.agr (m : RM K ex am M H) (f : F am M H am' M' H') : Agr K H (avS ex am M) H' (avS ex am' M') := by
  refine ⟨fun a vs h => ?_, fun a vs h n => ?_⟩
  · rcases h with ⟨its, h⟩ | h
    · have nl : ¬ live am M a := fun l => (m.liveH l).2.2 _ vs h
      exact .inl ⟨its, (f.keep a _ h nl).1⟩
    · exact .inr h
  · obtain ⟨h1, h2⟩ := f.keep a _ h fun l => n (.inr l)
    exact ⟨h1, fun q => q.elim (fun z => n (.inl z)) h2⟩
theorem RE.step {env : Env} {σ : L2.St} (e : RE K ex am M H env σ) (m : RM K ex am M H) (f : F am M H am' M' H') : RE K ex am' M' H' env σ :=
  ⟨e.1, fun i v h => by obtain ⟨x, h1, h2⟩ := e.2 i v h; exact ⟨x, h1, (m.agr f).rv (fun i a => f.at) _ _ h2⟩⟩
theorem RV.step {v : Val} {x : V} (r : RV K H (avS ex am M) am v x) (m : RM K ex am M H) (f : F am M H am' M' H') : RV K H' (avS ex am' M') am' v x := (m.agr f).rv (fun i a => f.at) _ _ r
theorem RVs.step {v : List Val} {x : List V} (r : RVs K H (avS ex am M) am v x) (m : RM K ex am M H) (f : F am M H am' M' H') : RVs K H' (avS ex am' M') am' v x := (m.agr f).rvs (fun i a => f.at) _ _ r

/-- a new object that the memory does not know -/
theorem F.new {p : Addr} {o : HO} (hp : H p = none) : F am M H am M (upd H p o) :=
  ⟨fun a u h n => ⟨by rw [upd_ne (ne_of_none h hp)]; exact h, n⟩, [], by simp⟩
theorem RM.new (m : RM K ex am M H) {p : Addr} (o : HO) (hp : H p = none) : RM K ex am M (upd H p o) := by
  have g := m.agr (F.new (am := am) (M := M) (o := o) hp)
  refine ⟨m.len, fun i ob a h1 h2 => g.ro (fun _ _ h => h) (fun u h => ?_) (m.obj i ob a h1 h2), m.inj, m.exL, fun a h => ?_⟩
  · rw [upd_ne (ne_of_none h hp)]; exact h
  · obtain ⟨u, h1⟩ := m.exH a h
    exact ⟨u, by rw [upd_ne (ne_of_none h1 hp)]; exact h1⟩

theorem live_append {a p : Addr} {ob : Ob} (hl : am.length = M.length) : live (am ++ [p]) (M ++ [ob]) a ↔ live am M a ∨ (a = p ∧ isDead ob = false) := by
  constructor
  · rintro ⟨i, o, h1, h2, h3⟩
    by_cases hi : i < M.length
    · rw [List.getElem?_append_left (by omega)] at h1
      rw [List.getElem?_append_left hi] at h2
      exact .inl ⟨i, o, h1, h2, h3⟩
    · rw [List.getElem?_append_right (by omega)] at h1 h2
      by_cases e : i = M.length
      · subst e
        simp [hl] at h1 h2
        subst h1 h2
        exact .inr ⟨rfl, h3⟩
      · have : 1 ≤ i - M.length := by omega
        rw [List.getElem?_eq_none (by simpa using this)] at h2
        cases h2
  · rintro (⟨i, o, h1, h2, h3⟩ | ⟨rfl, h⟩)
    · refine ⟨i, o, ?_, ?_, h3⟩
      · rw [List.getElem?_append_left (List.getElem?_eq_some_iff.mp h1).1]; exact h1
      · rw [List.getElem?_append_left (List.getElem?_eq_some_iff.mp h2).1]; exact h2
    · exact ⟨M.length, ob, by simp [← hl], by simp, h⟩
/-- a new object of the memory: HO o at p; what it holds is told over the heap ahead of it -/
theorem RM.alloc (m : RM K ex am M H) {p : Addr} {o : HO} {ob : Ob} (hp : H p = none) (hd : isDead ob = false)
    (ho : ∀ H' av' am', Agr K H (avS ex am M) H' av' → (∀ (i : Nat) (a : Addr), am[i]? = some a → am'[i]? = some a) → H' p = some o → RO K H' av' am' M.length p ob) :
    RM K ex (am ++ [p]) (M ++ [ob]) (upd H p o) ∧ F am M H (am ++ [p]) (M ++ [ob]) (upd H p o) := by
  have hl := m.len
  have nlp : ¬ live am M p := fun l => by
    obtain ⟨⟨u, h⟩, _⟩ := m.liveH l
    rw [hp] at h; cases h
  have ff : F am M H (am ++ [p]) (M ++ [ob]) (upd H p o) := by
    refine ⟨fun a u h n => ⟨by rw [upd_ne (ne_of_none h hp)]; exact h, fun l => ?_⟩, [p], rfl⟩
    rcases (live_append hl).mp l with l | ⟨e, _⟩
    · exact n l
    · subst e; rw [hp] at h; cases h
  have g := m.agr ff
  have ge : ∀ (i : Nat) (a : Addr), am[i]? = some a → (am ++ [p])[i]? = some a := fun i a h => ff.at h
  refine ⟨⟨by simp [hl], fun i ob' a h1 h2 => ?_, fun i j a ob1 ob2 h1 h2 h3 h4 h5 h6 => ?_, fun a ha l => ?_, fun a ha => ?_⟩, ff⟩
  · by_cases hi : i < M.length
    · rw [List.getElem?_append_left hi] at h1
      rw [List.getElem?_append_left (by omega)] at h2
      have q := m.obj i ob' a h1 h2
      refine g.ro ge (fun u h => ?_) q
      rw [upd_ne (ne_of_none h hp)]; exact h
    · have e : i = M.length := by
        have := (List.getElem?_eq_some_iff.mp h1).1
        simp at this; omega
      subst e
      simp at h1
      rw [← hl] at h2
      simp at h2
      subst h1 h2
      exact ho _ _ _ g ge upd_same
  · have old : ∀ {i : Nat} {a : Addr} {ob1 : Ob}, (am ++ [p])[i]? = some a → (M ++ [ob])[i]? = some ob1 → isDead ob1 = false → (i < M.length ∧ am[i]? = some a ∧ M[i]? = some ob1) ∨ (i = M.length ∧ a = p) := by
      intro i a ob1 h1 h2 h3
      by_cases hi : i < M.length
      · rw [List.getElem?_append_left hi] at h2
        rw [List.getElem?_append_left (by omega)] at h1
        exact .inl ⟨hi, h1, h2⟩
      · have e : i = M.length := by
          have := (List.getElem?_eq_some_iff.mp h2).1
          simp at this; omega
        subst e
        rw [← hl] at h1
        simp at h1
        exact .inr ⟨rfl, h1.symm⟩
    rcases old h1 h3 h5 with ⟨_, a1, a2⟩ | ⟨e1, e2⟩ <;> rcases old h2 h4 h6 with ⟨_, b1, b2⟩ | ⟨e3, e4⟩
    · exact m.inj i j a _ _ a1 b1 a2 b2 h5 h6
    · exact absurd ⟨i, _, e4 ▸ a1, a2, h5⟩ nlp
    · exact absurd ⟨j, _, e2 ▸ b1, b2, h6⟩ nlp
    · rw [e1, e3]
  · rcases (live_append hl).mp l with l | ⟨e, _⟩
    · exact m.exL a ha l
    · subst e
      obtain ⟨u, h⟩ := m.exH a ha
      rw [hp] at h; cases h
  · obtain ⟨u, h⟩ := m.exH a ha
    exact ⟨u, by rw [upd_ne (ne_of_none h hp)]; exact h⟩

theorem live_set {a : Addr} {i : Nat} {ob ob' : Ob} (h : M[i]? = some ob) (hd : isDead ob = false) (l : live am (M.set i ob') a) : live am M a := by
  obtain ⟨j, o, h1, h2, h3⟩ := l
  by_cases e : j = i
  · subst e; exact ⟨j, ob, h1, h, hd⟩
  · rw [List.getElem?_set_ne (Ne.symm e)] at h2; exact ⟨j, o, h1, h2, h3⟩
/-- an object of the memory is changed in place -/
theorem RM.mut (m : RM K ex am M H) {i : Nat} {a : Addr} {ob ob' : Ob} {o : HO} (h : M[i]? = some ob) (ha : am[i]? = some a) (hd : isDead ob = false) (hd' : isDead ob' = false)
    (ho : ∀ H' av', Agr K H (avS ex am M) H' av' → H' a = some o → RO K H' av' am i a ob') : RM K ex am (M.set i ob') (upd H a o) ∧ F am M H am (M.set i ob') (upd H a o) := by
  have hi : i < M.length := (List.getElem?_eq_some_iff.mp h).1
  have lv : live am M a := ⟨i, ob, ha, h, hd⟩
  have ff : F am M H am (M.set i ob') (upd H a o) := by
    refine ⟨fun b u hb n => ⟨?_, fun l => n (live_set h hd l)⟩, [], by simp⟩
    rw [upd_ne (fun e => n (by rw [e]; exact lv))]; exact hb
  have g := m.agr ff
  refine ⟨⟨by simp [m.len], fun j ob1 b h1 h2 => ?_, fun j k b ob1 ob2 h1 h2 h3 h4 h5 h6 => ?_, fun b hb l => m.exL b hb (live_set h hd l), fun b hb => ?_⟩, ff⟩
  · by_cases e : j = i
    · subst e
      rw [List.getElem?_set_self hi] at h1
      cases h1
      rw [ha] at h2; cases h2
      exact ho _ _ g upd_same
    · rw [List.getElem?_set_ne (Ne.symm e)] at h1
      by_cases dd : isDead ob1 = true
      · exact RO.deadU dd g ((m.obj i ob a h ha).nfrz hd) (fun b hb => upd_ne hb) (m.obj j ob1 b h1 h2)
      · have nd : isDead ob1 = false := by simpa using dd
        refine g.ro (fun _ _ h => h) (fun u hu => ?_) (m.obj j ob1 b h1 h2)
        have : b ≠ a := fun eb => e (m.inj j i b _ _ h2 (eb ▸ ha) h1 h nd hd)
        rw [upd_ne this]; exact hu
  · have back : ∀ {j : Nat} {b : Addr} {ob1 : Ob}, am[j]? = some b → (M.set i ob')[j]? = some ob1 → isDead ob1 = false → ∃ ob0, M[j]? = some ob0 ∧ isDead ob0 = false := by
      intro j b ob1 h1 h2 h3
      by_cases e : j = i
      · subst e; exact ⟨ob, h, hd⟩
      · rw [List.getElem?_set_ne (Ne.symm e)] at h2; exact ⟨ob1, h2, h3⟩
    obtain ⟨o1, q1, d1⟩ := back h1 h3 h5
    obtain ⟨o2, q2, d2⟩ := back h2 h4 h6
    exact m.inj j k b _ _ h1 h2 q1 q2 d1 d2
  · obtain ⟨u, hu⟩ := m.exH b hb
    have : b ≠ a := fun e => m.exL b hb (e ▸ lv)
    exact ⟨u, by rw [upd_ne this]; exact hu⟩
/-- an object of the memory is let go -/
theorem RM.drop (m : RM K ex am M H) {i : Nat} {a : Addr} {ob : Ob} (h : M[i]? = some ob) (ha : am[i]? = some a) (hd : isDead ob = false) : RM K ex am (M.set i .dead) H ∧ F am M H am (M.set i .dead) H ∧ ¬ live am (M.set i .dead) a := by
  have hi : i < M.length := (List.getElem?_eq_some_iff.mp h).1
  have lb : ∀ {b}, live am (M.set i .dead) b → live am M b := fun l => live_set h hd l
  have ff : F am M H am (M.set i .dead) H := ⟨fun b u hb n => ⟨hb, fun l => n (lb l)⟩, [], by simp⟩
  have g := m.agr ff
  refine ⟨⟨by simp [m.len], fun j ob1 b h1 h2 => ?_, fun j k b ob1 ob2 h1 h2 h3 h4 h5 h6 => ?_, fun b hb l => m.exL b hb (lb l), m.exH⟩, ff, fun ⟨j, o, h1, h2, h3⟩ => ?_⟩
  · by_cases e : j = i
    · subst e
      rw [List.getElem?_set_self hi] at h1
      cases h1
      trivial
    · rw [List.getElem?_set_ne (Ne.symm e)] at h1
      exact g.ro (fun _ _ h => h) (fun u hu => hu) (m.obj j ob1 b h1 h2)
  · have back : ∀ {j : Nat} {b : Addr} {ob1 : Ob}, am[j]? = some b → (M.set i .dead)[j]? = some ob1 → isDead ob1 = false → ∃ ob0, M[j]? = some ob0 ∧ isDead ob0 = false := by
      intro j b ob1 h1 h2 h3
      by_cases e : j = i
      · subst e; exact ⟨ob, h, hd⟩
      · rw [List.getElem?_set_ne (Ne.symm e)] at h2; exact ⟨ob1, h2, h3⟩
    obtain ⟨o1, q1, d1⟩ := back h1 h3 h5
    obtain ⟨o2, q2, d2⟩ := back h2 h4 h6
    exact m.inj j k b _ _ h1 h2 q1 q2 d1 d2
  · by_cases e : j = i
    · subst e
      rw [List.getElem?_set_self hi] at h2
      cases h2
      simp [isDead] at h3
    · rw [List.getElem?_set_ne (Ne.symm e)] at h2
      exact e (m.inj j i a _ _ h1 ha h2 h h3 hd)
end
end Mp
end
section
set_option maxHeartbeats 4000000
/-! Tuples whose objects are known; dicts whose keys are tuples. -/
namespace Mp
open PySem PySem.Spec PyProof.Rows L2

section
variable {X : Cx} {pins : List (Addr × Obj)} {σ : L2.St} {H : Hp} {s : Shared}
/-- a new tuple -/
theorem inv_newT {h' : Heap} {t' : Nat} {its : List Value} {xs : List V} (I : Inv X pins σ H s) (k : ∀ b u, s.heap.get? b = some u → h'.get? b = some u) (r : Vals xs its) (hz : xs.length ≤ sizeLine) {p : Addr} (hp : s.heap.objs.size ≤ p)
    (hat : h'.get? p = some { cls := .type "tuple", data := .seq its.toArray }) : Inv X pins σ (upd H p (sT its xs)) { s with heap := h', toks := t' } :=
  I.laid k hp ⟨hat, hz, its, r, ⟨_, hat, rfl, _, rfl⟩⟩
theorem TupAt.of {K : Kf} {its : List Value} {p : Addr} {xs : List V} : TupAt K (upd H p (sT its xs)) p xs := .inl ⟨its, upd_same⟩
def tTupS (t : TA) : TE := fun σ H Q => t σ H fun xs H1 => xs.length ≤ sizeLine ∧ ∀ p its, H1 p = none → Q (.ref p) (upd H1 p (sT its xs))
variable {es : List Expr} {t : TA} {pos : Pos}
theorem pe_tupS {x1 : Nat} (h : PA X es t) : PE X (.Tuple es x1 pos) (tTupS t) := by
  refine ⟨fun pins s σ H Q I hq => ?_⟩
  refine wpAny_Tuple_spliced (thn (h.run pos pins s σ H _ I hq) fun us s1 ⟨xs, H1, I1, r, z, q⟩ => ⟨by rw [← r.length]; exact z, ?_⟩)
  have hf : H1 s1.heap.objs.size = none := I1.hok.fresh (Nat.le_refl _)
  exact ⟨.ref s1.heap.objs.size, _, inv_newT I1 (t' := s1.toks) (fun b u e => Heap.get?_push_of_some _ e) r z (Nat.le_refl _) (Heap.get?_push_size _ rfl), rfl, q _ us hf⟩
/-- t + u -/
def rCatS (K : PySem.W.Frag) : R2 := fun x y H Q => ∃ a b xs ys, x = .ref a ∧ y = .ref b ∧ SqT K H a xs ∧ SqT K H b ys ∧ xs.length + ys.length ≤ sizeLine ∧
  (xs = [] → Q (.ref b) H) ∧ (ys = [] → Q (.ref a) H) ∧ (∀ p its, H p = none → Q (.ref p) (upd H p (sT its (xs ++ ys))))
theorem op_catS : OpR X (binaryOp .Add) (rCatS X.K) := by
  intro pins s σ H x y v u Q I rx ry h
  obtain ⟨a, b, xs, ys, rfl, rfl, ha, hb, hz, q0, q1, q2⟩ := h
  cases rx
  cases ry
  obtain ⟨its, r1, p1, _⟩ := I.tuple ha
  obtain ⟨its2, r2, p2, _⟩ := I.tuple hb
  by_cases hx : xs = []
  · subst hx
    cases r1
    exact cat_tup0 p1 p2 ⟨.ref b, H, I, rfl, q0 rfl⟩
  · refine HT.cat_tup p1 p2 (fun z => hx (r1.nil_iff.mp z)) (fun z => ⟨.ref a, H, I, rfl, q1 (r2.nil_iff.mp z)⟩) (fun z => ?_) (by rw [← r1.length, ← r2.length]; exact hz)
    exact ⟨.ref s.heap.objs.size, _, inv_newT I (t' := s.toks) (fun b ob q => Heap.get?_push_of_some _ q) (r1.append r2) (by rw [List.length_append]; exact hz) (Nat.le_refl _) (Heap.get?_push_size _ rfl), rfl, q2 _ _ (I.hok.fresh (Nat.le_refl _))⟩
/-- t[lo:hi] -/
def rSlS (K : PySem.W.Frag) : V → Option Int → Option Int → Hp → VK → Prop := fun x lo hi H Q => ∃ a xs, x = .ref a ∧ SqT K H a xs ∧
  (HT.sIx xs.length 0 lo = 0 ∧ HT.sIx xs.length xs.length hi = xs.length → Q (.ref a) H) ∧ (∀ p its, H p = none → Q (.ref p) (upd H p (sT its (cutV xs lo hi))))
theorem sl_tupS : SlR X (rSlS X.K) := by
  intro pins s σ H x v vl vu lo hi sl Q I rx hs pl pu h
  obtain ⟨a, xs, rfl, hx, q1, q2⟩ := h
  cases rx
  obtain ⟨its, r, ht, hz⟩ := I.tuple hx
  have hlen : its.toArray.size = xs.length := by rw [List.size_toArray]; exact r.length.symm
  refine ⟨"tuple", _, PyProof.Rows.slot_tuple_getitem.lookup, ht.typeIs, ?_⟩
  by_cases hw : HT.sIx xs.length 0 lo = 0 ∧ HT.sIx xs.length xs.length hi = xs.length
  · exact getItem_tuple_whole ht hs pl pu (by rw [hlen]; exact hw) ⟨.ref a, H, I, rfl, q1 hw⟩
  · refine HT.getItem_tuple_cut ht hs pl pu (by rw [hlen]; exact hw) ?_ (by rw [hlen]; exact hz)
    rw [hlen]
    exact ⟨.ref s.heap.objs.size, _, inv_newT I (t' := s.toks) (fun b ob q => Heap.get?_push_of_some _ q) ((r.drop (HT.sIx xs.length 0 lo)).take (HT.sIx xs.length xs.length hi - HT.sIx xs.length 0 lo)) (Nat.le_trans (cutV_length xs lo hi) hz) (Nat.le_refl _) (Heap.get?_push_size _ rfl), rfl, q2 _ _ (I.hok.fresh (Nat.le_refl _))⟩
/-- tuple(x) -/
theorem call_tuple_ofS : CallR X (.type "tuple") (fun xs H Q => ∃ p ys, xs = [.ref p] ∧ ((SqL X.K H p ys ∧ ∀ l its, H l = none → Q (.ref l) (upd H l (sT its ys))) ∨ (SqT X.K H p ys ∧ Q (.ref p) H))) := by
  intro pins s σ H xs us Q I r h
  obtain ⟨p, ys, rfl, h⟩ := h
  obtain ⟨u, rfl, rx⟩ := vals1 r
  cases rx
  rcases h with ⟨hq, q⟩ | ⟨hq, q⟩
  · obtain ⟨its, r', pl, hz⟩ := I.list hq
    have hlen := r'.length
    refine call_tuple_list pl.isList (fun h' kp => ?_) (by simp only [List.size_toArray] <;> omega)
    have I1 : Inv X pins σ H { s with heap := h' } := I.kept (t' := s.toks) kp
    have I2 := inv_newT I1 (t' := s.toks) (h' := h'.push { cls := .type "tuple", data := .seq its.toArray }) (fun b o e => Heap.get?_push_of_some _ e) r' hz (Nat.le_refl _) (Heap.get?_push_size _ rfl)
    exact ⟨.ref h'.objs.size, _, I2, rfl, q _ its (I1.hok.fresh (Nat.le_refl _))⟩
  · obtain ⟨its, r', pl, hz⟩ := I.tuple hq
    exact call_tuple_same pl ⟨.ref p, H, I, rfl, q⟩
/-- tuple(range(..)) -/
def tTupRgS (te : L2.St → Hp → (Int → Int → Hp → Prop) → Prop) : TE := fun σ H Q => te σ H fun a b H1 => RgOk a b ∧ ∀ q its, H1 q = none → Q (.ref q) (upd H1 q (sT its (rgV a b)))
theorem pe_tupRgS {e : Expr} {te : L2.St → Hp → (Int → Int → Hp → Prop) → Prop} {p pos : Pos} (hc : X.calm = true) (hg : Gl X "tuple") (hm : X.mg "tuple" = none) (he : PRg X e te) (na : starEach [e] X.env = (false, eval e X.env) :: starEach [] X.env) : PE X (.Call (.Name "tuple" p) [e] [] pos) (tTupRgS te) := by
  refine ⟨fun pins s σ H Q I h => ?_⟩
  refine Call_ (ld_blt I hg hm boot_tuple (PyProof.Rows.callWith_type1 (args_cons (thn (he pins s σ H _ I h) fun x s1 ⟨r, a, b, t, u, v, H1, ex, hr, I1, ok, q⟩ => args_nil ?_) na) na))
  subst ex
  obtain ⟨b1, b2, b3, b4, b5⟩ := ok
  refine call_tuple_range (n := (b - a).toNat) (I1.ok.hd hc) hr (small_one b1 b2 b3 b4) (rangeSize_nat a b) b5 fun h' tk acc hk hi => ?_
  have I2 : Inv X pins σ H1 { s1 with heap := h', toks := tk } := I1.kept hk
  refine ⟨.ref h'.objs.size, _, inv_newT I2 (t' := tk) (h' := h'.push { cls := .type "tuple", data := .seq acc }) (fun c o e => Heap.get?_push_of_some _ e) (vals_rg hi) (by rw [rgV_length, sizeLine_eq]; omega) (Nat.le_refl _) ?_, rfl, q _ acc.toList (I2.hok.fresh (Nat.le_refl _))⟩
  rw [Array.toArray_toList]
  exact Heap.get?_push_size _ rfl

/-! ### a method of a tuple -/
def tyS (K : PySem.W.Frag) (T : String) (x : V) (H : Hp) : Prop := tyV K T x H ∨ (T = "tuple" ∧ ∃ p its vs, x = .ref p ∧ H p = some (sT its vs))
theorem tyS_is {T : String} {x : V} {v : Value} (I : Inv X pins σ H s) (r : RelV x v) (ty : tyS X.K T x H) : s.TypeIs v T ∧ ∀ a, v = .ref a → ∃ ob, s.heap.get? a = some ob ∧ ob.dict = none := by
  rcases ty with ty | ⟨rfl, p, its, vs, rfl, hp⟩
  · exact tyV_is I r ty
  · cases r
    obtain ⟨e, _⟩ : ObjOk X.prog X.w H s.heap p (.frz { cls := .type "tuple", data := .seq its.toArray } (.tup vs)) := I.hok p _ hp
    refine ⟨⟨_, e, rfl⟩, fun a q => ?_⟩
    cases q
    exact ⟨_, e, rfl⟩
def tBMS (K : PySem.W.Frag) (T : String) (r : V → List V → Hp → VK → Prop) (to : TE) (t : TA) : TE := fun σ H Q => to σ H fun x H1 => tyS K T x H1 ∧ t σ H1 fun xs H2 => r x xs H2 Q
def tBMS0 (K : PySem.W.Frag) (T : String) (r : V → List V → Hp → VK → Prop) (to : TE) : TE := fun σ H Q => to σ H fun x H1 => tyS K T x H1 ∧ r x [] H1 Q
variable {o e : Expr} {to : TE} {name : Str} {apos cpos : Pos} {T id : String} {r : V → List V → Hp → VK → Prop}
theorem pe_bmS0 (pa : PlainAttrs T) (slot : Slot T name id) (hty : typeOf (.builtin id) = pure (.type "method_descriptor")) (hm : MtR X id r) (ho : PE X o to)
    (hbase : attributeBase o name X.env (eval o X.env) = eval o X.env) (hline : (apos.endLine == cpos.line) = true) : PE X (.Call (.Attribute o name apos) [] [] cpos) (tBMS0 X.K T r to) := by
  refine ⟨fun pins s σ H Q I h => ?_⟩
  refine wpAny_Call_method0_late hbase hline (thn (ho.run pins s σ H _ I h) fun v s1 ⟨x, H1, I1, r1, ty, q1⟩ => ?_)
  obtain ⟨h1, h2⟩ := tyS_is I1 r1 ty
  exact ⟨T, id, pa, slot, hty, h1, h2, Calls.callWith_builtin rfl (PySem.evalArgs_none (hm pins s1 σ H1 x [] v [] Q I1 r1 .nil q1))⟩
theorem pe_bmS (pa : PlainAttrs T) (slot : Slot T name id) (hty : typeOf (.builtin id) = pure (.type "method_descriptor")) (hm : MtR X id r) (ho : PE X o to) (ha : PA X (e :: es) t)
    (hbase : attributeBase o name X.env (eval o X.env) = eval o X.env)
    (hfew : ((backTo cpos (starEach (e :: es) X.env)).all (fun x => !x.1) && (backToKw cpos (keywordEach [] X.env)).all (fun x => x.1.isSome)
      && decide ((e :: es).length + ([] : List Keyword).length + (if ([] : List Keyword).isEmpty then 0 else 1) < 30)) = true)
    (hline : (apos.endLine == cpos.line) = true) (hs : starEach (e :: es) X.env = (false, eval e X.env) :: starEach es X.env) (hplain : (backTo cpos (starEach es X.env)).any (·.1) = false) :
    PE X (.Call (.Attribute o name apos) (e :: es) [] cpos) (tBMS X.K T r to t) := by
  refine ⟨fun pins s σ H Q I h => ?_⟩
  refine wpAny_Call_method_late hbase hfew hline rfl (thn (ho.run pins s σ H _ I h) fun v s1 ⟨x, H1, I1, r1, ty, q1⟩ => ?_)
  obtain ⟨h1, h2⟩ := tyS_is I1 r1 ty
  refine ⟨T, id, pa, slot, hty, h1, h2, ?_⟩
  have hA := ha.run cpos pins s1 σ H1 _ I1 q1
  rw [hs] at hA ⊢
  refine Calls.callWith_builtin (by show (false || (backTo cpos (starEach es X.env)).any (·.1)) = false; rw [hplain] <;> rfl) (Calls.evalArgs_plain ?_)
  exact thn hA fun us s2 ⟨vs, H2, I2, r2, q2⟩ => hm pins s2 σ H2 x vs v us Q I2 r1 r2 q2
/-- t.index(x) of flat items -/
def rIndexT (K : PySem.W.Frag) : V → List V → Hp → VK → Prop := fun x xs H Q => ∃ (a : Addr) (ys : List V) (y : V) (j : Nat) (z : V), x = V.ref a ∧ xs = [y] ∧ SqT K H a ys ∧ flatV y = true ∧ ys.all flatV = true ∧ ys[j]? = some z ∧ eqV z y = true ∧
  (∀ (m : Nat) (z' : V), m < j → ys[m]? = some z' → eqV z' y = false) ∧ Q (.int (j : Nat)) H
theorem mt_indexT : MtR X "tuple.index" (rIndexT X.K) := by
  intro pins s σ H x xs v us Q I rx rxs h
  obtain ⟨a, ys, y, j, z, rfl, rfl, hs, fy, fys, hz, hzj, hno, q⟩ := h
  cases rx
  cases rxs with
  | cons ry rt =>
    rename_i uy ut
    cases rt
    obtain ⟨its, rv, ⟨⟨cls, dd, data, sl⟩, ho, hc, n, hd⟩, hlen⟩ := I.tuple hs
    simp only at hc hd
    subst hc hd
    obtain ⟨u, hu, ru⟩ := rv.get hz
    obtain ⟨hjl, hje⟩ := List.getElem?_eq_some_iff.mp hu
    have hvl := rv.length
    have hj : j < its.toArray.size := by simpa using hjl
    have hsl := sizeLine_eq
    refine call_meets PySem.F.slot_tuple_index ⟨_, ho, rfl⟩ PySem.F.entry_tuple_index (PySem.F.args_tuple_index_2 _ _)
      (TI.tuple_indexAt a its.toArray n dd sl uy (eqU y) j hj ?_ ?_) ⟨ho, fun u' hu' => mem_eqAt ry fy rv fys u' (by simpa using hu'), ?_⟩
    · have e1 : its.toArray[j] = u := by simpa using hje
      rw [e1, eqU_of ru (flat_at fys hz)]
      exact hzj
    · intro m hm hmj
      have hml : m < its.length := by simpa using hm
      have hmy : m < ys.length := by omega
      have hy' : ys[m]? = some ys[m] := List.getElem?_eq_getElem hmy
      obtain ⟨u2, hu2, ru2⟩ := rv.get hy'
      obtain ⟨_, hme⟩ := List.getElem?_eq_some_iff.mp hu2
      have e1 : its.toArray[m] = u2 := by simpa using hme
      rw [e1, eqU_of ru2 (flat_at fys hy')]
      exact hno m _ hmj hy'
    · exact ⟨.int (j : Nat), H, I.tok _, ⟨_, rfl⟩, q⟩
end

/-! ### keys -/
mutual
theorem nk_data : ∀ (d : D) (q : NestedKey), nkD d = some q → q.data = d
  | .none, _, h => by cases h; rfl
  | .int i, _, h => by cases h; rfl
  | .str s, _, h => by cases h; rfl
  | .tuple xs, q, h => by
    unfold nkD at h
    cases e : nkDs xs with
    | none => rw [e] at h; cases h
    | some ks =>
      rw [e] at h
      cases h
      show PyData.tuple (NestedKey.datas ks) = _
      rw [nks_data xs ks e]
  | .bool _, _, h => by cases h
  | .list _, _, h => by cases h
  | .dict _, _, h => by cases h
theorem nks_data : ∀ (ds : List D) (ks : List NestedKey), nkDs ds = some ks → NestedKey.datas ks = ds
  | [], _, h => by cases h; rfl
  | d :: ds, ks, h => by
    unfold nkDs at h
    cases e1 : nkD d with
    | none => rw [e1] at h; simp at h
    | some a =>
      cases e2 : nkDs ds with
      | none => rw [e1, e2] at h; simp at h
      | some as =>
        rw [e1, e2] at h
        simp at h
        subst h
        show NestedKey.data a :: NestedKey.datas as = _
        rw [nk_data d a e1, nks_data ds as e2]
end
theorem nkT_data {d : D} {q : NestedKey} (h : nkT d = some q) : q.data = d ∧ q.depth ≤ 8 := by
  cases d with
  | tuple xs =>
    cases e : nkDs xs with
    | none => simp [nkT, e] at h
    | some ks =>
      have h : (if (NestedKey.tup ks).depth ≤ 8 then some (NestedKey.tup ks) else none) = some q := by simpa only [nkT, e] using h
      split at h
      · rename_i hd
        cases h
        exact ⟨by show PyData.tuple (NestedKey.datas ks) = _; rw [nks_data xs ks e], hd⟩
      · cases h
  | _ => cases h
section
variable {X : Cx} {pins : List (Addr × Obj)} {σ : L2.St} {H : Hp} {s : Shared} {K : Kf} {av : Addr → Prop}
mutual
/-- a key's tuple in the heap -/
theorem nest_is (hK : X.K = K.K) (I : Inv X pins σ H s) : ∀ (q : NestedKey) (v : V) (u : Value), R K H av q.data v → RelV v u → NestedIs s.heap q u
  | .none, _, _, h, r => by
    cases (show _ = V.non from h)
    cases r
    exact .none
  | .num i, _, _, h, r => by
    cases (show _ = V.int i from h)
    obtain ⟨t, rfl⟩ := r
    exact .int i t
  | .text x, _, _, h, r => by
    cases (show _ = V.str x from h)
    obtain ⟨t, rfl⟩ := r
    exact .text x t
  | .tup ks, _, _, h, r => by
    obtain ⟨a, vs, rfl, hp, hr⟩ := (show ∃ a vs, _ = V.ref a ∧ TupAt K H a vs ∧ Rs K H av (NestedKey.datas ks) vs from h)
    cases r
    have sq := hp.sq
    rw [← hK] at sq
    obtain ⟨its, rv, ⟨o, ho, hc, n, hd⟩, _⟩ := I.tuple sq
    exact .tup ho hc hd (nest_all hK I ks vs its hr rv)
theorem nest_all (hK : X.K = K.K) (I : Inv X pins σ H s) : ∀ (qs : List NestedKey) (vs : List V) (us : List Value), Rs K H av (NestedKey.datas qs) vs → Vals vs us → NestedAll s.heap qs us
  | [], _, _, h, r => by
    cases (show _ = [] from h)
    cases r
    exact .nil
  | q :: qs, _, _, h, r => by
    obtain ⟨v, t, rfl, h1, h2⟩ := (show ∃ v t, _ = v :: t ∧ R K H av q.data v ∧ Rs K H av (NestedKey.datas qs) t from h)
    cases r with
    | cons r1 r2 => exact .cons (nest_is hK I q _ _ h1 r1) (nest_all hK I qs _ _ h2 r2)
end
/-- the dict at a, as the library tells it -/
theorem dict_at (hK : X.K = K.K) (hP : X.prog = K.P) (hw : X.w = K.w) (I : Inv X pins σ H s) {a : Addr} {kvs : List (NestedKey × D)} {xs : List (NestedKey × Addr × V)} (hp : H a = some (dN K a xs)) (r : RD K H av kvs xs) :
    (a == sysModules) = false ∧ xs.length ≤ sizeLine ∧ (xs.map (·.1)).Nodup ∧ ∃ us : List (NestedKey × Addr × Value), Paired (fun (x : NestedKey × Addr × V) (u : NestedKey × Addr × Value) => x.1 = u.1 ∧ x.2.1 = u.2.1 ∧ RelV x.2.2 u.2.2) xs us ∧ s.heap.DictOfH (nestedKind X.prog X.w) a us := by
  obtain ⟨⟨h1, h2, h3, us, pr, o, es, ep, ho, hc, hd, he⟩, _, _⟩ := (show ObjOk X.prog X.w H s.heap a (.ext (dNφ K a xs)) from I.hok a _ hp)
  refine ⟨h1, h2, h3, us, pr, o, es, ep, ho, hc, hd, by rw [hP, hw]; exact he, ?_, ?_⟩
  · -- each key's tuple
    have key : ∀ (kvs : List (NestedKey × D)) (xs : List (NestedKey × Addr × V)) (us : List (NestedKey × Addr × Value)), RD K H av kvs xs → Paired (fun (x : NestedKey × Addr × V) (u : NestedKey × Addr × Value) => x.1 = u.1 ∧ x.2.1 = u.2.1 ∧ RelV x.2.2 u.2.2) xs us →
        ∀ u ∈ us, (nestedKind X.prog X.w).is s.heap u.1 u.2.1 := by
      intro kvs
      induction kvs with
      | nil =>
        intro xs us r pr u hu
        cases (show xs = [] from r)
        cases pr
        simp at hu
      | cons kv kvs ih =>
        intro xs us r pr u hu
        obtain ⟨q, v, t, rfl, hdp, h4, _, h5⟩ := r
        cases pr with
        | cons p1 p2 =>
          rcases List.mem_cons.mp hu with rfl | hu
          · obtain ⟨e1, e2, _⟩ := p1
            rw [← e1, ← e2]
            exact ⟨nest_is hK I _ _ _ h4 rfl, hdp⟩
          · exact ih t _ h5 p2 u hu
    exact key kvs xs us r pr
  · have key : ∀ {xs : List (NestedKey × Addr × V)} {us : List (NestedKey × Addr × Value)}, Paired (fun (x : NestedKey × Addr × V) (u : NestedKey × Addr × Value) => x.1 = u.1 ∧ x.2.1 = u.2.1 ∧ RelV x.2.2 u.2.2) xs us → us.map (·.1) = xs.map (·.1) := by
      intro xs us pr
      induction pr with
      | nil => rfl
      | cons p _ ih => rw [List.map_cons, List.map_cons, ih, p.1]
    rw [key pr]
    exact h3
def atN (xs : List (NestedKey × Addr × V)) (k : NestedKey) : Option V := (xs.find? fun x => decide (x.1 = k)).map (·.2.2)
theorem atN_key {xs : List (NestedKey × Addr × V)} {us : List (NestedKey × Addr × Value)} (pr : Paired (fun (x : NestedKey × Addr × V) (u : NestedKey × Addr × Value) => x.1 = u.1 ∧ x.2.1 = u.2.1 ∧ RelV x.2.2 u.2.2) xs us) (k : NestedKey) :
    (atN xs k).isSome = (atKey us k).isSome ∧ ∀ v, atN xs k = some v → ∃ p, atKey us k = some p ∧ RelV v p.2 := by
  induction pr with
  | nil => exact ⟨rfl, fun v h => by cases h⟩
  | cons p pr ih =>
    rename_i x u xs us
    obtain ⟨p1, p2, p3⟩ := p
    by_cases e : x.1 = k
    · have e' : u.1 = k := by rw [← p1]; exact e
      have h1 : atN (x :: xs) k = some x.2.2 := by simp [atN, List.find?_cons, e]
      have h2 : atKey (u :: us) k = some u.2 := by simp [atKey, List.find?_cons, e']
      rw [h1, h2]
      exact ⟨rfl, fun v h => by cases h; exact ⟨u.2, rfl, p3⟩⟩
    · have e' : ¬ u.1 = k := by rw [← p1]; exact e
      have h1 : atN (x :: xs) k = atN xs k := by simp [atN, List.find?_cons, e]
      have h2 : atKey (u :: us) k = atKey us k := by simp [atKey, List.find?_cons, e']
      rw [h1, h2]
      exact ih
theorem RD.get (k : NestedKey) : ∀ {kvs : List (NestedKey × D)} {xs : List (NestedKey × Addr × V)}, RD K H av kvs xs → (dGet kvs k).isSome = (atN xs k).isSome ∧ ∀ d, dGet kvs k = some d → ∃ v, atN xs k = some v ∧ R K H av d v
  | [], _, h => by cases (show _ = [] from h); exact ⟨rfl, fun d e => by cases e⟩
  | x :: kvs, _, h => by
    obtain ⟨q, v, r, e, _, _, h1, h2⟩ := h
    subst e
    have ih := RD.get k h2
    by_cases hq : x.1 = k
    · have e0 : atN ((x.1, q, v) :: r) k = some v := by simp [atN, List.find?_cons, hq]
      have e1 : dGet (x :: kvs) k = some x.2 := by simp [dGet, List.find?_cons, hq]
      rw [e1, e0]
      exact ⟨rfl, fun d e => by cases e; exact ⟨v, rfl, h1⟩⟩
    · have e0 : atN ((x.1, q, v) :: r) k = atN r k := by simp [atN, List.find?_cons, hq]
      have e1 : dGet (x :: kvs) k = dGet kvs k := by simp [dGet, List.find?_cons, hq]
      rw [e1, e0]
      exact ih
theorem room8 {A : Around} (hu : A.units + 100 < cLine) : (nestedKind X.prog X.w).room A.in1 := by
  show A.units + 1 + 8 < cLine
  omega
/-- k in d, k not in d -/
theorem n_in {d : D} {q : NestedKey} {a : Addr} {y : V} {u : Value} {Q : VK} {kvs : List (NestedKey × D)} {xs : List (NestedKey × Addr × V)} (hK : X.K = K.K) (hP : X.prog = K.P) (hw : X.w = K.w) (hu : X.A.units + 100 < cLine) (I : Inv X pins σ H s)
    (hp : H a = some (dN K a xs)) (r : RD K H av kvs xs) (hq : nkT d = some q) (ry : R K H av d y) (rv : RelV y u) (neg : Bool) (h : Q (.bl (if neg then !(dGet kvs q).isSome else (dGet kvs q).isSome)) H) :
    wpAny (model X.prog X.w) X.A (compareOp (if neg then .NotIn else .In) u (.ref a)) (EP X pins σ Q) X.xe s := by
  obtain ⟨h1, h2, _, us, pr, hm⟩ := dict_at hK hP hw I hp r
  obtain ⟨e1, e2⟩ := nkT_data hq
  have hn := nest_is hK I q y u (by rw [e1]; exact ry) rv
  obtain ⟨b, rfl⟩ : ∃ b, y = .ref b := by
    cases d with
    | tuple xs => obtain ⟨b, _, e, _⟩ := ry; exact ⟨b, e⟩
    | _ => cases hq
  cases rv
  have es : (atKey us q).isSome = (dGet kvs q).isSome := by rw [(r.get q).1, (atN_key pr q).1]
  cases neg with
  | false => exact wpAny_in_heap (room8 hu) ⟨hn, e2⟩ h1 hm ⟨.bl _, H, I.tok _, rfl, by rw [es]; exact h⟩
  | true =>
    show wpAny (model X.prog X.w) X.A (do return Value.bool (!(← contains (.ref a) (.ref b)))) (EP X pins σ Q) X.xe s
    exact wpAny_bind (wpAny_contains_heap (room8 hu) ⟨hn, e2⟩ h1 hm (wpAny_pure ⟨.bl _, H, I.tok _, rfl, by rw [es]; exact h⟩))
/-- d[k] -/
theorem n_get {d z : D} {q : NestedKey} {a : Addr} {y : V} {u : Value} {Q : VK} {kvs : List (NestedKey × D)} {xs : List (NestedKey × Addr × V)} {value slice : Expr} (hK : X.K = K.K) (hP : X.prog = K.P) (hw : X.w = K.w) (hu : X.A.units + 100 < cLine) (I : Inv X pins σ H s)
    (hp : H a = some (dN K a xs)) (r : RD K H av kvs xs) (hq : nkT d = some q) (ry : R K H av d y) (rv : RelV y u) (hz : dGet kvs q = some z) (h : ∀ v, R K H av z v → Q v H)
    (hs : subscripted slice false (.ref a) u = operate [.ref a, u] (getItem (.ref a) u)) : wpAny (model X.prog X.w) X.A (subscriptTail value slice (.ref a) u) (EP X pins σ Q) X.xe s := by
  obtain ⟨h1, h2, _, us, pr, hm⟩ := dict_at hK hP hw I hp r
  obtain ⟨e1, e2⟩ := nkT_data hq
  have hn := nest_is hK I q y u (by rw [e1]; exact ry) rv
  obtain ⟨b, rfl⟩ : ∃ b, y = .ref b := by
    cases d with
    | tuple xs => obtain ⟨b, _, e, _⟩ := ry; exact ⟨b, e⟩
    | _ => cases hq
  cases rv
  obtain ⟨v, hv, rvv⟩ := (r.get q).2 z hz
  obtain ⟨p, hp1, hp2⟩ := (atN_key pr q).2 v hv
  exact tail_any hm.typeIs PySem.F.slot_dict_getitem.lookup (wpAny_getItem_heap (room8 hu) ⟨hn, e2⟩ hm hp1 ⟨v, H, I.tok _, hp2, h v rvv⟩) hs
end
end Mp
end
section
set_option maxHeartbeats 4000000
/-! Readings of the pieces: names, constants, displays, operators, comparisons, and, or, not, if. -/
namespace Mp
open PySem PySem.Spec PyProof.Rows L2

/-- what is wanted of an error: the small Python's error, its class's address and fields as they lie -/
def REx (ca : Nat → Addr) (e : Exn) (cls : Value) (d : Option Addr) (H : Hp) : Prop :=
  ∃ dd fs, cls = .ref (ca e.cls) ∧ d = some dd ∧ H dd = some (.xd fs) ∧ RK0 e.fs fs
where
  RK0 : List (Str × D) → List (Str × V) → Prop
  | [], vs => vs = []
  | x :: xs, vs => ∃ v r, vs = (x.1, v) :: r ∧ (match x.2 with
    | .int i => v = .int i
    | .str s => v = .str s
    | _ => False) ∧ RK0 xs r

structure Kx where
  K : Kf
  ca : Nat → Addr

/-- what a piece comes to, from a memory on -/
def Po {α : Type} (k : Kx) (ex am : List Addr) (M : Mem) (H : Hp) (E : XK) (r : Res α) (ok : α → Mem → List Addr → Hp → Prop) : Prop :=
  match r with
  | .ok a M' => ∀ am' H', RM k.K ex am' M' H' → F am M H am' M' H' → ok a M' am' H'
  | .ex e M' => ∀ am' H' cls d, RM k.K ex am' M' H' → F am M H am' M' H' → REx k.ca e cls d H' → E cls d H'
  | .no => False

section
variable {k : Kx} {ex am am' : List Addr} {M M' : Mem} {H H' : Hp} {E : XK} {α β : Type}
theorem Po.weak {r : Res α} {ok : α → Mem → List Addr → Hp → Prop} (f : F am M H am' M' H') (h : Po k ex am M H E r ok) : Po k ex am' M' H' E r ok := by
  cases r with
  | ok a M1 => exact fun am1 H1 rm g => h am1 H1 rm (f.trans g)
  | ex e M1 => exact fun am1 H1 c d rm g q => h am1 H1 c d rm (f.trans g) q
  | no => exact h
theorem Po.mono {r : Res α} {ok ok' : α → Mem → List Addr → Hp → Prop} (h : Po k ex am M H E r ok) (hk : ∀ a M1 am1 H1, RM k.K ex am1 M1 H1 → F am M H am1 M1 H1 → ok a M1 am1 H1 → ok' a M1 am1 H1) : Po k ex am M H E r ok' := by
  cases r with
  | ok a M1 => exact fun am1 H1 rm g => hk a M1 am1 H1 rm g (h am1 H1 rm g)
  | ex e M1 => exact h
  | no => exact h
theorem Po.bind {r : Res α} {g : α → Mem → Res β} {ok : β → Mem → List Addr → Hp → Prop} (h : Po k ex am M H E (r.bind g) ok) :
    Po k ex am M H E r fun a M1 am1 H1 => Po k ex am1 M1 H1 E (g a M1) ok := by
  cases r with
  | ok a M1 => exact fun am1 H1 rm f => Po.weak f h
  | ex e M1 => exact h
  | no => exact h
/-- at once -/
theorem Po.now {a : α} {ok : α → Mem → List Addr → Hp → Prop} (m : RM k.K ex am M H) (h : Po k ex am M H E (.ok a M) ok) : ok a M am H := h am H m F.refl
theorem Po.ofO {o : Option α} {g : α → Mem → Res β} {ok : β → Mem → List Addr → Hp → Prop} (h : Po k ex am M H E ((Mp.ofO o M).bind g) ok) : ∃ a, o = some a ∧ Po k ex am M H E (g a M) ok := by
  cases o with
  | some a => exact ⟨a, rfl, h⟩
  | none => exact h.elim
theorem Po.ofO1 {o : Option α} {ok : α → Mem → List Addr → Hp → Prop} (h : Po k ex am M H E (Mp.ofO o M) ok) : ∃ a, o = some a ∧ Po k ex am M H E (.ok a M) ok := by
  cases o with
  | some a => exact ⟨a, rfl, h⟩
  | none => exact h.elim
end

abbrev okV (k : Kx) (ex : List Addr) (Q : VK) : Val → Mem → List Addr → Hp → Prop := fun v M am H => ∀ x, RV k.K H (avS ex am M) am v x → Q x H
abbrev okVs (k : Kx) (ex : List Addr) (Q : List V → Hp → Prop) : List Val → Mem → List Addr → Hp → Prop := fun v M am H => ∀ x, RVs k.K H (avS ex am M) am v x → Q x H
def tE (k : Kx) (E : XK) (f : SF) : TE := fun σ H Q => ∃ ex am env M, RM k.K ex am M H ∧ RE k.K ex am M H env σ ∧ Po k ex am M H E (f env M) (okV k ex Q)
def tA (k : Kx) (E : XK) (f : SA) : TA := fun σ H Q => ∃ ex am env M, RM k.K ex am M H ∧ RE k.K ex am M H env σ ∧ Po k ex am M H E (f env M) (okVs k ex Q)
def tT (k : Kx) (E : XK) (f : SF) : TT := fun σ H Q => ∃ ex am env M, RM k.K ex am M H ∧ RE k.K ex am M H env σ ∧
  Po k ex am M H E ((f env M).bind fun v M1 => ofO (truV M1 v) M1) (fun b _ _ H => Q b H)
/-- a piece that makes a new list -/
def tF (k : Kx) (E : XK) (f : SF) : TE := fun σ H Q => ∃ ex am env M, RM k.K ex am M H ∧ RE k.K ex am M H env σ ∧
  Po k ex am M H E (f env M) (fun v M1 am1 H1 => ∀ xs p vs, v = .d (.list xs) → H1 p = none → Rs k.K H1 (avS ex am1 M1) xs vs → Q (.ref p) (upd H1 p (.lst vs)))

/-- the context -/
structure Ck (k : Kx) (X : Cx) : Prop where
  K : X.K = k.K.K
  hu : X.A.units + 100 < cLine
  calm : X.calm = true
  nd : X.N.Nodup
  P : X.prog = k.K.P
  w : X.w = k.K.w
  kd : X.env.scope.kind = .function
  po : PassesOwn (model X.prog X.w) X.A X.env X.xe
abbrev SE (X : Cx) (k : Kx) (E : XK) (e : Expr) (f : SF) : Prop := PE X e (tE k E f)
abbrev SFr (X : Cx) (k : Kx) (E : XK) (e : Expr) (f : SF) : Prop := PE X e (tF k E f)
abbrev SAs (X : Cx) (k : Kx) (E : XK) (es : List Expr) (g : SA) : Prop := PA X es (tA k E g)
abbrev ST (X : Cx) (k : Kx) (E : XK) (e : Expr) (f : SF) : Prop := PT X e (tT k E f)
abbrev SW (X : Cx) (k : Kx) (E : XK) (e : Expr) (f : SF) : Prop := PW X e (tT k E f)

theorem PE.imp {X : Cx} {e : Expr} {t t' : TE} (h : PE X e t) (i : ∀ σ H Q, t' σ H Q → t σ H Q) : PE X e t' := ⟨fun pins s σ H Q I q => h.run pins s σ H Q I (i σ H Q q)⟩
theorem PA.imp {X : Cx} {e : List Expr} {t t' : TA} (h : PA X e t) (i : ∀ σ H Q, t' σ H Q → t σ H Q) : PA X e t' := ⟨fun pos pins s σ H Q I q => h.run pos pins s σ H Q I (i σ H Q q)⟩
theorem PT.imp {X : Cx} {e : Expr} {t t' : TT} (h : PT X e t) (i : ∀ σ H Q, t' σ H Q → t σ H Q) : PT X e t' := ⟨fun pins s σ H Q I q => h.run pins s σ H Q I (i σ H Q q)⟩
theorem PW.imp {X : Cx} {e : Expr} {t t' : TT} (h : PW X e t) (i : ∀ σ H Q, t' σ H Q → t σ H Q) : PW X e t' := ⟨fun wh pins s σ H Q I q => h.run wh pins s σ H Q I (i σ H Q q)⟩

/-- data, a list however it is held -/
def RT (K : Kf) (H : Hp) (av : Addr → Prop) : D → V → Prop
  | .list ds, v => ∃ a vs, v = .ref a ∧ H a = some (.lst vs) ∧ Rs K H av ds vs
  | d, v => R K H av d v
section
variable {K : Kf} {H H' : Hp} {ex am am' : List Addr} {M M' : Mem} {av : Addr → Prop}
theorem RT.of {d : D} {v : V} (h : R K H av d v) : RT K H av d v := by
  cases d with
  | list ds => obtain ⟨a, vs, e, q, _, r⟩ := h; exact ⟨a, vs, e, q, r⟩
  | _ => exact h
theorem rd_of {v : Val} {x : V} {d : D} (m : RM K ex am M H) (r : RV K H (avS ex am M) am v x) (h : rdV M v = some d) : RT K H (avS ex am M) d x := by
  cases v with
  | d y => cases h; exact RT.of r
  | ref i =>
    obtain ⟨a, ha, rfl⟩ := r
    cases hm : M[i]? with
    | none => simp [rdV, hm] at h
    | some ob =>
      cases ob with
      | lst xs =>
        have h' : some (PyData.list xs) = some d := by simpa [rdV, hm] using h
        cases h'
        obtain ⟨vs, e, q⟩ := m.obj i _ a hm ha
        exact ⟨a, vs, rfl, e, q⟩
      | _ => simp [rdV, hm] at h
theorem Rs.length : ∀ {ds : List D} {vs : List V}, Rs K H av ds vs → ds.length = vs.length
  | [], _, h => by cases h; rfl
  | d :: ds, _, h => by
    obtain ⟨v, r, e, _, h2⟩ := h
    subst e
    simp [Rs.length h2]
theorem Rs.append : ∀ {ds es : List D} {vs us : List V}, Rs K H av ds vs → Rs K H av es us → Rs K H av (ds ++ es) (vs ++ us)
  | [], _, _, _, h, g => by cases h; exact g
  | d :: ds, es, _, us, h, g => by
    obtain ⟨v, r, e, h1, h2⟩ := h
    subst e
    exact ⟨v, r ++ us, rfl, h1, Rs.append h2 g⟩
theorem Rs.take : ∀ {ds : List D} {vs : List V} (n : Nat), Rs K H av ds vs → Rs K H av (ds.take n) (vs.take n)
  | _, _, 0, _ => by simp [Rs]
  | [], _, n + 1, h => by cases h; simp [Rs]
  | d :: ds, _, n + 1, h => by
    obtain ⟨v, r, e, h1, h2⟩ := h
    subst e
    exact ⟨v, r.take n, rfl, h1, Rs.take n h2⟩
theorem Rs.drop : ∀ {ds : List D} {vs : List V} (n : Nat), Rs K H av ds vs → Rs K H av (ds.drop n) (vs.drop n)
  | _, _, 0, h => h
  | [], _, n + 1, h => by cases h; simp [Rs]
  | d :: ds, _, n + 1, h => by
    obtain ⟨v, r, e, h1, h2⟩ := h
    subst e
    exact Rs.drop n h2
theorem Rs.get : ∀ {ds : List D} {vs : List V} {i : Nat} {d : D}, Rs K H av ds vs → ds[i]? = some d → ∃ v, vs[i]? = some v ∧ R K H av d v
  | [], _, _, _, _, e => by simp at e
  | d :: ds, _, 0, d', h, e => by
    obtain ⟨v, r, ev, h1, h2⟩ := h
    subst ev
    simp at e
    subst e
    exact ⟨v, rfl, h1⟩
  | d :: ds, _, i + 1, d', h, e => by
    obtain ⟨v, r, ev, h1, h2⟩ := h
    subst ev
    exact Rs.get (i := i) h2 (by simpa using e)
theorem Rs.cut {ds : List D} {vs : List V} (lo hi : Option Int) (h : Rs K H av ds vs) : Rs K H av (cutL ds lo hi) (cutV vs lo hi) := by
  unfold cutL cutV
  rw [h.length]
  exact (h.drop _).take _
theorem Rs.reverse : ∀ {ds : List D} {vs : List V}, Rs K H av ds vs → Rs K H av ds.reverse vs.reverse
  | [], _, h => by cases h; simp [Rs]
  | d :: ds, _, h => by
    obtain ⟨v, r, e, h1, h2⟩ := h
    subst e
    rw [List.reverse_cons, List.reverse_cons]
    exact Rs.append (Rs.reverse h2) ⟨v, [], rfl, h1, rfl⟩
theorem RVs.toDs : ∀ {vs : List Val} {xs : List V} {ds : List D}, RVs K H av am vs xs → toDs vs = some ds → Rs K H av ds xs
  | [], _, _, h, e => by cases e; exact h
  | .d x :: r, _, ds, h, e => by
    obtain ⟨v, t, ev, h1, h2⟩ := h
    subst ev
    unfold Mp.toDs at e
    cases q : Mp.toDs r with
    | none => rw [q] at e; simp at e
    | some us =>
      rw [q] at e
      simp at e
      subst e
      exact ⟨v, t, rfl, h1, RVs.toDs h2 q⟩
  | .ref i :: r, _, _, _, e => by cases e
theorem Rs.vals : ∀ {ds : List D} {vs : List V}, Rs K H av ds vs → RVs K H av am (ds.map .d) vs
  | [], _, h => h
  | d :: ds, _, h => by
    obtain ⟨v, r, e, h1, h2⟩ := h
    exact ⟨v, r, e, h1, Rs.vals h2⟩
theorem RVs.length : ∀ {ds : List Val} {vs : List V}, RVs K H av am ds vs → ds.length = vs.length
  | [], _, h => by cases h; rfl
  | d :: ds, _, h => by
    obtain ⟨v, r, e, _, h2⟩ := h
    subst e
    simp [RVs.length h2]
theorem RVs.get : ∀ {ds : List Val} {vs : List V} {i : Nat} {d : Val}, RVs K H av am ds vs → ds[i]? = some d → ∃ v, vs[i]? = some v ∧ RV K H av am d v
  | [], _, _, _, _, e => by simp at e
  | d :: ds, _, 0, d', h, e => by
    obtain ⟨v, r, ev, h1, h2⟩ := h
    subst ev
    simp at e
    subst e
    exact ⟨v, rfl, h1⟩
  | d :: ds, _, i + 1, d', h, e => by
    obtain ⟨v, r, ev, h1, h2⟩ := h
    subst ev
    exact RVs.get (i := i) h2 (by simpa using e)
theorem RVs.set : ∀ {ds : List Val} {vs : List V} {i : Nat} {d : Val} {v : V}, RVs K H av am ds vs → RV K H av am d v → RVs K H av am (ds.set i d) (vs.set i v)
  | [], _, _, _, _, h, _ => by cases h; simp [RVs]
  | d :: ds, _, 0, d', v', h, q => by
    obtain ⟨v, r, ev, h1, h2⟩ := h
    subst ev
    exact ⟨v', r, rfl, q, h2⟩
  | d :: ds, _, i + 1, d', v', h, q => by
    obtain ⟨v, r, ev, h1, h2⟩ := h
    subst ev
    exact ⟨v, r.set i v', rfl, h1, RVs.set h2 q⟩
theorem Rs.set : ∀ {ds : List D} {vs : List V} {i : Nat} {d : D} {v : V}, Rs K H av ds vs → R K H av d v → Rs K H av (ds.set i d) (vs.set i v)
  | [], _, _, _, _, h, _ => by cases h; simp [Rs]
  | d :: ds, _, 0, d', v', h, q => by
    obtain ⟨v, r, ev, h1, h2⟩ := h
    subst ev
    exact ⟨v', r, rfl, q, h2⟩
  | d :: ds, _, i + 1, d', v', h, q => by
    obtain ⟨v, r, ev, h1, h2⟩ := h
    subst ev
    exact ⟨v, r.set i v', rfl, h1, Rs.set h2 q⟩
theorem lim_size {n : Nat} (h : n ≤ lim) : n ≤ sizeLine := Nat.le_trans h (by rw [sizeLine_eq]; decide)
theorem lim_lt {n : Nat} (h : n < lim) : n < sizeLine := Nat.lt_of_lt_of_le h (lim_size (Nat.le_refl _))
end

section
variable {X : Cx} {k : Kx} {E : XK} {e a b c : Expr} {es : List Expr} {pos : Pos} {f g h : SF} {A : SA}

theorem getE_spec {σ : Env} {i : Nat} {v : Val} (h : getE σ i = some v) : σ[i]? = some (some v) := by
  unfold getE at h
  split at h
  · rename_i q; cases h; exact q
  · cases h
/-- a name -/
theorem se_var {i : Nat} {x : Str} (hN : X.N[i]? = some x) (hv : Vis X.env.scope x) (hd : (x == ("__debug__" : Str)) = false) (hcd : (x == ("__classdict__" : Str)) = false) : SE X k E (.Name x pos) (sVar i) :=
  PE.imp (pe_var hN hv hd hcd) fun σ H Q ⟨ex, am, env, M, rm, re, p⟩ => by
    obtain ⟨v, hv, q⟩ := p.ofO1
    obtain ⟨x, e1, e2⟩ := re.2 i v hv
    exact ⟨x, e1, q.now rm x e2⟩
/-- a constant -/
def cD : Const → Option D
  | .none => some .none
  | .bool b => some (.bool b)
  | .int i => some (.int i)
  | .str s => some (.str s)
  | _ => none
theorem se_con {c : Const} {d : D} {j : Nat} (h : cD c = some d) : SE X k E (.Constant c j pos) (sCon d) := by
  cases c with
  | none => cases h; exact PE.imp pe_non fun σ H Q ⟨ex, am, env, M, rm, re, p⟩ => p.now rm _ rfl
  | bool b => cases h; exact PE.imp pe_bl fun σ H Q ⟨ex, am, env, M, rm, re, p⟩ => p.now rm _ rfl
  | int i => cases h; exact PE.imp pe_int fun σ H Q ⟨ex, am, env, M, rm, re, p⟩ => p.now rm _ rfl
  | str s => cases h; exact PE.imp pe_str fun σ H Q ⟨ex, am, env, M, rm, re, p⟩ => p.now rm _ rfl
  | _ => cases h
/-- a constant of the module -/
theorem se_glb {G : Nat → Option D} {n : Nat} {x : Str} {v : V} {u : Value} {d : D} (hg : Gl X x) (hm : X.mg x = some u) (r : RelV v u) (hd : (x == ("__debug__" : Str)) = false) (hG : G n = some d)
    (hr : ∀ H av, R k.K H av d v) : SE X k E (.Name x pos) (sGlb G n) :=
  PE.imp (pe_glob hg hm r hd) fun σ H Q ⟨ex, am, env, M, rm, re, p⟩ => by
    obtain ⟨d', hd', q⟩ := p.ofO
    rw [hG] at hd'; cases hd'
    exact q.now rm _ (hr H _)

/-! ### rows of expressions -/
theorem sa_nil : SAs X k E [] sNil := PA.imp pa_nil fun σ H Q ⟨ex, am, env, M, rm, re, p⟩ => p.now rm _ rfl
theorem sa_cons (he : SE X k E e f) (hr : SAs X k E es A) (hs : starEach (e :: es) X.env = (false, eval e X.env) :: starEach es X.env) : SAs X k E (e :: es) (sCons f A) :=
  PA.imp (pa_cons he hr hs) fun σ H Q ⟨ex, am, env, M, rm, re, p⟩ => by
    refine ⟨ex, am, env, M, rm, re, p.bind.mono fun v M1 am1 H1 rm1 f1 p1 x rx => ?_⟩
    refine ⟨ex, am1, env, M1, rm1, re.step rm f1, p1.bind.mono fun vs M2 am2 H2 rm2 f2 p2 xs rxs => ?_⟩
    exact p2.now rm2 (x :: xs) ⟨x, xs, rfl, rx.step rm1 f2, rxs⟩
/-- a tuple -/
theorem se_tup {x1 : Nat} (hr : SAs X k E es A) : SE X k E (.Tuple es x1 pos) (sTup A) :=
  PE.imp (pe_tupS hr) fun σ H Q ⟨ex, am, env, M, rm, re, p⟩ => by
    refine ⟨ex, am, env, M, rm, re, p.bind.mono fun vs M1 am1 H1 rm1 f1 p1 xs rxs => ?_⟩
    split at p1
    · rename_i ds hds
      split at p1
      · rename_i hl
        have rs := rxs.toDs hds
        refine ⟨by rw [← rs.length]; exact lim_size hl, fun q its hq => ?_⟩
        exact p1 am1 _ (rm1.new (sT its xs) hq) (F.new hq) _ ⟨q, xs, rfl, .of, (rm1.agr (F.new hq)).rs _ _ rs⟩
      · exact p1.elim
    · exact p1.elim
/-- a list that is new -/
theorem sf_lst (hr : SAs X k E es A) : SFr X k E (.List es pos) (sLst A) :=
  PE.imp (pe_lst hr) fun σ H Q ⟨ex, am, env, M, rm, re, p⟩ => by
    refine ⟨ex, am, env, M, rm, re, p.bind.mono fun vs M1 am1 H1 rm1 f1 p1 xs rxs => ?_⟩
    split at p1
    · rename_i ds hds
      split at p1
      · rename_i hl
        have rs := rxs.toDs hds
        refine ⟨by rw [← rs.length]; exact lim_size hl, fun q hq => ?_⟩
        exact p1.now rm1 _ q xs rfl hq rs
      · exact p1.elim
    · exact p1.elim
/-- a new list as a value -/
theorem se_of_f (hf : SFr X k E e f) (hl : ∀ env M v M', f env M = .ok v M' → ∃ xs, v = .d (.list xs)) : SE X k E e f :=
  PE.imp hf fun σ H Q ⟨ex, am, env, M, rm, re, p⟩ => by
    refine ⟨ex, am, env, M, rm, re, ?_⟩
    cases q : f env M with
    | ok v M1 =>
      rw [q] at p
      obtain ⟨xs0, hx⟩ := hl _ _ _ _ q
      intro am1 H1 rm1 f1 xs p0 vs hv hp0 rs
      have g := rm1.agr (F.new (o := .lst vs) (am := am1) (M := M1) hp0)
      refine p am1 _ (rm1.new (.lst vs) hp0) (f1.trans (F.new hp0)) _ ?_
      subst hv
      refine ⟨p0, vs, rfl, upd_same, fun l => ?_, g.rs _ _ rs⟩
      obtain ⟨o, ho⟩ := rm1.avH l
      rw [hp0] at ho; cases ho
    | ex e1 M1 => rw [q] at p; exact p
    | no => rw [q] at p; exact p
/-- a new list that will be changed -/
theorem se_new (hf : SFr X k E e f) : SE X k E e (sNew f) :=
  PE.imp hf fun σ H Q ⟨ex, am, env, M, rm, re, p⟩ => by
    refine ⟨ex, am, env, M, rm, re, p.bind.mono fun v M1 am1 H1 rm1 f1 p1 xs q vs hv hq rs => ?_⟩
    subst hv
    have al := rm1.alloc (o := .lst vs) (ob := .lst xs) hq rfl fun H' av' am' g _ hs => ⟨vs, hs, g.rs _ _ rs⟩
    refine p1 _ _ al.1 al.2 _ ⟨q, ?_, rfl⟩
    rw [← rm1.len]
    simp
/-- a list of values, some of them changed in place -/
theorem okRef_lt {v : Val} {x : V} {n : Nat} {K : Kf} {H : Hp} {av : Addr → Prop} {am : List Addr} (r : RV K H av am v x) (h : am.length = n) : okRef n v = true := by
  cases v with
  | d x => rfl
  | ref j =>
    obtain ⟨a, ha, _⟩ := r
    exact decide_eq_true (by rw [← h]; exact (List.getElem?_eq_some_iff.mp ha).1)
theorem okRef_all {n : Nat} {K : Kf} {H : Hp} {av : Addr → Prop} {am : List Addr} (h : am.length = n) : ∀ {vs : List Val} {xs : List V}, RVs K H av am vs xs → ∀ v ∈ vs, okRef n v = true
  | [], _, _, v, hv => by simp at hv
  | u :: vs, _, r, v, hv => by
    obtain ⟨x, t, e, h1, h2⟩ := r
    rcases List.mem_cons.mp hv with rfl | hv
    · exact okRef_lt h1 h
    · exact okRef_all h h2 v hv
theorem se_box (hr : SAs X k E es A) : SE X k E (.List es pos) (sBox A) :=
  PE.imp (pe_lst hr) fun σ H Q ⟨ex, am, env, M, rm, re, p⟩ => by
    refine ⟨ex, am, env, M, rm, re, p.bind.mono fun vs M1 am1 H1 rm1 f1 p1 xs rxs => ?_⟩
    split at p1
    · rename_i hl
      refine ⟨by rw [← rxs.length]; exact lim_size hl, fun q hq => ?_⟩
      have al := rm1.alloc (o := .lst xs) (ob := .box vs) hq rfl fun H' av' am' g ge hs => ⟨xs, hs, g.rvs ge _ _ rxs, okRef_all rm1.len rxs⟩
      refine p1 _ _ al.1 al.2 _ ⟨q, ?_, rfl⟩
      rw [← rm1.len]
      simp
    · exact p1.elim

/-! ### operators -/
/-- two values that are data, and what comes of them -/
def rD2 (k : Kx) (o : D → D → Option D) : R2 := fun x y H Q => ∃ ex am M a b z, RM k.K ex am M H ∧ RT k.K H (avS ex am M) a x ∧ RT k.K H (avS ex am M) b y ∧ o a b = some z ∧
  ∀ am' H' w, RM k.K ex am' M H' → F am M H am' M H' → R k.K H' (avS ex am' M) z w → Q w H'
def opOf : BOp → Operator
  | .add => .Add | .sub => .Sub | .mul => .Mult | .fdiv => .FloorDiv | .mod => .Mod | .pow => .Pow | .shl => .LShift
theorem lim9_log {i : Int} (h : small i = true) : i.natAbs.log2 < 8000 := by
  have h1 : i.natAbs < lim9 := of_decide_eq_true h
  unfold lim9 at h1
  exact PySem.Flt.log2_lt_of (by decide) h1
end
end Mp
end
section
set_option maxHeartbeats 4000000
/-! Readings of operators, comparisons, tests. -/
namespace Mp
open PySem PySem.Spec PyProof.Rows L2
section
variable {X : Cx} {k : Kx} {E : XK} {e a b c : Expr} {es : List Expr} {pos : Pos} {f g h : SF} {A : SA}

theorem Rs.nil_of {K : Kf} {H : Hp} {av : Addr → Prop} {ds : List D} (h : Rs K H av ds []) : ds = [] := List.eq_nil_of_length_eq_zero (by have := h.length; simpa using this)
def CPowB (i j : Int) : Prop := 0 ≤ j ∧ ((j ≤ 1000000 ∧ i.natAbs < 2 ^ 64) ∨ (j ≤ 1000 ∧ i.natAbs < 2 ^ 250))
theorem op_powB : OpR X (binaryOp .Pow) (rI CPowB fun i j => .int (i ^ j.toNat)) := opI fun i j _ _ _ _ _ hc q => by
  obtain ⟨h0, ⟨h1, h2⟩ | ⟨h1, h2⟩⟩ := hc
  · exact pow_int_small h0 h1 h2 q
  · refine pow_int h0 ?_ q
    have hb : Builtin.Int.intBits i ≤ 250 := PySem.intBits_le_iff.mpr h2
    have h3 : (Builtin.Int.intBits i : Int) * j ≤ 250 * j := Int.mul_le_mul_of_nonneg_right (by omega) h0
    omega
theorem Rs.repl {K : Kf} {H : Hp} {av : Addr → Prop} {ds : List D} {vs : List V} (h : Rs K H av ds vs) : ∀ n : Nat, Rs K H av (List.replicate n ds).flatten (List.replicate n vs).flatten
  | 0 => rfl
  | n + 1 => by
    rw [List.replicate_succ, List.replicate_succ, List.flatten_cons, List.flatten_cons]
    exact h.append (Rs.repl h n)
theorem op_bin (hK : X.K = k.K.K) (o : BOp) : OpR X (binaryOp (opOf o)) (rD2 k (binD o)) := by
  intro pins s σ H x y v u Q I rx ry ⟨ex, am, M, a, b, z, rm, ra, rb, hz, q⟩
  unfold binD at hz
  split at hz
  · cases hz; cases ra; cases rb
    exact op_add pins s σ H _ _ v u Q I rx ry ⟨_, _, rfl, rfl, q am H _ rm F.refl rfl⟩
  · split at hz
    · rename_i hl
      cases hz; cases ra; cases rb
      exact op_add_str pins s σ H _ _ v u Q I rx ry ⟨_, _, rfl, rfl, lim_size hl, q am H _ rm F.refl rfl⟩
    · cases hz
  · split at hz
    · rename_i hl
      cases hz
      obtain ⟨p, xs, rfl, hp, r1⟩ := ra
      obtain ⟨p', ys, rfl, hp', r2⟩ := rb
      have sp := hp.sq
      have sp' := hp'.sq
      rw [← hK] at sp sp'
      refine op_catS pins s σ H _ _ v u Q I rx ry ⟨p, p', xs, ys, rfl, rfl, sp, sp', by rw [← r1.length, ← r2.length]; exact lim_size hl, fun e => ?_, fun e2 => ?_, fun t its ht => ?_⟩
      · subst e
        have e0 := r1.nil_of
        subst e0
        exact q am H _ rm F.refl ⟨p', ys, rfl, hp', r2⟩
      · subst e2
        have e0 := r2.nil_of
        subst e0
        exact q am H _ rm F.refl ⟨p, xs, rfl, hp, by rw [List.append_nil]; exact r1⟩
      · exact q am _ _ (rm.new _ ht) (F.new ht) ⟨t, xs ++ ys, rfl, .of, (rm.agr (F.new ht)).rs _ _ (r1.append r2)⟩
    · cases hz
  · split at hz
    · rename_i hl
      cases hz
      obtain ⟨p, xs, rfl, hp, r1⟩ := ra
      obtain ⟨p', ys, rfl, hp', r2⟩ := rb
      refine op_cat pins s σ H _ _ v u Q I rx ry ⟨p, p', xs, ys, rfl, rfl, hp, hp', by rw [← r1.length, ← r2.length]; exact lim_size hl, fun t ht => ?_⟩
      refine q am _ _ (rm.new _ ht) (F.new ht) ⟨t, xs ++ ys, rfl, upd_same, fun l => ?_, (rm.agr (F.new ht)).rs _ _ (r1.append r2)⟩
      obtain ⟨o, ho⟩ := rm.avH l
      rw [ht] at ho; cases ho
    · cases hz
  · cases hz; cases ra; cases rb
    exact op_sub pins s σ H _ _ v u Q I rx ry ⟨_, _, rfl, rfl, q am H _ rm F.refl rfl⟩
  · split at hz
    · rename_i hs0
      cases hz; cases ra; cases rb
      rcases Bool.or_eq_true _ _ ▸ hs0 with hs | hs
      · rcases Bool.or_eq_true _ _ ▸ hs with hs | hs
        · rw [Bool.and_eq_true] at hs
          have h1 := lim9_log hs.1
          have h2 := lim9_log hs.2
          exact op_mulW pins s σ H _ _ v u Q I rx ry ⟨_, _, rfl, rfl, by unfold CMulW; omega, q am H _ rm F.refl rfl⟩
        · have hs := of_decide_eq_true hs
          exact op_mul pins s σ H _ _ v u Q I rx ry ⟨_, _, rfl, rfl, .inl ⟨by omega, by omega⟩, q am H _ rm F.refl rfl⟩
      · have hs := of_decide_eq_true hs
        exact op_mul pins s σ H _ _ v u Q I rx ry ⟨_, _, rfl, rfl, .inr ⟨by omega, by omega⟩, q am H _ rm F.refl rfl⟩
    · cases hz
  · split at hz
    · rename_i hs
      rw [Bool.and_eq_true, decide_eq_true_eq] at hs
      cases hz; cases ra; cases rb
      have h2 := lim9_log hs.2
      exact op_fdivW pins s σ H _ _ v u Q I rx ry ⟨_, _, rfl, rfl, ⟨hs.1, by omega⟩, q am H _ rm F.refl rfl⟩
    · cases hz
  · split at hz
    · rename_i hs
      cases hz; cases ra; cases rb
      exact op_mod pins s σ H _ _ v u Q I rx ry ⟨_, _, rfl, rfl, hs, q am H _ rm F.refl rfl⟩
    · cases hz
  · split at hz
    · rename_i hs
      simp only [Bool.and_eq_true, Bool.or_eq_true, decide_eq_true_eq] at hs
      cases hz; cases ra; cases rb
      exact op_powB pins s σ H _ _ v u Q I rx ry ⟨_, _, rfl, rfl, hs, q am H _ rm F.refl rfl⟩
    · cases hz
  · split at hz
    · rename_i hs
      simp only [Bool.and_eq_true, decide_eq_true_eq] at hs
      cases hz; cases ra; cases rb
      exact op_shl pins s σ H _ _ v u Q I rx ry ⟨_, _, rfl, rfl, ⟨hs.1.1, hs.1.2, hs.2⟩, q am H _ rm F.refl rfl⟩
    · cases hz
  · split at hz
    · rename_i hs
      simp only [Bool.and_eq_true, decide_eq_true_eq] at hs
      cases hz
      obtain ⟨p, xs, rfl, hp, r1⟩ := ra
      cases rb
      refine op_rep pins s σ H _ _ v u Q I rx ry ⟨p, _, xs, rfl, rfl, hp, hs.1.1, hs.1.2, by rw [← r1.length]; exact lim_size hs.2, fun t ht => ?_⟩
      refine q am _ _ (rm.new _ ht) (F.new ht) ⟨t, _, rfl, upd_same, fun l => ?_, (rm.agr (F.new ht)).rs _ _ (r1.repl _)⟩
      obtain ⟨o, ho⟩ := rm.avH l
      rw [ht] at ho; cases ho
    · cases hz
  · cases hz

theorem se_bin (hK : X.K = k.K.K) (o : BOp) (ha : SE X k E a f) (hb : SE X k E b g) : SE X k E (.BinOp a (opOf o) b pos) (sBin o f g) :=
  PE.imp (pe_op (op_bin hK o) ha hb) fun σ H Q ⟨ex, am, env, M, rm, re, p⟩ => by
    refine ⟨ex, am, env, M, rm, re, p.bind.mono fun v M1 am1 H1 rm1 f1 p1 x rx => ?_⟩
    refine ⟨ex, am1, env, M1, rm1, re.step rm f1, p1.bind.mono fun w M2 am2 H2 rm2 f2 p2 y ry => ?_⟩
    cases q1 : rdV M2 v with
    | none => simp [q1] at p2; exact p2.elim
    | some d1 =>
      cases q2 : rdV M2 w with
      | none => simp [q1, q2] at p2; exact p2.elim
      | some d2 =>
        simp only [q1, q2] at p2
        obtain ⟨z, hz, p3⟩ := p2.ofO
        exact ⟨ex, am2, M2, d1, d2, z, rm2, rd_of rm2 (rx.step rm1 f2) q1, rd_of rm2 ry q2, hz, fun am' H' w' rm' f' r' => p3 am' H' rm' f' w' r'⟩

theorem se_neg (ha : SE X k E a f) : SE X k E (.UnaryOp .USub a pos) (sNeg f) :=
  PE.imp (pe_un un_neg ha) fun σ H Q ⟨ex, am, env, M, rm, re, p⟩ => by
    refine ⟨ex, am, env, M, rm, re, p.bind.mono fun v M1 am1 H1 rm1 f1 p1 x rx => ?_⟩
    split at p1
    · exact ⟨_, rx, p1.now rm1 _ rfl⟩
    · exact p1.elim

/-! ### data of the library -/
mutual
theorem R.dp {K : Kf} {H : Hp} {av : Addr → Prop} : ∀ (d : D) (v : V), R K H av d v → Dp K.K H v d
  | .none, _, h => by cases h; exact .non
  | .bool b, _, h => by cases h; exact .bl b
  | .int i, _, h => by cases h; exact .int i
  | .str s, _, h => by cases h; exact .str s
  | .tuple ds, _, h => by obtain ⟨p, vs, e, q, r⟩ := h; subst e; exact .tup q.sq (Rs.dp ds vs r)
  | .list ds, _, h => by obtain ⟨p, vs, e, q, _, r⟩ := h; subst e; exact .lst (.inl (.inl q)) (Rs.dp ds vs r)
  | .dict _, _, h => h.elim
theorem Rs.dp {K : Kf} {H : Hp} {av : Addr → Prop} : ∀ (ds : List D) (vs : List V), Rs K H av ds vs → DpAll K.K H vs ds
  | [], _, h => by cases h; exact .nil
  | d :: ds, _, h => by obtain ⟨v, r, e, h1, h2⟩ := h; subst e; exact .cons (R.dp d v h1) (Rs.dp ds r h2)
end
theorem RT.dp {K : Kf} {H : Hp} {av : Addr → Prop} {d : D} {v : V} (h : RT K H av d v) : Dp K.K H v d := by
  cases d with
  | list ds => obtain ⟨p, vs, e, q, r⟩ := h; subst e; exact .lst (.inl (.inl q)) (Rs.dp ds vs r)
  | none => exact R.dp (av := av) PyData.none v h
  | bool b => exact R.dp (av := av) (PyData.bool b) v h
  | int i => exact R.dp (av := av) (PyData.int i) v h
  | str s => exact R.dp (av := av) (PyData.str s) v h
  | tuple ds => exact R.dp (av := av) (PyData.tuple ds) v h
  | dict ds => exact R.dp (av := av) (PyData.dict ds) v h

theorem flat_R {K : Kf} {H : Hp} {av : Addr → Prop} {d : D} {v : V} (h : R K H av d v) : flatD d = true → flatV v = true := by
  cases d with
  | none => cases h; exact fun _ => rfl
  | bool b => cases h; exact fun _ => rfl
  | int b => cases h; exact fun _ => rfl
  | str b => cases h; exact fun _ => rfl
  | _ => intro q; cases q
theorem eq_R {K : Kf} {H : Hp} {av : Addr → Prop} {d d' : D} {v v' : V} (h : R K H av d v) (h' : R K H av d' v') (fd : flatD d = true) (fd' : flatD d' = true) : eqV v v' = PyData.eqv d d' := by
  cases d <;> first | (cases fd; done) | skip
  all_goals (cases h; cases d' <;> first | (cases fd'; done) | skip)
  all_goals (cases h'; rfl)
theorem RT.flat {K : Kf} {H : Hp} {av : Addr → Prop} {d : D} {v : V} (h : RT K H av d v) (fd : flatD d = true) : R K H av d v := by
  cases d with
  | list ds => cases fd
  | _ => exact h
theorem all_flat {K : Kf} {H : Hp} {av : Addr → Prop} : ∀ {ds : List D} {vs : List V}, Rs K H av ds vs → ds.all flatD = true → vs.all flatV = true
  | [], _, h, _ => by cases h; rfl
  | d :: ds, _, h, f => by
    obtain ⟨v, r, e, h1, h2⟩ := h
    subst e
    rw [List.all_cons, Bool.and_eq_true] at f
    rw [List.all_cons, flat_R h1 f.1, all_flat h2 f.2]
    rfl
theorem any_flat {K : Kf} {H : Hp} {av : Addr → Prop} {x : D} {vx : V} (hx : R K H av x vx) (fx : flatD x = true) : ∀ {ds : List D} {vs : List V}, Rs K H av ds vs → ds.all flatD = true → (inV vx vs) = ds.any fun y => PyData.eqv y x
  | [], _, h, _ => by cases h; rfl
  | d :: ds, _, h, f => by
    obtain ⟨v, r, e, h1, h2⟩ := h
    subst e
    rw [List.all_cons, Bool.and_eq_true] at f
    have ih := any_flat hx fx h2 f.2
    unfold inV at ih ⊢
    rw [List.any_cons, List.any_cons, eq_R h1 hx f.1 fx, ih]
theorem ints_R {K : Kf} {H : Hp} {av : Addr → Prop} : ∀ {ds : List D} {vs : List V} {ns : List Int}, Rs K H av ds vs → intsOf ds = some ns → vs = ns.map V.int
  | [], _, _, h, e => by cases h; cases e; rfl
  | .int i :: ds, _, ns, h, e => by
    obtain ⟨v, r, ev, h1, h2⟩ := h
    subst ev
    unfold intsOf at e
    cases q : intsOf ds with
    | none => rw [q] at e; simp at e
    | some ms =>
      rw [q] at e
      simp at e
      subst e
      cases h1
      rw [ints_R h2 q]
      rfl
  | .none :: _, _, _, _, e => by cases e
  | .bool _ :: _, _, _, _, e => by cases e
  | .str _ :: _, _, _, _, e => by cases e
  | .list _ :: _, _, _, _, e => by cases e
  | .tuple _ :: _, _, _, _, e => by cases e
  | .dict _ :: _, _, _, _, e => by cases e

/-! ### comparisons -/
def cmpOf : COp → CmpOp
  | .eq => .Eq | .ne => .NotEq | .lt => .Lt | .le => .LtE | .gt => .Gt | .ge => .GtE | .isin => .In | .notin => .NotIn | .isN => .Is | .notN => .IsNot
def rC (k : Kx) (o : COp) : R2 := fun x y H Q => ∃ ex am M v w b, RM k.K ex am M H ∧ RV k.K H (avS ex am M) am v x ∧ RV k.K H (avS ex am M) am w y ∧ cmpV M o v w = some b ∧ Q (.bl b) H

/-- keys -/
theorem key_R {K : Kf} {H : Hp} {av : Addr → Prop} {d : D} {v : V} {q : L2.Key} (h : R K H av d v) (e : keyD d = some q) : v = kV q := by
  cases d with
  | int i => cases e; exact h
  | str s => cases e; exact h
  | _ => cases e
theorem RK.get {κ : Type} [DecidableEq κ] {K : Kf} {H : Hp} {av : Addr → Prop} (q : κ) : ∀ {kvs : List (κ × D)} {vs : List (κ × V)}, RK K H av kvs vs → (dGet kvs q).isSome = (valV vs q).isSome ∧ ∀ d, dGet kvs q = some d → ∃ v, valV vs q = some v ∧ R K H av d v
  | [], _, h => by cases h; exact ⟨rfl, fun d e => by cases e⟩
  | x :: kvs, _, h => by
    obtain ⟨v, r, e, h1, h2⟩ := h
    subst e
    have ih := RK.get q h2
    by_cases hq : x.1 = q
    · rw [valV_pos hq]
      have e1 : dGet (x :: kvs) q = some x.2 := by simp [dGet, List.find?_cons, hq]
      rw [e1]
      exact ⟨rfl, fun d e => by cases e; exact ⟨v, rfl, h1⟩⟩
    · rw [valV_neg hq]
      have e1 : dGet (x :: kvs) q = dGet kvs q := by simp [dGet, List.find?_cons, hq]
      rw [e1]
      exact ih

theorem ltD_ok {X : Cx} {K : Kf} (hK : X.K = K.K) (hu : X.A.units < cLine) {av : Addr → Prop} {d d' : D} {b : Bool} (h : ltD d d' = some b) {pins : List (Addr × Obj)} {s : Shared} {σ : L2.St} {H : Hp} {x y : V} {v u : Value} {Q : VK}
    (I : Inv X pins σ H s) (rx : RelV x v) (ry : RelV y u) (r1 : RT K H av d x) (r2 : RT K H av d' y) (q : Q (.bl b) H) : wpAny (model X.prog X.w) X.A (compareOp .Lt v u) (EP X pins σ Q) X.xe s := by
  unfold ltD at h
  split at h
  · cases h; cases r1; cases r2
    exact op_lt pins s σ H _ _ v u Q I rx ry ⟨_, _, rfl, rfl, q⟩
  · split at h
    · rename_i n1 n2 e1 e2
      cases h
      obtain ⟨p, vs, rfl, hp, w1⟩ := r1
      obtain ⟨p', vs', rfl, hp', w2⟩ := r2
      rw [ints_R w1 e1] at hp
      rw [ints_R w2 e2] at hp'
      exact op_ltT hu pins s σ H _ _ v u Q I rx ry ⟨p, p', _, _, rfl, rfl, by rw [hK]; exact hp.sq, by rw [hK]; exact hp'.sq, q⟩
    · cases h
  · cases h
theorem RT.seq {K : Kf} {H : Hp} {av : Addr → Prop} {ds : List D} {y : V} (h : RT K H av (.tuple ds) y ∨ RT K H av (.list ds) y) : ∃ p vs, y = .ref p ∧ (SqL K.K H p vs ∨ SqT K.K H p vs) ∧ Rs K H av ds vs := by
  rcases h with ⟨p, vs, e, hp, r⟩ | ⟨p, vs, e, hp, r⟩
  · exact ⟨p, vs, e, .inr hp.sq, r⟩
  · exact ⟨p, vs, e, .inl (.inl (.inl hp)), r⟩
/-- in, not in of data -/
theorem inD_ok {X : Cx} {K : Kf} (hK : X.K = K.K) (hu : X.A.units + 65 < cLine) {av : Addr → Prop} {d d' : D} {b : Bool} (h : inD d d' = some b) {pins : List (Addr × Obj)} {s : Shared} {σ : L2.St} {H : Hp} {x y : V} {v u : Value} {Q : VK}
    (I : Inv X pins σ H s) (rx : RelV x v) (ry : RelV y u) (r1 : RT K H av d x) (r2 : RT K H av d' y) (neg : Bool) (q : Q (.bl (if neg then !b else b)) H) : wpAny (model X.prog X.w) X.A (compareOp (if neg then .NotIn else .In) v u) (EP X pins σ Q) X.xe s := by
  have fl : ∀ ds : List D, (RT K H av (.tuple ds) y ∨ RT K H av (.list ds) y) → (flatD d && ds.all flatD) = true → b = (ds.any fun y => PyData.eqv y d) → wpAny (model X.prog X.w) X.A (compareOp (if neg then .NotIn else .In) v u) (EP X pins σ Q) X.xe s := by
    intro ds r hf hb
    rw [Bool.and_eq_true] at hf
    obtain ⟨p, vs, rfl, hp, w⟩ := RT.seq r
    rw [← hK] at hp
    have e := any_flat (r1.flat hf.1) hf.1 w hf.2
    cases neg with
    | false => exact op_in_seq pins s σ H _ _ v u Q I rx ry ⟨p, vs, rfl, hp, flat_R (r1.flat hf.1) hf.1, all_flat w hf.2, by rw [if_neg (by decide), e, ← hb]; exact q⟩
    | true => exact op_notIn_seq pins s σ H _ _ v u Q I rx ry ⟨p, vs, rfl, hp, flat_R (r1.flat hf.1) hf.1, all_flat w hf.2, by rw [if_pos rfl, e, ← hb]; exact q⟩
  unfold inD at h
  split at h
  · rename_i ds
    split at h
    · rename_i hc
      cases h
      by_cases hf : (flatD d && ds.all flatD) = true
      · exact fl ds (.inr r2) hf rfl
      · have hs : (SeqAt.shaped d && SeqAt.shaped (.list ds)) = true := by
          rcases Bool.or_eq_true _ _ ▸ hc with z | z
          · exact absurd z hf
          · exact z
        rw [Bool.and_eq_true] at hs
        cases neg with
        | false => exact op_inD hu pins s σ H _ _ v u Q I rx ry ⟨d, ds, by rw [hK]; exact r1.dp, by rw [hK]; exact r2.dp, hs.1, hs.2, q⟩
        | true => exact op_notInD hu pins s σ H _ _ v u Q I rx ry ⟨d, ds, by rw [hK]; exact r1.dp, by rw [hK]; exact r2.dp, hs.1, hs.2, q⟩
    · cases h
  · rename_i ds
    split at h
    · rename_i hf
      cases h
      exact fl ds (.inl r2) hf rfl
    · cases h
  · cases h
/-- .. of a dict -/
theorem inDict_ok {X : Cx} {K : Kf} {ex am : List Addr} {M : Mem} {d : D} {i : Nat} (hK : X.K = K.K) (hP : X.prog = K.P) (hw : X.w = K.w) (hu : X.A.units + 100 < cLine) {b : Bool} (h : inDict M d i = some b) {pins : List (Addr × Obj)} {s : Shared} {σ : L2.St} {H : Hp} {x y : V} {v u : Value} {Q : VK}
    (rm : RM K ex am M H) (I : Inv X pins σ H s) (rx : RelV x v) (ry : RelV y u) (r1 : RT K H (avS ex am M) d x) (r2 : RV K H (avS ex am M) am (.ref i) y) (neg : Bool) (q : Q (.bl (if neg then !b else b)) H) : wpAny (model X.prog X.w) X.A (compareOp (if neg then .NotIn else .In) v u) (EP X pins σ Q) X.xe s := by
  have go : ∀ p (o : Option V), y = .ref p → DGet H p x o → b = o.isSome → wpAny (model X.prog X.w) X.A (compareOp (if neg then .NotIn else .In) v u) (EP X pins σ Q) X.xe s := by
    intro p o e g hb
    subst e
    obtain rfl : u = Value.ref p := ry
    cases neg with
    | false => exact d_in (by omega) I g rx fun s3 I3 => ⟨.bl o.isSome, H, I3, rfl, by rw [← hb]; exact q⟩
    | true => exact d_notIn (by omega) I g rx fun s3 I3 => ⟨.bl (!o.isSome), H, I3, rfl, by rw [← hb]; exact q⟩
  obtain ⟨p, ha, e⟩ := r2
  unfold inDict at h
  cases hm : M[i]? with
  | none => rw [hm] at h; cases h
  | some ob =>
    rw [hm] at h
    cases ob with
    | dK kvs =>
      obtain ⟨vs, hp, w⟩ := rm.obj i _ p hm ha
      cases hq : keyD d with
      | none => simp [hq] at h
      | some q0 =>
        simp [hq] at h
        have hx : x = kV q0 := by
          have f : flatD d = true := by cases d <;> first | rfl | cases hq
          exact key_R (r1.flat f) hq
        subst hx
        exact go p _ e (DGet.k hp) (by rw [← h]; exact (w.get q0).1)
    | dT kvs =>
      obtain ⟨xs, hp, w⟩ := rm.obj i _ p hm ha
      cases hq : nkT d with
      | none => simp [hq] at h
      | some q0 =>
        simp [hq] at h
        have f : R K H (avS ex am M) d x := by cases d <;> first | exact r1 | cases hq
        subst e
        obtain rfl : u = Value.ref p := ry
        exact n_in hK hP hw hu I hp w hq f rx neg (by rw [h]; exact q)
    | _ => simp at h

/-- a comparison -/
theorem op_cmp (ck : Ck k X) (o : COp) : OpR X (compareOp (cmpOf o)) (rC k o) := by
  intro pins s σ H x y v u Q I rx ry ⟨ex, am, M, va, wa, b, rm, ra, rb, hz, q⟩
  have hK := ck.K
  have hu := ck.hu
  unfold cmpV at hz
  split at hz
  · cases hz
  · rename_i d1 e1
    have t1 := rd_of rm ra e1
    split at hz
    · rename_i d2 e2
      have t2 := rd_of rm rb e2
      have eqn : ∀ {neg : Bool} {c : Bool}, eqD d1 d2 = some c → Q (.bl (if neg then !c else c)) H → wpAny (model X.prog X.w) X.A (compareOp (if neg then .NotEq else .Eq) v u) (EP X pins σ Q) X.xe s := by
        intro neg c he q
        unfold eqD at he
        split at he
        · rename_i hs
          rw [Bool.and_eq_true] at hs
          cases he
          cases neg with
          | false => exact op_eqD (by omega) pins s σ H _ _ v u Q I rx ry ⟨d1, d2, by rw [hK]; exact t1.dp, by rw [hK]; exact t2.dp, hs.1, hs.2, q⟩
          | true => exact op_neD (by omega) pins s σ H _ _ v u Q I rx ry ⟨d1, d2, by rw [hK]; exact t1.dp, by rw [hK]; exact t2.dp, hs.1, hs.2, q⟩
        · cases he
      unfold cmpD at hz
      split at hz
      · exact eqn (neg := false) hz q
      · cases he : eqD d1 d2 with
        | none => rw [he] at hz; cases hz
        | some c =>
          rw [he] at hz; cases hz
          exact eqn (neg := true) he q
      · exact ltD_ok hK (by omega) hz I rx ry t1 t2 q
      · cases hz; cases t1; cases t2
        exact op_le pins s σ H _ _ v u Q I rx ry ⟨_, _, rfl, rfl, q⟩
      · cases hz; cases t1; cases t2
        exact op_gt pins s σ H _ _ v u Q I rx ry ⟨_, _, rfl, rfl, q⟩
      · cases hz; cases t1; cases t2
        exact op_ge pins s σ H _ _ v u Q I rx ry ⟨_, _, rfl, rfl, q⟩
      · exact inD_ok hK (by omega) hz I rx ry t1 t2 false q
      · cases he : inD d1 d2 with
        | none => rw [he] at hz; cases hz
        | some c =>
          rw [he] at hz; cases hz
          exact inD_ok hK (by omega) he I rx ry t1 t2 true q
      · cases t2
        refine op_isN pins s σ H _ _ v u Q I rx ry ⟨rfl, ?_⟩
        have e : decide (x = V.non) = b := by
          split at hz
          · cases hz; cases t1; rfl
          · rename_i d0 hd
            cases hz
            refine decide_eq_false fun e => hd ?_
            subst e
            cases d1 <;> first | rfl | (cases t1; done) | (obtain ⟨_, _, z, _⟩ := t1; cases z)
        rw [e]
        exact q
      · cases t2
        refine op_notN pins s σ H _ _ v u Q I rx ry ⟨rfl, ?_⟩
        have e : (!decide (x = V.non)) = b := by
          split at hz
          · cases hz; cases t1; rfl
          · rename_i d0 hd
            cases hz
            rw [decide_eq_false fun e => hd ?_]
            · rfl
            subst e
            cases d1 <;> first | rfl | (cases t1; done) | (obtain ⟨_, _, z, _⟩ := t1; cases z)
        rw [e]
        exact q
      · cases hz
    · split at hz
      · exact inDict_ok hK ck.P ck.w hu hz rm I rx ry t1 rb false q
      · rename_i i _
        cases he : inDict M d1 i with
        | none => rw [he] at hz; cases hz
        | some c =>
          rw [he] at hz; cases hz
          exact inDict_ok hK ck.P ck.w hu he rm I rx ry t1 rb true q
      · cases hz
theorem cmp_mark {o : COp} {b : Expr} (h : behindInMarks (cmpOf o) b = false) : behindInMarks (cmpOf o) b = false := h
theorem tr_cmp (o : COp) {σ : L2.St} {H : Hp} {Q : VK} (h : tE k E (sCmp o f g) σ H Q) : tOp (rC k o) (tE k E f) (tE k E g) σ H Q := by
  obtain ⟨ex, am, env, M, rm, re, p⟩ := h
  refine ⟨ex, am, env, M, rm, re, p.bind.mono fun v M1 am1 H1 rm1 f1 p1 x rx => ?_⟩
  refine ⟨ex, am1, env, M1, rm1, re.step rm f1, p1.bind.mono fun w M2 am2 H2 rm2 f2 p2 y ry => ?_⟩
  obtain ⟨b, hb, p3⟩ := p2.ofO
  exact ⟨ex, am2, M2, v, w, b, rm2, rx.step rm1 f2, ry, hb, p3.now rm2 _ rfl⟩
theorem se_cmp (ck : Ck k X) (o : COp) (ha : SE X k E a f) (hb : SE X k E b g) (hm : behindInMarks (cmpOf o) b = false) : SE X k E (.Compare a [cmpOf o] [b] pos) (sCmp o f g) :=
  PE.imp (pe_cmpR (op_cmp ck o) ha hb hm) fun σ H Q h => tr_cmp o h
/-- what a test's piece gives, as a bool -/
theorem tT_bool {f : SF} {σ : L2.St} {H : Hp} {Q : Bool → Hp → Prop} (hf : ∀ env M v M', f env M = .ok v M' → ∃ b, v = .d (.bool b)) (h : tT k E f σ H Q) : tE k E f σ H (fun x H' => ∃ b, x = .bl b ∧ Q b H') := by
  obtain ⟨ex, am, env, M, rm, re, p⟩ := h
  refine ⟨ex, am, env, M, rm, re, ?_⟩
  cases q : f env M with
  | ok v M1 =>
    obtain ⟨b, rfl⟩ := hf _ _ _ _ q
    rw [q] at p
    exact fun am1 H1 rm1 f1 x rx => ⟨b, rx, p am1 H1 rm1 f1⟩
  | ex e1 M1 => rw [q] at p; exact p
  | no => rw [q] at p; exact p
theorem bool_cmp (o : COp) : ∀ env M v M', sCmp o f g env M = .ok v M' → ∃ b, v = .d (.bool b) := by
  intro env M v M' h
  unfold sCmp at h
  cases q1 : f env M with
  | ok v1 M1 =>
    rw [q1, bind_ok] at h
    cases q2 : g env M1 with
    | ok v2 M2 =>
      rw [q2, bind_ok] at h
      cases q3 : cmpV M2 o v1 v2 with
      | none => rw [q3] at h; cases h
      | some b => rw [q3] at h; cases h; exact ⟨b, rfl⟩
    | ex e M2 => rw [q2] at h; cases h
    | no => rw [q2] at h; cases h
  | ex e M2 => rw [q1] at h; cases h
  | no => rw [q1] at h; cases h
theorem st_cmp (ck : Ck k X) (o : COp) (ha : SE X k E a f) (hb : SE X k E b g) (hm : behindInMarks (cmpOf o) b = false) : ST X k E (.Compare a [cmpOf o] [b] pos) (sCmp o f g) :=
  PT.imp (pt_cmpR (op_cmp ck o) ha hb hm) fun σ H Q h => tr_cmp o (tT_bool (bool_cmp o) h)
theorem tr_chn (o p : COp) {σ : L2.St} {H : Hp} {Q : VK} (hw : tE k E (sChn o p f g h) σ H Q) : tChain (rC k o) (rC k p) (tE k E f) (tE k E g) (tE k E h) σ H Q := by
  obtain ⟨ex, am, env, M, rm, re, q⟩ := hw
  refine ⟨ex, am, env, M, rm, re, q.bind.mono fun v M1 am1 H1 rm1 f1 p1 x rx => ?_⟩
  refine ⟨ex, am1, env, M1, rm1, re.step rm f1, p1.bind.mono fun w M2 am2 H2 rm2 f2 p2 y ry => ?_⟩
  obtain ⟨b, hb, p3⟩ := p2.ofO
  refine ⟨ex, am2, M2, v, w, b, rm2, rx.step rm1 f2, ry, hb, b, rfl, ?_⟩
  cases b with
  | true =>
    rw [if_pos rfl]
    rw [if_pos rfl] at p3
    refine ⟨ex, am2, env, M2, rm2, (re.step rm f1).step rm1 f2, p3.bind.mono fun u M4 am4 H4 rm4 f4 p4 z rz => ?_⟩
    obtain ⟨c, hc, p5⟩ := p4.ofO
    exact ⟨ex, am4, M4, w, u, c, rm4, ry.step rm2 f4, rz, hc, p5.now rm4 _ rfl⟩
  | false =>
    rw [if_neg Bool.false_ne_true]
    rw [if_neg Bool.false_ne_true] at p3
    exact p3.now rm2 _ rfl
theorem se_chn (ck : Ck k X) (o p : COp) (ha : SE X k E a f) (hb : SE X k E b g) (hc : SE X k E c h) (hm : lastMarks [cmpOf o, cmpOf p] [b, c] = false) : SE X k E (.Compare a [cmpOf o, cmpOf p] [b, c] pos) (sChn o p f g h) :=
  PE.imp (pe_chain (op_cmp ck o) (op_cmp ck p) ha hb hc hm) fun σ H Q hw => tr_chn o p hw
theorem bool_chn (o p : COp) : ∀ env M v M', sChn o p f g h env M = .ok v M' → ∃ b, v = .d (.bool b) := by
  intro env M v M' hw
  unfold sChn at hw
  cases q1 : f env M with
  | ok v1 M1 =>
    rw [q1, bind_ok] at hw
    cases q2 : g env M1 with
    | ok v2 M2 =>
      rw [q2, bind_ok] at hw
      cases q3 : cmpV M2 o v1 v2 with
      | none => rw [q3] at hw; cases hw
      | some b =>
        rw [q3] at hw
        cases b with
        | false => cases hw; exact ⟨_, rfl⟩
        | true =>
          change (h env M2).bind _ = _ at hw
          cases q4 : h env M2 with
          | ok v4 M4 =>
            rw [q4, bind_ok] at hw
            cases q5 : cmpV M4 p v2 v4 with
            | none => rw [q5] at hw; cases hw
            | some b => rw [q5] at hw; cases hw; exact ⟨_, rfl⟩
          | ex e M2 => rw [q4] at hw; cases hw
          | no => rw [q4] at hw; cases hw
    | ex e M2 => rw [q2] at hw; cases hw
    | no => rw [q2] at hw; cases hw
  | ex e M2 => rw [q1] at hw; cases hw
  | no => rw [q1] at hw; cases hw
theorem st_chn (ck : Ck k X) (o p : COp) (ha : SE X k E a f) (hb : SE X k E b g) (hc : SE X k E c h) (hm : lastMarks [cmpOf o, cmpOf p] [b, c] = false) : ST X k E (.Compare a [cmpOf o, cmpOf p] [b, c] pos) (sChn o p f g h) :=
  PT.imp (pt_chain (op_cmp ck o) (op_cmp ck p) ha hb hc hm) fun σ H Q hw => tr_chn o p (tT_bool (bool_chn o p) hw)

/-! ### truth -/
theorem tru_R {K : Kf} {H : Hp} {av : Addr → Prop} {d : D} {v : V} {b : Bool} (h : RT K H av d v) (e : truD d = some b) : TruV K.K v H b := by
  cases d with
  | none => cases h; cases e; rfl
  | bool b => cases h; cases e; rfl
  | int i => cases h; cases e; rfl
  | str s =>
    cases h
    change (if s.length ≤ lim then some ((s.length : Int) != 0) else none) = some b at e
    split at e
    · rename_i hl
      cases e
      exact ⟨lim_size hl, rfl⟩
    · cases e
  | list ds =>
    obtain ⟨p, vs, rfl, hp, r⟩ := h
    cases e
    refine .inl ⟨vs, .inl (.inl hp), ?_⟩
    have := r.length
    cases ds <;> cases vs <;> first | rfl | (simp at this)
  | tuple ds =>
    obtain ⟨p, vs, rfl, hp, r⟩ := h
    cases e
    refine .inr (.inl ⟨vs, hp.sq, ?_⟩)
    have := r.length
    cases ds <;> cases vs <;> first | rfl | (simp at this)
  | dict _ => cases e
theorem truV_R {K : Kf} {ex am : List Addr} {M : Mem} {H : Hp} {v : Val} {x : V} {b : Bool} (rm : RM K ex am M H) (r : RV K H (avS ex am M) am v x) (e : truV M v = some b) : TruV K.K x H b := by
  unfold truV at e
  cases q : rdV M v with
  | none => rw [q] at e; cases e
  | some d => rw [q] at e; exact tru_R (rd_of rm r q) e
/-- any piece as a test -/
theorem st_tru (ck : Ck k X) (ha : SE X k E a f) (he : ∀ whole, isTrue a X.env whole = (do let v ← whole; standAt a.pos; holding [v] (truthy v))) : ST X k E a f :=
  PT.imp (pt_truth ha he) fun σ H Q ⟨ex, am, env, M, rm, re, p⟩ => by
    refine ⟨ex, am, env, M, rm, re, p.bind.mono fun v M1 am1 H1 rm1 f1 p1 x rx => ?_⟩
    obtain ⟨b, hb, p2⟩ := p1.ofO1
    exact ⟨b, by rw [ck.K]; exact truV_R rm1 rx hb, p2.now rm1⟩

/-! ### and, or, not, if -/
theorem se_and {rest : List Expr} (ck : Ck k X) (ha : SE X k E a f) (hb : SE X k E (.BoolOp .And (b :: rest) pos) g) : SE X k E (.BoolOp .And (a :: b :: rest) pos) (sAnd f g) :=
  PE.imp (pe_andT ha hb) fun σ H Q ⟨ex, am, env, M, rm, re, p⟩ => by
    refine ⟨ex, am, env, M, rm, re, p.bind.mono fun v M1 am1 H1 rm1 f1 p1 x rx => ?_⟩
    obtain ⟨t, ht, p2⟩ := p1.ofO
    refine ⟨t, by rw [ck.K]; exact truV_R rm1 rx ht, ?_⟩
    cases t with
    | true => rw [if_pos rfl]; rw [if_pos rfl] at p2; exact ⟨ex, am1, env, M1, rm1, re.step rm f1, p2⟩
    | false => rw [if_neg Bool.false_ne_true]; rw [if_neg Bool.false_ne_true] at p2; exact p2.now rm1 x rx
theorem se_or {rest : List Expr} (ck : Ck k X) (ha : SE X k E a f) (hb : SE X k E (.BoolOp .Or (b :: rest) pos) g) : SE X k E (.BoolOp .Or (a :: b :: rest) pos) (sOr f g) :=
  PE.imp (pe_orT ha hb) fun σ H Q ⟨ex, am, env, M, rm, re, p⟩ => by
    refine ⟨ex, am, env, M, rm, re, p.bind.mono fun v M1 am1 H1 rm1 f1 p1 x rx => ?_⟩
    obtain ⟨t, ht, p2⟩ := p1.ofO
    refine ⟨t, by rw [ck.K]; exact truV_R rm1 rx ht, ?_⟩
    cases t with
    | true => rw [if_pos rfl]; rw [if_pos rfl] at p2; exact p2.now rm1 x rx
    | false => rw [if_neg Bool.false_ne_true]; rw [if_neg Bool.false_ne_true] at p2; exact ⟨ex, am1, env, M1, rm1, re.step rm f1, p2⟩
theorem se_one {op : BoolOp} (ha : SE X k E a f) : SE X k E (.BoolOp op [a] pos) f := pe_one ha
theorem se_not (ck : Ck k X) (ha : SE X k E a f) : SE X k E (.UnaryOp .Not a pos) (sNot f) :=
  PE.imp (pe_notT ha) fun σ H Q ⟨ex, am, env, M, rm, re, p⟩ => by
    refine ⟨ex, am, env, M, rm, re, p.bind.mono fun v M1 am1 H1 rm1 f1 p1 x rx => ?_⟩
    obtain ⟨t, ht, p2⟩ := p1.ofO
    exact ⟨t, by rw [ck.K]; exact truV_R rm1 rx ht, p2.now rm1 _ rfl⟩
theorem tT_not {σ : L2.St} {H : Hp} {Q : Bool → Hp → Prop} (h : tT k E (sNot f) σ H Q) : tT k E f σ H (fun b H1 => Q (!b) H1) := by
  obtain ⟨ex, am, env, M, rm, re, p⟩ := h
  refine ⟨ex, am, env, M, rm, re, ?_⟩
  unfold sNot at p
  cases q : f env M with
  | ok v M1 =>
    rw [q] at p
    rw [bind_ok] at p ⊢
    cases q2 : truV M1 v with
    | none => rw [q2] at p; exact p
    | some b => rw [q2] at p; exact p
  | ex e1 M1 => rw [q] at p; exact p
  | no => rw [q] at p; exact p
theorem st_not (ha : ST X k E a f) : ST X k E (.UnaryOp .Not a pos) (sNot f) := PT.imp (pt_not ha) fun σ H Q h => tT_not h
theorem tT_and {σ : L2.St} {H : Hp} {Q : Bool → Hp → Prop} (h : tT k E (sAnd f g) σ H Q) : tAnd (tT k E f) (tT k E g) σ H Q := by
  obtain ⟨ex, am, env, M, rm, re, p⟩ := h
  refine ⟨ex, am, env, M, rm, re, ?_⟩
  unfold sAnd at p
  cases q : f env M with
  | ok v M1 =>
    rw [q] at p
    rw [bind_ok] at p ⊢
    cases q2 : truV M1 v with
    | none => rw [q2] at p; exact p
    | some b =>
      rw [q2] at p
      intro am1 H1 rm1 f1
      cases b with
      | true => exact ⟨ex, am1, env, M1, rm1, re.step rm f1, Po.weak f1 p⟩
      | false =>
        change Po k ex am M H E ((Res.ok v M1).bind _) _ at p
        rw [bind_ok, q2] at p
        exact p am1 H1 rm1 f1
  | ex e1 M1 => rw [q] at p; exact p
  | no => rw [q] at p; exact p
theorem tT_or {σ : L2.St} {H : Hp} {Q : Bool → Hp → Prop} (h : tT k E (sOr f g) σ H Q) : tOr (tT k E f) (tT k E g) σ H Q := by
  obtain ⟨ex, am, env, M, rm, re, p⟩ := h
  refine ⟨ex, am, env, M, rm, re, ?_⟩
  unfold sOr at p
  cases q : f env M with
  | ok v M1 =>
    rw [q] at p
    rw [bind_ok] at p ⊢
    cases q2 : truV M1 v with
    | none => rw [q2] at p; exact p
    | some b =>
      rw [q2] at p
      intro am1 H1 rm1 f1
      cases b with
      | false => exact ⟨ex, am1, env, M1, rm1, re.step rm f1, Po.weak f1 p⟩
      | true =>
        change Po k ex am M H E ((Res.ok v M1).bind _) _ at p
        rw [bind_ok, q2] at p
        exact p am1 H1 rm1 f1
  | ex e1 M1 => rw [q] at p; exact p
  | no => rw [q] at p; exact p
theorem sw_and {rest : List Expr} (ha : ST X k E a f) (hb : SW X k E (.BoolOp .And (b :: rest) pos) g) : SW X k E (.BoolOp .And (a :: b :: rest) pos) (sAnd f g) := PW.imp (pw_and ha hb) fun σ H Q h => tT_and h
theorem sw_or {rest : List Expr} (ha : ST X k E a f) (hb : SW X k E (.BoolOp .Or (b :: rest) pos) g) : SW X k E (.BoolOp .Or (a :: b :: rest) pos) (sOr f g) := PW.imp (pw_or ha hb) fun σ H Q h => tT_or h
theorem sw_and1 (ha : ST X k E a f) : SW X k E (.BoolOp .And [a] pos) f := pw_and1 ha
theorem sw_or1 (ha : ST X k E a f) : SW X k E (.BoolOp .Or [a] pos) f := pw_or1 ha
theorem tE_if {c f g : SF} {σ : L2.St} {H : Hp} {Q : VK} (h : tE k E (sIf c f g) σ H Q) : tIf (tT k E c) (tE k E f) (tE k E g) σ H Q := by
  obtain ⟨ex, am, env, M, rm, re, p⟩ := h
  refine ⟨ex, am, env, M, rm, re, ?_⟩
  unfold sIf at p
  cases q : c env M with
  | ok v M1 =>
    rw [q] at p
    rw [bind_ok] at p ⊢
    cases q2 : truV M1 v with
    | none => rw [q2] at p; exact p
    | some b =>
      rw [q2] at p
      intro am1 H1 rm1 f1
      cases b with
      | true => exact ⟨ex, am1, env, M1, rm1, re.step rm f1, Po.weak f1 p⟩
      | false => exact ⟨ex, am1, env, M1, rm1, re.step rm f1, Po.weak f1 p⟩
  | ex e1 M1 => rw [q] at p; exact p
  | no => rw [q] at p; exact p
theorem se_if {x y z : Expr} {c f g : SF} (hc : ST X k E x c) (ha : SE X k E y f) (hb : SE X k E z g) : SE X k E (.IfExp x y z pos) (sIf c f g) := PE.imp (pe_ifExp hc ha hb) fun σ H Q h => tE_if h
end
end Mp
end
section
set_option maxHeartbeats 4000000
/-! Readings of subscripts, slices, isinstance, built-ins. -/
namespace Mp
open PySem PySem.Spec PyProof.Rows L2
section
variable {X : Cx} {k : Kx} {E : XK} {e a b c : Expr} {es : List Expr} {pos : Pos} {f g h : SF} {A : SA}

theorem atI_map {α β : Type} {xs : List α} {i : Int} {x : α} (h : atI xs i = some x) : ∃ j, xs[j]? = some x ∧ ixN xs.length i = some j := by
  unfold atI at h
  cases q : ixN xs.length i with
  | none => rw [q] at h; cases h
  | some j => rw [q] at h; exact ⟨j, h, rfl⟩
theorem Rs.atI {K : Kf} {H : Hp} {av : Addr → Prop} {ds : List D} {vs : List V} {i : Int} {d : D} (r : Rs K H av ds vs) (h : L2.atI ds i = some d) : ∃ v, L2.atI vs i = some v ∧ R K H av d v := by
  obtain ⟨j, h1, h2⟩ := atI_map (β := D) h
  obtain ⟨v, hv, rv⟩ := r.get h1
  refine ⟨v, ?_, rv⟩
  unfold L2.atI
  rw [← r.length, h2]
  exact hv
theorem RVs.atI {K : Kf} {H : Hp} {av : Addr → Prop} {am : List Addr} {ds : List Val} {vs : List V} {i : Int} {d : Val} (r : RVs K H av am ds vs) (h : L2.atI ds i = some d) : ∃ v, L2.atI vs i = some v ∧ RV K H av am d v := by
  obtain ⟨j, h1, h2⟩ := atI_map (β := D) h
  obtain ⟨v, hv, rv⟩ := r.get h1
  refine ⟨v, ?_, rv⟩
  unfold L2.atI
  rw [← r.length, h2]
  exact hv

/-- o[i] by values -/
def rIX (k : Kx) : R2 := fun x y H Q => ∃ ex am M v w z, RM k.K ex am M H ∧ RV k.K H (avS ex am M) am v x ∧ RV k.K H (avS ex am M) am w y ∧ idxV M v w = some z ∧ ∀ u, RV k.K H (avS ex am M) am z u → Q u H
theorem ix_dict {a : Addr} {y v : V} {value slice : Expr} {pins : List (Addr × Obj)} {s : Shared} {σ : L2.St} {H : Hp} {u : Value} {Q : VK} (hu : X.A.units + 1 < cLine) (I : Inv X pins σ H s) (g : DGet H a y (some v)) (ry : RelV y u) (q : Q v H)
    (hs : subscripted slice false (.ref a) u = operate [.ref a, u] (getItem (.ref a) u)) : wpAny (model X.prog X.w) X.A (subscriptTail value slice (.ref a) u) (EP X pins σ Q) X.xe s :=
  tail_any (dict_typeIs I g) PySem.F.slot_dict_getitem.lookup (d_getItem hu I g ry fun w' s3 I3 rw' => ⟨v, H, I3, rw', q⟩) hs
theorem ix_all (ck : Ck k X) : IxR X (rIX k) := by
  intro value slice pins s σ H x y v u Q I rx ry ⟨ex, am, M, vv, ww, z, rm, ra, rb, hz, q⟩ hs
  have hK := ck.K
  have lst : ∀ (p : Addr) (vs : List V) (ds : List D) (i : Int), x = .ref p → (SqL X.K H p vs ∨ SqT X.K H p vs) → Rs k.K H (avS ex am M) ds vs → y = .int i → (L2.atI ds i).map Val.d = some z → wpAny (model X.prog X.w) X.A (subscriptTail value slice v u) (EP X pins σ Q) X.xe s := by
    intro p vs ds i e1 hp r e2 hz
    cases h1 : L2.atI ds i with
    | none => rw [h1] at hz; cases hz
    | some d =>
      rw [h1] at hz
      cases hz
      obtain ⟨w0, hw, rw0⟩ := r.atI h1
      rcases hp with hp | hp
      · exact ix_list value slice pins s σ H x y v u Q I rx ry ⟨p, vs, i, w0, e1, e2, hp, hw, q _ rw0⟩ hs
      · exact ix_tup value slice pins s σ H x y v u Q I rx ry ⟨p, vs, i, w0, e1, e2, hp, hw, q _ rw0⟩ hs
  cases vv with
  | d dv =>
    cases dv with
    | list ds =>
      cases ww with
      | ref _ => simp [idxV] at hz
      | d dw =>
        cases dw with
        | int i =>
          obtain ⟨p, vs, e1, hp, _, r⟩ := ra
          exact lst p vs ds i e1 (.inl (.inl (.inl hp))) r rb hz
        | _ => simp [idxV] at hz
    | tuple ds =>
      cases ww with
      | ref _ => simp [idxV] at hz
      | d dw =>
        cases dw with
        | int i =>
          obtain ⟨p, vs, e1, hp, r⟩ := ra
          exact lst p vs ds i e1 (.inr (by rw [hK]; exact hp.sq)) r rb hz
        | _ => simp [idxV] at hz
    | str z0 =>
      cases ww with
      | ref _ => simp [idxV] at hz
      | d dw =>
        cases dw with
        | int i =>
          have hz' : (if z0.length ≤ lim then (L2.atI z0.cps.toList i).map (fun c => Val.d (.str ⟨#[c]⟩)) else none) = some z := hz
          split at hz'
          · rename_i hl
            cases h1 : L2.atI z0.cps.toList i with
            | none => rw [h1] at hz'; cases hz'
            | some c0 =>
              rw [h1] at hz'
              cases hz'
              cases ra; cases rb
              exact ix_str value slice pins s σ H _ _ v u Q I rx ry ⟨z0, i, c0, rfl, rfl, lim_size hl, h1, q _ rfl⟩ hs
          · cases hz'
        | _ => simp [idxV] at hz
    | _ => simp [idxV] at hz
  | ref j =>
    obtain ⟨p, ha, rfl⟩ := ra
    cases hm : M[j]? with
    | none => simp [idxV, hm] at hz
    | some ob =>
      cases ob with
      | lst ds =>
        obtain ⟨vs, hp, r⟩ := rm.obj j _ p hm ha
        cases ww with
        | ref _ => simp [idxV, hm] at hz
        | d dw =>
          cases dw with
          | int i => exact lst p vs ds i rfl (.inl (.inl (.inl hp))) r rb (by simpa [idxV, hm] using hz)
          | _ => simp [idxV, hm] at hz
      | box ds =>
        obtain ⟨vs, hp, r, _⟩ := rm.obj j _ p hm ha
        cases ww with
        | ref _ => simp [idxV, hm] at hz
        | d dw =>
          cases dw with
          | int i =>
            have h1 : L2.atI ds i = some z := by simpa [idxV, hm] using hz
            obtain ⟨w0, hw, rw0⟩ := r.atI h1
            cases rb
            exact ix_list value slice pins s σ H _ _ v u Q I rx ry ⟨p, vs, i, w0, rfl, rfl, .inl (.inl hp), hw, q _ rw0⟩ hs
          | _ => simp [idxV, hm] at hz
      | dK kvs =>
        obtain ⟨vs, hp, r⟩ := rm.obj j _ p hm ha
        obtain rfl : v = Value.ref p := rx
        cases ww with
        | ref _ => simp [idxV, hm] at hz
        | d dw =>
          cases hq : keyD dw with
          | none => simp [idxV, hm, hq] at hz
          | some q0 =>
            cases hg : dGet kvs q0 with
            | none => simp [idxV, hm, hq, hg] at hz
            | some d =>
              have hz' : Val.d d = z := by simpa [idxV, hm, hq, hg] using hz
              subst hz'
              obtain ⟨w0, hw, rw0⟩ := (r.get q0).2 d hg
              have hy : y = kV q0 := key_R rb hq
              subst hy
              exact ix_dict (by have := ck.hu; omega) I (by rw [← hw]; exact DGet.k hp) ry (q _ rw0) hs
      | dT kvs =>
        obtain ⟨xs, hp, r⟩ := rm.obj j _ p hm ha
        obtain rfl : v = Value.ref p := rx
        cases ww with
        | ref _ => simp [idxV, hm] at hz
        | d dw =>
          cases hq : nkT dw with
          | none => simp [idxV, hm, hq] at hz
          | some q0 =>
            cases hg : dGet kvs q0 with
            | none => simp [idxV, hm, hq, hg] at hz
            | some d =>
              have hz' : Val.d d = z := by simpa [idxV, hm, hq, hg] using hz
              subst hz'
              exact n_get hK ck.P ck.w ck.hu I hp r hq rb ry hg (fun v0 rv0 => q v0 rv0) hs
      | _ => simp [idxV, hm] at hz
def notSl : Expr → Bool
  | .Slice .. => false
  | _ => true
theorem plain_of (h : notSl b = true) : PlainIx b := by
  intro o i
  cases b <;> first | rfl | cases h
theorem se_idx (ck : Ck k X) (ha : SE X k E a f) (hb : SE X k E b g) (hs : notSl b = true) : SE X k E (.Subscript a b pos) (sIdx f g) :=
  PE.imp (pe_ix (ix_all ck) ha hb (plain_of hs)) fun σ H Q ⟨ex, am, env, M, rm, re, p⟩ => by
    refine ⟨ex, am, env, M, rm, re, p.bind.mono fun v M1 am1 H1 rm1 f1 p1 x rx => ?_⟩
    refine ⟨ex, am1, env, M1, rm1, re.step rm f1, p1.bind.mono fun w M2 am2 H2 rm2 f2 p2 y ry => ?_⟩
    obtain ⟨z, hz, p3⟩ := p2.ofO1
    exact ⟨ex, am2, M2, v, w, z, rm2, rx.step rm1 f2, ry, hz, fun u ru => p3.now rm2 u ru⟩

/-! ### slices -/
abbrev okO (Q : Option Int → Hp → Prop) : Option Int → Mem → List Addr → Hp → Prop := fun v _ _ H => Q v H
def tOo (k : Kx) (E : XK) (f : SO) : TO := fun σ H Q => ∃ ex am env M, RM k.K ex am M H ∧ RE k.K ex am M H env σ ∧ Po k ex am M H E (f env M) (okO Q)
abbrev SOs (X : Cx) (k : Kx) (E : XK) (e : Option Expr) (f : SO) : Prop := PO X e (tOo k E f)
theorem PO.imp {X : Cx} {e : Option Expr} {t t' : TO} (h : PO X e t) (i : ∀ σ H Q, t' σ H Q → t σ H Q) : PO X e t' := ⟨fun pins s σ H Q I q => h.run pins s σ H Q I (i σ H Q q)⟩
theorem so_non : SOs X k E none sNon := PO.imp po_none fun σ H Q ⟨ex, am, env, M, rm, re, p⟩ => p.now rm
theorem so_som (he : SE X k E e f) : SOs X k E (some e) (sSom f) :=
  PO.imp (po_some he) fun σ H Q ⟨ex, am, env, M, rm, re, p⟩ => by
    refine ⟨ex, am, env, M, rm, re, p.bind.mono fun v M1 am1 H1 rm1 f1 p1 x rx => ?_⟩
    split at p1
    · exact ⟨_, rx, p1.now rm1⟩
    · exact p1.elim
/-- data, a list however it is held, the script too -/
def RS (K : Kf) (H : Hp) (av : Addr → Prop) : D → V → Prop
  | .list ds, v => ∃ a vs, v = .ref a ∧ SqL K.K H a vs ∧ Rs K H av ds vs
  | d, v => R K H av d v
theorem rs_of {K : Kf} {ex am : List Addr} {M : Mem} {H : Hp} {v : Val} {x : V} {d : D} (m : RM K ex am M H) (r : RV K H (avS ex am M) am v x) (h : rdS M v = some d) : RS K H (avS ex am M) d x := by
  cases v with
  | d y =>
    cases h
    cases d with
    | list ds => obtain ⟨a, vs, e, q, _, r⟩ := r; exact ⟨a, vs, e, .inl (.inl q), r⟩
    | _ => exact r
  | ref i =>
    obtain ⟨a, ha, rfl⟩ := r
    cases hm : M[i]? with
    | none => simp [rdS, hm] at h
    | some ob =>
      cases ob with
      | lst xs =>
        have h' : some (PyData.list xs) = some d := by simpa [rdS, hm] using h
        cases h'
        obtain ⟨vs, e, q⟩ := m.obj i _ a hm ha
        exact ⟨a, vs, rfl, .inl (.inl e), q⟩
      | scr xs =>
        have h' : some (PyData.list xs) = some d := by simpa [rdS, hm] using h
        cases h'
        obtain ⟨vs, e, q⟩ := m.obj i _ a hm ha
        exact ⟨a, vs, rfl, e.sq, q⟩
      | _ => simp [rdS, hm] at h
def rSL (k : Kx) : V → Option Int → Option Int → Hp → VK → Prop := fun x lo hi H Q => ∃ ex am M d z, RM k.K ex am M H ∧ RS k.K H (avS ex am M) d x ∧ cutD d lo hi = some z ∧
  ∀ am' H' w, RM k.K ex am' M H' → F am M H am' M H' → R k.K H' (avS ex am' M) z w → Q w H'
theorem cut_whole {α : Type} {xs : List α} {lo hi : Option Int} (h : HT.sIx xs.length 0 lo = 0 ∧ HT.sIx xs.length xs.length hi = xs.length) : cutL xs lo hi = xs := by
  unfold cutL
  rw [h.1, h.2]
  simp
theorem sl_all (ck : Ck k X) : SlR X (rSL k) := by
  intro pins s σ H x v vl vu lo hi sl Q I rx hs pl pu ⟨ex, am, M, d, z, rm, rd, hz, q⟩
  cases d with
  | list ds =>
    cases hz
    obtain ⟨p, vs, rfl, hp, r⟩ := rd
    refine sl_list pins s σ H _ v vl vu lo hi sl Q I rx hs pl pu ⟨p, vs, rfl, by rw [ck.K]; exact hp, fun t ht => ?_⟩
    refine q am _ _ (rm.new _ ht) (F.new ht) ⟨t, _, rfl, upd_same, fun l => ?_, (rm.agr (F.new ht)).rs _ _ (r.cut lo hi)⟩
    obtain ⟨o, ho⟩ := rm.avH l
    rw [ht] at ho; cases ho
  | tuple ds =>
    cases hz
    obtain ⟨p, vs, rfl, hp, r⟩ := rd
    refine sl_tupS pins s σ H _ v vl vu lo hi sl Q I rx hs pl pu ⟨p, vs, rfl, by rw [ck.K]; exact hp.sq, fun w => ?_, fun t its ht => ?_⟩
    · rw [← r.length] at w
      exact q am _ _ rm F.refl ⟨p, vs, rfl, hp, by rw [cut_whole w]; exact r⟩
    · exact q am _ _ (rm.new _ ht) (F.new ht) ⟨t, _, rfl, .of, (rm.agr (F.new ht)).rs _ _ (r.cut lo hi)⟩
  | _ => cases hz
theorem se_slc (ck : Ck k X) {lo hi : Option Expr} {l u : SO} {p2 : Pos} (ha : SE X k E a f) (hl : SOs X k E lo l) (hh : SOs X k E hi u) : SE X k E (.Subscript a (.Slice lo hi none p2) pos) (sSlc f l u) :=
  PE.imp (pe_slice (sl_all ck) ha hl hh) fun σ H Q ⟨ex, am, env, M, rm, re, p⟩ => by
    refine ⟨ex, am, env, M, rm, re, p.bind.mono fun v M1 am1 H1 rm1 f1 p1 x rx => ?_⟩
    refine ⟨ex, am1, env, M1, rm1, re.step rm f1, p1.bind.mono fun l M2 am2 H2 rm2 f2 p2 => ?_⟩
    refine ⟨ex, am2, env, M2, rm2, (re.step rm f1).step rm1 f2, p2.bind.mono fun u M3 am3 H3 rm3 f3 p3 => ?_⟩
    cases q1 : rdS M3 v with
    | none => rw [q1] at p3; exact p3.elim
    | some d =>
      rw [q1] at p3
      obtain ⟨z, hz, p4⟩ := p3.ofO
      exact ⟨ex, am3, M3, d, z, rm3, rs_of rm3 ((rx.step rm1 f2).step rm2 f3) q1, hz, fun am' H' w rm' f' rw' => p4 am' H' rm' f' w rw'⟩

/-! ### isinstance -/
def tkN : TK → String
  | .int => "int" | .bool => "bool" | .str => "str" | .tuple => "tuple" | .list => "list"
def tyN : D → Value
  | .none => .type "NoneType" | .bool _ => .type "bool" | .int _ => .type "int" | .str _ => .type "str" | .list _ => .type "list" | .tuple _ => .type "tuple" | .dict _ => .type "dict"
theorem R.ty {K : Kf} {H : Hp} {av : Addr → Prop} {d : D} {v : V} (h : R K H av d v) : TyX K.K H v (tyN d) := by
  cases d with
  | none => cases h; exact .base .non
  | bool b => cases h; exact .base (.bl b)
  | int i => cases h; exact .base (.int i)
  | str s => cases h; exact .base (.str s)
  | tuple ds =>
    obtain ⟨p, vs, rfl, hp, _⟩ := h
    rcases hp with ⟨its, hp⟩ | ⟨o, its, n, hk, hc, _⟩
    · exact .fTuple hp
    · exact .kTuple hk hc
  | list ds => obtain ⟨p, vs, rfl, hp, _⟩ := h; exact .base (.lst hp)
  | dict _ => exact h.elim
theorem kit_tk {K : PySem.W.Frag} (d : D) (hd : ∀ kvs, d ≠ .dict kvs) (t : TK) : PySem.W.kitOne K (tyN d) (.type (tkN t)) = some (isD t d) := by
  cases d with
  | dict kvs => exact absurd rfl (hd kvs)
  | _ => cases t <;> first | rfl | decide +kernel
end
end Mp
end
section
set_option maxHeartbeats 4000000
/-! Readings of isinstance, built-ins by name. -/
namespace Mp
open PySem PySem.Spec PyProof.Rows L2
section
variable {X : Cx} {k : Kx} {E : XK} {e a b c : Expr} {es : List Expr} {pos p0 p1 : Pos} {f g h : SF} {A : SA}

/-- the built-ins' names are not taken -/
structure Bn (X : Cx) (x : Str) : Prop where
  gl : Gl X x
  mg : X.mg x = none
theorem boot_tk (t : TK) : bootBuiltins (Str.ofString (tkN t)) = some (.type (tkN t)) := by
  cases t
  · decide +kernel
  · decide +kernel
  · decide +kernel
  · decide +kernel
  · decide +kernel
theorem se_isi (ck : Ck k X) (t : TK) (ha : SE X k E a f) (bi : Bn X "isinstance") (bt : Bn X (Str.ofString (tkN t))) (hs : ∀ p, starEach [a, .Name (Str.ofString (tkN t)) p] X.env = (false, eval a X.env) :: starEach [.Name (Str.ofString (tkN t)) p] X.env)
    : SE X k E (.Call (.Name "isinstance" p0) [a, .Name (Str.ofString (tkN t)) p1] [] pos) (sIsi f t) := by
  have nn : (Str.ofString (tkN t)) ≠ "__name__" := by cases t <;> decide
  have nd : (Str.ofString (tkN t) == ("__debug__" : Str)) = false := by cases t <;> decide
  refine PE.imp (pe_callB (call_isi (X := X)) bi.gl bi.mg (by decide +kernel) (pa_cons ha (pa_cons (pe_bltn (v := V.ty (tkN t)) bt.gl bt.mg (boot_tk t) rfl nn nd) pa_nil) (hs p1)) (he := hs p1) (hpl := rfl)) ?_
  rintro σ H Q ⟨ex, am, env, M, rm, re, p⟩
  refine ⟨ex, am, env, M, rm, re, p.bind.mono fun v M1 am1 H1 rm1 f1 p1 x rx => ?_⟩
  cases v with
  | ref _ => exact p1.elim
  | d d =>
    refine ⟨x, .ty (tkN t), tyN d, .type (tkN t), isD t d, rfl, .ty _, ?_, kit_tk d (fun kvs e => ?_) t, p1.now rm1 _ rfl⟩
    · rw [ck.K]; exact R.ty rx
    · subst e; exact rx.elim

/-! ### built-ins of values -/
/-- a built-in: what comes of the values -/
def rB (k : Kx) (b : BI) : List V → Hp → VK → Prop := fun xs H Q => ∃ ex am M vs z, RM k.K ex am M H ∧ RVs k.K H (avS ex am M) am vs xs ∧ biV b M vs = some z ∧
  ∀ am' H' w, RM k.K ex am' M H' → F am M H am' M H' → R k.K H' (avS ex am' M) z w → Q w H'
theorem rds_of {K : Kf} {ex am : List Addr} {M : Mem} {H : Hp} : ∀ {vs : List Val} {xs : List V} {ds : List D}, RM K ex am M H → RVs K H (avS ex am M) am vs xs → rdVs M vs = some ds → Paired (RT K H (avS ex am M)) ds xs
  | [], _, _, _, h, e => by cases h; cases e; exact .nil
  | v :: vs, _, ds, m, h, e => by
    obtain ⟨x, r, ex, h1, h2⟩ := h
    subst ex
    unfold rdVs at e
    cases q1 : rdV M v with
    | none => rw [q1] at e; simp at e
    | some d =>
      cases q2 : rdVs M vs with
      | none => rw [q1, q2] at e; simp at e
      | some ds' =>
        rw [q1, q2] at e
        simp at e
        subst e
        exact .cons (rd_of m h1 q1) (rds_of m h2 q2)
theorem pair1 {K : Kf} {H : Hp} {av : Addr → Prop} {d : D} {xs : List V} (h : Paired (RT K H av) [d] xs) : ∃ x, xs = [x] ∧ RT K H av d x := by
  cases h with
  | cons h1 t => cases t; exact ⟨_, rfl, h1⟩
theorem pair2 {K : Kf} {H : Hp} {av : Addr → Prop} {d d' : D} {xs : List V} (h : Paired (RT K H av) [d, d'] xs) : ∃ x y, xs = [x, y] ∧ RT K H av d x ∧ RT K H av d' y := by
  cases h with
  | cons h1 t => cases t with
    | cons h2 t => cases t; exact ⟨_, _, rfl, h1, h2⟩
/-- a new list -/
theorem R.newL {K : Kf} {ex am : List Addr} {M : Mem} {H : Hp} {ds : List D} {vs : List V} {t : Addr} (rm : RM K ex am M H) (ht : H t = none) (r : Rs K H (avS ex am M) ds vs) : R K (upd H t (.lst vs)) (avS ex am M) (.list ds) (.ref t) := by
  refine ⟨t, _, rfl, upd_same, fun l => ?_, (rm.agr (F.new ht)).rs _ _ r⟩
  obtain ⟨o, ho⟩ := rm.avH l
  rw [ht] at ho; cases ho
theorem R.newT {K : Kf} {ex am : List Addr} {M : Mem} {H : Hp} {ds : List D} {vs : List V} {t : Addr} {its : List Value} (rm : RM K ex am M H) (ht : H t = none) (r : Rs K H (avS ex am M) ds vs) : R K (upd H t (sT its vs)) (avS ex am M) (.tuple ds) (.ref t) :=
  ⟨t, _, rfl, .of, (rm.agr (F.new ht)).rs _ _ r⟩
/-- the call of a built-in function -/
def biN : BI → String
  | .len => "len" | .abs => "abs" | .int => "int" | .tuple => "tuple" | .list => "list" | .sorted => "sorted" | .sum => "sum" | .min2 => "min" | .max2 => "max" | _ => ""
theorem tr_bi (bb : BI) {σ : L2.St} {H : Hp} {Q : VK} (hw : tE k E (sBi bb A) σ H Q) : tCB (rB k bb) (tA k E A) σ H Q := by
  obtain ⟨ex, am, env, M, rm, re, p⟩ := hw
  refine ⟨ex, am, env, M, rm, re, p.bind.mono fun vs M1 am1 H1 rm1 f1 p1 xs rxs => ?_⟩
  obtain ⟨z, hz, p2⟩ := p1.ofO
  exact ⟨ex, am1, M1, vs, z, rm1, rxs, hz, fun am' H' w rm' f' r' => p2 am' H' rm' f' w r'⟩
/-- of a built-in that takes data alone -/
theorem bi_data {bb : BI} {M : Mem} {vs : List Val} {z : D} (h : biR bb M vs = some z) : ∃ ds, rdVs M vs = some ds ∧ biD bb ds = some z := by
  unfold biR at h
  cases q : rdVs M vs with
  | some ds => rw [q] at h; exact ⟨ds, rfl, h⟩
  | none => rw [q] at h; cases h
theorem d1_some {f : D → Option D} {ds : List D} {z : D} (h : d1 f ds = some z) : ∃ x, ds = [x] ∧ f x = some z := by
  cases ds with
  | nil => cases h
  | cons x r => cases r with
    | nil => exact ⟨x, rfl, h⟩
    | cons _ _ => cases h
theorem d2_some {f : D → D → Option D} {ds : List D} {z : D} (h : d2 f ds = some z) : ∃ x y, ds = [x, y] ∧ f x y = some z := by
  cases ds with
  | nil => cases h
  | cons x r => cases r with
    | nil => cases h
    | cons y r => cases r with
      | nil => exact ⟨x, y, rfl, h⟩
      | cons _ _ => cases h
theorem dInt_some {α : Type} {f : Int → Option α} {d : D} {z : α} (h : dInt f d = some z) : ∃ i, d = .int i ∧ f i = some z := by
  cases d <;> first | exact ⟨_, rfl, h⟩ | cases h
theorem dList_some {α : Type} {f : List D → Option α} {d : D} {z : α} (h : dList f d = some z) : ∃ i, d = .list i ∧ f i = some z := by
  cases d <;> first | exact ⟨_, rfl, h⟩ | cases h
theorem dSeq_some {f : List D → Option D} {d z : D} (h : dSeq f d = some z) : ∃ i, (d = .list i ∨ d = .tuple i) ∧ f i = some z := by
  cases d <;> first | exact ⟨_, .inl rfl, h⟩ | exact ⟨_, .inr rfl, h⟩ | cases h
theorem v1_some {α : Type} {f : Val → Option α} {vs : List Val} {z : α} (h : v1 f vs = some z) : ∃ x, vs = [x] ∧ f x = some z := by
  cases vs with
  | nil => cases h
  | cons x r => cases r with
    | nil => exact ⟨x, rfl, h⟩
    | cons _ _ => cases h
theorem c_len (ck : Ck k X) : CallR X (.builtin "len") (rB k .len) := by
  intro pins s σ H xs us Q I rr ⟨ex, am, M, vs, z, rm, rv, hz, q⟩
  obtain ⟨v, rfl, hz'⟩ := v1_some (show v1 (fun v => (lenV M v).map PyData.int) vs = some z from hz)
  obtain ⟨x, t, rfl, hx, ht⟩ := rv
  cases ht
  have fin : ∀ n : Nat, lenV M v = some (n : Int) → LenV X.K x H n → wpAny (model X.prog X.w) X.A (call (.builtin "len") us) (EP X pins σ Q) X.xe s := by
    intro n hn hl
    rw [hn] at hz'
    cases hz'
    exact call_len pins s σ H [x] us Q I rr ⟨x, n, rfl, hl, q am H _ rm F.refl rfl⟩
  cases v with
  | d d =>
    cases d with
    | list ds => obtain ⟨p, ws, rfl, hp, _, r⟩ := hx; exact fin _ rfl (.inl ⟨ws, .inl (.inl hp), r.length⟩)
    | tuple ds => obtain ⟨p, ws, rfl, hp, r⟩ := hx; exact fin _ rfl (.inr ⟨ws, by rw [ck.K]; exact hp.sq, r.length⟩)
    | str z0 =>
      cases hx
      have hz2 : (if z0.length ≤ lim then some (z0.length : Int) else none).map PyData.int = some z := hz'
      split at hz2
      · rename_i hl
        exact fin z0.length (by show (if z0.length ≤ lim then some (z0.length : Int) else none) = _; rw [if_pos hl]) ⟨lim_size hl, rfl⟩
      · cases hz2
    | _ => cases hz'
  | ref i =>
    obtain ⟨p, ha, rfl⟩ := hx
    cases hm : M[i]? with
    | none => simp [lenV, hm] at hz'
    | some ob =>
      cases ob with
      | lst ds => obtain ⟨ws, hp, r⟩ := rm.obj i _ p hm ha; exact fin ds.length (by simp [lenV, hm]) (.inl ⟨ws, .inl (.inl hp), r.length⟩)
      | scr ds => obtain ⟨ws, hp, r⟩ := rm.obj i _ p hm ha; exact fin ds.length (by simp [lenV, hm]) (.inl ⟨ws, by rw [ck.K]; exact hp.sq, r.length⟩)
      | _ => simp [lenV, hm] at hz'
theorem c_abs : CallR X (.builtin "abs") (rB k .abs) := by
  intro pins s σ H xs us Q I rr ⟨ex, am, M, vs, z, rm, rv, hz, q⟩
  obtain ⟨ds, hd, hz⟩ := bi_data hz
  have pr := rds_of rm rv hd
  obtain ⟨d, rfl, hz⟩ := d1_some hz
  obtain ⟨i, rfl, hz⟩ := dInt_some hz
  obtain ⟨x, rfl, hx⟩ := pair1 pr
  cases hx; cases hz
  exact call_abs pins s σ H _ us Q I rr ⟨_, rfl, q am H _ rm F.refl rfl⟩
theorem c_int : CallR X (.type "int") (rB k .int) := by
  intro pins s σ H xs us Q I rr ⟨ex, am, M, vs, z, rm, rv, hz, q⟩
  obtain ⟨ds, hd, hz⟩ := bi_data hz
  have pr := rds_of rm rv hd
  obtain ⟨d, rfl, hz⟩ := d1_some hz
  obtain ⟨x, rfl, hx⟩ := pair1 pr
  cases d <;> first | (cases hz; done) | skip
  · cases hx; cases hz
    exact call_int1 pins s σ H _ us Q I rr (.inr ⟨_, rfl, q am H _ rm F.refl rfl⟩)
  · cases hx; cases hz
    exact call_int1 pins s σ H _ us Q I rr (.inl ⟨_, rfl, q am H _ rm F.refl rfl⟩)
theorem c_tuple (ck : Ck k X) : CallR X (.type "tuple") (rB k .tuple) := by
  intro pins s σ H xs us Q I rr ⟨ex, am, M, vs, z, rm, rv, hz, q⟩
  obtain ⟨ds, hd, hz⟩ := bi_data hz
  have pr := rds_of rm rv hd
  obtain ⟨d, rfl, hz⟩ := d1_some hz
  obtain ⟨ys, he, hz⟩ := dSeq_some hz
  cases hz
  rcases he with rfl | rfl
  · obtain ⟨x, rfl, p, ws, rfl, hp, r⟩ := pair1 pr
    exact call_tuple_ofS pins s σ H _ us Q I rr ⟨p, ws, rfl, .inl ⟨.inl (.inl hp), fun t its ht => q am _ _ (rm.new _ ht) (F.new ht) (R.newT rm ht r)⟩⟩
  · obtain ⟨x, rfl, p, ws, rfl, hp, r⟩ := pair1 pr
    exact call_tuple_ofS pins s σ H _ us Q I rr ⟨p, ws, rfl, .inr ⟨by rw [ck.K]; exact hp.sq, q am H _ rm F.refl ⟨p, ws, rfl, hp, r⟩⟩⟩
theorem c_list (ck : Ck k X) : CallR X (.type "list") (rB k .list) := by
  intro pins s σ H xs us Q I rr ⟨ex, am, M, vs, z, rm, rv, hz, q⟩
  obtain ⟨ds, hd, hz⟩ := bi_data hz
  have pr := rds_of rm rv hd
  obtain ⟨d, rfl, hz⟩ := d1_some hz
  obtain ⟨ys, he, hz⟩ := dSeq_some hz
  cases hz
  rcases he with rfl | rfl
  · obtain ⟨x, rfl, p, ws, rfl, hp, r⟩ := pair1 pr
    exact call_list_of pins s σ H _ us Q I rr ⟨p, ws, rfl, .inl (.inl (.inl hp)), fun t ht => q am _ _ (rm.new _ ht) (F.new ht) (R.newL rm ht r)⟩
  · obtain ⟨x, rfl, p, ws, rfl, hp, r⟩ := pair1 pr
    exact call_list_of pins s σ H _ us Q I rr ⟨p, ws, rfl, .inr (by rw [ck.K]; exact hp.sq), fun t ht => q am _ _ (rm.new _ ht) (F.new ht) (R.newL rm ht r)⟩
theorem c_sum (ck : Ck k X) : CallR X (.builtin "sum") (rB k .sum) := by
  intro pins s σ H xs us Q I rr ⟨ex, am, M, vs, z, rm, rv, hz, q⟩
  obtain ⟨ds, hd, hz⟩ := bi_data hz
  have pr := rds_of rm rv hd
  obtain ⟨d, rfl, hz⟩ := d1_some hz
  obtain ⟨ys, rfl, hy⟩ := dList_some hz
  obtain ⟨x, rfl, p, ws, rfl, hp, r⟩ := pair1 pr
  cases hi : intsOf ys with
  | none => rw [hi] at hy; cases hy
  | some ns =>
    rw [hi] at hy; cases hy
    have e := ints_R r hi
    subst e
    exact cr_sum ck.calm pins s σ H _ us Q I rr ⟨p, ns, rfl, .inl (.inl hp), q am H _ rm F.refl rfl⟩
theorem c_min (ck : Ck k X) : CallR X (.builtin "min") (rB k .min2) := by
  intro pins s σ H xs us Q I rr ⟨ex, am, M, vs, z, rm, rv, hz, q⟩
  obtain ⟨ds, hd, hz⟩ := bi_data hz
  have pr := rds_of rm rv hd
  obtain ⟨d, d', rfl, hz⟩ := d2_some hz
  obtain ⟨i, rfl, hz⟩ := dInt_some hz
  obtain ⟨j, rfl, hz⟩ := dInt_some hz
  obtain ⟨x, y, rfl, hx, hy⟩ := pair2 pr
  cases hx; cases hy; cases hz
  exact call_min2 ck.calm pins s σ H _ us Q I rr ⟨_, _, rfl, q am H _ rm F.refl rfl⟩
theorem c_max (ck : Ck k X) : CallR X (.builtin "max") (rB k .max2) := by
  intro pins s σ H xs us Q I rr ⟨ex, am, M, vs, z, rm, rv, hz, q⟩
  obtain ⟨ds, hd, hz⟩ := bi_data hz
  have pr := rds_of rm rv hd
  obtain ⟨d, d', rfl, hz⟩ := d2_some hz
  obtain ⟨i, rfl, hz⟩ := dInt_some hz
  obtain ⟨j, rfl, hz⟩ := dInt_some hz
  obtain ⟨x, y, rfl, hx, hy⟩ := pair2 pr
  cases hx; cases hy; cases hz
  exact call_max2 ck.calm pins s σ H _ us Q I rr ⟨_, _, rfl, q am H _ rm F.refl rfl⟩
end
end Mp
end
section
set_option maxHeartbeats 4000000
/-! What is walked, targets, comprehensions. -/
namespace Mp
open PySem PySem.Spec PyProof.Rows L2

/-- from the state am₀, M₀, H₀ on J gives the items xs, one a turn -/
structure Wk (k : Kx) (ex am₀ : List Addr) (M₀ : Mem) (H₀ : Hp) (J : It) (xs : List D) : Prop where
  go : ∀ (ex' : List Addr) (i : Nat) (am : List Addr) (M : Mem) (H : Hp), (∀ a ∈ ex', a ∈ ex ∨ H₀ a = none) → RM k.K ex' am M H → F am₀ M₀ H₀ am M H → i < xs.length → J.go i H
  stop : ∀ (ex' am : List Addr) (M : Mem) (H : Hp), (∀ a ∈ ex', a ∈ ex ∨ H₀ a = none) → RM k.K ex' am M H → F am₀ M₀ H₀ am M H → J.stop xs.length H
  yld : ∀ (ex' : List Addr) (i : Nat) (am : List Addr) (M : Mem) (H H' : Hp) (x : V), (∀ a ∈ ex', a ∈ ex ∨ H₀ a = none) → RM k.K ex' am M H → F am₀ M₀ H₀ am M H → i < xs.length → J.yld i H x H' →
    ∃ d, xs[i]? = some d ∧ R k.K H' (avS ex' am M) d x ∧ RM k.K ex' am M H' ∧ F am M H am M H'
def tI (k : Kx) (E : XK) (it : SI) : TI := fun σ H Rr => ∃ ex am env M, RM k.K ex am M H ∧ RE k.K ex am M H env σ ∧ Po k ex am M H E (it env M) (fun xs M' am' H' => ∀ J, Wk k ex am' M' H' J xs → Rr J H')
abbrev SIt (X : Cx) (k : Kx) (E : XK) (tg iter : Expr) (it : SI) : Prop := PI X tg iter (tI k E it)
theorem PI.imp {X : Cx} {tg e : Expr} {t t' : TI} (h : PI X tg e t) (i : ∀ σ H Q, t' σ H Q → t σ H Q) : PI X tg e t' := ⟨fun pins s σ H Q I q => h.run pins s σ H Q I (i σ H Q q)⟩

section
variable {X : Cx} {k : Kx} {E : XK} {e a b c tg : Expr} {es : List Expr} {pos p0 p1 p : Pos} {f g h : SF} {A : SA}

/-- a list or a tuple -/
def iSeq (K : PySem.W.Frag) (tl : TE) : TI := fun σ H R => tl σ H fun x H1 => ∃ a, x = .ref a ∧ (((∃ xs, SqL K H1 a xs) ∧ R (Itl K a) H1) ∨ ((∃ xs, SqT K H1 a xs) ∧ R (Itt K a) H1))
theorem pi_seq {l : Expr} {tl : TE} (hl : PE X l tl) : PI X tg l (iSeq X.K tl) := by
  refine ⟨fun pins s σ H R I h => ?_⟩
  refine thn (hl.run pins s σ H _ I h) fun v s1 ⟨x, H1, I1, r1, q1⟩ => ?_
  obtain ⟨a, e, q1⟩ := q1
  subst e
  cases r1
  rcases q1 with ⟨⟨xs, hq⟩, q⟩ | ⟨⟨xs, hq⟩, q⟩
  · obtain ⟨its, rv, p, hz⟩ := I1.list hq
    refine wpAny_pyIter_list p.isList ?_
    refine ⟨s1.heap.objs.size, [s1.heap.objs.size], _, _, H1, rfl, I1.kept (t' := s1.toks) fun b o e => Heap.get?_push_of_some _ e, turn_list a _, ⟨_, Heap.get?_push_size _ rfl, rfl, rfl⟩, fun b hb => ?_, q⟩
    have e : b = s1.heap.objs.size := by simpa using hb
    subst e
    exact I1.fpOk (Nat.le_refl _) (I1.hok.fresh (Nat.le_refl _))
  · obtain ⟨its, rv, p, hz⟩ := I1.tuple hq
    refine wpAny_pyIter_tuple (show s1.heap.IsTuple a its.toArray from p) ?_
    refine ⟨s1.heap.objs.size, [s1.heap.objs.size], _, _, H1, rfl, I1.kept (t' := s1.toks) fun b o e => Heap.get?_push_of_some _ e, turn_tuple a _, ⟨_, Heap.get?_push_size _ rfl, rfl, rfl⟩, fun b hb => ?_, q⟩
    have e : b = s1.heap.objs.size := by simpa using hb
    subst e
    exact I1.fpOk (Nat.le_refl _) (I1.hok.fresh (Nat.le_refl _))

theorem RM.agrx {K : Kf} {ex ex' am am' : List Addr} {M M' : Mem} {H H' : Hp} (m : RM K ex am M H) (f : F am M H am' M' H') (hx : ∀ a ∈ ex', a ∈ ex ∨ H a = none) : Agr K H (avS ex am M) H' (avS ex' am' M') := by
  have g := m.agr f
  refine ⟨g.tup, fun a vs h n => ?_⟩
  obtain ⟨h1, n1⟩ := g.lst a vs h n
  refine ⟨h1, fun l => ?_⟩
  rcases l with l | l
  · rcases hx a l with z | z
    · exact n (.inl z)
    · rw [h] at z; cases z
  · exact n1 (.inr l)
theorem Rs.step {K : Kf} {ex am am' : List Addr} {M M' : Mem} {H H' : Hp} {ds : List D} {vs : List V} (r : Rs K H (avS ex am M) ds vs) (m : RM K ex am M H) (f : F am M H am' M' H') : Rs K H' (avS ex am' M') ds vs := (m.agr f).rs _ _ r
theorem wk_list {ex am : List Addr} {M : Mem} {H : Hp} {ds : List D} {p : Addr} {vs : List V} {K : PySem.W.Frag} (rm : RM k.K ex am M H) (hp : H p = some (.lst vs)) (n : ¬ avS ex am M p) (r : Rs k.K H (avS ex am M) ds vs) : Wk k ex am M H (Itl K p) ds := by
  have hat : ∀ (am' : List Addr) (M' : Mem) (H' : Hp), F am M H am' M' H' → H' p = some (.lst vs) := fun am' M' H' f => (f.keep p _ hp fun l => n (.inr l)).1
  refine ⟨fun ex' i am' M' H' hx rm' f' hi => ?_, fun ex' am' M' H' hx rm' f' => ?_, fun ex' i am' M' H' H2 x hx rm' f' hi y => ?_⟩
  · have hl := r.length
    exact ⟨vs, vs[i]'(by omega), .inl (.inl (hat _ _ _ f')), by simp⟩
  · exact ⟨vs, .inl (.inl (hat _ _ _ f')), by have := r.length; omega⟩
  · obtain ⟨e1, e2⟩ := y
    subst e1
    have hv' := e2 vs (.inl (.inl (hat _ _ _ f')))
    obtain ⟨v, hv, rv⟩ := ((rm.agrx f' hx).rs _ _ r).get (List.getElem?_eq_getElem hi)
    rw [hv'] at hv
    cases hv
    exact ⟨ds[i], List.getElem?_eq_getElem hi, rv, rm', F.refl⟩
theorem wk_tup {ex am : List Addr} {M : Mem} {H : Hp} {ds : List D} {p : Addr} {vs : List V} (rm : RM k.K ex am M H) (hp : TupAt k.K H p vs) (r : Rs k.K H (avS ex am M) ds vs) : Wk k ex am M H (Itt k.K.K p) ds := by
  have hat : ∀ (am' : List Addr) (M' : Mem) (H' : Hp), F am M H am' M' H' → SqT k.K.K H' p vs := fun am' M' H' f => ((rm.agr f).tup p vs hp).sq
  refine ⟨fun ex' i am' M' H' hx rm' f' hi => ?_, fun ex' am' M' H' hx rm' f' => ?_, fun ex' i am' M' H' H2 x hx rm' f' hi y => ?_⟩
  · have hl := r.length
    exact ⟨vs, vs[i]'(by omega), hat _ _ _ f', by simp⟩
  · exact ⟨vs, hat _ _ _ f', by have := r.length; omega⟩
  · obtain ⟨e1, e2⟩ := y
    subst e1
    have hv' := e2 vs (hat _ _ _ f')
    obtain ⟨v, hv, rv⟩ := ((rm.agrx f' hx).rs _ _ r).get (List.getElem?_eq_getElem hi)
    rw [hv'] at hv
    cases hv
    exact ⟨ds[i], List.getElem?_eq_getElem hi, rv, rm', F.refl⟩
theorem si_ov (ck : Ck k X) (ha : SE X k E a f) : SIt X k E tg a (sOv f) :=
  PI.imp (pi_seq ha) fun σ H Rr ⟨ex, am, env, M, rm, re, p⟩ => by
    refine ⟨ex, am, env, M, rm, re, p.bind.mono fun v M1 am1 H1 rm1 f1 p1 x rx => ?_⟩
    split at p1
    · obtain ⟨q, vs, rfl, hq, n, r⟩ := rx
      exact ⟨q, rfl, .inl ⟨⟨vs, .inl (.inl hq)⟩, p1.now rm1 _ (wk_list rm1 hq n r)⟩⟩
    · obtain ⟨q, vs, rfl, hq, r⟩ := rx
      refine ⟨q, rfl, .inr ⟨⟨vs, by rw [ck.K]; exact hq.sq⟩, ?_⟩⟩
      rw [ck.K]
      exact p1.now rm1 _ (wk_tup rm1 hq r)
    · exact p1.elim
theorem rngD_get {a b : Int} {i : Nat} (h : i < (b - a).toNat) : (rngD a b)[i]? = some (.int (a + (i : Int))) := by
  unfold rngD
  rw [List.getElem?_map, List.getElem?_range h]
  rfl
theorem rngD_length (a b : Int) : (rngD a b).length = (b - a).toNat := by unfold rngD; simp
theorem wk_rng {ex am : List Addr} {M : Mem} {H : Hp} {a b : Int} : Wk k ex am M H (Itr a (b - a).toNat) (rngD a b) := by
  refine ⟨fun ex' i am' M' H' hx rm' f' hi => ?_, fun ex' am' M' H' hx rm' f' => ?_, fun ex' i am' M' H' H2 x hx rm' f' hi y => ?_⟩
  · rw [rngD_length] at hi
    exact hi
  · rw [rngD_length]
    exact Nat.le_refl _
  · rw [rngD_length] at hi
    obtain ⟨e1, e2⟩ := y
    subst e1 e2
    exact ⟨_, rngD_get hi, rfl, rm', F.refl⟩
theorem si_rg1 (bn : Bn X "range") (ha : SE X k E a f) (hs : starEach [a] X.env = [(false, eval a X.env)]) : SIt X k E tg (.Call (.Name "range" p0) [a] [] pos) (sRg1 f) :=
  PI.imp (pi_range1 bn.gl bn.mg (pa_cons ha pa_nil hs) hs) fun σ H Rr ⟨ex, am, env, M, rm, re, p⟩ => by
    refine ⟨ex, am, env, M, rm, re, p.bind.mono fun v M1 am1 H1 rm1 f1 p1 x rx => ?_⟩
    split at p1
    · rename_i n
      split at p1
      · rename_i ho
        have h2 := of_decide_eq_true ho
        refine ⟨n, by rw [show x = .int n from rx], h2.2.2.1, h2.2.2.2.1, ?_⟩
        have w := p1.now rm1 (Itr 0 (n - 0).toNat) wk_rng
        rw [Int.sub_zero] at w
        exact w
      · exact p1.elim
    · exact p1.elim
theorem si_rg2 (bn : Bn X "range") (ha : SE X k E a f) (hb : SE X k E b g) (hs : starEach [a, b] X.env = [(false, eval a X.env), (false, eval b X.env)]) (hs2 : starEach [b] X.env = [(false, eval b X.env)]) : SIt X k E tg (.Call (.Name "range" p0) [a, b] [] pos) (sRg2 f g) :=
  PI.imp (pi_range2 bn.gl bn.mg (pa_cons ha (pa_cons hb pa_nil hs2) (by rw [hs, hs2])) hs hs2) fun σ H Rr ⟨ex, am, env, M, rm, re, p⟩ => by
    refine ⟨ex, am, env, M, rm, re, p.bind.mono fun v M1 am1 H1 rm1 f1 p1 x rx => ?_⟩
    refine ⟨ex, am1, env, M1, rm1, re.step rm f1, p1.bind.mono fun w M2 am2 H2 rm2 f2 p2 y ry => ?_⟩
    split at p2
    · rename_i n1 n2
      split at p2
      · rename_i ho
        have h2 := of_decide_eq_true ho
        refine ⟨n1, n2, by rw [show x = .int n1 from rx, show y = .int n2 from ry], ⟨h2.1, h2.2.1, h2.2.2.1, h2.2.2.2.1⟩, ?_⟩
        exact p2.now rm2 _ wk_rng
      · exact p2.elim
    · exact p2.elim

/-! ### targets -/
/-- a target's names are among own: the others stay -/
def tgIn (own : List Nat) : Tg → Bool
  | .nm i => decide (i ∈ own)
  | .tup2 a b => tgIn own a && tgIn own b
  | .tup3 a b c => tgIn own a && tgIn own b && tgIn own c
theorem wipe_set1 (i : Nat) (x : Option V) : ∀ (vs : List Nat) (σ : L2.St), (wipe (σ.set i x) vs).set i none = (wipe σ vs).set i none
  | [], σ => by simp [wipe]
  | v :: vs, σ => by
    unfold wipe
    by_cases e : v = i
    · subst e
      rw [List.set_set, List.set_set, wipe_set1 v x vs σ]
    · rw [List.set_comm _ _ e, wipe_set1 i x vs σ, List.set_comm _ _ (Ne.symm e)]
theorem wipe_set {i : Nat} {x : Option V} : ∀ {vs : List Nat} {σ : L2.St}, i ∈ vs → wipe (σ.set i x) vs = wipe σ vs
  | [], _, h => by simp at h
  | v :: vs, σ, h => by
    unfold wipe
    by_cases e : i = v
    · subst e; exact wipe_set1 i x vs σ
    · rw [wipe_set ((List.mem_cons.mp h).resolve_left e)]
/-- a target takes data -/
def gT (k : Kx) (t : Tg) : TG := fun v σ H Q => ∃ ex am M env d env', RM k.K ex am M H ∧ RE k.K ex am M H env σ ∧ R k.K H (avS ex am M) d v ∧ asgT t d env = some env' ∧
  ∀ σ', RE k.K ex am M H env' σ' → (∀ own, tgIn own t = true → wipe σ' own = wipe σ own) → Q σ' H
abbrev SG (X : Cx) (k : Kx) (tg : Expr) (t : Tg) : Prop := PG X tg (gT k t)
theorem PG.imp {X : Cx} {tg : Expr} {t t' : TG} (h : PG X tg t) (i : ∀ v σ H Q, t' v σ H Q → t v σ H Q) : PG X tg t' := ⟨fun pins s σ H v u Q I r q => h.run pins s σ H v u Q I r (i v σ H Q q)⟩
theorem RE.set {K : Kf} {ex am : List Addr} {M : Mem} {H : Hp} {env : Env} {σ : L2.St} (re : RE K ex am M H env σ) {i : Nat} {v : Val} {x : V} (r : RV K H (avS ex am M) am v x) : RE K ex am M H (env.set i (some v)) (σ.set i (some x)) := by
  refine ⟨by simp [re.1], fun j w h => ?_⟩
  have h' := getE_spec h
  by_cases e : j = i
  · subst e
    have hj : j < env.length := by
      have := (List.getElem?_eq_some_iff.mp h').1
      simpa using this
    rw [List.getElem?_set_self hj] at h'
    cases h'
    exact ⟨x, by rw [List.getElem?_set_self (by rw [← re.1]; exact hj)], r⟩
  · rw [List.getElem?_set_ne (Ne.symm e)] at h'
    obtain ⟨y, hy, ry⟩ := re.2 j w (by unfold getE; rw [h'])
    exact ⟨y, by rw [List.getElem?_set_ne (Ne.symm e)]; exact hy, ry⟩
theorem sg_nm {i : Nat} {x : Str} (ck : Ck k X) (hi : X.N[i]? = some x) (hx : Loc X.env.scope x) (hf : X.fn x = true ∨ X.env.scope.names.lookup x = some .local) : SG X k (.Name x pos) (.nm i) :=
  PG.imp (pg_name ck.nd hi hx hf) fun v σ H Q ⟨ex, am, M, env, d, env', rm, re, r, ha, q⟩ => by
    cases ha
    exact q _ (re.set (v := .d d) r) fun own h => wipe_set (of_decide_eq_true h)
theorem sg_tup2 {t u : Expr} {s1 s2 : Tg} {kk : Nat} (ck : Ck k X) (h1 : SG X k t s1) (h2 : SG X k u s2) (hn : (assignEach [t, u] X.env).length = 2) (hst : (assignEach [t, u] X.env).findIdx? (·.1) = none)
    (ha : (assignEach [t, u] X.env).map (·.2) = assign t X.env :: (assignEach [u] X.env).map (·.2)) (ha2 : (assignEach [u] X.env).map (·.2) = assign u X.env :: (assignEach [] X.env).map (·.2)) : SG X k (.Tuple [t, u] kk pos) (.tup2 s1 s2) :=
  PG.imp (pg_tup ck.calm (pgs_cons h1 (pgs_cons h2 pgs_nil ha2) ha) hn hst) fun v σ H Q ⟨ex, am, M, env, d, env', rm, re, r, hz, q⟩ => by
    cases d with
    | tuple ds =>
      match ds, hz, r with
      | [y, z], hz, r =>
        change (asgT s1 y env).bind (asgT s2 z) = some env' at hz
        obtain ⟨p, vs, rfl, hp, r1⟩ := r
        obtain ⟨v1, t1, rfl, ry, r2⟩ := r1
        obtain ⟨v2, t2, rfl, rz, r3⟩ := r2
        cases r3
        cases hq : asgT s1 y env with
        | none => rw [hq] at hz; cases hz
        | some env1 =>
          rw [hq] at hz
          exact ⟨p, [v1, v2], rfl, by rw [ck.K]; exact hp.sq, rfl, v1, [v2], rfl, ⟨ex, am, M, env, y, env1, rm, re, ry, hq, fun σ1 re1 w1 => ⟨v2, [], rfl, ⟨ex, am, M, env1, z, env', rm, re1, rz, hz, fun σ2 re2 w2 => ⟨rfl, q σ2 re2 fun own h => by
            have h' : tgIn own s1 = true ∧ tgIn own s2 = true := by simpa [tgIn] using h
            rw [w2 own h'.2, w1 own h'.1]⟩⟩⟩⟩⟩
      | [], hz, _ => cases hz
      | [_], hz, _ => cases hz
      | _ :: _ :: _ :: _, hz, _ => cases hz
    | _ => cases hz
theorem sg_tup3 {t u w : Expr} {s1 s2 s3 : Tg} {kk : Nat} (ck : Ck k X) (h1 : SG X k t s1) (h2 : SG X k u s2) (h3 : SG X k w s3) (hn : (assignEach [t, u, w] X.env).length = 3) (hst : (assignEach [t, u, w] X.env).findIdx? (·.1) = none)
    (ha : (assignEach [t, u, w] X.env).map (·.2) = assign t X.env :: (assignEach [u, w] X.env).map (·.2)) (ha2 : (assignEach [u, w] X.env).map (·.2) = assign u X.env :: (assignEach [w] X.env).map (·.2))
    (ha3 : (assignEach [w] X.env).map (·.2) = assign w X.env :: (assignEach [] X.env).map (·.2)) : SG X k (.Tuple [t, u, w] kk pos) (.tup3 s1 s2 s3) :=
  PG.imp (pg_tup ck.calm (pgs_cons h1 (pgs_cons h2 (pgs_cons h3 pgs_nil ha3) ha2) ha) hn hst) fun v σ H Q ⟨ex, am, M, env, d, env', rm, re, r, hz, q⟩ => by
    cases d with
    | tuple ds =>
      match ds, hz, r with
      | [y, z, o], hz, r =>
        change ((asgT s1 y env).bind (asgT s2 z)).bind (asgT s3 o) = some env' at hz
        obtain ⟨p, vs, rfl, hp, r1⟩ := r
        obtain ⟨v1, t1, rfl, ry, r2⟩ := r1
        obtain ⟨v2, t2, rfl, rz, r3⟩ := r2
        obtain ⟨v3, t3, rfl, ro, r4⟩ := r3
        cases r4
        cases hq : asgT s1 y env with
        | none => rw [hq] at hz; cases hz
        | some env1 =>
          rw [hq] at hz
          change (asgT s2 z env1).bind (asgT s3 o) = some env' at hz
          cases hq2 : asgT s2 z env1 with
          | none => rw [hq2] at hz; cases hz
          | some env2 =>
            rw [hq2] at hz
            exact ⟨p, [v1, v2, v3], rfl, by rw [ck.K]; exact hp.sq, rfl, v1, [v2, v3], rfl, ⟨ex, am, M, env, y, env1, rm, re, ry, hq, fun σ1 re1 w1 => ⟨v2, [v3], rfl, ⟨ex, am, M, env1, z, env2, rm, re1, rz, hq2, fun σ2 re2 w2 => ⟨v3, [], rfl, ⟨ex, am, M, env2, o, env', rm, re2, ro, hz, fun σ3 re3 w3 => ⟨rfl, q σ3 re3 fun own h => by
              have h' : (tgIn own s1 = true ∧ tgIn own s2 = true) ∧ tgIn own s3 = true := by simpa [tgIn] using h
              rw [w3 own h'.2, w2 own h'.1.2, w1 own h'.1.1]⟩⟩⟩⟩⟩⟩⟩
      | [], hz, _ => cases hz
      | [_], hz, _ => cases hz
      | [_, _], hz, _ => cases hz
      | _ :: _ :: _ :: _ :: _, hz, _ => cases hz
    | _ => cases hz

/-! ### comprehensions -/
def era (H : Hp) (p : Addr) : Hp := fun b => if b = p then none else H b
theorem era_ne {H : Hp} {p b : Addr} (h : b ≠ p) : era H p b = H b := by unfold era; rw [if_neg h]
theorem era_upd {H : Hp} {p : Addr} {o : HO} (h : H p = some o) : upd (era H p) p o = H := by
  funext b
  by_cases e : b = p
  · subst e; rw [upd_same, h]
  · rw [upd_ne e, era_ne e]
theorem era_same {H : Hp} {p : Addr} : era H p p = none := by unfold era; rw [if_pos rfl]

/-- a new list of ours that evaluation does not know -/
theorem RM.newx {K : Kf} {ex am : List Addr} {M : Mem} {H : Hp} {p : Addr} {o : HO} (m : RM K ex am M H) (hp : H p = none) : RM K (p :: ex) am M (upd H p o) := by
  have g := m.agrx (ex' := p :: ex) (F.new (am := am) (M := M) (o := o) hp) fun a h => (List.mem_cons.mp h).elim (fun z => .inr (by rw [z]; exact hp)) .inl
  refine ⟨m.len, fun i ob a h1 h2 => g.ro (fun _ _ h => h) (fun u h => ?_) (m.obj i ob a h1 h2), m.inj, fun a h l => ?_, fun a h => ?_⟩
  · rw [upd_ne (ne_of_none h hp)]; exact h
  · rcases List.mem_cons.mp h with z | z
    · obtain ⟨⟨u, h1⟩, _⟩ := m.liveH l
      rw [z, hp] at h1; cases h1
    · exact m.exL a z l
  · rcases List.mem_cons.mp h with z | z
    · exact ⟨o, by rw [z]; exact upd_same⟩
    · obtain ⟨u, h1⟩ := m.exH a z
      exact ⟨u, by rw [upd_ne (ne_of_none h1 hp)]; exact h1⟩
theorem agr_exupd {K : Kf} {ex am : List Addr} {M : Mem} {H : Hp} {p : Addr} {vs ws : List V} (hp : H p = some (.lst vs)) : Agr K H (avS (p :: ex) am M) (upd H p (.lst ws)) (avS (p :: ex) am M) := by
  refine ⟨fun a us h => ?_, fun a us h n => ?_⟩
  · have ne : ∀ {o : HO}, H a = some o → o ≠ .lst vs → a ≠ p := fun h1 h2 e => by subst e; rw [hp] at h1; exact h2 (Option.some.inj h1).symm
    rcases h with ⟨its, h⟩ | h
    · exact .inl ⟨its, by rw [upd_ne (ne h (by intro q; cases q))]; exact h⟩
    · exact .inr h
  · refine ⟨by rw [upd_ne (fun e => n (.inl (by rw [e]; exact List.mem_cons_self)))]; exact h, n⟩
theorem RM.exupd {K : Kf} {ex am : List Addr} {M : Mem} {H : Hp} {p : Addr} {vs ws : List V} (m : RM K (p :: ex) am M H) (hp : H p = some (.lst vs)) : RM K (p :: ex) am M (upd H p (.lst ws)) := by
  have g := agr_exupd (K := K) (ex := ex) (am := am) (M := M) (ws := ws) hp
  refine ⟨m.len, fun i ob a h1 h2 => ?_, m.inj, m.exL, fun a h => ?_⟩
  · by_cases dd : isDead ob = true
    · exact RO.deadU dd g (fun o vs' q => by rw [hp] at q; simp at q) (fun b hb => upd_ne hb) (m.obj i ob a h1 h2)
    · refine g.ro (fun _ _ h => h) (fun u h => ?_) (m.obj i ob a h1 h2)
      have : a ≠ p := fun e => m.exL p List.mem_cons_self ⟨i, ob, by rw [← e]; exact h2, h1, by simpa using dd⟩
      rw [upd_ne this]; exact h
  · by_cases e : a = p
    · exact ⟨_, by rw [e]; exact upd_same⟩
    · obtain ⟨u, h1⟩ := m.exH a h
      exact ⟨u, by rw [upd_ne e]; exact h1⟩
theorem agr_era {K : Kf} {ex am : List Addr} {M : Mem} {H : Hp} {p : Addr} {vs : List V} (hp : H p = some (.lst vs)) : Agr K H (avS (p :: ex) am M) (era H p) (avS ex am M) := by
  refine ⟨fun a us h => ?_, fun a us h n => ?_⟩
  · have ne : ∀ {o : HO}, H a = some o → o ≠ .lst vs → a ≠ p := fun h1 h2 e => by subst e; rw [hp] at h1; exact h2 (Option.some.inj h1).symm
    rcases h with ⟨its, h⟩ | h
    · exact .inl ⟨its, by rw [era_ne (ne h (by intro q; cases q))]; exact h⟩
    · exact .inr h
  · refine ⟨by rw [era_ne (fun e => n (.inl (by rw [e]; exact List.mem_cons_self)))]; exact h, fun l => n ?_⟩
    rcases l with l | l
    · exact .inl (List.mem_cons_of_mem _ l)
    · exact .inr l
theorem RM.era {K : Kf} {ex am : List Addr} {M : Mem} {H : Hp} {p : Addr} {vs : List V} (m : RM K (p :: ex) am M H) (hp : H p = some (.lst vs)) (hn : p ∉ ex) : RM K ex am M (Mp.era H p) := by
  have g := agr_era (K := K) (ex := ex) (am := am) (M := M) hp
  refine ⟨m.len, fun i ob a h1 h2 => ?_, m.inj, fun a h => m.exL a (List.mem_cons_of_mem _ h), fun a h => ?_⟩
  · by_cases dd : isDead ob = true
    · exact RO.deadU dd g (fun o vs' q => by rw [hp] at q; simp at q) (fun b hb => era_ne hb) (m.obj i ob a h1 h2)
    · refine g.ro (fun _ _ h => h) (fun u h => ?_) (m.obj i ob a h1 h2)
      have : a ≠ p := fun e => m.exL p List.mem_cons_self ⟨i, ob, by rw [← e]; exact h2, h1, by simpa using dd⟩
      rw [era_ne this]; exact h
  · obtain ⟨u, h1⟩ := m.exH a (List.mem_cons_of_mem _ h)
    exact ⟨u, by rw [era_ne (fun e => hn (by rw [← e]; exact h))]; exact h1⟩

theorem wipe_RE {K : Kf} {ex am : List Addr} {M : Mem} {H : Hp} {env : Env} {σ : L2.St} (re : RE K ex am M H env σ) : ∀ own : List Nat, RE K ex am M H (wipeE env own) (wipe σ own)
  | [] => re
  | v :: vs => by
    have ih := wipe_RE re vs
    refine ⟨by simp [wipeE, wipe, ih.1], fun j w h => ?_⟩
    have h' := getE_spec h
    unfold wipeE at h'
    unfold wipe
    by_cases e : j = v
    · subst e
      have hj : j < (wipeE env vs).length := by
        have := (List.getElem?_eq_some_iff.mp h').1
        simpa using this
      rw [List.getElem?_set_self hj] at h'
      cases h'
    · rw [List.getElem?_set_ne (Ne.symm e)] at h'
      obtain ⟨y, hy, ry⟩ := ih.2 j w (by unfold getE; rw [h'])
      exact ⟨y, by rw [List.getElem?_set_ne (Ne.symm e)]; exact hy, ry⟩
theorem wipe_wipe (σ : L2.St) (vs : List Nat) : wipe (wipe σ vs) vs = wipe σ vs := by
  have key : ∀ (us : List Nat) (i : Nat), i ∈ us → (wipe σ us).set i none = wipe σ us := by
    intro us
    induction us with
    | nil => intro i h; simp at h
    | cons v us ih =>
      intro i h
      unfold wipe
      by_cases e : i = v
      · subst e; rw [List.set_set]
      · rw [List.set_comm _ _ (Ne.symm e), ih i ((List.mem_cons.mp h).resolve_left e)]
  have gen : ∀ us : List Nat, (∀ i ∈ us, i ∈ vs) → wipe (wipe σ vs) us = wipe σ vs := by
    intro us
    induction us with
    | nil => intro _; rfl
    | cons v us ih =>
      intro h
      show (wipe (wipe σ vs) us).set v none = wipe σ vs
      rw [ih fun i hi => h i (List.mem_cons_of_mem _ hi), key vs v (h v List.mem_cons_self)]
  exact gen vs fun i h => h
/-- the turns of a comprehension, taken apart -/
theorem lcL_step {tg : Tg} {own : List Nat} {c : Option SF} {f : SF} {σ : Env} {x : D} {xs : List D} {M : Mem} {ys : List D} {M' : Mem} (h : lcL tg own c f σ (x :: xs) M = .ok ys M') :
    ∃ σ1, asgT tg x (wipeE σ own) = some σ1 ∧ ∃ b M2, (sTst c σ1 M = .ok b M2) ∧
      ((b = true ∧ ∃ y M3 ys', f σ1 M2 = .ok (.d y) M3 ∧ lcL tg own c f σ xs M3 = .ok ys' M' ∧ ys = y :: ys') ∨ (b = false ∧ lcL tg own c f σ xs M2 = .ok ys M')) := by
  unfold lcL at h
  cases q : asgT tg x (wipeE σ own) with
  | none => rw [q] at h; cases h
  | some σ1 =>
    rw [q] at h
    refine ⟨σ1, rfl, ?_⟩
    dsimp only at h
    cases qc : sTst c σ1 M with
    | no => rw [qc] at h; cases h
    | ex e M1 => rw [qc] at h; cases h
    | ok b M2 =>
      rw [qc, bind_ok] at h
      refine ⟨b, M2, rfl, ?_⟩
      cases b with
      | false => rw [if_neg Bool.false_ne_true] at h; exact .inr ⟨rfl, h⟩
      | true =>
        rw [if_pos rfl] at h
        cases qf : f σ1 M2 with
        | no => rw [qf] at h; cases h
        | ex e M1 => rw [qf] at h; cases h
        | ok v M3 =>
          rw [qf, bind_ok] at h
          cases v with
          | ref i => cases h
          | d y =>
            dsimp only at h
            cases qr : lcL tg own c f σ xs M3 with
            | no => rw [qr] at h; cases h
            | ex e M1 => rw [qr] at h; cases h
            | ok ys' M4 =>
              rw [qr, bind_ok] at h
              cases h
              exact .inl ⟨rfl, y, M3, ys', rfl, qr, rfl⟩

/-- no error leaves a comprehension's block -/
abbrev E00 : XK := fun _ _ _ => False
/-- the tests of a comprehension -/
def tIfs (k : Kx) : Option SF → TT
  | none => tYes
  | some c => tT k E00 c
theorem tr_lc {own : List Nat} {it : SI} {t : Tg} {c : Option SF} (ht : tgIn own t = true) {σ : L2.St} {H : Hp} {Q : VK} (hw : tF k E (sLc t own it c f) σ H Q) :
    tLc (tI k E it) (gT k t) (tIfs k c) (tE k E00 f) own σ H Q := by
    obtain ⟨ex, am, env, M, rm, re, p⟩ := hw
    refine ⟨ex, am, env, M, rm, re, p.bind.mono fun xs M1 am1 H1 rm1 f1 p1 J wk D hD => ?_⟩
    cases hl : lcL t own c f env xs M1 with
    | no => rw [hl] at p1; exact p1.elim
    | ex e1 M2 => rw [hl] at p1; exact p1.elim
    | ok zs Mz =>
      rw [hl] at p1
      dsimp only at p1
      split at p1
      case isFalse => exact p1.elim
      rename_i hlen
      have hnex : D ∉ ex := fun h => by
        obtain ⟨o, ho⟩ := rm1.exH D h
        rw [hD] at ho; cases ho
      have hx : ∀ a ∈ D :: ex, a ∈ ex ∨ H1 a = none := fun a h => (List.mem_cons.mp h).elim (fun z => .inr (by rw [z]; exact hD)) .inl
      have re1 := re.step rm f1
      -- Pv
      refine ⟨fun i m H => m = xs.length - i ∧ i ≤ xs.length ∧ ∃ am' M' acc vs ys, RM k.K (D :: ex) am' M' H ∧ F am1 M1 H1 am' M' H ∧ H D = some (.lst vs) ∧ Rs k.K H (avS (D :: ex) am' M') acc vs ∧ RE k.K (D :: ex) am' M' H env σ ∧
        lcL t own c f env (xs.drop i) M' = .ok ys Mz ∧ acc ++ ys = zs, ⟨xs.length, by simp, Nat.zero_le _, am1, M1, [], [], zs, rm1.newx hD, F.new hD, upd_same, rfl, ?_, hl, rfl⟩, ?_⟩
      · exact ⟨re1.1, fun i v h => by obtain ⟨x, h1, h2⟩ := re1.2 i v h; exact ⟨x, h1, (rm1.agrx (F.new hD) hx).rv (fun _ _ h => h) _ _ h2⟩⟩
      · rintro i m H2 ⟨rfl, hi2, am', M', acc, vs, ys, rm2, f2, hH, ra, re2, hly, hacc⟩
        by_cases hlt : i < xs.length
        · refine .inr ⟨wk.go (D :: ex) i am' M' H2 hx rm2 f2 hlt, fun H3 => ∃ m', m' < xs.length - i ∧ (m' = xs.length - (i + 1) ∧ i + 1 ≤ xs.length ∧ ∃ am' M' acc vs ys, RM k.K (D :: ex) am' M' H3 ∧ F am1 M1 H1 am' M' H3 ∧ H3 D = some (.lst vs) ∧ Rs k.K H3 (avS (D :: ex) am' M') acc vs ∧ RE k.K (D :: ex) am' M' H3 env σ ∧
            lcL t own c f env (xs.drop (i + 1)) M' = .ok ys Mz ∧ acc ++ ys = zs), fun H3 h => h, fun x H3 hy => ?_⟩
          obtain ⟨d, hd, rd, rm3, f3⟩ := wk.yld (D :: ex) i am' M' H2 H3 x hx rm2 f2 hlt hy
          have ed : xs.drop i = d :: xs.drop (i + 1) := by
            rw [List.drop_eq_getElem_cons hlt]
            rw [List.getElem?_eq_getElem hlt] at hd
            cases hd
            rfl
          rw [ed] at hly
          obtain ⟨env1, ha1, b, M2, hb, hrest⟩ := lcL_step hly
          have re3 := re2.step rm2 f3
          refine ⟨D :: ex, am', M', wipeE env own, d, env1, rm3, wipe_RE re3 _, rd, ha1, fun σ2 re4 w2 => ?_⟩
          have ww : wipe σ2 own = wipe σ own := by
            rw [w2 _ ht]
            exact wipe_wipe σ _
          refine ⟨ww, ?_⟩
          have liveD : ∀ {am M H}, RM k.K (D :: ex) am M H → ¬ live am M D := fun rm => rm.exL D List.mem_cons_self
          -- behind the test
          have go : ∀ (am4 : List Addr) (H4 : Hp), RM k.K (D :: ex) am4 M2 H4 → F am' M' H3 am4 M2 H4 → (if b = true then tE k E00 f σ2 H4 fun y H5 => ∃ acc : List V, H5 D = some (.lst acc) ∧ acc.length < sizeLine ∧ ∃ m', m' < xs.length - i ∧ (m' = xs.length - (i + 1) ∧ i + 1 ≤ xs.length ∧ ∃ am' M' acc' vs ys, RM k.K (D :: ex) am' M' (upd H5 D (.lst (acc ++ [y]))) ∧ F am1 M1 H1 am' M' (upd H5 D (.lst (acc ++ [y]))) ∧ (upd H5 D (.lst (acc ++ [y]))) D = some (.lst vs) ∧ Rs k.K (upd H5 D (.lst (acc ++ [y]))) (avS (D :: ex) am' M') acc' vs ∧ RE k.K (D :: ex) am' M' (upd H5 D (.lst (acc ++ [y]))) env σ ∧
            lcL t own c f env (xs.drop (i + 1)) M' = .ok ys Mz ∧ acc' ++ ys = zs) else ∃ m', m' < xs.length - i ∧ (m' = xs.length - (i + 1) ∧ i + 1 ≤ xs.length ∧ ∃ am' M' acc vs ys, RM k.K (D :: ex) am' M' H4 ∧ F am1 M1 H1 am' M' H4 ∧ H4 D = some (.lst vs) ∧ Rs k.K H4 (avS (D :: ex) am' M') acc vs ∧ RE k.K (D :: ex) am' M' H4 env σ ∧
            lcL t own c f env (xs.drop (i + 1)) M' = .ok ys Mz ∧ acc ++ ys = zs)) := by
            intro am4 H4 rm4 f4
            have hH3 := f3.keep D _ hH (liveD rm2)
            have hH4 := f4.keep D _ hH3.1 hH3.2
            have re5 := re3.step rm3 f4
            have ra4 := (ra.step rm2 f3).step rm3 f4
            rcases hrest with ⟨hbt, y, M3, ys', hf, hl2, hys⟩ | ⟨hbf, hl2⟩
            · subst hbt
              rw [if_pos rfl]
              refine ⟨D :: ex, am4, env1, M2, rm4, (re4.step rm3 f4), ?_⟩
              rw [hf]
              intro am5 H5 rm5 f5 x5 rx5
              have hH5 := f5.keep D _ hH4.1 hH4.2
              have ra5 := ra4.step rm4 f5
              have g := agr_exupd (K := k.K) (ex := ex) (am := am5) (M := M3) (ws := vs ++ [x5]) hH5.1
              refine ⟨vs, hH5.1, ?_, xs.length - (i + 1), by omega, rfl, hlt, am5, M3, acc ++ [y], vs ++ [x5], ys', rm5.exupd hH5.1, ?_, upd_same, g.rs _ _ (ra5.append ⟨x5, [], rfl, rx5, rfl⟩), ?_, hl2, by rw [← hacc, hys]; simp⟩
              · have e1 : acc.length + ys.length = zs.length := by rw [← hacc, List.length_append]
                have e2 : ys.length = ys'.length + 1 := by rw [hys]; rfl
                have := ra5.length
                have := lim_size hlen
                omega
              · have ff := ((f2.trans f3).trans f4).trans f5
                refine ⟨fun a o h n => ?_, ff.ext⟩
                obtain ⟨h1, h2⟩ := ff.keep a o h n
                exact ⟨by rw [upd_ne (ne_of_none h hD)]; exact h1, h2⟩
              · have re6 := re5.step rm4 f5
                exact ⟨re6.1, fun i v h => by obtain ⟨x, h1, h2⟩ := re6.2 i v h; exact ⟨x, h1, g.rv (fun _ _ h => h) _ _ h2⟩⟩
            · subst hbf
              rw [if_neg Bool.false_ne_true]
              exact ⟨xs.length - (i + 1), by omega, rfl, hlt, am4, M2, acc, vs, ys, rm4, (f2.trans f3).trans f4, hH4.1, ra4, re5, hl2, hacc⟩
          cases c with
          | none =>
            cases hb
            exact go am' H3 rm3 F.refl
          | some c0 =>
            refine ⟨D :: ex, am', env1, M', rm3, re4, ?_⟩
            change Po k (D :: ex) am' M' H3 E00 (sTst (some c0) env1 M') _
            rw [hb]
            exact fun am4 H4 rm4 f4 => go am4 H4 rm4 f4
        · have ei : i = xs.length := by omega
          subst ei
          rw [List.drop_length] at hly
          have hly' : Res.ok [] M' = Res.ok ys Mz := hly
          cases hly'
          rw [List.append_nil] at hacc
          subst hacc
          refine .inl ⟨wk.stop (D :: ex) am' Mz H2 hx rm2 f2, ?_⟩
          have q := p1 am' (era H2 D) (rm2.era hH hnex) ?_ acc D vs rfl era_same ((agr_era hH).rs _ _ ra)
          · rw [era_upd hH] at q
            exact q
          · refine ⟨fun a o h n => ?_, f2.ext⟩
            obtain ⟨h1, h2⟩ := f2.keep a o h n
            exact ⟨by rw [era_ne (ne_of_none h hD)]; exact h1, h2⟩
theorem se_lcf {elt iter : Expr} {ifs : List Expr} {scope : Scope} {own : List (Str × Nat)} {it : SI} {t : Tg} {c : Option SF} (ck : Ck k X) (hi : SIt X k E tg iter it) (ok : BlkOk X.N X.env.scope scope own) (ht : tgIn (own.map (·.2)) t = true)
    (hg : ∀ (s : Shared) (H : Hp) (C : Addr) (cl : List (Str × Addr)) (fp : List Addr), PG (X.blk s H scope (compEnvC scope cl C X.env) fp) tg (gT k t))
    (hc : ∀ (s : Shared) (H : Hp) (C : Addr) (cl : List (Str × Addr)) (fp : List Addr), PTs (X.blk s H scope (compEnvC scope cl C X.env) fp) ifs (tIfs k c))
    (he : ∀ (s : Shared) (H : Hp) (C : Addr) (cl : List (Str × Addr)) (fp : List Addr), PE (X.blk s H scope (compEnvC scope cl C X.env) fp) elt (tE k E00 f)) (hs : ∀ x, foldedSetIterable iter X.env x = pure x) :
    SFr X k E (.ListComp elt [⟨tg, iter, ifs, 0⟩] scope pos) (sLc t (own.map (·.2)) it c f) :=
  PE.imp (pe_lc ck.calm ck.nd hi ok hg hc he hs) fun σ H Q h => tr_lc ht h
end
end Mp
end
section
set_option maxHeartbeats 4000000
/-! Readings of statements. -/
namespace Mp
open PySem PySem.Spec PyProof.Rows L2

/-- what follows a statement -/
def okF (k : Kx) (ex : List Addr) (D : Ends) : Fl → Mem → List Addr → Hp → Prop
  | .nx env, M, am, H => ∀ σ, RE k.K ex am M H env σ → D.nx σ H
  | .bk env, M, am, H => ∀ σ, RE k.K ex am M H env σ → D.bk σ H
  | .ct env, M, am, H => ∀ σ, RE k.K ex am M H env σ → D.ct σ H
  | .rt v, M, am, H => ∀ x, RV k.K H (avS ex am M) am v x → D.rt x H
def tS (k : Kx) (E : XK) (f : SS) : TS := fun D σ H => ∃ ex am env M, RM k.K ex am M H ∧ RE k.K ex am M H env σ ∧ Po k ex am M H E (f env M) (okF k ex D)
abbrev SSt (X : Cx) (k : Kx) (E : XK) (st : Stmt) (f : SS) : Prop := PS X st (tS k E f)
abbrev SSs (X : Cx) (k : Kx) (E : XK) (sts : List Stmt) (f : SS) : Prop := PSs X sts (tS k E f)
theorem PS.imp {X : Cx} {st : Stmt} {t t' : TS} (h : PS X st t) (i : ∀ D σ H, t' D σ H → t D σ H) : PS X st t' := ⟨fun pins s σ H D I q => h.run pins s σ H D I (i D σ H q)⟩
theorem PSs.imp {X : Cx} {st : List Stmt} {t t' : TS} (h : PSs X st t) (i : ∀ D σ H, t' D σ H → t D σ H) : PSs X st t' := ⟨fun pins s σ H D I q => h.run pins s σ H D I (i D σ H q)⟩

section
variable {X : Cx} {k : Kx} {E : XK} {e a b c tg : Expr} {es : List Expr} {pos p0 p1 p : Pos} {f g h : SF} {A : SA} {u v : SS}

/-! ### names stored -/
theorem tS_set {i : Nat} {D : Ends} {σ : L2.St} {H : Hp} (hw : tS k E (sSet i f) D σ H) : tE k E f σ H (fun x H1 => gName i x σ H1 D.nx) := by
  obtain ⟨ex, am, env, M, rm, re, p⟩ := hw
  refine ⟨ex, am, env, M, rm, re, p.bind.mono fun v M1 am1 H1 rm1 f1 p1 x rx => ?_⟩
  exact p1.now rm1 _ ((re.step rm f1).set rx)
def notComp : Expr → Bool
  | .ListComp .. => false
  | .SetComp .. => false
  | .DictComp .. => false
  | _ => true
theorem swaps_false {t : Option Expr} {l : Nat} {env : PySem.Env} (h : notComp e = true) : swapsWith e t l env = pure false := by
  cases e <;> first | rfl | cases h
theorem ss_set {i : Nat} {x : Str} (ck : Ck k X) (hi : X.N[i]? = some x) (hx : Loc X.env.scope x) (hf : X.fn x = true ∨ X.env.scope.names.lookup x = some .local) (he : SE X k E e f) (hs : swapsWith e (some (.Name x p1)) pos.line X.env = pure false) : SSt X k E (.Assign [.Name x p1] e pos) (sSet i f) :=
  PS.imp (ps_set ck.nd hi hx he hs hf) fun D σ H hw => tS_set hw
theorem tF_new {σ : L2.St} {H : Hp} {Q : VK} (hw : tE k E (sNew f) σ H Q) : tF k E f σ H Q := by
  obtain ⟨ex, am, env, M, rm, re, p⟩ := hw
  refine ⟨ex, am, env, M, rm, re, p.bind.mono fun v M1 am1 H1 rm1 f1 p1 xs q vs hv hq rs => ?_⟩
  subst hv
  have al := rm1.alloc (o := .lst vs) (ob := .lst xs) hq rfl fun H' av' am' g _ hs => ⟨vs, hs, g.rs _ _ rs⟩
  refine p1 _ _ al.1 al.2 _ ⟨q, ?_, rfl⟩
  rw [← rm1.len]
  simp
theorem tF_val {σ : L2.St} {H : Hp} {Q : VK} (hl : ∀ env M v M', f env M = .ok v M' → ∃ xs, v = .d (.list xs)) (hw : tE k E f σ H Q) : tF k E f σ H Q := by
  obtain ⟨ex, am, env, M, rm, re, p⟩ := hw
  refine ⟨ex, am, env, M, rm, re, ?_⟩
  cases q : f env M with
  | ok v M1 =>
    rw [q] at p
    intro am1 H1 rm1 f1 xs p0 vs hv hp0 rs
    have g := rm1.agr (F.new (o := .lst vs) (am := am1) (M := M1) hp0)
    refine p am1 _ (rm1.new (.lst vs) hp0) (f1.trans (F.new hp0)) _ ?_
    subst hv
    refine ⟨p0, vs, rfl, upd_same, fun l => ?_, g.rs _ _ rs⟩
    obtain ⟨o, ho⟩ := rm1.avH l
    rw [hp0] at ho; cases ho
  | ex e1 M1 => rw [q] at p; exact p
  | no => rw [q] at p; exact p
theorem lc_list_val {t : Tg} {own : List Nat} {it : SI} {c : Option SF} : ∀ env M v M', sLc t own it c f env M = .ok v M' → ∃ xs, v = .d (.list xs) := by
  intro env M v M' h
  unfold sLc at h
  cases q : it env M with
  | no => rw [q] at h; cases h
  | ex e1 M1 => rw [q] at h; cases h
  | ok xs M1 =>
    rw [q, bind_ok] at h
    cases q2 : lcL t own c f env xs M1 with
    | no => rw [q2] at h; cases h
    | ex e1 M2 => rw [q2] at h; cases h
    | ok ys M2 =>
      rw [q2] at h
      dsimp only at h
      split at h
      · cases h; exact ⟨_, rfl⟩
      · cases h
/-- name = [..] where the list is made in the frame's own block -/
theorem ss_setLc {elt iter : Expr} {ifs : List Expr} {scope : Scope} {own : List (Str × Nat)} {it : SI} {t : Tg} {c : Option SF} {i : Nat} {y : Str} {spos : Pos} (ck : Ck k X) (hy : X.N[i]? = some y) (hyl : X.env.scope.names.lookup y = some .local)
    (hsw : swapsWith (.ListComp elt [⟨tg, iter, ifs, 0⟩] scope pos) (some (.Name y p1)) spos.line X.env = pure true) (hi : SIt X k E tg iter it) (ok : BlkOk X.N X.env.scope scope own) (ht : tgIn (own.map (·.2)) t = true)
    (hg : ∀ (s : Shared) (H : Hp) (C : Addr) (cl : List (Str × Addr)) (fp : List Addr), PG (X.blk s H scope (compEnvC scope cl C X.env) fp) tg (gT k t))
    (hc : ∀ (s : Shared) (H : Hp) (C : Addr) (cl : List (Str × Addr)) (fp : List Addr), PTs (X.blk s H scope (compEnvC scope cl C X.env) fp) ifs (tIfs k c))
    (he : ∀ (s : Shared) (H : Hp) (C : Addr) (cl : List (Str × Addr)) (fp : List Addr), PE (X.blk s H scope (compEnvC scope cl C X.env) fp) elt (tE k E00 f)) (hs : ∀ x, foldedSetIterable iter X.env x = pure x) (nw : Bool) :
    SSt X k E (.Assign [.Name y p1] (.ListComp elt [⟨tg, iter, ifs, 0⟩] scope pos) spos) (sSet i (if nw then sNew (sLc t (own.map (·.2)) it c f) else sLc t (own.map (·.2)) it c f)) :=
  PS.imp (ps_setLc ck.calm ck.nd hy hyl hsw hi ok hg hc he hs) fun D σ H hw => by
    have h1 := tS_set hw
    cases nw with
    | true => exact tr_lc ht (tF_new h1)
    | false => exact tr_lc ht (tF_val lc_list_val h1)

/-! ### targets -/
theorem tS_asg {t : Tg} {D : Ends} {σ : L2.St} {H : Hp} (hw : tS k E (sAsg t f) D σ H) : tE k E f σ H (fun x H1 => gT k t x σ H1 D.nx) := by
  obtain ⟨ex, am, env, M, rm, re, p⟩ := hw
  refine ⟨ex, am, env, M, rm, re, p.bind.mono fun v M1 am1 H1 rm1 f1 p1 x rx => ?_⟩
  cases v with
  | ref _ => exact p1.elim
  | d d =>
    obtain ⟨env1, h1, p2⟩ := p1.ofO
    exact ⟨ex, am1, M1, env, d, env1, rm1, re.step rm f1, rx, h1, fun σ' re' _ => p2.now rm1 σ' re'⟩
theorem ss_asg {t : Tg} (he : SE X k E e f) (hg : SG X k tg t) (hs : swapsWithSole [tg] e pos.line X.env = pure false) (hw : swappedStores [tg] e X.env = pure none) (h1 : (assignEach [tg] X.env).map (·.2) = [assign tg X.env]) : SSt X k E (.Assign [tg] e pos) (sAsg t f) :=
  PS.imp (ps_asg he hg hs hw h1) fun D σ H hw => tS_asg hw
/-- a, b = x, y -/
theorem ss_par2 {i j : Nat} {x y : Str} {kt k2 : Nat} {px py pt pt2 : Pos} (ck : Ck k X) (hi : X.N[i]? = some x) (hj : X.N[j]? = some y) (hij : i ≠ j) (hx : X.env.scope.names.lookup x = some .local) (hy : X.env.scope.names.lookup y = some .local)
    (ha : SE X k E a f) (hb : SE X k E b g) (hsa : starEach [a, b] X.env = (false, eval a X.env) :: starEach [b] X.env) (hsb : starEach [b] X.env = (false, eval b X.env) :: starEach [] X.env)
    (hw : swappedStores [.Tuple [.Name x px, .Name y py] kt pt] (.Tuple [a, b] k2 pt2) X.env = pure (some [x, y])) (hs : swapsWithSole [.Tuple [.Name x px, .Name y py] kt pt] (.Tuple [a, b] k2 pt2) pos.line X.env = pure false) :
    SSt X k E (.Assign [.Tuple [.Name x px, .Name y py] kt pt] (.Tuple [a, b] k2 pt2) pos) (sPar2 i j f g) :=
  PS.imp (ps_par ck.calm ck.nd hi hj hij hx hy (pa_cons ha (pa_cons hb pa_nil hsb) hsa) hw hs) fun D σ H hw => by
    obtain ⟨ex, am, env, M, rm, re, p⟩ := hw
    refine ⟨ex, am, env, M, rm, re, p.bind.mono fun v M1 am1 H1 rm1 f1 p1 x rx => ?_⟩
    refine ⟨ex, am1, env, M1, rm1, re.step rm f1, p1.bind.mono fun w M2 am2 H2 rm2 f2 p2 y ry => ?_⟩
    exact ⟨x, y, rfl, p2.now rm2 _ ((((re.step rm f1).step rm1 f2).set (rx.step rm1 f2)).set ry)⟩
/-- .. where a pair is made and taken apart -/
theorem ss_par2t {i j : Nat} {x y : Str} {kt k2 : Nat} {px py pt pt2 : Pos} (ck : Ck k X) (hi : X.N[i]? = some x) (hj : X.N[j]? = some y) (hx : Loc X.env.scope x) (hy : Loc X.env.scope y) (hfx : X.fn x = true ∨ X.env.scope.names.lookup x = some .local) (hfy : X.fn y = true ∨ X.env.scope.names.lookup y = some .local)
    (ha : SE X k E a f) (hb : SE X k E b g) (hsa : starEach [a, b] X.env = (false, eval a X.env) :: starEach [b] X.env) (hsb : starEach [b] X.env = (false, eval b X.env) :: starEach [] X.env)
    (hw : swappedStores [.Tuple [.Name x px, .Name y py] kt pt] (.Tuple [a, b] k2 pt2) X.env = pure none) :
    SSt X k E (.Assign [.Tuple [.Name x px, .Name y py] kt pt] (.Tuple [a, b] k2 pt2) pos) (sPar2 i j f g) :=
  PS.imp (ps_asg (pe_tupS (pa_cons ha (pa_cons hb pa_nil hsb) hsa)) (pg_tup ck.calm (pgs_cons (pg_name ck.nd hi hx hfx) (pgs_cons (pg_name ck.nd hj hy hfy) pgs_nil rfl) rfl) rfl rfl) rfl hw rfl) fun D σ H hw => by
    obtain ⟨ex, am, env, M, rm, re, p⟩ := hw
    refine ⟨ex, am, env, M, rm, re, p.bind.mono fun v M1 am1 H1 rm1 f1 p1 x rx => ?_⟩
    refine ⟨ex, am1, env, M1, rm1, re.step rm f1, p1.bind.mono fun w M2 am2 H2 rm2 f2 p2 y ry => ?_⟩
    refine ⟨by show 2 ≤ sizeLine; rw [sizeLine_eq]; decide, fun q its hq => ?_⟩
    have ff := F.new (am := am2) (M := M2) (o := sT its [x, y]) hq
    refine ⟨q, [x, y], rfl, .inl (.inr ⟨_, upd_same⟩), rfl, x, [y], rfl, y, [], rfl, rfl, ?_⟩
    exact p2 am2 _ (rm2.new _ hq) ff _ (((((re.step rm f1).step rm1 f2).step rm2 ff).set ((rx.step rm1 f2).step rm2 ff)).set (ry.step rm2 ff))

/-! ### o[i] = v -/
def rSet (k : Kx) : V → V → V → Hp → (Hp → Prop) → Prop := fun o i v H Q => ∃ ex am M vo wi vv M', RM k.K ex am M H ∧ RV k.K H (avS ex am M) am vo o ∧ RV k.K H (avS ex am M) am wi i ∧ RV k.K H (avS ex am M) am vv v ∧ setV M vo wi vv = some M' ∧
  ∀ am' H', RM k.K ex am' M' H' → F am M H am' M' H' → Q H'
theorem RK.put {κ : Type} [DecidableEq κ] {K : Kf} {H : Hp} {av : Addr → Prop} (q : κ) {d : D} {v : V} (r : R K H av d v) : ∀ {kvs : List (κ × D)} {vs : List (κ × V)}, RK K H av kvs vs → RK K H av (dPut kvs q d) (putK vs q v) := by
  have rep : ∀ {kvs : List (κ × D)} {vs : List (κ × V)}, RK K H av kvs vs → RK K H av (kvs.map fun kv => if kv.1 = q then (kv.1, d) else kv) (vs.map fun kv => if kv.1 = q then (kv.1, v) else kv) := by
    intro kvs
    induction kvs with
    | nil => intro vs h; cases (show vs = [] from h); rfl
    | cons x kvs ih =>
      intro vs h
      obtain ⟨w, t, rfl, h1, h2⟩ := h
      by_cases e : x.1 = q
      · exact ⟨v, _, by simp [e], by simp [e]; exact r, ih h2⟩
      · exact ⟨w, _, by simp [e], by simp [e]; exact h1, ih h2⟩
  have app : ∀ {kvs : List (κ × D)} {vs : List (κ × V)}, RK K H av kvs vs → RK K H av (kvs ++ [(q, d)]) (vs ++ [(q, v)]) := by
    intro kvs
    induction kvs with
    | nil => intro vs h; cases (show vs = [] from h); exact ⟨v, [], rfl, r, rfl⟩
    | cons x kvs ih =>
      intro vs h
      obtain ⟨w, t, rfl, h1, h2⟩ := h
      exact ⟨w, _, rfl, h1, ih h2⟩
  intro kvs vs h
  have e : (kvs.any fun kv => decide (kv.1 = q)) = vs.any fun kv => decide (kv.1 = q) := by
    have e1 := (h.get q).1
    rw [valV_any]
    rw [← e1]
    unfold dGet
    rw [Option.isSome_map]
    have : ∀ (l : List (κ × D)), (l.any fun kv => decide (kv.1 = q)) = (l.find? fun kv => decide (kv.1 = q)).isSome := by
      intro l
      induction l with
      | nil => rfl
      | cons x l ih =>
        by_cases e : x.1 = q
        · simp [e]
        · simp [e]; exact ih
    exact this kvs
  unfold dPut putK
  rw [e]
  split
  · exact rep h
  · exact app h
theorem set_all (ck : Ck k X) (nset : ∀ {pins : List (Addr × Obj)} {s : Shared} {σ : L2.St} {H : Hp} {a : Addr} {d z : D} {q : NestedKey} {y v : V} {u r : Value} {Q : Unit → Shared → Prop} {kvs : List (NestedKey × D)} {xs : List (NestedKey × Addr × V)} {av : Addr → Prop}, Inv X pins σ H s →
      H a = some (dN k.K a xs) → RD k.K H av kvs xs → nkT d = some q → R k.K H av d y → RelV y u → R k.K H av z v → RelV v r → kvs.length < lim →
      (∀ s' xs', Inv X pins σ (upd H a (dN k.K a xs')) s' → (∀ H' av', Agr k.K H av H' av' → RD k.K H' av' (dPut kvs q z) xs') → Q () s') → wpAny (model X.prog X.w) X.A (setItem (.ref a) u r) Q X.xe s) : PSet X (rSet k) := by
  intro pins s σ H o i v ov iv u Q I ro ri rv ⟨ex, am, M, vo, wi, vv, M', rm, rvo, rwi, rvv, hs, q⟩
  cases vo with
  | d _ => cases hs
  | ref j =>
    obtain ⟨p, ha, rfl⟩ := rvo
    cases hm : M[j]? with
    | none => simp [setV, hm] at hs
    | some ob =>
      cases ob with
      | lst xs =>
        obtain ⟨vs, hp, r⟩ := rm.obj j _ p hm ha
        cases wi with
        | ref _ => simp [setV, hm] at hs
        | d dw =>
          cases dw with
          | int n =>
            cases vv with
            | ref _ => simp [setV, hm] at hs
            | d dv =>
              cases hx : ixN xs.length n with
              | none => simp [setV, hm, hx] at hs
              | some jj =>
                have hs' : M.set j (.lst (xs.set jj dv)) = M' := by simpa [setV, hm, hx] using hs
                subst hs'
                cases rwi
                have mu := rm.mut (ob' := .lst (xs.set jj dv)) (o := .lst (vs.set jj v)) hm ha rfl rfl fun H' av' g hh => ⟨_, hh, (g.rs _ _ r).set (g.r _ _ rvv)⟩
                exact set_list pins s σ H _ _ v ov iv u Q I ro ri rv ⟨p, vs, n, jj, rfl, rfl, hp, by rw [← r.length]; exact hx, q am _ mu.1 mu.2⟩
          | _ => simp [setV, hm] at hs
      | box xs =>
        obtain ⟨vs, hp, r, hok⟩ := rm.obj j _ p hm ha
        cases wi with
        | ref _ => simp [setV, hm] at hs
        | d dw =>
          cases dw with
          | int n =>
            cases hx : ixN xs.length n with
            | none => simp [setV, hm, hx] at hs
            | some jj =>
              by_cases hr : okRef j vv = true
              · have hs' : M.set j (.box (xs.set jj vv)) = M' := by simpa [setV, hm, hx, hr] using hs
                subst hs'
                cases rwi
                have mu := rm.mut (ob' := .box (xs.set jj vv)) (o := .lst (vs.set jj v)) hm ha rfl rfl fun H' av' g hh => ⟨_, hh, (g.rvs (fun _ _ h => h) _ _ r).set (g.rv (fun _ _ h => h) _ _ rvv), fun w hw => (List.mem_or_eq_of_mem_set hw).elim (hok w) fun e => by rw [e]; exact hr⟩
                exact set_list pins s σ H _ _ v ov iv u Q I ro ri rv ⟨p, vs, n, jj, rfl, rfl, hp, by rw [← r.length]; exact hx, q am _ mu.1 mu.2⟩
              · simp [setV, hm, hx, hr] at hs
          | _ => simp [setV, hm] at hs
      | dK kvs =>
        obtain ⟨vs, hp, r⟩ := rm.obj j _ p hm ha
        obtain rfl : ov = Value.ref p := ro
        cases wi with
        | ref _ => simp [setV, hm] at hs
        | d dw =>
          cases vv with
          | ref _ => simp [setV, hm] at hs
          | d dv =>
            cases hq : keyD dw with
            | none => simp [setV, hm, hq] at hs
            | some q0 =>
              by_cases hl : kvs.length < lim
              · have hs' : M.set j (.dK (dPut kvs q0 dv)) = M' := by simpa [setV, hm, hq, hl] using hs
                subst hs'
                have hy : i = kV q0 := key_R rwi hq
                subst hy
                have mu := rm.mut (ob' := .dK (dPut kvs q0 dv)) (o := .dK (putK vs q0 v)) hm ha rfl rfl fun H' av' g hh => ⟨_, hh, (g.rk _ _ r).put q0 (g.r _ _ rvv)⟩
                have hlen : vs.length = kvs.length := by
                  have : ∀ {kvs : List (L2.Key × D)} {vs : List (L2.Key × V)}, RK k.K H (avS ex am M) kvs vs → vs.length = kvs.length := by
                    intro kvs
                    induction kvs with
                    | nil => intro vs h; cases (show vs = [] from h); rfl
                    | cons x kvs ih => intro vs h; obtain ⟨w, t, rfl, _, h2⟩ := h; simp [ih h2]
                  exact this r
                exact d_setItem (by have := ck.hu; omega) I (DPut.k hp (by rw [hlen]; exact lim_lt hl)) ri rv fun s4 I4 => ⟨_, I4, q am _ mu.1 mu.2⟩
              · simp [setV, hm, hq, hl] at hs
      | dT kvs =>
        obtain ⟨xs, hp, r⟩ := rm.obj j _ p hm ha
        obtain rfl : ov = Value.ref p := ro
        cases wi with
        | ref _ => simp [setV, hm] at hs
        | d dw =>
          cases vv with
          | ref _ => simp [setV, hm] at hs
          | d dv =>
            cases hq : nkT dw with
            | none => simp [setV, hm, hq] at hs
            | some q0 =>
              by_cases hl : kvs.length < lim
              · have hs' : M.set j (.dT (dPut kvs q0 dv)) = M' := by simpa [setV, hm, hq, hl] using hs
                subst hs'
                refine nset I hp r hq rwi ri rvv rv hl fun s' xs' I' hrd => ?_
                have mu := rm.mut (ob' := .dT (dPut kvs q0 dv)) (o := dN k.K p xs') hm ha rfl rfl fun H' av' g hh => ⟨xs', hh, hrd H' av' g⟩
                exact ⟨_, I', q am _ mu.1 mu.2⟩
              · simp [setV, hm, hq, hl] at hs
      | _ => simp [setV, hm] at hs
end
end Mp
end
section
set_option maxHeartbeats 4000000
/-! Readings of statements: item stores, loops, rows. -/
namespace Mp
open PySem PySem.Spec PyProof.Rows L2

theorem bind_bind {α β γ : Type} (r : Res α) (f : α → Mem → Res β) (g : β → Mem → Res γ) : (r.bind f).bind g = r.bind fun a M => (f a M).bind g := by
  cases r <;> rfl

section
variable {X : Cx} {k : Kx} {E : XK} {e a b c o tg : Expr} {es : List Expr} {pos p0 p1 p : Pos} {f g h : SF} {A : SA} {u v : SS}

theorem ss_setI (ho : SE X k E o f) (hi : SE X k E a g) (hv : SE X k E e h) (hset : PSet X (rSet k))
    (ha : ∀ v, assign (.Subscript o a p0) X.env v = (do
      let ov ← holding [v] (eval o X.env)
      let iv ← holding [v, ov] (eval a X.env)
      standAt p0
      holding [v, ov, iv] (setItem ov iv v)
      release [v, ov, iv] []))
    (hs : swapsWithSole [.Subscript o a p0] e pos.line X.env = pure false) (hw : swappedStores [.Subscript o a p0] e X.env = pure none)
    (h1 : (assignEach [.Subscript o a p0] X.env).map (·.2) = [assign (.Subscript o a p0) X.env]) : SSt X k E (.Assign [.Subscript o a p0] e pos) (sSetI f g h) :=
  PS.imp (ps_asg hv (pg_sub ho hi hset ha) hs hw h1) fun D σ H hw => by
    obtain ⟨ex, am, env, M, rm, re, p⟩ := hw
    refine ⟨ex, am, env, M, rm, re, p.bind.mono fun v M1 am1 H1 rm1 f1 p1 x rx => ?_⟩
    have re1 := re.step rm f1
    refine ⟨ex, am1, env, M1, rm1, re1, p1.bind.mono fun o M2 am2 H2 rm2 f2 p2 y ry => ?_⟩
    have re2 := re1.step rm1 f2
    refine ⟨ex, am2, env, M2, rm2, re2, p2.bind.mono fun w M3 am3 H3 rm3 f3 p3 z rz => ?_⟩
    have re3 := re2.step rm2 f3
    cases hset : setV M3 o w v with
    | none => rw [hset] at p3; exact p3.elim
    | some M4 =>
      rw [hset] at p3
      exact ⟨ex, am3, M3, o, w, v, M4, rm3, ry.step rm2 f3, rz, (rx.step rm1 f2).step rm2 f3, hset, fun am' H' rm' f' => p3 am' H' rm' f' σ (re3.step rm3 f')⟩
theorem ss_aug {i : Nat} {x : Str} {bo : BOp} (ck : Ck k X) (hi : X.N[i]? = some x) (hx : Loc X.env.scope x) (hf : X.fn x = true ∨ X.env.scope.names.lookup x = some .local) (he : SE X k E e f) (hb : bo = .add ∨ bo = .sub) : SSt X k E (.AugAssign (.Name x p0) (opOf bo) e pos) (sAug i bo f) := by
  rcases hb with rfl | rfl
  · exact PS.imp (ps_aug ck.nd hi hx he ip_add hf) fun D σ H hw => by
      obtain ⟨ex, am, env, M, rm, re, p⟩ := hw
      unfold sAug at p
      split at p
      · rename_i x hg
        obtain ⟨x0, hx0, rx0⟩ := re.2 i _ hg
        have hx0' : x0 = .int x := rx0
        subst hx0'
        refine ⟨_, hx0, ex, am, env, M, rm, re, p.bind.mono fun v M1 am1 H1 rm1 f1 p1 y ry => ?_⟩
        cases v with
        | ref _ => exact p1.elim
        | d d =>
          cases d with
          | int n => exact ⟨x, n, rfl, ry, p1.now rm1 _ ((re.step rm f1).set (v := .d (.int (x + n))) rfl)⟩
          | _ => exact p1.elim
      · exact p.elim
  · exact PS.imp (ps_aug ck.nd hi hx he ip_sub hf) fun D σ H hw => by
      obtain ⟨ex, am, env, M, rm, re, p⟩ := hw
      unfold sAug at p
      split at p
      · rename_i x hg
        obtain ⟨x0, hx0, rx0⟩ := re.2 i _ hg
        have hx0' : x0 = .int x := rx0
        subst hx0'
        refine ⟨_, hx0, ex, am, env, M, rm, re, p.bind.mono fun v M1 am1 H1 rm1 f1 p1 y ry => ?_⟩
        cases v with
        | ref _ => exact p1.elim
        | d d =>
          cases d with
          | int n => exact ⟨x, n, rfl, ry, p1.now rm1 _ ((re.step rm f1).set (v := .d (.int (x - n))) rfl)⟩
          | _ => exact p1.elim
      · exact p.elim
theorem ss_exp (he : SE X k E e f) (hs : swapsWith e none pos.line X.env = pure false) : SSt X k E (.Expr e pos) (sExp f) :=
  PS.imp (ps_expr he hs) fun D σ H hw => by
    obtain ⟨ex, am, env, M, rm, re, p⟩ := hw
    exact ⟨ex, am, env, M, rm, re, p.bind.mono fun v M1 am1 H1 rm1 f1 p1 y ry => p1.now rm1 σ (re.step rm f1)⟩
theorem ss_ret (he : SE X k E e f) : SSt X k E (.Return (some e) pos) (sRet f) :=
  PS.imp (ps_ret he) fun D σ H hw => by
    obtain ⟨ex, am, env, M, rm, re, p⟩ := hw
    exact ⟨ex, am, env, M, rm, re, p.bind.mono fun v M1 am1 H1 rm1 f1 p1 y ry => p1.now rm1 y ry⟩
theorem ss_retn : SSt X k E (.Return none pos) sRetn :=
  PS.imp ps_retN fun D σ H hw => by
    obtain ⟨ex, am, env, M, rm, re, p⟩ := hw
    exact p.now rm .non rfl
theorem ss_pas : SSt X k E (.Pass pos) sPas := PS.imp ps_pass fun D σ H hw => by
    obtain ⟨ex, am, env, M, rm, re, p⟩ := hw
    exact p.now rm σ re
theorem ss_doc {x : Str} {j : Nat} : SSt X k E (.Expr (.Constant (.str x) j p0) pos) sPas := PS.imp ps_doc fun D σ H hw => by
    obtain ⟨ex, am, env, M, rm, re, p⟩ := hw
    exact p.now rm σ re
theorem ss_brk : SSt X k E (.Break pos) sBrk := PS.imp ps_break fun D σ H hw => by
    obtain ⟨ex, am, env, M, rm, re, p⟩ := hw
    exact p.now rm σ re
theorem ss_ctn : SSt X k E (.Continue pos) sCtn := PS.imp ps_continue fun D σ H hw => by
    obtain ⟨ex, am, env, M, rm, re, p⟩ := hw
    exact p.now rm σ re
theorem sss_nil : SSs X k E [] sPas := PSs.imp pss_nil fun D σ H hw => by
    obtain ⟨ex, am, env, M, rm, re, p⟩ := hw
    exact p.now rm σ re
theorem sss_cons {st : Stmt} {sts : List Stmt} (h1 : SSt X k E st u) (h2 : SSs X k E sts v) : SSs X k E (st :: sts) (sSeq u v) :=
  PSs.imp (pss_cons h1 h2) fun D σ H hw => by
    obtain ⟨ex, am, env, M, rm, re, p⟩ := hw
    refine ⟨ex, am, env, M, rm, re, p.bind.mono fun fl M1 am1 H1 rm1 f1 p1 => ?_⟩
    cases fl with
    | nx env1 => exact fun σ1 re1 => ⟨ex, am1, env1, M1, rm1, re1, p1⟩
    | rt v => exact Po.now (E := E) (ok := okF k ex D) rm1 p1
    | bk env1 => exact Po.now (E := E) (ok := okF k ex D) rm1 p1
    | ct env1 => exact Po.now (E := E) (ok := okF k ex D) rm1 p1
theorem sss_frz {sts : List Stmt} {i : Nat} (h2 : SSs X k E sts v) : SSs X k E sts (sSeq (sFrz i) v) :=
  PSs.imp h2 fun D σ H hw => by
    obtain ⟨ex, am, env, M, rm, re, p⟩ := hw
    unfold sSeq sFrz at p
    cases hg : getE env i with
    | none => rw [hg] at p; exact p.elim
    | some w =>
      cases w with
      | d _ => rw [hg] at p; exact p.elim
      | ref j =>
        cases hm : M[j]? with
        | none => rw [hg] at p; dsimp only at p; rw [hm] at p; exact p.elim
        | some ob =>
          cases ob with
          | lst xs =>
            rw [hg] at p; dsimp only at p; rw [hm] at p
            change Po k ex am M H E (v (env.set i (some (.d (.list xs)))) (M.set j .dead)) (okF k ex D) at p
            obtain ⟨x0, hx0, q, hq, rfl⟩ := re.2 i _ hg
            obtain ⟨vs, hH, r⟩ := rm.obj j _ q hm hq
            obtain ⟨rm1, f1, n1⟩ := rm.drop hm hq rfl
            refine ⟨ex, am, _, _, rm1, ?_, p.weak f1⟩
            have re1 := re.step rm f1
            refine ⟨by simp [re1.1], fun n w hn => ?_⟩
            have hn' := getE_spec hn
            by_cases en : n = i
            · subst en
              have hlt : n < env.length := by
                have := (List.getElem?_eq_some_iff.mp hn').1
                simpa using this
              rw [List.getElem?_set_self hlt] at hn'
              cases hn'
              refine ⟨_, hx0, q, vs, rfl, hH, fun l => ?_, (rm.agr f1).rs _ _ r⟩
              rcases l with l | l
              · exact rm.exL q l ⟨j, _, hq, hm, rfl⟩
              · exact n1 l
            · rw [List.getElem?_set_ne (Ne.symm en)] at hn'
              exact re1.2 n w (by unfold getE; rw [hn'])
          | _ => rw [hg] at p; dsimp only at p; rw [hm] at p; exact p.elim
theorem ss_iff {as bs : List Stmt} {f : SF} (hc : ST X k E c f) (ha : SSs X k E as u) (hb : SSs X k E bs v) : SSt X k E (.If c as bs pos) (sIff f u v) :=
  PS.imp (ps_if hc ha hb) fun D σ H hw => by
    obtain ⟨ex, am, env, M, rm, re, p⟩ := hw
    unfold sIff at p
    rw [← bind_bind] at p
    refine ⟨ex, am, env, M, rm, re, p.bind.mono fun b M1 am1 H1 rm1 f1 p1 => ?_⟩
    cases b with
    | true => rw [if_pos rfl]; exact ⟨ex, am1, env, M1, rm1, re.step rm f1, p1⟩
    | false => rw [if_neg Bool.false_ne_true]; exact ⟨ex, am1, env, M1, rm1, re.step rm f1, p1⟩
theorem ss_for {it : SI} {t : Tg} {body : List Stmt} (ck : Ck k X) (hi : SIt X k E tg a it) (hg : SG X k tg t) (hb : SSs X k E body u) (hs : ∀ x, foldedSetIterable a X.env x = pure x) : SSt X k E (.For tg a body [] pos) (sFor t it u) :=
  PS.imp (ps_for ck.po ck.calm hi hg hb hs) fun D σ H hw => by
    obtain ⟨ex, am, env, M, rm, re, p⟩ := hw
    refine ⟨ex, am, env, M, rm, re, p.bind.mono fun xs M1 am1 H1 rm1 f1 p1 J wk => ?_⟩
    have hx : ∀ a ∈ ex, a ∈ ex ∨ H1 a = none := fun a h => .inl h
    let W : Nat → Nat → L2.St → Hp → Prop := fun i m σ H => m = xs.length - i ∧ i ≤ xs.length ∧ ∃ am' env' M', RM k.K ex am' M' H ∧ F am1 M1 H1 am' M' H ∧ RE k.K ex am' M' H env' σ ∧ Po k ex am' M' H E (forL t u (xs.drop i) env' M') (okF k ex D)
    refine ⟨W, ⟨xs.length, by simp, Nat.zero_le _, am1, env, M1, rm1, F.refl, re.step rm f1, p1⟩, ?_⟩
    rintro i m σ2 H2 ⟨rfl, hi2, am2, env2, M2, rm2, f2, re2, p2⟩
    by_cases hlt : i < xs.length
    · refine .inr ⟨wk.go ex i am2 M2 H2 hx rm2 f2 hlt, W (i + 1) (xs.length - (i + 1)), fun σ' H' w => ⟨_, by omega, w⟩, fun x H3 hy => ?_⟩
      obtain ⟨d, hd, rd, rm3, f3⟩ := wk.yld ex i am2 M2 H2 H3 x hx rm2 f2 hlt hy
      have ed : xs.drop i = d :: xs.drop (i + 1) := by
        rw [List.drop_eq_getElem_cons hlt]
        rw [List.getElem?_eq_getElem hlt] at hd
        cases hd
        rfl
      rw [ed] at p2
      have p3 := p2.weak f3
      unfold forL at p3
      cases ha : asgT t d env2 with
      | none => rw [ha] at p3; exact p3.elim
      | some env3 =>
        rw [ha] at p3
        refine ⟨ex, am2, M2, env2, d, env3, rm3, re2.step rm2 f3, rd, ha, fun σ4 re4 _ => ⟨ex, am2, env3, M2, rm3, re4, p3.bind.mono fun fl M5 am5 H5 rm5 f5 p5 => ?_⟩⟩
        have f15 := (f2.trans f3).trans f5
        cases fl with
        | nx env5 => exact fun σ5 re5 => ⟨rfl, hlt, am5, env5, M5, rm5, f15, re5, p5⟩
        | ct env5 => exact fun σ5 re5 => ⟨rfl, hlt, am5, env5, M5, rm5, f15, re5, p5⟩
        | bk env5 => exact Po.now (E := E) (ok := okF k ex D) rm5 p5
        | rt v => exact Po.now (E := E) (ok := okF k ex D) rm5 p5
    · have ei : i = xs.length := by omega
      subst ei
      rw [List.drop_length] at p2
      exact .inl ⟨wk.stop ex am2 M2 H2 hx rm2 f2, p2.now rm2 σ2 re2⟩
theorem ss_whil {f : SF} {body : List Stmt} (ck : Ck k X) (hc : ST X k E c f) (hb : SSs X k E body u) : SSt X k E (.While c body [] pos) (sWhil f u) :=
  PS.imp (ps_while ck.po hc hb) fun D σ H hw => by
    obtain ⟨ex, am, env, M, rm, re, p⟩ := hw
    refine ⟨fun m σ H => ∃ am env M, RM k.K ex am M H ∧ RE k.K ex am M H env σ ∧ Po k ex am M H E (whL f u m env M) (okF k ex D), ⟨wfuel, am, env, M, rm, re, p⟩, ?_⟩
    rintro m σ1 H1 ⟨am1, env1, M1, rm1, re1, p1⟩
    cases m with
    | zero => exact p1.elim
    | succ m =>
      unfold whL at p1
      rw [← bind_bind] at p1
      refine ⟨ex, am1, env1, M1, rm1, re1, p1.bind.mono fun b M2 am2 H2 rm2 f2 p2 => ?_⟩
      have re2 := re1.step rm1 f2
      cases b with
      | false => show D.nx σ1 H2; exact Po.now (E := E) (ok := okF k ex D) rm2 p2 σ1 re2
      | true =>
        rw [if_pos rfl] at p2
        show ∃ N : L2.St → Hp → Prop, _
        refine ⟨fun σ H => ∃ am env M, RM k.K ex am M H ∧ RE k.K ex am M H env σ ∧ Po k ex am M H E (whL f u m env M) (okF k ex D), fun σ' H' w => ⟨m, by omega, w⟩, ex, am2, env1, M2, rm2, re2, p2.bind.mono fun fl M5 am5 H5 rm5 f5 p5 => ?_⟩
        cases fl with
        | nx env5 => exact fun σ5 re5 => ⟨am5, env5, M5, rm5, re5, p5⟩
        | ct env5 => exact fun σ5 re5 => ⟨am5, env5, M5, rm5, re5, p5⟩
        | bk env5 => exact Po.now (E := E) (ok := okF k ex D) rm5 p5
        | rt v => exact Po.now (E := E) (ok := okF k ex D) rm5 p5
end
end Mp
end
section
set_option maxHeartbeats 4000000
/-! Methods of lists and tuples. -/
namespace Mp
open PySem PySem.Spec PyProof.Rows L2

section
variable {X : Cx} {k : Kx} {E : XK} {e a b c o tg : Expr} {es : List Expr} {pos p0 p1 p apos cpos : Pos} {f g h : SF} {A : SA} {u v : SS}

def rM (k : Kx) (m : MT) : V → List V → Hp → VK → Prop := fun x xs H Q => ∃ ex am M v vs z M', RM k.K ex am M H ∧ RV k.K H (avS ex am M) am v x ∧ RVs k.K H (avS ex am M) am vs xs ∧ mtV m M v vs = some (z, M') ∧
  ∀ am' H' u, RM k.K ex am' M' H' → F am M H am' M' H' → RV k.K H' (avS ex am' M') am' z u → Q u H'
def mtT : MT → String
  | .indexT => "tuple"
  | _ => "list"
theorem isRL_some {M : Mem} {w : Val} (h : isRL M w = true) : ∃ j xs, w = .ref j ∧ M[j]? = some (.lst xs) := by
  cases w with
  | d _ => cases h
  | ref j =>
    unfold isRL at h
    dsimp only at h
    cases hm : M[j]? with
    | none => rw [hm] at h; cases h
    | some ob =>
      cases ob with
      | lst xs => exact ⟨j, xs, rfl, hm⟩
      | _ => rw [hm] at h; cases h
theorem kindM_ty {m : MT} {K : Kf} {ex am : List Addr} {M : Mem} {H : Hp} {w : Val} {x : V} (rm : RM K ex am M H) (r : RV K H (avS ex am M) am w x) (h : kindM m M w = true) : tyS K.K (mtT m) x H := by
  have gen : isRL M w = true → tyS K.K "list" x H := by
    intro hm
    obtain ⟨j, xs, rfl, hmj⟩ := isRL_some hm
    obtain ⟨q, hq, rfl⟩ := r
    obtain ⟨vs, e, _⟩ := rm.obj j _ q hmj hq
    exact .inl (.inl ⟨rfl, vs, .inl (.inl e)⟩)
  cases m with
  | index =>
    cases w with
    | ref j => cases h
    | d d =>
      cases d with
      | list xs => obtain ⟨q, vs, rfl, hq, _, _⟩ := r; exact .inl (.inl ⟨rfl, vs, .inl (.inl hq)⟩)
      | _ => cases h
  | indexT =>
    cases w with
    | ref j => cases h
    | d d =>
      cases d with
      | tuple xs =>
        obtain ⟨q, vs, rfl, hq, _⟩ := r
        rcases hq with ⟨its, hq⟩ | ⟨o, its, n, h1, h2, h3, _⟩
        · exact .inr ⟨rfl, q, its, vs, rfl, hq⟩
        · exact .inl (.inr (.inl ⟨rfl, o, h1, h2, h3⟩))
      | _ => cases h
  | append => exact gen h
  | pop0 => exact gen h
  | popAt => exact gen h
  | insert => exact gen h
  | extend => exact gen h
theorem tr_mt (ck : Ck k X) (m : MT) {σ : L2.St} {H : Hp} {Q : VK} (hw : tE k E (sMt m f A) σ H Q) : tBMS X.K (mtT m) (rM k m) (tE k E f) (tA k E A) σ H Q := by
  obtain ⟨ex, am, env, M, rm, re, p⟩ := hw
  refine ⟨ex, am, env, M, rm, re, p.bind.mono fun v M1 am1 H1 rm1 f1 p1 x rx => ?_⟩
  by_cases hk : kindM m M1 v = true
  · rw [if_pos hk] at p1
    refine ⟨by rw [ck.K]; exact kindM_ty rm1 rx hk, ex, am1, env, M1, rm1, re.step rm f1, p1.bind.mono fun vs M2 am2 H2 rm2 f2 p2 xs rxs => ?_⟩
    cases hm : mtV m M2 v vs with
    | none => rw [hm] at p2; exact p2.elim
    | some zz =>
      obtain ⟨z, M3⟩ := zz
      rw [hm] at p2
      exact ⟨ex, am2, M2, v, vs, z, M3, rm2, rx.step rm1 f2, rxs, hm, fun am' H' u rm' f' ru => p2 am' H' rm' f' u ru⟩
  · rw [if_neg hk] at p1; exact p1.elim

theorem tr_mt0 (ck : Ck k X) (m : MT) {σ : L2.St} {H : Hp} {Q : VK} (hw : tE k E (sMt m f sNil) σ H Q) : tBMS0 X.K (mtT m) (rM k m) (tE k E f) σ H Q := by
  obtain ⟨ex, am, env, M, rm, re, p⟩ := hw
  refine ⟨ex, am, env, M, rm, re, p.bind.mono fun v M1 am1 H1 rm1 f1 p1 x rx => ?_⟩
  by_cases hk : kindM m M1 v = true
  · rw [if_pos hk] at p1
    refine ⟨by rw [ck.K]; exact kindM_ty rm1 rx hk, ?_⟩
    change Po k ex am1 M1 H1 E (match mtV m M1 v [] with | some (z, M3) => .ok z M3 | none => .no) (okV k ex Q) at p1
    cases hm : mtV m M1 v [] with
    | none => rw [hm] at p1; exact p1.elim
    | some zz =>
      obtain ⟨z, M3⟩ := zz
      rw [hm] at p1
      exact ⟨ex, am1, M1, v, [], z, M3, rm1, rx, rfl, hm, fun am' H' u rm' f' ru => p1 am' H' rm' f' u ru⟩
  · rw [if_neg hk] at p1; exact p1.elim

/-! ### each method -/
theorem rvs1 {K : Kf} {H : Hp} {av : Addr → Prop} {am : List Addr} {v : Val} {xs : List V} (h : RVs K H av am [v] xs) : ∃ x, xs = [x] ∧ RV K H av am v x := by
  obtain ⟨x, t, rfl, h1, h2⟩ := h
  cases h2
  exact ⟨x, rfl, h1⟩
theorem rvs2 {K : Kf} {H : Hp} {av : Addr → Prop} {am : List Addr} {v w : Val} {xs : List V} (h : RVs K H av am [v, w] xs) : ∃ x y, xs = [x, y] ∧ RV K H av am v x ∧ RV K H av am w y := by
  obtain ⟨x, t, rfl, h1, h2⟩ := h
  obtain ⟨y, rfl, h3⟩ := rvs1 h2
  exact ⟨x, y, rfl, h1, h3⟩
theorem onL_some {α : Type} {M : Mem} {w : Val} {F : Nat → List D → Option α} {z : α} (h : onL M w F = some z) : ∃ i xs, w = .ref i ∧ M[i]? = some (.lst xs) ∧ F i xs = some z := by
  cases w with
  | d _ => cases h
  | ref i =>
    unfold onL at h
    dsimp only at h
    cases hm : M[i]? with
    | none => rw [hm] at h; cases h
    | some ob =>
      cases ob with
      | lst xs => rw [hm] at h; exact ⟨i, xs, rfl, hm, h⟩
      | _ => rw [hm] at h; cases h
theorem vD_some {α : Type} {f : D → Option α} {v : Val} {z : α} (h : vD f v = some z) : ∃ x, v = .d x ∧ f x = some z := by
  cases v with
  | d x => exact ⟨x, rfl, h⟩
  | ref _ => cases h
theorem v0_some {α : Type} {y : Option α} {vs : List Val} {z : α} (h : v0 y vs = some z) : vs = [] ∧ y = some z := by
  cases vs with
  | nil => exact ⟨rfl, h⟩
  | cons _ _ => cases h
theorem v2_some {α : Type} {f : Val → Val → Option α} {vs : List Val} {z : α} (h : v2 f vs = some z) : ∃ x y, vs = [x, y] ∧ f x y = some z := by
  cases vs with
  | nil => cases h
  | cons x r =>
    obtain ⟨y, rfl, h⟩ := v1_some (show v1 (f x) r = some z from h)
    exact ⟨x, y, rfl, h⟩
theorem oB_some {α : Type} {b : Bool} {y : Option α} {z : α} (h : oB b y = some z) : b = true ∧ y = some z := by
  cases b with
  | true => exact ⟨rfl, h⟩
  | false => cases h
theorem dTup_some {α : Type} {f : List D → Option α} {d : D} {z : α} (h : dTup f d = some z) : ∃ i, d = .tuple i ∧ f i = some z := by
  cases d <;> first | exact ⟨_, rfl, h⟩ | cases h
theorem m_append : MtR X "list.append" (rM k .append) := by
  intro pins s σ H x xs v us Q I rx rv ⟨ex, am, M, vo, vs, z, M', rm, ro, rvs, hm, q⟩
  obtain ⟨i, ys, rfl, hmi, hm⟩ := onL_some hm
  obtain ⟨v1, rfl, hm⟩ := v1_some hm
  obtain ⟨y, rfl, hm⟩ := vD_some hm
  obtain ⟨hl, hm⟩ := oB_some hm
  have hl := of_decide_eq_true hl
  cases hm
  obtain ⟨p, hp, rfl⟩ := ro
  obtain ⟨w, rfl, rw_⟩ := rvs1 rvs
  obtain ⟨ws, hH, r⟩ := rm.obj i _ p hmi hp
  have mu := rm.mut (ob' := .lst (ys ++ [y])) (o := .lst (ws ++ [w])) hmi hp rfl rfl fun H' av' g hh => ⟨_, hh, (g.rs _ _ r).append ⟨w, [], rfl, g.r _ _ rw_, rfl⟩⟩
  exact mt_append pins s σ H _ _ v us Q I rx rv ⟨p, ws, w, rfl, rfl, hH, by rw [← r.length]; exact lim_lt hl, q am _ _ mu.1 mu.2 rfl⟩
theorem Rs.dropLast {K : Kf} {H : Hp} {av : Addr → Prop} {ds : List D} {vs : List V} (h : Rs K H av ds vs) : Rs K H av ds.dropLast vs.dropLast := by
  rw [List.dropLast_eq_take, List.dropLast_eq_take, ← h.length]
  exact h.take _
theorem Rs.eraseIdx {K : Kf} {H : Hp} {av : Addr → Prop} {ds : List D} {vs : List V} (n : Nat) (h : Rs K H av ds vs) : Rs K H av (ds.eraseIdx n) (vs.eraseIdx n) := by
  rw [List.eraseIdx_eq_take_drop_succ, List.eraseIdx_eq_take_drop_succ]
  exact (h.take _).append (h.drop _)
theorem m_pop0 : MtR X "list.pop" (rM k .pop0) := by
  intro pins s σ H x xs v us Q I rx rv ⟨ex, am, M, vo, vs, z, M', rm, ro, rvs, hm, q⟩
  obtain ⟨i, ys, rfl, hmi, hm⟩ := onL_some hm
  obtain ⟨rfl, hm⟩ := v0_some hm
  obtain ⟨y, hy, hm⟩ := Option.map_eq_some_iff.mp hm
  cases hm
  obtain ⟨p, hp, rfl⟩ := ro
  cases (show xs = [] from rvs)
  obtain ⟨ws, hH, r⟩ := rm.obj i _ p hmi hp
  obtain ⟨w, hw, rw_⟩ := r.get hy
  have mu := rm.mut (ob' := .lst ys.dropLast) (o := .lst ws.dropLast) hmi hp rfl rfl fun H' av' g hh => ⟨_, hh, (g.rs _ _ r).dropLast⟩
  exact mt_pop pins s σ H _ _ v us Q I rx rv ⟨p, ws, w, rfl, rfl, hH, by rw [← r.length]; exact hw, q am _ _ mu.1 mu.2 (RV.step (v := .d y) rw_ rm mu.2)⟩
theorem m_popAt : MtR X "list.pop" (rM k .popAt) := by
  intro pins s σ H x xs v us Q I rx rv ⟨ex, am, M, vo, vs, z, M', rm, ro, rvs, hm, q⟩
  obtain ⟨i, ys, rfl, hmi, hm⟩ := onL_some hm
  obtain ⟨v1, rfl, hm⟩ := v1_some hm
  obtain ⟨y, rfl, hm⟩ := vD_some hm
  obtain ⟨j, rfl, hm⟩ := dInt_some hm
  obtain ⟨hj, hm⟩ := oB_some hm
  have hj := of_decide_eq_true hj
  obtain ⟨n, hn, hm⟩ := Option.bind_eq_some_iff.mp hm
  obtain ⟨y, hy, hm⟩ := Option.map_eq_some_iff.mp hm
  cases hm
  obtain ⟨p, hp, rfl⟩ := ro
  obtain ⟨wj, rfl, rj⟩ := rvs1 rvs
  cases (show wj = .int j from rj)
  obtain ⟨ws, hH, r⟩ := rm.obj i _ p hmi hp
  obtain ⟨w, hw, rw_⟩ := r.get hy
  have mu := rm.mut (ob' := .lst (ys.eraseIdx n)) (o := .lst (ws.eraseIdx n)) hmi hp rfl rfl fun H' av' g hh => ⟨_, hh, (g.rs _ _ r).eraseIdx n⟩
  exact mt_popAt pins s σ H _ _ v us Q I rx rv ⟨p, ws, j, n, w, rfl, rfl, hH, hj.1, hj.2, by rw [← r.length]; exact hn, hw, q am _ _ mu.1 mu.2 (RV.step (v := .d y) rw_ rm mu.2)⟩
theorem m_insert : MtR X "list.insert" (rM k .insert) := by
  intro pins s σ H x xs v us Q I rx rv ⟨ex, am, M, vo, vs, z, M', rm, ro, rvs, hm, q⟩
  obtain ⟨i, ys, rfl, hmi, hm⟩ := onL_some hm
  obtain ⟨va, vb, rfl, hm⟩ := v2_some hm
  obtain ⟨ya, rfl, hm⟩ := vD_some hm
  obtain ⟨j, rfl, hm⟩ := dInt_some hm
  obtain ⟨y, rfl, hm⟩ := vD_some hm
  obtain ⟨hj, hm⟩ := oB_some hm
  have hj := of_decide_eq_true hj
  cases hm
  obtain ⟨p, hp, rfl⟩ := ro
  obtain ⟨wj, w, rfl, rj, rw_⟩ := rvs2 rvs
  cases (show wj = .int j from rj)
  obtain ⟨ws, hH, r⟩ := rm.obj i _ p hmi hp
  have mu := rm.mut (ob' := .lst (ys.take j.toNat ++ [y] ++ ys.drop j.toNat)) (o := .lst (ws.take j.toNat ++ [w] ++ ws.drop j.toNat)) hmi hp rfl rfl fun H' av' g hh =>
    ⟨_, hh, (((g.rs _ _ r).take _).append (show Rs k.K H' av' [y] [w] from ⟨w, [], rfl, g.r _ _ rw_, rfl⟩)).append ((g.rs _ _ r).drop _)⟩
  have hl := lim_lt hj.2.2
  have h63 : (sizeLine : Nat) < 2 ^ 63 := line63
  exact mt_insert pins s σ H _ _ v us Q I rx rv ⟨p, ws, j, w, rfl, rfl, hH, by rw [← r.length]; exact hl, hj.1, by omega, q am _ _ mu.1 mu.2 rfl⟩
theorem m_extend : MtR X "list.extend" (rM k .extend) := by
  intro pins s σ H x xs v us Q I rx rv ⟨ex, am, M, vo, vs, z, M', rm, ro, rvs, hm, q⟩
  obtain ⟨i, ys, rfl, hmi, hm⟩ := onL_some hm
  obtain ⟨v1, rfl, hm⟩ := v1_some hm
  obtain ⟨y0, rfl, hm⟩ := vD_some hm
  obtain ⟨y, rfl, hm⟩ := dList_some hm
  obtain ⟨hl, hm⟩ := oB_some hm
  have hl := of_decide_eq_true hl
  cases hm
  obtain ⟨p, hp, rfl⟩ := ro
  obtain ⟨w, rfl, rw_⟩ := rvs1 rvs
  obtain ⟨qa, us2, rfl, hq, _, ru⟩ := rw_
  obtain ⟨ws, hH, r⟩ := rm.obj i _ p hmi hp
  have mu := rm.mut (ob' := .lst (ys ++ y)) (o := .lst (ws ++ us2)) hmi hp rfl rfl fun H' av' g hh => ⟨_, hh, (g.rs _ _ r).append (g.rs _ _ ru)⟩
  exact mt_extend pins s σ H _ _ v us Q I rx rv ⟨p, qa, ws, us2, rfl, rfl, hH, hq, by rw [← r.length, ← ru.length]; exact lim_size hl, q am _ _ mu.1 mu.2 rfl⟩
theorem indexD_spec {x : D} : ∀ {ds : List D} {n m : Nat}, indexD x ds n = some m → ∃ j z, m = n + j ∧ ds[j]? = some z ∧ PyData.eqv z x = true ∧ ∀ (i : Nat) (z' : D), i < j → ds[i]? = some z' → PyData.eqv z' x = false
  | [], _, _, h => by cases h
  | d :: ds, n, m, h => by
    unfold indexD at h
    split at h
    · rename_i e
      cases h
      exact ⟨0, d, rfl, rfl, e, fun i _ hi => absurd hi (Nat.not_lt_zero _)⟩
    · rename_i e
      obtain ⟨j, z, h1, h2, h3, h4⟩ := indexD_spec h
      refine ⟨j + 1, z, by omega, by simpa using h2, h3, fun i z' hi hz => ?_⟩
      cases i with
      | zero => simp at hz; subst hz; simpa using e
      | succ i => exact h4 i z' (by omega) (by simpa using hz)
theorem m_index (ck : Ck k X) : MtR X "list.index" (rM k .index) := by
  intro pins s σ H x xs v us Q I rx rv ⟨ex, am, M, vo, vs, z, M', rm, ro, rvs, hm, q⟩
  obtain ⟨d0, rfl, hm⟩ := vD_some hm
  obtain ⟨ys, rfl, hm⟩ := dList_some hm
  obtain ⟨v1, rfl, hm⟩ := v1_some hm
  obtain ⟨y, rfl, hm⟩ := vD_some hm
  obtain ⟨hc, hm⟩ := oB_some hm
  obtain ⟨n, hi, hm⟩ := Option.map_eq_some_iff.mp hm
  cases hm
  obtain ⟨w, rfl, rw_⟩ := rvs1 rvs
  obtain ⟨j, zz, e, h1, h2, h3⟩ := indexD_spec hi
  rw [Nat.zero_add] at e
  subst e
  by_cases hfl : (flatD y && ys.all flatD) = true
  · rw [Bool.and_eq_true] at hfl
    obtain ⟨p, ws, rfl, hp, _, r⟩ := ro
    obtain ⟨vz, hvz, rz⟩ := r.get h1
    have fz : ∀ {i : Nat} {z' : D}, ys[i]? = some z' → flatD z' = true := fun h => List.all_eq_true.mp hfl.2 _ (List.mem_of_getElem? h)
    refine mt_index pins s σ H _ _ v us Q I rx rv ⟨p, ws, w, n, vz, rfl, rfl, .inl (.inl hp), flat_R rw_ hfl.1, all_flat r hfl.2, hvz, by rw [eq_R rz rw_ (fz h1) hfl.1]; exact h2, fun i z' hi hz => ?_, q am H _ rm F.refl rfl⟩
    have hil : i < ys.length := by rw [r.length]; exact (List.getElem?_eq_some_iff.mp hz).1
    obtain ⟨v', hv', r'⟩ := r.get (List.getElem?_eq_getElem hil)
    rw [hz] at hv'
    cases hv'
    rw [eq_R r' rw_ (fz (List.getElem?_eq_getElem hil)) hfl.1]
    exact h3 i _ hi (List.getElem?_eq_getElem hil)
  · have hsh : (SeqAt.shaped y && SeqAt.shaped (.list ys)) = true := by
      rcases Bool.or_eq_true _ _ ▸ hc with hc | hc
      · exact absurd hc hfl
      · exact hc
    rw [Bool.and_eq_true] at hsh
    have dp1 : Dp X.K H x (.list ys) := by rw [ck.K]; exact R.dp _ _ ro
    have dp2 : Dp X.K H w y := by rw [ck.K]; exact R.dp _ _ rw_
    obtain ⟨p, ws, rfl, hp, _, r⟩ := ro
    exact mt_indexD (by have := ck.hu; omega) pins s σ H _ _ v us Q I rx rv ⟨p, w, y, ys, n, zz, rfl, rfl, dp1, dp2, hsh.2, hsh.1, h1, h2, h3, q am H _ rm F.refl rfl⟩
theorem m_indexT (ck : Ck k X) : MtR X "tuple.index" (rM k .indexT) := by
  intro pins s σ H x xs v us Q I rx rv ⟨ex, am, M, vo, vs, z, M', rm, ro, rvs, hm, q⟩
  obtain ⟨d0, rfl, hm⟩ := vD_some hm
  obtain ⟨ys, rfl, hm⟩ := dTup_some hm
  obtain ⟨v1, rfl, hm⟩ := v1_some hm
  obtain ⟨y, rfl, hm⟩ := vD_some hm
  obtain ⟨hfl, hm⟩ := oB_some hm
  obtain ⟨n, hi, hm⟩ := Option.map_eq_some_iff.mp hm
  cases hm
  obtain ⟨w, rfl, rw_⟩ := rvs1 rvs
  obtain ⟨j, zz, e, h1, h2, h3⟩ := indexD_spec hi
  rw [Nat.zero_add] at e
  subst e
  rw [Bool.and_eq_true] at hfl
  obtain ⟨p, ws, rfl, hp, r⟩ := ro
  obtain ⟨vz, hvz, rz⟩ := r.get h1
  have fz : ∀ {i : Nat} {z' : D}, ys[i]? = some z' → flatD z' = true := fun h => List.all_eq_true.mp hfl.2 _ (List.mem_of_getElem? h)
  refine mt_indexT pins s σ H _ _ v us Q I rx rv ⟨p, ws, w, n, vz, rfl, rfl, by rw [ck.K]; exact hp.sq, flat_R rw_ hfl.1, all_flat r hfl.2, hvz, by rw [eq_R rz rw_ (fz h1) hfl.1]; exact h2, fun i z' hi hz => ?_, q am H _ rm F.refl rfl⟩
  have hil : i < ys.length := by rw [r.length]; exact (List.getElem?_eq_some_iff.mp hz).1
  obtain ⟨v', hv', r'⟩ := r.get (List.getElem?_eq_getElem hil)
  rw [hz] at hv'
  cases hv'
  rw [eq_R r' rw_ (fz (List.getElem?_eq_getElem hil)) hfl.1]
  exact h3 i _ hi (List.getElem?_eq_getElem hil)
end
end Mp
end
section
set_option maxHeartbeats 4000000
/-! Dicts with tuples as keys: stores, a display; sorted. -/
namespace Mp
open PySem PySem.Spec PyProof.Rows L2

section
variable {X : Cx} {k : Kx} {E : XK} {e a b c o tg : Expr} {es : List Expr} {pos p0 p1 p apos cpos : Pos} {f g h : SF} {A : SA} {u v : SS}

/-! ### dicts -/
theorem RD.length {K : Kf} {H : Hp} {av : Addr → Prop} : ∀ {kvs : List (NestedKey × D)} {xs : List (NestedKey × Addr × V)}, RD K H av kvs xs → kvs.length = xs.length
  | [], _, h => by cases (show _ = [] from h); rfl
  | x :: kvs, _, h => by
    obtain ⟨q, v, r, e, _, _, _, h2⟩ := h
    subst e
    simp [RD.length h2]
def putN (xs : List (NestedKey × Addr × V)) (q : NestedKey) (b : Addr) (v : V) : List (NestedKey × Addr × V) :=
  if (atN xs q).isSome then xs.map fun x => if x.1 = q then (x.1, x.2.1, v) else x else xs ++ [(q, b, v)]
abbrev PN := Paired (fun (x : NestedKey × Addr × V) (u : NestedKey × Addr × Value) => x.1 = u.1 ∧ x.2.1 = u.2.1 ∧ RelV x.2.2 u.2.2)
theorem PN.put {q : NestedKey} {b : Addr} {v : V} {r : Value} (rv : RelV v r) : ∀ {xs : List (NestedKey × Addr × V)} {us : List (NestedKey × Addr × Value)}, PN xs us → PN (putN xs q b v) (storedH us q b r) := by
  intro xs us pr
  have rep : ∀ {xs : List (NestedKey × Addr × V)} {us : List (NestedKey × Addr × Value)}, PN xs us → PN (xs.map fun x => if x.1 = q then (x.1, x.2.1, v) else x) (us.map (putAt q r)) := by
    intro xs us pr
    induction pr with
    | nil => exact .nil
    | cons p pr ih =>
      rename_i x u xs us
      obtain ⟨p1, p2, p3⟩ := p
      rw [List.map_cons, List.map_cons]
      refine .cons ?_ ih
      unfold putAt
      by_cases e : x.1 = q
      · have e' : u.1 = q := by rw [← p1]; exact e
        rw [if_pos e, if_pos e']
        exact ⟨p1, p2, rv⟩
      · have e' : ¬ u.1 = q := by rw [← p1]; exact e
        rw [if_neg e, if_neg e']
        exact ⟨p1, p2, p3⟩
  have app : ∀ {xs : List (NestedKey × Addr × V)} {us : List (NestedKey × Addr × Value)}, PN xs us → PN (xs ++ [(q, b, v)]) (us ++ [(q, b, r)]) := by
    intro xs us pr
    induction pr with
    | nil => exact .cons ⟨rfl, rfl, rv⟩ .nil
    | cons p pr ih => exact .cons p ih
  unfold putN storedH
  rw [(atN_key pr q).1]
  split
  · exact rep pr
  · exact app pr
theorem PN.keys {xs : List (NestedKey × Addr × V)} {us : List (NestedKey × Addr × Value)} (pr : PN xs us) : us.map (·.1) = xs.map (·.1) := by
  induction pr with
  | nil => rfl
  | cons p _ ih => rw [List.map_cons, List.map_cons, ih, p.1]
theorem putN_len {xs : List (NestedKey × Addr × V)} {q : NestedKey} {b : Addr} {v : V} : (putN xs q b v).length ≤ xs.length + 1 := by
  unfold putN
  split <;> simp
theorem RD.put {K : Kf} {H : Hp} {av : Addr → Prop} {q : NestedKey} {b : Addr} {v : V} {z : D} (hd : q.depth ≤ 8) (rq : R K H av q.data (.ref b)) (rz : R K H av z v) {kvs : List (NestedKey × D)} {xs : List (NestedKey × Addr × V)} (r : RD K H av kvs xs) : RD K H av (dPut kvs q z) (putN xs q b v) := by
  have rep : ∀ {kvs : List (NestedKey × D)} {xs : List (NestedKey × Addr × V)}, RD K H av kvs xs → RD K H av (kvs.map fun kv => if kv.1 = q then (kv.1, z) else kv) (xs.map fun x => if x.1 = q then (x.1, x.2.1, v) else x) := by
    intro kvs
    induction kvs with
    | nil => intro xs h; cases (show xs = [] from h); rfl
    | cons x kvs ih =>
      intro xs h
      obtain ⟨a, w, t, rfl, h1, h2, h3, h4⟩ := h
      by_cases e : x.1 = q
      · exact ⟨a, v, _, by simp [e], by simp [e]; exact hd, by simp [e]; rw [← e]; exact h2, by simp [e]; exact rz, ih h4⟩
      · exact ⟨a, w, _, by simp [e], by simp [e]; exact h1, by simp [e]; exact h2, by simp [e]; exact h3, ih h4⟩
  have app : ∀ {kvs : List (NestedKey × D)} {xs : List (NestedKey × Addr × V)}, RD K H av kvs xs → RD K H av (kvs ++ [(q, z)]) (xs ++ [(q, b, v)]) := by
    intro kvs
    induction kvs with
    | nil => intro xs h; cases (show xs = [] from h); exact ⟨b, v, [], rfl, hd, rq, rz, rfl⟩
    | cons x kvs ih =>
      intro xs h
      obtain ⟨a, w, t, rfl, h1, h2, h3, h4⟩ := h
      exact ⟨a, w, _, rfl, h1, h2, h3, ih h4⟩
  have e : (kvs.any fun kv => decide (kv.1 = q)) = (atN xs q).isSome := by
    rw [← (r.get q).1]
    unfold dGet
    rw [Option.isSome_map]
    have : ∀ (l : List (NestedKey × D)), (l.any fun kv => decide (kv.1 = q)) = (l.find? fun kv => decide (kv.1 = q)).isSome := by
      intro l
      induction l with
      | nil => rfl
      | cons x l ih =>
        by_cases e : x.1 = q
        · simp [e]
        · simp [e]; exact ih
    exact this kvs
  unfold dPut putN
  rw [e]
  split
  · exact rep r
  · exact app r
/-- the dict as it lies, from the library's word -/
theorem dN_ok {K : Kf} {P : Program} {w : World} {H : Hp} {h : Heap} {a : Addr} {xs : List (NestedKey × Addr × V)} {us : List (NestedKey × Addr × Value)} (hP : P = K.P) (hw : w = K.w) (hs : (a == sysModules) = false) (hl : xs.length ≤ sizeLine) (pr : PN xs us) (hm : h.DictOfH (nestedKind P w) a us) : ObjOk P w H h a (dN K a xs) := by
  obtain ⟨o, es, ep, ho, hc, hd, he, his, hn⟩ := hm
  refine ⟨⟨hs, hl, by rw [← PN.keys pr]; exact hn, us, pr, o, es, ep, ho, hc, hd, by rw [← hP, ← hw]; exact he⟩, ⟨o, ho⟩, fun h1 h2 hφ hk => ?_⟩
  obtain ⟨c1, c2, c3, us', pr', o', es', ep', ho', hc', hd', he'⟩ := hφ
  exact ⟨c1, c2, c3, us', pr', o', es', ep', hk o' ho', hc', hd', he'⟩
theorem n_set (ck : Ck k X) {pins : List (Addr × Obj)} {s : Shared} {σ : L2.St} {H : Hp} {a : Addr} {d z : D} {q : NestedKey} {y v : V} {u r : Value} {Q : Unit → Shared → Prop} {kvs : List (NestedKey × D)} {xs : List (NestedKey × Addr × V)} {av : Addr → Prop} (I : Inv X pins σ H s)
    (hp : H a = some (dN k.K a xs)) (hr : RD k.K H av kvs xs) (hq : nkT d = some q) (ry : R k.K H av d y) (rv : RelV y u) (rz : R k.K H av z v) (rr : RelV v r) (hl : kvs.length < lim)
    (hQ : ∀ s' xs', Inv X pins σ (upd H a (dN k.K a xs')) s' → (∀ H' av', Agr k.K H av H' av' → RD k.K H' av' (dPut kvs q z) xs') → Q () s') : wpAny (model X.prog X.w) X.A (setItem (.ref a) u r) Q X.xe s := by
  obtain ⟨h1, h2, _, us, pr, hm⟩ := dict_at ck.K ck.P ck.w I hp hr
  obtain ⟨e1, e2⟩ := nkT_data hq
  have hn := nest_is ck.K I q y u (by rw [e1]; exact ry) rv
  obtain ⟨b, rfl⟩ : ∃ b, y = .ref b := by
    cases d with
    | tuple xs => obtain ⟨b, _, e, _⟩ := ry; exact ⟨b, e⟩
    | _ => cases hq
  cases rv
  have hul : us.length = xs.length := by have := congrArg List.length (PN.keys pr); simpa using this
  refine wpAny_setItem_heap (room8 ck.hu) ⟨hn, e2⟩ hm (fun h' hm' sb => ?_) (by rw [hul]; exact h2)
  refine hQ _ (putN xs q b v) (I.write (t' := s.toks + (nestedKind X.prog X.w).draws q) (x := a) (e := a) (by rw [hp]; exact trivial) (.inl rfl) (fun b o hb e => (sb.2 b hb).trans e) (let ⟨o, _, _, ho, _⟩ := hm'; ⟨o, ho⟩) (dN_ok ck.P ck.w h1 ?_ (PN.put rr pr) hm')) fun H' av' g => ?_
  · have := putN_len (xs := xs) (q := q) (b := b) (v := v)
    have := hr.length
    have := lim_lt hl
    omega
  · exact (g.rd _ _ hr).put e2 (g.r _ _ (by rw [e1]; exact ry)) (g.r _ _ rz)
theorem set_ok (ck : Ck k X) : PSet X (rSet k) := set_all ck fun I hp hr hq ry rv rz rr hl hQ => n_set ck I hp hr hq ry rv rz rr hl hQ
theorem se_dnwK : SE X k E (.Dict [] [] pos) (sDnw false) :=
  PE.imp pe_dnewK fun σ H Q ⟨ex, am, env, M, rm, re, p⟩ => by
    intro q hq
    have al := rm.alloc (o := .dK []) (ob := .dK []) hq rfl fun H' av' am' g _ hs => ⟨[], hs, rfl⟩
    refine p _ _ al.1 al.2 _ ⟨q, ?_, rfl⟩
    rw [← rm.len]
    simp
theorem dictOfH_new {P : Program} {w : World} (h : Heap) : (h.push { cls := .type "dict", data := .dict #[] }).DictOfH (nestedKind P w) h.objs.size [] :=
  ⟨_, #[], 0, Heap.get?_push_size _ rfl, ⟨rfl, rfl, rfl⟩, rfl, rfl, fun x hx => by simp at hx, List.nodup_nil⟩
theorem pe_dnewN (ck : Ck k X) : PE X (.Dict [] [] pos) (fun _ H Q => ∀ p, H p = none → Q (.ref p) (upd H p (dN k.K p []))) := ⟨fun pins s σ H Q I h =>
  wpAny_Dict_empty ⟨.ref s.heap.objs.size, _, I.laid (a := s.heap.objs.size) (o := dN k.K s.heap.objs.size []) (t' := s.toks) (fun _ _ q => Heap.get?_push_of_some _ q) (Nat.le_refl _)
    (dN_ok ck.P ck.w (beq_eq_false_iff_ne.mpr (Nat.ne_of_gt I.big)) (Nat.zero_le _) .nil (dictOfH_new _)), rfl, h _ (I.hok.fresh (Nat.le_refl _))⟩⟩
theorem se_dnwT (ck : Ck k X) : SE X k E (.Dict [] [] pos) (sDnw true) :=
  PE.imp (pe_dnewN ck) fun σ H Q ⟨ex, am, env, M, rm, re, p⟩ => by
    intro q hq
    have al := rm.alloc (o := dN k.K q []) (ob := .dT []) hq rfl fun H' av' am' g _ hs => ⟨[], hs, rfl⟩
    refine p _ _ al.1 al.2 _ ⟨q, ?_, rfl⟩
    rw [← rm.len]
    simp
theorem upd_upd {H : Hp} {p : Addr} {o o' : HO} : upd (upd H p o) p o' = upd H p o' := by
  funext b
  by_cases e : b = p
  · subst e; rw [upd_same, upd_same]
  · rw [upd_ne e, upd_ne e, upd_ne e]
theorem dict_pairs {prog : Program} {w : World} {κ : Type} [DecidableEq κ] {knd : HeapKind prog w κ} {A : Around} {E : Value → Shared → Prop} {s : Shared} {env : PySem.Env} {keys : List (Option Expr)} {values : List Expr} {pos : Pos} {pairs : List (Sem Value × Sem Value)} {Q : Value → Shared → Prop} (hu : knd.room A)
    (hshape : (evalEachOpt keys env).zip ((evalEach values env).map fun v => do let x ← v; standAt pos; pure x) = pairs.map fun p => (some p.1, p.2)) (h0 : pairs ≠ []) (hlen : pairs.length ≤ 15)
    (h : wpAny (model prog w) A (evalPairs pairs) (fun vs s₁ => ∃ ps, CarriesH knd s₁.heap vs ps ∧ s₁.heap.DictOfH knd s.heap.objs.size [] ∧
      ∀ h' tk, h'.DictOfH knd s.heap.objs.size (storedAllH [] ps) → Heap.SameBut s.heap.objs.size s₁.heap h' → Q (.ref s.heap.objs.size) { s₁ with heap := h', toks := tk }) E
      { s with heap := s.heap.push { cls := .type "dict", data := .dict #[] } }) :
    wpAny (model prog w) A (eval (.Dict keys values pos) env) Q E s := by
  rw [arm_eval_Dict, hshape, dictDisplay_pairs pairs h0 (by omega)]
  exact wpAny_bind (wpAny_standAt (wpAny_bind (wpAny_subDictH (knd := knd) (Q := fun d s' => wpAny (model prog w) A (pure (Value.ref d)) Q E s') hu hlen
    (wpAny_mono h (fun vs s₁ h₁ => by obtain ⟨ps, hc, hm, hq⟩ := h₁; exact ⟨ps, hc, hm, fun h' tk a b => wpAny_pure (hq h' tk a b)⟩) fun _ _ e => e))))
/-- {x: True}, x a name -/
theorem se_ddsp {i : Nat} {x : Str} {t : Bool} {j : Nat} (ck : Ck k X) (hN : X.N[i]? = some x) (hv : Vis X.env.scope x) (hd : (x == ("__debug__" : Str)) = false) (hcd : (x == ("__classdict__" : Str)) = false) :
    SE X k E (.Dict [some (.Name x p0)] [.Constant (.bool t) j p1] pos) (sDdsp (sVar i) (sCon (.bool t))) := by
  refine ⟨fun pins s σ H Q I ⟨ex, am, env, M, rm, re, p⟩ => ?_⟩
  have hn := I.hok.fresh (Nat.le_refl s.heap.objs.size)
  have hsm : (s.heap.objs.size == sysModules) = false := beq_eq_false_iff_ne.mpr (Nat.ne_of_gt I.big)
  cases hg : getE env i with
  | none =>
    have pp : Po k ex am M H E (Res.bind (ofO (getE env i) M) fun v M1 => (sCon (.bool t) env M1).bind fun w M2 => match v, w with
      | .d x, .d y => match nkT x with
        | some ks => .ok (.ref M2.length) (M2 ++ [.dT [(ks, y)]])
        | none => .no
      | _, _ => .no) (okV k ex Q) := p
    rw [hg] at pp
    exact pp.elim
  | some vv =>
    have pp : Po k ex am M H E (match vv, Val.d (.bool t) with
      | .d x, .d y => match nkT x with
        | some ks => .ok (.ref M.length) (M ++ [.dT [(ks, y)]])
        | none => .no
      | _, _ => .no) (okV k ex Q) := by
      have pp : Po k ex am M H E (Res.bind (ofO (getE env i) M) fun v M1 => (sCon (.bool t) env M1).bind fun w M2 => match v, w with
        | .d x, .d y => match nkT x with
          | some ks => .ok (.ref M2.length) (M2 ++ [.dT [(ks, y)]])
          | none => .no
        | _, _ => .no) (okV k ex Q) := p
      rw [hg] at pp
      exact pp
    cases vv with
    | ref _ => exact pp.elim
    | d d =>
      dsimp only at pp
      cases hk : nkT d with
      | none => rw [hk] at pp; exact pp.elim
      | some ks =>
        rw [hk] at pp
        obtain ⟨e1, e2⟩ := nkT_data hk
        obtain ⟨y, hy, ry⟩ := re.2 i _ hg
        have I1 := I.laid (a := s.heap.objs.size) (o := dN k.K s.heap.objs.size []) (h' := s.heap.push { cls := .type "dict", data := .dict #[] }) (t' := s.toks) (fun _ _ q => Heap.get?_push_of_some _ q) (Nat.le_refl _)
          (dN_ok ck.P ck.w hsm (Nat.zero_le _) .nil (dictOfH_new _))
        refine dict_pairs (knd := nestedKind X.prog X.w) (pairs := pairTrees [some (.Name x p0)] [.Constant (.bool t) j p1] X.env pos) (by show X.A.units + 8 < cLine; have := ck.hu; omega) rfl (by intro z; cases z) (show 1 ≤ 15 by decide) ?_
        refine thn ((pps_cons (pe_var hN hv hd hcd) pe_bl pps_nil).run pins _ σ _ (fun ps H2 => ps = [(y, .bl t)] ∧ H2 = upd H s.heap.objs.size (dN k.K s.heap.objs.size [])) I1 ⟨y, hy, rfl, rfl⟩) fun ws s2 ⟨ps, H2, I2, rel, ep, eH⟩ => ?_
        subst ep eH
        obtain ⟨w1, w2, rfl, r1, r2⟩ : ∃ w1 w2, ws = [(w1, w2)] ∧ RelV y w1 ∧ RelV (.bl t) w2 := by
          cases rel with
          | cons rel1 relr => cases relr; exact ⟨_, _, rfl, rel1.1, rel1.2⟩
        obtain ⟨b, rfl⟩ : ∃ b, y = .ref b := by
          cases d with
          | tuple xs => obtain ⟨b, _, e, _⟩ := ry; exact ⟨b, e⟩
          | _ => cases hk
        cases (show w1 = Value.ref b from r1)
        have g0 := rm.agr (F.new (am := am) (M := M) (o := dN k.K s.heap.objs.size []) hn)
        have hnest := nest_is ck.K I2 ks (.ref b) (.ref b) (by rw [e1]; exact g0.r _ _ ry) rfl
        obtain ⟨z1, _, _, us0, pr0, hm0⟩ := dict_at ck.K ck.P ck.w I2 (K := k.K) (av := avS ex am M) (kvs := []) (xs := []) upd_same rfl
        cases pr0
        refine ⟨[(ks, b, w2)], ⟨rfl, rfl, ⟨hnest, e2⟩, trivial⟩, hm0, fun h' tk hm' sb => ?_⟩
        have hm1 : h'.DictOfH (nestedKind X.prog X.w) s.heap.objs.size [(ks, b, w2)] := hm'
        have nw := dN_ok (H := upd (upd H s.heap.objs.size (dN k.K s.heap.objs.size [])) s.heap.objs.size (dN k.K s.heap.objs.size [(ks, b, .bl t)])) ck.P ck.w hsm (show ([(ks, b, V.bl t)] : List (NestedKey × Addr × V)).length ≤ sizeLine by rw [sizeLine_eq]; show 1 ≤ 16777216; decide) (.cons ⟨rfl, rfl, r2⟩ .nil) hm1
        have I3 := I2.write (t' := tk) (x := s.heap.objs.size) (e := s.heap.objs.size) (by rw [upd_same]; exact trivial) (.inl rfl) (fun b o hb e => (sb.2 b hb).trans e) (let ⟨o, _, _, ho, _⟩ := hm1; ⟨o, ho⟩) nw
        rw [upd_upd] at I3
        have al := rm.alloc (o := dN k.K s.heap.objs.size [(ks, b, .bl t)]) (ob := .dT [(ks, .bool t)]) hn rfl fun H' av' am' g _ hs => ⟨[(ks, b, .bl t)], hs, b, .bl t, [], rfl, e2, g.r _ _ (by rw [e1]; exact ry), rfl, rfl⟩
        exact ⟨.ref s.heap.objs.size, _, I3, rfl, pp _ _ al.1 al.2 _ ⟨_, by rw [← rm.len]; simp, rfl⟩⟩
end
end Mp
end
section
set_option maxHeartbeats 4000000
/-! Tuples with nothing in them can be sorted, however many. -/
namespace Mp
open PySem PySem.Spec PyProof.Rows L2
section
open PySem.SeqAt
theorem tup_lt_call {prog : Program} {w : World} {A : Around} {s : Shared} {E : Value → Shared → Prop} {Q : Value → Shared → Prop} {l b : Addr} (hl : s.heap.IsTuple l #[]) (hb : s.heap.IsTuple b #[])
    (h : Q (.bool false) s) : wpAny (model prog w) A (call (.builtin "tuple.__lt__") [.ref l, .ref b]) Q E s := by
  obtain ⟨⟨k1, x1, y1, z1⟩, g1, c1, n1, d1⟩ := id hl
  obtain ⟨⟨k2, x2, y2, z2⟩, g2, c2, n2, d2⟩ := id hb
  simp only at c1 d1 c2 d2
  subst c1 d1 c2 d2
  exact call_meets F.slot_tuple_lt ⟨_, g1, rfl⟩ F.entry_tuple_lt (F.args_tuple_lt_2 _ _) (tuple_ltAt l b #[] #[] n1 n2 x1 x2 z1 z2 (fun _ => false) (fun _ => false)) ⟨g1, g2, fun j h1 _ => absurd h1 (Nat.not_lt_zero _), fun j h1 _ => absurd h1 (Nat.not_lt_zero _), h⟩
theorem tup_firsts {M : Model} {A : Around} {E : Value → Shared → Prop} {s : Shared} : ∀ (vs : List Value) {Q : List (Option Value) → Shared → Prop}, (∀ v ∈ vs, ∃ a, v = .ref a ∧ s.heap.IsTuple a #[]) → Q (vs.map fun _ => none) s → wpAny M A (vs.mapM firstOfTuple') Q E s
  | [], _, _, h => by rw [List.mapM_nil]; exact wpAny_pure h
  | v :: vs, Q, hv, h => by
    obtain ⟨a, rfl, ⟨o, ho, hc, n, hd⟩⟩ := hv v (.head _)
    rw [List.mapM_cons]
    refine wpAny_bind ?_
    rw [PySem.W.kas_first_eq]
    refine wpAny_bind (PySem.W.Looks.here (show PySem.W.Looks M s.heap (typeOf (.ref a)) o.cls from (PySem.W.Looks.ld ho).andThen .now) ?_)
    rw [hc, if_neg (by first | decide | simp)]
    refine wpAny_bind (listItems_at ho hd (wpAny_pure ?_))
    exact wpAny_bind (tup_firsts vs (Q := fun bs s' => wpAny M A (pure (none :: bs)) Q E s') (fun u hu => hv u (.tail _ hu)) (wpAny_pure h))
theorem tup_kind0 {M : Model} {A : Around} {E : Value → Shared → Prop} {s : Shared} {vs : List Value} {Q : SortKind → Shared → Prop} (h2 : 2 ≤ vs.length) (hv : ∀ v ∈ vs, ∃ a, v = .ref a ∧ s.heap.IsTuple a #[]) (h : Q oneType' s) :
    wpAny M A (keyKind' vs.toArray) Q E s := by
  obtain ⟨v1, v2, r, rfl⟩ : ∃ v1 v2 r, vs = v1 :: v2 :: r := by
    match vs, h2 with
    | [], h2 => simp at h2
    | [_], h2 => simp at h2
    | v1 :: v2 :: r, _ => exact ⟨v1, v2, r, rfl⟩
  rw [PyProof.Rows.kat_kind_eq, List.mapM_toArray, map_eq_pure_bind]
  refine wpAny_bind (wpAny_bind (tup_firsts _ hv (wpAny_pure ?_)))
  rw [if_neg (by simp), if_neg (by simp)]
  rw [oneTypeOnly'_eq, List.mapM_toArray, map_eq_pure_bind]
  refine wpAny_bind (wpAny_bind (wpAny_bind (PySem.W.kas_mapM (r := Value.type "tuple") _ (fun v hm Q' hq => ?_) (wpAny_pure ?_))))
  · obtain ⟨a, rfl, ⟨o, ho, hc, n, hd⟩⟩ := hv v hm
    refine PySem.W.Looks.here (show PySem.W.Looks M s.heap (typeOf (.ref a)) (Value.type "tuple") from ?_) hq
    rw [← hc]
    exact (PySem.W.Looks.ld ho).andThen .now
  · have e1 : ((List.map (fun _ => Value.type "tuple") (v1 :: v2 :: r)).toArray.all fun x => x == Value.type "tuple") = true := by
      simp only [List.all_toArray, List.all_map, List.all_eq_true]
      intro _ _
      rfl
    have e0 : (List.map (fun _ => Value.type "tuple") (v1 :: v2 :: r)).toArray[0]? = some (Value.type "tuple") := by simp
    rw [e0]
    simp only [e1, if_true]
    exact wpAny_pure (wpAny_pure h)
theorem sorts0 {prog : Program} {w : World} {A : Around} {s : Shared} {vs : List Value} {ds : List D} (e : PySem.W.EachIs (fun v d => ∃ as, Reads s.heap v d as) vs ds) (hal : PySem.W.AllAlike ds) (ht : ∀ d ∈ ds, d = .tuple []) (hu : A.units < cLine) :
    PySem.W.SortsAt prog w A s (PySem.W.dataKind s.heap ds) vs := by
  have hv : ∀ v ∈ vs, ∃ a, v = .ref a ∧ s.heap.IsTuple a #[] := by
    intro v hv
    obtain ⟨d, hd, as, r⟩ := e.left v hv
    rw [ht d hd] at r
    cases r with
    | @tuple l o xs n _ _ h1 h2 h3 h4 =>
      have n1 : xs.size = 0 := by simpa using SeqAt.ReadsAll.length _ _ _ h4
      rw [Array.size_eq_zero_iff.mp n1] at h3
      exact ⟨l, rfl, _, h1, h2, _, h3⟩
  refine ⟨fun v hv => ?_, oneType', ?_, fun h2 E Q hq => tup_kind0 h2 hv hq⟩
  · obtain ⟨d, hd, as, r⟩ := e.left v hv
    exact ⟨_, PySem.W.dataKind_some hal hd r⟩
  · intro E x y a b Q ha hb hq
    obtain ⟨d, as, hd, ra, rfl⟩ := PySem.W.dataKind_inv ha
    obtain ⟨d', as', hd', rb, rfl⟩ := PySem.W.dataKind_inv hb
    have e1 := ht d hd
    have e2 := ht d' hd'
    subst e1 e2
    have hq' : Q (PySem.W.dataLt (.tuple []) (.tuple [])) s := hq
    have h0 : PySem.W.dataLt (.tuple []) (.tuple []) = false := PyProof.Rows.lex_irrefl _
    rw [h0] at hq'
    cases ra with
    | @tuple l o xs n _ _ h1 h2 h3 h4 =>
      cases rb with
      | @tuple l' o' xs' n' _ _ k1 k2 k3 k4 =>
        have n1 : xs.size = 0 := by simpa using SeqAt.ReadsAll.length _ _ _ h4
        have n2 : xs'.size = 0 := by simpa using SeqAt.ReadsAll.length _ _ _ k4
        rw [Array.size_eq_zero_iff.mp n1] at h3
        rw [Array.size_eq_zero_iff.mp n2] at k3
        rw [keyLt'_oneType, oneLt'_eq]
        simp only [if_true]
        refine wpAny_bind (wpAny_cRoomFor hu ?_)
        refine wpAny_bind (wpAny_callSpecialIfBound?_slot (T := "tuple") ⟨_, h1, h2⟩ F.slot_tuple_lt (tup_lt_call ⟨_, h1, h2, _, h3⟩ ⟨_, k1, k2, _, k3⟩ ?_))
        exact wpAny_truthy_bool hq'
end
end Mp
end
section
set_option maxHeartbeats 4000000
/-! sorted; list(range(..)), tuple(range(..)); x[::-1]; enumerate. -/
namespace Mp
open PySem PySem.Spec PyProof.Rows L2

section
variable {X : Cx} {k : Kx} {E : XK} {e a b c o tg : Expr} {es : List Expr} {pos p0 p1 p apos cpos : Pos} {f g h : SF} {A : SA} {u v : SS}

/-- one tuple, or none, can be sorted -/
theorem sorts1 {prog : Program} {w : World} {A : Around} {s : Shared} {vs : List Value} {ds : List D} (e : PySem.W.EachIs (fun v d => ∃ as, Reads s.heap v d as) vs ds) (hal : PySem.W.AllAlike ds) (h1 : ds.length ≤ 1) (ht : ∀ d ∈ ds, ∃ xs, d = .tuple xs) (hu : ∀ d, d ∈ ds → A.units + d.depth < cLine) :
    PySem.W.SortsAt prog w A s (PySem.W.dataKind s.heap ds) vs := by
  refine ⟨fun v hv => ?_, tuples' false, ?_, fun h2 => ?_⟩
  · obtain ⟨d, hd, as, r⟩ := e.left v hv
    exact ⟨_, PySem.W.dataKind_some hal hd r⟩
  · intro E x y a b Q ha hb hq
    obtain ⟨d, as, hd, ra, rfl⟩ := PySem.W.dataKind_inv ha
    obtain ⟨d', as', hd', rb, rfl⟩ := PySem.W.dataKind_inv hb
    have hdd := hal d hd d' hd'
    obtain ⟨x1, rfl⟩ := ht d hd
    obtain ⟨x2, rfl⟩ := ht d' hd'
    have hq' : Q (PySem.W.dataLt (.tuple x1) (.tuple x2)) s := hq
    rw [PySem.W.dataLt_tuple] at hq'
    cases ra with
    | @tuple l o xs n _ _ h1 h2 h3 h4 =>
      cases rb with
      | @tuple l' o' xs' n' _ _ k1 k2 k3 k4 =>
        have n1 : xs.size = x1.length := by simpa using SeqAt.ReadsAll.length _ _ _ h4
        have n2 : xs'.size = x2.length := by simpa using SeqAt.ReadsAll.length _ _ _ k4
        have hroom : A.units + min (PyData.tuple x1).depth (PyData.tuple x2).depth < cLine := Nat.lt_of_le_of_lt (Nat.add_le_add_left (Nat.min_le_left _ _) _) (hu _ hd)
        refine PySem.W.kat_lt h1 h3 k1 k3 (PySem.W.katLex_alike x1 x2 0 _ _ _ _ h4 k4 (by simpa [PySem.W.alike] using hdd) (by have q := SeqAt.room_in hroom; omega) (fun hb => by cases hb) (by rw [n1, n2]) hq')
  · have := e.length
    omega
theorem sorts_ok {prog : Program} {w : World} {A : Around} {s : Shared} {vs : List Value} {ds : List D} (e : PySem.W.EachIs (fun v d => ∃ as, Reads s.heap v d as) vs ds) (h : sortB ds = true) (hu : A.units + 40 < cLine) :
    PySem.W.AllAlike ds ∧ PySem.W.SortsAt prog w A s (PySem.W.dataKind s.heap ds) vs := by
  unfold sortB at h
  rw [Bool.and_eq_true, Bool.and_eq_true] at h
  obtain ⟨⟨h1, h2⟩, h3⟩ := h
  have hal : PySem.W.AllAlike ds := fun d hd d' hd' => List.all_eq_true.mp (List.all_eq_true.mp h1 d hd) d' hd'
  have hu' : ∀ d, d ∈ ds → A.units + d.depth < cLine := fun d hd => by
    have := of_decide_eq_true (List.all_eq_true.mp h3 d hd)
    omega
  refine ⟨hal, ?_⟩
  rcases Bool.or_eq_true _ _ ▸ h2 with h2 | h2
  · rcases Bool.or_eq_true _ _ ▸ h2 with h2 | h2
    · rcases Bool.or_eq_true _ _ ▸ h2 with h2 | h2
      · refine .data e hal (.inl fun d hd => ?_) hu'
        have := List.all_eq_true.mp h2 d hd
        unfold isTupNe at this
        split at this
        · exact ⟨_, _, rfl⟩
        · cases this
      · refine .data e hal (.inr fun d hd => ?_) hu'
        have := List.all_eq_true.mp h2 d hd
        unfold isOth at this
        split at this
        · cases this
        · cases this
        · rename_i n1 n2
          exact ⟨fun e => n1 e, fun xs e => n2 xs e⟩
    · rw [Bool.and_eq_true] at h2
      refine sorts1 e hal (of_decide_eq_true h2.1) (fun d hd => ?_) hu'
      have := List.all_eq_true.mp h2.2 d hd
      unfold isTupD at this
      split at this
      · exact ⟨_, rfl⟩
      · cases this
  · refine sorts0 e hal (fun d hd => ?_) (by omega)
    have := List.all_eq_true.mp h2 d hd
    unfold isTup0 at this
    split at this
    · rfl
    · cases this

theorem each_of {K : Kf} {H : Hp} {av : Addr → Prop} {pins : List (Addr × Obj)} {s : Shared} {σ : L2.St} (hK : X.K = K.K) (I : Inv X pins σ H s) : ∀ {ds : List D} {vs : List V} {its : List Value}, Rs K H av ds vs → Vals vs its →
    PySem.W.EachIs (fun v d => (∃ x, RelV x v ∧ R K H av d x) ∧ ∃ as, Reads s.heap v d as) its ds
  | [], _, _, r, rv => by cases (show _ = [] from r); cases rv; exact .nil
  | d :: ds, _, _, r, rv => by
    obtain ⟨x, t, rfl, r1, r2⟩ := r
    cases rv with
    | cons v1 v2 => exact .cons ⟨⟨x, v1, r1⟩, Dp.reads I d x _ (by rw [hK]; exact R.dp d x r1) v1⟩ (each_of hK I r2 v2)
theorem of_each {K : Kf} {H : Hp} {av : Addr → Prop} : ∀ {ds : List D} {its : List Value}, PySem.W.EachIs (fun v d => ∃ x, RelV x v ∧ R K H av d x) its ds → ∃ vs, Vals vs its ∧ Rs K H av ds vs
  | _, _, .nil => ⟨[], .nil, rfl⟩
  | _, _, .cons ⟨x, h1, h2⟩ t => by
    obtain ⟨vs, q1, q2⟩ := of_each t
    exact ⟨x :: vs, .cons h1 q1, x, vs, rfl, h2, q2⟩
def srt (ds : List D) : List D := ds.mergeSort (PySem.W.dataLe false fun x => x)
theorem sorted_by {K : Kf} {av : Addr → Prop} (hK : X.K = K.K) (hu : X.A.units + 100 < cLine) {pins : List (Addr × Obj)} {s : Shared} {σ : L2.St} {H : Hp} {q : Addr} {ds : List D} {vs : List V} {Q : VK} (I : Inv X pins σ H s) (r : Rs K H av ds vs) (hs : sortB ds = true) (hl : ds.length ≤ lim)
    (hcol : ∀ (R : List Value → Shared → Prop), (∀ h' tk its, (∀ b o, s.heap.get? b = some o → h'.get? b = some o) → Vals vs its → R its { s with heap := h', toks := tk }) → wpAny (model X.prog X.w) X.A.in1 (collect (.ref q)) R X.xe s)
    (hq : ∀ p vs', H p = none → Rs K H av (srt ds) vs' → Q (.ref p) (upd H p (.lst vs'))) : wpAny (model X.prog X.w) X.A (call (.builtin "sorted") [.ref q]) (EP X pins σ Q) X.xe s := by
  refine Calls.call_function_entry PyProof.Rows.kind_sorted PyProof.Rows.plain_sorted PyProof.Rows.entry_sorted (PyProof.Rows.args_sorted1 _) ?_
  unfold Builtin.«sorted»
  refine wpAny_bind (m := checkCount "sorted" 1 1 _) (wpAny_pure ?_)
  refine wpAny_bind (hcol _ fun h' tk its hk rv => ?_)
  have hil : its.length = ds.length := by rw [← rv.length, r.length]
  have I1 : Inv X pins σ H { s with heap := h', toks := tk } := I.kept hk
  refine wpAny_bind (wpAny_newList ?_ (by rw [hil]; exact lim_size hl))
  have hoL : (h'.push (seqObj "list" its.toArray 0)).get? h'.objs.size = some (seqObj "list" its.toArray 0) := Heap.get?_push_size _ rfl
  show wpAny _ _ _ _ _ { s with heap := h'.push (seqObj "list" its.toArray 0), toks := tk }
  have ea := each_of hK I1 r rv
  have kp : ∀ b o, h'.get? b = some o → (PySem.W.sortingHeap (h'.push (seqObj "list" its.toArray 0)) h'.objs.size its).get? b = some o := fun b o e =>
    PySem.W.sortingHeap_old (Nat.ne_of_lt (Heap.lt_size e)) (Heap.get?_push_of_some _ e)
  have er : PySem.W.EachIs (fun v d => ∃ as, Reads (PySem.W.sortingHeap (h'.push (seqObj "list" its.toArray 0)) h'.objs.size its) v d as) its ds := ea.mono fun _ _ ⟨_, as, q⟩ => ⟨as, PyProof.Rows.Reads.keeps kp q⟩
  have so := fun (B : Around) (hB : B.units + 40 < cLine) => sorts_ok (prog := X.prog) (w := X.w) (A := B) (s := { s with heap := PySem.W.sortingHeap (h'.push (seqObj "list" its.toArray 0)) h'.objs.size its, toks := tk }) er hs hB
  have hal := (so X.A (by omega)).1
  have ero : PySem.W.EachIs (fun v d => ∃ as, Reads (PySem.W.sortingHeap (h'.push (seqObj "list" its.toArray 0)) h'.objs.size its) v ((fun x => x) d) as) its ds := er
  have so2 := PySem.W.sortVals_data (R := fun v d => ∃ x, RelV x v ∧ R K H av d x) (enc := fun x => x) false (ea.mono fun _ _ q => q.1) ero (by rw [List.map_id']; exact hal)
  rw [List.map_id'] at so2
  obtain ⟨ws, hw, hr⟩ := of_each so2
  refine wpAny_bind (wpAny_holding (wpAny_call_entry PyProof.Rows.slot_list_sort ⟨_, hoL, rfl⟩ PyProof.Rows.entry_list_sort
    (PySem.W.list_sort_vals (s := { s with heap := h'.push (seqObj "list" its.toArray 0), toks := tk }) hoL (so _ (by show X.A.units + 1 + 1 + 40 < cLine; omega)).2 (by rw [hil]; exact lim_size hl) ⟨_, rfl, ?_⟩)
    (PyProof.Rows.args_list_sort _)))
  obtain ⟨e', he'⟩ := PyProof.Rows.sortedHeap_at (vs := its) (out := (PySem.W.sortVals (PySem.W.dataKind (PySem.W.sortingHeap (h'.push (seqObj "list" its.toArray 0)) h'.objs.size its) ds) false its its).toArray) hoL
  have hlen : ws.length ≤ sizeLine := by
    rw [← hr.length]
    show (ds.mergeSort _).length ≤ _
    rw [List.length_mergeSort]
    exact lim_size hl
  refine wpAny_pure ⟨_, rfl, .ref h'.objs.size, upd H h'.objs.size (.lst ws), I1.laid (t' := tk) (fun b u e => ?_) (Nat.le_refl _)
    (show ObjOk X.prog X.w _ _ _ (.lst ws) from ⟨hlen, _, e', hw, he'⟩), rfl, hq _ _ (I1.hok.fresh (Nat.le_refl _)) hr⟩
  have hb : b < h'.objs.size := Heap.lt_size e
  rw [PyProof.Rows.sortedHeap_old (Nat.ne_of_lt hb) (by rw [size_push']; exact Nat.lt_succ_of_lt hb)]
  exact Heap.get?_push_of_some _ e
theorem sortD_some {ds : List D} {z : D} (h : (sortD ds).map .list = some z) : sortB ds = true ∧ ds.length ≤ lim ∧ z = .list (srt ds) := by
  unfold sortD at h
  split at h
  · rename_i hc
    rw [Bool.and_eq_true] at hc
    cases h
    exact ⟨hc.1, of_decide_eq_true hc.2, rfl⟩
  · cases h
theorem rdVs_none {M : Mem} {vs : List Val} (h : rdVs M vs = none) : True := trivial
theorem RD.keysR {K : Kf} {H : Hp} {av : Addr → Prop} : ∀ {kvs : List (NestedKey × D)} {xs : List (NestedKey × Addr × V)}, RD K H av kvs xs → Rs K H av (kvs.map fun kv => kv.1.data) (xs.map fun x => V.ref x.2.1)
  | [], _, h => by cases (show _ = [] from h); rfl
  | x :: kvs, _, h => by
    obtain ⟨q, v, r, e, _, r1, _, h2⟩ := h
    subst e
    exact ⟨_, _, rfl, r1, RD.keysR h2⟩
theorem RK.keysR {K : Kf} {H : Hp} {av : Addr → Prop} : ∀ {kvs : List (L2.Key × D)} {xs : List (L2.Key × V)}, RK K H av kvs xs → Rs K H av (kvs.map fun kv => dKey kv.1) (xs.map fun x => kV x.1)
  | [], _, h => by cases (show _ = [] from h); rfl
  | x :: kvs, _, h => by
    obtain ⟨v, r, e, _, h2⟩ := h
    subst e
    refine ⟨_, _, rfl, ?_, RK.keysR h2⟩
    obtain ⟨kk, _⟩ := x
    cases kk <;> rfl
theorem PN.refs {xs : List (NestedKey × Addr × V)} {us : List (NestedKey × Addr × Value)} (pr : PN xs us) : Vals (xs.map fun x => V.ref x.2.1) (us.map fun x => Value.ref x.2.1) := by
  induction pr with
  | nil => exact .nil
  | cons p _ ih => exact .cons (by show Value.ref _ = Value.ref _; rw [p.2.1]) ih
theorem c_sorted (ck : Ck k X) : CallR X (.builtin "sorted") (rB k .sorted) := by
  intro pins s σ H xs us Q I rr ⟨ex, am, M, vs, z, rm, rv, hz, q⟩
  have fin : ∀ {ds : List D} {z : D}, z = .list (srt ds) → ∀ {p : Addr} {vs' : List V} {Q : VK}, (∀ am' H' w, RM k.K ex am' M H' → F am M H am' M H' → R k.K H' (avS ex am' M) z w → Q w H') → H p = none → Rs k.K H (avS ex am M) (srt ds) vs' → Q (.ref p) (upd H p (.lst vs')) := by
    intro ds z e p vs' Q q hp hr
    subst e
    exact q am _ _ (rm.new _ hp) (F.new hp) (R.newL rm hp hr)
  unfold biV at hz
  dsimp only at hz
  cases hd : rdVs M vs with
  | some ds0 =>
    rw [hd] at hz
    have pr := rds_of rm rv hd
    obtain ⟨d, rfl, hz⟩ := d1_some (show d1 (dSeq fun xs => (sortD xs).map .list) ds0 = some z from hz)
    obtain ⟨ds, he, hz⟩ := dSeq_some hz
    obtain ⟨hs, hl, hze⟩ := sortD_some hz
    obtain ⟨x, rfl, hx⟩ := pair1 pr
    obtain ⟨u, rfl, rx⟩ := vals1 rr
    rcases he with rfl | rfl
    · obtain ⟨p, ws, rfl, hp, r⟩ := hx
      cases rx
      obtain ⟨its, rv1, pl, hzz⟩ := I.list (.inl (.inl hp))
      obtain ⟨o, n, ho, hc, _, hdat⟩ := pl
      refine sorted_by ck.K ck.hu I r hs hl (fun R hR => ?_) fun p' vs' hp' hr' => fin hze q hp' hr'
      exact wpAny_collect_seq p (.inl rfl) ho hc hdat (fun h' hk => by simpa using hR h' s.toks its hk rv1) (by rw [List.size_toArray, ← rv1.length]; exact hzz)
    · obtain ⟨p, ws, rfl, hp, r⟩ := hx
      cases rx
      obtain ⟨its, rv1, ⟨o, ho, hc, n, hdat⟩, hzz⟩ := I.tuple (by rw [ck.K]; exact hp.sq)
      refine sorted_by ck.K ck.hu I r hs hl (fun R hR => ?_) fun p' vs' hp' hr' => fin hze q hp' hr'
      exact wpAny_collect_seq p (.inr rfl) ho hc hdat (fun h' hk => by simpa using hR h' s.toks its hk rv1) (by rw [List.size_toArray, ← rv1.length]; exact hzz)
  | none =>
    rw [hd] at hz
    obtain ⟨v, rfl, hz⟩ := v1_some (show v1 (keysSorted M) vs = some z from hz)
    obtain ⟨x, rfl, hx⟩ := rvs1 rv
    obtain ⟨u, rfl, rx⟩ := vals1 rr
    cases v with
    | d _ => cases hz
    | ref i =>
      obtain ⟨p, hp, rfl⟩ := hx
      cases rx
      have hz : keysSorted M (.ref i) = some z := hz
      unfold keysSorted at hz
      dsimp only at hz
      cases hm : M[i]? with
      | none => rw [hm] at hz; cases hz
      | some ob =>
        cases ob with
        | dK kvs =>
          rw [hm] at hz
          obtain ⟨hs, hl, hze⟩ := sortD_some hz
          obtain ⟨ws, hH, r⟩ := rm.obj i _ p hm hp
          have hrd : L2.Rd H p (.dK ws) := .inl hH
          obtain ⟨z0, lo, vs, rel, dd⟩ := dk_rd I.hok hrd
          obtain ⟨ep, hat⟩ := dd.dictAt
          have rs := RK.keysR r
          have ek : (ws.map fun kv => kV kv.1) = vs.map fun p => kV p.1 := by
            have e := congrArg (List.map kV) rel.keys
            rw [List.map_map, List.map_map] at e
            exact e
          refine sorted_by ck.K ck.hu I rs hs (by simpa using hl) (fun R hR => ?_) fun p' vs' hp' hr' => fin hze q hp' hr'
          refine PySem.W.kdu_collect (PySem.W.kdl_dict (knd := mixKind X.prog X.w) (kvs := vs) (ep := ep) lo) (I.ok.hd ck.calm) hat (by rw [← rel.length]; exact z0) fun h' tk acc hk hacc => ?_
          refine hR h' tk _ hk ?_
          rw [ek]
          exact keys_at (by rw [Array.length_toList]; exact hacc.1) fun j v e => hacc.2 j v (by rw [← Array.getElem?_toList]; exact e)
        | dT kvs =>
          rw [hm] at hz
          obtain ⟨hs, hl, hze⟩ := sortD_some hz
          obtain ⟨xs, hH, r⟩ := rm.obj i _ p hm hp
          obtain ⟨h1, h2, _, us, pr, o, es, ep, ho, hx, hdt, he, _, _⟩ := dict_at ck.K ck.P ck.w I hH r
          have l1 : es.size = us.length := size_of_entries he
          have l2 : us.length = xs.length := by have := congrArg List.length (PN.keys pr); simpa using this
          have rs := r.keysR
          have rv1 := PN.refs pr
          refine sorted_by ck.K ck.hu I rs hs (by simpa using hl) (fun R hR => ?_) fun p' vs' hp' hr' => fin hze q hp' hr'
          refine PySem.W.kdu_collect (kdl_raw h1 hx hdt) (I.ok.hd ck.calm) ho (by rw [l1, l2]; exact h2) fun h' tk acc hk hacc => ?_
          have ea : acc.toList = us.map fun x => Value.ref x.2.1 := by
            have hl : acc.toList.length = us.length := by rw [Array.length_toList, hacc.1]; exact l1
            apply List.ext_getElem?
            intro j
            rw [List.getElem?_map]
            cases hj : acc.toList[j]? with
            | none =>
              have h1 := List.getElem?_eq_none_iff.mp hj
              rw [List.getElem?_eq_none (by omega)]
              all_goals rfl
            | some v =>
              obtain ⟨en, hen, hv⟩ := hacc.2 j v (by rw [← Array.getElem?_toList]; exact hj)
              have qe := entry_at he j
              rw [hen] at qe
              cases hb : us[j]? with
              | none =>
                rw [hb] at qe
                exact nomatch (show some en = none from qe)
              | some b =>
                rw [hb] at qe
                have e2 : en = entryOfKey (nestedKind X.prog X.w) b := Option.some.inj qe
                rw [hv, e2]
                all_goals rfl
          rw [ea]
          exact hR h' tk _ hk rv1
        | _ => rw [hm] at hz; cases hz
end
end Mp
end
section
set_option maxHeartbeats 4000000
/-! Built-ins by name; list(range(..)), tuple(range(..)); x[::-1]; enumerate. -/
namespace Mp
open PySem PySem.Spec PyProof.Rows L2

section
variable {X : Cx} {k : Kx} {E : XK} {e a b c o tg : Expr} {es : List Expr} {pos p0 p1 p2 p3 p apos cpos : Pos} {f g h : SF} {A : SA} {u v : SS}

/-! ### built-ins by name -/
theorem se_biB {bb : BI} {id : String} {x : Str} (cc : CallR X (.builtin id) (rB k bb)) (bn : Bn X x) (hv : bootBuiltins x = some (.builtin id)) (ha : SAs X k E (e :: es) A) (hn : x ≠ "__name__") (hdb : (x == ("__debug__" : Str)) = false)
    (he : starEach (e :: es) X.env = (false, eval e X.env) :: starEach es X.env) (hpl : (backTo pos (starEach es X.env)).any (·.1) = false) : SE X k E (.Call (.Name x p) (e :: es) [] pos) (sBi bb A) :=
  PE.imp (pe_callB cc bn.gl bn.mg hv ha hn hdb he hpl) fun σ H Q h => tr_bi bb h
theorem se_biT {bb : BI} {T : String} {x : Str} (cc : CallR X (.type T) (rB k bb)) (bn : Bn X x) (hv : bootBuiltins x = some (.type T)) (ha : SAs X k E (e :: es) A) (hn : x ≠ "__name__") (hdb : (x == ("__debug__" : Str)) = false)
    (he : starEach (e :: es) X.env = (false, eval e X.env) :: starEach es X.env) (hpl : (backTo pos (starEach es X.env)).any (·.1) = false) : SE X k E (.Call (.Name x p) (e :: es) [] pos) (sBi bb A) :=
  PE.imp (pe_callTy cc bn.gl bn.mg hv ha hn hdb he hpl) fun σ H Q h => tr_bi bb h

/-! ### a range as a row -/
theorem rs_rng {K : Kf} {H : Hp} {av : Addr → Prop} (a b : Int) : Rs K H av (rngD a b) (rgV a b) := by
  have key : ∀ (ns : List Nat), Rs K H av (ns.map fun (i : Nat) => .int (a + (i : Int))) (ns.map fun (i : Nat) => V.int (a + (i : Nat))) := by
    intro ns
    induction ns with
    | nil => rfl
    | cons n ns ih => exact ⟨_, _, rfl, rfl, ih⟩
  exact key _
theorem rngOk_ok {a b : Int} (h : rngOk a b = true) : RgOk a b := by
  obtain ⟨h1, h2, h3, h4, h5⟩ := of_decide_eq_true h
  exact ⟨h1, h2, h3, h4, Nat.le_trans h5 (by decide)⟩
theorem bi_rng1 {bb : BI} {mk : List D → D} (hb : ∀ ds, biD bb ds = d1 (dInt fun n => if rngOk 0 n then some (mk (rngD 0 n)) else none) ds) (hbv : ∀ M vs, biV bb M vs = biR bb M vs) {M : Mem} {v : Val} {z : D} (h : biV bb M [v] = some z) : ∃ n, rdV M v = some (.int n) ∧ rngOk 0 n = true ∧ z = mk (rngD 0 n) := by
  rw [hbv] at h
  obtain ⟨ds, hd, hz⟩ := bi_data h
  rw [hb] at hz
  obtain ⟨x, rfl, hz1⟩ := d1_some hz
  obtain ⟨n, rfl, hz2⟩ := dInt_some hz1
  split at hz2
  · rename_i ho
    cases hz2
    cases hr : rdV M v with
    | none => simp [rdVs, hr] at hd
    | some y =>
      have : y = .int n := by simpa [rdVs, hr] using hd
      exact ⟨n, by rw [this], ho, rfl⟩
  · cases hz2
theorem bi_rng2 {bb : BI} {mk : List D → D} (hb : ∀ ds, biD bb ds = d2 (fun x y => dInt (fun a => dInt (fun b => if rngOk a b then some (mk (rngD a b)) else none) y) x) ds) (hbv : ∀ M vs, biV bb M vs = biR bb M vs) {M : Mem} {v w : Val} {z : D} (h : biV bb M [v, w] = some z) :
    ∃ n m, rdV M v = some (.int n) ∧ rdV M w = some (.int m) ∧ rngOk n m = true ∧ z = mk (rngD n m) := by
  rw [hbv] at h
  obtain ⟨ds, hd, hz⟩ := bi_data h
  rw [hb] at hz
  obtain ⟨x, y, rfl, hz1⟩ := d2_some hz
  obtain ⟨n, rfl, hz2⟩ := dInt_some hz1
  obtain ⟨m, rfl, hz3⟩ := dInt_some hz2
  split at hz3
  · rename_i ho
    cases hz3
    cases hr : rdV M v with
    | none => simp [rdVs, hr] at hd
    | some x =>
      cases hr2 : rdV M w with
      | none => simp [rdVs, hr, hr2] at hd
      | some y =>
        have : x = .int n ∧ y = .int m := by simpa [rdVs, hr, hr2] using hd
        exact ⟨n, m, by rw [this.1], by rw [this.2], ho, rfl⟩
  · cases hz3
theorem int_of {K : Kf} {ex am : List Addr} {M : Mem} {H : Hp} {v : Val} {x : V} {n : Int} (m : RM K ex am M H) (r : RV K H (avS ex am M) am v x) (h : rdV M v = some (.int n)) : x = .int n := rd_of m r h
/-- the call of range as an argument -/
theorem prg1 (bn : Bn X "range") (ha : SE X k E a f) (hs : starEach [a] X.env = (false, eval a X.env) :: starEach [] X.env) : PRg X (.Call (.Name "range" p0) [a] [] p1) (tRg1 (tE k E f)) := prg_1 bn.gl bn.mg ha hs
theorem tr_rng1 {Qr : Int → Int → Hp → Prop} {bb : BI} {mk : List D → D} (hb : ∀ ds, biD bb ds = d1 (dInt fun n => if rngOk 0 n then some (mk (rngD 0 n)) else none) ds) (hbv : ∀ M vs, biV bb M vs = biR bb M vs) {σ : L2.St} {H : Hp} {Q : VK} (hw : tE k E (sBi bb (sCons f sNil)) σ H Q)
    (hq : ∀ ex am M H a b, RM k.K ex am M H → rngOk a b = true → (∀ am' H' w, RM k.K ex am' M H' → F am M H am' M H' → R k.K H' (avS ex am' M) (mk (rngD a b)) w → Q w H') → Qr a b H) : tRg1 (tE k E f) σ H Qr := by
  obtain ⟨ex, am, env, M, rm, re, p⟩ := hw
  have p' : Po k ex am M H E ((f env M).bind fun v M1 => (ofO (biV bb M1 [v]) M1).bind fun z M2 => .ok (.d z) M2) (okV k ex Q) := by
    unfold sBi sCons sNil at p
    rw [bind_bind] at p
    exact p
  refine ⟨ex, am, env, M, rm, re, p'.bind.mono fun v M1 am1 H1 rm1 f1 p1 x rx => ?_⟩
  obtain ⟨z, hz, p2⟩ := p1.ofO
  obtain ⟨n, h1, h2, rfl⟩ := bi_rng1 hb hbv hz
  exact ⟨n, int_of rm1 rx h1, hq ex am1 M1 H1 0 n rm1 h2 fun am' H' w rm' f' rw' => p2 am' H' rm' f' w rw'⟩
theorem tr_rng2 {Qr : Int → Int → Hp → Prop} {bb : BI} {mk : List D → D} (hb : ∀ ds, biD bb ds = d2 (fun x y => dInt (fun a => dInt (fun b => if rngOk a b then some (mk (rngD a b)) else none) y) x) ds) (hbv : ∀ M vs, biV bb M vs = biR bb M vs) {σ : L2.St} {H : Hp} {Q : VK} (hw : tE k E (sBi bb (sCons f (sCons g sNil))) σ H Q)
    (hq : ∀ ex am M H a b, RM k.K ex am M H → rngOk a b = true → (∀ am' H' w, RM k.K ex am' M H' → F am M H am' M H' → R k.K H' (avS ex am' M) (mk (rngD a b)) w → Q w H') → Qr a b H) : tRg2 (tE k E f) (tE k E g) σ H Qr := by
  obtain ⟨ex, am, env, M, rm, re, p⟩ := hw
  have p' : Po k ex am M H E ((f env M).bind fun v M1 => (g env M1).bind fun w M2 => (ofO (biV bb M2 [v, w]) M2).bind fun z M2 => .ok (.d z) M2) (okV k ex Q) := by
    unfold sBi sCons sNil at p
    rw [bind_bind] at p
    simp only [bind_bind, bind_ok] at p
    exact p
  refine ⟨ex, am, env, M, rm, re, p'.bind.mono fun v M1 am1 H1 rm1 f1 p1 x rx => ?_⟩
  refine ⟨ex, am1, env, M1, rm1, re.step rm f1, p1.bind.mono fun w M2 am2 H2 rm2 f2 p2 y ry => ?_⟩
  obtain ⟨z, hz, p3⟩ := p2.ofO
  obtain ⟨n, m, h1, h2, h3, rfl⟩ := bi_rng2 hb hbv hz
  exact ⟨n, m, int_of rm2 (rx.step rm1 f2) h1, int_of rm2 ry h2, hq ex am2 M2 H2 n m rm2 h3 fun am' H' w rm' f' rw' => p3 am' H' rm' f' w rw'⟩
theorem se_rngL1 (ck : Ck k X) (bl : Bn X "list") (bn : Bn X "range") (ha : SE X k E a f) (hs : starEach [a] X.env = (false, eval a X.env) :: starEach [] X.env) : SE X k E (.Call (.Name "list" p2) [.Call (.Name "range" p0) [a] [] p1] [] pos) (sBi .rngL (sCons f sNil)) :=
  PE.imp (pe_listRg ck.calm bl.gl bl.mg (prg1 bn ha hs) rfl) fun σ H Q hw => tr_rng1 (bb := .rngL) (mk := .list) (fun _ => rfl) (fun _ _ => rfl) hw fun ex am M H a b rm ho q => ⟨rngOk_ok ho, fun t ht => q _ _ _ (rm.new _ ht) (F.new ht) (R.newL rm ht (rs_rng a b))⟩
theorem se_rngT1 (ck : Ck k X) (bl : Bn X "tuple") (bn : Bn X "range") (ha : SE X k E a f) (hs : starEach [a] X.env = (false, eval a X.env) :: starEach [] X.env) : SE X k E (.Call (.Name "tuple" p2) [.Call (.Name "range" p0) [a] [] p1] [] pos) (sBi .rngT (sCons f sNil)) :=
  PE.imp (pe_tupRgS ck.calm bl.gl bl.mg (prg1 bn ha hs) rfl) fun σ H Q hw => tr_rng1 (bb := .rngT) (mk := .tuple) (fun _ => rfl) (fun _ _ => rfl) hw fun ex am M H a b rm ho q => ⟨rngOk_ok ho, fun t its ht => q _ _ _ (rm.new _ ht) (F.new ht) (R.newT rm ht (rs_rng a b))⟩
theorem se_rngL2 (ck : Ck k X) (bl : Bn X "list") (bn : Bn X "range") (ha : SE X k E a f) (hb : SE X k E b g) (hs : starEach [a, b] X.env = (false, eval a X.env) :: starEach [b] X.env) (hs2 : starEach [b] X.env = (false, eval b X.env) :: starEach [] X.env) (hp : (backTo p1 (starEach [b] X.env)).any (·.1) = false) :
    SE X k E (.Call (.Name "list" p2) [.Call (.Name "range" p0) [a, b] [] p1] [] pos) (sBi .rngL2 (sCons f (sCons g sNil))) :=
  PE.imp (pe_listRg ck.calm bl.gl bl.mg (prg_2 bn.gl bn.mg ha hb hs hs2 hp) rfl) fun σ H Q hw => tr_rng2 (bb := .rngL2) (mk := .list) (fun _ => rfl) (fun _ _ => rfl) hw fun ex am M H a b rm ho q => ⟨rngOk_ok ho, fun t ht => q _ _ _ (rm.new _ ht) (F.new ht) (R.newL rm ht (rs_rng a b))⟩
theorem se_rngT2 (ck : Ck k X) (bl : Bn X "tuple") (bn : Bn X "range") (ha : SE X k E a f) (hb : SE X k E b g) (hs : starEach [a, b] X.env = (false, eval a X.env) :: starEach [b] X.env) (hs2 : starEach [b] X.env = (false, eval b X.env) :: starEach [] X.env) (hp : (backTo p1 (starEach [b] X.env)).any (·.1) = false) :
    SE X k E (.Call (.Name "tuple" p2) [.Call (.Name "range" p0) [a, b] [] p1] [] pos) (sBi .rngT2 (sCons f (sCons g sNil))) :=
  PE.imp (pe_tupRgS ck.calm bl.gl bl.mg (prg_2 bn.gl bn.mg ha hb hs hs2 hp) rfl) fun σ H Q hw => tr_rng2 (bb := .rngT2) (mk := .tuple) (fun _ => rfl) (fun _ _ => rfl) hw fun ex am M H a b rm ho q => ⟨rngOk_ok ho, fun t its ht => q _ _ _ (rm.new _ ht) (F.new ht) (R.newT rm ht (rs_rng a b))⟩

/-! ### x[::-1] -/
theorem rev_adjust (n : Nat) : Builtin.Slice.sliceAdjust none none (-1) (n : Int) = ((n : Int) - 1, -1) := rfl
theorem rev_places (n : Nat) : Builtin.Slice.slicePlaces ((n : Int) - 1) (-1) (-1) = n := by
  unfold Builtin.Slice.slicePlaces
  have h1 : ¬ ((-1 : Int) > 0) := by decide
  simp only [h1, if_false]
  split
  · rw [show (- -1 : Int) = 1 by decide, Int.ediv_one]; omega
  · omega
theorem rev_pick (xs : Array Value) : ((List.range xs.size).filterMap fun (m : Nat) => xs[((xs.size : Int) - 1 + (m : Int) * (-1)).toNat]?) = xs.toList.reverse := by
  have e : ((List.range xs.size).filterMap fun (m : Nat) => xs[((xs.size : Int) - 1 + (m : Int) * (-1)).toNat]?) = ((List.range xs.size).map fun k => xs.size - 1 - k).filterMap (xs[·]?) := by
    rw [List.filterMap_map]
    have key : ∀ (l : List Nat) (f g : Nat → Option Value), (∀ m ∈ l, f m = g m) → l.filterMap f = l.filterMap g := by
      intro l f g
      induction l with
      | nil => intro _; rfl
      | cons x l ih =>
        intro h
        rw [List.filterMap_cons, List.filterMap_cons, h x List.mem_cons_self, ih fun m hm => h m (List.mem_cons_of_mem _ hm)]
    refine key _ _ _ fun m hm => ?_
    have := List.mem_range.mp hm
    have e2 : ((xs.size : Int) - 1 + (m : Int) * (-1)).toNat = xs.size - 1 - m := by omega
    show xs[((xs.size : Int) - 1 + (m : Int) * (-1)).toNat]? = xs[xs.size - 1 - m]?
    rw [e2]
  rw [e, PySem.W.krv_range, List.filterMap_reverse, PySem.W.krv_all]
theorem getItem_tuple_rev {prog : Program} {w : World} {A : Around} {E : Value → Shared → Prop} {s : Shared} {t sl : Addr} {items : Array Value} {vl vu vs : Value} {Q : Value → Shared → Prop} (ht : IsTup s.heap t items) (hs : s.heap.IsSliceOf sl vl vu vs) (pl : IsPart vl none) (pu : IsPart vu none) (ps : IsPart vs (some (-1)))
    (h : Q (.ref s.heap.objs.size) { s with heap := s.heap.push { cls := .type "tuple", data := .seq items.toList.reverse.toArray } })
    (hsz : items.size ≤ sizeLine) : wpAny (model prog w) A (getItem (.ref t) (.ref sl)) Q E s := by
  have htake : sizeOk (.seq items.toList.reverse.toArray) := by
    show items.toList.reverse.toArray.size ≤ sizeLine
    rw [List.size_toArray, List.length_reverse, Array.length_toList]
    exact hsz
  obtain ⟨os, hos, hcs, hds⟩ := id hs
  have hTs : s.TypeIs (.ref sl) "slice" := ⟨os, hos, hcs⟩
  unfold getItem
  try with_reducible refine wpAny_holding ?_
  first | refine wpAny_bind (wpAny_pure ?_) | skip
  refine wpAny_bind (wpAny_sequenceKey ht.typeIs (by decide) ?_)
  refine wpAny_bind (wpAny_callSpecial?_slot (name := Str.ofString "__getitem__") ht.typeIs PyProof.Rows.slot_tuple_getitem
    (wpAny_call_entry PyProof.Rows.slot_tuple_getitem ht.typeIs PyProof.Rows.entry_tuple_getitem ?_ (PyProof.Rows.args_tuple_getitem _ _)))
  show wpAny _ _ (Builtin.Tuple.tupleItemsOf (.ref t) >>= _) _ _ s
  refine wpAny_bind (PyProof.Rows.tupleItemsOf_ ht ?_)
  refine wpAny_bind (wpAny_typeOf hTs ?_)
  rw [if_pos (by decide)]
  have key : ∀ {Q : Int × Int × Nat → Shared → Prop}, Q ((items.size : Int) - 1, -1, items.size) s → wpAny (model prog w) A.in1 (Builtin.Slice.sliceApplied (.ref sl) (pure (items.size : Int))) Q E s := by
    intro Q hq
    unfold Builtin.Slice.sliceApplied Builtin.Slice.sliceFields
    refine wpAny_bind (wpAny_bind (wpAny_field hos hds (x := vl) rfl (wpAny_bind (wpAny_field hos hds (x := vu) rfl (wpAny_bind (wpAny_field hos hds (x := vs) rfl (wpAny_pure ?_)))))))
    refine wpAny_bind (HT.slicePart_ ps ?_)
    show wpAny _ _ (if ((-1 : Int) == 0) = true then _ else _) _ _ s
    rw [if_neg (by decide)]
    refine wpAny_bind (HT.slicePart_ pl (wpAny_bind (HT.slicePart_ pu (wpAny_bind (wpAny_pure ?_)))))
    show wpAny _ _ (match Builtin.Slice.sliceAdjust none none (-1) (items.size : Int) with | (lo, hi) => pure (lo, (-1 : Int), Builtin.Slice.slicePlaces lo hi (-1))) _ _ s
    rw [rev_adjust items.size]
    show wpAny _ _ (pure ((items.size : Int) - 1, (-1 : Int), Builtin.Slice.slicePlaces ((items.size : Int) - 1) (-1) (-1))) _ _ s
    rw [rev_places]
    exact wpAny_pure hq
  refine wpAny_bind (key ?_)
  have hno : ¬ ((((items.size : Int) - 1) == 0 && (-1 : Int) == 1 && items.size == items.size) = true) := by
    intro q
    rw [Bool.and_eq_true, Bool.and_eq_true] at q
    exact absurd q.1.2 (by decide)
  show wpAny _ _ (if (((items.size : Int) - 1) == 0 && (-1 : Int) == 1 && items.size == items.size) = true then _ else _) _ _ s
  rw [if_neg hno, rev_pick]
  first
    | exact wpAny_bind (m := Builtin.Tuple.tupleExact _) (wpAny_newObj_type (wpAny_pure ⟨_, rfl, wpAny_pure h⟩) htake)
    | exact wpAny_bind (m := Builtin.Tuple.tupleExact _) (wpAny_newObj_type (wpAny_bind (wpAny_pure (wpAny_pure ⟨_, rfl, wpAny_pure h⟩))) htake)
    | exact wpAny_bind (wpAny_bind (m := Builtin.Tuple.tupleExact _) (wpAny_newObj_type (wpAny_pure (wpAny_pure ⟨_, rfl, wpAny_pure h⟩)) htake))
    | exact wpAny_bind (wpAny_bind (m := Builtin.Tuple.tupleExact _) (wpAny_newObj_type (wpAny_pure ⟨_, rfl, wpAny_pure h⟩) htake))
def tRevA (K : PySem.W.Frag) (te : TE) : TE := fun σ H Q => te σ H fun x H1 => ∃ a xs, x = .ref a ∧ ((SqL K H1 a xs ∧ ∀ p, H1 p = none → Q (.ref p) (upd H1 p (.lst xs.reverse))) ∨ (SqT K H1 a xs ∧ ∀ p its, H1 p = none → Q (.ref p) (upd H1 p (sT its xs.reverse))))
theorem pe_revA {te : TE} {n : Nat} (he : PE X e te) : PE X (.Subscript e (.Slice none none (some (.UnaryOp .USub (.Constant (.int 1) n p1) p2)) p3) pos) (tRevA X.K te) := by
  refine ⟨fun pins s σ H Q I h => ?_⟩
  refine Subscript_ (thn (he.run pins s σ H _ I h) fun v s1 ⟨x, H1, I1, r1, q1⟩ => ?_)
  obtain ⟨a, xs, ex, q⟩ := q1
  subst ex
  cases r1
  have hst : PO X (some (.UnaryOp .USub (.Constant (.int 1) n p1) p2)) (tPart (tUn (rU fun i => .int (-i)) (tC (.int 1)))) := po_some (pe_un un_neg pe_int)
  refine wpAny_Slice (thn (po_none.run pins s1 σ H1 (fun o H2 => o = none ∧ H2 = H1) I1 ⟨rfl, rfl⟩) fun vl s2 ⟨l, H2, I2, pl, el, e2⟩ => ?_)
  subst el e2
  refine thn (po_none.run pins s2 σ H2 (fun o H3 => o = none ∧ H3 = H2) I2 ⟨rfl, rfl⟩) fun vu s3 ⟨u, H3, I3, pu, eu, e3⟩ => ?_
  subst eu e3
  refine thn (hst.run pins s3 σ H3 (fun o H4 => o = some (-1) ∧ H4 = H3) I3 ⟨1, rfl, -1, rfl, rfl, rfl⟩) fun vs s4 ⟨o, H4, I4, ps, eo, e4⟩ => ?_
  subst eo e4
  have I5 : Inv X pins σ H4 { s4 with heap := s4.heap.push { cls := .type "slice", data := .fields #[vl, vu, vs] } } := I4.kept (t' := s4.toks) fun b ob q => Heap.get?_push_of_some _ q
  show wpAny (model X.prog X.w) X.A (subscriptTail e (.Slice none none (some (.UnaryOp .USub (.Constant (.int 1) n p1) p2)) p3) (.ref a) (.ref s4.heap.objs.size)) (EP X pins σ Q) X.xe { s4 with heap := s4.heap.push { cls := .type "slice", data := .fields #[vl, vu, vs] } }
  rcases q with ⟨hx, q⟩ | ⟨hx, q⟩
  · obtain ⟨its, r, ht, hz⟩ := I5.list hx
    have hlen := r.length
    refine tail_any (ops := [.ref a, .ref s4.heap.objs.size]) ht.isList.typeIs (PySem.slot_list_getitem.lookup) ?_ (by with_unfolding_all rfl)
    refine wpAny_getItem_list_slice ht.isList (Heap.IsSliceOf.new _ vl vu vs) pl pu ps (by decide) ?_ (by rw [List.size_toArray]; omega)
    rw [PySem.W.krv_pick]
    refine ⟨.ref _, _, I5.laid (t' := s4.toks) (o := .lst xs.reverse) (fun b ob q => Heap.get?_push_of_some _ q) (Nat.le_refl _) ?_, rfl, q _ (I5.hok.fresh (Nat.le_refl _))⟩
    exact ⟨by rw [List.length_reverse]; exact hz, _, 0, r.reverse, Heap.get?_push_size _ rfl⟩
  · obtain ⟨its, r, ht, hz⟩ := I5.tuple hx
    have hlen := r.length
    refine tail_any (ops := [.ref a, .ref s4.heap.objs.size]) ht.typeIs (PyProof.Rows.slot_tuple_getitem.lookup) ?_ (by with_unfolding_all rfl)
    refine getItem_tuple_rev ht (Heap.IsSliceOf.new _ vl vu vs) pl pu ps ?_ (by rw [List.size_toArray]; omega)
    exact ⟨.ref _, _, inv_newT I5 (t' := s4.toks) (fun b ob q => Heap.get?_push_of_some _ q) r.reverse (by rw [List.length_reverse]; exact hz) (Nat.le_refl _) (Heap.get?_push_size _ rfl), rfl, q _ _ (I5.hok.fresh (Nat.le_refl _))⟩
theorem se_rev {n : Nat} (ck : Ck k X) (he : SE X k E e f) : SE X k E (.Subscript e (.Slice none none (some (.UnaryOp .USub (.Constant (.int 1) n p1) p2)) p3) pos) (sRev f) :=
  PE.imp (pe_revA he) fun σ H Q ⟨ex, am, env, M, rm, re, p⟩ => by
    refine ⟨ex, am, env, M, rm, re, p.bind.mono fun v M1 am1 H1 rm1 f1 p1 x rx => ?_⟩
    cases hr : rdV M1 v with
    | none => rw [hr] at p1; exact p1.elim
    | some d =>
      rw [hr] at p1
      obtain ⟨z, hz, p2⟩ := p1.ofO
      have rt := rd_of rm1 rx hr
      cases d with
      | list ds =>
        cases hz
        obtain ⟨q, vs, rfl, hq, r⟩ := rt
        exact ⟨q, vs, rfl, .inl ⟨.inl (.inl hq), fun t ht => p2 _ _ (rm1.new _ ht) (F.new ht) _ (R.newL rm1 ht r.reverse)⟩⟩
      | tuple ds =>
        cases hz
        obtain ⟨q, vs, rfl, hq, r⟩ := rt
        exact ⟨q, vs, rfl, .inr ⟨by rw [ck.K]; exact hq.sq, fun t its ht => p2 _ _ (rm1.new _ ht) (F.new ht) _ (R.newT rm1 ht r.reverse)⟩⟩
      | _ => cases hz
end

/-! ### enumerate -/
/-- the row at a as it stands at each turn, each item in a new pair -/
def IteS (S : Hp → List V → Prop) : It :=
  ⟨fun i H => ∃ (xs : List V) (x : V), S H xs ∧ xs[i]? = some x, fun i H v H' => ∃ T x its, v = .ref T ∧ H T = none ∧ H' = upd H T (sT its [.int (i : Nat), x]) ∧ ∀ xs, S H xs → xs[i]? = some x, fun i H => ∃ xs : List V, S H xs ∧ xs.length = i⟩
theorem turn_enumL {P : Program} {w : World} {K : PySem.W.Frag} {elts : List Expr} {kk : Nat} {tpos : Pos} (a e it : Addr) :
    Turn P w K (.Tuple elts kk tpos) (IteS fun H xs => SqL K H a xs) [e, it] e (fun i h => (∃ old, IsEnum h e it ((i : Nat) : Int) old) ∧ h.IsListIter it a i ∧ e ≠ it) where
  mem := by simp
  obj := (turn_enum (P := P) (w := w) (K := K) (elts := elts) (kk := kk) (tpos := tpos) a e it).obj
  keep := (turn_enum (P := P) (w := w) (K := K) (elts := elts) (kk := kk) (tpos := tpos) a e it).keep
  item := by
    intro X hP hw hK hc i pins s σ H E I hf st hg
    subst hP hw hK
    obtain ⟨⟨old, he⟩, hit, hne⟩ := st
    obtain ⟨xs, x, hq, hx⟩ := hg
    obtain ⟨its, rv, p, hz⟩ := I.list hq
    obtain ⟨u, hu, ru⟩ := rv.get hx
    have hel : e < s.heap.objs.size := Heap.lt_size he
    have hil : it < s.heap.objs.size := by obtain ⟨_, q, _⟩ := hit; exact Heap.lt_size q
    refine wpAny_pyNext_enum_item he hit p.isList (x := u) (by simpa using hu) hne fun h' ho hit' hT hsz hk => ?_
    refine ⟨_, rfl, wpAny_letOwnedTupleGo_enum (s := { s with heap := h', toks := s.toks + 1 }) ho fun h'' he' sb => ?_⟩
    have hT2 : h''.get? s.heap.objs.size = some { cls := .type "tuple", data := .seq #[.int i s.toks, u] } := (sb.2 _ (Nat.ne_of_gt hel)).trans hT
    have new : ObjOk X.prog X.w (upd H s.heap.objs.size (sT [.int i s.toks, u] [.int (i : Nat), x])) h'' s.heap.objs.size (sT [.int i s.toks, u] [.int (i : Nat), x]) :=
      ⟨hT2, by show 2 ≤ sizeLine; decide, [.int i s.toks, u], .cons ⟨_, rfl⟩ (.cons ru .nil), ⟨_, hT2, rfl, _, rfl⟩⟩
    have I1 : Inv X pins σ (upd H s.heap.objs.size (sT [.int i s.toks, u] [.int (i : Nat), x])) { s with heap := h'', toks := s.toks + 1 } :=
      I.turnedNew (ch := [e, it]) (fun b ob hb q => (sb.2 b (fun z => hb (by simp [z]))).trans (hk b ob (fun z => hb (by simp [z])) (fun z => hb (by simp [z])) q)) hf (Nat.le_refl _) new
    refine ⟨.ref s.heap.objs.size, _, I1, rfl, ⟨_, x, _, rfl, I.hok.fresh (Nat.le_refl _), rfl, fun ys hy => by rw [I.list_inj hy hq]; exact hx⟩, ⟨⟨u, ?_⟩, hit'.at fun o q => (sb.2 it (Ne.symm hne)).trans q, hne⟩, fun b hb => ?_⟩
    · have e1 : ((i + 1 : Nat) : Int) = (i : Int) + 1 := by omega
      rw [e1]; exact he'
    · have hb' : b < s.heap.objs.size := by
        have e' : b = e ∨ b = it := by simpa using hb
        rcases e' with z | z
        · rw [z]; exact hel
        · rw [z]; exact hil
      rw [upd_ne (Nat.ne_of_lt hb')]
      exact (hf b hb).1
  done := fun X hP hw hK hc i pins s σ H E I hf st ⟨xs, h1, h2⟩ => (turn_enum (P := P) (w := w) (K := K) (elts := elts) (kk := kk) (tpos := tpos) a e it).done X hP hw hK hc i pins s σ H E I hf st ⟨xs, h1, by omega⟩
  self := (turn_enum (P := P) (w := w) (K := K) (elts := elts) (kk := kk) (tpos := tpos) a e it).self
theorem turn_enumT {P : Program} {w : World} {K : PySem.W.Frag} {elts : List Expr} {kk : Nat} {tpos : Pos} (a e it : Addr) :
    Turn P w K (.Tuple elts kk tpos) (IteS fun H xs => SqT K H a xs) [e, it] e (fun i h => (∃ old, IsEnum h e it ((i : Nat) : Int) old) ∧ h.IsTupleIter it a i ∧ e ≠ it) where
  mem := by simp
  obj := fun i h st b hb => by
    obtain ⟨⟨old, he⟩, ⟨o, ho, hc, hd⟩, _⟩ := st
    have e' : b = e ∨ b = it := by simpa using hb
    rcases e' with z | z
    · rw [z]; exact ⟨_, he, fun v q => nomatch q⟩
    · rw [z]; exact ⟨o, ho, fun v q => by rw [hd] at q; cases q⟩
  keep := fun i h h' st k => let ⟨⟨old, he⟩, hi, hne⟩ := st; ⟨⟨old, k e (by simp) _ he⟩, hi.at fun o q => k it (by simp) o q, hne⟩
  item := by
    intro X hP hw hK hc i pins s σ H E I hf st hg
    subst hP hw hK
    obtain ⟨⟨old, he⟩, hit, hne⟩ := st
    obtain ⟨xs, x, hq, hx⟩ := hg
    obtain ⟨its, rv, p, hz⟩ := I.tuple hq
    obtain ⟨u, hu, ru⟩ := rv.get hx
    have hel : e < s.heap.objs.size := Heap.lt_size he
    have hil : it < s.heap.objs.size := by obtain ⟨_, q, _⟩ := hit; exact Heap.lt_size q
    have pt : s.heap.IsTuple a its.toArray := p
    have hae : a ≠ e := fun z => by
      obtain ⟨o, ho, hc, _⟩ := pt
      rw [z, show s.heap.get? e = _ from he] at ho
      cases ho
      injection hc with q
      exact absurd q (by decide)
    have hai : a ≠ it := fun z => by
      obtain ⟨o, ho, hc, _⟩ := pt
      obtain ⟨o', ho', hc', _⟩ := id hit
      rw [z, ho'] at ho
      cases ho
      rw [hc'] at hc
      injection hc with q
      exact absurd q (by decide)
    have hlt : i < its.toArray.size := by
      have := (List.getElem?_eq_some_iff.mp hu).1
      simpa using this
    refine wpAny_pyNext_enum_itemD (Draws.tuple (by first | exact I.ok.hd hc | simpa using I.ok.hd hc) it a hai its.toArray) he ⟨hit, pt⟩ hlt hne (by simp [hae.symm, hne]) fun u' h' tk hu' ho hit' hT hsz hk => ?_
    have eu : u' = u := by
      have h1 : its.toArray[i]? = some u := by simpa using hu
      rw [hu'] at h1
      exact Option.some.inj h1
    subst eu
    refine ⟨_, rfl, wpAny_letOwnedTupleGo_enum (s := { s with heap := h', toks := tk + 1 }) ho fun h'' he' sb => ?_⟩
    have hT2 : h''.get? s.heap.objs.size = some { cls := .type "tuple", data := .seq #[.int i tk, u'] } := (sb.2 _ (Nat.ne_of_gt hel)).trans hT
    have new : ObjOk X.prog X.w (upd H s.heap.objs.size (sT [.int i tk, u'] [.int (i : Nat), x])) h'' s.heap.objs.size (sT [.int i tk, u'] [.int (i : Nat), x]) :=
      ⟨hT2, by show 2 ≤ sizeLine; decide, [.int i tk, u'], .cons ⟨_, rfl⟩ (.cons ru .nil), ⟨_, hT2, rfl, _, rfl⟩⟩
    have I1 : Inv X pins σ (upd H s.heap.objs.size (sT [.int i tk, u'] [.int (i : Nat), x])) { s with heap := h'', toks := tk + 1 } :=
      I.turnedNew (ch := [e, it]) (fun b ob hb q => (sb.2 b (fun z => hb (by simp [z]))).trans (hk b ob (fun z => hb (by simp [z])) (fun z => hb (by simp [z])) q)) hf (Nat.le_refl _) new
    refine ⟨.ref s.heap.objs.size, _, I1, rfl, ⟨_, x, _, rfl, I.hok.fresh (Nat.le_refl _), rfl, fun ys hy => by rw [I.tuple_inj hy hq]; exact hx⟩, ⟨⟨u', ?_⟩, hit'.1.at fun o q => (sb.2 it (Ne.symm hne)).trans q, hne⟩, fun b hb => ?_⟩
    · have e1 : ((i + 1 : Nat) : Int) = (i : Int) + 1 := by omega
      rw [e1]; exact he'
    · have hb' : b < s.heap.objs.size := by
        have e' : b = e ∨ b = it := by simpa using hb
        rcases e' with z | z
        · rw [z]; exact hel
        · rw [z]; exact hil
      rw [upd_ne (Nat.ne_of_lt hb')]
      exact (hf b hb).1
  done := by
    intro X hP hw hK hc i pins s σ H E I hf st hg
    subst hP hw hK
    obtain ⟨⟨old, he⟩, hit, hne⟩ := st
    obtain ⟨xs, hq, hx⟩ := hg
    obtain ⟨its, rv, p, hz⟩ := I.tuple hq
    obtain ⟨f0, f1, f2, f3, f4, f5⟩ := hf it (by simp)
    have hl := rv.length
    have pt : s.heap.IsTuple a its.toArray := p
    have hai : a ≠ it := fun z => by
      obtain ⟨o, ho, hc, _⟩ := pt
      obtain ⟨o', ho', hc', _⟩ := id hit
      rw [z, ho'] at ho
      cases ho
      rw [hc'] at hc
      injection hc with q
      exact absurd q (by decide)
    have ei : i = its.toArray.size := by rw [List.size_toArray]; omega
    subst ei
    exact wpAny_pyNext_enum_endD (Draws.tuple (by first | exact I.ok.hd hc | simpa using I.ok.hd hc) it a hai its.toArray) he ⟨hit, pt⟩ fun h' eb => ⟨rfl, I.turned (t' := s.toks) (fun b o hb q => eb b o hb q) f0 f1 f3 f4 f5⟩
  self := fun A i s Q E st h => let ⟨⟨_, he⟩, _⟩ := st; wpAny_pyIter_enum he h

set_option maxHeartbeats 4000000 in
theorem meets_enum1 {v : Value} {o : Obj} {H : Heap → Prop} (B : Begins v o H) :
    Meets (Builtin.«enumerate.__new__» ⟨[.type "enumerate", v], []⟩) (fun _ R s => H s.heap ∧
      R (.ok (.ret (.ref (s.heap.push o).objs.size))) { s with heap := (s.heap.push o).push { cls := .type "enumerate", data := .fields #[.none, .bool false, .ref s.heap.objs.size, rawInt 0, .none, .none] } }) :=
  .of_wp fun prog w A R s h => by
    obtain ⟨hp, g, d, tk, os⟩ := s; obtain ⟨h1, h⟩ := h
    have hsub := sub_enumerate
    have q1 : ∀ {A' : Around} {E : Value → Shared → Prop} {Q : Value → Shared → Prop}, Q (.ref hp.objs.size) ⟨hp.push o, g, d, tk, os⟩ → wpAny (model prog w) A' (pyIter v) Q E ⟨hp, g, d, tk, os⟩ :=
      fun q => B.iter prog w _ _ ⟨hp, g, d, tk, os⟩ _ h1 q
    wp_walk using q1
    refine wpAny_stack_any fun st => wpAny_pure ?_
    split
    · rename_i c _ _ _ _ _
      cases (c == Value.type "enumerate")
      · wp_walk using q1
        exact ⟨_, rfl, h⟩
      · wp_walk using q1
        exact ⟨_, rfl, h⟩
    · wp_walk using q1
      exact ⟨_, rfl, h⟩
theorem call_enumT {prog : Program} {w : World} {A : Around} {E : Value → Shared → Prop} {s : Shared} {t : Addr} {items : Array Value} {Q : Value → Shared → Prop} (ht : s.heap.IsTuple t items)
    (h : ∀ h', IsEnum h' (s.heap.objs.size + 1) s.heap.objs.size 0 .none → h'.IsTupleIter s.heap.objs.size t 0 → (∀ b o, s.heap.get? b = some o → h'.get? b = some o) → Q (.ref (s.heap.objs.size + 1)) { s with heap := h' }) :
    wpAny (model prog w) A (call (.type "enumerate") [.ref t]) Q E s := by
  refine callType_new F.called_enumerate (by decide) (F.typeCall_enumerate_1 _) (F.newCall_enumerate_1 _) (fun obj => F.args_object_init_2 obj _) F.entry_enumerate_new (meets_enum1 (begins_tuple t items)) ⟨ht, ?_⟩
  let o : Obj := { cls := .type "tuple_iterator", data := .fields #[.ref t, .int 0 0] }
  have hz : (s.heap.push o).objs.size = s.heap.objs.size + 1 := Heap.size_push ..
  show _ ∧ _
  rw [hz]
  have he : IsEnum ((s.heap.push o).push { cls := .type "enumerate", data := .fields #[.none, .bool false, .ref s.heap.objs.size, rawInt 0, .none, .none] }) (s.heap.objs.size + 1) s.heap.objs.size 0 .none := by
    have := Heap.get?_push_size (s.heap.push o) (o := { cls := .type "enumerate", data := .fields #[.none, .bool false, .ref s.heap.objs.size, rawInt 0, .none, .none] }) rfl
    rw [hz] at this; exact this
  exact ⟨⟨_, he, rfl⟩, h _ he ⟨_, Heap.get?_push_of_some _ (Heap.get?_push_size _ rfl), rfl, rfl⟩ fun b o x => Heap.get?_push_of_some _ (Heap.get?_push_of_some _ x)⟩
section
variable {X : Cx} {k : Kx} {E : XK} {a : Expr} {p0 pos tpos : Pos} {elts : List Expr} {kk : Nat} {f : SF}
def iEnumA (K : PySem.W.Frag) (te : TE) : TI := fun σ H R => te σ H fun v H1 => ∃ (q : Addr) (xs : List V), v = .ref q ∧ ((SqL K H1 q xs ∧ R (IteS fun H xs => SqL K H q xs) H1) ∨ (SqT K H1 q xs ∧ R (IteS fun H xs => SqT K H q xs) H1))
theorem pi_enumA {te : TE} (hg : Gl X "enumerate") (hm : X.mg "enumerate" = none) (he : PE X a te) (hs : starEach [a] X.env = (false, eval a X.env) :: starEach [] X.env) :
    PI X (.Tuple elts kk tpos) (.Call (.Name "enumerate" p0) [a] [] pos) (iEnumA X.K te) := by
  refine ⟨fun pins s σ H R I h => ?_⟩
  refine Call_ (ld_blt I hg hm boot_enumerate (PyProof.Rows.callWith_type1 (args_cons (thn (he.run pins s σ H _ I h) fun u s1 ⟨v, H1, I1, r1, q1⟩ => args_nil ?_) hs) hs rfl))
  obtain ⟨q, xs, rfl, q1⟩ := q1
  cases r1
  have fp : ∀ b ∈ [s1.heap.objs.size + 1, s1.heap.objs.size], FpOk X pins H1 b := fun b hb => by
    have e' : b = s1.heap.objs.size + 1 ∨ b = s1.heap.objs.size := by simpa using hb
    have hle : s1.heap.objs.size ≤ b := by
      rcases e' with z | z
      · rw [z]; exact Nat.le_add_right _ _
      · rw [z]; exact Nat.le_refl _
    exact I1.fpOk hle (I1.hok.fresh hle)
  rcases q1 with ⟨hq, q1⟩ | ⟨hq, q1⟩
  · obtain ⟨its, rv, p', hz⟩ := I1.list hq
    refine call_enumerate_list p'.isList fun h' he hit hsz hk => wpAny_pyIter_enum he ?_
    have I2 : Inv X pins σ H1 { s1 with heap := h' } := I1.kept (t' := s1.toks) hk
    exact ⟨s1.heap.objs.size + 1, [s1.heap.objs.size + 1, s1.heap.objs.size], _, _, H1, rfl, I2, turn_enumL q (s1.heap.objs.size + 1) s1.heap.objs.size, ⟨⟨.none, he⟩, hit, Nat.succ_ne_self _⟩, fp, q1⟩
  · obtain ⟨its, rv, p', hz⟩ := I1.tuple hq
    refine call_enumT (show s1.heap.IsTuple q its.toArray from p') fun h' he hit hk => wpAny_pyIter_enum he ?_
    have I2 : Inv X pins σ H1 { s1 with heap := h' } := I1.kept (t' := s1.toks) hk
    exact ⟨s1.heap.objs.size + 1, [s1.heap.objs.size + 1, s1.heap.objs.size], _, _, H1, rfl, I2, turn_enumT q (s1.heap.objs.size + 1) s1.heap.objs.size, ⟨⟨.none, he⟩, hit, Nat.succ_ne_self _⟩, fp, q1⟩
theorem enmL_length : ∀ (xs : List D) (n : Nat), (enmL xs n).length = xs.length
  | [], _ => rfl
  | x :: xs, n => by show (enmL xs (n + 1)).length + 1 = xs.length + 1; rw [enmL_length xs]
theorem enmL_get : ∀ (xs : List D) (n i : Nat), (enmL xs n)[i]? = xs[i]?.map fun x => .tuple [.int ((n + i : Nat) : Int), x]
  | [], _, _ => by simp [enmL]
  | x :: xs, n, 0 => by simp [enmL]
  | x :: xs, n, i + 1 => by
    show (enmL xs (n + 1))[i]? = _
    rw [enmL_get xs (n + 1) i, show n + 1 + i = n + (i + 1) by omega]
    simp
theorem wk_enum {ex am : List Addr} {M : Mem} {H : Hp} {ds : List D} {vs : List V} {S : Hp → List V → Prop} (rm : RM k.K ex am M H) (r : Rs k.K H (avS ex am M) ds vs) (hS : ∀ am' M' H', F am M H am' M' H' → S H' vs) : Wk k ex am M H (IteS S) (enmL ds 0) := by
  have hl := r.length
  refine ⟨fun ex' i am' M' H' hx rm' f' hi => ?_, fun ex' am' M' H' hx rm' f' => ?_, fun ex' i am' M' H' H2 x hx rm' f' hi y => ?_⟩
  · rw [enmL_length] at hi
    exact ⟨vs, vs[i]'(by omega), hS _ _ _ f', by simp⟩
  · exact ⟨vs, hS _ _ _ f', by rw [enmL_length]; omega⟩
  · rw [enmL_length] at hi
    obtain ⟨T, y, its, rfl, hT, rfl, e2⟩ := y
    have hv' := e2 vs (hS _ _ _ f')
    obtain ⟨v, hv, rv⟩ := ((rm.agrx f' hx).rs _ _ r).get (List.getElem?_eq_getElem hi)
    rw [hv'] at hv
    cases hv
    refine ⟨.tuple [.int i, ds[i]], ?_, ?_, rm'.new _ hT, F.new hT⟩
    · rw [enmL_get, List.getElem?_eq_getElem hi]
      simp
    · exact R.newT rm' hT ⟨_, _, rfl, rfl, _, _, rfl, rv, rfl⟩
theorem si_enm (ck : Ck k X) (bn : Bn X "enumerate") (ha : SE X k E a f) (hs : starEach [a] X.env = (false, eval a X.env) :: starEach [] X.env) : SIt X k E (.Tuple elts kk tpos) (.Call (.Name "enumerate" p0) [a] [] pos) (sEnm f) :=
  PI.imp (pi_enumA bn.gl bn.mg ha hs) fun σ H Rr ⟨ex, am, env, M, rm, re, p⟩ => by
    refine ⟨ex, am, env, M, rm, re, p.bind.mono fun v M1 am1 H1 rm1 f1 p1 x rx => ?_⟩
    split at p1
    · obtain ⟨q, vs, rfl, hq, n, r⟩ := rx
      exact ⟨q, vs, rfl, .inl ⟨.inl (.inl hq), p1.now rm1 _ (wk_enum rm1 r fun am' M' H' f' => .inl (.inl (f'.keep q _ hq fun l => n (.inr l)).1))⟩⟩
    · obtain ⟨q, vs, rfl, hq, r⟩ := rx
      refine ⟨q, vs, rfl, .inr ⟨by rw [ck.K]; exact hq.sq, ?_⟩⟩
      rw [ck.K]
      exact p1.now rm1 _ (wk_enum rm1 r fun am' M' H' f' => ((rm1.agr f').tup q vs hq).sq)
    · exact p1.elim
end
end Mp
end
section
set_option maxHeartbeats 4000000
/-! dict of a list of pairs; new lists by + and turned round. -/
namespace Mp
open PySem PySem.Spec PyProof.Rows L2
section
variable {X : Cx} {k : Kx} {E : XK} {e a b c : Expr} {es : List Expr} {pos p0 p1 p2 p3 : Pos} {f g : SF} {A : SA}

theorem bind_asc {α β γ : Type} (r : Res α) (f : α → Mem → Res β) (g : β → Mem → Res γ) : (r.bind f).bind g = r.bind fun a M => (f a M).bind g := by
  cases r <;> rfl
/-- a new list by + that will be changed -/
theorem se_newCat (hK : X.K = k.K.K) (ha : SE X k E a f) (hb : SE X k E b g) : SE X k E (.BinOp a .Add b pos) (sNew (sBin .add f g)) :=
  PE.imp (pe_op (r := fun x y H Q => ∃ ex am M d1 d2 ds, RM k.K ex am M H ∧ RT k.K H (avS ex am M) d1 x ∧ RT k.K H (avS ex am M) d2 y ∧ binD .add d1 d2 = some (.list ds) ∧
      ∀ p vs, H p = none → Rs k.K H (avS ex am M) ds vs → Q (.ref p) (upd H p (.lst vs))) (by
    intro pins s σ H x y v u Q I rx ry ⟨ex, am, M, d1, d2, ds, rm, ra, rb, hz, q⟩
    obtain ⟨da, db, rfl, rfl, hl, rfl⟩ : ∃ da db, d1 = .list da ∧ d2 = .list db ∧ da.length + db.length ≤ lim ∧ ds = da ++ db := by
      cases d1 <;> cases d2 <;> simp [binD] at hz
      exact ⟨_, _, rfl, rfl, hz.1, hz.2.symm⟩
    obtain ⟨p, xs, rfl, hp, r1⟩ := ra
    obtain ⟨p', ys, rfl, hp', r2⟩ := rb
    exact op_cat pins s σ H _ _ v u Q I rx ry ⟨p, p', xs, ys, rfl, rfl, hp, hp', by rw [← r1.length, ← r2.length]; exact lim_size hl, fun t ht => q t _ ht (r1.append r2)⟩) ha hb) fun σ H Q ⟨ex, am, env, M, rm, re, p⟩ => by
    unfold sNew sBin at p
    rw [bind_asc] at p
    refine ⟨ex, am, env, M, rm, re, p.bind.mono fun v M1 am1 H1 rm1 f1 p1 x rx => ?_⟩
    rw [bind_asc] at p1
    refine ⟨ex, am1, env, M1, rm1, re.step rm f1, p1.bind.mono fun w M2 am2 H2 rm2 f2 p2 y ry => ?_⟩
    cases q1 : rdV M2 v with
    | none => rw [q1] at p2; exact p2.elim
    | some d1 =>
      cases q2 : rdV M2 w with
      | none => rw [q1, q2] at p2; exact p2.elim
      | some d2 =>
        rw [q1, q2] at p2
        dsimp only at p2
        cases q3 : binD .add d1 d2 with
        | none => rw [q3] at p2; exact p2.elim
        | some z =>
          rw [q3] at p2
          rw [ofO, bind_ok, bind_ok] at p2
          cases z with
          | list ds =>
            refine ⟨ex, am2, M2, d1, d2, ds, rm2, rd_of rm2 (rx.step rm1 f2) q1, rd_of rm2 ry q2, q3, fun q vs hq rs => ?_⟩
            have al := rm2.alloc (o := .lst vs) (ob := .lst ds) hq rfl fun H' av' am' g _ hs => ⟨vs, hs, g.rs _ _ rs⟩
            refine p2 _ _ al.1 al.2 _ ⟨q, ?_, rfl⟩
            rw [← rm2.len]
            simp
          | _ => exact p2.elim
/-- .. turned round -/
theorem se_newRev {n : Nat} (ck : Ck k X) (he : SE X k E e f) : SE X k E (.Subscript e (.Slice none none (some (.UnaryOp .USub (.Constant (.int 1) n p1) p2)) p3) pos) (sNew (sRev f)) :=
  PE.imp (pe_revA he) fun σ H Q ⟨ex, am, env, M, rm, re, p⟩ => by
    unfold sNew sRev at p
    rw [bind_asc] at p
    refine ⟨ex, am, env, M, rm, re, p.bind.mono fun v M1 am1 H1 rm1 f1 p1 x rx => ?_⟩
    cases hr : rdV M1 v with
    | none => rw [hr] at p1; exact p1.elim
    | some d =>
      rw [hr] at p1
      have rt := rd_of rm1 rx hr
      cases d with
      | list ds =>
        obtain ⟨q, vs, rfl, hq, r⟩ := rt
        refine ⟨q, vs, rfl, .inl ⟨.inl (.inl hq), fun t ht => ?_⟩⟩
        have al := rm1.alloc (o := .lst vs.reverse) (ob := .lst ds.reverse) ht rfl fun H' av' am' g _ hs => ⟨_, hs, g.rs _ _ r.reverse⟩
        refine p1 _ _ al.1 al.2 _ ⟨t, ?_, rfl⟩
        rw [← rm1.len]
        simp
      | _ => exact p1.elim

/-! ### dict(pairs) -/
theorem keyD_R {K : Kf} {H : Hp} {av : Addr → Prop} {d : D} {v : V} {q : L2.Key} (h : R K H av d v) (e : keyD d = some q) : v = kV q := key_R h e
theorem pairs_are {K : Kf} {H : Hp} {av : Addr → Prop} : ∀ {ds : List D} {vs : List V} {kvs : List (L2.Key × D)}, Rs K H av ds vs → dpairs ds = some kvs →
    ∃ (ps : List Addr) (zs : List (L2.Key × V)), vs = ps.map V.ref ∧ Paired (fun p kv => SqT K.K H p [kV kv.1, kv.2]) ps zs ∧ RK K H av kvs zs
  | [], _, _, h, e => by cases h; cases e; exact ⟨[], [], rfl, .nil, rfl⟩
  | d :: ds, _, kvs, h, e => by
    obtain ⟨v, r, rfl, h1, h2⟩ := h
    unfold dpairs at e
    cases q1 : dpair d with
    | none => rw [q1] at e; cases e
    | some kv =>
      cases q2 : dpairs ds with
      | none => rw [q1, q2] at e; cases e
      | some kvs2 =>
        rw [q1, q2] at e
        cases e
        obtain ⟨ps, zs, rfl, hp, hr⟩ := pairs_are h2 q2
        cases d with
        | tuple xs =>
          cases xs with
          | nil => cases q1
          | cons a t => cases t with
            | nil => cases q1
            | cons b t => cases t with
              | cons _ _ => cases q1
              | nil =>
                obtain ⟨p, us, rfl, hp1, hu⟩ := h1
                obtain ⟨va, ra, rfl, hva, hra⟩ := hu
                obtain ⟨vb, rb, rfl, hvb, hrb⟩ := hra
                cases (show rb = [] from hrb)
                have q1' : (keyD a).map (fun k => (k, b)) = some kv := q1
                obtain ⟨kk, hk, rfl⟩ := Option.map_eq_some_iff.mp q1'
                have e1 := key_R hva hk
                subst e1
                exact ⟨p :: ps, (kk, vb) :: zs, rfl, .cons hp1.sq hp, ⟨vb, zs, rfl, hvb, hr⟩⟩
        | _ => cases q1
theorem RK.merge {K : Kf} {H : Hp} {av : Addr → Prop} : ∀ {kvs : List (L2.Key × D)} {zs : List (L2.Key × V)} {acc : List (L2.Key × D)} {az : List (L2.Key × V)}, RK K H av kvs zs → RK K H av acc az →
    RK K H av (kvs.foldl (fun acc kv => dPut acc kv.1 kv.2) acc) (mergeK az zs)
  | [], _, _, _, h, g => by cases (show _ = [] from h); exact g
  | x :: kvs, _, acc, az, h, g => by
    obtain ⟨v, r, rfl, h1, h2⟩ := h
    exact RK.merge (kvs := kvs) (acc := dPut acc x.1 x.2) (az := putK az x.1 v) h2 (g.put x.1 h1)
theorem vPairs_some {vs : List Val} {kvs : List (L2.Key × D)} (h : vPairs vs = some kvs) : ∃ xs, vs = [.d (.list xs)] ∧ xs.length ≤ lim ∧ dpairs xs = some kvs := by
  obtain ⟨x, rfl, h1⟩ := v1_some h
  cases x with
  | ref _ => cases h1
  | d x => cases x with
    | list xs =>
      have h2 : (if xs.length ≤ lim then dpairs xs else none) = some kvs := h1
      split at h2
      · rename_i hl; exact ⟨xs, rfl, hl, h2⟩
      · cases h2
    | _ => cases h1
end
end Mp
end
section
set_option maxHeartbeats 4000000
/-! dict of a list of pairs, the keys tuples. -/
namespace Mp
open PySem PySem.Spec PyProof.Rows L2
section
variable {X : Cx} {k : Kx} {E : XK} {e a b c : Expr} {es : List Expr} {pos p0 p1 p2 p3 : Pos} {f g : SF} {A : SA}

theorem npairs_are (hK : X.K = k.K.K) {pins : List (Addr × Obj)} {s : Shared} {σ : L2.St} {H : Hp} {av : Addr → Prop} (I : Inv X pins σ H s) : ∀ {ds : List D} {vs : List V} {kvs : List (NestedKey × D)}, Rs k.K H av ds vs → npairs ds = some kvs →
    ∃ (ts : List Addr) (zs : List (NestedKey × Addr × V)) (us : List (NestedKey × Addr × Value)), vs = ts.map V.ref ∧ PN zs us ∧ ts.length = us.length ∧ RD k.K H av kvs zs ∧ (∀ x ∈ us, NestedIs s.heap x.1 (.ref x.2.1) ∧ x.1.depth ≤ 8) ∧
      ∀ (j : Nat) (x : NestedKey × Addr × Value), us[j]? = some x → ∃ t, ts[j]? = some t ∧ IsTup s.heap t #[.ref x.2.1, x.2.2]
  | [], vs, kvs, h, e => by
    obtain rfl : vs = [] := h
    obtain rfl : kvs = [] := (Option.some.inj e).symm
    exact ⟨[], [], [], rfl, .nil, rfl, rfl, ⟨fun x hx => (by cases hx), fun j x hx => (by simp at hx)⟩⟩
  | d :: ds, _, kvs, h, e => by
    obtain ⟨v, r, rfl, h1, h2⟩ := h
    unfold npairs at e
    cases q1 : npair d with
    | none => rw [q1] at e; cases e
    | some kv =>
      cases q2 : npairs ds with
      | none => rw [q1, q2] at e; cases e
      | some kvs2 =>
        rw [q1, q2] at e
        cases e
        obtain ⟨ts, zs, us, rfl, hp, hl, hr, hn, ht⟩ := npairs_are hK I h2 q2
        cases d with
        | tuple xs =>
          cases xs with
          | nil => cases q1
          | cons a t => cases t with
            | nil => cases q1
            | cons b t => cases t with
              | cons _ _ => cases q1
              | nil =>
                obtain ⟨p, ws, rfl, hp1, hu⟩ := h1
                obtain ⟨va, ra, rfl, hva, hra⟩ := hu
                obtain ⟨vb, rb, rfl, hvb, hrb⟩ := hra
                cases (show rb = [] from hrb)
                have q1' : (nkT a).map (fun k => (k, b)) = some kv := q1
                obtain ⟨kk, hk, rfl⟩ := Option.map_eq_some_iff.mp q1'
                obtain ⟨e1, e2⟩ := nkT_data hk
                obtain ⟨bq, rfl⟩ : ∃ bq, va = .ref bq := by
                  cases a with
                  | tuple xs => obtain ⟨bq, _, e, _⟩ := hva; exact ⟨bq, e⟩
                  | _ => cases hk
                have hsq := hp1.sq
                rw [← hK] at hsq
                obtain ⟨its, rv, htup, _⟩ := I.tuple hsq
                obtain ⟨u, y, ei, ru, ry⟩ := vals2 rv
                subst ei
                cases (show u = Value.ref bq from ru)
                have hnest := nest_is hK I kk (.ref bq) (.ref bq) (by rw [e1]; exact hva) rfl
                refine ⟨p :: ts, (kk, bq, vb) :: zs, (kk, bq, y) :: us, rfl, .cons ⟨rfl, rfl, ry⟩ hp, by rw [List.length_cons, List.length_cons, hl], ⟨bq, vb, zs, rfl, e2, by rw [e1]; exact hva, hvb, hr⟩, fun x hx => ?_, fun j x hx => ?_⟩
                · rcases List.mem_cons.mp hx with rfl | hx
                  · exact ⟨hnest, e2⟩
                  · exact hn x hx
                · cases j with
                  | zero =>
                    have e' : (kk, bq, y) = x := Option.some.inj hx
                    subst e'
                    exact ⟨p, rfl, htup⟩
                  | succ j =>
                    obtain ⟨t, g1, g2⟩ := ht j x (by simpa using hx)
                    exact ⟨t, by simpa using g1, g2⟩
        | _ => cases q1
def putAllN (xs ps : List (NestedKey × Addr × V)) : List (NestedKey × Addr × V) := ps.foldl (fun acc p => putN acc p.1 p.2.1 p.2.2) xs
theorem PN.all : ∀ {zs : List (NestedKey × Addr × V)} {us : List (NestedKey × Addr × Value)} {xs : List (NestedKey × Addr × V)} {ws : List (NestedKey × Addr × Value)}, PN zs us → PN xs ws → PN (putAllN xs zs) (storedAllH ws us)
  | _, _, _, _, .nil, g => g
  | _, _, xs, ws, .cons (a := z) (b := u) p t, g => by
    obtain ⟨p1, p2, p3⟩ := p
    show PN (putAllN (putN xs z.1 z.2.1 z.2.2) _) (storedAllH (storedH ws u.1 u.2.1 u.2.2) _)
    rw [← p1, ← p2]
    exact PN.all t (g.put p3)
theorem RD.all {K : Kf} {H : Hp} {av : Addr → Prop} : ∀ {kvs : List (NestedKey × D)} {zs : List (NestedKey × Addr × V)} {acc : List (NestedKey × D)} {xs : List (NestedKey × Addr × V)}, RD K H av kvs zs → RD K H av acc xs →
    RD K H av (kvs.foldl (fun acc kv => dPut acc kv.1 kv.2) acc) (putAllN xs zs)
  | [], _, _, _, h, g => by cases (show _ = [] from h); exact g
  | x :: kvs, _, acc, xs, h, g => by
    obtain ⟨q, v, r, rfl, h0, h1, h2, h3⟩ := h
    exact RD.all (kvs := kvs) (acc := dPut acc x.1 x.2) (xs := putN xs x.1 q v) h3 (g.put h0 h1 h2)
theorem putAllN_len : ∀ (ps xs : List (NestedKey × Addr × V)), (putAllN xs ps).length ≤ xs.length + ps.length
  | [], xs => Nat.le_refl _
  | p :: ps, xs => by
    have h1 := putAllN_len ps (putN xs p.1 p.2.1 p.2.2)
    have h2 := putN_len (xs := xs) (q := p.1) (b := p.2.1) (v := p.2.2)
    show (putAllN (putN xs p.1 p.2.1 p.2.2) ps).length ≤ _
    rw [List.length_cons]
    omega
def rDT (k : Kx) : List V → Hp → VK → Prop := fun xs H Q => ∃ (av : Addr → Prop) (ds : List D) (kvs : List (NestedKey × D)) (a : Addr) (vs : List V), xs = [.ref a] ∧ H a = some (.lst vs) ∧ Rs k.K H av ds vs ∧ npairs ds = some kvs ∧
  ∀ p zs, H p = none → RD k.K H av (dAllT kvs) zs → Q (.ref p) (upd H p (dN k.K p zs))
theorem call_dictT (ck : Ck k X) : CallR X (.type "dict") (rDT k) := by
  intro pins s σ H xs us Q I r q
  obtain ⟨av, ds, kvs, a, vs, ex, ha, hr, hn, q⟩ := q
  subst ex
  obtain ⟨u, eu, rx⟩ := vals1 r
  subst eu
  cases rx
  obtain ⟨ts, zs, ws, rfl, hpn, hl, hrd, hnest, htup⟩ := npairs_are (k := k) ck.K I hr hn
  obtain ⟨its, rv, pl, hz⟩ := I.list (show SqL X.K H a (ts.map V.ref) from .inl (.inl ha))
  have ei := refs_at rv
  subst ei
  rw [List.length_map] at hz
  obtain ⟨o, n, ho, hc, hd, hdat⟩ := pl
  have hm : (s.heap.objs.size == sysModules) = false := beq_eq_false_iff_ne.mpr (Nat.ne_of_gt I.big)
  have hzl : zs.length = ws.length := by have := congrArg List.length (PN.keys hpn); simpa using this.symm
  have hPl : (ws.map fun x => (Value.ref x.2.1, x.2.2)).length = ws.length := List.length_map _
  have P := PairArg.list (prog := X.prog) (w := X.w) a (ts.map Value.ref).toArray (fun j => ts.getD j 0) (ws.map fun x => (Value.ref x.2.1, x.2.2))
  refine call_dict_pairsH (knd := nestedKind X.prog X.w) (ps := ws) P (I.ok.hd ck.calm) (by show X.A.units + 1 + 1 + 8 < cLine; have := ck.hu; omega) ⟨⟨o, n, ho, hc, hd, hdat⟩, ⟨by simp [hl], fun j kk v hj => ?_⟩⟩ ⟨hPl.symm, fun i key v hi => ?_⟩ ?_ (by rw [hPl, ← hl]; exact hz) fun h' tk hd' hk => ?_
  · rw [List.getElem?_map] at hj
    obtain ⟨x, hx, e⟩ := Option.map_eq_some_iff.mp hj
    cases e
    obtain ⟨t, ht1, ht2⟩ := htup j x hx
    have e1 : ts.getD j 0 = t := by rw [List.getD_eq_getElem?_getD, ht1]; rfl
    obtain ⟨o2, ho2, hc2, n2, hd2⟩ := ht2
    exact ⟨by simp [ht1, e1], .inl (by show s.heap.IsTuple (ts.getD j 0) _; rw [e1]; exact ⟨o2, ho2, hc2, n2, hd2⟩)⟩
  · have hi' : (ws.map fun x => (Value.ref x.2.1, x.2.2))[i]? = some (key, v) := hi
    rw [List.getElem?_map] at hi'
    obtain ⟨x, hx, e⟩ := Option.map_eq_some_iff.mp hi'
    cases e
    exact ⟨x.1, x.2.1, hx, rfl⟩
  · intro h' hk x hx
    obtain ⟨g1, g2⟩ := hnest x hx
    exact ⟨NestedIs.at (fun b ob vs n hb _ => hk b ob (Nat.ne_of_lt (Heap.lt_size hb)) (by simp) hb) _ _ g1, g2⟩
  · have hpa : PN (putAllN [] zs) (storedAllH [] ws) := PN.all hpn .nil
    have hlen : (putAllN [] zs).length ≤ sizeLine := by
      have := putAllN_len zs []
      rw [List.length_nil, Nat.zero_add] at this
      omega
    exact ⟨.ref s.heap.objs.size, upd H s.heap.objs.size (dN k.K s.heap.objs.size (putAllN [] zs)), I.laid (t' := tk) (fun b o e => hk b o (by simp) e) (Nat.le_refl _) (dN_ok ck.P ck.w hm hlen hpa hd'), rfl, q _ _ (I.hok.fresh (Nat.le_refl _)) (RD.all hrd (show RD _ _ _ [] [] from rfl))⟩
theorem vPairsT_some {vs : List Val} {kvs : List (NestedKey × D)} (h : vPairsT vs = some kvs) : ∃ xs, vs = [.d (.list xs)] ∧ xs.length ≤ lim ∧ npairs xs = some kvs := by
  obtain ⟨x, rfl, h1⟩ := v1_some h
  cases x with
  | ref _ => cases h1
  | d x => cases x with
    | list xs =>
      have h2 : (if xs.length ≤ lim then npairs xs else none) = some kvs := h1
      split at h2
      · rename_i hl; exact ⟨xs, rfl, hl, h2⟩
      · cases h2
    | _ => cases h1
def rDP (X : Cx) : List V → Hp → VK → Prop := fun xs H Q => ∃ (a : Addr) (ps : List Addr) (kvs : List (L2.Key × V)), xs = [.ref a] ∧ SqL X.K H a (ps.map V.ref) ∧ Paired (fun p kv => SqT X.K H p [kV kv.1, kv.2]) ps kvs ∧ ∀ p, H p = none → Q (.ref p) (upd H p (.dK (mergeK [] kvs)))
theorem call_dictE (ck : Ck k X) : CallR X (.type "dict") (fun xs H Q => rDP X xs H Q ∨ rDT k xs H Q) := by
  intro pins s σ H xs us Q I r q
  rcases q with q | q
  · exact call_dictP ck.calm pins s σ H xs us Q I r q
  · exact call_dictT ck pins s σ H xs us Q I r q
theorem se_dcp (ck : Ck k X) (bn : Bn X ("dict" : Str)) (ha : SAs X k E (e :: es) A) (he : starEach (e :: es) X.env = (false, eval e X.env) :: starEach es X.env) (hpl : (backTo pos (starEach es X.env)).any (·.1) = false) :
    SE X k E (.Call (.Name ("dict" : Str) p0) (e :: es) [] pos) (sDcp A) :=
  PE.imp (pe_callTy (call_dictE ck) bn.gl bn.mg (by decide +kernel) ha (by decide +kernel) (by decide +kernel) he hpl) fun σ H Q ⟨ex, am, env, M, rm, re, p⟩ => by
    refine ⟨ex, am, env, M, rm, re, p.bind.mono fun vs M1 am1 H1 rm1 f1 p1 xs rxs => ?_⟩
    unfold dcpO at p1
    cases q : vPairs vs with
    | some kvs =>
      rw [q] at p1
      obtain ⟨ys, rfl, hl, hp⟩ := vPairs_some q
      obtain ⟨v, r, rfl, h1, h2⟩ := rxs
      cases (show r = [] from h2)
      obtain ⟨a, us, rfl, hq, na, rs⟩ := h1
      obtain ⟨ps, zs, rfl, hpp, hrk⟩ := pairs_are rs hp
      refine .inl ⟨a, ps, zs, rfl, .inl (.inl hq), by rw [ck.K]; exact hpp, fun t ht => ?_⟩
      have al := rm1.alloc (o := .dK (mergeK [] zs)) (ob := .dK (dAll kvs)) ht rfl fun H' av' am' g _ hs => ⟨_, hs, g.rk _ _ (RK.merge hrk (show RK _ _ _ [] [] from rfl))⟩
      refine p1 _ _ al.1 al.2 _ ⟨t, ?_, rfl⟩
      rw [← rm1.len]
      simp
    | none =>
      rw [q] at p1
      cases q2 : vPairsT vs with
      | none => rw [q2] at p1; exact p1.elim
      | some kvs =>
        rw [q2] at p1
        obtain ⟨ys, rfl, hl, hp⟩ := vPairsT_some q2
        obtain ⟨v, r, rfl, h1, h2⟩ := rxs
        cases (show r = [] from h2)
        obtain ⟨a, us, rfl, hq, na, rs⟩ := h1
        refine .inr ⟨avS ex am1 M1, ys, kvs, a, us, rfl, hq, rs, hp, fun t zs ht hrd => ?_⟩
        have al := rm1.alloc (o := dN k.K t zs) (ob := .dT (dAllT kvs)) ht rfl fun H' av' am' g _ hs => ⟨_, hs, g.rd _ _ hrd⟩
        refine p1 _ _ al.1 al.2 _ ⟨t, ?_, rfl⟩
        rw [← rm1.len]
        simp
/-- list(x), new, that will be changed -/
def rNL (k : Kx) : List V → Hp → VK → Prop := fun xs H Q => ∃ (ex am : List Addr) (M : Mem) (vs : List Val) (ds : List D), RM k.K ex am M H ∧ RVs k.K H (avS ex am M) am vs xs ∧ biV .list M vs = some (.list ds) ∧ ∀ p us, H p = none → Rs k.K H (avS ex am M) ds us → Q (.ref p) (upd H p (.lst us))
theorem c_newList (ck : Ck k X) : CallR X (.type "list") (rNL k) := by
  intro pins s σ H xs us Q I rr ⟨ex, am, M, vs, ds, rm, rv, hz, q⟩
  obtain ⟨es, hd, hz⟩ := bi_data hz
  have pr := rds_of rm rv hd
  obtain ⟨d, rfl, hz⟩ := d1_some hz
  obtain ⟨ys, he, hz⟩ := dSeq_some hz
  cases hz
  rcases he with rfl | rfl
  · obtain ⟨x, rfl, p, ws, rfl, hp, r⟩ := pair1 pr
    exact call_list_of pins s σ H _ us Q I rr ⟨p, ws, rfl, .inl (.inl (.inl hp)), fun t ht => q t _ ht r⟩
  · obtain ⟨x, rfl, p, ws, rfl, hp, r⟩ := pair1 pr
    exact call_list_of pins s σ H _ us Q I rr ⟨p, ws, rfl, .inr (by rw [ck.K]; exact hp.sq), fun t ht => q t _ ht r⟩
theorem se_newList (ck : Ck k X) (bn : Bn X ("list" : Str)) (ha : SAs X k E (e :: es) A) (he : starEach (e :: es) X.env = (false, eval e X.env) :: starEach es X.env) (hpl : (backTo pos (starEach es X.env)).any (·.1) = false) :
    SE X k E (.Call (.Name ("list" : Str) p0) (e :: es) [] pos) (sNew (sBi .list A)) :=
  PE.imp (pe_callTy (c_newList ck) bn.gl bn.mg (by decide +kernel) ha (by decide +kernel) (by decide +kernel) he hpl) fun σ H Q ⟨ex, am, env, M, rm, re, p⟩ => by
    unfold sNew sBi at p
    rw [bind_asc] at p
    refine ⟨ex, am, env, M, rm, re, p.bind.mono fun vs M1 am1 H1 rm1 f1 p1 xs rxs => ?_⟩
    cases q : biV .list M1 vs with
    | none => rw [q] at p1; exact p1.elim
    | some z =>
      rw [q] at p1
      rw [ofO, bind_ok, bind_ok] at p1
      cases z with
      | list ds =>
        refine ⟨ex, am1, M1, vs, ds, rm1, rxs, q, fun t us ht rs => ?_⟩
        have al := rm1.alloc (o := .lst us) (ob := .lst ds) ht rfl fun H' av' am' g _ hs => ⟨us, hs, g.rs _ _ rs⟩
        refine p1 _ _ al.1 al.2 _ ⟨t, ?_, rfl⟩
        rw [← rm1.len]
        simp
      | _ => exact p1.elim
end
end Mp
end
section
set_option maxHeartbeats 4000000
/-! Calls of the text's defs; a def's body keeps its promise. -/
namespace Mp
open PySem PySem.Spec PyProof.Rows L2

/-- a def's promise -/
def spC (k : Kx) (C : CT) (j : Nat) : Sp := fun vs H Q E => ∃ ex am M us, RM k.K ex am M H ∧ RVs k.K H (avS ex am M) am us vs ∧ Po k ex am M H E (C j us M) (okV k ex Q)

/-! ### keywords -/
def gP {α : Type} (np nk : Nat) (perm : List Nat) (us ws : List α) : List α := if us.length = np ∧ ws.length = nk then perm.filterMap fun i => (us ++ ws)[i]? else []
theorem kb_mk {K : PySem.W.Frag} {fd : FuncData} {ps ks : List Str} {np nk : Nat} {perm : List Nat} (h0 : ps ≠ []) (h : ∀ us ws : List Value, us.length = np → ws.length = nk → bindArgs fd ⟨us, ks.zip ws⟩ = pure (ps.zip (gP np nk perm us ws))) :
    KBinds K fd ps ks (gP np nk perm) (gP np nk perm) := by
  refine ⟨fun s us ws _ hl => ?_, fun {vs us zs ws} r rz => ?_⟩
  · by_cases hc : us.length = np ∧ ws.length = nk
    · exact .of_eq (h us ws hc.1 hc.2)
    · unfold gP at hl
      rw [if_neg hc] at hl
      exact absurd (List.eq_nil_of_length_eq_zero hl.symm) h0
  · unfold gP
    have e1 := r.length
    have e2 := rz.length
    have e3 : (vs.length = np ∧ zs.length = nk) ↔ (us.length = np ∧ ws.length = nk) := by rw [e1, e2]
    by_cases hc : vs.length = np ∧ zs.length = nk
    · rw [if_pos hc, if_pos (e3.mp hc)]
      have ra := r.append rz
      clear hc e1 e2 e3 h h0
      induction perm with
      | nil => exact .nil
      | cons i perm ih =>
        cases hv : (vs ++ zs)[i]? with
        | none =>
          have : (us ++ ws)[i]? = none := by
            rw [List.getElem?_eq_none_iff] at hv ⊢
            have := ra.length
            omega
          rw [List.filterMap_cons_none hv, List.filterMap_cons_none this]
          exact ih
        | some x =>
          obtain ⟨u, hu, ru⟩ := ra.get hv
          rw [List.filterMap_cons_some hv, List.filterMap_cons_some hu]
          exact .cons ru ih
    · rw [if_neg hc, if_neg fun z => hc (e3.mpr z)]
      exact .nil

structure KShape where
  j : Nat
  np : Nat
  ks : List Str
  perm : List Nat

/-- the text's defs, as they may be called here -/
structure Cl (k : Kx) (X : Cx) (E : XK) (C : CT) (n : Nat) (tb : List (Str × List Str)) (kb : List KShape) : Prop where
  fn : ∀ (j : Nat) (x : Str) (ps : List Str), tb[j]? = some (x, ps) → ∃ f fd, FnOk X.prog X.w X.K X.mg X.base (L2.CX X.prog X.w) n f fd ps (spC k C j) ∧ X.mg x = some (.ref f) ∧ PySem.W.keepIn X.K (.ref f) = true ∧ Binds X.K fd ps [] ∧
    ∀ sh ∈ kb, sh.j = j → KBinds X.K fd ps sh.ks (gP sh.np sh.ks.length sh.perm) (gP sh.np sh.ks.length sh.perm)
  room : Room n X.A
  pass : Passes (L2.CX X.prog X.w) X E

section
variable {X : Cx} {k : Kx} {E : XK} {C : CT} {n : Nat} {tb : List (Str × List Str)} {kb : List KShape} {e : Expr} {es : List Expr} {pos p0 kpos : Pos} {f g : SF} {A B : SA}
theorem se_call {j : Nat} {x : Str} {ps : List Str} (cl : Cl k X E C n tb kb) (hj : tb[j]? = some (x, ps)) (hg : Gl X x) (ha : SAs X k E (e :: es) A) (hdb : (x == ("__debug__" : Str)) = false) (he : starEach (e :: es) X.env = (false, eval e X.env) :: starEach es X.env)
    (hpl : (backTo pos (starEach es X.env)).any (·.1) = false) : SE X k E (.Call (.Name x p0) (e :: es) [] pos) (sCall C j A) := by
  obtain ⟨fa, fd, F, hm, hk, hb, _⟩ := cl.fn j x ps hj
  refine PE.imp (pe_call F cl.room hg hm hk hb .nil cl.pass ha hdb he hpl) fun σ H Q ⟨ex, am, env, M, rm, re, p⟩ => ?_
  refine ⟨ex, am, env, M, rm, re, p.bind.mono fun vs M1 am1 H1 rm1 f1 p1 xs rxs => ?_⟩
  show spC k C j (xs ++ []) H1 Q E
  rw [List.append_nil]
  exact ⟨ex, am1, M1, vs, rm1, rxs, p1⟩
theorem se_call0 {j : Nat} {x : Str} {ps : List Str} (cl : Cl k X E C n tb kb) (hj : tb[j]? = some (x, ps)) (hg : Gl X x) (hdb : (x == ("__debug__" : Str)) = false) : SE X k E (.Call (.Name x p0) [] [] pos) (sCall C j sNil) := by
  obtain ⟨fa, fd, F, hm, hk, hb, _⟩ := cl.fn j x ps hj
  refine PE.imp (pe_call0 F cl.room hg hm hk hb .nil cl.pass hdb) fun σ H Q ⟨ex, am, env, M, rm, re, p⟩ => ?_
  exact ⟨ex, am, M, [], rm, rfl, p⟩
abbrev SKs (X : Cx) (k : Kx) (E : XK) (es : List Keyword) (g : SA) : Prop := PK X es (tA k E g)
theorem PK.imp {X : Cx} {e : List Keyword} {t t' : TA} (h : PK X e t) (i : ∀ σ H Q, t' σ H Q → t σ H Q) : PK X e t' := ⟨fun pos pins s σ H Q I q => h.run pos pins s σ H Q I (i σ H Q q)⟩
theorem sk_nil : SKs X k E [] sNil := PK.imp pk_nil fun σ H Q ⟨ex, am, env, M, rm, re, p⟩ => p.now rm _ rfl
theorem sk_cons {nm : Option Str} {kws : List Keyword} (he : SE X k E e f) (hr : SKs X k E kws A) : SKs X k E (⟨nm, e, kpos⟩ :: kws) (sCons f A) :=
  PK.imp (pk_cons he hr) fun σ H Q ⟨ex, am, env, M, rm, re, p⟩ => by
    refine ⟨ex, am, env, M, rm, re, p.bind.mono fun v M1 am1 H1 rm1 f1 p1 x rx => ?_⟩
    refine ⟨ex, am1, env, M1, rm1, re.step rm f1, p1.bind.mono fun vs M2 am2 H2 rm2 f2 p2 xs rxs => ?_⟩
    exact p2.now rm2 (x :: xs) ⟨x, xs, rfl, rx.step rm1 f2, rxs⟩
theorem RVs.append {K : Kf} {H : Hp} {av : Addr → Prop} {am : List Addr} : ∀ {ds es : List Val} {vs us : List V}, RVs K H av am ds vs → RVs K H av am es us → RVs K H av am (ds ++ es) (vs ++ us)
  | [], _, _, _, h, g => by cases (show _ = [] from h); exact g
  | d :: ds, es, _, us, h, g => by
    obtain ⟨v, r, e, h1, h2⟩ := h
    subst e
    exact ⟨v, r ++ us, rfl, h1, RVs.append h2 g⟩
theorem permV_R {K : Kf} {H : Hp} {av : Addr → Prop} {am : List Addr} {vs : List Val} {xs : List V} (r : RVs K H av am vs xs) : ∀ {perm : List Nat} {us : List Val}, permV vs perm = some us → RVs K H av am us (perm.filterMap fun i => xs[i]?)
  | [], us, h => by cases h; rfl
  | i :: perm, us, h => by
    unfold permV at h
    cases h1 : vs[i]? with
    | none => rw [h1] at h; cases h
    | some v =>
      cases h2 : permV vs perm with
      | none => rw [h1, h2] at h; cases h
      | some ws =>
        rw [h1, h2] at h
        cases h
        obtain ⟨x, hx, rx⟩ := r.get h1
        rw [List.filterMap_cons_some hx]
        exact ⟨x, _, rfl, rx, permV_R r h2⟩
theorem sCallk_len {np nk : Nat} : True := trivial
theorem se_callk {j : Nat} {x : Str} {ps : List Str} {sh : KShape} {kws : List Keyword} (cl : Cl k X E C n tb kb) (hj : tb[j]? = some (x, ps)) (hs : sh ∈ kb) (hsj : sh.j = j) (hg : Gl X x) (ha : SAs X k E (e :: es) A) (hkw : SKs X k E kws B)
    (hla : ∀ env M vs M', A env M = .ok vs M' → vs.length = sh.np) (hlb : ∀ env M vs M', B env M = .ok vs M' → vs.length = sh.ks.length)
    (hall : (backToKw pos (keywordEach kws X.env)).all (·.1.isSome) = true) (hks : (backToKw pos (keywordEach kws X.env)).filterMap (·.1) = sh.ks)
    (hdb : (x == ("__debug__" : Str)) = false) (he : starEach (e :: es) X.env = (false, eval e X.env) :: starEach es X.env)
    (hpl : ((backTo pos (starEach (e :: es) X.env)).any (·.1) || (backToKw pos (keywordEach kws X.env)).any (·.1.isNone)) = false) : SE X k E (.Call (.Name x p0) (e :: es) kws pos) (sCallk C j A B sh.perm) := by
  obtain ⟨fa, fd, F, hm, hk, _, hb⟩ := cl.fn j x ps hj
  refine PE.imp (pe_callK F cl.room hg hm hk (hb sh hs hsj) cl.pass ha hkw hall hks hdb he hpl) fun σ H Q ⟨ex, am, env, M, rm, re, p⟩ => ?_
  have h1 : Po k ex am M H E (A env M) (fun vs M1 am1 H1 => vs.length = sh.np ∧ Po k ex am1 M1 H1 E ((B env M1).bind fun ws M2 => match permV (vs ++ ws) sh.perm with | some us => C j us M2 | none => .no) (okV k ex Q)) := by
    have p' := p.bind
    cases hA : A env M with
    | ok vs M1 => rw [hA] at p'; exact fun am1 H1 rm1 f1 => ⟨hla _ _ _ _ hA, p' am1 H1 rm1 f1⟩
    | ex e1 M1 => rw [hA] at p'; exact p'
    | no => rw [hA] at p'; exact p'
  refine ⟨ex, am, env, M, rm, re, h1.mono fun vs M1 am1 H1 rm1 f1 ⟨hl1, p1⟩ xs rxs => ?_⟩
  have h2 : Po k ex am1 M1 H1 E (B env M1) (fun ws M2 am2 H2 => ws.length = sh.ks.length ∧ Po k ex am2 M2 H2 E (match permV (vs ++ ws) sh.perm with | some us => C j us M2 | none => .no) (okV k ex Q)) := by
    have p' := p1.bind
    cases hB : B env M1 with
    | ok ws M2 => rw [hB] at p'; exact fun am1 H1 rm1 f1 => ⟨hlb _ _ _ _ hB, p' am1 H1 rm1 f1⟩
    | ex e1 M1 => rw [hB] at p'; exact p'
    | no => rw [hB] at p'; exact p'
  refine ⟨ex, am1, env, M1, rm1, re.step rm f1, h2.mono fun ws M2 am2 H2 rm2 f2 ⟨hl2, p2⟩ ys rys => ?_⟩
  cases hp : permV (vs ++ ws) sh.perm with
  | none => rw [hp] at p2; exact p2.elim
  | some us =>
    rw [hp] at p2
    have rr := (rxs.step rm1 f2).append rys
    have e3 : xs.length = sh.np ∧ ys.length = sh.ks.length := ⟨by rw [← rxs.length]; exact hl1, by rw [← rys.length]; exact hl2⟩
    refine ⟨ex, am2, M2, us, rm2, ?_, p2⟩
    unfold gP
    rw [if_pos e3]
    exact permV_R rr hp
/-- f(k = v, ..) -/
theorem se_callk0 {j : Nat} {x : Str} {ps : List Str} {sh : KShape} {kws : List Keyword} (cl : Cl k X E C n tb kb) (hj : tb[j]? = some (x, ps)) (hs : sh ∈ kb) (hsj : sh.j = j) (h0 : sh.np = 0) (hg : Gl X x) (hkw : SKs X k E kws B)
    (hlb : ∀ env M vs M', B env M = .ok vs M' → vs.length = sh.ks.length) (hall : (backToKw pos (keywordEach kws X.env)).all (·.1.isSome) = true) (hks : (backToKw pos (keywordEach kws X.env)).filterMap (·.1) = sh.ks)
    (hdb : (x == ("__debug__" : Str)) = false) (hpl : ((backTo pos (starEach [] X.env)).any (·.1) || (backToKw pos (keywordEach kws X.env)).any (·.1.isNone)) = false) : SE X k E (.Call (.Name x p0) [] kws pos) (sCallk C j sNil B sh.perm) := by
  obtain ⟨fa, fd, F, hm, hk, _, hb⟩ := cl.fn j x ps hj
  refine ⟨fun pins s σ H Q I ⟨ex, am, env, M, rm, re, p⟩ => ?_⟩
  have p1 : Po k ex am M H E ((B env M).bind fun ws M2 => match permV ([] ++ ws) sh.perm with | some us => C j us M2 | none => .no) (okV k ex Q) := p
  have h2 : Po k ex am M H E (B env M) (fun ws M2 am2 H2 => ws.length = sh.ks.length ∧ Po k ex am2 M2 H2 E (match permV ([] ++ ws) sh.perm with | some us => C j us M2 | none => .no) (okV k ex Q)) := by
    have p' := p1.bind
    cases hB : B env M with
    | ok ws M2 => rw [hB] at p'; exact fun am1 H1 rm1 f1 => ⟨hlb _ _ _ _ hB, p' am1 H1 rm1 f1⟩
    | ex e1 M1 => rw [hB] at p'; exact p'
    | no => rw [hB] at p'; exact p'
  have h3 : tA k E B σ H fun zs H2 => spC k C j (gP sh.np sh.ks.length sh.perm [] zs) H2 Q E := by
    refine ⟨ex, am, env, M, rm, re, h2.mono fun ws M2 am2 H2 rm2 f2 ⟨hl2, p2⟩ ys rys => ?_⟩
    cases hp : permV ([] ++ ws) sh.perm with
    | none => rw [hp] at p2; exact p2.elim
    | some us =>
      rw [hp] at p2
      have e3 : ([] : List V).length = sh.np ∧ ys.length = sh.ks.length := ⟨by rw [h0]; rfl, by rw [← rys.length]; exact hl2⟩
      refine ⟨ex, am2, M2, us, rm2, ?_, p2⟩
      unfold gP
      rw [if_pos e3]
      exact permV_R (vs := [] ++ ws) (xs := [] ++ ys) rys hp
  refine wpAny_Call_Name_kw (ld_glob I hg hm ?_ hdb)
  refine PySem.W.callWith_KW0 (h₀ := X.base) I.ok.mod.kin hk hall ?_ hpl
  refine thn (hkw.run pos pins s σ H _ I h3) fun ws s2 ⟨zs, H2, I2, rz, q2⟩ => ⟨I2.kIn, ?_⟩
  rw [hks]
  exact run_fnk F cl.room (hb sh hs hsj) cl.pass I2 .nil rz q2
end

/-! ### letting go -/
theorem live_take {am more : List Addr} {M1 : Mem} {a : Addr} {n : Nat} (hn : am.length = n) (l : live am (M1.take n) a) : live (am ++ more) M1 a := by
  obtain ⟨i, ob, h1, h2, h3⟩ := l
  have hi : i < n := by rw [← hn]; exact (List.getElem?_eq_some_iff.mp h1).1
  rw [List.getElem?_take_of_lt hi] at h2
  exact ⟨i, ob, by rw [List.getElem?_append_left (by omega)]; exact h1, h2, h3⟩
theorem RV.take {K : Kf} {H : Hp} {av av' : Addr → Prop} {am more : List Addr} {n : Nat} (hn : am.length = n) (g : Agr K H av H av') {v : Val} {x : V} (hv : okRef n v = true) (r : RV K H av (am ++ more) v x) : RV K H av' am v x := by
  cases v with
  | d d => exact g.r d x r
  | ref i =>
    obtain ⟨a, ha, e⟩ := r
    have hi : i < n := of_decide_eq_true hv
    exact ⟨a, by rw [List.getElem?_append_left (by omega)] at ha; exact ha, e⟩
theorem RVs.take {K : Kf} {H : Hp} {av av' : Addr → Prop} {am more : List Addr} {n : Nat} (hn : am.length = n) (g : Agr K H av H av') : ∀ {vs : List Val} {xs : List V}, (∀ v ∈ vs, okRef n v = true) → RVs K H av (am ++ more) vs xs → RVs K H av' am vs xs
  | [], _, _, r => r
  | v :: vs, _, hv, r => by
    obtain ⟨x, t, e, r1, r2⟩ := r
    exact ⟨x, t, e, RV.take hn g (hv v List.mem_cons_self) r1, RVs.take hn g (fun w hw => hv w (List.mem_cons_of_mem _ hw)) r2⟩
theorem RM.take {K : Kf} {ex am more : List Addr} {M1 : Mem} {H : Hp} {n : Nat} (hn : am.length = n) (m : RM K ex (am ++ more) M1 H) : RM K ex am (M1.take n) H ∧ Agr K H (avS ex (am ++ more) M1) H (avS ex am (M1.take n)) := by
  have hl : M1.length = n + more.length := by rw [← m.len, List.length_append, hn]
  have g : Agr K H (avS ex (am ++ more) M1) H (avS ex am (M1.take n)) := ⟨fun _ _ h => h, fun a vs h nl => ⟨h, fun l => nl (l.elim .inl fun z => .inr (live_take hn z))⟩⟩
  refine ⟨⟨by rw [List.length_take]; omega, fun i ob a h1 h2 => ?_, fun i j a ob1 ob2 h1 h2 h3 h4 h5 h6 => ?_, fun a h l => m.exL a h (live_take hn l), m.exH⟩, g⟩
  · have hi : i < n := by rw [← hn]; exact (List.getElem?_eq_some_iff.mp h2).1
    rw [List.getElem?_take_of_lt hi] at h1
    have h2' : (am ++ more)[i]? = some a := by rw [List.getElem?_append_left (by omega)]; exact h2
    have q := m.obj i ob a h1 h2'
    cases ob with
    | lst xs => obtain ⟨vs, e, r⟩ := q; exact ⟨vs, e, g.rs _ _ r⟩
    | box xs =>
      obtain ⟨vs, e, r, w⟩ := q
      refine ⟨vs, e, RVs.take hn g (fun v hv => ?_) r, w⟩
      have := w v hv
      cases v with
      | d _ => rfl
      | ref j => exact decide_eq_true (Nat.lt_trans (of_decide_eq_true this) hi)
    | dK xs => obtain ⟨vs, e, r⟩ := q; exact ⟨vs, e, g.rk _ _ r⟩
    | dT xs => obtain ⟨vs, e, r⟩ := q; exact ⟨vs, e, g.rd _ _ r⟩
    | ins c fs => exact q.elim
    | scr xs => obtain ⟨vs, e, r⟩ := q; exact ⟨vs, e, g.rs _ _ r⟩
    | dead => trivial
  · have lt : ∀ {i : Nat} {a : Addr}, am[i]? = some a → i < n := fun h => by rw [← hn]; exact (List.getElem?_eq_some_iff.mp h).1
    rw [List.getElem?_take_of_lt (lt h1)] at h3
    rw [List.getElem?_take_of_lt (lt h2)] at h4
    have up : ∀ {i : Nat} {a : Addr}, am[i]? = some a → (am ++ more)[i]? = some a := fun h => by rw [List.getElem?_append_left (by have := lt h; omega)]; exact h
    exact m.inj i j a _ _ (up h1) (up h2) h3 h4 h5 h6
theorem F.take {am more : List Addr} {M M1 : Mem} {H H1 : Hp} {n : Nat} (hn : am.length = n) (f : F am M H (am ++ more) M1 H1) : F am M H am (M1.take n) H1 :=
  ⟨fun a o h nl => let ⟨h1, n1⟩ := f.keep a o h nl; ⟨h1, fun l => n1 (live_take hn l)⟩, [], by simp⟩

/-! ### a def's body -/
theorem start_RE {K : Kf} {ex am : List Addr} {M : Mem} {H : Hp} {us : List Val} {vs : List V} {N : List Str} {ns np : Nat} (r : RVs K H (avS ex am M) am us vs) (hns : ns = N.length) (hnp : us.length = np) (hle : np ≤ ns) :
    RE K ex am M H (us.map some ++ List.replicate (ns - np) none) (L2.start N vs) := by
  have hl := r.length
  refine ⟨by unfold L2.start; simp; omega, fun i v h => ?_⟩
  have h' := getE_spec h
  have hi : i < us.length := by
    by_cases hi : i < us.length
    · exact hi
    · rw [List.getElem?_append_right (by simpa using hi)] at h'
      rw [List.getElem?_replicate] at h'
      split at h' <;> cases h'
  rw [List.getElem?_append_left (by simpa using hi), List.getElem?_map] at h'
  cases hu : us[i]? with
  | none => rw [hu] at h'; cases h'
  | some w =>
    rw [hu] at h'
    cases h'
    obtain ⟨x, hx, rx⟩ := r.get hu
    refine ⟨x, ?_, rx⟩
    unfold L2.start
    rw [List.getElem?_append_left (by rw [List.length_map, ← hl]; exact hi), List.getElem?_map, hx]
    rfl
/-- the body's end is the call's end -/
theorem body_end {k : Kx} {ex am : List Addr} {M : Mem} {H : Hp} {E : XK} {r : Res Fl} {tr : Bool} {Q : VK} (rm : RM k.K ex am M H)
    (p : Po k ex am M H E (r.bind fun fl M1 => match fl with | .nx _ => outV M.length tr (.d .none) M1 | .rt v => outV M.length tr v M1 | _ => .no) (okV k ex Q)) :
    Po k ex am M H E r (okF k ex { nx := fun _ H' => Q .non H', rt := Q }) := by
  cases r with
  | no => exact p
  | ex e1 M1 => exact p
  | ok fl M1 =>
    intro am1 H1 rm1 f1
    have out : ∀ (v : Val) (x : V), Po k ex am M H E (outV M.length tr v M1) (okV k ex Q) → RV k.K H1 (avS ex am1 M1) am1 v x → Q x H1 := by
      intro v x po rx
      unfold outV at po
      cases tr with
      | false => exact po am1 H1 rm1 f1 x rx
      | true =>
        obtain ⟨more, rfl⟩ := f1.ext
        have hn : am.length = M.length := rm.len
        obtain ⟨rm2, g⟩ := rm1.take hn
        have f2 := f1.take hn
        rw [if_pos rfl] at po
        cases v with
        | d d => exact po am H1 rm2 f2 x (g.r d x rx)
        | ref i =>
          dsimp only at po
          split at po
          · rename_i hi
            exact po am H1 rm2 f2 x (RV.take (v := .ref i) hn g (decide_eq_true hi) rx)
          · exact po.elim
    cases fl with
    | nx env => exact fun σ _ => out (.d .none) .non p rfl
    | rt v => exact fun x rx => out v x p rx
    | bk env => exact p.elim
    | ct env => exact p.elim
end Mp
end
section
set_option maxHeartbeats 4000000
/-! What must be seen of the text, by cases on its expressions. -/
namespace Mp
open PySem PySem.Spec PyProof.Rows L2

def nst : Expr → Bool
  | .Starred .. => false
  | _ => true
theorem star_of {e : Expr} {es : List Expr} {env : PySem.Env} (h : nst e = true) : starEach (e :: es) env = (false, eval e env) :: starEach es env := by
  cases e <;> first | rfl | cases h
theorem star_any {env : PySem.Env} : ∀ {es : List Expr}, es.all nst = true → (starEach es env).any (·.1) = false
  | [], _ => rfl
  | e :: es, h => by
    rw [List.all_cons, Bool.and_eq_true] at h
    rw [star_of h.1, List.any_cons, star_any h.2]
    rfl
theorem back_any {pos : Pos} {l : List (Bool × Sem Value)} : (backTo pos l).any (·.1) = l.any (·.1) := by
  unfold backTo
  rw [List.any_map]
  rfl
theorem back_all {pos : Pos} {l : List (Bool × Sem Value)} : (backTo pos l).all (fun x => !x.1) = l.all (fun x => !x.1) := by
  unfold backTo
  rw [List.all_map]
  rfl
theorem star_all {env : PySem.Env} : ∀ {es : List Expr}, es.all nst = true → (starEach es env).all (fun x => !x.1) = true
  | [], _ => rfl
  | e :: es, h => by
    rw [List.all_cons, Bool.and_eq_true] at h
    rw [star_of h.1, List.all_cons, star_all h.2]
    rfl
theorem backKw_all {pos : Pos} {env : PySem.Env} : ∀ {kws : List Keyword}, kws.all (fun q => q.arg.isSome) = true → (backToKw pos (keywordEach kws env)).all (·.1.isSome) = true
  | [], _ => rfl
  | ⟨n, e, p⟩ :: kws, h => by
    rw [List.all_cons, Bool.and_eq_true] at h
    show (n.isSome && (backToKw pos (keywordEach kws env)).all (·.1.isSome)) = true
    rw [backKw_all h.2]
    simpa using h.1
theorem backKw_any {pos : Pos} {env : PySem.Env} : ∀ {kws : List Keyword}, kws.all (fun q => q.arg.isSome) = true → (backToKw pos (keywordEach kws env)).any (·.1.isNone) = false
  | [], _ => rfl
  | ⟨n, e, p⟩ :: kws, h => by
    rw [List.all_cons, Bool.and_eq_true] at h
    show (n.isNone || (backToKw pos (keywordEach kws env)).any (·.1.isNone)) = false
    rw [backKw_any h.2]
    have h1 : n.isSome = true := h.1
    cases n with
    | none => cases h1
    | some _ => rfl
theorem backKw_names {pos : Pos} {env : PySem.Env} : ∀ {kws : List Keyword}, (backToKw pos (keywordEach kws env)).filterMap (·.1) = kws.filterMap (·.arg)
  | [] => rfl
  | ⟨n, e, p⟩ :: kws => by
    have ih := backKw_names (pos := pos) (env := env) (kws := kws)
    cases n with
    | none => exact ih
    | some x =>
      show x :: (backToKw pos (keywordEach kws env)).filterMap (·.1) = x :: kws.filterMap (·.arg)
      rw [ih]
def nSuper : Expr → Bool
  | .Call .. => false
  | _ => true
theorem base_of {o : Expr} {x : Str} {env : PySem.Env} {w : Sem Value} (h : nSuper o = true) : attributeBase o x env w = w := by
  cases o <;> first | rfl | cases h
def nSet : Expr → Bool
  | .Set .. => false
  | _ => true
theorem fold_of {e : Expr} {env : PySem.Env} (h : nSet e = true) : ∀ x, foldedSetIterable e env x = pure x := by
  intro x
  cases e <;> first | rfl | cases h
theorem marks_of {op : CmpOp} {e : Expr} (h : nSet e = true) : behindInMarks op e = false := by
  cases e <;> first | rfl | cases h
theorem asgEach_of {e : Expr} {es : List Expr} {env : PySem.Env} (h : nst e = true) : assignEach (e :: es) env = (false, assign e env) :: assignEach es env := by
  cases e <;> first | rfl | cases h
/-- a test by its value -/
def plT : Expr → Bool
  | .UnaryOp .Not _ _ => false
  | .BoolOp .. => false
  | .IfExp .. => false
  | .Compare .. => false
  | _ => true
theorem test_of {e : Expr} {env : PySem.Env} (h : plT e = true) : ∀ whole, isTrue e env whole = (do let v ← whole; standAt e.pos; holding [v] (truthy v)) := by
  intro whole
  cases e with
  | UnaryOp op a p => cases op <;> first | rfl | cases h
  | _ => first | rfl | cases h
/-- a, b = x, y: stored from the right -/
def swp (sc : Scope) (x y : Str) (px py : Pos) (a b : Expr) : Bool :=
  sc.kind == .function && sc.names.lookup x == some .local && sc.names.lookup y == some .local && py.line == px.line && !(x == y) && nst a && nst b && !(foldedForSure 8 a && foldedForSure 8 b) && !(constantsAlone 8 a && constantsAlone 8 b)

theorem swp_some {sc : Scope} {x y : Str} {px py : Pos} {a b : Expr} {env : PySem.Env} {kt k2 : Nat} {pt pt2 : Pos} (hs : env.scope = sc) (h : swp sc x y px py a b = true) :
    swappedStores [.Tuple [.Name x px, .Name y py] kt pt] (.Tuple [a, b] k2 pt2) env = pure (some [x, y]) := by
  subst hs
  unfold swp at h
  simp only [Bool.and_eq_true, beq_iff_eq, Bool.not_eq_true', Bool.and_eq_false_iff] at h
  obtain ⟨⟨⟨⟨⟨⟨⟨⟨h1, h2⟩, h3⟩, h4⟩, h5⟩, h6⟩, h7⟩, h8⟩, h9⟩ := h
  have hk : env.blockKind = .function := by unfold Env.blockKind; rw [h1]; rfl
  have sa : ∀ {e : Expr}, nst e = true → (match e with | .Starred .. => true | _ => false) = false := by
    intro e he
    cases e <;> first | rfl | cases he
  have s1 : ([a, b].any fun | .Starred .. => true | _ => false) = false := by
    rw [List.any_cons, List.any_cons, List.any_nil, sa h6, sa h7]; rfl
  have n1 : ([Expr.Name x px, .Name y py].filterMap fun
      | .Name id pos => if env.kindOf id == some .local && pos.line == px.line then some id else none
      | _ => none) = [x, y] := by
    have k1 : env.kindOf x = some .local := h2
    have k2 : env.kindOf y = some .local := h3
    simp [k1, k2, h4]
  have d1 : ([x, y] : List Str).eraseDups.length = 2 := by
    have h5' : ¬ y = x := fun e => by rw [e] at h5; simp at h5
    simp [List.eraseDups_cons, h5']
  have f1 : ([a, b].all (foldedForSure 8)) = false := by
    rw [List.all_cons, List.all_cons, List.all_nil]
    rcases h8 with h | h <;> rw [h] <;> simp
  have f2 : ([a, b].all (constantsAlone 8)) = false := by
    rw [List.all_cons, List.all_cons, List.all_nil]
    rcases h9 with h | h <;> rw [h] <;> simp
  have c3 : ∀ l : List Str, l = [x, y] → ¬ ((l.length != 2 || l.eraseDups.length != l.length) = true) := by
    intro l hl
    subst hl
    rw [d1]
    show ¬ (((2 : Nat) != 2 || (2 : Nat) != 2) = true)
    decide
  have c1 : ¬ ((!((2 : Nat) == 2 || (2 : Nat) == 3) || (2 : Nat) != 2 || env.blockKind != .function) = true) := by
    rw [hk]
    decide
  unfold swappedStores
  dsimp only
  refine (if_neg ?_).trans ((if_neg ?_).trans ((if_neg ?_).trans ((if_neg ?_).trans ((if_neg ?_).trans ?_))))
  · exact c1
  · exact fun h => Bool.false_ne_true (s1.symm.trans h)
  · exact c3 _ n1
  · exact fun h => Bool.false_ne_true (f1.symm.trans h)
  · exact fun h => Bool.false_ne_true (f2.symm.trans h)
  · exact congrArg (fun l => (pure (some l) : Sem (Option (List Str)))) n1
/-- a, b = x, y where a name is a cell: a pair is made and taken apart -/
def swpN (sc : Scope) (x y : Str) (a b : Expr) : Bool := sc.kind == .function && nst a && nst b && !(sc.names.lookup x == some .local && sc.names.lookup y == some .local)
theorem swp_none {sc : Scope} {x y : Str} {px py : Pos} {a b : Expr} {env : PySem.Env} {kt k2 : Nat} {pt pt2 : Pos} (hs : env.scope = sc) (h : swpN sc x y a b = true) :
    swappedStores [.Tuple [.Name x px, .Name y py] kt pt] (.Tuple [a, b] k2 pt2) env = pure none := by
  subst hs
  unfold swpN at h
  simp only [Bool.and_eq_true, beq_iff_eq, Bool.not_eq_true'] at h
  obtain ⟨⟨⟨h1, h6⟩, h7⟩, h8⟩ := h
  have hk : env.blockKind = .function := by unfold Env.blockKind; rw [h1]; rfl
  have sa : ∀ {e : Expr}, nst e = true → (match e with | .Starred .. => true | _ => false) = false := by
    intro e he
    cases e <;> first | rfl | cases he
  have s1 : ([a, b].any fun | .Starred .. => true | _ => false) = false := by
    rw [List.any_cons, List.any_cons, List.any_nil, sa h6, sa h7]; rfl
  have n1 : ([Expr.Name x px, .Name y py].filterMap fun
      | .Name id pos => if env.kindOf id == some .local && pos.line == px.line then some id else none
      | _ => none).length ≠ 2 := by
    have h8' : (env.kindOf x == some .local && env.kindOf y == some .local) = false := h8
    cases hx : (env.kindOf x == some NameKind.local) with
    | false =>
      simp only [List.filterMap_cons, List.filterMap_nil, hx, Bool.false_and, Bool.false_eq_true, if_false]
      split <;> simp
    | true =>
      rw [hx] at h8'
      have hy : (env.kindOf y == some NameKind.local) = false := by simpa using h8'
      simp only [List.filterMap_cons, List.filterMap_nil, hx, hy, Bool.false_and, Bool.false_eq_true, if_false]
      split <;> simp
  have c3 : ∀ l : List Str, l.length ≠ 2 → ((l.length != 2 || l.eraseDups.length != l.length) = true) := by
    intro l hl
    rw [Bool.or_eq_true]
    exact .inl (by simpa using hl)
  have c1 : ¬ ((!((2 : Nat) == 2 || (2 : Nat) == 3) || (2 : Nat) != 2 || env.blockKind != .function) = true) := by
    rw [hk]
    decide
  unfold swappedStores
  dsimp only
  refine (if_neg ?_).trans ((if_neg ?_).trans (if_pos ?_))
  · exact c1
  · exact fun h => Bool.false_ne_true (s1.symm.trans h)
  · exact c3 _ n1
theorem stores_none {e tg : Expr} {env : PySem.Env} (h : (match tg, e with | .Tuple .., .Tuple .. => false | .List .., .Tuple .. => false | _, _ => true) = true) : swappedStores [tg] e env = pure none := by
  cases tg <;> cases e <;> first | rfl | cases h
theorem swaps_lc {elt : Expr} {gs : List Comprehension} {scope : Scope} {pos p1 : Pos} {l : Nat} {y : Str} {env : PySem.Env} {sc : Scope} (hs : env.scope = sc) (hk : sc.kind = .function) (hy : sc.names.lookup y = some .local) (hl : (p1.line == pos.line) = true)
    (hn : (!(scope.names.any fun q => q.1 == y && (q.2 == .local || q.2 == .cell))) = true) : swapsWith (.ListComp elt gs scope pos) (some (.Name y p1)) l env = pure true := by
  subst hs
  have hb : env.blockKind = .function := by unfold Env.blockKind; rw [hk]; rfl
  have hy' : env.kindOf y = some .local := hy
  show (pure (env.blockKind == .function && env.kindOf y == some .local && p1.line == pos.line && !(scope.names.any fun (n, k) => n == y && (k == .local || k == .cell))) : Sem Bool) = pure true
  rw [hb, hy', hl]
  congr 1
end Mp
end
section
set_option maxHeartbeats 4000000
/-! a, b, c, d = w, x, y, z: a row is made and taken apart. -/
namespace Mp
open PySem PySem.Spec PyProof.Rows L2
section
variable {X : Cx} {k : Kx} {E : XK} {pos : Pos} {A : SA}
def gNs : List Nat → TGs
  | [] => gNil
  | i :: is => gCons (gName i) (gNs is)
theorem swp_no {ts us : List Expr} {kt k2 : Nat} {pt pt2 : Pos} {env : PySem.Env} (h : (!(ts.length == 2 || ts.length == 3) || us.all (foldedForSure 8)) = true) : swappedStores [.Tuple ts kt pt] (.Tuple us k2 pt2) env = pure none := by
  unfold swappedStores
  dsimp only
  by_cases h1 : (!(ts.length == 2 || ts.length == 3) || us.length != ts.length || env.blockKind != .function) = true
  · exact if_pos h1
  · have h2 : us.all (foldedForSure 8) = true := by
      rw [Bool.or_eq_true] at h
      rcases h with h | h
      · exact absurd (by rw [h]; rfl) h1
      · exact h
    refine (if_neg h1).trans ?_
    split
    · rfl
    · split
      · rfl
      · first
        | rfl
        | (simp only [h2]; rfl)
theorem gNs_ok {ex am : List Addr} {M : Mem} {H : Hp} {Q : L2.St → Hp → Prop} : ∀ {is : List Nat} {vs : List Val} {xs : List V} {env : Env} {σ : L2.St}, RE k.K ex am M H env σ → RVs k.K H (avS ex am M) am vs xs → vs.length = is.length → (∀ σ', RE k.K ex am M H (setN is vs env) σ' → Q σ' H) → gNs is xs σ H Q
  | [], [], xs, env, σ, re, rv, _, hq => by
    obtain rfl : xs = [] := rv
    exact ⟨rfl, hq σ re⟩
  | [], _ :: _, _, _, _, _, _, h, _ => by cases h
  | _ :: _, [], _, _, _, _, _, h, _ => by cases h
  | i :: is, v :: vs, xs, env, σ, re, rv, h, hq => by
    obtain ⟨x, r, rfl, h1, h2⟩ := rv
    exact ⟨x, r, rfl, gNs_ok (re.set h1) h2 (by simpa using h) hq⟩
theorem ss_parN {is : List Nat} {ts us : List Expr} {kt k2 : Nat} {pt pt2 : Pos} (ck : Ck k X) (ha : SAs X k E us A) (hg : PGs X ts (gNs is)) (hn : (assignEach ts X.env).length = is.length) (hst : (assignEach ts X.env).findIdx? (·.1) = none)
    (hw : swappedStores [.Tuple ts kt pt] (.Tuple us k2 pt2) X.env = pure none) : SSt X k E (.Assign [.Tuple ts kt pt] (.Tuple us k2 pt2) pos) (sParN is A) :=
  PS.imp (ps_asg (pe_tupS ha) (pg_tup ck.calm hg hn hst) rfl hw rfl) fun D σ H hw => by
    obtain ⟨ex, am, env, M, rm, re, p⟩ := hw
    refine ⟨ex, am, env, M, rm, re, p.bind.mono fun vs M1 am1 H1 rm1 f1 p1 xs rxs => ?_⟩
    split at p1
    · rename_i hl
      refine ⟨by rw [← rxs.length]; exact lim_size hl.2, fun q its hq => ?_⟩
      have ff := F.new (am := am1) (M := M1) (o := sT its xs) hq
      refine ⟨q, xs, rfl, .inl (.inr ⟨_, upd_same⟩), by rw [← rxs.length]; exact hl.1, ?_⟩
      refine gNs_ok ((re.step rm f1).step rm1 ff) (rxs.step rm1 ff) hl.1 fun σ' re' => ?_
      exact p1 am1 _ (rm1.new _ hq) ff σ' re'
    · exact p1.elim
end
end Mp
end
section
set_option maxHeartbeats 4000000
/-! The check: a small Python's def is a def of the text. -/
namespace Mp
open PySem PySem.Spec PyProof.Rows L2

structure CC where
  N : List Str
  sc : Scope
  all : Bool
  tb : List (Str × List Str)
  gl : List Str
  bl : List Str
  kb : List KShape

def CC.vis (c : CC) (i : Nat) (x : Str) : Bool := c.N[i]? == some x && (c.sc.names.lookup x == some .local || c.sc.names.lookup x == some .cell || c.sc.names.lookup x == some .free) && !(x == ("__debug__" : Str)) && !(x == ("__classdict__" : Str))
def CC.loc (c : CC) (i : Nat) (x : Str) : Bool := c.N[i]? == some x && (c.sc.names.lookup x == some .local || (c.sc.names.lookup x == some .cell && c.all))
def CC.glob (c : CC) (x : Str) : Bool := c.sc.names.lookup x == some .globalImplicit && !(x == ("__debug__" : Str))
def CC.bn (c : CC) (x : Str) : Bool := c.glob x && c.bl.contains x
def conB : Const → D → Bool
  | .none, .none => true
  | .bool a, .bool b => a == b
  | .int a, .int b => a == b
  | .str a, .str b => a == b
  | _, _ => false
def opB : BOp → Operator → Bool
  | .add, .Add => true | .sub, .Sub => true | .mul, .Mult => true | .fdiv, .FloorDiv => true | .mod, .Mod => true | .pow, .Pow => true | .shl, .LShift => true
  | _, _ => false
def cmpB : COp → CmpOp → Bool
  | .eq, .Eq => true | .ne, .NotEq => true | .lt, .Lt => true | .le, .LtE => true | .gt, .Gt => true | .ge, .GtE => true | .isin, .In => true | .notin, .NotIn => true | .isN, .Is => true | .notN, .IsNot => true
  | _, _ => false
def mtN : MT → String
  | .append => "append" | .pop0 => "pop" | .popAt => "pop" | .insert => "insert" | .extend => "extend" | .index => "index" | .indexT => "index"
def MEs.len : MEs → Nat
  | .nil => 0
  | .cons _ es => es.len + 1

/-! ### shapes -/
def xName (f : Str → Bool) : Expr → Bool | .Name x _ => f x | _ => false
def xConst (f : Const → Bool) : Expr → Bool | .Constant k _ _ => f k | _ => false
def xTuple (f : List Expr → Bool) : Expr → Bool | .Tuple xs _ _ => f xs | _ => false
def xList (f : List Expr → Bool) : Expr → Bool | .List xs _ => f xs | _ => false
def xBin (f : Expr → Operator → Expr → Bool) : Expr → Bool | .BinOp x op y _ => f x op y | _ => false
def xUn (f : UnaryOp → Expr → Bool) : Expr → Bool | .UnaryOp op x _ => f op x | _ => false
def xCmp (f : Expr → List CmpOp → List Expr → Bool) : Expr → Bool | .Compare x ops ys _ => f x ops ys | _ => false
def xBool (f : BoolOp → List Expr → Pos → Bool) : Expr → Bool | .BoolOp op xs p => f op xs p | _ => false
def xIf (f : Expr → Expr → Expr → Bool) : Expr → Bool | .IfExp x y z _ => f x y z | _ => false
def xSub (f : Expr → Expr → Bool) : Expr → Bool | .Subscript x y _ => f x y | _ => false
def xSlice (f : Option Expr → Option Expr → Option Expr → Bool) : Expr → Bool | .Slice l h s _ => f l h s | _ => false
def xCall (f : Expr → List Expr → List Keyword → Pos → Bool) : Expr → Bool | .Call g xs ks p => f g xs ks p | _ => false
def xAttr (f : Expr → Str → Pos → Bool) : Expr → Bool | .Attribute x n p => f x n p | _ => false
def xComp (f : Expr → List Comprehension → Scope → Bool) : Expr → Bool | .ListComp e gs sc _ => f e gs sc | _ => false
def xDict (f : List (Option Expr) → List Expr → Bool) : Expr → Bool | .Dict ks vs _ => f ks vs | _ => false
section
variable {e : Expr}
theorem xName_s {f : Str → Bool} (h : xName f e = true) : ∃ x p, e = .Name x p ∧ f x = true := by cases e <;> first | exact ⟨_, _, rfl, h⟩ | cases h
theorem xConst_s {f : Const → Bool} (h : xConst f e = true) : ∃ x j p, e = .Constant x j p ∧ f x = true := by cases e <;> first | exact ⟨_, _, _, rfl, h⟩ | cases h
theorem xTuple_s {f : List Expr → Bool} (h : xTuple f e = true) : ∃ x j p, e = .Tuple x j p ∧ f x = true := by cases e <;> first | exact ⟨_, _, _, rfl, h⟩ | cases h
theorem xList_s {f : List Expr → Bool} (h : xList f e = true) : ∃ x p, e = .List x p ∧ f x = true := by cases e <;> first | exact ⟨_, _, rfl, h⟩ | cases h
theorem xBin_s {f : Expr → Operator → Expr → Bool} (h : xBin f e = true) : ∃ x o y p, e = .BinOp x o y p ∧ f x o y = true := by cases e <;> first | exact ⟨_, _, _, _, rfl, h⟩ | cases h
theorem xUn_s {f : UnaryOp → Expr → Bool} (h : xUn f e = true) : ∃ o x p, e = .UnaryOp o x p ∧ f o x = true := by cases e <;> first | exact ⟨_, _, _, rfl, h⟩ | cases h
theorem xCmp_s {f : Expr → List CmpOp → List Expr → Bool} (h : xCmp f e = true) : ∃ x o y p, e = .Compare x o y p ∧ f x o y = true := by cases e <;> first | exact ⟨_, _, _, _, rfl, h⟩ | cases h
theorem xBool_s {f : BoolOp → List Expr → Pos → Bool} (h : xBool f e = true) : ∃ o x p, e = .BoolOp o x p ∧ f o x p = true := by cases e <;> first | exact ⟨_, _, _, rfl, h⟩ | cases h
theorem xIf_s {f : Expr → Expr → Expr → Bool} (h : xIf f e = true) : ∃ x y z p, e = .IfExp x y z p ∧ f x y z = true := by cases e <;> first | exact ⟨_, _, _, _, rfl, h⟩ | cases h
theorem xSub_s {f : Expr → Expr → Bool} (h : xSub f e = true) : ∃ x y p, e = .Subscript x y p ∧ f x y = true := by cases e <;> first | exact ⟨_, _, _, rfl, h⟩ | cases h
theorem xSlice_s {f : Option Expr → Option Expr → Option Expr → Bool} (h : xSlice f e = true) : ∃ x y z p, e = .Slice x y z p ∧ f x y z = true := by cases e <;> first | exact ⟨_, _, _, _, rfl, h⟩ | cases h
theorem xCall_s {f : Expr → List Expr → List Keyword → Pos → Bool} (h : xCall f e = true) : ∃ x y z p, e = .Call x y z p ∧ f x y z p = true := by cases e <;> first | exact ⟨_, _, _, _, rfl, h⟩ | cases h
theorem xAttr_s {f : Expr → Str → Pos → Bool} (h : xAttr f e = true) : ∃ x y p, e = .Attribute x y p ∧ f x y p = true := by cases e <;> first | exact ⟨_, _, _, rfl, h⟩ | cases h
theorem xComp_s {f : Expr → List Comprehension → Scope → Bool} (h : xComp f e = true) : ∃ x y z p, e = .ListComp x y z p ∧ f x y z = true := by cases e <;> first | exact ⟨_, _, _, _, rfl, h⟩ | cases h
theorem xDict_s {f : List (Option Expr) → List Expr → Bool} (h : xDict f e = true) : ∃ x y p, e = .Dict x y p ∧ f x y = true := by cases e <;> first | exact ⟨_, _, _, rfl, h⟩ | cases h
end
def l0 {α : Type} (b : Bool) : List α → Bool | [] => b | _ :: _ => false
def l1 {α : Type} (f : α → Bool) : List α → Bool | [] => false | x :: r => l0 (f x) r
def l2 {α : Type} (f : α → α → Bool) : List α → Bool | [] => false | x :: r => l1 (f x) r
def l3 {α : Type} (f : α → α → α → Bool) : List α → Bool | [] => false | x :: r => l2 (f x) r
def lc {α : Type} (f : α → List α → Bool) : List α → Bool | [] => false | x :: r => f x r
theorem l0_s {α : Type} {b : Bool} {l : List α} (h : l0 b l = true) : l = [] ∧ b = true := by cases l with | nil => exact ⟨rfl, h⟩ | cons _ _ => cases h
theorem l1_s {α : Type} {f : α → Bool} {l : List α} (h : l1 f l = true) : ∃ x, l = [x] ∧ f x = true := by
  cases l with
  | nil => cases h
  | cons x r => obtain ⟨rfl, h⟩ := l0_s (show l0 (f x) r = true from h); exact ⟨x, rfl, h⟩
theorem l2_s {α : Type} {f : α → α → Bool} {l : List α} (h : l2 f l = true) : ∃ x y, l = [x, y] ∧ f x y = true := by
  cases l with
  | nil => cases h
  | cons x r => obtain ⟨y, rfl, h⟩ := l1_s (show l1 (f x) r = true from h); exact ⟨x, y, rfl, h⟩
theorem l3_s {α : Type} {f : α → α → α → Bool} {l : List α} (h : l3 f l = true) : ∃ x y z, l = [x, y, z] ∧ f x y z = true := by
  cases l with
  | nil => cases h
  | cons x r => obtain ⟨y, z, rfl, h⟩ := l2_s (show l2 (f x) r = true from h); exact ⟨x, y, z, rfl, h⟩
theorem lc_s {α : Type} {f : α → List α → Bool} {l : List α} (h : lc f l = true) : ∃ x r, l = x :: r ∧ f x r = true := by
  cases l with
  | nil => cases h
  | cons x r => exact ⟨x, r, rfl, h⟩
def sm {α : Type} (f : α → Bool) : Option α → Bool | none => false | some x => f x
theorem sm_s {α : Type} {f : α → Bool} {o : Option α} (h : sm f o = true) : ∃ x, o = some x ∧ f x = true := by cases o with | none => cases h | some x => exact ⟨x, rfl, h⟩

/-- a target -/
def chkG (c : CC) : Tg → Expr → Bool
  | .nm i => xName fun x => c.loc i x
  | .tup2 a b => xTuple (l2 fun x y => nst x && nst y && chkG c a x && chkG c b y)
  | .tup3 a b d => xTuple (l3 fun x y z => nst x && nst y && nst z && chkG c a x && chkG c b y && chkG c d z)
def isTupE : Expr → Bool
  | .Tuple .. => true
  | _ => false
theorem isTupE_s {e : Expr} (h : isTupE e = true) : ∃ x j p, e = .Tuple x j p := by cases e <;> first | exact ⟨_, _, _, rfl⟩ | cases h
def MEs.one (f : ME → Bool) : MEs → Bool
  | .nil => false
  | .cons a r => match r with | .nil => f a | .cons _ _ => false
def MEs.two (f : ME → ME → Bool) : MEs → Bool
  | .nil => false
  | .cons a r => MEs.one (f a) r
theorem MEs.one_s {f : ME → Bool} {es : MEs} (h : MEs.one f es = true) : ∃ a, es = .cons a .nil ∧ f a = true := by
  cases es with
  | nil => cases h
  | cons a r => cases r with | nil => exact ⟨a, rfl, h⟩ | cons _ _ => cases h
theorem MEs.two_s {f : ME → ME → Bool} {es : MEs} (h : MEs.two f es = true) : ∃ a b, es = .cons a (.cons b .nil) ∧ f a b = true := by
  cases es with
  | nil => cases h
  | cons a r => obtain ⟨b, rfl, h⟩ := MEs.one_s (show MEs.one (f a) r = true from h); exact ⟨a, b, rfl, h⟩
/-- name(range(..)) -/
def xRng (c : CC) (nm : Str) (f : List Expr → Bool) : Expr → Bool := xCall fun g xs ks _ => xName (fun x => x == nm && c.bn x) g && ks.isEmpty && l1 (xCall fun g2 ys ks2 _ => xName (fun y => y == ("range" : Str) && c.bn y) g2 && ks2.isEmpty && ys.all nst && f ys) xs
mutual
/-- an expression -/
def chkE : Nat → CC → ME → Expr → Bool
  | 0, _, _, _ => false
  | n + 1, c, e, x => match e with
    | .var i => xName (fun y => c.vis i y) x
    | .con d => xConst (fun k => conB k d) x
    | .glb g => xName (fun y => c.gl[g]? == some y && c.glob y) x
    | .tup es => xTuple (fun xs => chkEs n c es xs) x
    | .lst es => xList (fun xs => chkEs n c es xs) x
    | .box es => xList (fun xs => chkEs n c es xs) x
    | .new e => chkF n c e x || (match e with
      | .bin o a b => (match o with
        | .add => xBin (fun y op z => op == .Add && chkE n c a y && chkE n c b z) x
        | _ => false)
      | .rev a => xSub (fun y z => chkE n c a y && xSlice (fun l h s => l.isNone && h.isNone && sm (xUn fun op w => op == .USub && xConst (fun k => conB k (.int 1)) w) s) z) x
      | .bi b es => (match b with
        | .list => xCall (fun g xs ks _ => xName (fun y => y == ("list" : Str) && c.bn y) g && ks.isEmpty && !xs.isEmpty && xs.all nst && chkEs n c es xs) x
        | _ => false)
      | _ => false)
    | .bin o a b => xBin (fun y op z => opB o op && chkE n c a y && chkE n c b z) x
    | .neg a => xUn (fun op y => op == .USub && chkE n c a y) x
    | .cmp o a b => xCmp (fun y ops zs => l1 (fun op => cmpB o op) ops && l1 (fun z => nSet z && chkE n c b z) zs && chkE n c a y) x
    | .chn o p a b d => xCmp (fun y ops zs => l2 (fun o1 o2 => cmpB o o1 && cmpB p o2) ops && l2 (fun z w => nSet w && chkE n c b z && chkE n c d w) zs && chkE n c a y) x
    | .and a b => xBool (fun op xs p => op == .And && lc (fun y r => chkE n c a y && lc (fun z r2 => if r2.isEmpty then chkE n c b z else chkE n c b (.BoolOp .And (z :: r2) p)) r) xs) x
    | .or a b => xBool (fun op xs p => op == .Or && lc (fun y r => chkE n c a y && lc (fun z r2 => if r2.isEmpty then chkE n c b z else chkE n c b (.BoolOp .Or (z :: r2) p)) r) xs) x
    | .not a => xUn (fun op y => op == .Not && chkE n c a y) x
    | .ife t a b => xIf (fun y z w => chkT n c t y && chkE n c a z && chkE n c b w) x
    | .idx a i => xSub (fun y z => notSl z && chkE n c a y && chkE n c i z) x
    | .slc a lo hi => xSub (fun y z => chkE n c a y && xSlice (fun l h s => s.isNone && chkO n c lo l && chkO n c hi h) z) x
    | .rev a => xSub (fun y z => chkE n c a y && xSlice (fun l h s => l.isNone && h.isNone && sm (xUn fun op w => op == .USub && xConst (fun k => conB k (.int 1)) w) s) z) x
    | .call k es => xCall (fun g xs ks _ => xName (fun y => (c.tb[k]?.map (·.1)) == some y && c.glob y) g && ks.isEmpty && xs.all nst && chkEs n c es xs) x
    | .callk k es ks perm => xCall (fun g xs kws _ => xName (fun y => (c.tb[k]?.map (·.1)) == some y && c.glob y) g && xs.all nst && kws.all (fun q => q.arg.isSome) && chkEs n c es xs && chkK n c ks kws &&
        c.kb.any fun sh => sh.j == k && sh.np == es.len && sh.ks == kws.filterMap (·.arg) && sh.perm == perm && ks.len == sh.ks.length) x
    | .bi b es => match b with
      | .rngL => MEs.one (fun a => xRng c ("list" : Str) (l1 fun z => chkE n c a z) x) es
      | .rngT => MEs.one (fun a => xRng c ("tuple" : Str) (l1 fun z => chkE n c a z) x) es
      | .rngL2 => MEs.two (fun a b => xRng c ("list" : Str) (l2 fun z w => chkE n c a z && chkE n c b w) x) es
      | .rngT2 => MEs.two (fun a b => xRng c ("tuple" : Str) (l2 fun z w => chkE n c a z && chkE n c b w) x) es
      | b => xCall (fun g xs ks _ => xName (fun y => y == Str.ofString (biN b) && c.bn y) g && ks.isEmpty && !xs.isEmpty && xs.all nst && chkEs n c es xs) x
    | .isi a t => xCall (fun g xs ks _ => xName (fun y => y == ("isinstance" : Str) && c.bn y) g && ks.isEmpty && l2 (fun y z => nst y && chkE n c a y && xName (fun w => w == Str.ofString (tkN t) && c.bn w) z) xs) x
    | .mt m o es => xCall (fun g xs ks cp => xAttr (fun y nm ap => nm == Str.ofString (mtN m) && nSuper y && (ap.endLine == cp.line) && chkE n c o y) g && ks.isEmpty && xs.all nst && decide (xs.length < 20) && (match m with | .pop0 => xs.isEmpty | _ => !xs.isEmpty) && chkEs n c es xs) x
    | .lc own tg it ifs e => xComp (fun elt gs sc => l1 (fun q => q.is_async == 0 && (own.all fun i => decide (i < c.N.length)) && blkC c.N c.sc sc (own.map fun i => (c.N.getD i "", i)) && tgIn own tg && nSet q.iter && chkI n c q.target it q.iter &&
        chkG { c with sc := relS sc c.sc, all := false } tg q.target && chkTs n { c with sc := relS sc c.sc, all := false } ifs q.ifs && chkE n { c with sc := relS sc c.sc, all := false } e elt) gs) x
    | .dcp es => xCall (fun g xs ks _ => xName (fun y => y == ("dict" : Str) && c.bn y) g && ks.isEmpty && !xs.isEmpty && xs.all nst && chkEs n c es xs) x
    | .dnw _ => xDict (fun ks vs => ks.isEmpty && vs.isEmpty) x
    | .ddsp a b => match a, b with
      | .var i, .con (.bool t) => xDict (fun ks vs => l1 (sm (xName fun y => c.vis i y)) ks && l1 (xConst fun k => conB k (.bool t)) vs) x
      | _, _ => false
/-- a piece that makes a new list -/
def chkF : Nat → CC → ME → Expr → Bool
  | 0, _, _, _ => false
  | n + 1, c, e, x => match e with
    | .lst es => xList (fun xs => chkEs n c es xs) x
    | .bi b es => match b with
      | .rngL => MEs.one (fun a => xRng c ("list" : Str) (l1 fun z => chkE n c a z) x) es
      | _ => false
    | .lc own tg it ifs e => xComp (fun elt gs sc => l1 (fun q => q.is_async == 0 && (own.all fun i => decide (i < c.N.length)) && blkC c.N c.sc sc (own.map fun i => (c.N.getD i "", i)) && tgIn own tg && nSet q.iter && chkI n c q.target it q.iter &&
        chkG { c with sc := relS sc c.sc, all := false } tg q.target && chkTs n { c with sc := relS sc c.sc, all := false } ifs q.ifs && chkE n { c with sc := relS sc c.sc, all := false } e elt) gs) x
    | _ => false
def chkEs : Nat → CC → MEs → List Expr → Bool
  | 0, _, _, _ => false
  | n + 1, c, es, xs => match es with
    | .nil => xs.isEmpty
    | .cons e es => lc (fun x r => nst x && chkE n c e x && chkEs n c es r) xs
def chkK : Nat → CC → MEs → List Keyword → Bool
  | 0, _, _, _ => false
  | n + 1, c, es, xs => match es with
    | .nil => xs.isEmpty
    | .cons e es => lc (fun q r => chkE n c e q.value && chkK n c es r) xs
def chkO : Nat → CC → MO → Option Expr → Bool
  | 0, _, _, _ => false
  | n + 1, c, o, x => match o with
    | .non => x.isNone
    | .som e => sm (fun y => chkE n c e y) x
/-- what is walked -/
def chkI : Nat → CC → Expr → MI → Expr → Bool
  | 0, _, _, _, _ => false
  | n + 1, c, tx, it, x => match it with
    | .ov e => chkE n c e x
    | .rg1 a => xCall (fun g xs ks _ => xName (fun y => y == ("range" : Str) && c.bn y) g && ks.isEmpty && l1 (fun y => nst y && chkE n c a y) xs) x
    | .rg2 a b => xCall (fun g xs ks _ => xName (fun y => y == ("range" : Str) && c.bn y) g && ks.isEmpty && l2 (fun y z => nst y && nst z && chkE n c a y && chkE n c b z) xs) x
    | .enm a => isTupE tx && xCall (fun g xs ks _ => xName (fun y => y == ("enumerate" : Str) && c.bn y) g && ks.isEmpty && l1 (fun y => nst y && chkE n c a y) xs) x
/-- a comprehension's test -/
def chkTs : Nat → CC → MEs → List Expr → Bool
  | 0, _, _, _ => false
  | n + 1, c, es, xs => match es with
    | .nil => xs.isEmpty
    | .cons e r => match r with
      | .nil => l1 (fun x => chkT n c e x) xs
      | .cons _ _ => false
/-- a test -/
def chkT : Nat → CC → ME → Expr → Bool
  | 0, _, _, _ => false
  | n + 1, c, e, x => (plT x && chkE n c e x) || (match e with
    | .cmp o a b => xCmp (fun y ops zs => l1 (fun op => cmpB o op) ops && l1 (fun z => nSet z && chkE n c b z) zs && chkE n c a y) x
    | .chn o p a b d => xCmp (fun y ops zs => l2 (fun o1 o2 => cmpB o o1 && cmpB p o2) ops && l2 (fun z w => nSet w && chkE n c b z && chkE n c d w) zs && chkE n c a y) x
    | .not a => xUn (fun op y => op == .Not && chkT n c a y) x
    | .and _ _ => chkW n c .And e x
    | .or _ _ => chkW n c .Or e x
    | _ => false)
/-- a chain of tests -/
def chkW : Nat → CC → BoolOp → ME → Expr → Bool
  | 0, _, _, _, _ => false
  | n + 1, c, w, e, x => xBool (fun op xs p => op == w && lc (fun y r => if r.isEmpty then chkT n c e y else match w, e with
    | .And, .and a b => chkT n c a y && chkW n c w b (.BoolOp op r p)
    | .Or, .or a b => chkT n c a y && chkW n c w b (.BoolOp op r p)
    | _, _ => false) xs) x
end
end Mp
end
section
set_option maxHeartbeats 4000000
/-! The check is sound: expressions. -/
namespace Mp
open PySem PySem.Spec PyProof.Rows L2

structure Cc (c : CC) (k : Kx) (X : Cx) (G : Nat → Option D) : Prop where
  ck : Ck k X
  N : X.N = c.N
  sc : X.env.scope = c.sc
  al : c.all = true → ∀ x, X.fn x = true
  bl : ∀ x ∈ c.bl, X.mg x = none
  gv : ∀ (g : Nat) (x : Str), c.gl[g]? = some x → ∃ v u d, X.mg x = some u ∧ RelV v u ∧ G g = some d ∧ ∀ H av, R k.K H av d v

section
variable {c : CC} {k : Kx} {X : Cx} {G : Nat → Option D} {E : XK} {C : CT} {m : Nat}
theorem Cc.vis (h : Cc c k X G) {i : Nat} {x : Str} (v : c.vis i x = true) : X.N[i]? = some x ∧ Vis X.env.scope x ∧ (x == ("__debug__" : Str)) = false ∧ (x == ("__classdict__" : Str)) = false := by
  unfold CC.vis at v
  simp only [Bool.and_eq_true, Bool.or_eq_true, beq_iff_eq, Bool.not_eq_true'] at v
  obtain ⟨⟨⟨h1, h2⟩, h3⟩, h4⟩ := v
  refine ⟨by rw [h.N]; exact h1, ?_, h3, h4⟩
  unfold Vis
  rw [h.sc]
  rcases h2 with (h2 | h2) | h2
  · exact .inl h2
  · exact .inr (.inl h2)
  · exact .inr (.inr h2)
theorem Cc.loc (h : Cc c k X G) {i : Nat} {x : Str} (v : c.loc i x = true) : X.N[i]? = some x ∧ L2.Loc X.env.scope x ∧ (X.fn x = true ∨ X.env.scope.names.lookup x = some .local) := by
  unfold CC.loc at v
  simp only [Bool.and_eq_true, Bool.or_eq_true, beq_iff_eq] at v
  obtain ⟨h1, h2⟩ := v
  refine ⟨by rw [h.N]; exact h1, ?_, ?_⟩
  · unfold L2.Loc
    rw [h.sc]
    rcases h2 with h2 | h2
    · exact .inl h2
    · exact .inr h2.1
  · rw [h.sc]
    rcases h2 with h2 | h2
    · exact .inr h2
    · exact .inl (h.al h2.2 x)
theorem Cc.glob (h : Cc c k X G) {x : Str} (v : c.glob x = true) : Gl X x ∧ (x == ("__debug__" : Str)) = false := by
  unfold CC.glob at v
  simp only [Bool.and_eq_true, beq_iff_eq, Bool.not_eq_true'] at v
  refine ⟨?_, v.2⟩
  show X.env.scope.names.lookup x = _
  rw [h.sc]
  exact v.1
theorem Cc.bn (h : Cc c k X G) {x : Str} (v : c.bn x = true) : Bn X x := by
  unfold CC.bn at v
  rw [Bool.and_eq_true] at v
  exact ⟨(h.glob v.1).1, h.bl x (by simpa using v.2)⟩
theorem opB_s {o : BOp} {op : Operator} (h : opB o op = true) : op = opOf o := by cases o <;> cases op <;> first | rfl | cases h
theorem cmpB_s {o : COp} {op : CmpOp} (h : cmpB o op = true) : op = cmpOf o := by cases o <;> cases op <;> first | rfl | cases h
theorem conB_s {a : Const} {d : D} (h : conB a d = true) : cD a = some d := by
  cases a <;> cases d <;> first | (cases h; done) | rfl | (simp only [conB, beq_iff_eq] at h; rw [h]; rfl)

/-! ### targets -/
theorem chkG_ok (h : Cc c k X G) : ∀ (t : Tg) (x : Expr), chkG c t x = true → SG X k x t
  | .nm i, x, v => by
    obtain ⟨y, p, rfl, v1⟩ := xName_s v
    obtain ⟨h1, h2, h3⟩ := h.loc v1
    exact sg_nm h.ck h1 h2 h3
  | .tup2 a b, x, v => by
    obtain ⟨xs, j, p, rfl, v1⟩ := xTuple_s v
    obtain ⟨y, z, rfl, v2⟩ := l2_s v1
    simp only [Bool.and_eq_true] at v2
    obtain ⟨⟨⟨n1, n2⟩, v3⟩, v4⟩ := v2
    exact sg_tup2 h.ck (chkG_ok h a y v3) (chkG_ok h b z v4) (by rw [asgEach_of n1, asgEach_of n2]; rfl) (by rw [asgEach_of n1, asgEach_of n2]; rfl) (by rw [asgEach_of n1]; rfl) (by rw [asgEach_of n2]; rfl)
  | .tup3 a b d, x, v => by
    obtain ⟨xs, j, p, rfl, v1⟩ := xTuple_s v
    obtain ⟨y, z, w, rfl, v2⟩ := l3_s v1
    simp only [Bool.and_eq_true] at v2
    obtain ⟨⟨⟨⟨⟨n1, n2⟩, n3⟩, v3⟩, v4⟩, v5⟩ := v2
    exact sg_tup3 h.ck (chkG_ok h a y v3) (chkG_ok h b z v4) (chkG_ok h d w v5) (by rw [asgEach_of n1, asgEach_of n2, asgEach_of n3]; rfl) (by rw [asgEach_of n1, asgEach_of n2, asgEach_of n3]; rfl) (by rw [asgEach_of n1]; rfl) (by rw [asgEach_of n2]; rfl) (by rw [asgEach_of n3]; rfl)

/-! ### blocks -/
theorem Cl.blk {s : Shared} {H : Hp} {scope : Scope} {cenv : PySem.Env} {fp : List Addr} (h : Cl k X E C m c.tb c.kb) : Cl k (X.blk s H scope cenv fp) E00 C m c.tb c.kb := ⟨h.fn, h.room, passL⟩
theorem Cc.blk {s : Shared} {H : Hp} {scope : Scope} {cl : List (Str × Addr)} {Ca : Addr} {fp : List Addr} (h : Cc c k X G) (hk : scope.kind = .function) : Cc { c with sc := relS scope c.sc, all := false } k (X.blk s H scope (compEnvC scope cl Ca X.env) fp) G := by
  have hs : (compEnvC scope cl Ca X.env).scope = relS scope c.sc := by rw [← h.sc]; rfl
  refine ⟨⟨h.ck.K, h.ck.hu, h.ck.calm, h.ck.nd, h.ck.P, h.ck.w, ?_, PassesOwn.never⟩, h.N, hs, fun z => Bool.noConfusion z, h.bl, h.gv⟩
  show (compEnvC scope cl Ca X.env).scope.kind = _
  rw [hs]
  exact hk

/-! ### what new lists are -/
theorem lst_val {g : SA} : ∀ env M v M', sLst g env M = .ok v M' → ∃ xs, v = .d (.list xs) := by
  intro env M v M' h
  unfold sLst at h
  cases q : g env M with
  | no => rw [q] at h; cases h
  | ex e1 M1 => rw [q] at h; cases h
  | ok vs M1 =>
    rw [q, bind_ok] at h
    cases q2 : toDs vs with
    | none => rw [q2] at h; cases h
    | some ds =>
      rw [q2] at h
      dsimp only at h
      split at h
      · cases h; exact ⟨_, rfl⟩
      · cases h
theorem sf_rngL1 {a : Expr} {f : SF} {p0 p1 p2 pos : Pos} (ck : Ck k X) (bl : Bn X "list") (bn : Bn X "range") (ha : SE X k E a f) (hs : starEach [a] X.env = (false, eval a X.env) :: starEach [] X.env) : SFr X k E (.Call (.Name "list" p2) [.Call (.Name "range" p0) [a] [] p1] [] pos) (sBi .rngL (sCons f sNil)) :=
  PE.imp (pe_listRg ck.calm bl.gl bl.mg (prg1 bn ha hs) rfl) fun σ H Q ⟨ex, am, env, M, rm, re, p⟩ => by
    have p' : Po k ex am M H E ((f env M).bind fun v M1 => (ofO (biV .rngL M1 [v]) M1).bind fun z M2 => .ok (.d z) M2) (fun (v : Val) M1 am1 H1 => ∀ xs p vs, v = .d (.list xs) → H1 p = none → Rs k.K H1 (avS ex am1 M1) xs vs → Q (.ref p) (upd H1 p (.lst vs))) := by
      unfold sBi sCons sNil at p
      rw [bind_bind] at p
      exact p
    refine ⟨ex, am, env, M, rm, re, p'.bind.mono fun v M1 am1 H1 rm1 f1 p1 x rx => ?_⟩
    obtain ⟨z, hz, p2⟩ := p1.ofO
    obtain ⟨n, h1, h2, rfl⟩ := bi_rng1 (bb := .rngL) (mk := .list) (fun _ => rfl) (fun _ _ => rfl) hz
    exact ⟨n, int_of rm1 rx h1, rngOk_ok h2, fun t ht => p2.now rm1 _ t _ rfl ht (rs_rng 0 n)⟩

theorem mes_len : ∀ (es : MEs) (env : Env) (M : Mem) (vs : List Val) (M' : Mem), evEs G C es env M = .ok vs M' → vs.length = es.len
  | .nil, env, M, vs, M', h => by cases h; rfl
  | .cons e es, env, M, vs, M', h => by
    have h' : (evE G C e env M).bind (fun v M1 => (evEs G C es env M1).bind fun vs M2 => .ok (v :: vs) M2) = .ok vs M' := h
    cases q : evE G C e env M with
    | no => rw [q] at h'; cases h'
    | ex e1 M1 => rw [q] at h'; cases h'
    | ok v M1 =>
      rw [q, bind_ok] at h'
      cases q2 : evEs G C es env M1 with
      | no => rw [q2] at h'; cases h'
      | ex e1 M3 => rw [q2] at h'; cases h'
      | ok ws M3 =>
        rw [q2, bind_ok] at h'
        cases h'
        show ws.length + 1 = es.len + 1
        rw [mes_len es env M1 ws _ q2]
end

/-- the check with fuel n is sound -/
structure Sd (n : Nat) : Prop where
  E : ∀ {c : CC} {k : Kx} {X : Cx} {G : Nat → Option D} {E : XK} {C : CT} {m : Nat}, Cc c k X G → Cl k X E C m c.tb c.kb → ∀ {e : ME} {x : Expr}, chkE n c e x = true → SE X k E x (evE G C e)
  F : ∀ {c : CC} {k : Kx} {X : Cx} {G : Nat → Option D} {E : XK} {C : CT} {m : Nat}, Cc c k X G → Cl k X E C m c.tb c.kb → ∀ {e : ME} {x : Expr}, chkF n c e x = true → SFr X k E x (evE G C e)
  Es : ∀ {c : CC} {k : Kx} {X : Cx} {G : Nat → Option D} {E : XK} {C : CT} {m : Nat}, Cc c k X G → Cl k X E C m c.tb c.kb → ∀ {e : MEs} {x : List Expr}, chkEs n c e x = true → SAs X k E x (evEs G C e)
  K : ∀ {c : CC} {k : Kx} {X : Cx} {G : Nat → Option D} {E : XK} {C : CT} {m : Nat}, Cc c k X G → Cl k X E C m c.tb c.kb → ∀ {e : MEs} {x : List Keyword}, chkK n c e x = true → SKs X k E x (evEs G C e)
  O : ∀ {c : CC} {k : Kx} {X : Cx} {G : Nat → Option D} {E : XK} {C : CT} {m : Nat}, Cc c k X G → Cl k X E C m c.tb c.kb → ∀ {e : MO} {x : Option Expr}, chkO n c e x = true → SOs X k E x (evO G C e)
  I : ∀ {c : CC} {k : Kx} {X : Cx} {G : Nat → Option D} {E : XK} {C : CT} {m : Nat}, Cc c k X G → Cl k X E C m c.tb c.kb → ∀ {tx : Expr} {e : MI} {x : Expr}, chkI n c tx e x = true → SIt X k E tx x (evI G C e)
  Ts : ∀ {c : CC} {k : Kx} {X : Cx} {G : Nat → Option D} {C : CT} {m : Nat}, Cc c k X G → Cl k X E00 C m c.tb c.kb → ∀ {e : MEs} {x : List Expr}, chkTs n c e x = true → PTs X x (tIfs k (evC G C e))
  T : ∀ {c : CC} {k : Kx} {X : Cx} {G : Nat → Option D} {E : XK} {C : CT} {m : Nat}, Cc c k X G → Cl k X E C m c.tb c.kb → ∀ {e : ME} {x : Expr}, chkT n c e x = true → ST X k E x (evE G C e)
  W : ∀ {c : CC} {k : Kx} {X : Cx} {G : Nat → Option D} {E : XK} {C : CT} {m : Nat}, Cc c k X G → Cl k X E C m c.tb c.kb → ∀ {w : BoolOp} {e : ME} {x : Expr}, chkW n c w e x = true → SW X k E x (evE G C e)

section
variable {n : Nat} {c : CC} {k : Kx} {X : Cx} {G : Nat → Option D} {E : XK} {C : CT} {m : Nat} {x : Expr}
theorem own_map {N : List Str} {own : List Nat} : (own.map fun i => (N.getD i "", i)).map (·.2) = own := by
  rw [List.map_map]
  exact List.map_id' own
theorem rng_s {nm : Str} {f : List Expr → Bool} (h : Cc c k X G) (v : xRng c nm f x = true) : ∃ p p1 p2 p3 ys, x = .Call (.Name nm p) [.Call (.Name "range" p1) ys [] p2] [] p3 ∧ Bn X nm ∧ Bn X "range" ∧ ys.all nst = true ∧ f ys = true := by
  obtain ⟨g, xs, ks, p, rfl, v0⟩ := xCall_s v
  simp only [Bool.and_eq_true, List.isEmpty_iff] at v0
  obtain ⟨⟨v1, rfl⟩, v3⟩ := v0
  obtain ⟨y, p0, rfl, v2⟩ := xName_s v1
  rw [Bool.and_eq_true, beq_iff_eq] at v2
  obtain ⟨rfl, b1⟩ := v2
  obtain ⟨z, rfl, v5⟩ := l1_s v3
  obtain ⟨g2, ys, ks2, p2, rfl, v6⟩ := xCall_s v5
  simp only [Bool.and_eq_true, List.isEmpty_iff] at v6
  obtain ⟨⟨⟨v7, rfl⟩, v8⟩, v9⟩ := v6
  obtain ⟨y2, p1, rfl, v10⟩ := xName_s v7
  rw [Bool.and_eq_true, beq_iff_eq] at v10
  obtain ⟨rfl, b2⟩ := v10
  exact ⟨_, _, _, _, ys, rfl, h.bn b1, h.bn b2, v8, v9⟩
theorem nst1 {a : Expr} {es : List Expr} (h : (a :: es).all nst = true) : nst a = true ∧ es.all nst = true := by
  rw [List.all_cons, Bool.and_eq_true] at h
  exact h
theorem lc_ok (sd : Sd n) (h : Cc c k X G) (cl : Cl k X E C m c.tb c.kb) {own : List Nat} {tg : Tg} {it : MI} {ifs : MEs} {e : ME}
    (v : xComp (fun elt gs sc => l1 (fun q => q.is_async == 0 && (own.all fun i => decide (i < c.N.length)) && blkC c.N c.sc sc (own.map fun i => (c.N.getD i "", i)) && tgIn own tg && nSet q.iter && chkI n c q.target it q.iter &&
        chkG { c with sc := relS sc c.sc, all := false } tg q.target && chkTs n { c with sc := relS sc c.sc, all := false } ifs q.ifs && chkE n { c with sc := relS sc c.sc, all := false } e elt) gs) x = true) :
    SFr X k E x (evE G C (.lc own tg it ifs e)) := by
  obtain ⟨elt, gs, sc, p, rfl, w0⟩ := xComp_s v
  obtain ⟨q, rfl, w1⟩ := l1_s w0
  obtain ⟨tx, ix, fx, as⟩ := q
  simp only [Bool.and_eq_true, beq_iff_eq] at w1
  obtain ⟨⟨⟨⟨⟨⟨⟨⟨rfl, _⟩, v1⟩, v2⟩, v3⟩, v4⟩, v5⟩, v6⟩, v7⟩ := w1
  have ok : BlkOk X.N X.env.scope sc (own.map fun i => (c.N.getD i "", i)) := by
    rw [h.N, h.sc]
    exact blkOk_by v1
  have key := se_lcf (pos := p) h.ck (sd.I h cl v4) ok (t := tg) (by rw [own_map]; exact v2) (c := evC G C ifs) (f := evE G C e) (fun s H Ca cl' fp => chkG_ok (h.blk ok.kind) tg tx v5)
    (fun s H Ca cl' fp => sd.Ts (h.blk ok.kind) cl.blk v6) (fun s H Ca cl' fp => sd.E (h.blk ok.kind) cl.blk v7) (fold_of v3)
  rw [own_map] at key
  exact key
theorem call_s {g : Expr} {xs : List Expr} {ks : List Keyword} {p : Pos} {nm : Str} (h : Cc c k X G) (v : xName (fun y => y == nm && c.bn y) g = true) : ∃ p0, g = .Name nm p0 ∧ Bn X nm := by
  obtain ⟨y, p0, rfl, v1⟩ := xName_s v
  rw [Bool.and_eq_true, beq_iff_eq] at v1
  obtain ⟨rfl, b⟩ := v1
  exact ⟨p0, rfl, h.bn b⟩
/-- a built-in by its name -/
theorem bi_ok (h : Cc c k X G) {b : BI} {A : SA} {e : Expr} {es : List Expr} {p0 p : Pos} (bn : Bn X (Str.ofString (biN b))) (hb : biN b ≠ "") (ha : SAs X k E (e :: es) A) (ns : (e :: es).all nst = true) : SE X k E (.Call (.Name (Str.ofString (biN b)) p0) (e :: es) [] p) (sBi b A) := by
  have he := star_of (env := X.env) (es := es) (nst1 ns).1
  have hp : (backTo p (starEach es X.env)).any (·.1) = false := by rw [back_any]; exact star_any (nst1 ns).2
  cases b with
  | len => exact se_biB (c_len h.ck) bn (by decide +kernel) ha (by decide +kernel) (by decide +kernel) he hp
  | abs => exact se_biB c_abs bn (by decide +kernel) ha (by decide +kernel) (by decide +kernel) he hp
  | int => exact se_biT c_int bn (by decide +kernel) ha (by decide +kernel) (by decide +kernel) he hp
  | tuple => exact se_biT (c_tuple h.ck) bn (by decide +kernel) ha (by decide +kernel) (by decide +kernel) he hp
  | list => exact se_biT (c_list h.ck) bn (by decide +kernel) ha (by decide +kernel) (by decide +kernel) he hp
  | sorted => exact se_biB (c_sorted h.ck) bn (by decide +kernel) ha (by decide +kernel) (by decide +kernel) he hp
  | sum => exact se_biB (c_sum h.ck) bn (by decide +kernel) ha (by decide +kernel) (by decide +kernel) he hp
  | min2 => exact se_biB (c_min h.ck) bn (by decide +kernel) ha (by decide +kernel) (by decide +kernel) he hp
  | max2 => exact se_biB (c_max h.ck) bn (by decide +kernel) ha (by decide +kernel) (by decide +kernel) he hp
  | _ => exact absurd rfl hb
end
end Mp
end
section
set_option maxHeartbeats 4000000
/-! The check is sound: expressions, the induction. -/
namespace Mp
open PySem PySem.Spec PyProof.Rows L2

section
variable {n : Nat} {c : CC} {k : Kx} {X : Cx} {G : Nat → Option D} {E : XK} {C : CT} {m : Nat} {x : Expr}
theorem xCmp1_s {f : Expr → Bool} {g : CmpOp → Bool} {q : Expr → Bool} (v : xCmp (fun y ops zs => l1 g ops && l1 q zs && f y) x = true) : ∃ y op z p, x = .Compare y [op] [z] p ∧ g op = true ∧ q z = true ∧ f y = true := by
  obtain ⟨y, ops, zs, p, rfl, v1⟩ := xCmp_s v
  simp only [Bool.and_eq_true] at v1
  obtain ⟨⟨v2, v3⟩, v4⟩ := v1
  obtain ⟨op, rfl, v5⟩ := l1_s v2
  obtain ⟨z, rfl, v6⟩ := l1_s v3
  exact ⟨y, op, z, p, rfl, v5, v6, v4⟩
theorem xCmp2_s {f : Expr → Bool} {g : CmpOp → CmpOp → Bool} {q : Expr → Expr → Bool} (v : xCmp (fun y ops zs => l2 g ops && l2 q zs && f y) x = true) : ∃ y o1 o2 z w p, x = .Compare y [o1, o2] [z, w] p ∧ g o1 o2 = true ∧ q z w = true ∧ f y = true := by
  obtain ⟨y, ops, zs, p, rfl, v1⟩ := xCmp_s v
  simp only [Bool.and_eq_true] at v1
  obtain ⟨⟨v2, v3⟩, v4⟩ := v1
  obtain ⟨o1, o2, rfl, v5⟩ := l2_s v2
  obtain ⟨z, w, rfl, v6⟩ := l2_s v3
  exact ⟨y, o1, o2, z, w, p, rfl, v5, v6, v4⟩
theorem isEmpty_no {α : Type} {l : List α} (h : (!l.isEmpty) = true) : ∃ a r, l = a :: r := by
  cases l with
  | nil => cases h
  | cons a r => exact ⟨a, r, rfl⟩
theorem tb_s {k : Nat} {y : Str} (h : ((c.tb[k]?.map (·.1)) == some y) = true) : ∃ ps, c.tb[k]? = some (y, ps) := by
  rw [beq_iff_eq] at h
  cases q : c.tb[k]? with
  | none => rw [q] at h; cases h
  | some z =>
    rw [q] at h
    obtain ⟨a, b⟩ := z
    cases h
    exact ⟨b, rfl⟩
theorem sd_es (sd : Sd n) (h : Cc c k X G) (cl : Cl k X E C m c.tb c.kb) {e : MEs} {x : List Expr} (v : chkEs (n + 1) c e x = true) : SAs X k E x (evEs G C e) := by
  unfold chkEs at v
  cases e with
  | nil =>
    obtain rfl := List.isEmpty_iff.mp v
    exact sa_nil
  | cons e es =>
    obtain ⟨y, r, rfl, v1⟩ := lc_s v
    simp only [Bool.and_eq_true] at v1
    obtain ⟨⟨v2, v3⟩, v4⟩ := v1
    exact sa_cons (sd.E h cl v3) (sd.Es h cl v4) (star_of v2)
theorem sd_k (sd : Sd n) (h : Cc c k X G) (cl : Cl k X E C m c.tb c.kb) {e : MEs} {x : List Keyword} (v : chkK (n + 1) c e x = true) : SKs X k E x (evEs G C e) := by
  unfold chkK at v
  cases e with
  | nil =>
    obtain rfl := List.isEmpty_iff.mp v
    exact sk_nil
  | cons e es =>
    obtain ⟨⟨nm, y, kp⟩, r, rfl, v1⟩ := lc_s v
    simp only [Bool.and_eq_true] at v1
    exact sk_cons (sd.E h cl v1.1) (sd.K h cl v1.2)
theorem sd_o (sd : Sd n) (h : Cc c k X G) (cl : Cl k X E C m c.tb c.kb) {e : MO} {x : Option Expr} (v : chkO (n + 1) c e x = true) : SOs X k E x (evO G C e) := by
  unfold chkO at v
  cases e with
  | non =>
    obtain rfl := Option.isNone_iff_eq_none.mp v
    exact so_non
  | som e =>
    obtain ⟨y, rfl, v1⟩ := sm_s v
    exact so_som (sd.E h cl v1)
theorem sd_i (sd : Sd n) (h : Cc c k X G) (cl : Cl k X E C m c.tb c.kb) {tx : Expr} {e : MI} {x : Expr} (v : chkI (n + 1) c tx e x = true) : SIt X k E tx x (evI G C e) := by
  unfold chkI at v
  cases e with
  | ov e => exact si_ov h.ck (sd.E h cl v)
  | rg1 a =>
    obtain ⟨g, xs, ks, p, rfl, v0⟩ := xCall_s v
    simp only [Bool.and_eq_true, List.isEmpty_iff] at v0
    obtain ⟨⟨v1, rfl⟩, v2⟩ := v0
    obtain ⟨p0, rfl, b⟩ := call_s (xs := xs) (ks := []) (p := p) h v1
    obtain ⟨y, rfl, v3⟩ := l1_s v2
    rw [Bool.and_eq_true] at v3
    exact si_rg1 b (sd.E h cl v3.2) (star_of v3.1)
  | rg2 a b =>
    obtain ⟨g, xs, ks, p, rfl, v0⟩ := xCall_s v
    simp only [Bool.and_eq_true, List.isEmpty_iff] at v0
    obtain ⟨⟨v1, rfl⟩, v2⟩ := v0
    obtain ⟨p0, rfl, b⟩ := call_s (xs := xs) (ks := []) (p := p) h v1
    obtain ⟨y, z, rfl, v3⟩ := l2_s v2
    simp only [Bool.and_eq_true] at v3
    obtain ⟨⟨⟨n1, n2⟩, v4⟩, v5⟩ := v3
    exact si_rg2 b (sd.E h cl v4) (sd.E h cl v5) (by rw [star_of n1, star_of n2]; rfl) (star_of n2)
  | enm a =>
    rw [Bool.and_eq_true] at v
    obtain ⟨t, v⟩ := v
    obtain ⟨els, j, tp, rfl⟩ := isTupE_s t
    obtain ⟨g, xs, ks, p, rfl, v0⟩ := xCall_s v
    simp only [Bool.and_eq_true, List.isEmpty_iff] at v0
    obtain ⟨⟨v1, rfl⟩, v2⟩ := v0
    obtain ⟨p0, rfl, b⟩ := call_s (xs := xs) (ks := []) (p := p) h v1
    obtain ⟨y, rfl, v3⟩ := l1_s v2
    rw [Bool.and_eq_true] at v3
    exact si_enm h.ck b (sd.E h cl v3.2) (star_of v3.1)
theorem sd_ts (sd : Sd n) (h : Cc c k X G) (cl : Cl k X E00 C m c.tb c.kb) {e : MEs} {x : List Expr} (v : chkTs (n + 1) c e x = true) : PTs X x (tIfs k (evC G C e)) := by
  unfold chkTs at v
  cases e with
  | nil =>
    obtain rfl := List.isEmpty_iff.mp v
    exact pts_nil
  | cons e r =>
    cases r with
    | nil =>
      obtain ⟨y, rfl, v1⟩ := l1_s v
      exact pts_one (sd.T h cl v1)
    | cons _ _ => cases v
theorem sd_f (sd : Sd n) (h : Cc c k X G) (cl : Cl k X E C m c.tb c.kb) {e : ME} (v : chkF (n + 1) c e x = true) : SFr X k E x (evE G C e) := by
  unfold chkF at v
  cases e with
  | lst es =>
    obtain ⟨xs, p, rfl, v1⟩ := xList_s v
    exact sf_lst (sd.Es h cl v1)
  | bi b es =>
    cases b with
    | rngL =>
      obtain ⟨a, rfl, v1⟩ := MEs.one_s v
      obtain ⟨p, p1, p2, p3, ys, rfl, b1, b2, ns, v2⟩ := rng_s h v1
      obtain ⟨z, rfl, v3⟩ := l1_s v2
      exact sf_rngL1 h.ck b1 b2 (sd.E h cl v3) (star_of (nst1 ns).1)
    | _ => cases v
  | lc own tg it ifs e => exact lc_ok sd h cl v
  | _ => cases v
theorem sd_w (sd : Sd n) (h : Cc c k X G) (cl : Cl k X E C m c.tb c.kb) {w : BoolOp} {e : ME} (v : chkW (n + 1) c w e x = true) : SW X k E x (evE G C e) := by
  unfold chkW at v
  obtain ⟨op, xs, p, rfl, v1⟩ := xBool_s v
  rw [Bool.and_eq_true, beq_iff_eq] at v1
  obtain ⟨rfl, v2⟩ := v1
  obtain ⟨y, r, rfl, v3⟩ := lc_s v2
  cases r with
  | nil =>
    have v4 : chkT n c e y = true := v3
    cases op with
    | And => exact sw_and1 (sd.T h cl v4)
    | Or => exact sw_or1 (sd.T h cl v4)
  | cons z r =>
    cases op with
    | And =>
      cases e with
      | and a b =>
        have v4 : (chkT n c a y && chkW n c .And b (.BoolOp .And (z :: r) p)) = true := v3
        rw [Bool.and_eq_true] at v4
        exact sw_and (sd.T h cl v4.1) (sd.W h cl v4.2)
      | _ => cases v3
    | Or =>
      cases e with
      | or a b =>
        have v4 : (chkT n c a y && chkW n c .Or b (.BoolOp .Or (z :: r) p)) = true := v3
        rw [Bool.and_eq_true] at v4
        exact sw_or (sd.T h cl v4.1) (sd.W h cl v4.2)
      | _ => cases v3
theorem sd_t (sd : Sd n) (h : Cc c k X G) (cl : Cl k X E C m c.tb c.kb) {e : ME} (v : chkT (n + 1) c e x = true) : ST X k E x (evE G C e) := by
  unfold chkT at v
  rw [Bool.or_eq_true] at v
  rcases v with v | v
  · rw [Bool.and_eq_true] at v
    exact st_tru h.ck (sd.E h cl v.2) (test_of v.1)
  · cases e with
    | cmp o a b =>
      obtain ⟨y, op, z, p, rfl, v1, v2, v3⟩ := xCmp1_s v
      rw [Bool.and_eq_true] at v2
      cases cmpB_s v1
      exact st_cmp h.ck o (sd.E h cl v3) (sd.E h cl v2.2) (marks_of v2.1)
    | chn o p a b d =>
      obtain ⟨y, o1, o2, z, w, ps, rfl, v1, v2, v3⟩ := xCmp2_s v
      simp only [Bool.and_eq_true] at v1 v2
      cases cmpB_s v1.1
      cases cmpB_s v1.2
      exact st_chn h.ck o p (sd.E h cl v3) (sd.E h cl v2.1.2) (sd.E h cl v2.2) (by show behindInMarks _ w = false; exact marks_of v2.1.1)
    | not a =>
      obtain ⟨op, y, p, rfl, v1⟩ := xUn_s v
      rw [Bool.and_eq_true, beq_iff_eq] at v1
      obtain ⟨rfl, v2⟩ := v1
      exact st_not (sd.T h cl v2)
    | and a b => exact (sd.W h cl v).pt
    | or a b => exact (sd.W h cl v).pt
    | _ => cases v
theorem sd_e (sd : Sd n) (h : Cc c k X G) (cl : Cl k X E C m c.tb c.kb) {e : ME} (v : chkE (n + 1) c e x = true) : SE X k E x (evE G C e) := by
  unfold chkE at v
  cases e with
  | var i =>
    obtain ⟨y, p, rfl, v1⟩ := xName_s v
    obtain ⟨h1, h2, h3, h4⟩ := h.vis v1
    exact se_var h1 h2 h3 h4
  | con d =>
    obtain ⟨y, j, p, rfl, v1⟩ := xConst_s v
    exact se_con (conB_s v1)
  | glb g =>
    obtain ⟨y, p, rfl, v1⟩ := xName_s v
    rw [Bool.and_eq_true, beq_iff_eq] at v1
    obtain ⟨w, u, d, h1, h2, h3, h4⟩ := h.gv g y v1.1
    obtain ⟨h5, h6⟩ := h.glob v1.2
    exact se_glb h5 h1 h2 h6 h3 h4
  | tup es =>
    obtain ⟨xs, j, p, rfl, v1⟩ := xTuple_s v
    exact se_tup (sd.Es h cl v1)
  | lst es =>
    obtain ⟨xs, p, rfl, v1⟩ := xList_s v
    exact se_of_f (sf_lst (sd.Es h cl v1)) lst_val
  | box es =>
    obtain ⟨xs, p, rfl, v1⟩ := xList_s v
    exact se_box (sd.Es h cl v1)
  | new e =>
    rw [Bool.or_eq_true] at v
    rcases v with v | v
    · exact se_new (sd.F h cl v)
    · cases e with
      | bin o a b =>
        cases o with
        | add =>
          obtain ⟨y, op, z, p, rfl, v1⟩ := xBin_s v
          simp only [Bool.and_eq_true, beq_iff_eq] at v1
          obtain ⟨⟨rfl, v2⟩, v3⟩ := v1
          exact se_newCat h.ck.K (sd.E h cl v2) (sd.E h cl v3)
        | _ => cases v
      | rev a =>
        obtain ⟨y, z, p, rfl, v1⟩ := xSub_s v
        rw [Bool.and_eq_true] at v1
        obtain ⟨l, u, s, p2, rfl, v2⟩ := xSlice_s v1.2
        simp only [Bool.and_eq_true] at v2
        obtain ⟨⟨v3, v4⟩, v5⟩ := v2
        obtain rfl := Option.isNone_iff_eq_none.mp v3
        obtain rfl := Option.isNone_iff_eq_none.mp v4
        obtain ⟨w, rfl, v6⟩ := sm_s v5
        obtain ⟨op, q, p3, rfl, v7⟩ := xUn_s v6
        rw [Bool.and_eq_true, beq_iff_eq] at v7
        obtain ⟨rfl, v8⟩ := v7
        obtain ⟨kk, j, p4, rfl, v9⟩ := xConst_s v8
        have e1 : kk = .int 1 := by
          cases kk <;> first | (cases v9; done) | (simp only [conB, beq_iff_eq] at v9; rw [v9])
        subst e1
        exact se_newRev h.ck (sd.E h cl v1.1)
      | bi b es =>
        cases b with
        | list =>
          obtain ⟨g, xs, ks, p, rfl, v0⟩ := xCall_s v
          simp only [Bool.and_eq_true, List.isEmpty_iff] at v0
          obtain ⟨⟨⟨⟨v1, rfl⟩, v3⟩, v4⟩, v5⟩ := v0
          obtain ⟨p0, rfl, bn⟩ := call_s (xs := xs) (ks := []) (p := p) h v1
          obtain ⟨e1, es1, rfl⟩ := isEmpty_no v3
          exact se_newList h.ck bn (sd.Es h cl v5) (star_of (nst1 v4).1) (by rw [back_any]; exact star_any (nst1 v4).2)
        | _ => cases v
      | _ => cases v
  | dcp es =>
    obtain ⟨g, xs, ks, p, rfl, v0⟩ := xCall_s v
    simp only [Bool.and_eq_true, List.isEmpty_iff] at v0
    obtain ⟨⟨⟨⟨v1, rfl⟩, v3⟩, v4⟩, v5⟩ := v0
    obtain ⟨p0, rfl, bn⟩ := call_s (xs := xs) (ks := []) (p := p) h v1
    obtain ⟨e1, es1, rfl⟩ := isEmpty_no v3
    exact se_dcp h.ck bn (sd.Es h cl v5) (star_of (nst1 v4).1) (by rw [back_any]; exact star_any (nst1 v4).2)
  | bin o a b =>
    obtain ⟨y, op, z, p, rfl, v1⟩ := xBin_s v
    simp only [Bool.and_eq_true] at v1
    cases opB_s v1.1.1
    exact se_bin h.ck.K o (sd.E h cl v1.1.2) (sd.E h cl v1.2)
  | neg a =>
    obtain ⟨op, y, p, rfl, v1⟩ := xUn_s v
    rw [Bool.and_eq_true, beq_iff_eq] at v1
    obtain ⟨rfl, v2⟩ := v1
    exact se_neg (sd.E h cl v2)
  | cmp o a b =>
    obtain ⟨y, op, z, p, rfl, v1, v2, v3⟩ := xCmp1_s v
    rw [Bool.and_eq_true] at v2
    cases cmpB_s v1
    exact se_cmp h.ck o (sd.E h cl v3) (sd.E h cl v2.2) (marks_of v2.1)
  | chn o p a b d =>
    obtain ⟨y, o1, o2, z, w, ps, rfl, v1, v2, v3⟩ := xCmp2_s v
    simp only [Bool.and_eq_true] at v1 v2
    cases cmpB_s v1.1
    cases cmpB_s v1.2
    exact se_chn h.ck o p (sd.E h cl v3) (sd.E h cl v2.1.2) (sd.E h cl v2.2) (by show behindInMarks _ w = false; exact marks_of v2.1.1)
  | and a b =>
    obtain ⟨op, xs, p, rfl, v1⟩ := xBool_s v
    rw [Bool.and_eq_true, beq_iff_eq] at v1
    obtain ⟨rfl, v2⟩ := v1
    obtain ⟨y, r, rfl, v3⟩ := lc_s v2
    rw [Bool.and_eq_true] at v3
    obtain ⟨z, r2, rfl, v4⟩ := lc_s v3.2
    cases r2 with
    | nil => exact se_and h.ck (sd.E h cl v3.1) (se_one (sd.E h cl v4))
    | cons u r3 => exact se_and h.ck (sd.E h cl v3.1) (sd.E h cl v4)
  | or a b =>
    obtain ⟨op, xs, p, rfl, v1⟩ := xBool_s v
    rw [Bool.and_eq_true, beq_iff_eq] at v1
    obtain ⟨rfl, v2⟩ := v1
    obtain ⟨y, r, rfl, v3⟩ := lc_s v2
    rw [Bool.and_eq_true] at v3
    obtain ⟨z, r2, rfl, v4⟩ := lc_s v3.2
    cases r2 with
    | nil => exact se_or h.ck (sd.E h cl v3.1) (se_one (sd.E h cl v4))
    | cons u r3 => exact se_or h.ck (sd.E h cl v3.1) (sd.E h cl v4)
  | not a =>
    obtain ⟨op, y, p, rfl, v1⟩ := xUn_s v
    rw [Bool.and_eq_true, beq_iff_eq] at v1
    obtain ⟨rfl, v2⟩ := v1
    exact se_not h.ck (sd.E h cl v2)
  | ife t a b =>
    obtain ⟨y, z, w, p, rfl, v1⟩ := xIf_s v
    simp only [Bool.and_eq_true] at v1
    exact se_if (sd.T h cl v1.1.1) (sd.E h cl v1.1.2) (sd.E h cl v1.2)
  | idx a i =>
    obtain ⟨y, z, p, rfl, v1⟩ := xSub_s v
    simp only [Bool.and_eq_true] at v1
    exact se_idx h.ck (sd.E h cl v1.1.2) (sd.E h cl v1.2) v1.1.1
  | slc a lo hi =>
    obtain ⟨y, z, p, rfl, v1⟩ := xSub_s v
    rw [Bool.and_eq_true] at v1
    obtain ⟨l, u, s, p2, rfl, v2⟩ := xSlice_s v1.2
    simp only [Bool.and_eq_true] at v2
    obtain ⟨⟨v3, v4⟩, v5⟩ := v2
    obtain rfl := Option.isNone_iff_eq_none.mp v3
    exact se_slc h.ck (sd.E h cl v1.1) (sd.O h cl v4) (sd.O h cl v5)
  | rev a =>
    obtain ⟨y, z, p, rfl, v1⟩ := xSub_s v
    rw [Bool.and_eq_true] at v1
    obtain ⟨l, u, s, p2, rfl, v2⟩ := xSlice_s v1.2
    simp only [Bool.and_eq_true] at v2
    obtain ⟨⟨v3, v4⟩, v5⟩ := v2
    obtain rfl := Option.isNone_iff_eq_none.mp v3
    obtain rfl := Option.isNone_iff_eq_none.mp v4
    obtain ⟨w, rfl, v6⟩ := sm_s v5
    obtain ⟨op, q, p3, rfl, v7⟩ := xUn_s v6
    rw [Bool.and_eq_true, beq_iff_eq] at v7
    obtain ⟨rfl, v8⟩ := v7
    obtain ⟨kk, j, p4, rfl, v9⟩ := xConst_s v8
    have e1 : kk = .int 1 := by
      cases kk <;> first | (cases v9; done) | (simp only [conB, beq_iff_eq] at v9; rw [v9])
    subst e1
    exact se_rev h.ck (sd.E h cl v1.1)
  | call j es =>
    obtain ⟨g, xs, ks, p, rfl, v0⟩ := xCall_s v
    simp only [Bool.and_eq_true, List.isEmpty_iff] at v0
    obtain ⟨⟨⟨v1, rfl⟩, v3⟩, v4⟩ := v0
    obtain ⟨y, p0, rfl, v5⟩ := xName_s v1
    rw [Bool.and_eq_true] at v5
    obtain ⟨ps, hps⟩ := tb_s v5.1
    obtain ⟨hg, hd⟩ := h.glob v5.2
    have sa := sd.Es h cl v4
    cases xs with
    | nil =>
      cases es with
      | nil => exact se_call0 cl hps hg hd
      | cons _ _ => cases n with
        | zero => cases v4
        | succ n => cases v4
    | cons e1 es1 => exact se_call cl hps hg sa hd (star_of (nst1 v3).1) (by rw [back_any]; exact star_any (nst1 v3).2)
  | callk j es ks perm =>
    obtain ⟨g, xs, kws, p, rfl, v0⟩ := xCall_s v
    simp only [Bool.and_eq_true] at v0
    obtain ⟨⟨⟨⟨⟨v1, v3⟩, v4⟩, v5⟩, v6⟩, v7⟩ := v0
    obtain ⟨y, p0, rfl, v8⟩ := xName_s v1
    rw [Bool.and_eq_true] at v8
    obtain ⟨ps, hps⟩ := tb_s v8.1
    obtain ⟨hg, hd⟩ := h.glob v8.2
    obtain ⟨sh, hsh, v9⟩ := List.any_eq_true.mp v7
    simp only [Bool.and_eq_true, beq_iff_eq] at v9
    obtain ⟨⟨⟨⟨q1, q2⟩, q3⟩, q4⟩, q5⟩ := v9
    cases xs with
    | nil =>
      cases es with
      | nil =>
        have key := se_callk0 (p0 := p0) (pos := p) cl hps hsh q1 q2 hg (sd.K h cl v6) (fun env M vs M' hh => by rw [← q5]; exact mes_len ks env M vs M' hh)
          (backKw_all v4) (by rw [backKw_names]; exact q3.symm) hd (by rw [backKw_any v4]; rfl)
        rw [q4] at key
        exact key
      | cons _ _ => cases n with
        | zero => cases v5
        | succ n => cases v5
    | cons e1 es1 =>
      have key := se_callk (p0 := p0) (pos := p) cl hps hsh q1 hg (sd.Es h cl v5) (sd.K h cl v6) (fun env M vs M' hh => by rw [q2]; exact mes_len es env M vs M' hh) (fun env M vs M' hh => by rw [← q5]; exact mes_len ks env M vs M' hh)
        (backKw_all v4) (by rw [backKw_names]; exact q3.symm) hd (star_of (nst1 v3).1) (by rw [back_any, star_any v3, backKw_any v4]; rfl)
      rw [q4] at key
      exact key
  | bi b es =>
    have plain : xCall (fun g xs ks _ => xName (fun y => y == Str.ofString (biN b) && c.bn y) g && ks.isEmpty && !xs.isEmpty && xs.all nst && chkEs n c es xs) x = true → biN b ≠ "" → SE X k E x (sBi b (evEs G C es)) := by
      intro w hb
      obtain ⟨g, xs, ks, p, rfl, v0⟩ := xCall_s w
      simp only [Bool.and_eq_true, List.isEmpty_iff] at v0
      obtain ⟨⟨⟨⟨v1, rfl⟩, v3⟩, v4⟩, v5⟩ := v0
      obtain ⟨p0, rfl, bn⟩ := call_s (xs := xs) (ks := []) (p := p) h v1
      obtain ⟨e1, es1, rfl⟩ := isEmpty_no v3
      exact bi_ok h bn hb (sd.Es h cl v5) v4
    cases b with
    | rngL =>
      obtain ⟨a, rfl, v1⟩ := MEs.one_s v
      obtain ⟨p, p1, p2, p3, ys, rfl, b1, b2, ns, v2⟩ := rng_s h v1
      obtain ⟨z, rfl, v3⟩ := l1_s v2
      exact se_rngL1 h.ck b1 b2 (sd.E h cl v3) (star_of (nst1 ns).1)
    | rngT =>
      obtain ⟨a, rfl, v1⟩ := MEs.one_s v
      obtain ⟨p, p1, p2, p3, ys, rfl, b1, b2, ns, v2⟩ := rng_s h v1
      obtain ⟨z, rfl, v3⟩ := l1_s v2
      exact se_rngT1 h.ck b1 b2 (sd.E h cl v3) (star_of (nst1 ns).1)
    | rngL2 =>
      obtain ⟨a, b, rfl, v1⟩ := MEs.two_s v
      obtain ⟨p, p1, p2, p3, ys, rfl, b1, b2, ns, v2⟩ := rng_s h v1
      obtain ⟨z, w, rfl, v3⟩ := l2_s v2
      rw [Bool.and_eq_true] at v3
      exact se_rngL2 h.ck b1 b2 (sd.E h cl v3.1) (sd.E h cl v3.2) (star_of (nst1 ns).1) (star_of (nst1 (nst1 ns).2).1) (by rw [back_any]; exact star_any (nst1 ns).2)
    | rngT2 =>
      obtain ⟨a, b, rfl, v1⟩ := MEs.two_s v
      obtain ⟨p, p1, p2, p3, ys, rfl, b1, b2, ns, v2⟩ := rng_s h v1
      obtain ⟨z, w, rfl, v3⟩ := l2_s v2
      rw [Bool.and_eq_true] at v3
      exact se_rngT2 h.ck b1 b2 (sd.E h cl v3.1) (sd.E h cl v3.2) (star_of (nst1 ns).1) (star_of (nst1 (nst1 ns).2).1) (by rw [back_any]; exact star_any (nst1 ns).2)
    | len => exact plain v (by decide)
    | abs => exact plain v (by decide)
    | int => exact plain v (by decide)
    | tuple => exact plain v (by decide)
    | list => exact plain v (by decide)
    | sorted => exact plain v (by decide)
    | sum => exact plain v (by decide)
    | min2 => exact plain v (by decide)
    | max2 => exact plain v (by decide)
  | isi a t =>
    obtain ⟨g, xs, ks, p, rfl, v0⟩ := xCall_s v
    simp only [Bool.and_eq_true, List.isEmpty_iff] at v0
    obtain ⟨⟨v1, rfl⟩, v3⟩ := v0
    obtain ⟨p0, rfl, bn⟩ := call_s (xs := xs) (ks := []) (p := p) h v1
    obtain ⟨y, z, rfl, v4⟩ := l2_s v3
    simp only [Bool.and_eq_true] at v4
    obtain ⟨⟨n1, v5⟩, v6⟩ := v4
    obtain ⟨p1, rfl, bt⟩ := call_s (xs := []) (ks := []) (p := p) h v6
    exact se_isi h.ck t (sd.E h cl v5) bn bt fun p => star_of n1
  | mt mm o es =>
    obtain ⟨g, xs, ks, cp, rfl, v0⟩ := xCall_s v
    simp only [Bool.and_eq_true, List.isEmpty_iff] at v0
    obtain ⟨⟨⟨⟨⟨v1, rfl⟩, v3⟩, v4⟩, v5⟩, v6⟩ := v0
    obtain ⟨y, nm, ap, rfl, v7⟩ := xAttr_s v1
    simp only [Bool.and_eq_true] at v7
    obtain ⟨⟨⟨w1, w2⟩, w3⟩, w4⟩ := v7
    rw [beq_iff_eq] at w1
    subst w1
    have ho := sd.E h cl w4
    have hes := sd.Es h cl v6
    have hl : xs.length < 20 := of_decide_eq_true v4
    have few : ∀ {e1 : Expr} {es1 : List Expr}, xs = e1 :: es1 → ((backTo cp (starEach (e1 :: es1) X.env)).all (fun x => !x.1) && (backToKw cp (keywordEach [] X.env)).all (fun x => x.1.isSome)
      && decide ((e1 :: es1).length + ([] : List Keyword).length + (if ([] : List Keyword).isEmpty then 0 else 1) < 30)) = true := by
      intro e1 es1 he
      subst he
      rw [back_all, star_all v3]
      have : (e1 :: es1).length + 0 + 0 < 30 := by omega
      simp only [Bool.true_and]
      show (true && decide ((e1 :: es1).length + 0 + 0 < 30)) = true
      rw [decide_eq_true this]
      rfl
    cases mm with
    | pop0 =>
      obtain rfl := List.isEmpty_iff.mp v5
      cases es with
      | nil => exact PE.imp (pe_bmS0 PySem.F.plainAttrs_list PySem.F.slot_list_pop PySem.F.type_list_pop m_pop0 ho (base_of w2) w3) fun σ H Q hh => tr_mt0 h.ck .pop0 hh
      | cons _ _ => cases n with
        | zero => cases v6
        | succ n => cases v6
    | append =>
      obtain ⟨e1, es1, he⟩ := isEmpty_no v5
      have fw := few he
      subst he
      exact PE.imp (pe_bmS PySem.F.plainAttrs_list PySem.F.slot_list_append PySem.F.type_list_append m_append ho hes (base_of w2) fw w3 (star_of (nst1 v3).1) (by rw [back_any]; exact star_any (nst1 v3).2)) fun σ H Q hh => tr_mt h.ck .append hh
    | popAt =>
      obtain ⟨e1, es1, he⟩ := isEmpty_no v5
      have fw := few he
      subst he
      exact PE.imp (pe_bmS PySem.F.plainAttrs_list PySem.F.slot_list_pop PySem.F.type_list_pop m_popAt ho hes (base_of w2) fw w3 (star_of (nst1 v3).1) (by rw [back_any]; exact star_any (nst1 v3).2)) fun σ H Q hh => tr_mt h.ck .popAt hh
    | insert =>
      obtain ⟨e1, es1, he⟩ := isEmpty_no v5
      have fw := few he
      subst he
      exact PE.imp (pe_bmS PySem.F.plainAttrs_list PySem.F.slot_list_insert PySem.F.type_list_insert m_insert ho hes (base_of w2) fw w3 (star_of (nst1 v3).1) (by rw [back_any]; exact star_any (nst1 v3).2)) fun σ H Q hh => tr_mt h.ck .insert hh
    | extend =>
      obtain ⟨e1, es1, he⟩ := isEmpty_no v5
      have fw := few he
      subst he
      exact PE.imp (pe_bmS PySem.F.plainAttrs_list PySem.F.slot_list_extend PySem.F.type_list_extend m_extend ho hes (base_of w2) fw w3 (star_of (nst1 v3).1) (by rw [back_any]; exact star_any (nst1 v3).2)) fun σ H Q hh => tr_mt h.ck .extend hh
    | index =>
      obtain ⟨e1, es1, he⟩ := isEmpty_no v5
      have fw := few he
      subst he
      exact PE.imp (pe_bmS PySem.F.plainAttrs_list PySem.F.slot_list_index PySem.F.type_list_index (m_index h.ck) ho hes (base_of w2) fw w3 (star_of (nst1 v3).1) (by rw [back_any]; exact star_any (nst1 v3).2)) fun σ H Q hh => tr_mt h.ck .index hh
    | indexT =>
      obtain ⟨e1, es1, he⟩ := isEmpty_no v5
      have fw := few he
      subst he
      exact PE.imp (pe_bmS PySem.F.plainAttrs_tuple PySem.F.slot_tuple_index PySem.F.type_tuple_index (m_indexT h.ck) ho hes (base_of w2) fw w3 (star_of (nst1 v3).1) (by rw [back_any]; exact star_any (nst1 v3).2)) fun σ H Q hh => tr_mt h.ck .indexT hh
  | lc own tg it ifs e => exact se_of_f (lc_ok sd h cl v) lc_list_val
  | dnw t =>
    obtain ⟨ks, vs, p, rfl, v1⟩ := xDict_s v
    simp only [Bool.and_eq_true, List.isEmpty_iff] at v1
    obtain ⟨rfl, rfl⟩ := v1
    cases t with
    | true => exact se_dnwT h.ck
    | false => exact se_dnwK
  | ddsp a b =>
    cases a with
    | var i =>
      cases b with
      | con d =>
        cases d with
        | bool t =>
          obtain ⟨ks, vs, p, rfl, v1⟩ := xDict_s v
          rw [Bool.and_eq_true] at v1
          obtain ⟨o1, rfl, v2⟩ := l1_s v1.1
          obtain ⟨y, rfl, v3⟩ := sm_s v2
          obtain ⟨nm, p1, rfl, v4⟩ := xName_s v3
          obtain ⟨z, rfl, v5⟩ := l1_s v1.2
          obtain ⟨kk, j, p2, rfl, v6⟩ := xConst_s v5
          have e1 : kk = .bool t := by
            cases kk <;> first | (cases v6; done) | (simp only [conB, beq_iff_eq] at v6; rw [v6])
          subst e1
          obtain ⟨h1, h2, h3, h4⟩ := h.vis v4
          exact se_ddsp h.ck h1 h2 h3 h4
        | _ => cases v
      | _ => cases v
    | _ => cases v
end
theorem sd : ∀ n, Sd n
  | 0 => by constructor <;> (intros; rename_i v; exact absurd (show false = true from v) Bool.false_ne_true)
  | n + 1 => ⟨fun h cl _ _ v => sd_e (sd n) h cl v, fun h cl _ _ v => sd_f (sd n) h cl v, fun h cl _ _ v => sd_es (sd n) h cl v, fun h cl _ _ v => sd_k (sd n) h cl v, fun h cl _ _ v => sd_o (sd n) h cl v, fun h cl _ _ _ v => sd_i (sd n) h cl v, fun h cl _ _ v => sd_ts (sd n) h cl v, fun h cl _ _ v => sd_t (sd n) h cl v, fun h cl _ _ _ v => sd_w (sd n) h cl v⟩
end Mp
end
section
set_option maxHeartbeats 4000000
/-! The check on statements, on defs; it is sound. -/
namespace Mp
open PySem PySem.Spec PyProof.Rows L2

/-! ### shapes of statements -/
def yAsg (f : Expr → Expr → Pos → Bool) : Stmt → Bool | .Assign ts e p => l1 (fun t => f t e p) ts | _ => false
def yAug (f : Expr → Operator → Expr → Bool) : Stmt → Bool | .AugAssign t o e _ => f t o e | _ => false
def yFor (f : Expr → Expr → List Stmt → Bool) : Stmt → Bool | .For t e b r _ => r.isEmpty && f t e b | _ => false
def yWhile (f : Expr → List Stmt → Bool) : Stmt → Bool | .While e b r _ => r.isEmpty && f e b | _ => false
def yIf (f : Expr → List Stmt → List Stmt → Bool) : Stmt → Bool | .If e a b _ => f e a b | _ => false
def yExpr (f : Expr → Bool) : Stmt → Bool | .Expr e _ => f e | _ => false
def yRet (f : Option Expr → Bool) : Stmt → Bool | .Return e _ => f e | _ => false
def yBrk : Stmt → Bool | .Break _ => true | _ => false
def yCtn : Stmt → Bool | .Continue _ => true | _ => false
def yPas : Stmt → Bool | .Pass _ => true | .Expr (.Constant (.str _) _ _) _ => true | _ => false
section
variable {s : Stmt}
theorem yAsg_s {f : Expr → Expr → Pos → Bool} (h : yAsg f s = true) : ∃ t e p, s = .Assign [t] e p ∧ f t e p = true := by
  cases s <;> first | (obtain ⟨t, rfl, h1⟩ := l1_s h; exact ⟨_, _, _, rfl, h1⟩) | cases h
theorem yAug_s {f : Expr → Operator → Expr → Bool} (h : yAug f s = true) : ∃ t o e p, s = .AugAssign t o e p ∧ f t o e = true := by cases s <;> first | exact ⟨_, _, _, _, rfl, h⟩ | cases h
theorem yFor_s {f : Expr → Expr → List Stmt → Bool} (h : yFor f s = true) : ∃ t e b p, s = .For t e b [] p ∧ f t e b = true := by
  cases s with
  | For t e b r p =>
    have h' : (r.isEmpty && f t e b) = true := h
    rw [Bool.and_eq_true, List.isEmpty_iff] at h'
    obtain ⟨rfl, h2⟩ := h'
    exact ⟨_, _, _, _, rfl, h2⟩
  | _ => cases h
theorem yWhile_s {f : Expr → List Stmt → Bool} (h : yWhile f s = true) : ∃ e b p, s = .While e b [] p ∧ f e b = true := by
  cases s with
  | While e b r p =>
    have h' : (r.isEmpty && f e b) = true := h
    rw [Bool.and_eq_true, List.isEmpty_iff] at h'
    obtain ⟨rfl, h2⟩ := h'
    exact ⟨_, _, _, rfl, h2⟩
  | _ => cases h
theorem yIf_s {f : Expr → List Stmt → List Stmt → Bool} (h : yIf f s = true) : ∃ e a b p, s = .If e a b p ∧ f e a b = true := by cases s <;> first | exact ⟨_, _, _, _, rfl, h⟩ | cases h
theorem yExpr_s {f : Expr → Bool} (h : yExpr f s = true) : ∃ e p, s = .Expr e p ∧ f e = true := by cases s <;> first | exact ⟨_, _, rfl, h⟩ | cases h
theorem yRet_s {f : Option Expr → Bool} (h : yRet f s = true) : ∃ e p, s = .Return e p ∧ f e = true := by cases s <;> first | exact ⟨_, _, rfl, h⟩ | cases h
end

/-- neither side a row against a row -/
def noTT : Expr → Expr → Bool
  | .Tuple .., .Tuple .. => false
  | .List .., .Tuple .. => false
  | _, _ => true
theorem noTT_s {t e : Expr} {env : PySem.Env} (h : noTT t e = true) : swappedStores [t] e env = pure none := by
  cases t <;> cases e <;> first | rfl | cases h
/-- a comprehension, stored at a name, in the frame's own block -/
def chkLC (n : Nat) (c : CC) (y : Str) (p1 : Pos) : ME → Expr → Bool
  | .lc own tg it ifs e, x => (p1.line == x.pos.line) && (c.sc.kind == .function) && (c.sc.names.lookup y == some .local) && xComp (fun elt gs sc => (!(sc.names.any fun q => q.1 == y && (q.2 == .local || q.2 == .cell))) && l1 (fun q => q.is_async == 0 && blkC c.N c.sc sc (own.map fun i => (c.N.getD i "", i)) && tgIn own tg && nSet q.iter && chkI n c q.target it q.iter &&
        chkG { c with sc := relS sc c.sc, all := false } tg q.target && chkTs n { c with sc := relS sc c.sc, all := false } ifs q.ifs && chkE n { c with sc := relS sc c.sc, all := false } e elt) gs) x
  | _, _ => false
def isAS : BOp → Bool
  | .add => true
  | .sub => true
  | _ => false
theorem isAS_s {o : BOp} (h : isAS o = true) : o = .add ∨ o = .sub := by cases o <;> first | exact .inl rfl | exact .inr rfl | cases h
def deNew : ME → ME
  | .new e => e
  | e => e
def okSet (c : CC) (y : Str) (x : Expr) : Bool := notComp x || (xComp (fun _ _ _ => true) x && c.sc.names.lookup y == some .cell)
theorem swaps_ok {c : CC} {k : Kx} {X : Cx} {G : Nat → Option D} (h : Cc c k X G) {y : Str} {x : Expr} {p1 : Pos} {l : Nat} (v : okSet c y x = true) : swapsWith x (some (.Name y p1)) l X.env = pure false := by
  unfold okSet at v
  rw [Bool.or_eq_true] at v
  rcases v with v | v
  · exact swaps_false v
  · rw [Bool.and_eq_true, beq_iff_eq] at v
    obtain ⟨elt, gs, sc, p, rfl, _⟩ := xComp_s v.1
    have hy : X.env.kindOf y = some .cell := by
      show X.env.scope.names.lookup y = _
      rw [h.sc]
      exact v.2
    show (pure (X.env.blockKind == .function && X.env.kindOf y == some .local && p1.line == p.line && !(sc.names.any fun (n, k) => n == y && (k == .local || k == .cell))) : Sem Bool) = pure false
    rw [hy]
    have e : (some NameKind.cell == some NameKind.local) = false := by decide
    rw [e]
    simp
def namesB (c : CC) : List Nat → List Expr → Bool
  | [], [] => true
  | i :: is, t :: ts => xName (fun y => c.loc i y) t && namesB c is ts
  | _, _ => false
theorem namesB_s {c : CC} {k : Kx} {X : Cx} {G : Nat → Option D} (h : Cc c k X G) : ∀ {is : List Nat} {ts : List Expr}, namesB c is ts = true → PGs X ts (gNs is) ∧ (assignEach ts X.env).length = is.length ∧ (assignEach ts X.env).findIdx? (·.1) = none
  | [], [], _ => ⟨pgs_nil, rfl, rfl⟩
  | [], _ :: _, v => by cases v
  | _ :: _, [], v => by cases v
  | i :: is, t :: ts, v => by
    have v' : (xName (fun y => c.loc i y) t && namesB c is ts) = true := v
    rw [Bool.and_eq_true] at v'
    obtain ⟨y, p0, rfl, v2⟩ := xName_s v'.1
    obtain ⟨h1, h2, h3⟩ := h.loc v2
    obtain ⟨g1, g2, g3⟩ := namesB_s h v'.2
    have e : assignEach (.Name y p0 :: ts) X.env = (false, assign (.Name y p0) X.env) :: assignEach ts X.env := asgEach_of rfl
    refine ⟨pgs_cons (pg_name h.ck.nd h1 h2 h3) g1 (by rw [e]; rfl), by rw [e, List.length_cons, g2]; rfl, ?_⟩
    rw [e, List.findIdx?_cons, g3]
    rfl
mutual
def chkS : Nat → CC → MS → Stmt → Bool
  | 0, _, _, _ => false
  | n + 1, c, s, st => match s with
    | .set i e => yAsg (fun t x p => xName (fun y => c.loc i y) t && (xName (fun y => okSet c y x && chkE n c e x) t || (xName (fun y => chkLC n c y t.pos (deNew e) x) t))) st
    | .asg tg e => yAsg (fun t x _ => nst t && noTT t x && notComp x && chkG c tg t && chkE n c e x) st
    | .par2 i j a b => yAsg (fun t x _ => xTuple (l2 fun t1 t2 => xName (fun y => xName (fun z => c.N[i]? == some y && c.N[j]? == some z && !(i == j) && xTuple (l2 fun u v => (swp c.sc y z t1.pos t2.pos u v || (swpN c.sc y z u v && c.loc i y && c.loc j z)) && chkE n c a u && chkE n c b v) x) t2) t1) t) st
    | .parN is es => yAsg (fun t x _ => xTuple (fun ts => xTuple (fun us => namesB c is ts && (!(ts.length == 2 || ts.length == 3) || us.all (foldedForSure 8)) && chkEs n c es us) x) t) st
    | .setI o i e => yAsg (fun t x _ => xSub (fun y z => notSl z && notComp x && chkE n c o y && chkE n c i z && chkE n c e x) t) st
    | .aug i o e => yAug (fun t op x => opB o op && isAS o && xName (fun y => c.loc i y) t && chkE n c e x) st
    | .exp e => yExpr (fun x => notComp x && chkE n c e x) st
    | .ret e => yRet (sm fun x => chkE n c e x) st
    | .retn => yRet (fun x => x.isNone) st
    | .iff e a b => yIf (fun x xs ys => chkT n c e x && chkSs n c a xs && chkSs n c b ys) st
    | .forr tg it b => yFor (fun t x xs => nSet x && chkG c tg t && chkI n c t it x && chkSs n c b xs) st
    | .whil e b => yWhile (fun x xs => chkT n c e x && chkSs n c b xs) st
    | .brk => yBrk st
    | .ctn => yCtn st
    | .pas => yPas st
    | .frz _ => false
def chkSs : Nat → CC → MSs → List Stmt → Bool
  | 0, _, _, _ => false
  | n + 1, c, ss, sts => match ss with
    | .nil => sts.isEmpty
    | .cons s ss => match s with
      | .frz _ => chkSs n c ss sts
      | s => lc (fun st r => chkS n c s st && chkSs n c ss r) sts
end
structure SdS (n : Nat) : Prop where
  S : ∀ {c : CC} {k : Kx} {X : Cx} {G : Nat → Option D} {E : XK} {C : CT} {m : Nat}, Cc c k X G → Cl k X E C m c.tb c.kb → ∀ {s : MS} {st : Stmt}, chkS n c s st = true → SSt X k E st (evS G C s)
  Ss : ∀ {c : CC} {k : Kx} {X : Cx} {G : Nat → Option D} {E : XK} {C : CT} {m : Nat}, Cc c k X G → Cl k X E C m c.tb c.kb → ∀ {s : MSs} {st : List Stmt}, chkSs n c s st = true → SSs X k E st (evSs G C s)
section
variable {n : Nat} {c : CC} {k : Kx} {X : Cx} {G : Nat → Option D} {E : XK} {C : CT} {m : Nat}
theorem set_lc (h : Cc c k X G) (cl : Cl k X E C m c.tb c.kb) {i : Nat} {y : Str} {p1 spos : Pos} {e : ME} {x : Expr} (hi : X.N[i]? = some y) (v : chkLC n c y p1 e x = true) (nw : Bool) :
    SSt X k E (.Assign [.Name y p1] x spos) (sSet i (if nw then sNew (evE G C e) else evE G C e)) := by
  unfold chkLC at v
  cases e with
  | lc own tg it ifs e =>
    simp only [Bool.and_eq_true, beq_iff_eq] at v
    obtain ⟨⟨⟨a1, a2⟩, a3⟩, a4⟩ := v
    obtain ⟨elt, gs, sc, p, rfl, w0⟩ := xComp_s a4
    rw [Bool.and_eq_true] at w0
    obtain ⟨wn, w0⟩ := w0
    obtain ⟨q, rfl, w1⟩ := l1_s w0
    obtain ⟨tx, ix, fx, as⟩ := q
    simp only [Bool.and_eq_true, beq_iff_eq] at w1
    obtain ⟨⟨⟨⟨⟨⟨⟨rfl, v1⟩, v2⟩, v3⟩, v4⟩, v5⟩, v6⟩, v7⟩ := w1
    have ok : BlkOk X.N X.env.scope sc (own.map fun i => (c.N.getD i "", i)) := by
      rw [h.N, h.sc]
      exact blkOk_by v1
    have key := ss_setLc (k := k) (E := E) (pos := p) (p1 := p1) (spos := spos) (i := i) (y := y) h.ck hi (by rw [h.sc]; exact a3) (swaps_lc (l := spos.line) h.sc a2 a3 (by rw [beq_iff_eq]; exact a1) wn) ((sd n).I h cl v4) ok (t := tg) (by rw [own_map]; exact v2) (c := evC G C ifs) (f := evE G C e)
      (fun s H Ca cl' fp => chkG_ok (h.blk ok.kind) tg tx v5) (fun s H Ca cl' fp => (sd n).Ts (h.blk ok.kind) cl.blk v6) (fun s H Ca cl' fp => (sd n).E (h.blk ok.kind) cl.blk v7) (fold_of v3) nw
    rw [own_map] at key
    exact key
  | _ => cases v
theorem sds_ss (sds : SdS n) (h : Cc c k X G) (cl : Cl k X E C m c.tb c.kb) {s : MSs} {st : List Stmt} (v : chkSs (n + 1) c s st = true) : SSs X k E st (evSs G C s) := by
  unfold chkSs at v
  cases s with
  | nil =>
    obtain rfl := List.isEmpty_iff.mp v
    exact sss_nil
  | cons s ss =>
    have plain : lc (fun st r => chkS n c s st && chkSs n c ss r) st = true → SSs X k E st (evSs G C (.cons s ss)) := by
      intro w
      obtain ⟨y, r, rfl, w1⟩ := lc_s w
      rw [Bool.and_eq_true] at w1
      exact sss_cons (sds.S h cl w1.1) (sds.Ss h cl w1.2)
    cases s with
    | frz i => exact sss_frz (sds.Ss h cl v)
    | _ => exact plain v
theorem sds_s (sds : SdS n) (h : Cc c k X G) (cl : Cl k X E C m c.tb c.kb) {s : MS} {st : Stmt} (v : chkS (n + 1) c s st = true) : SSt X k E st (evS G C s) := by
  unfold chkS at v
  cases s with
  | set i e =>
    obtain ⟨t, x, p, rfl, v1⟩ := yAsg_s v
    rw [Bool.and_eq_true] at v1
    obtain ⟨y, p1, rfl, v2⟩ := xName_s v1.1
    obtain ⟨h1, h2, h3⟩ := h.loc v2
    rcases Bool.or_eq_true _ _ ▸ v1.2 with v3 | v3
    · have v3 : (okSet c y x && chkE n c e x) = true := v3
      rw [Bool.and_eq_true] at v3
      exact ss_set h.ck h1 h2 h3 ((sd n).E h cl v3.2) (swaps_ok h v3.1)
    · have v4 : chkLC n c y p1 (deNew e) x = true := v3
      cases e with
      | new e1 => exact set_lc (p1 := p1) h cl h1 v4 true
      | _ => exact set_lc (p1 := p1) h cl h1 v4 false
  | asg tg e =>
    obtain ⟨t, x, p, rfl, v1⟩ := yAsg_s v
    simp only [Bool.and_eq_true] at v1
    obtain ⟨⟨⟨⟨n1, n2⟩, n3⟩, v2⟩, v3⟩ := v1
    exact ss_asg ((sd n).E h cl v3) (chkG_ok h tg t v2) (swaps_false n3) (noTT_s n2) (by rw [asgEach_of n1]; rfl)
  | par2 i j a b =>
    obtain ⟨t, x, p, rfl, v1⟩ := yAsg_s v
    obtain ⟨ts, kk, pt, rfl, v2⟩ := xTuple_s v1
    obtain ⟨t1, t2, rfl, v3⟩ := l2_s v2
    obtain ⟨y, py, rfl, v4⟩ := xName_s v3
    obtain ⟨z, pz, rfl, v5⟩ := xName_s v4
    simp only [Bool.and_eq_true, beq_iff_eq] at v5
    obtain ⟨⟨⟨w1, w2⟩, w3⟩, w4⟩ := v5
    obtain ⟨us, k2, pt2, rfl, w5⟩ := xTuple_s w4
    obtain ⟨u, w, rfl, w6⟩ := l2_s w5
    simp only [Bool.and_eq_true] at w6
    obtain ⟨⟨w7, w8⟩, w9⟩ := w6
    have hij : i ≠ j := fun e => by rw [e] at w3; simp at w3
    rcases Bool.or_eq_true _ _ ▸ w7 with w7 | w7
    case inr =>
      simp only [Bool.and_eq_true] at w7
      obtain ⟨⟨q1, q2⟩, q3⟩ := w7
      have hs := swp_none (px := py) (py := pz) (kt := kk) (k2 := k2) (pt := pt) (pt2 := pt2) h.sc q1
      unfold swpN at q1
      simp only [Bool.and_eq_true] at q1
      obtain ⟨i1, i2, i3⟩ := h.loc q2
      obtain ⟨j1, j2, j3⟩ := h.loc q3
      exact ss_par2t h.ck i1 j1 i2 j2 i3 j3 ((sd n).E h cl w8) ((sd n).E h cl w9) (star_of q1.1.1.2) (star_of q1.1.2) hs
    have hs := swp_some (kt := kk) (k2 := k2) (pt := pt) (pt2 := pt2) h.sc w7
    unfold swp at w7
    simp only [Bool.and_eq_true, beq_iff_eq] at w7
    obtain ⟨⟨⟨⟨⟨⟨⟨⟨q1, q2⟩, q3⟩, q4⟩, q5⟩, q6⟩, q7⟩, q8⟩, q9⟩ := w7
    exact ss_par2 h.ck (by rw [h.N]; exact w1) (by rw [h.N]; exact w2) hij (by rw [h.sc]; exact q2) (by rw [h.sc]; exact q3) ((sd n).E h cl w8) ((sd n).E h cl w9) (star_of q6) (star_of q7) hs rfl
  | parN is es =>
    obtain ⟨t, x, p, rfl, v1⟩ := yAsg_s v
    obtain ⟨ts, kk, pt, rfl, v2⟩ := xTuple_s v1
    obtain ⟨us, k2, pt2, rfl, v3⟩ := xTuple_s v2
    simp only [Bool.and_eq_true] at v3
    obtain ⟨⟨w1, w2⟩, w3⟩ := v3
    obtain ⟨g1, g2, g3⟩ := namesB_s h w1
    exact ss_parN h.ck ((sd n).Es h cl w3) g1 g2 g3 (swp_no w2)
  | setI o i e =>
    obtain ⟨t, x, p, rfl, v1⟩ := yAsg_s v
    obtain ⟨y, z, p0, rfl, v2⟩ := xSub_s v1
    simp only [Bool.and_eq_true] at v2
    obtain ⟨⟨⟨⟨n1, n2⟩, v3⟩, v4⟩, v5⟩ := v2
    exact ss_setI ((sd n).E h cl v3) ((sd n).E h cl v4) ((sd n).E h cl v5) (set_ok h.ck) (fun _ => by cases z <;> first | rfl | cases n1) (show swapsWith x (some (.Subscript y z p0)) p.line X.env = pure false from swaps_false n2) (noTT_s (by cases x <;> rfl)) rfl
  | aug i o e =>
    obtain ⟨t, op, x, p, rfl, v1⟩ := yAug_s v
    simp only [Bool.and_eq_true] at v1
    obtain ⟨⟨⟨v2, v3⟩, v4⟩, v5⟩ := v1
    cases opB_s v2
    obtain ⟨y, p0, rfl, v6⟩ := xName_s v4
    obtain ⟨h1, h2, h3⟩ := h.loc v6
    exact ss_aug h.ck h1 h2 h3 ((sd n).E h cl v5) (isAS_s v3)
  | exp e =>
    obtain ⟨x, p, rfl, v1⟩ := yExpr_s v
    rw [Bool.and_eq_true] at v1
    exact ss_exp ((sd n).E h cl v1.2) (swaps_false v1.1)
  | ret e =>
    obtain ⟨x, p, rfl, v1⟩ := yRet_s v
    obtain ⟨y, rfl, v2⟩ := sm_s v1
    exact ss_ret ((sd n).E h cl v2)
  | retn =>
    obtain ⟨x, p, rfl, v1⟩ := yRet_s v
    obtain rfl := Option.isNone_iff_eq_none.mp v1
    exact ss_retn
  | iff e a b =>
    obtain ⟨x, xs, ys, p, rfl, v1⟩ := yIf_s v
    simp only [Bool.and_eq_true] at v1
    exact ss_iff ((sd n).T h cl v1.1.1) (sds.Ss h cl v1.1.2) (sds.Ss h cl v1.2)
  | forr tg it b =>
    obtain ⟨t, x, xs, p, rfl, v1⟩ := yFor_s v
    simp only [Bool.and_eq_true] at v1
    obtain ⟨⟨⟨n1, v2⟩, v3⟩, v4⟩ := v1
    exact ss_for h.ck ((sd n).I h cl v3) (chkG_ok h tg t v2) (sds.Ss h cl v4) (fold_of n1)
  | whil e b =>
    obtain ⟨x, xs, p, rfl, v1⟩ := yWhile_s v
    rw [Bool.and_eq_true] at v1
    exact ss_whil h.ck ((sd n).T h cl v1.1) (sds.Ss h cl v1.2)
  | brk => cases st <;> first | exact ss_brk | cases v
  | ctn => cases st <;> first | exact ss_ctn | cases v
  | pas =>
    cases st with
    | Pass p => exact ss_pas
    | Expr e p =>
      cases e with
      | Constant kk j p2 =>
        cases kk with
        | str z => exact ss_doc
        | _ => cases v
      | _ => cases v
    | _ => cases v
  | frz i => cases v
end
theorem sds : ∀ n, SdS n
  | 0 => by constructor <;> (intros; rename_i v; exact absurd (show false = true from v) Bool.false_ne_true)
  | n + 1 => ⟨fun h cl _ _ v => sds_s (sds n) h cl v, fun h cl _ _ v => sds_ss (sds n) h cl v⟩

/-! ### defs -/
structure Df where
  name : Str
  ps : List Str
  N : List Str
  fn : Fn
  st : Stmt
def scB (N ps : List Str) (sc : Scope) : Bool :=
  (sc.kind == .function) && (sc.isCoroutine == false) && (sc.isGenerator == false) && decide N.Nodup && (N.take ps.length == ps) && (ps.all fun x => sc.names.lookup x == some .local || sc.names.lookup x == some .cell) && (sc.names.all fun y => !(y.2 == .free))
theorem scB_s {N ps : List Str} {sc : Scope} (h : scB N ps sc = true) : FnScope N ps sc := by
  unfold scB at h
  simp only [Bool.and_eq_true, beq_iff_eq, decide_eq_true_eq, List.all_eq_true, Bool.or_eq_true, Bool.not_eq_true', beq_eq_false_iff_ne] at h
  obtain ⟨⟨⟨⟨⟨⟨h1, h2⟩, h3⟩, h4⟩, h5⟩, h6⟩, h7⟩ := h
  exact ⟨h1, h2, h3, h4, h5, h6, h7⟩
/-- the text's defs, its constants, its free built-ins, its calls with keywords -/
structure Tx where
  ds : List Df
  gl : List Str
  bl : List Str
  kb : List KShape
def Tx.cc (t : Tx) (d : Df) : CC := { N := d.N, sc := defScope d.st, all := true, tb := t.ds.map fun d => (d.name, d.ps), gl := t.gl, bl := t.bl, kb := t.kb }
def chkD (n : Nat) (t : Tx) (d : Df) : Bool := scB d.N d.ps (defScope d.st) && (d.fn.np == d.ps.length) && (d.fn.ns == d.N.length) && chkSs n (t.cc d) d.fn.body (defBody d.st)
def Tx.T (t : Tx) : List Fn := t.ds.map (·.fn)
section
variable {P : Program} {w : World} {K : PySem.W.Frag} {mg : Str → Option Value} {base : Heap}
/-- how a def of the text stands behind the top -/
structure Stands (K : PySem.W.Frag) (mg : Str → Option Value) (t : Tx) (j : Nat) (d : Df) : Prop where
  ex : ∃ f fd, Fun K d.name d.name d.st f fd ∧ mg d.name = some (.ref f) ∧ Binds K fd d.ps [] ∧ ∀ sh ∈ t.kb, sh.j = j → KBinds K fd d.ps sh.ks (gP sh.np sh.ks.length sh.perm) (gP sh.np sh.ks.length sh.perm)
theorem fn_ok {n : Nat} {t : Tx} {k : Kx} {G : Nat → Option D} (hkK : K = k.K.K) (hkP : P = k.K.P) (hkw : w = k.K.w) (hc : t.ds.all (chkD n t) = true) (hst : ∀ (j : Nat) (d : Df), t.ds[j]? = some d → Stands K mg t j d) (hbl : ∀ x ∈ t.bl, mg x = none)
    (hgv : ∀ (g : Nat) (x : Str), t.gl[g]? = some x → ∃ v u d, mg x = some u ∧ RelV v u ∧ G g = some d ∧ ∀ H av, R k.K H av d v) : ∀ (m j : Nat) (d : Df), t.ds[j]? = some d → ∀ (f : Addr) (fd : FuncData), Fun K d.name d.name d.st f fd →
    FnOk P w K mg base (L2.CX P w) m f fd d.ps (spC k (callAt G t.T m) j)
  | 0, j, d, hd, f, fd, F => by
    refine ⟨fun vs H Q E h => ?_, fun A outer s H args us vs Q E hr he hbd hv h => ?_⟩
    · obtain ⟨_, _, _, _, _, _, p⟩ := h
      exact p.elim
    · obtain ⟨_, _, _, _, _, _, p⟩ := h
      exact p.elim
  | m + 1, j, d, hd, f, fd, F => by
    have ih := fn_ok hkK hkP hkw hc hst hbl hgv m
    have hcd : chkD n t d = true := List.all_eq_true.mp hc d (List.mem_of_getElem? hd)
    unfold chkD at hcd
    simp only [Bool.and_eq_true, beq_iff_eq] at hcd
    obtain ⟨⟨⟨c1, c2⟩, c3⟩, c4⟩ := hcd
    have S := scB_s c1
    have hT : t.T[j]? = some d.fn := by unfold Tx.T; rw [List.getElem?_map, hd]; rfl
    have run : ∀ us M, callAt G t.T (m + 1) j us M = runFn G (callAt G t.T m) d.fn us M := by
      intro us M
      show (match t.T[j]? with | some fn => runFn G (callAt G t.T m) fn us M | none => .no) = _
      rw [hT]
    have hlen : ∀ vs H Q E, spC k (callAt G t.T (m + 1)) j vs H Q E → vs.length = d.ps.length := by
      intro vs H Q E h
      obtain ⟨ex, am, M, us, rm, rv, p⟩ := h
      rw [run] at p
      unfold runFn at p
      split at p
      · rename_i hl
        rw [← rv.length, hl, c2]
      · exact p.elim
    refine F.okX S hlen fun cdv A outer s H vs Q E hr hsp => ?_
    have hl := hlen vs H Q E hsp
    obtain ⟨ex, am, M, us, rm, rv, p⟩ := hsp
    rw [run] at p
    unfold runFn at p
    split at p
    · rename_i hul
      have p2 := body_end rm p
      let X := cxOf (L2.CX P w) P w K mg base d.N d.name (defScope d.st) f cdv A outer s H E
      have ck : Ck k X := ⟨hkK, by have := hr.un; show (A.deeper _).units + 100 < cLine; omega, rfl, S.nd, hkP, hkw, S.kind, passes_of rfl⟩
      have cc : Cc (t.cc d) k X G := ⟨ck, rfl, rfl, fun _ _ => rfl, hbl, hgv⟩
      have tk : Takes X (fun cls d _ H => E cls d H) := takes_of rfl rfl rfl rfl
      have cl : Cl k X E (callAt G t.T m) m (t.cc d).tb (t.cc d).kb := by
        refine ⟨fun j x ps hj => ?_, hr, passes_call tk fun _ _ _ _ h => h⟩
        have hj' : (t.ds.map fun d => (d.name, d.ps))[j]? = some (x, ps) := hj
        rw [List.getElem?_map] at hj'
        obtain ⟨d2, hd2, e⟩ := Option.map_eq_some_iff.mp hj'
        cases e
        obtain ⟨f2, fd2, F2, hm, hb, hkb⟩ := (hst j d2 hd2).ex
        exact ⟨f2, fd2, ih j d2 hd2 f2 fd2 F2, hm, F2.kp, hb, hkb⟩
      refine ⟨tS k E (evSs G (callAt G t.T m) d.fn.body), (sds n).Ss cc cl c4, ex, am, _, M, rm, start_RE rv c3 hul ?_, p2⟩
      rw [c2, c3]
      have := congrArg List.length S.pre
      rw [List.length_take] at this
      omega
    · exact p.elim
end
end Mp
end
section
set_option maxHeartbeats 4000000
/-! From the small Python's law to the law of the row. -/
namespace Mp
open PySem PySem.Spec PyProof.Rows L2

theorem stands_mk {K : PySem.W.Frag} {mg : Str → Option Value} {h : Heap} {t : Tx} {j : Nat} {d : Df} (X : K.In h) (Gn : h.Ns mainGlobals mg) {f : Addr} {oc : Value} {od an : Option Addr} {osl : Array (Option Value)} {kV doc pm cdv ct : Value}
    (a : PySem.W.nsIn K mainGlobals d.name = some (some (.ref f))) (l : K.lookup f = some ⟨oc, od, .func (PySem.W.fnOf d.name d.name (defArgs d.st) (defBody d.st) (defScope d.st) .none kV doc pm an cdv ct), osl⟩) (c : PySem.W.codeIn K cdv d.name = true) (kp : PySem.W.keepIn K (.ref f) = true)
    (hb : ∀ (kV doc pm : Value) (an : Option Addr) (cdv ct : Value) (us : List Value), us.length = d.ps.length → bindArgs (PySem.W.fnOf d.name d.name (defArgs d.st) (defBody d.st) (defScope d.st) .none kV doc pm an cdv ct) ⟨us, []⟩ = pure (d.ps.zip us))
    (hk : ∀ sh ∈ t.kb, sh.j = j → d.ps ≠ [] ∧ ∀ (kV doc pm : Value) (an : Option Addr) (cdv ct : Value) (us ws : List Value), us.length = sh.np → ws.length = sh.ks.length → bindArgs (PySem.W.fnOf d.name d.name (defArgs d.st) (defBody d.st) (defScope d.st) .none kV doc pm an cdv ct) ⟨us, sh.ks.zip ws⟩ = pure (d.ps.zip (gP sh.np sh.ks.length sh.perm us ws))) :
    Stands K mg t j d :=
  ⟨f, _, fun_mk l c kp, PySem.W.mg_of X Gn a, .all (hb kV doc pm an cdv ct), fun sh hs hj => kb_mk (hk sh hs hj).1 ((hk sh hs hj).2 kV doc pm an cdv ct)⟩

/-- the constants of the module that are whole numbers, texts -/
theorem law_hsp {k : Kx} {G : Nat → Option D} {T : List Fn} {m j : Nat} {H : Hp} {a : Addr} {ns : List Int} (hO : Only H) (hS : SqL k.K.K H a (ns.map V.int)) (hl : ∃ M', callAt G T m j [.ref 0] [.scr (ns.map .int)] = .ok (.d (.bool true)) M') :
    spC k (callAt G T m) j [.ref a] H (fun v _ => v = .bl true) fun _ _ _ => False := by
  obtain ⟨M', hM⟩ := hl
  have hs : ScrAt k.K H a (ns.map V.int) := by
    rcases hS with (h | h) | h
    · rcases hO a with z | ⟨o, xs, z⟩
      · rw [h] at z; cases z
      · rw [h] at z; cases z
    · exact .inl h
    · exact .inr h
  have rs : ∀ (ns : List Int) (av : Addr → Prop), Rs k.K H av (ns.map .int) (ns.map V.int) := by
    intro ns av
    induction ns with
    | nil => rfl
    | cons n ns ih => exact ⟨_, _, rfl, rfl, ih⟩
  refine ⟨[], [a], [.scr (ns.map .int)], [.ref 0], ⟨rfl, fun i ob b h1 h2 => ?_, fun i j b o1 o2 h1 h2 h3 h4 h5 h6 => ?_, fun b h => by simp at h, fun b h => by simp at h⟩, ⟨_, [], rfl, ⟨a, rfl, rfl⟩, rfl⟩, ?_⟩
  · cases i with
    | zero =>
      simp at h1 h2
      subst h1 h2
      exact ⟨_, hs, rs ns _⟩
    | succ i => simp at h1
  · cases i with
    | zero =>
      simp at h3
      subst h3
      cases h5
    | succ i => simp at h3
  · rw [hM]
    intro am' H' rm f x rx
    exact rx
theorem law_hcx {P : Program} {w : World} (H : Hp) (s : Shared) (e : Value) (s' : Shared) (h : L2.CX P w [] H s (fun _ _ _ => False) e s') : False := by
  obtain ⟨_, _, _, _, _, _, _, _, _, _, _, _, z⟩ := h
  exact z
/-- the goal that the head leaves -/
theorem law_F {P : Program} {w : World} {K : PySem.W.Frag} {mg : Str → Option Value} {fa : Addr} {n : Nat} {t : Tx} {k : Kx} {G : Nat → Option D} (m j : Nat) {d : Df} (hkK : K = k.K.K) (hkP : P = k.K.P) (hkw : w = k.K.w) (hc : t.ds.all (chkD n t) = true)
    (hst : ∀ (j : Nat) (d : Df), t.ds[j]? = some d → Stands K mg t j d) (hbl : ∀ x ∈ t.bl, mg x = none) (hgv : ∀ (g : Nat) (x : Str), t.gl[g]? = some x → ∃ v u d, mg x = some u ∧ RelV v u ∧ G g = some d ∧ ∀ H av, R k.K H av d v)
    (hd : t.ds[j]? = some d) (hp : d.ps = [("script" : Str)]) (hfa : mg d.name = some (.ref fa))
    (hb : ∀ (kV doc pm : Value) (an : Option Addr) (cdv ct : Value) (s : Shared) (u : Value), BindsTo s (PySem.W.fnOf d.name d.name (defArgs d.st) (defBody d.st) (defScope d.st) .none kV doc pm an cdv ct) ⟨[u], []⟩ [("script", u)]) :
    ∃ fd : FuncData, (∀ (s : Shared) (v : Value), BindsTo s fd ⟨[v], []⟩ [("script", v)]) ∧ ∀ base : Heap, K.In base → base.Ns mainGlobals mg → FnOk P w K mg base (L2.CX P w) m fa fd ["script"] (spC k (callAt G t.T m) j) := by
  obtain ⟨f, fd, F, hm, _, _⟩ := (hst j d hd).ex
  rw [hm] at hfa
  cases hfa
  refine ⟨fd, fun s v => ?_, fun base _ _ => ?_⟩
  · obtain ⟨oc, od, kV, doc, pm, an, cdv, ct, osl, rfl, _, _⟩ := F.ex
    exact hb kV doc pm an cdv ct s v
  · rw [← hp]
    exact fn_ok hkK hkP hkw hc hst hbl hgv m j d hd _ fd F
end Mp
end
section
set_option maxHeartbeats 4000000
/-! Rows for computing with the small Python, piece by piece. -/
namespace Mp
open PySem PySem.Spec PyProof.Rows L2 Mp

theorem bind_congr {α β : Type} {r r' : Res α} {f : α → Mem → Res β} (h : r = r') : r.bind f = r'.bind f := by rw [h]
section
variable {G : Nat → Option D} {C : CT} {σ : Env} {M : Mem} {f g h : SF} {A B : SA} {u v : SS} {it : SI}
@[simp] theorem x_bok {α β : Type} (a : α) (M : Mem) (f : α → Mem → Res β) : (Res.ok a M).bind f = f a M := id rfl
@[simp] theorem x_bex {α β : Type} (e : Exn) (M : Mem) (f : α → Mem → Res β) : (Res.ex e M : Res α).bind f = .ex e M := id rfl
@[simp] theorem x_bno {α β : Type} (f : α → Mem → Res β) : (Res.no : Res α).bind f = .no := id rfl
@[simp] theorem x_ofS {α : Type} (a : α) : ofO (some a) M = .ok a M := id rfl
@[simp] theorem x_ofN {α : Type} : ofO (none : Option α) M = .no := id rfl
-- syntax
@[simp] theorem x_var {i : Nat} : evE G C (.var i) σ M = ofO (getE σ i) M := id rfl
@[simp] theorem x_con {d : D} : evE G C (.con d) σ M = .ok (.d d) M := id rfl
@[simp] theorem x_glb {i : Nat} : evE G C (.glb i) σ M = (ofO (G i) M).bind fun x M1 => .ok (.d x) M1 := id rfl
@[simp] theorem x_nil : evEs G C .nil σ M = .ok [] M := id rfl
@[simp] theorem x_cons {e : ME} {es : MEs} : evEs G C (.cons e es) σ M = (evE G C e σ M).bind fun v M1 => (evEs G C es σ M1).bind fun vs M2 => .ok (v :: vs) M2 := id rfl
@[simp] theorem x_tup {es : MEs} : evE G C (.tup es) σ M = (evEs G C es σ M).bind fun vs M1 => match toDs vs with
  | some ds => if ds.length ≤ lim then .ok (.d (.tuple ds)) M1 else .no
  | none => .no := id rfl
@[simp] theorem x_lst {es : MEs} : evE G C (.lst es) σ M = (evEs G C es σ M).bind fun vs M1 => match toDs vs with
  | some ds => if ds.length ≤ lim then .ok (.d (.list ds)) M1 else .no
  | none => .no := id rfl
@[simp] theorem x_box {es : MEs} : evE G C (.box es) σ M = (evEs G C es σ M).bind fun vs M1 => if vs.length ≤ lim then .ok (.ref M1.length) (M1 ++ [.box vs]) else .no := id rfl
@[simp] theorem x_new {e : ME} : evE G C (.new e) σ M = (evE G C e σ M).bind fun v M1 => match v with
  | .d (.list xs) => .ok (.ref M1.length) (M1 ++ [.lst xs])
  | _ => .no := id rfl
@[simp] theorem x_bin {o : BOp} {a b : ME} : evE G C (.bin o a b) σ M = (evE G C a σ M).bind fun v M1 => (evE G C b σ M1).bind fun w M2 => match rdV M2 v, rdV M2 w with
  | some x, some y => (ofO (binD o x y) M2).bind fun z M3 => .ok (.d z) M3
  | _, _ => .no := id rfl
@[simp] theorem x_neg {a : ME} : evE G C (.neg a) σ M = (evE G C a σ M).bind fun v M1 => match v with
  | .d (.int i) => .ok (.d (.int (-i))) M1
  | _ => .no := id rfl
@[simp] theorem x_cmp {o : COp} {a b : ME} : evE G C (.cmp o a b) σ M = (evE G C a σ M).bind fun v M1 => (evE G C b σ M1).bind fun w M2 => (ofO (cmpV M2 o v w) M2).bind fun b M3 => .ok (.d (.bool b)) M3 := id rfl
@[simp] theorem x_chn {o p : COp} {a b c : ME} : evE G C (.chn o p a b c) σ M = (evE G C a σ M).bind fun v M1 => (evE G C b σ M1).bind fun w M2 => (ofO (cmpV M2 o v w) M2).bind fun b M3 =>
  if b then (evE G C c σ M3).bind fun u M4 => (ofO (cmpV M4 p w u) M4).bind fun c M5 => .ok (.d (.bool c)) M5 else .ok (.d (.bool false)) M3 := id rfl
@[simp] theorem x_and {a b : ME} : evE G C (.and a b) σ M = (evE G C a σ M).bind fun v M1 => (ofO (truV M1 v) M1).bind fun t M2 => if t then evE G C b σ M2 else .ok v M2 := id rfl
@[simp] theorem x_or {a b : ME} : evE G C (.or a b) σ M = (evE G C a σ M).bind fun v M1 => (ofO (truV M1 v) M1).bind fun t M2 => if t then .ok v M2 else evE G C b σ M2 := id rfl
@[simp] theorem x_not {a : ME} : evE G C (.not a) σ M = (evE G C a σ M).bind fun v M1 => (ofO (truV M1 v) M1).bind fun t M2 => .ok (.d (.bool (!t))) M2 := id rfl
@[simp] theorem x_ife {c a b : ME} : evE G C (.ife c a b) σ M = (evE G C c σ M).bind fun v M1 => (ofO (truV M1 v) M1).bind fun t M2 => if t then evE G C a σ M2 else evE G C b σ M2 := id rfl
@[simp] theorem x_idx {a b : ME} : evE G C (.idx a b) σ M = (evE G C a σ M).bind fun v M1 => (evE G C b σ M1).bind fun w M2 => ofO (idxV M2 v w) M2 := id rfl
@[simp] theorem x_non : evO G C .non σ M = .ok none M := id rfl
@[simp] theorem x_som {e : ME} : evO G C (.som e) σ M = (evE G C e σ M).bind fun v M1 => match v with
  | .d (.int i) => .ok (some i) M1
  | _ => .no := id rfl
@[simp] theorem x_slc {a : ME} {lo hi : MO} : evE G C (.slc a lo hi) σ M = (evE G C a σ M).bind fun v M1 => (evO G C lo σ M1).bind fun l M2 => (evO G C hi σ M2).bind fun h M3 => match rdS M3 v with
  | some x => (ofO (cutD x l h) M3).bind fun z M4 => .ok (.d z) M4
  | none => .no := id rfl
@[simp] theorem x_rev {a : ME} : evE G C (.rev a) σ M = (evE G C a σ M).bind fun v M1 => match rdV M1 v with
  | some x => (ofO (revD x) M1).bind fun z M2 => .ok (.d z) M2
  | none => .no := id rfl
@[simp] theorem x_call {k : Nat} {es : MEs} : evE G C (.call k es) σ M = (evEs G C es σ M).bind fun vs M1 => C k vs M1 := id rfl
@[simp] theorem x_callk {k : Nat} {es ks : MEs} {p : List Nat} : evE G C (.callk k es ks p) σ M = (evEs G C es σ M).bind fun vs M1 => (evEs G C ks σ M1).bind fun ws M2 => match permV (vs ++ ws) p with
  | some us => C k us M2
  | none => .no := id rfl
@[simp] theorem x_bi {b : BI} {es : MEs} : evE G C (.bi b es) σ M = (evEs G C es σ M).bind fun vs M1 => (ofO (biV b M1 vs) M1).bind fun z M2 => .ok (.d z) M2 := id rfl
@[simp] theorem x_isi {a : ME} {t : TK} : evE G C (.isi a t) σ M = (evE G C a σ M).bind fun v M1 => match v with
  | .d x => .ok (.d (.bool (isD t x))) M1
  | _ => .no := id rfl
@[simp] theorem x_mt {m : MT} {o : ME} {es : MEs} : evE G C (.mt m o es) σ M = (evE G C o σ M).bind fun v M1 => if kindM m M1 v then (evEs G C es σ M1).bind fun vs M2 => match mtV m M2 v vs with
  | some (z, M3) => .ok z M3
  | none => .no else .no := id rfl
@[simp] theorem x_dnw {t : Bool} : evE G C (.dnw t) σ M = .ok (.ref M.length) (M ++ [if t then .dT [] else .dK []]) := id rfl
@[simp] theorem x_ddsp {a b : ME} : evE G C (.ddsp a b) σ M = (evE G C a σ M).bind fun v M1 => (evE G C b σ M1).bind fun w M2 => match v, w with
  | .d x, .d y => match nkT x with
    | some ks => .ok (.ref M2.length) (M2 ++ [.dT [(ks, y)]])
    | none => .no
  | _, _ => .no := id rfl
@[simp] theorem x_dcp {es : MEs} : evE G C (.dcp es) σ M = (evEs G C es σ M).bind fun vs M1 => match dcpO vs with
  | some ob => .ok (.ref M1.length) (M1 ++ [ob])
  | none => .no := id rfl
@[simp] theorem x_lc {own : List Nat} {tg : Tg} {it : MI} {ifs : MEs} {e : ME} : evE G C (.lc own tg it ifs e) σ M = (evI G C it σ M).bind fun xs M1 => match lcL tg own (evC G C ifs) (evE G C e) σ xs M1 with
  | .ok ys M2 => if ys.length ≤ lim then .ok (.d (.list ys)) M2 else .no
  | _ => .no := id rfl
@[simp] theorem x_ov {e : ME} : evI G C (.ov e) σ M = (evE G C e σ M).bind fun v M1 => match v with
  | .d (.list xs) => .ok xs M1
  | .d (.tuple xs) => .ok xs M1
  | _ => .no := id rfl
@[simp] theorem x_rg1 {e : ME} : evI G C (.rg1 e) σ M = (evE G C e σ M).bind fun v M1 => match v with
  | .d (.int n) => if rngOk 0 n then .ok (rngD 0 n) M1 else .no
  | _ => .no := id rfl
@[simp] theorem x_rg2 {a b : ME} : evI G C (.rg2 a b) σ M = (evE G C a σ M).bind fun v M1 => (evE G C b σ M1).bind fun w M2 => match v, w with
  | .d (.int a), .d (.int b) => if rngOk a b then .ok (rngD a b) M2 else .no
  | _, _ => .no := id rfl
@[simp] theorem x_enm {e : ME} : evI G C (.enm e) σ M = (evE G C e σ M).bind fun v M1 => match v with
  | .d (.list xs) => .ok (enmL xs 0) M1
  | .d (.tuple xs) => .ok (enmL xs 0) M1
  | _ => .no := id rfl
-- statements
@[simp] theorem x_snil : evSs G C .nil σ M = .ok (.nx σ) M := id rfl
def sqK (g : SS) : Fl → Mem → Res Fl
  | .nx σ1, M1 => g σ1 M1
  | .rt v, M1 => .ok (.rt v) M1
  | .bk σ1, M1 => .ok (.bk σ1) M1
  | .ct σ1, M1 => .ok (.ct σ1) M1
@[simp] theorem x_scons {s : MS} {ss : MSs} : evSs G C (.cons s ss) σ M = (evS G C s σ M).bind (sqK (evSs G C ss)) := by
  show (evS G C s σ M).bind _ = _
  congr 1
  funext fl M1
  cases fl <;> rfl
@[simp] theorem x_sqn {g : SS} : sqK g (.nx σ) M = g σ M := id rfl
@[simp] theorem x_sqr {g : SS} {w : Val} : sqK g (.rt w) M = .ok (.rt w) M := id rfl
@[simp] theorem x_sqb {g : SS} : sqK g (.bk σ) M = .ok (.bk σ) M := id rfl
@[simp] theorem x_sqc {g : SS} : sqK g (.ct σ) M = .ok (.ct σ) M := id rfl
@[simp] theorem x_set {i : Nat} {e : ME} : evS G C (.set i e) σ M = (evE G C e σ M).bind fun v M1 => .ok (.nx (σ.set i (some v))) M1 := id rfl
@[simp] theorem x_asg {tg : Tg} {e : ME} : evS G C (.asg tg e) σ M = (evE G C e σ M).bind fun v M1 => match v with
  | .d x => (ofO (asgT tg x σ) M1).bind fun σ1 M2 => .ok (.nx σ1) M2
  | _ => .no := id rfl
@[simp] theorem x_par2 {i j : Nat} {a b : ME} : evS G C (.par2 i j a b) σ M = (evE G C a σ M).bind fun v M1 => (evE G C b σ M1).bind fun w M2 => .ok (.nx ((σ.set i (some v)).set j (some w))) M2 := id rfl
@[simp] theorem x_parN {is : List Nat} {es : MEs} : evS G C (.parN is es) σ M = (evEs G C es σ M).bind fun vs M1 => if vs.length = is.length ∧ vs.length ≤ lim then .ok (.nx (setN is vs σ)) M1 else .no := id rfl
@[simp] theorem x_setI {o i e : ME} : evS G C (.setI o i e) σ M = (evE G C e σ M).bind fun v M1 => (evE G C o σ M1).bind fun o M2 => (evE G C i σ M2).bind fun w M3 => match setV M3 o w v with
  | some M4 => .ok (.nx σ) M4
  | none => .no := id rfl
@[simp] theorem x_aug {i : Nat} {o : BOp} {e : ME} : evS G C (.aug i o e) σ M = match getE σ i with
  | some (.d (.int x)) => (evE G C e σ M).bind fun v M1 => match o, v with
    | .add, .d (.int y) => .ok (.nx (σ.set i (some (.d (.int (x + y)))))) M1
    | .sub, .d (.int y) => .ok (.nx (σ.set i (some (.d (.int (x - y)))))) M1
    | _, _ => .no
  | _ => .no := id rfl
@[simp] theorem x_exp {e : ME} : evS G C (.exp e) σ M = (evE G C e σ M).bind fun _ M1 => .ok (.nx σ) M1 := id rfl
@[simp] theorem x_ret {e : ME} : evS G C (.ret e) σ M = (evE G C e σ M).bind fun v M1 => .ok (.rt v) M1 := id rfl
@[simp] theorem x_retn : evS G C .retn σ M = .ok (.rt (.d .none)) M := id rfl
@[simp] theorem x_iff {e : ME} {a b : MSs} : evS G C (.iff e a b) σ M = (evE G C e σ M).bind fun v M1 => (ofO (truV M1 v) M1).bind fun t M2 => if t then evSs G C a σ M2 else evSs G C b σ M2 := id rfl
@[simp] theorem x_forr {tg : Tg} {it : MI} {b : MSs} : evS G C (.forr tg it b) σ M = (evI G C it σ M).bind fun xs M1 => forL tg (evSs G C b) xs σ M1 := id rfl
@[simp] theorem x_whil {e : ME} {b : MSs} : evS G C (.whil e b) σ M = whL (evE G C e) (evSs G C b) wfuel σ M := id rfl
@[simp] theorem x_brk : evS G C .brk σ M = .ok (.bk σ) M := id rfl
@[simp] theorem x_ctn : evS G C .ctn σ M = .ok (.ct σ) M := id rfl
@[simp] theorem x_pas : evS G C .pas σ M = .ok (.nx σ) M := id rfl
@[simp] theorem x_frz {i : Nat} : evS G C (.frz i) σ M = match getE σ i with
  | some (.ref j) => match M[j]? with
    | some (.lst xs) => .ok (.nx (σ.set i (some (.d (.list xs))))) (M.set j .dead)
    | _ => .no
  | _ => .no := id rfl
-- values
@[simp] theorem x_gete0 {v : Val} {σ : Env} : getE (some v :: σ) 0 = some v := id rfl
@[simp] theorem x_getes {o : Option Val} {i : Nat} {σ : Env} : getE (o :: σ) (i + 1) = getE σ i := id rfl
@[simp] theorem x_toDs0 : toDs [] = some [] := id rfl
@[simp] theorem x_toDs {x : D} {r : List Val} : toDs (.d x :: r) = (toDs r).map (x :: ·) := id rfl
@[simp] theorem x_rdd {x : D} : rdV M (.d x) = some x := id rfl
theorem x_rdr {i : Nat} {xs : List D} (h : M[i]? = some (.lst xs)) : rdV M (.ref i) = some (.list xs) := by simp [rdV, h]
theorem x_rdr_dT {i : Nat} {xs : List (NestedKey × D)} (h : M[i]? = some (.dT xs)) : rdV M (.ref i) = none := by simp [rdV, h]
@[simp] theorem x_rsd {x : D} : rdS M (.d x) = some x := id rfl
@[simp] theorem x_rdVs0 : rdVs M [] = some [] := id rfl
@[simp] theorem x_rdVs1 {x : D} : rdVs M [.d x] = some [x] := id rfl
@[simp] theorem x_rdVs2 {x y : D} : rdVs M [.d x, .d y] = some [x, y] := id rfl
@[simp] theorem x_trud {x : D} : truV M (.d x) = truD x := id rfl
@[simp] theorem x_trub {b : Bool} : truD (.bool b) = some b := id rfl
@[simp] theorem x_trui {i : Int} : truD (.int i) = some (i != 0) := id rfl
@[simp] theorem x_trun : truD .none = some false := id rfl
@[simp] theorem x_trut {xs : List D} : truD (.tuple xs) = some (!xs.isEmpty) := id rfl
@[simp] theorem x_trul {xs : List D} : truD (.list xs) = some (!xs.isEmpty) := id rfl
theorem x_trur {i : Nat} {xs : List D} (h : M[i]? = some (.lst xs)) : truV M (.ref i) = some (!xs.isEmpty) := by simp [truV, rdV, h]
@[simp] theorem x_cmpd {o : COp} {x y : D} : cmpV M o (.d x) (.d y) = cmpD o x y := id rfl
theorem x_cmpr {o : COp} {x : D} {i : Nat} {xs : List D} (h : M[i]? = some (.lst xs)) : cmpV M o (.d x) (.ref i) = cmpD o x (.list xs) := by simp [cmpV, rdV, h]
@[simp] theorem x_eqi {a b : Int} : cmpD .eq (.int a) (.int b) = some (decide (a = b)) := by
  have h : eqD (.int a) (.int b) = some (a == b) := id rfl
  show eqD (.int a) (.int b) = _
  rw [h]
  by_cases e : a = b <;> simp [e]
@[simp] theorem x_lti {a b : Int} : cmpD .lt (.int a) (.int b) = some (decide (a < b)) := id rfl
@[simp] theorem x_lei {a b : Int} : cmpD .le (.int a) (.int b) = some (decide (a ≤ b)) := id rfl
@[simp] theorem x_gti {a b : Int} : cmpD .gt (.int a) (.int b) = some (decide (b < a)) := id rfl
@[simp] theorem x_gei {a b : Int} : cmpD .ge (.int a) (.int b) = some (decide (b ≤ a)) := id rfl
@[simp] theorem x_ine {x y : D} : cmpD .ne x y = (eqD x y).map not := id rfl
@[simp] theorem x_addi {a b : Int} : binD .add (.int a) (.int b) = some (.int (a + b)) := id rfl
@[simp] theorem x_subi {a b : Int} : binD .sub (.int a) (.int b) = some (.int (a - b)) := id rfl
@[simp] theorem x_muli {a b : Int} : binD .mul (.int a) (.int b) = if mulOk a b then some (.int (a * b)) else none := id rfl
@[simp] theorem x_modi {a b : Int} : binD .mod (.int a) (.int b) = if 0 < b then some (.int (a % b)) else none := id rfl
@[simp] theorem x_divi {a b : Int} : binD .fdiv (.int a) (.int b) = if decide (0 < b) && small b then some (.int (a / b)) else none := id rfl
@[simp] theorem x_powi {a b : Int} : binD .pow (.int a) (.int b) = if decide (0 ≤ b) && (decide (b ≤ 1000000) && decide (a.natAbs < 2 ^ 64) || decide (b ≤ 1000) && decide (a.natAbs < 2 ^ 250)) then some (.int (a ^ b.toNat)) else none := id rfl
@[simp] theorem x_shli {a b : Int} : binD .shl (.int a) (.int b) = if decide (0 ≤ b) && decide (b ≤ 1000000) && decide (a.natAbs < 2 ^ 64) then some (.int (a * 2 ^ b.toNat)) else none := id rfl
@[simp] theorem x_addt {a b : List D} : binD .add (.tuple a) (.tuple b) = if a.length + b.length ≤ lim then some (.tuple (a ++ b)) else none := id rfl
@[simp] theorem x_addl {a b : List D} : binD .add (.list a) (.list b) = if a.length + b.length ≤ lim then some (.list (a ++ b)) else none := id rfl
@[simp] theorem x_ixt {xs : List D} {i : Int} : idxV M (.d (.tuple xs)) (.d (.int i)) = (L2.atI xs i).map .d := id rfl
@[simp] theorem x_ixl {xs : List D} {i : Int} : idxV M (.d (.list xs)) (.d (.int i)) = (L2.atI xs i).map .d := id rfl
theorem x_ixb {j : Nat} {xs : List Val} {i : Int} (h : M[j]? = some (.box xs)) : idxV M (.ref j) (.d (.int i)) = L2.atI xs i := by simp [idxV, h]
theorem x_ixr {j : Nat} {xs : List D} {i : Int} (h : M[j]? = some (.lst xs)) : idxV M (.ref j) (.d (.int i)) = (L2.atI xs i).map .d := by simp [idxV, h]
@[simp] theorem x_lenl {xs : List D} : lenV M (.d (.list xs)) = some xs.length := id rfl
@[simp] theorem x_lent {xs : List D} : lenV M (.d (.tuple xs)) = some xs.length := id rfl
theorem x_lenr {j : Nat} {xs : List D} (h : M[j]? = some (.lst xs)) : lenV M (.ref j) = some xs.length := by simp [lenV, h]
@[simp] theorem x_blen {v : Val} : biV .len M [v] = (lenV M v).map .int := id rfl
@[simp] theorem x_babs {i : Int} : biV .abs M [.d (.int i)] = some (.int (if i < 0 then -i else i)) := id rfl
@[simp] theorem x_binti {i : Int} : biV .int M [.d (.int i)] = some (.int i) := id rfl
@[simp] theorem x_bintb {b : Bool} : biV .int M [.d (.bool b)] = some (.int (if b then 1 else 0)) := id rfl
@[simp] theorem x_btupl {xs : List D} : biV .tuple M [.d (.list xs)] = some (.tuple xs) := id rfl
@[simp] theorem x_btupt {xs : List D} : biV .tuple M [.d (.tuple xs)] = some (.tuple xs) := id rfl
@[simp] theorem x_blisl {xs : List D} : biV .list M [.d (.list xs)] = some (.list xs) := id rfl
@[simp] theorem x_blist {xs : List D} : biV .list M [.d (.tuple xs)] = some (.list xs) := id rfl
theorem x_btupr {j : Nat} {xs : List D} (h : M[j]? = some (.lst xs)) : biV .tuple M [.ref j] = some (.tuple xs) := by simp [biV, biR, rdVs, rdV, h, biD, d1, dSeq]
@[simp] theorem x_brt {n : Int} : biV .rngT M [.d (.int n)] = if rngOk 0 n then some (.tuple (rngD 0 n)) else none := id rfl
@[simp] theorem x_brl {n : Int} : biV .rngL M [.d (.int n)] = if rngOk 0 n then some (.list (rngD 0 n)) else none := id rfl
@[simp] theorem x_bsl {xs : List D} : biV .sorted M [.d (.list xs)] = (sortD xs).map .list := id rfl
@[simp] theorem x_bst {xs : List D} : biV .sorted M [.d (.tuple xs)] = (sortD xs).map .list := id rfl
theorem x_bsr {j : Nat} {xs : List D} (h : M[j]? = some (.lst xs)) : biV .sorted M [.ref j] = (sortD xs).map .list := by simp [biV, rdVs, rdV, h, biD, d1, dSeq]
theorem x_bsd {j : Nat} {xs : List (NestedKey × D)} (h : M[j]? = some (.dT xs)) : biV .sorted M [.ref j] = (sortD (xs.map fun kv => kv.1.data)).map .list := by simp [biV, rdVs, rdV, h, v1, keysSorted]
end
@[simp] theorem x_mull {n : Int} {xs : List D} : binD .mul (.list xs) (.int n) = if decide (-(2 ^ 63) ≤ n) && decide (n < 2 ^ 63) && decide (xs.length * n.toNat ≤ lim) then some (.list (List.replicate n.toNat xs).flatten) else none := id rfl
/-- a call, one level down -/
theorem call_is {G : Nat → Option D} {T : List Fn} {j : Nat} {f : Fn} (hf : T[j]? = some f) (m : Nat) (us : List Val) (M : Mem) : callAt G T (m + 1) j us M = runFn G (callAt G T m) f us M := by
  show (match T[j]? with | some fn => runFn G (callAt G T m) fn us M | none => .no) = _
  rw [hf]
end Mp
end
section
set_option maxHeartbeats 4000000
/-! Tuples of whole numbers as data; loops in plain words. -/
namespace Mp
open PySem PySem.Spec PyProof.Rows L2 Mp

@[simp] theorem x_eqdi {a b : Int} : eqD (.int a) (.int b) = some (decide (a = b)) := x_eqi
/-! ### memory -/
section
variable {M : Mem} {i : Nat} {xs : List D} {ys : List Val} {kvs : List (NestedKey × D)}
theorem x_kind {m : MT} (hm : m ≠ .index) (hm2 : m ≠ .indexT) (h : M[i]? = some (.lst xs)) : kindM m M (.ref i) = true := by
  have e : isRL M (.ref i) = true := by simp [isRL, h]
  cases m <;> first | exact e | exact absurd rfl hm | exact absurd rfl hm2
theorem x_kindT {x : List D} : kindM .indexT M (.d (.tuple x)) = true := rfl
theorem x_app {x : D} (h : M[i]? = some (.lst xs)) : mtV .append M (.ref i) [.d x] = if xs.length < lim then some (.d .none, M.set i (.lst (xs ++ [x]))) else none := by
  by_cases hl : xs.length < lim <;> simp [mtV, onL, h, v1, vD, oB, hl]
theorem x_pop0 (h : M[i]? = some (.lst xs)) : mtV .pop0 M (.ref i) [] = xs[xs.length - 1]?.map fun y => (.d y, M.set i (.lst xs.dropLast)) := by
  simp [mtV, onL, h, v0]
theorem x_popAt {j : Int} (h : M[i]? = some (.lst xs)) : mtV .popAt M (.ref i) [.d (.int j)] = popA M i xs j := by
  simp [mtV, onL, h, v1, vD, dInt]
theorem x_ins {j : Int} {x : D} (h : M[i]? = some (.lst xs)) : mtV .insert M (.ref i) [.d (.int j), .d x] = if 0 ≤ j ∧ j ≤ xs.length ∧ xs.length < lim then some (.d .none, M.set i (.lst (xs.take j.toNat ++ [x] ++ xs.drop j.toNat))) else none := by
  by_cases hl : 0 ≤ j ∧ j ≤ xs.length ∧ xs.length < lim
  · simp only [mtV, onL, h, v2, v1, vD, dInt]
    rw [decide_eq_true hl, if_pos hl]
    rfl
  · simp only [mtV, onL, h, v2, v1, vD, dInt]
    rw [decide_eq_false hl, if_neg hl]
    rfl
theorem popA_ok {j : Int} {n : Nat} {y : D} (h1 : -(2 ^ 63) ≤ j) (h2 : j < 2 ^ 63) (hn : seqIndex? j xs.length = some n) (hy : xs[n]? = some y) : popA M i xs j = some (.d y, M.set i (.lst (xs.eraseIdx n))) := by
  unfold popA
  rw [show (decide (-(2 ^ 63) ≤ j ∧ j < 2 ^ 63)) = true from decide_eq_true ⟨h1, h2⟩]
  simp [oB, hn, hy]
theorem x_setb {k : Int} {v : Val} (h : M[i]? = some (.box ys)) : setV M (.ref i) (.d (.int k)) v = if okRef i v then (L2.ixN ys.length k).map fun n => M.set i (.box (ys.set n v)) else none := by
  by_cases hv : okRef i v = true <;> simp [setV, h, hv]
theorem x_sett {x y : D} {q : NestedKey} (h : M[i]? = some (.dT kvs)) (hq : nkT x = some q) : setV M (.ref i) (.d x) (.d y) = if kvs.length < lim then some (M.set i (.dT (dPut kvs q y))) else none := by
  by_cases hl : kvs.length < lim <;> simp [setV, h, hq, hl]
theorem x_notin_dT {x : D} {q : NestedKey} (h : M[i]? = some (.dT kvs)) (hq : nkT x = some q) : cmpV M .notin (.d x) (.ref i) = some (!(dGet kvs q).isSome) := by
  simp [cmpV, rdV, h, inDict, hq]
end

/-! ### loops -/
theorem lcL_map {tg : Tg} {own : List Nat} {f : SF} {σ : Env} {M : Mem} {y : D → D} : ∀ {xs : List D}, (∀ x ∈ xs, ∃ σ1, asgT tg x (wipeE σ own) = some σ1 ∧ f σ1 M = .ok (.d (y x)) M) → lcL tg own none f σ xs M = .ok (xs.map y) M
  | [], _ => rfl
  | x :: xs, h => by
    obtain ⟨σ1, h1, h2⟩ := h x List.mem_cons_self
    have ih := lcL_map (xs := xs) fun z hz => h z (List.mem_cons_of_mem _ hz)
    unfold lcL
    rw [h1]
    simp only [sTst, x_bok, h2, ih, if_pos, List.map_cons]
theorem lcL_fil {tg : Tg} {own : List Nat} {c f : SF} {σ : Env} {M : Mem} {p : D → Bool} {y : D → D} : ∀ {xs : List D}, (∀ x ∈ xs, ∃ σ1, asgT tg x (wipeE σ own) = some σ1 ∧ sTst (some c) σ1 M = .ok (p x) M ∧ (p x = true → f σ1 M = .ok (.d (y x)) M)) → lcL tg own (some c) f σ xs M = .ok ((xs.filter p).map y) M
  | [], _ => rfl
  | x :: xs, h => by
    obtain ⟨σ1, h1, h2, h3⟩ := h x List.mem_cons_self
    have ih := lcL_fil (xs := xs) fun z hz => h z (List.mem_cons_of_mem _ hz)
    unfold lcL
    rw [h1]
    dsimp only
    rw [h2, x_bok]
    cases hp : p x with
    | true => rw [if_pos rfl, h3 hp, x_bok]; dsimp only; rw [ih, x_bok, List.filter_cons_of_pos hp, List.map_cons]
    | false => rw [if_neg Bool.false_ne_true, ih, List.filter_cons_of_neg (by rw [hp]; exact Bool.false_ne_true)]
/-- a comprehension whose items draw: the memory moves among those of P -/
theorem lcL_inv {tg : Tg} {own : List Nat} {f : SF} {σ : Env} (P : Nat → List D → Mem → Prop) : ∀ {xs : List D} {n : Nat} {acc : List D} {M : Mem}, P n acc M → (∀ (i : Nat) (x : D) (acc : List D) (M : Mem), xs[i]? = some x → P (n + i) acc M → ∃ σ1 y M2, asgT tg x (wipeE σ own) = some σ1 ∧ f σ1 M = .ok (.d y) M2 ∧ P (n + i + 1) (acc ++ [y]) M2) →
    ∃ ys M', lcL tg own none f σ xs M = .ok ys M' ∧ P (n + xs.length) (acc ++ ys) M'
  | [], n, acc, M, h0, _ => ⟨[], M, rfl, by simpa using h0⟩
  | x :: xs, n, acc, M, h0, hs => by
    obtain ⟨σ1, y, M2, h1, h2, h3⟩ := hs 0 x acc M rfl h0
    obtain ⟨ys, M', h4, h5⟩ := lcL_inv P (xs := xs) (n := n + 1) (acc := acc ++ [y]) (M := M2) h3 fun i z a M hz hp => by
      have := hs (i + 1) z a M (by simpa using hz) (by rw [show n + (i + 1) = n + 1 + i by omega]; exact hp)
      rw [show n + (i + 1) + 1 = n + 1 + i + 1 by omega] at this
      exact this
    refine ⟨y :: ys, M', ?_, ?_⟩
    · unfold lcL
      rw [h1]
      simp only [sTst, x_bok, h2, h4, if_pos]
    · rw [show n + (x :: xs).length = n + 1 + xs.length by simp; omega]
      simpa using h5
/-- a loop; it may return -/
theorem forL_inv {tg : Tg} {b : SS} (P : Nat → Env → Mem → Prop) (Q : Val → Mem → Prop) : ∀ {xs : List D} {n : Nat} {σ : Env} {M : Mem}, P n σ M →
    (∀ (i : Nat) (x : D) (σ : Env) (M : Mem), xs[i]? = some x → P (n + i) σ M → ∃ σ1, asgT tg x σ = some σ1 ∧ ((∃ σ2 M2, b σ1 M = .ok (.nx σ2) M2 ∧ P (n + i + 1) σ2 M2) ∨ ∃ v M2, b σ1 M = .ok (.rt v) M2 ∧ Q v M2)) →
    (∃ σ' M', forL tg b xs σ M = .ok (.nx σ') M' ∧ P (n + xs.length) σ' M') ∨ ∃ v M', forL tg b xs σ M = .ok (.rt v) M' ∧ Q v M'
  | [], n, σ, M, h0, _ => .inl ⟨σ, M, rfl, h0⟩
  | x :: xs, n, σ, M, h0, hs => by
    obtain ⟨σ1, h1, h2⟩ := hs 0 x σ M rfl h0
    rcases h2 with ⟨σ2, M2, h2, h3⟩ | ⟨v, M2, h2, h3⟩
    · have ih := forL_inv P Q (xs := xs) (n := n + 1) (σ := σ2) (M := M2) h3 fun i z σ M hz hp => by
        have := hs (i + 1) z σ M (by simpa using hz) (by rw [show n + (i + 1) = n + 1 + i by omega]; exact hp)
        rw [show n + (i + 1) + 1 = n + 1 + i + 1 by omega] at this
        exact this
      have e : forL tg b (x :: xs) σ M = forL tg b xs σ2 M2 := by
        unfold forL
        rw [h1]
        simp only [h2, x_bok]
        cases xs <;> rfl
      rw [e, show n + (x :: xs).length = n + 1 + xs.length by simp; omega]
      exact ih
    · refine .inr ⟨v, M2, ?_, h3⟩
      unfold forL
      rw [h1]
      simp only [h2, x_bok]

/-! ### tuples of whole numbers -/
def iT (p : List Int) : D := .tuple (p.map .int)
theorem eqvAll_ints : ∀ p q : List Int, PyData.eqvAll (p.map .int) (q.map .int) = decide (p = q)
  | [], [] => rfl
  | [], _ :: _ => rfl
  | _ :: _, [] => rfl
  | a :: p, b :: q => by
    show ((a == b) && PyData.eqvAll (p.map .int) (q.map .int)) = _
    rw [eqvAll_ints p q]
    by_cases e : a = b <;> by_cases e2 : p = q <;> simp [e, e2]
theorem eqv_iT (p q : List Int) : PyData.eqv (iT p) (iT q) = decide (p = q) := eqvAll_ints p q
theorem eqvAll_iT : ∀ ps qs : List (List Int), PyData.eqvAll (ps.map iT) (qs.map iT) = decide (ps = qs)
  | [], [] => rfl
  | [], _ :: _ => rfl
  | _ :: _, [] => rfl
  | a :: p, b :: q => by
    show (PyData.eqv (iT a) (iT b) && PyData.eqvAll (p.map iT) (q.map iT)) = _
    rw [eqvAll_iT p q, eqv_iT]
    by_cases e : a = b <;> by_cases e2 : p = q <;> simp [e, e2]
theorem canLay_ints : ∀ p : List Int, PyData.canLayAll0 (p.map .int) = true
  | [] => rfl
  | a :: p => by
    show ((PyData.int a).canLay0 && PyData.canLayAll0 (p.map .int)) = true
    rw [canLay_ints p]
    rfl
theorem depth_ints : ∀ p : List Int, PyData.depthAll (p.map .int) = 0
  | [] => rfl
  | a :: p => by
    show max (PyData.int a).depth (PyData.depthAll (p.map .int)) = 0
    rw [depth_ints p]
    rfl
theorem canLay_iTs : ∀ ps : List (List Int), PyData.canLayAll0 (ps.map iT) = true
  | [] => rfl
  | a :: p => by
    show (PyData.canLayAll0 (a.map .int) && PyData.canLayAll0 (p.map iT)) = true
    rw [canLay_iTs p, canLay_ints]
    rfl
theorem depth_iT (p : List Int) : (iT p).depth = 1 := by
  show PyData.depthAll (p.map .int) + 1 = 1
  rw [depth_ints]
theorem depth_iTs : ∀ ps : List (List Int), PyData.depthAll (ps.map iT) ≤ 1
  | [] => Nat.zero_le _
  | a :: p => by
    show max (iT a).depth (PyData.depthAll (p.map iT)) ≤ 1
    have := depth_iTs p
    rw [depth_iT]
    omega
theorem shaped_iT (p : List Int) : SeqAt.shaped (iT p) = true := by
  show (PyData.canLayAll0 (p.map .int) && decide ((iT p).depth ≤ 64)) = true
  rw [canLay_ints, depth_iT]
  rfl
theorem shaped_ints (p : List Int) : SeqAt.shaped (.list (p.map .int)) = true := by
  show (PyData.canLayAll0 (p.map .int) && decide (PyData.depthAll (p.map .int) + 1 ≤ 64)) = true
  rw [canLay_ints, depth_ints]
  rfl
theorem shaped_iTs (ps : List (List Int)) : SeqAt.shaped (.list (ps.map iT)) = true := by
  show (PyData.canLayAll0 (ps.map iT) && decide (PyData.depthAll (ps.map iT) + 1 ≤ 64)) = true
  rw [canLay_iTs]
  have := depth_iTs ps
  exact decide_eq_true (by omega)
theorem shaped_iTt (ps : List (List Int)) : SeqAt.shaped (.tuple (ps.map iT)) = true := by
  show (PyData.canLayAll0 (ps.map iT) && decide (PyData.depthAll (ps.map iT) + 1 ≤ 64)) = true
  rw [canLay_iTs]
  have := depth_iTs ps
  exact decide_eq_true (by omega)
theorem any_iT (x : List Int) : ∀ ps : List (List Int), ((ps.map iT).any fun y => PyData.eqv y (iT x)) = decide (x ∈ ps)
  | [] => by simp
  | a :: p => by
    rw [List.map_cons, List.any_cons, any_iT x p, eqv_iT]
    by_cases e : a = x
    · simp [e]
    · have : ¬ x = a := fun h => e h.symm
      simp [e, this]
theorem in_iT (x : List Int) (ps : List (List Int)) : inD (iT x) (.list (ps.map iT)) = some (decide (x ∈ ps)) := by
  show (if (flatD (iT x) && _) || (SeqAt.shaped (iT x) && SeqAt.shaped (.list (ps.map iT))) then some _ else none) = _
  rw [shaped_iT, shaped_iTs, any_iT]
  simp
theorem any_int (x : Int) : ∀ p : List Int, ((p.map PyData.int).any fun y => PyData.eqv y (.int x)) = decide (x ∈ p)
  | [] => by simp
  | a :: p => by
    rw [List.map_cons, List.any_cons, any_int x p]
    show ((a == x) || _) = _
    by_cases e : a = x
    · simp [e]
    · have : ¬ x = a := fun h => e h.symm
      simp [e, this]
theorem flat_ints (p : List Int) : (p.map PyData.int).all flatD = true := by
  rw [List.all_map]
  exact List.all_eq_true.mpr fun _ _ => rfl
theorem in_int (x : Int) (p : List Int) : inD (.int x) (.tuple (p.map .int)) = some (decide (x ∈ p)) := by
  show (if flatD (.int x) && (p.map PyData.int).all flatD then some _ else none) = _
  rw [flat_ints, any_int]
  simp [flatD]
theorem eqD_iT (p q : List Int) : eqD (iT p) (iT q) = some (decide (p = q)) := by
  unfold eqD
  rw [shaped_iT, shaped_iT, eqv_iT]
  rfl
theorem eqD_iTt (ps qs : List (List Int)) : eqD (.tuple (ps.map iT)) (.tuple (qs.map iT)) = some (decide (ps = qs)) := by
  unfold eqD
  rw [shaped_iTt, shaped_iTt]
  show some (PyData.eqvAll (ps.map iT) (qs.map iT)) = _
  rw [eqvAll_iT]
theorem eqD_ints (p q : List Int) : eqD (.list (p.map .int)) (.list (q.map .int)) = some (decide (p = q)) := by
  unfold eqD
  rw [shaped_ints, shaped_ints]
  show some (PyData.eqvAll (p.map .int) (q.map .int)) = _
  rw [eqvAll_ints]
theorem intsOf_ints : ∀ p : List Int, intsOf (p.map .int) = some p
  | [] => rfl
  | a :: p => by
    show (intsOf (p.map .int)).map (a :: ·) = _
    rw [intsOf_ints p]
    rfl
theorem lexLt_lt : ∀ p q : List Int, HT.lexLt p q = decide (p < q)
  | [], [] => by simp [HT.lexLt_nil_nil]
  | [], _ :: _ => by simp [HT.lexLt_nil_cons]
  | _ :: _, [] => by simp [HT.lexLt_cons_nil]
  | a :: p, b :: q => by
    rw [HT.lexLt_cons, lexLt_lt p q]
    by_cases e : a = b <;> simp [e, List.cons_lt_cons_iff]
theorem lt_iT (p q : List Int) : cmpD .lt (iT p) (iT q) = some (decide (p < q)) := by
  show ltD (.tuple (p.map .int)) (.tuple (q.map .int)) = _
  unfold ltD
  dsimp only
  rw [intsOf_ints, intsOf_ints]
  dsimp only
  rw [lexLt_lt]
/-! ### sorting -/
def sortP (ps : List (List Int)) : List (List Int) := ps.mergeSort fun p q => decide (p ≤ q)
theorem dataLe_iT (p q : List Int) : PySem.W.dataLe false (fun x => x) (iT p) (iT q) = decide (p ≤ q) := by
  show (!PySem.W.dataLt (.tuple (q.map .int)) (.tuple (p.map .int))) = _
  rw [PySem.W.dataLt_tuple]
  show (!PySem.W.rowLt (q.map .int) (p.map .int)) = _
  rw [PySem.W.dataLt_ints]
  by_cases h : q < p
  · have h' : ¬ p ≤ q := fun r => List.not_lt.mpr r h
    simp [h, h']
  · have h' : p ≤ q := List.not_lt.mp h
    simp [h, h']
theorem alike_iT (p q : List Int) : PySem.W.alike (iT p) (iT q) = true := by
  show PySem.W.alikeAll (p.map .int) (q.map .int) = true
  exact PySem.W.alike_ints p q
theorem sortB_iT {ps : List (List Int)} (h : (∀ p ∈ ps, p ≠ []) ∨ ∀ p ∈ ps, p = []) : sortB (ps.map iT) = true := by
  unfold sortB
  rw [Bool.and_eq_true, Bool.and_eq_true]
  refine ⟨⟨?_, ?_⟩, ?_⟩
  · refine List.all_eq_true.mpr fun x hx => List.all_eq_true.mpr fun y hy => ?_
    obtain ⟨p, _, rfl⟩ := List.mem_map.mp hx
    obtain ⟨q, _, rfl⟩ := List.mem_map.mp hy
    exact alike_iT p q
  · rcases h with h | h
    · rw [Bool.or_eq_true, Bool.or_eq_true, Bool.or_eq_true]
      refine .inl (.inl (.inl (List.all_eq_true.mpr fun x hx => ?_)))
      obtain ⟨p, hp, rfl⟩ := List.mem_map.mp hx
      cases p with
      | nil => exact absurd rfl (h _ hp)
      | cons a p => rfl
    · rw [Bool.or_eq_true]
      refine .inr (List.all_eq_true.mpr fun x hx => ?_)
      obtain ⟨p, hp, rfl⟩ := List.mem_map.mp hx
      rw [h p hp]
      rfl
  · refine List.all_eq_true.mpr fun x hx => ?_
    obtain ⟨p, _, rfl⟩ := List.mem_map.mp hx
    rw [depth_iT]
    rfl
theorem sortD_iT {ps : List (List Int)} (h : (∀ p ∈ ps, p ≠ []) ∨ ∀ p ∈ ps, p = []) (hl : ps.length ≤ lim) : sortD (ps.map iT) = some ((sortP ps).map iT) := by
  unfold sortD
  rw [sortB_iT h, List.length_map, decide_eq_true hl]
  rw [Bool.and_self, if_pos rfl]
  congr 1
  exact (List.map_mergeSort fun a _ b _ => (dataLe_iT a b).symm).symm
theorem sortP_perm (ps : List (List Int)) : (sortP ps).Perm ps := List.mergeSort_perm _ _
theorem sortP_pw (ps : List (List Int)) : (sortP ps).Pairwise fun p q => p ≤ q := by
  have h := List.pairwise_mergeSort (le := fun p q : List Int => decide (p ≤ q)) (fun a b c h1 h2 => decide_eq_true (List.le_trans (of_decide_eq_true h1) (of_decide_eq_true h2)))
    (fun a b => by rcases List.le_total a b with h | h <;> simp [h]) ps
  exact h.imp fun h => of_decide_eq_true h
theorem sortP_eq {ps qs : List (List Int)} (h : ps.Perm qs) : sortP ps = sortP qs :=
  List.Perm.eq_of_pairwise (fun a b _ _ h1 h2 => List.le_antisymm h1 h2) (sortP_pw ps) (sortP_pw qs) (((sortP_perm ps).trans h).trans (sortP_perm qs).symm)
theorem sortP_id {ps : List (List Int)} (h : ps.Pairwise fun p q => p ≤ q) : sortP ps = ps :=
  List.Perm.eq_of_pairwise (fun a b _ _ h1 h2 => List.le_antisymm h1 h2) (sortP_pw ps) h (sortP_perm ps)
/-! ### keys -/
def kI (p : List Int) : NestedKey := .tup (p.map .num)
theorem nkDs_ints : ∀ p : List Int, nkDs (p.map .int) = some (p.map .num)
  | [] => rfl
  | a :: p => by
    show (match nkD (.int a), nkDs (p.map .int) with | some k, some ks => some (k :: ks) | _, _ => none) = _
    rw [nkDs_ints p]
    rfl
theorem kI_depth (p : List Int) : (kI p).depth ≤ 8 := by
  have key : ∀ p : List Int, NestedKey.depthAll (p.map .num) ≤ 1 := by
    intro p
    induction p with
    | nil => exact Nat.zero_le _
    | cons a p ih => simp [NestedKey.depthAll, NestedKey.depth] at *; omega
  have := key p
  show (NestedKey.tup (p.map .num)).depth ≤ 8
  simp [NestedKey.depth]
  omega
theorem nkT_iT (p : List Int) : nkT (iT p) = some (kI p) := by
  show (match nkDs (p.map .int) with | some ks => if (NestedKey.tup ks).depth ≤ 8 then some (NestedKey.tup ks) else none | none => none) = _
  rw [nkDs_ints]
  dsimp only
  exact if_pos (kI_depth p)
theorem kI_data (p : List Int) : (kI p).data = iT p := (nkT_data (nkT_iT p)).1
theorem map_int_inj : ∀ {p q : List Int}, p.map PyData.int = q.map PyData.int → p = q
  | [], [], _ => rfl
  | [], _ :: _, h => by cases h
  | _ :: _, [], h => by cases h
  | a :: p, b :: q, h => by
    rw [List.map_cons, List.map_cons] at h
    injection h with h1 h2
    injection h1 with h1
    rw [h1, map_int_inj h2]
theorem iT_inj {p q : List Int} (h : iT p = iT q) : p = q := by
  injection h with h
  exact map_int_inj h
theorem kI_inj {p q : List Int} (h : kI p = kI q) : p = q := iT_inj (by rw [← kI_data, ← kI_data, h])
end Mp
end
section
set_option maxHeartbeats 4000000
/-! Plain words for laws: loops, ranges, whole numbers sorted, dicts of whole numbers. -/
namespace Mp
open PySem PySem.Spec PyProof.Rows L2 Mp

def nthS : MSs → Nat → MS
  | .nil, _ => .pas
  | .cons s _, 0 => s
  | .cons _ ss, n + 1 => nthS ss n
def bodyOf : MS → MSs
  | .forr _ _ b => b
  | .whil _ b => b
  | .iff _ b _ => b
  | _ => .nil
theorem sqn {G : Nat → Option D} {C : CT} {s : MS} {ss : MSs} {σ σ' : Env} {M M' : Mem} (h : evS G C s σ M = .ok (.nx σ') M') : evSs G C (.cons s ss) σ M = evSs G C ss σ' M' := by
  rw [x_scons, h, x_bok, x_sqn]
theorem sqr {G : Nat → Option D} {C : CT} {s : MS} {ss : MSs} {σ : Env} {v : Val} {M M' : Mem} (h : evS G C s σ M = .ok (.rt v) M') : evSs G C (.cons s ss) σ M = .ok (.rt v) M' := by
  rw [x_scons, h, x_bok, x_sqr]
theorem sq1 {G : Nat → Option D} {C : CT} {s : MS} {ss : MSs} {σ : Env} {f : Fl} {M M' : Mem} (h : evS G C s σ M = .ok f M') : evSs G C (.cons s ss) σ M = sqK (evSs G C ss) f M' := by
  rw [x_scons, h, x_bok]
/-- 0, 1, .. -/
def rI (n : Nat) : List Int := (List.range n).map fun (i : Nat) => (i : Int)
theorem rI_len (n : Nat) : (rI n).length = n := by simp [rI]
theorem rngD_rI (n : Nat) : rngD 0 n = (rI n).map .int := by
  unfold rngD rI
  rw [List.map_map]
  simp
theorem rngOk_n {n : Nat} (h : n ≤ lim) : rngOk 0 n = true := by
  unfold rngOk lim at *
  exact decide_eq_true (by omega)
theorem mem_rI {n : Nat} {a : Int} : a ∈ rI n ↔ 0 ≤ a ∧ a < n := by
  unfold rI
  rw [List.mem_map]
  constructor
  · rintro ⟨i, hi, rfl⟩
    have := List.mem_range.mp hi
    omega
  · rintro ⟨h0, h1⟩
    exact ⟨a.toNat, List.mem_range.mpr (by omega), by omega⟩
theorem rI_get {n i : Nat} (h : i < n) : (rI n)[i]? = some (i : Int) := by
  unfold rI
  rw [List.getElem?_map, List.getElem?_range h]
  rfl
theorem rI_at {n i : Nat} {x : D} (h : ((rI n).map PyData.int)[i]? = some x) : i < n ∧ x = .int (i : Nat) := by
  have hi := (List.getElem?_eq_some_iff.mp h).1
  rw [List.length_map, rI_len] at hi
  rw [List.getElem?_map, rI_get hi] at h
  exact ⟨hi, (Option.some.inj h).symm⟩
/-- a loop «while» with a measure -/
theorem whL_inv {c : SF} {b : SS} (P : Nat → Env → Mem → Prop) (Q : Env → Mem → Prop) (hs : ∀ m σ M, P m σ M → ∃ v t, c σ M = .ok v M ∧ truV M v = some t ∧ ((t = false ∧ Q σ M) ∨ (t = true ∧ ∃ m' σ2 M2, m' < m ∧ b σ M = .ok (.nx σ2) M2 ∧ P m' σ2 M2))) :
    ∀ (m : Nat) (σ : Env) (M : Mem), P m σ M → ∀ fuel, m < fuel → ∃ σ' M', whL c b fuel σ M = .ok (.nx σ') M' ∧ Q σ' M' := by
  intro m
  induction m using Nat.strongRecOn with
  | ind m ih =>
    intro σ M h fuel hf
    obtain ⟨v, t, h1, h2, h3⟩ := hs m σ M h
    cases fuel with
    | zero => omega
    | succ fuel =>
      unfold whL
      rw [h1, x_bok, h2, x_ofS, x_bok]
      rcases h3 with ⟨rfl, hq⟩ | ⟨rfl, m', σ2, M2, hm, hb, hp⟩
      · exact ⟨σ, M, rfl, hq⟩
      · rw [if_pos rfl, hb, x_bok]
        exact ih m' hm σ2 M2 hp fuel (by omega)
/-- a loop that does not return -/
theorem forL_go {tg : Tg} {b : SS} (P : Nat → Env → Mem → Prop) {xs : List D} {σ : Env} {M : Mem} (h0 : P 0 σ M)
    (hs : ∀ (i : Nat) (x : D) (σ : Env) (M : Mem), xs[i]? = some x → P i σ M → ∃ σ1 σ2 M2, asgT tg x σ = some σ1 ∧ b σ1 M = .ok (.nx σ2) M2 ∧ P (i + 1) σ2 M2) :
    ∃ σ' M', forL tg b xs σ M = .ok (.nx σ') M' ∧ P xs.length σ' M' := by
  rcases forL_inv P (fun _ _ => False) (xs := xs) (n := 0) h0 (fun i x σ M hx hp => by
    rw [Nat.zero_add] at hp ⊢
    obtain ⟨σ1, σ2, M2, h1, h2, h3⟩ := hs i x σ M hx hp
    exact ⟨σ1, h1, .inl ⟨σ2, M2, h2, h3⟩⟩) with ⟨σ', M', e, h⟩ | ⟨_, _, _, h⟩
  · rw [Nat.zero_add] at h
    exact ⟨σ', M', e, h⟩
  · exact h.elim
theorem lc_ex {tg : Tg} {own : List Nat} {f : SF} {σ : Env} {M : Mem} (Pr : D → Prop) {xs : List D} (h : ∀ x ∈ xs, ∃ σ1 y, asgT tg x (wipeE σ own) = some σ1 ∧ f σ1 M = .ok (.d y) M ∧ Pr y) : ∃ ys, lcL tg own none f σ xs M = .ok ys M ∧ ys.length = xs.length ∧ ∀ y ∈ ys, Pr y := by
  obtain ⟨ys, M', e, rfl, hl, hp⟩ := lcL_inv (tg := tg) (own := own) (f := f) (σ := σ) (fun i acc M' => M' = M ∧ acc.length = i ∧ ∀ y ∈ acc, Pr y) (xs := xs) (n := 0) (acc := []) (M := M) ⟨rfl, rfl, fun y hy => by cases hy⟩ (fun i x acc M' hx hP => by
    obtain ⟨rfl, hl, hp⟩ := hP
    obtain ⟨σ1, y, h1, h2, h3⟩ := h x (List.mem_of_getElem? hx)
    refine ⟨σ1, y, M', h1, h2, rfl, by simp [hl], fun z hz => ?_⟩
    rcases List.mem_append.mp hz with hz | hz
    · exact hp z hz
    · rw [List.mem_singleton.mp hz]
      exact h3)
  refine ⟨ys, e, ?_, ?_⟩
  · simpa using hl
  · simpa using hp
/-! ### pieces of rows -/
theorem cutL_len {α : Type} (xs : List α) (lo hi : Option Int) : (cutL xs lo hi).length ≤ xs.length := by
  unfold cutL
  rw [List.length_take, List.length_drop]
  omega
theorem sIx_nat {n d k : Nat} : HT.sIx n d (some (k : Int)) = min k n := by
  have hk : ¬ (k : Int) < 0 := by omega
  simp [HT.sIx, hk]
theorem cutL_take {α : Type} (xs : List α) (k : Nat) : cutL xs none (some (k : Int)) = xs.take k := by
  have h0 : HT.sIx xs.length 0 none = 0 := rfl
  unfold cutL
  rw [h0, sIx_nat]
  by_cases h : k ≤ xs.length
  · rw [Nat.min_eq_left h]; simp
  · rw [Nat.min_eq_right (by omega), List.take_of_length_le (by simp), List.take_of_length_le (by omega)]
    simp
theorem cutL_drop {α : Type} (xs : List α) (k : Nat) : cutL xs (some (k : Int)) none = xs.drop k := by
  have h0 : HT.sIx xs.length xs.length none = xs.length := rfl
  unfold cutL
  rw [h0, sIx_nat]
  by_cases h : k ≤ xs.length
  · rw [Nat.min_eq_left h, List.take_of_length_le (by simp)]
  · rw [Nat.min_eq_right (by omega), List.drop_of_length_le (by omega), List.drop_of_length_le (by omega)]
    simp
theorem cutL_mid {α : Type} (xs : List α) (j k : Nat) (h : j + k ≤ xs.length) : cutL xs (some (j : Int)) (some ((j + k : Nat) : Int)) = (xs.drop j).take k := by
  unfold cutL
  rw [sIx_nat, sIx_nat, Nat.min_eq_left h, Nat.min_eq_left (show j ≤ xs.length by omega)]
  congr 1
  omega
theorem cutL_init {α : Type} (xs : List α) : cutL xs none (some (-1)) = xs.dropLast := by
  have h0 : HT.sIx xs.length 0 none = 0 := rfl
  unfold cutL
  rw [h0]
  have : HT.sIx xs.length xs.length (some (-1)) = xs.length - 1 := by
    simp [HT.sIx]
    omega
  rw [this]
  simp [List.dropLast_eq_take]
theorem atI0 {α : Type} (x : α) (xs : List α) : L2.atI (x :: xs) 0 = some x := L2.atI_nat (j := 0) rfl
theorem atI_get {α : Type} {xs : List α} {a : Int} (h0 : 0 ≤ a) (h1 : a < xs.length) : ∃ x, L2.atI xs a = some x ∧ x ∈ xs := by
  have hn : a.toNat < xs.length := by omega
  refine ⟨xs[a.toNat], ?_, List.getElem_mem hn⟩
  have := L2.atI_nat (List.getElem?_eq_getElem hn)
  rw [show ((a.toNat : Nat) : Int) = a by omega] at this
  exact this
theorem atI_last {α : Type} (xs : List α) (x : α) : L2.atI (xs ++ [x]) (-1) = some x := by
  unfold L2.atI L2.ixN
  have h : (-1 + ((xs.length : Int) + 1)).toNat = xs.length := by omega
  have h1 : (1 : Int) ≤ (xs.length : Int) + 1 := by omega
  simp [h, h1]
theorem enmL_len : ∀ (xs : List D) (n : Nat), (enmL xs n).length = xs.length
  | [], _ => rfl
  | x :: xs, n => by simp [enmL, enmL_len xs (n + 1)]
@[simp] theorem x_cutt {xs : List D} {lo hi : Option Int} : cutD (.tuple xs) lo hi = some (.tuple (cutL xs lo hi)) := id rfl
@[simp] theorem x_cutl {xs : List D} {lo hi : Option Int} : cutD (.list xs) lo hi = some (.list (cutL xs lo hi)) := id rfl
@[simp] theorem x_revt {xs : List D} : revD (.tuple xs) = some (.tuple xs.reverse) := id rfl
@[simp] theorem x_revl {xs : List D} : revD (.list xs) = some (.list xs.reverse) := id rfl
@[simp] theorem x_ceq {x y : D} : cmpD .eq x y = eqD x y := id rfl
@[simp] theorem x_bsum {xs : List D} {M : Mem} : biV .sum M [.d (.list xs)] = (intsOf xs).map fun ns => .int ns.sum := by
  show biR .sum M [.d (.list xs)] = _
  rfl
theorem mul_ok {a b : Int} (h : b.natAbs < 2 ^ 64) : mulOk a b = true := by
  unfold mulOk
  rw [Bool.or_eq_true]
  exact .inr (decide_eq_true h)
theorem small_ok {a : Int} (h : a.natAbs < 2 ^ 64) : small a = true := by
  unfold small lim9
  exact decide_eq_true (Nat.lt_of_lt_of_le h (Nat.pow_le_pow_right (by decide) (by decide)))
/-! ### sorting whole numbers -/
def sI (xs : List Int) : List Int := xs.mergeSort fun a b => decide (a ≤ b)
theorem dataLe_int (a b : Int) : PySem.W.dataLe false (fun x => x) (.int a) (.int b) = decide (a ≤ b) := by
  show (!PySem.W.dataLt (.int b) (.int a)) = _
  rw [PySem.W.dataLt_int]
  by_cases h : b < a
  · have h' : ¬ a ≤ b := by omega
    simp [h, h']
  · have h' : a ≤ b := by omega
    simp [h, h']
theorem sortB_int (xs : List Int) : sortB (xs.map .int) = true := by
  unfold sortB
  rw [Bool.and_eq_true, Bool.and_eq_true]
  refine ⟨⟨?_, ?_⟩, ?_⟩
  · refine List.all_eq_true.mpr fun x hx => List.all_eq_true.mpr fun y hy => ?_
    obtain ⟨p, _, rfl⟩ := List.mem_map.mp hx
    obtain ⟨q, _, rfl⟩ := List.mem_map.mp hy
    rfl
  · rw [Bool.or_eq_true, Bool.or_eq_true, Bool.or_eq_true]
    refine .inl (.inl (.inr (List.all_eq_true.mpr fun x hx => ?_)))
    obtain ⟨p, _, rfl⟩ := List.mem_map.mp hx
    rfl
  · refine List.all_eq_true.mpr fun x hx => ?_
    obtain ⟨p, _, rfl⟩ := List.mem_map.mp hx
    rfl
theorem sortD_int {xs : List Int} (h : xs.length ≤ lim) : sortD (xs.map .int) = some ((sI xs).map .int) := by
  unfold sortD
  rw [sortB_int, List.length_map, decide_eq_true h]
  rw [Bool.and_self, if_pos rfl]
  congr 1
  exact (List.map_mergeSort fun a _ b _ => (dataLe_int a b).symm).symm
theorem sI_perm (xs : List Int) : (sI xs).Perm xs := List.mergeSort_perm _ _
theorem sI_len (xs : List Int) : (sI xs).length = xs.length := (sI_perm xs).length_eq
theorem sI_pw (xs : List Int) : (sI xs).Pairwise fun a b => a ≤ b := by
  have h := List.pairwise_mergeSort (le := fun a b : Int => decide (a ≤ b)) (fun a b c h1 h2 => decide_eq_true (Int.le_trans (of_decide_eq_true h1) (of_decide_eq_true h2)))
    (fun a b => by rcases Int.le_total a b with h | h <;> simp [h]) xs
  exact h.imp fun h => of_decide_eq_true h
theorem sI_eq {xs ys : List Int} (h : xs.Perm ys) : sI xs = sI ys :=
  List.Perm.eq_of_pairwise (fun a b _ _ h1 h2 => Int.le_antisymm h1 h2) (sI_pw xs) (sI_pw ys) (((sI_perm xs).trans h).trans (sI_perm ys).symm)
theorem sI_id {xs : List Int} (h : xs.Pairwise fun a b => a ≤ b) : sI xs = xs :=
  List.Perm.eq_of_pairwise (fun a b _ _ h1 h2 => Int.le_antisymm h1 h2) (sI_pw xs) h (sI_perm xs)
theorem sortD_mem {xs ys : List D} (h : sortD xs = some ys) : ys.Perm xs := by
  unfold sortD at h
  split at h
  · cases h; exact List.mergeSort_perm _ _
  · cases h
/-! ### each once -/
def ins (acc : List Int) (x : Int) : List Int := if x ∈ acc then acc else acc ++ [x]
def dd (xs : List Int) : List Int := xs.foldl ins []
theorem mem_ins {acc : List Int} {x a : Int} : a ∈ ins acc x ↔ a ∈ acc ∨ a = x := by
  unfold ins
  split
  · rename_i h
    constructor
    · exact .inl
    · rintro (h1 | rfl)
      · exact h1
      · exact h
  · simp
theorem mem_foldins : ∀ {xs acc : List Int} {a : Int}, a ∈ xs.foldl ins acc ↔ a ∈ acc ∨ a ∈ xs
  | [], _, _ => by simp
  | x :: xs, acc, a => by
    rw [List.foldl_cons, mem_foldins, mem_ins, List.mem_cons]
    constructor
    · rintro ((h | h) | h) <;> simp [h]
    · rintro (h | h | h) <;> simp [h]
theorem mem_dd {xs : List Int} {a : Int} : a ∈ dd xs ↔ a ∈ xs := by
  unfold dd
  rw [mem_foldins]
  simp
theorem ins_nodup {acc : List Int} {x : Int} (h : acc.Nodup) : (ins acc x).Nodup := by
  unfold ins
  split
  · exact h
  · rename_i hx
    rw [List.nodup_append]
    exact ⟨h, by simp, fun a ha b hb e => hx (by rw [List.mem_singleton.mp hb] at e; rw [← e]; exact ha)⟩
theorem foldins_nodup : ∀ {xs acc : List Int}, acc.Nodup → (xs.foldl ins acc).Nodup
  | [], _, h => h
  | x :: xs, acc, h => foldins_nodup (xs := xs) (ins_nodup h)
theorem dd_nodup (xs : List Int) : (dd xs).Nodup := foldins_nodup (by simp)
theorem foldins_len : ∀ {xs acc : List Int}, (xs.foldl ins acc).length ≤ acc.length + xs.length
  | [], _ => by simp
  | x :: xs, acc => by
    have := foldins_len (xs := xs) (acc := ins acc x)
    have h2 : (ins acc x).length ≤ acc.length + 1 := by unfold ins; split <;> simp
    rw [List.foldl_cons, List.length_cons]
    omega
theorem dd_len (xs : List Int) : (dd xs).length ≤ xs.length := by
  have := foldins_len (xs := xs) (acc := [])
  rw [List.length_nil, Nat.zero_add] at this
  exact this
theorem sdd_eq {xs ys : List Int} (h : ∀ a, a ∈ xs ↔ a ∈ ys) : sI (dd xs) = sI (dd ys) :=
  sI_eq ((List.perm_ext_iff_of_nodup (dd_nodup xs) (dd_nodup ys)).mpr fun a => by rw [mem_dd, mem_dd, h])
theorem mem_sI {xs : List Int} {a : Int} : a ∈ sI xs ↔ a ∈ xs := (sI_perm xs).mem_iff
theorem sdd_idem (xs : List Int) : sI (dd (sI (dd xs))) = sI (dd xs) := sdd_eq fun a => by rw [mem_sI, mem_dd]
theorem dd_append (xs ys : List Int) : dd (xs ++ ys) = ys.foldl ins (dd xs) := by
  unfold dd
  rw [List.foldl_append]
/-! ### dicts of whole numbers -/
def dkI (xs : List Int) : List (L2.Key × D) := xs.map fun x => (.inl x, .bool true)
theorem dkI_len (xs : List Int) : (dkI xs).length = xs.length := List.length_map _
theorem dkI_any (x : Int) : ∀ xs : List Int, ((dkI xs).any fun z => decide (z.1 = (Sum.inl x : L2.Key))) = decide (x ∈ xs)
  | [] => by simp [dkI]
  | a :: xs => by
    have ih := dkI_any x xs
    unfold dkI at *
    rw [List.map_cons, List.any_cons, ih]
    by_cases e : a = x
    · simp [e]
    · have hne : ¬ x = a := fun h => e h.symm
      simp [e, hne]
theorem dkI_get (x : Int) : ∀ xs : List Int, (dGet (dkI xs) (Sum.inl x : L2.Key)).isSome = decide (x ∈ xs)
  | [] => by simp [dkI, dGet]
  | a :: xs => by
    have ih := dkI_get x xs
    unfold dGet dkI at *
    rw [List.map_cons, List.find?_cons]
    by_cases e : a = x
    · simp [e]
    · have hne : ¬ x = a := fun h => e h.symm
      have hd : (decide ((Sum.inl a : L2.Key) = Sum.inl x)) = false := decide_eq_false fun h => e (Sum.inl.inj h)
      rw [hd]
      simp only [List.mem_cons, hne, false_or]
      exact ih
theorem dkI_put (acc : List Int) (x : Int) : dPut (dkI acc) (Sum.inl x : L2.Key) (.bool true) = dkI (ins acc x) := by
  unfold dPut ins
  rw [dkI_any]
  by_cases h : x ∈ acc
  · rw [decide_eq_true h, if_pos rfl, if_pos h]
    unfold dkI
    rw [List.map_map]
    refine List.map_congr_left fun a _ => ?_
    show (if _ then _ else _) = _
    split <;> rfl
  · rw [decide_eq_false h, if_neg Bool.false_ne_true, if_neg h]
    simp [dkI]
theorem dkI_keys (xs : List Int) : (dkI xs).map (fun z => dKey z.1) = xs.map .int := by
  unfold dkI
  rw [List.map_map]
  rfl
def prI (x : Int) : D := .tuple [.int x, .bool true]
theorem dpairs_int : ∀ xs : List Int, dpairs (xs.map prI) = some (dkI xs)
  | [] => rfl
  | x :: xs => by
    show (match dpair (prI x), dpairs (xs.map prI) with | some k, some r => some (k :: r) | _, _ => none) = _
    rw [dpairs_int xs]
    rfl
theorem dAll_fold : ∀ (xs acc : List Int), (dkI xs).foldl (fun a kv => dPut a kv.1 kv.2) (dkI acc) = dkI (xs.foldl ins acc)
  | [], _ => rfl
  | x :: xs, acc => by
    show (dkI xs).foldl (fun a kv => dPut a kv.1 kv.2) (dPut (dkI acc) (Sum.inl x : L2.Key) (.bool true)) = _
    rw [dkI_put, dAll_fold xs]
    rfl
theorem dAll_int (xs : List Int) : dAll (dkI xs) = dkI (dd xs) := dAll_fold xs []
theorem x_dcpI {xs : List Int} (h : xs.length ≤ lim) : dcpO [.d (.list (xs.map prI))] = some (.dK (dAll (dkI xs))) := by
  have e : vPairs [.d (.list (xs.map prI))] = some (dkI xs) := by
    show (if (xs.map prI).length ≤ lim then dpairs (xs.map prI) else none) = _
    rw [List.length_map, if_pos h, dpairs_int]
  unfold dcpO
  rw [e]
section
variable {M : Mem} {i : Nat} {xs : List Int} {kvs : List (L2.Key × D)}
theorem x_setk {x : Int} (h : M[i]? = some (.dK (dkI xs))) (hl : xs.length < lim) : setV M (.ref i) (.d (.int x)) (.d (.bool true)) = some (M.set i (.dK (dkI (ins xs x)))) := by
  have hl' : (dkI xs).length < lim := by rw [dkI_len]; exact hl
  simp [setV, h, keyD, hl', dkI_put]
theorem x_ink {x : Int} (h : M[i]? = some (.dK (dkI xs))) : cmpV M .isin (.d (.int x)) (.ref i) = some (decide (x ∈ xs)) := by
  simp [cmpV, rdV, h, inDict, keyD, dkI_get]
theorem x_notink {x : Int} (h : M[i]? = some (.dK (dkI xs))) : cmpV M .notin (.d (.int x)) (.ref i) = some (!decide (x ∈ xs)) := by
  simp [cmpV, rdV, h, inDict, keyD, dkI_get]
theorem x_bsk (h : M[i]? = some (.dK (dkI xs))) (hl : xs.length ≤ lim) : biV .sorted M [.ref i] = some (.list ((sI xs).map .int)) := by
  have e : biV .sorted M [.ref i] = (sortD ((dkI xs).map fun kv => dKey kv.1)).map .list := by simp [biV, rdVs, rdV, h, v1, keysSorted]
  rw [e, dkI_keys, sortD_int hl]
  rfl
end
/-! ### data that is like itself -/
def pl : Nat → D → Bool
  | _, .int _ => true
  | _, .bool _ => true
  | _, .str _ => true
  | d + 1, .tuple xs => xs.all (pl d) && decide (xs.length ≤ lim)
  | _, _ => false
end Mp
end
section
set_option maxHeartbeats 4000000
/-! More plain words: a def's run, loops that fold, memory at its end; programs as data. -/
namespace Mp
open PySem PySem.Spec PyProof.Rows L2 Mp

theorem run_rt {G : Nat → Option D} {C : CT} {fn : Fn} {vs : List Val} {M M1 : Mem} {v : Val} {σ0 : Env} (hl : vs.length = fn.np) (hσ : vs.map some ++ List.replicate (fn.ns - fn.np) none = σ0) (h : evSs G C fn.body σ0 M = .ok (.rt v) M1) : runFn G C fn vs M = outV M.length fn.tr v M1 := by
  unfold runFn
  rw [if_pos hl, hσ, h, x_bok]
theorem out_d {n : Nat} {x : D} {M : Mem} : outV n true (.d x) M = .ok (.d x) (M.take n) := rfl
theorem take_app (M X : Mem) : (M ++ X).take M.length = M := by simp
theorem set_app (M0 X : Mem) (k : Nat) (ob : Ob) : (M0 ++ X).set (M0.length + k) ob = M0 ++ X.set k ob := by
  rw [List.set_append_right _ _ (by omega)]
  congr 2
  omega
theorem get_app (M0 X : Mem) (k : Nat) : (M0 ++ X)[M0.length + k]? = X[k]? := by
  rw [List.getElem?_append_right (by omega)]
  congr 1
  omega
theorem get_end (M : Mem) (ob : Ob) : (M ++ [ob])[M.length]? = some ob := by simp
theorem set_end (M : Mem) (ob ob' : Ob) : (M ++ [ob]).set M.length ob' = M ++ [ob'] := by simp
theorem at1 {α : Type} (x y : α) (r : List α) : L2.atI (x :: y :: r) 1 = some y := L2.atI_nat (j := 1) rfl
theorem at2 {α : Type} (x y z : α) (r : List α) : L2.atI (x :: y :: z :: r) 2 = some z := L2.atI_nat (j := 2) rfl
theorem at3 {α : Type} (x y z w : α) (r : List α) : L2.atI (x :: y :: z :: w :: r) 3 = some w := L2.atI_nat (j := 3) rfl
theorem le_sum_mem : ∀ {xs : List Nat} {x : Nat}, x ∈ xs → x ≤ xs.sum
  | y :: xs, x, h => by
    rw [List.sum_cons]
    rcases List.mem_cons.mp h with rfl | h
    · omega
    · have := le_sum_mem h; omega
theorem flatMap_cong {α β : Type} {f g : α → List β} : ∀ {xs : List α}, (∀ x ∈ xs, f x = g x) → xs.flatMap f = xs.flatMap g
  | [], _ => rfl
  | x :: xs, h => by
    rw [List.flatMap_cons, List.flatMap_cons, h x List.mem_cons_self, flatMap_cong fun y hy => h y (List.mem_cons_of_mem _ hy)]
theorem all_int : ∀ {ys : List D}, (∀ y ∈ ys, ∃ i, y = .int i) → ∃ vs : List Int, ys = vs.map .int
  | [], _ => ⟨[], rfl⟩
  | y :: ys, h => by
    obtain ⟨i, rfl⟩ := h y List.mem_cons_self
    obtain ⟨vs, rfl⟩ := all_int fun z hz => h z (List.mem_cons_of_mem _ hz)
    exact ⟨i :: vs, rfl⟩
theorem atI_int {vs : List Int} {a : Int} (h0 : 0 ≤ a) (h1 : a < vs.length) : ∃ v, L2.atI (vs.map PyData.int) a = some (.int v) ∧ v ∈ vs := by
  obtain ⟨x, hx, hm⟩ := atI_get (xs := vs.map PyData.int) h0 (by rw [List.length_map]; exact h1)
  obtain ⟨v, hv, rfl⟩ := List.mem_map.mp hm
  exact ⟨v, hx, hv⟩
/-- one turn of a loop -/
theorem forL_cons {tg : Tg} {b : SS} {x : D} {xs : List D} {σ σ1 σ2 : Env} {M M2 : Mem} (h1 : asgT tg x σ = some σ1) (h2 : b σ1 M = .ok (.nx σ2) M2) : forL tg b (x :: xs) σ M = forL tg b xs σ2 M2 := by
  conv => lhs; unfold forL
  rw [h1]
  dsimp only
  rw [h2, x_bok]
theorem forL_fold {α β : Type} {tg : Tg} {b : SS} (enc : α → D) (σf : Option Val → Env) (Mf : β → Mem) (f : β → α → β) (inv : β → List α → Prop) (hi : ∀ s x xs, inv s (x :: xs) → inv (f s x) xs)
    (hs : ∀ s x xs t, inv s (x :: xs) → asgT tg (enc x) (σf t) = some (σf (some (.d (enc x)))) ∧ b (σf (some (.d (enc x)))) (Mf s) = .ok (.nx (σf (some (.d (enc x))))) (Mf (f s x))) :
    ∀ (xs : List α) (s : β) (t : Option Val), inv s xs → ∃ t', forL tg b (xs.map enc) (σf t) (Mf s) = .ok (.nx (σf t')) (Mf (xs.foldl f s))
  | [], s, t, _ => ⟨t, rfl⟩
  | x :: xs, s, t, h => by
    obtain ⟨h1, h2⟩ := hs s x xs t h
    obtain ⟨t', e⟩ := forL_fold enc σf Mf f inv hi hs xs (f s x) (some (.d (enc x))) (hi s x xs h)
    refine ⟨t', ?_⟩
    rw [List.foldl_cons, ← e, List.map_cons]
    exact forL_cons h1 h2
/-! ### words -/
theorem q_show1 : eqD (.str ("show" : Str)) (.str ("show" : Str)) = some true := by decide +kernel
theorem q_say1 : eqD (.str ("say" : Str)) (.str ("show" : Str)) = some false := by decide +kernel
theorem q_call1 : eqD (.str ("call" : Str)) (.str ("show" : Str)) = some false := by decide +kernel
theorem q_when1 : eqD (.str ("when" : Str)) (.str ("show" : Str)) = some false := by decide +kernel
theorem q_say2 : eqD (.str ("say" : Str)) (.str ("when" : Str)) = some false := by decide +kernel
theorem q_call2 : eqD (.str ("call" : Str)) (.str ("when" : Str)) = some false := by decide +kernel
theorem q_when2 : eqD (.str ("when" : Str)) (.str ("when" : Str)) = some true := by decide +kernel
theorem q_show2 : eqD (.str ("show" : Str)) (.str ("when" : Str)) = some false := by decide +kernel
theorem q_show3 : eqD (.str ("show" : Str)) (.str ("call" : Str)) = some false := by decide +kernel
theorem q_say3 : eqD (.str ("say" : Str)) (.str ("call" : Str)) = some false := by decide +kernel
theorem q_call3 : eqD (.str ("call" : Str)) (.str ("call" : Str)) = some true := by decide +kernel
theorem q_when3 : eqD (.str ("when" : Str)) (.str ("call" : Str)) = some false := by decide +kernel
theorem q_cc : eqD (.str ("c" : Str)) (.str ("c" : Str)) = some true := by decide +kernel
theorem q_fc : eqD (.str ("f" : Str)) (.str ("c" : Str)) = some false := by decide +kernel
theorem q_cf : eqD (.str ("c" : Str)) (.str ("f" : Str)) = some false := by decide +kernel
theorem q_ff : eqD (.str ("f" : Str)) (.str ("f" : Str)) = some true := by decide +kernel
/-! ### terms, items, blocks -/
abbrev Tm := Int ⊕ (Int × Int)
def tmD : Tm → D
  | .inl x => .tuple [.str ("c" : Str), .int x]
  | .inr (a, b) => .tuple [.str ("f" : Str), .int a, .int b]
def cndD (c : D × Tm × Tm) : D := .tuple [c.1, tmD c.2.1, tmD c.2.2]
mutual
inductive It where
  | say (w : D) | call (n : Nat) | shw (t : Tm) | when (cs : List (D × Tm × Tm)) (a b : Its)
inductive Its where
  | nil | cons (i : It) (r : Its)
end
mutual
def It.D : It → D
  | .say w => .tuple [.str ("say" : Str), w]
  | .call n => .tuple [.str ("call" : Str), .int (n : Nat)]
  | .shw t => .tuple [.str ("show" : Str), tmD t]
  | .when cs a b => .tuple [.str ("when" : Str), .tuple (cs.map cndD), .tuple a.Ds, .tuple b.Ds]
def Its.Ds : Its → List D
  | .nil => []
  | .cons i r => i.D :: r.Ds
end
mutual
/-- how many items, those within counted -/
def It.nn : It → Nat
  | .when _ a b => 1 + (a.nn + b.nn)
  | _ => 1
def Its.nn : Its → Nat
  | .nil => 0
  | .cons i r => i.nn + r.nn
end
mutual
def It.dp : It → Nat
  | .when _ a b => max a.dp b.dp + 1
  | _ => 0
def Its.dp : Its → Nat
  | .nil => 0
  | .cons i r => max i.dp r.dp
end
mutual
/-- the asks called -/
def It.cl : It → List Nat
  | .call n => [n]
  | .when _ a b => a.cl ++ b.cl
  | _ => []
def Its.cl : Its → List Nat
  | .nil => []
  | .cons i r => i.cl ++ r.cl
end
mutual
/-- the terms -/
def It.tm : It → List Tm
  | .shw t => [t]
  | .when cs a b => cs.flatMap (fun c => [c.2.1, c.2.2]) ++ a.tm ++ b.tm
  | _ => []
def Its.tm : Its → List Tm
  | .nil => []
  | .cons i r => i.tm ++ r.tm
end
mutual
/-- no when has more than so many conditions -/
def It.cw (k : Nat) : It → Prop
  | .when cs a b => cs.length ≤ k ∧ a.cw k ∧ b.cw k
  | _ => True
def Its.cw (k : Nat) : Its → Prop
  | .nil => True
  | .cons i r => i.cw k ∧ r.cw k
end
mutual
theorem It.cl_len : ∀ i : It, i.cl.length ≤ i.nn
  | .say _ => by show (0 : Nat) ≤ 1; omega
  | .call _ => Nat.le_refl _
  | .shw _ => by show (0 : Nat) ≤ 1; omega
  | .when _ a b => by
    have h1 := Its.cl_len a
    have h2 := Its.cl_len b
    show (a.cl ++ b.cl).length ≤ 1 + (a.nn + b.nn)
    rw [List.length_append]
    omega
theorem Its.cl_len : ∀ i : Its, i.cl.length ≤ i.nn
  | .nil => Nat.le_refl _
  | .cons i r => by
    have h1 := It.cl_len i
    have h2 := Its.cl_len r
    show (i.cl ++ r.cl).length ≤ i.nn + r.nn
    rw [List.length_append]
    omega
end
mutual
theorem It.tm_len {k : Nat} : ∀ i : It, i.cw k → i.tm.length ≤ (2 * k + 1) * i.nn
  | .say _, _ => by show (0 : Nat) ≤ _; omega
  | .call _, _ => by show (0 : Nat) ≤ _; omega
  | .shw _, _ => by show (1 : Nat) ≤ (2 * k + 1) * 1; omega
  | .when cs a b, h => by
    obtain ⟨h0, h1, h2⟩ := h
    have g1 := Its.tm_len a h1
    have g2 := Its.tm_len b h2
    have g0 : (cs.flatMap fun c => [c.2.1, c.2.2]).length = 2 * cs.length := by
      clear h0
      induction cs with
      | nil => rfl
      | cons c cs ih => rw [List.flatMap_cons, List.length_append, ih, List.length_cons]; simp only [List.length_cons, List.length_nil]; omega
    show (cs.flatMap (fun c => [c.2.1, c.2.2]) ++ a.tm ++ b.tm).length ≤ (2 * k + 1) * (1 + (a.nn + b.nn))
    rw [List.length_append, List.length_append, g0, Nat.mul_add, Nat.mul_add]
    omega
theorem Its.tm_len {k : Nat} : ∀ i : Its, i.cw k → i.tm.length ≤ (2 * k + 1) * i.nn
  | .nil, _ => Nat.zero_le _
  | .cons i r, h => by
    have h1 := It.tm_len i h.1
    have h2 := Its.tm_len r h.2
    show (i.tm ++ r.tm).length ≤ (2 * k + 1) * (i.nn + r.nn)
    rw [List.length_append, Nat.mul_add]
    omega
end
mutual
theorem It.nn_pos : ∀ i : It, 1 ≤ i.nn
  | .say _ => Nat.le_refl _
  | .call _ => Nat.le_refl _
  | .shw _ => Nat.le_refl _
  | .when _ a b => by show 1 ≤ 1 + (a.nn + b.nn); omega
end
theorem Its.len_nn : ∀ i : Its, i.Ds.length ≤ i.nn
  | .nil => Nat.le_refl _
  | .cons i r => by
    have h1 := Its.len_nn r
    have h2 := It.nn_pos i
    show r.Ds.length + 1 ≤ i.nn + r.nn
    omega
end Mp
end
section
set_option maxHeartbeats 4000000
/-! k06: the text's defs as small Python; they are the row's. -/
namespace Mp.k06
open PySem PySem.Spec PyProof.Rows L2 Mp
def topS (i : Nat) : Stmt := PySem.Challenge.pw_mustleave_k06_programtools.main.body.getD i (.Pass ⟨0, 0, 0, 0⟩)
def b0 : MSs := (.cons 
  (.set 1 (.con (.int 0))) (.cons 
  (.forr (.nm 2) (.ov (.var 0)) (.cons (.aug 1 .add (.con (.int 1))) (.cons (.iff (.cmp .eq (.idx (.var 2) (.con (.int 0))) (.con (.str ("when" : Str)))) (.cons (.aug 1 .add (.bin .add (.call 0 (.cons (.idx (.var 2) (.con (.int 2))) .nil)) (.call 0 (.cons (.idx (.var 2) (.con (.int 3))) .nil)))) .nil) .nil) .nil))) (.cons 
  (.ret (.var 1)) .nil)))
def f0 : Fn := { np := 1, ns := 3, body := b0, tr := true }
def d0 : Df := { name := "items_in", ps := [("block" : Str)], N := [("block" : Str), ("many" : Str), ("item" : Str)], fn := f0, st := topS 1 }
def b1 : MSs := (.cons 
  (.set 1 (.new (.lst .nil))) (.cons 
  (.forr (.nm 2) (.ov (.var 0)) (.cons (.iff (.cmp .eq (.idx (.var 2) (.con (.int 0))) (.con (.str ("call" : Str)))) (.cons (.exp (.mt .append (.var 1) (.cons (.idx (.var 2) (.con (.int 1))) .nil))) .nil) (.cons (.iff (.cmp .eq (.idx (.var 2) (.con (.int 0))) (.con (.str ("when" : Str)))) (.cons (.set 1 (.new (.bin .add (.bin .add (.var 1) (.call 1 (.cons (.idx (.var 2) (.con (.int 2))) .nil))) (.call 1 (.cons (.idx (.var 2) (.con (.int 3))) .nil))))) .nil) .nil) .nil)) .nil)) (.cons 
  (.frz 1) (.cons 
  (.ret (.var 1)) .nil))))
def f1 : Fn := { np := 1, ns := 3, body := b1, tr := true }
def d1 : Df := { name := "called_in", ps := [("block" : Str)], N := [("block" : Str), ("found" : Str), ("item" : Str)], fn := f1, st := topS 2 }
def b2 : MSs := (.cons 
  (.set 2 (.call 1 (.cons (.idx (.idx (.idx (.var 0) (.con (.int 1))) (.var 1)) (.con (.int 1))) .nil))) (.cons 
  (.ret (.bi .tuple (.cons (.lc [3] (.nm 3) (.rg1 (.bi .len (.cons (.idx (.var 0) (.con (.int 1))) .nil))) (.cons (.cmp .isin (.var 3) (.var 2)) .nil) (.var 3)) .nil))) .nil))
def f2 : Fn := { np := 2, ns := 4, body := b2, tr := true }
def d2 : Df := { name := "calls_from", ps := [("program" : Str), ("ask" : Str)], N := [("program" : Str), ("ask" : Str), ("called" : Str), ("number" : Str)], fn := f2, st := topS 3 }
def b3 : MSs := (.cons 
  (.set 2 (.bi .list (.cons (.var 1) .nil))) (.cons 
  (.set 3 (.con (.int 0))) (.cons 
  (.whil (.cmp .lt (.var 3) (.bi .len (.cons (.var 2) .nil))) (.cons (.set 2 (.bin .add (.var 2) (.lc [4] (.nm 4) (.ov (.call 2 (.cons (.var 0) (.cons (.idx (.var 2) (.var 3)) .nil)))) (.cons (.cmp .notin (.var 4) (.var 2)) .nil) (.var 4)))) (.cons (.aug 3 .add (.con (.int 1))) .nil))) (.cons 
  (.ret (.var 2)) .nil))))
def f3 : Fn := { np := 2, ns := 5, body := b3, tr := true }
def d3 : Df := { name := "reached_from", ps := [("program" : Str), ("first" : Str)], N := [("program" : Str), ("first" : Str), ("found" : Str), ("place" : Str), ("number" : Str)], fn := f3, st := topS 4 }
def b4 : MSs := (.cons 
  (.set 1 (.new (.lst .nil))) (.cons 
  (.forr (.nm 2) (.ov (.var 0)) (.cons (.iff (.cmp .eq (.idx (.var 2) (.con (.int 0))) (.con (.str ("show" : Str)))) (.cons (.exp (.mt .append (.var 1) (.cons (.idx (.var 2) (.con (.int 1))) .nil))) .nil) (.cons (.iff (.cmp .eq (.idx (.var 2) (.con (.int 0))) (.con (.str ("when" : Str)))) (.cons (.forr (.tup3 (.nm 3) (.nm 4) (.nm 5)) (.ov (.idx (.var 2) (.con (.int 1)))) (.cons (.set 1 (.new (.bin .add (.var 1) (.lst (.cons (.var 4) (.cons (.var 5) .nil)))))) .nil)) (.cons (.set 1 (.new (.bin .add (.bin .add (.var 1) (.call 4 (.cons (.idx (.var 2) (.con (.int 2))) .nil))) (.call 4 (.cons (.idx (.var 2) (.con (.int 3))) .nil))))) .nil)) .nil) .nil)) .nil)) (.cons 
  (.frz 1) (.cons 
  (.ret (.var 1)) .nil))))
def f4 : Fn := { np := 1, ns := 6, body := b4, tr := true }
def d4 : Df := { name := "terms_in", ps := [("block" : Str)], N := [("block" : Str), ("found" : Str), ("item" : Str), ("sign" : Str), ("one" : Str), ("other" : Str)], fn := f4, st := topS 5 }
def b5 : MSs := (.cons 
  (.set 2 (.dnw false)) (.cons 
  (.forr (.nm 3) (.ov (.var 1)) (.cons (.forr (.nm 4) (.ov (.call 4 (.cons (.idx (.idx (.idx (.var 0) (.con (.int 1))) (.var 3)) (.con (.int 1))) .nil))) (.cons (.iff (.cmp .eq (.idx (.var 4) (.con (.int 0))) (.con (.str ("c" : Str)))) (.cons (.setI (.var 2) (.idx (.var 4) (.con (.int 1))) (.con (.bool true))) .nil) .nil) .nil)) .nil)) (.cons 
  (.ret (.bi .tuple (.cons (.bi .sorted (.cons (.var 2) .nil)) .nil))) .nil)))
def f5 : Fn := { np := 2, ns := 5, body := b5, tr := true }
def d5 : Df := { name := "constants_in", ps := [("program" : Str), ("asks" : Str)], N := [("program" : Str), ("asks" : Str), ("found" : Str), ("ask" : Str), ("term" : Str)], fn := f5, st := topS 6 }
def b6 : MSs := (.cons 
  (.ret (.call 5 (.cons (.var 0) (.cons (.bi .rngL (.cons (.bi .len (.cons (.idx (.var 0) (.con (.int 1))) .nil)) .nil)) .nil)))) .nil)
def f6 : Fn := { np := 1, ns := 1, body := b6, tr := true }
def d6 : Df := { name := "constants_of", ps := [("program" : Str)], N := [("program" : Str)], fn := f6, st := topS 7 }
def b7 : MSs := (.cons 
  (.set 2 (.dnw true)) (.cons 
  (.forr (.nm 3) (.ov (.call 3 (.cons (.var 0) (.cons (.var 1) .nil)))) (.cons (.forr (.nm 4) (.ov (.call 4 (.cons (.idx (.idx (.idx (.var 0) (.con (.int 1))) (.var 3)) (.con (.int 1))) .nil))) (.cons (.iff (.cmp .eq (.idx (.var 4) (.con (.int 0))) (.con (.str ("f" : Str)))) (.cons (.setI (.var 2) (.tup (.cons (.idx (.var 4) (.con (.int 1))) (.cons (.idx (.var 4) (.con (.int 2))) .nil))) (.con (.bool true))) .nil) .nil) .nil)) .nil)) (.cons 
  (.ret (.bi .tuple (.cons (.bi .sorted (.cons (.var 2) .nil)) .nil))) .nil)))
def f7 : Fn := { np := 2, ns := 5, body := b7, tr := true }
def d7 : Df := { name := "fields_in", ps := [("program" : Str), ("lot" : Str)], N := [("program" : Str), ("lot" : Str), ("found" : Str), ("ask" : Str), ("term" : Str)], fn := f7, st := topS 8 }
def b8 : MSs := (.cons 
  (.set 2 (.new (.lst .nil))) (.cons 
  (.forr (.nm 3) (.ov (.var 1)) (.cons (.iff (.cmp .eq (.idx (.var 3) (.con (.int 0))) (.con (.str ("call" : Str)))) (.cons (.exp (.mt .append (.var 2) (.cons (.tup (.cons (.con (.str ("when" : Str))) (.cons (.tup .nil) (.cons (.call 9 (.cons (.var 0) (.cons (.idx (.var 3) (.con (.int 1))) .nil))) (.cons (.tup .nil) .nil))))) .nil))) .nil) (.cons (.iff (.cmp .eq (.idx (.var 3) (.con (.int 0))) (.con (.str ("when" : Str)))) (.cons (.set 4 (.call 8 (.cons (.var 0) (.cons (.idx (.var 3) (.con (.int 2))) .nil)))) (.cons (.exp (.mt .append (.var 2) (.cons (.tup (.cons (.con (.str ("when" : Str))) (.cons (.idx (.var 3) (.con (.int 1))) (.cons (.var 4) (.cons (.call 8 (.cons (.var 0) (.cons (.idx (.var 3) (.con (.int 3))) .nil))) .nil))))) .nil))) .nil)) (.cons (.exp (.mt .append (.var 2) (.cons (.var 3) .nil))) .nil)) .nil)) .nil)) (.cons 
  (.ret (.bi .tuple (.cons (.var 2) .nil))) .nil)))
def f8 : Fn := { np := 2, ns := 5, body := b8, tr := true }
def d8 : Df := { name := "block_without_calls", ps := [("program" : Str), ("block" : Str)], N := [("program" : Str), ("block" : Str), ("items" : Str), ("item" : Str), ("inner" : Str)], fn := f8, st := topS 9 }
def b9 : MSs := (.cons 
  (.ret (.call 8 (.cons (.var 0) (.cons (.idx (.idx (.idx (.var 0) (.con (.int 1))) (.var 1)) (.con (.int 1))) .nil)))) .nil)
def f9 : Fn := { np := 2, ns := 2, body := b9, tr := true }
def d9 : Df := { name := "without_calls", ps := [("program" : Str), ("ask" : Str)], N := [("program" : Str), ("ask" : Str)], fn := f9, st := topS 10 }
def b10 : MSs := (.cons 
  (.par2 2 3 (.new (.lst .nil)) (.con (.int 16061))) (.cons 
  (.forr (.nm 1) (.ov (.slc (.var 0) .non (.som (.con (.int 39))))) (.cons (.set 4 (.bin .mod (.bi .abs (.cons (.bi .int (.cons (.var 1) .nil)) .nil)) (.bin .pow (.bin .pow (.con (.int 10)) (.con (.int 31))) (.con (.int 7))))) (.cons (.set 3 (.bin .mod (.bi .int (.cons (.bin .add (.bin .add (.bin .add (.bin .mul (.var 3) (.con (.int 25013))) (.bin .mod (.var 4) (.con (.int 992219)))) (.bin .mul (.con (.int 17)) (.bi .int (.cons (.cmp .lt (.bi .int (.cons (.var 1) .nil)) (.con (.int 0))) .nil)))) (.con (.int 9))) .nil)) (.con (.int 2147480909)))) (.cons (.iff (.cmp .gt (.var 4) (.bin .pow (.con (.int 10)) (.con (.int 14)))) (.cons (.exp (.mt .append (.var 2) (.cons (.var 4) .nil))) .nil) .nil) .nil)))) (.cons 
  (.ret (.box (.cons (.var 2) (.cons (.bin .add (.var 3) (.con (.int 3))) (.cons (.bin .mod (.bi .int (.cons (.bin .add (.bin .mul (.var 3) (.con (.int 307))) (.con (.int 53))) .nil)) (.con (.int 999999667))) .nil))))) .nil)))
def f10 : Fn := { np := 1, ns := 5, body := b10, tr := false }
def d10 : Df := { name := "_law_shed", ps := [("script" : Str)], N := [("script" : Str), ("cell" : Str), ("great" : Str), ("pile" : Str), ("size" : Str)], fn := f10, st := topS 12 }
def b11 : MSs := (.cons 
  (.iff (.cmp .lt (.var 2) (.con (.int 2))) (.cons (.ret (.con (.int 0))) .nil) .nil) (.cons 
  (.iff (.cmp .gt (.bi .len (.cons (.idx (.var 0) (.con (.int 0))) .nil)) (.con (.int 0))) (.cons (.set 4 (.bi .int (.cons (.mt .pop0 (.idx (.var 0) (.con (.int 0))) .nil) .nil))) (.cons (.iff (.cmp .ge (.var 4) (.var 2)) (.cons (.exp (.mt .append (.idx (.var 0) (.con (.int 0))) (.cons (.bin .fdiv (.var 4) (.var 2)) .nil))) .nil) .nil) (.cons (.ret (.bin .mod (.var 4) (.var 2))) .nil))) .nil) (.cons 
  (.setI (.var 0) (.con (.int 1)) (.bin .mod (.bi .int (.cons (.bin .add (.bin .add (.bin .mul (.idx (.var 0) (.con (.int 1))) (.con (.int 14503))) (.bin .mul (.con (.int 59)) (.var 1))) (.con (.int 101))) .nil)) (.con (.int 2147480909)))) (.cons 
  (.set 3 (.bin .mod (.bi .int (.cons (.bin .fdiv (.idx (.var 0) (.con (.int 2))) (.bin .add (.con (.int 37)) (.bin .mul (.con (.int 2)) (.var 1)))) .nil)) (.con (.int 15)))) (.cons 
  (.ret (.ife (.or (.cmp .eq (.var 1) (.con (.int 0))) (.cmp .lt (.var 3) (.con (.int 13)))) (.bin .mod (.bi .int (.cons (.bin .fdiv (.idx (.var 0) (.con (.int 1))) (.con (.int 89))) .nil)) (.var 2)) (.bin .mul (.bin .sub (.var 3) (.con (.int 13))) (.bin .sub (.var 2) (.con (.int 1)))))) .nil)))))
def f11 : Fn := { np := 3, ns := 5, body := b11, tr := true }
def d11 : Df := { name := "_law_tool", ps := [("shed" : Str), ("place" : Str), ("many" : Str)], N := [("shed" : Str), ("place" : Str), ("many" : Str), ("lean" : Str), ("size" : Str)], fn := f11, st := topS 13 }
def b12 : MSs := (.cons 
  (.iff (.isi (.var 1) .tuple) (.cons (.ret (.and (.isi (.var 0) .tuple) (.and (.cmp .eq (.bi .len (.cons (.var 0) .nil)) (.bi .len (.cons (.var 1) .nil))) (.cmp .eq (.bi .len (.cons (.lc [2] (.nm 2) (.rg1 (.bi .len (.cons (.var 1) .nil))) (.cons (.not (.call 12 (.cons (.idx (.var 0) (.var 2)) (.cons (.idx (.var 1) (.var 2)) .nil)))) .nil) (.var 2)) .nil)) (.con (.int 0)))))) .nil) .nil) (.cons 
  (.iff (.or (.isi (.var 1) .str) (.isi (.var 0) .str)) (.cons (.ret (.and (.isi (.var 1) .str) (.and (.isi (.var 0) .str) (.cmp .eq (.var 0) (.var 1))))) .nil) .nil) (.cons 
  (.ret (.and (.isi (.var 0) .int) (.and (.not (.isi (.var 0) .bool)) (.cmp .eq (.var 0) (.var 1))))) .nil)))
def f12 : Fn := { np := 2, ns := 3, body := b12, tr := true }
def d12 : Df := { name := "_law_same", ps := [("told" : Str), ("due" : Str)], N := [("told" : Str), ("due" : Str), ("at" : Str)], fn := f12, st := topS 14 }
def b13 : MSs := (.cons 
  (.iff (.cmp .eq (.call 11 (.cons (.var 0) (.cons (.con (.int 1)) (.cons (.con (.int 3)) .nil)))) (.con (.int 0))) (.cons (.ret (.tup (.cons (.con (.str ("c" : Str))) (.cons (.idx (.var 2) (.call 11 (.cons (.var 0) (.cons (.con (.int 2)) (.cons (.bi .len (.cons (.var 2) .nil)) .nil))))) .nil)))) .nil) .nil) (.cons 
  (.set 3 (.call 11 (.cons (.var 0) (.cons (.con (.int 3)) (.cons (.bi .len (.cons (.var 1) .nil)) .nil))))) (.cons 
  (.ret (.tup (.cons (.con (.str ("f" : Str))) (.cons (.var 3) (.cons (.call 11 (.cons (.var 0) (.cons (.con (.int 4)) (.cons (.bi .len (.cons (.idx (.idx (.var 1) (.var 3)) (.con (.int 1))) .nil)) .nil)))) .nil))))) .nil)))
def f13 : Fn := { np := 3, ns := 4, body := b13, tr := true }
def d13 : Df := { name := "_law_term", ps := [("shed" : Str), ("holders" : Str), ("numbers" : Str)], N := [("shed" : Str), ("holders" : Str), ("numbers" : Str), ("holder" : Str)], fn := f13, st := topS 15 }
def b14 : MSs := (.cons 
  (.set 6 (.new (.lst .nil))) (.cons 
  (.forr (.nm 7) (.rg1 (.idx (.tup (.cons (.con (.int 2)) (.cons (.con (.int 1)) (.cons (.con (.int 3)) (.cons (.con (.int 0)) (.cons (.con (.int 2)) .nil)))))) (.call 11 (.cons (.var 0) (.cons (.con (.int 5)) (.cons (.con (.int 5)) .nil)))))) (.cons (.set 8 (.call 11 (.cons (.var 0) (.cons (.con (.int 6)) (.cons (.con (.int 7)) .nil))))) (.cons (.iff (.cmp .lt (.idx (.var 5) (.con (.int 0))) (.con (.int 1))) (.cons .brk .nil) .nil) (.cons (.setI (.var 5) (.con (.int 0)) (.bin .sub (.idx (.var 5) (.con (.int 0))) (.con (.int 1)))) (.cons (.iff (.cmp .eq (.var 8) (.con (.int 0))) (.cons (.exp (.mt .append (.var 6) (.cons (.tup (.cons (.con (.str ("say" : Str))) (.cons (.idx (.tup (.cons (.con (.str ("far" : Str))) (.cons (.con (.str ("near" : Str))) (.cons (.con (.str ("b" : Str))) .nil)))) (.call 11 (.cons (.var 0) (.cons (.con (.int 7)) (.cons (.con (.int 3)) .nil))))) .nil))) .nil))) .nil) (.cons (.iff (.and (.cmp .eq (.var 8) (.con (.int 1))) (.cmp .gt (.bi .len (.cons (.var 3) .nil)) (.con (.int 0)))) (.cons (.exp (.mt .append (.var 6) (.cons (.tup (.cons (.con (.str ("call" : Str))) (.cons (.idx (.var 3) (.call 11 (.cons (.var 0) (.cons (.con (.int 8)) (.cons (.bi .len (.cons (.var 3) .nil)) .nil))))) .nil))) .nil))) .nil) (.cons (.iff (.or (.cmp .lt (.var 8) (.con (.int 4))) (.cmp .eq (.var 4) (.con (.int 0)))) (.cons (.exp (.mt .append (.var 6) (.cons (.tup (.cons (.con (.str ("show" : Str))) (.cons (.call 13 (.cons (.var 0) (.cons (.var 1) (.cons (.var 2) .nil)))) .nil))) .nil))) .nil) (.cons (.set 9 (.new (.lst .nil))) (.cons (.forr (.nm 10) (.rg1 (.idx (.tup (.cons (.con (.int 1)) (.cons (.con (.int 2)) (.cons (.con (.int 0)) (.cons (.con (.int 3)) (.cons (.con (.int 1)) .nil)))))) (.call 11 (.cons (.var 0) (.cons (.con (.int 9)) (.cons (.con (.int 5)) .nil)))))) (.cons (.exp (.mt .append (.var 9) (.cons (.tup (.cons (.idx (.tup (.cons (.con (.str ("=" : Str))) (.cons (.con (.str ("!" : Str))) .nil))) (.call 11 (.cons (.var 0) (.cons (.con (.int 10)) (.cons (.con (.int 2)) .nil))))) (.cons (.call 13 (.cons (.var 0) (.cons (.var 1) (.cons (.var 2) .nil)))) (.cons (.call 13 (.cons (.var 0) (.cons (.var 1) (.cons (.var 2) .nil)))) .nil)))) .nil))) .nil)) (.cons (.set 11 (.call 14 (.cons (.var 0) (.cons (.var 1) (.cons (.var 2) (.cons (.var 3) (.cons (.bin .sub (.var 4) (.con (.int 1))) (.cons (.var 5) .nil)))))))) (.cons (.exp (.mt .append (.var 6) (.cons (.tup (.cons (.con (.str ("when" : Str))) (.cons (.bi .tuple (.cons (.var 9) .nil)) (.cons (.var 11) (.cons (.call 14 (.cons (.var 0) (.cons (.var 1) (.cons (.var 2) (.cons (.var 3) (.cons (.bin .sub (.var 4) (.con (.int 1))) (.cons (.var 5) .nil))))))) .nil))))) .nil))) .nil))))) .nil)) .nil)) .nil))))) (.cons 
  (.ret (.bi .tuple (.cons (.var 6) .nil))) .nil)))
def f14 : Fn := { np := 6, ns := 12, body := b14, tr := true }
def d14 : Df := { name := "_law_block", ps := [("shed" : Str), ("holders" : Str), ("numbers" : Str), ("calls" : Str), ("deep" : Str), ("room" : Str)], N := [("shed" : Str), ("holders" : Str), ("numbers" : Str), ("calls" : Str), ("deep" : Str), ("room" : Str), ("told" : Str), ("lap" : Str), ("way" : Str), ("asks" : Str), ("k" : Str), ("first" : Str)], fn := f14, st := topS 16 }
def b15 : MSs := (.cons 
  (.set 2 (.tup (.cons (.con (.int 1)) (.cons (.con (.int 0)) (.cons (.con (.int 0)) .nil))))) (.cons 
  (.forr (.nm 3) (.ov (.var 1)) (.cons (.iff (.cmp .eq (.idx (.var 3) (.con (.int 0))) (.con (.str ("when" : Str)))) (.cons (.par2 5 6 (.call 15 (.cons (.var 0) (.cons (.idx (.var 3) (.con (.int 2))) .nil))) (.call 15 (.cons (.var 0) (.cons (.idx (.var 3) (.con (.int 3))) .nil)))) (.cons (.set 4 (.tup (.cons (.bin .add (.idx (.var 5) (.con (.int 0))) (.bin .mul (.bi .len (.cons (.idx (.var 3) (.con (.int 1))) .nil)) (.idx (.var 6) (.con (.int 0))))) (.cons (.bin .add (.con (.int 1)) (.bi .max2 (.cons (.idx (.var 5) (.con (.int 1))) (.cons (.idx (.var 6) (.con (.int 1))) .nil)))) (.cons (.bi .max2 (.cons (.idx (.var 5) (.con (.int 2))) (.cons (.idx (.var 6) (.con (.int 2))) .nil))) .nil))))) .nil)) (.cons (.set 4 (.ife (.cmp .eq (.idx (.var 3) (.con (.int 0))) (.con (.str ("call" : Str)))) (.call 15 (.cons (.var 0) (.cons (.idx (.idx (.var 0) (.idx (.var 3) (.con (.int 1)))) (.con (.int 1))) .nil))) (.tup (.cons (.con (.int 1)) (.cons (.con (.int 0)) (.cons (.con (.int 1)) .nil)))))) .nil)) (.cons (.set 2 (.tup (.cons (.bin .mul (.idx (.var 2) (.con (.int 0))) (.idx (.var 4) (.con (.int 0)))) (.cons (.bin .add (.idx (.var 2) (.con (.int 1))) (.idx (.var 4) (.con (.int 1)))) (.cons (.bin .add (.idx (.var 2) (.con (.int 2))) (.idx (.var 4) (.con (.int 2)))) .nil))))) .nil))) (.cons 
  (.ret (.var 2)) .nil)))
def f15 : Fn := { np := 2, ns := 7, body := b15, tr := true }
def d15 : Df := { name := "_law_counts", ps := [("asks" : Str), ("block" : Str)], N := [("asks" : Str), ("block" : Str), ("told" : Str), ("item" : Str), ("own" : Str), ("one" : Str), ("other" : Str)], fn := f15, st := topS 17 }
def b16 : MSs := (.cons 
  (.ret (.bi .tuple (.cons (.lc [1] (.nm 1) (.ov (.slc (.var 0) .non (.som (.neg (.con (.int 1)))))) .nil (.ife (.cmp .eq (.idx (.var 1) (.con (.int 0))) (.con (.str ("when" : Str)))) (.tup (.cons (.con (.str ("when" : Str))) (.cons (.idx (.var 1) (.con (.int 1))) (.cons (.call 16 (.cons (.idx (.var 1) (.con (.int 2))) .nil)) (.cons (.call 16 (.cons (.idx (.var 1) (.con (.int 3))) .nil)) .nil))))) (.var 1))) .nil))) .nil)
def f16 : Fn := { np := 1, ns := 2, body := b16, tr := true }
def d16 : Df := { name := "_law_less", ps := [("block" : Str)], N := [("block" : Str), ("item" : Str)], fn := f16, st := topS 18 }
def b17 : MSs := (.cons 
  (.par2 4 5 (.new (.lst .nil)) (.new (.lst .nil))) (.cons 
  (.forr (.nm 1) (.ov (.slc (.tup (.cons (.con (.str ("shop" : Str))) (.cons (.con (.str ("a" : Str))) (.cons (.con (.str ("phone" : Str))) .nil)))) .non (.som (.bin .add (.con (.int 1)) (.call 11 (.cons (.var 0) (.cons (.con (.int 11)) (.cons (.con (.int 3)) .nil)))))))) (.cons (.exp (.mt .append (.var 4) (.cons (.tup (.cons (.var 1) (.cons (.slc (.tup (.cons (.con (.str ("x" : Str))) (.cons (.con (.str ("id" : Str))) (.cons (.con (.str ("zip" : Str))) (.cons (.con (.str ("y" : Str))) .nil))))) .non (.som (.bin .add (.con (.int 1)) (.call 11 (.cons (.var 0) (.cons (.con (.int 12)) (.cons (.con (.int 4)) .nil))))))) .nil))) .nil))) .nil)) (.cons 
  (.forr (.nm 2) (.rg1 (.bin .add (.con (.int 1)) (.call 11 (.cons (.var 0) (.cons (.con (.int 13)) (.cons (.con (.int 3)) .nil)))))) (.cons (.exp (.mt .append (.var 5) (.cons (.idx (.tup (.cons (.con (.int 0)) (.cons (.con (.int 7)) (.cons (.neg (.con (.int 3))) (.cons (.bin .pow (.con (.int 10)) (.con (.int 9))) (.cons (.neg (.bin .pow (.con (.int 10)) (.con (.int 9)))) (.cons (.con (.int 1)) (.cons (.con (.int 5)) .nil)))))))) (.call 11 (.cons (.var 0) (.cons (.con (.int 14)) (.cons (.con (.int 7)) .nil))))) .nil))) .nil)) (.cons 
  (.parN [6, 7, 8, 9] (.cons (.bin .add (.con (.int 1)) (.call 11 (.cons (.var 0) (.cons (.con (.int 15)) (.cons (.con (.int 3)) .nil))))) (.cons (.new (.lst .nil)) (.cons (.new (.lst (.cons (.con (.int 30)) .nil))) (.cons (.new (.lst .nil)) .nil))))) (.cons 
  (.forr (.nm 3) (.rg1 (.var 6)) (.cons (.exp (.mt .insert (.var 7) (.cons (.call 11 (.cons (.var 0) (.cons (.con (.int 16)) (.cons (.bin .add (.var 3) (.con (.int 1))) .nil)))) (.cons (.var 3) .nil)))) .nil)) (.cons 
  (.frz 7) (.cons 
  (.forr (.nm 3) (.rg1 (.var 6)) (.cons (.set 10 (.slc (.var 7) .non (.som (.mt .index (.var 7) (.cons (.var 3) .nil))))) (.cons (.exp (.mt .append (.var 9) (.cons (.tup (.cons (.idx (.tup (.cons (.con (.str ("first" : Str))) (.cons (.con (.str ("both" : Str))) (.cons (.con (.str ("q" : Str))) .nil)))) (.var 3)) (.cons (.call 14 (.cons (.var 0) (.cons (.var 4) (.cons (.var 5) (.cons (.var 10) (.cons (.con (.int 3)) (.cons (.new (.lst (.cons (.bi .min2 (.cons (.idx (.var 8) (.con (.int 0))) (.cons (.con (.int 12)) .nil))) .nil))) .nil))))))) .nil))) .nil))) (.cons (.setI (.var 8) (.con (.int 0)) (.bin .sub (.idx (.var 8) (.con (.int 0))) (.call 18 (.cons (.idx (.idx (.var 9) (.var 3)) (.con (.int 1))) .nil)))) .nil)))) (.cons 
  (.frz 9) (.cons 
  (.whil (.con (.bool true)) (.cons (.set 11 (.lc [1, 12] (.tup2 (.nm 1) (.nm 12)) (.ov (.var 9)) .nil (.call 15 (.cons (.var 9) (.cons (.var 12) .nil))))) (.cons (.iff (.cmp .eq (.bi .len (.cons (.lc [13, 14, 15] (.tup3 (.nm 13) (.nm 14) (.nm 15)) (.ov (.var 11)) (.cons (.or (.cmp .gt (.var 13) (.con (.int 24))) (.or (.cmp .gt (.var 14) (.con (.int 6))) (.cmp .gt (.var 15) (.con (.int 12))))) .nil) (.con (.int 1))) .nil)) (.con (.int 0))) (.cons (.ret (.tup (.cons (.bi .tuple (.cons (.var 4) .nil)) (.cons (.bi .tuple (.cons (.var 9) .nil)) .nil)))) .nil) .nil) (.cons (.set 9 (.lc [1, 12] (.tup2 (.nm 1) (.nm 12)) (.ov (.var 9)) .nil (.tup (.cons (.var 1) (.cons (.call 16 (.cons (.var 12) .nil)) .nil))))) .nil)))) .nil)))))))))
def f17 : Fn := { np := 1, ns := 16, body := b17, tr := true }
def d17 : Df := { name := "_law_program", ps := [("shed" : Str)], N := [("shed" : Str), ("name" : Str), ("lap" : Str), ("at" : Str), ("holders" : Str), ("numbers" : Str), ("many" : Str), ("order" : Str), ("room" : Str), ("asks" : Str), ("calls" : Str), ("counts" : Str), ("block" : Str), ("ways" : Str), ("whens" : Str), ("long" : Str)], fn := f17, st := topS 19 }
def b18 : MSs := (.cons 
  (.set 1 (.con (.int 0))) (.cons 
  (.forr (.nm 2) (.ov (.var 0)) (.cons (.set 1 (.bin .add (.bin .add (.var 1) (.con (.int 1))) (.ife (.cmp .eq (.idx (.var 2) (.con (.int 0))) (.con (.str ("when" : Str)))) (.bin .add (.call 18 (.cons (.idx (.var 2) (.con (.int 2))) .nil)) (.call 18 (.cons (.idx (.var 2) (.con (.int 3))) .nil))) (.con (.int 0))))) .nil)) (.cons 
  (.ret (.var 1)) .nil)))
def f18 : Fn := { np := 1, ns := 3, body := b18, tr := true }
def d18 : Df := { name := "_law_items", ps := [("block" : Str)], N := [("block" : Str), ("told" : Str), ("item" : Str)], fn := f18, st := topS 20 }
def b19 : MSs := (.cons 
  (.set 1 (.new (.lst .nil))) (.cons 
  (.forr (.nm 2) (.ov (.var 0)) (.cons (.iff (.cmp .eq (.idx (.var 2) (.con (.int 0))) (.con (.str ("show" : Str)))) (.cons (.exp (.mt .append (.var 1) (.cons (.idx (.var 2) (.con (.int 1))) .nil))) .nil) .nil) (.cons (.iff (.cmp .eq (.idx (.var 2) (.con (.int 0))) (.con (.str ("when" : Str)))) (.cons (.forr (.tup3 (.nm 3) (.nm 4) (.nm 5)) (.ov (.idx (.var 2) (.con (.int 1)))) (.cons (.exp (.mt .extend (.var 1) (.cons (.lst (.cons (.var 4) (.cons (.var 5) .nil))) .nil))) .nil)) (.cons (.set 1 (.new (.bin .add (.bin .add (.var 1) (.call 19 (.cons (.idx (.var 2) (.con (.int 2))) .nil))) (.call 19 (.cons (.idx (.var 2) (.con (.int 3))) .nil))))) .nil)) .nil) .nil))) (.cons 
  (.frz 1) (.cons 
  (.ret (.var 1)) .nil))))
def f19 : Fn := { np := 1, ns := 6, body := b19, tr := true }
def d19 : Df := { name := "_law_terms", ps := [("block" : Str)], N := [("block" : Str), ("told" : Str), ("item" : Str), ("sign" : Str), ("one" : Str), ("other" : Str)], fn := f19, st := topS 21 }
def b20 : MSs := (.cons 
  (.set 1 (.lst .nil)) (.cons 
  (.forr (.nm 2) (.ov (.var 0)) (.cons (.set 1 (.bin .add (.var 1) (.ife (.cmp .eq (.idx (.var 2) (.con (.int 0))) (.con (.str ("call" : Str)))) (.lst (.cons (.idx (.var 2) (.con (.int 1))) .nil)) (.ife (.cmp .eq (.idx (.var 2) (.con (.int 0))) (.con (.str ("when" : Str)))) (.bin .add (.call 20 (.cons (.idx (.var 2) (.con (.int 2))) .nil)) (.call 20 (.cons (.idx (.var 2) (.con (.int 3))) .nil))) (.lst .nil))))) .nil)) (.cons 
  (.ret (.var 1)) .nil)))
def f20 : Fn := { np := 1, ns := 3, body := b20, tr := true }
def d20 : Df := { name := "_law_called", ps := [("block" : Str)], N := [("block" : Str), ("told" : Str), ("item" : Str)], fn := f20, st := topS 22 }
def b21 : MSs := (.cons 
  (.set 2 (.new (.bi .list (.cons (.var 1) .nil)))) (.cons 
  (.forr (.nm 3) (.rg1 (.con (.int 200))) (.cons (.iff (.cmp .ge (.var 3) (.bi .len (.cons (.var 2) .nil))) (.cons .brk .nil) .nil) (.cons (.exp (.mt .extend (.var 2) (.cons (.lc [4] (.nm 4) (.ov (.call 20 (.cons (.idx (.idx (.idx (.var 0) (.con (.int 1))) (.idx (.var 2) (.var 3))) (.con (.int 1))) .nil))) (.cons (.cmp .notin (.var 4) (.var 2)) .nil) (.var 4)) .nil))) .nil))) (.cons 
  (.frz 2) (.cons 
  (.ret (.var 2)) .nil))))
def f21 : Fn := { np := 2, ns := 5, body := b21, tr := true }
def d21 : Df := { name := "_law_reach", ps := [("program" : Str), ("lot" : Str)], N := [("program" : Str), ("lot" : Str), ("told" : Str), ("at" : Str), ("one" : Str)], fn := f21, st := topS 23 }
def b22 : MSs := (.cons 
  (.set 2 (.new (.lst .nil))) (.cons 
  (.forr (.nm 3) (.ov (.var 1)) (.cons (.iff (.cmp .eq (.idx (.var 3) (.con (.int 0))) (.con (.str ("call" : Str)))) (.cons (.set 3 (.tup (.cons (.con (.str ("when" : Str))) (.cons (.tup .nil) (.cons (.call 22 (.cons (.var 0) (.cons (.idx (.idx (.idx (.var 0) (.con (.int 1))) (.idx (.var 3) (.con (.int 1)))) (.con (.int 1))) .nil))) (.cons (.tup .nil) .nil)))))) .nil) (.cons (.iff (.cmp .eq (.idx (.var 3) (.con (.int 0))) (.con (.str ("when" : Str)))) (.cons (.set 3 (.tup (.cons (.con (.str ("when" : Str))) (.cons (.idx (.var 3) (.con (.int 1))) (.cons (.call 22 (.cons (.var 0) (.cons (.idx (.var 3) (.con (.int 2))) .nil))) (.cons (.call 22 (.cons (.var 0) (.cons (.idx (.var 3) (.con (.int 3))) .nil))) .nil)))))) .nil) .nil) .nil)) (.cons (.exp (.mt .append (.var 2) (.cons (.var 3) .nil))) .nil))) (.cons 
  (.ret (.bi .tuple (.cons (.var 2) .nil))) .nil)))
def f22 : Fn := { np := 2, ns := 4, body := b22, tr := true }
def d22 : Df := { name := "_law_put_in", ps := [("program" : Str), ("block" : Str)], N := [("program" : Str), ("block" : Str), ("told" : Str), ("item" : Str)], fn := f22, st := topS 24 }
def b23 : MSs := (.cons 
  (.ret (.bi .tuple (.cons (.bi .sorted (.cons (.dcp (.cons (.lc [1] (.nm 1) (.ov (.var 0)) .nil (.tup (.cons (.var 1) (.cons (.con (.bool true)) .nil)))) .nil)) .nil)) .nil))) .nil)
def f23 : Fn := { np := 1, ns := 2, body := b23, tr := true }
def d23 : Df := { name := "_law_rising", ps := [("things" : Str)], N := [("things" : Str), ("thing" : Str)], fn := f23, st := topS 25 }
def b24 : MSs := (.cons 
  (.set 1 (.lst .nil)) (.cons 
  (.forr (.tup2 (.nm 5) (.nm 6)) (.ov (.idx (.var 0) (.con (.int 1)))) (.cons (.set 1 (.bin .add (.var 1) (.call 19 (.cons (.var 6) .nil)))) .nil)) (.cons 
  (.iff (.not (.call 12 (.cons (.call 6 (.cons (.var 0) .nil)) (.cons (.call 23 (.cons (.lc [10] (.nm 10) (.ov (.var 1)) (.cons (.cmp .eq (.idx (.var 10) (.con (.int 0))) (.con (.str ("c" : Str)))) .nil) (.idx (.var 10) (.con (.int 1)))) .nil)) .nil)))) (.cons (.ret (.con (.bool false))) .nil) .nil) (.cons 
  (.forr (.nm 2) (.rg1 (.bi .len (.cons (.idx (.var 0) (.con (.int 1))) .nil))) (.cons (.set 6 (.idx (.idx (.idx (.var 0) (.con (.int 1))) (.var 2)) (.con (.int 1)))) (.cons (.set 7 (.lc [9] (.nm 9) (.ov (.var 6)) (.cons (.cmp .eq (.idx (.var 9) (.con (.int 0))) (.con (.str ("when" : Str)))) .nil) (.var 9))) (.cons (.iff (.not (.call 12 (.cons (.tup (.cons (.call 0 (.cons (.var 6) .nil)) (.cons (.call 2 (.cons (.var 0) (.cons (.var 2) .nil))) .nil))) (.cons (.tup (.cons (.call 18 (.cons (.var 6) .nil)) (.cons (.call 23 (.cons (.call 20 (.cons (.var 6) .nil)) .nil)) .nil))) .nil)))) (.cons (.ret (.con (.bool false))) .nil) .nil) (.cons (.iff (.and (.cmp .gt (.bi .len (.cons (.var 7) .nil)) (.con (.int 0))) (.not (.call 12 (.cons (.tup (.cons (.call 0 (.cons (.idx (.idx (.var 7) (.neg (.con (.int 1)))) (.con (.int 2))) .nil)) (.cons (.callk 0 .nil (.cons (.idx (.idx (.var 7) (.con (.int 0))) (.con (.int 3))) .nil) [0]) .nil))) (.cons (.tup (.cons (.call 18 (.cons (.idx (.idx (.var 7) (.neg (.con (.int 1)))) (.con (.int 2))) .nil)) (.cons (.call 18 (.cons (.idx (.idx (.var 7) (.con (.int 0))) (.con (.int 3))) .nil)) .nil))) .nil))))) (.cons (.ret (.con (.bool false))) .nil) .nil) (.cons (.iff (.not (.call 12 (.cons (.call 9 (.cons (.var 0) (.cons (.var 2) .nil))) (.cons (.call 22 (.cons (.var 0) (.cons (.var 6) .nil))) .nil)))) (.cons (.ret (.con (.bool false))) .nil) .nil) .nil)))))) (.cons 
  (.set 3 (.lst (.cons (.tup .nil) .nil))) (.cons 
  (.forr (.nm 2) (.rg1 (.bi .len (.cons (.idx (.var 0) (.con (.int 1))) .nil))) (.cons (.set 3 (.bin .add (.var 3) (.lc [4] (.nm 4) (.ov (.var 3)) .nil (.bin .add (.var 4) (.tup (.cons (.var 2) .nil)))))) .nil)) (.cons 
  (.forr (.nm 4) (.ov (.slc (.var 3) (.som (.con (.int 1))) .non)) (.cons (.set 8 (.lst .nil)) (.cons (.forr (.nm 2) (.ov (.call 21 (.cons (.var 0) (.cons (.var 4) .nil)))) (.cons (.set 8 (.bin .add (.var 8) (.call 19 (.cons (.idx (.idx (.idx (.var 0) (.con (.int 1))) (.var 2)) (.con (.int 1))) .nil)))) .nil)) (.cons (.iff (.not (.call 12 (.cons (.call 7 (.cons (.var 0) (.cons (.var 4) .nil))) (.cons (.call 23 (.cons (.lc [10] (.nm 10) (.ov (.var 8)) (.cons (.cmp .eq (.idx (.var 10) (.con (.int 0))) (.con (.str ("f" : Str)))) .nil) (.slc (.var 10) (.som (.con (.int 1))) .non)) .nil)) .nil)))) (.cons (.ret (.con (.bool false))) .nil) .nil) .nil)))) (.cons 
  (.ret (.con (.bool true))) .nil))))))))
def f24 : Fn := { np := 1, ns := 11, body := b24, tr := true }
def d24 : Df := { name := "_law_asked", ps := [("program" : Str)], N := [("program" : Str), ("every" : Str), ("at" : Str), ("lots" : Str), ("lot" : Str), ("name" : Str), ("block" : Str), ("inner" : Str), ("terms" : Str), ("item" : Str), ("term" : Str)], fn := f24, st := topS 26 }
def b25 : MSs := (.cons 
  (.set 1 (.call 10 (.cons (.var 0) .nil))) (.cons 
  (.forr (.nm 2) (.rg1 (.con (.int 4))) (.cons (.iff (.not (.call 24 (.cons (.call 17 (.cons (.var 1) .nil)) .nil))) (.cons (.ret (.con (.bool false))) .nil) .nil) .nil)) (.cons 
  (.parN [8, 9, 10] (.cons (.tup (.cons (.con (.str ("f" : Str))) (.cons (.con (.int 0)) (.cons (.con (.int 0)) .nil)))) (.cons (.tup (.cons (.con (.str ("f" : Str))) (.cons (.con (.int 0)) (.cons (.con (.int 1)) .nil)))) (.cons (.tup (.cons (.con (.str ("f" : Str))) (.cons (.con (.int 1)) (.cons (.con (.int 0)) .nil)))) .nil)))) (.cons 
  (.set 3 (.tup (.cons (.con (.str ("when" : Str))) (.cons (.tup (.cons (.tup (.cons (.con (.str ("=" : Str))) (.cons (.tup (.cons (.con (.str ("c" : Str))) (.cons (.con (.int 4)) .nil))) (.cons (.tup (.cons (.con (.str ("c" : Str))) (.cons (.con (.int 4)) .nil))) .nil)))) (.cons (.tup (.cons (.con (.str ("!" : Str))) (.cons (.var 9) (.cons (.tup (.cons (.con (.str ("c" : Str))) (.cons (.neg (.con (.int 2))) .nil))) .nil)))) .nil))) (.cons (.tup .nil) (.cons (.tup (.cons (.tup (.cons (.con (.str ("say" : Str))) (.cons (.con (.str ("no" : Str))) .nil))) .nil)) .nil)))))) (.cons 
  (.set 4 (.tup (.cons (.con (.str ("when" : Str))) (.cons (.tup .nil) (.cons (.tup (.cons (.tup (.cons (.con (.str ("show" : Str))) (.cons (.tup (.cons (.con (.str ("c" : Str))) (.cons (.con (.int 9)) .nil))) .nil))) .nil)) (.cons (.tup (.cons (.tup (.cons (.con (.str ("call" : Str))) (.cons (.con (.int 2)) .nil))) (.cons (.tup (.cons (.con (.str ("show" : Str))) (.cons (.var 10) .nil))) .nil))) .nil)))))) (.cons 
  (.set 5 (.tup (.cons (.tup (.cons (.tup (.cons (.con (.str ("a" : Str))) (.cons (.tup (.cons (.con (.str ("x" : Str))) (.cons (.con (.str ("y" : Str))) .nil))) .nil))) (.cons (.tup (.cons (.con (.str ("b" : Str))) (.cons (.tup (.cons (.con (.str ("z" : Str))) .nil)) .nil))) .nil))) (.cons (.tup (.cons (.tup (.cons (.con (.str ("top" : Str))) (.cons (.tup (.cons (.tup (.cons (.con (.str ("call" : Str))) (.cons (.con (.int 1)) .nil))) (.cons (.tup (.cons (.con (.str ("show" : Str))) (.cons (.var 8) .nil))) (.cons (.tup (.cons (.con (.str ("call" : Str))) (.cons (.con (.int 1)) .nil))) .nil)))) .nil))) (.cons (.tup (.cons (.con (.str ("mid" : Str))) (.cons (.tup (.cons (.var 4) .nil)) .nil))) (.cons (.tup (.cons (.con (.str ("low" : Str))) (.cons (.tup (.cons (.var 3) .nil)) .nil))) .nil)))) .nil)))) (.cons 
  (.set 6 (.tup (.cons (.con (.str ("when" : Str))) (.cons (.tup .nil) (.cons (.tup (.cons (.tup (.cons (.con (.str ("when" : Str))) (.cons (.tup .nil) (.cons (.tup (.cons (.tup (.cons (.con (.str ("show" : Str))) (.cons (.tup (.cons (.con (.str ("c" : Str))) (.cons (.con (.int 9)) .nil))) .nil))) .nil)) (.cons (.tup (.cons (.tup (.cons (.con (.str ("when" : Str))) (.cons (.tup .nil) (.cons (.tup (.cons (.var 3) .nil)) (.cons (.tup .nil) .nil))))) (.cons (.tup (.cons (.con (.str ("show" : Str))) (.cons (.var 10) .nil))) .nil))) .nil))))) .nil)) (.cons (.tup .nil) .nil)))))) (.cons 
  (.iff (.or (.not (.call 24 (.cons (.var 5) .nil))) (.not (.call 12 (.cons (.tup (.cons (.callk 6 .nil (.cons (.var 5) .nil) [0]) (.cons (.callk 2 .nil (.cons (.con (.int 0)) (.cons (.var 5) .nil)) [1, 0]) (.cons (.call 2 (.cons (.var 5) (.cons (.con (.int 1)) .nil))) .nil)))) (.cons (.tup (.cons (.tup (.cons (.neg (.con (.int 2))) (.cons (.con (.int 4)) (.cons (.con (.int 9)) .nil)))) (.cons (.tup (.cons (.con (.int 1)) .nil)) (.cons (.tup (.cons (.con (.int 2)) .nil)) .nil)))) .nil))))) (.cons (.ret (.con (.bool false))) .nil) .nil) (.cons 
  (.set 7 (.tup (.cons (.callk 9 .nil (.cons (.con (.int 0)) (.cons (.var 5) .nil)) [1, 0]) (.cons (.callk 7 .nil (.cons (.tup (.cons (.con (.int 0)) .nil)) (.cons (.var 5) .nil)) [1, 0]) (.cons (.call 7 (.cons (.var 5) (.cons (.tup (.cons (.con (.int 1)) .nil)) .nil))) (.cons (.call 7 (.cons (.var 5) (.cons (.tup (.cons (.con (.int 2)) .nil)) .nil))) .nil)))))) (.cons 
  (.ret (.and (.call 12 (.cons (.var 7) (.cons (.tup (.cons (.tup (.cons (.var 6) (.cons (.tup (.cons (.con (.str ("show" : Str))) (.cons (.var 8) .nil))) (.cons (.var 6) .nil)))) (.cons (.tup (.cons (.tup (.cons (.con (.int 0)) (.cons (.con (.int 0)) .nil))) (.cons (.tup (.cons (.con (.int 0)) (.cons (.con (.int 1)) .nil))) (.cons (.tup (.cons (.con (.int 1)) (.cons (.con (.int 0)) .nil))) .nil)))) (.cons (.tup (.cons (.tup (.cons (.con (.int 0)) (.cons (.con (.int 1)) .nil))) (.cons (.tup (.cons (.con (.int 1)) (.cons (.con (.int 0)) .nil))) .nil))) (.cons (.tup (.cons (.tup (.cons (.con (.int 0)) (.cons (.con (.int 1)) .nil))) .nil)) .nil))))) .nil))) (.call 12 (.cons (.call 0 (.cons (.tup .nil) .nil)) (.cons (.con (.int 0)) .nil))))) .nil))))))))))
def f25 : Fn := { np := 1, ns := 11, body := b25, tr := true }
def d25 : Df := { name := "law", ps := [("script" : Str)], N := [("script" : Str), ("shed" : Str), ("lap" : Str), ("low" : Str), ("mid" : Str), ("program" : Str), ("put" : Str), ("told" : Str), ("x" : Str), ("y" : Str), ("z" : Str)], fn := f25, st := topS 27 }
def tx : Tx := { ds := [d0, d1, d2, d3, d4, d5, d6, d7, d8, d9, d10, d11, d12, d13, d14, d15, d16, d17, d18, d19, d20, d21, d22, d23, d24, d25], gl := [], bl := [("abs" : Str), ("bool" : Str), ("dict" : Str), ("int" : Str), ("isinstance" : Str), ("len" : Str), ("list" : Str), ("max" : Str), ("min" : Str), ("range" : Str), ("sorted" : Str), ("str" : Str), ("tuple" : Str)], kb := [⟨0, 0, [("block" : Str)], [0]⟩, ⟨6, 0, [("program" : Str)], [0]⟩, ⟨2, 0, [("ask" : Str), ("program" : Str)], [1, 0]⟩, ⟨9, 0, [("ask" : Str), ("program" : Str)], [1, 0]⟩, ⟨7, 0, [("lot" : Str), ("program" : Str)], [1, 0]⟩] }
def Gc : Nat → Option D := fun _ => none
theorem chk : tx.ds.all (chkD 100 tx) = true := by decide +kernel
end Mp.k06
end
section
set_option maxHeartbeats 4000000
namespace Mp.k06
open PySem PySem.Spec PyProof.Rows L2 Mp

/-! ### the scale -/
def scM (s : List D) (L : List Int) (c d : Int) (R : Mem) : Mem := .scr s :: .lst (L.map .int) :: .box [.ref 1, .d (.int c), .d (.int d)] :: R
def Sk (s : List D) (R M : Mem) : Prop := ∃ (L : List Int) (c d : Int), L.length ≤ 43 ∧ M = scM s L c d R
theorem Sk.len {s : List D} {R M : Mem} (h : Sk s R M) : M.length = R.length + 3 := by
  obtain ⟨L, c, d, _, rfl⟩ := h
  simp [scM]
theorem Sk.get {s : List D} {R M : Mem} (h : Sk s R M) (i : Nat) : M[i + 3]? = R[i]? := by
  obtain ⟨L, c, d, _, rfl⟩ := h
  rfl
theorem Sk.set {s : List D} {R M : Mem} (h : Sk s R M) (i : Nat) (ob : Ob) : Sk s (R.set i ob) (M.set (i + 3) ob) := by
  obtain ⟨L, c, d, hL, rfl⟩ := h
  exact ⟨L, c, d, hL, rfl⟩
theorem Sk.app {s : List D} {R M : Mem} (h : Sk s R M) (ob : Ob) : Sk s (R ++ [ob]) (M ++ [ob]) := by
  obtain ⟨L, c, d, hL, rfl⟩ := h
  exact ⟨L, c, d, hL, rfl⟩
theorem Sk.take {s : List D} {R R' M : Mem} (h : Sk s (R ++ R') M) : Sk s R (M.take (R.length + 3)) := by
  obtain ⟨L, c, d, hL, rfl⟩ := h
  exact ⟨L, c, d, hL, by simp [scM]⟩
theorem t11 (m : Nat) {s : List D} {R M : Mem} {pl many : Int} (h : Sk s R M) (hp0 : 0 ≤ pl) (hp1 : pl ≤ 1000) (h1 : 1 ≤ many) (h2 : many < 2 ^ 62) :
    ∃ r M', callAt Gc tx.T (m + 1) 11 [.ref 2, .d (.int pl), .d (.int many)] M = .ok (.d (.int r)) M' ∧ Sk s R M' ∧ 0 ≤ r ∧ r < many := by
  obtain ⟨L, c, d, hL, rfl⟩ := h
  rw [call_is (f := f11) rfl]
  have hs : small many = true := small_ok (by omega)
  by_cases hm2 : many < 2
  · refine ⟨0, scM s L c d R, ?_, ⟨L, c, d, hL, rfl⟩, by omega, by omega⟩
    simp [runFn, f11, b11, hm2, outV]
  have hpm : 0 < many := by omega
  have hm2' : (decide (many < 2)) = false := decide_eq_false hm2
  rcases List.eq_nil_or_concat L with rfl | ⟨L0, a, rfl⟩
  · have hd : 0 < 37 + 2 * pl := by omega
    have hds : small (37 + 2 * pl) = true := small_ok (by omega)
    have h89 : small 89 = true := small_ok (by decide)
    have hb1 : 0 ≤ d / (37 + 2 * pl) % 15 := Int.emod_nonneg _ (by decide)
    have hb2 : d / (37 + 2 * pl) % 15 < 15 := Int.emod_lt_of_pos _ (by decide)
    let c' : Int := (c * 14503 + 59 * pl + 101) % 2147480909
    have hmm : mulOk (d / (37 + 2 * pl) % 15 - 13) (many - 1) = true := mul_ok (by omega)
    have hm3 : mulOk c 14503 = true := mul_ok (by decide)
    have hm4 : mulOk 59 pl = true := mul_ok (by omega)
    have hm5 : mulOk 2 pl = true := mul_ok (by omega)
    by_cases hq : pl = 0 ∨ d / (37 + 2 * pl) % 15 < 13
    · refine ⟨c' / 89 % many, scM s [] c' d R, ?_, ⟨[], c', d, by simp, rfl⟩, Int.emod_nonneg _ (by omega), Int.emod_lt_of_pos _ (by omega)⟩
      by_cases hq1 : pl = 0
      · subst hq1
        have hm4 : mulOk 59 0 = true := mul_ok (by decide)
        have hm5 : mulOk 2 0 = true := mul_ok (by decide)
        have hds : small 37 = true := small_ok (by decide)
        simp [runFn, f11, b11, hm2, scM, x_ixb, x_lenr, L2.atI, L2.ixN, x_setb, okRef, h89, hds, hm3, hm4, hm5, hpm, outV, c']
      · have hq2 := hq.resolve_left hq1
        simp [runFn, f11, b11, hm2, scM, x_ixb, x_lenr, L2.atI, L2.ixN, x_setb, okRef, h89, hds, hd, hm3, hm4, hm5, hpm, outV, c', hq1, hq2]
    · have hq1 : ¬ pl = 0 := fun e => hq (.inl e)
      have hq2 : ¬ d / (37 + 2 * pl) % 15 < 13 := fun e => hq (.inr e)
      have hq3 : d / (37 + 2 * pl) % 15 = 13 ∨ d / (37 + 2 * pl) % 15 = 14 := by omega
      refine ⟨(d / (37 + 2 * pl) % 15 - 13) * (many - 1), scM s [] c' d R, ?_, ⟨[], c', d, by simp, rfl⟩, ?_, ?_⟩
      · simp [runFn, f11, b11, hm2, scM, x_ixb, x_lenr, L2.atI, L2.ixN, x_setb, okRef, h89, hds, hd, hm3, hm4, hm5, hpm, outV, c', hq1, hq2, hmm]
      · rcases hq3 with e | e <;> rw [e] <;> simp <;> omega
      · rcases hq3 with e | e <;> rw [e] <;> simp <;> omega
  · rw [List.concat_eq_append] at hL ⊢
    have hL0 : L0.length + 1 ≤ 43 := by simpa using hL
    have hll : L0.length < lim := by unfold lim; omega
    have hg : ((L0 ++ [a]).map PyData.int)[((L0 ++ [a]).map PyData.int).length - 1]? = some (.int a) := by simp
    have hdl : ((L0 ++ [a]).map PyData.int).dropLast = L0.map .int := by simp
    have hr : (scM s (L0 ++ [a]) c d R)[1]? = some (.lst ((L0 ++ [a]).map .int)) := rfl
    have hb : (scM s (L0 ++ [a]) c d R)[2]? = some (.box [.ref 1, .d (.int c), .d (.int d)]) := rfl
    have hset : (scM s (L0 ++ [a]) c d R).set 1 (.lst (L0.map .int)) = scM s L0 c d R := rfl
    have hpop := x_pop0 hr
    rw [hg, hdl, hset] at hpop
    have hb2 : (scM s L0 c d R)[2]? = some (.box [.ref 1, .d (.int c), .d (.int d)]) := rfl
    have hr2 : (scM s L0 c d R)[1]? = some (.lst (L0.map .int)) := rfl
    have happ : mtV .append (scM s L0 c d R) (.ref 1) [.d (.int (a / many))] = some (.d .none, scM s (L0 ++ [a / many]) c d R) := by
      rw [x_app hr2, List.length_map, if_pos hll]
      simp [scM]
    have k1 := x_kind (m := .pop0) (fun h => by cases h) (fun h => by cases h) hr
    have k2 := x_kind (m := .append) (fun h => by cases h) (fun h => by cases h) hr2
    have hlen := x_lenr hr
    have i1 : idxV (scM s (L0 ++ [a]) c d R) (.ref 2) (.d (.int 0)) = some (.ref 1) := by rw [x_ixb hb, atI0]
    have i2 : idxV (scM s L0 c d R) (.ref 2) (.d (.int 0)) = some (.ref 1) := by rw [x_ixb hb2, atI0]
    have hp : (0 : Int) < ((L0 ++ [a]).map PyData.int).length := by rw [List.length_map, List.length_append, List.length_singleton]; omega
    have htk : ∀ L' : List Int, (scM s L' c d R).take (scM s (L0 ++ [a]) c d R).length = scM s L' c d R := fun L' => List.take_of_length_le (by simp [scM])
    have tk1 := htk L0
    have tk2 := htk (L0 ++ [a / many])
    by_cases ha : many ≤ a
    · refine ⟨a % many, scM s (L0 ++ [a / many]) c d R, ?_, ⟨L0 ++ [a / many], c, d, by simpa using hL0, rfl⟩, Int.emod_nonneg _ (by omega), Int.emod_lt_of_pos _ (by omega)⟩
      generalize ((L0 ++ [a]).map PyData.int).length = n at *
      generalize scM s (L0 ++ [a]) c d R = M0 at *
      generalize scM s L0 c d R = M1 at *
      generalize scM s (L0 ++ [a / many]) c d R = M2 at *
      have hp' : 0 < n := by omega
      simp [runFn, f11, b11, hm2, i1, i2, hlen, hp', k1, k2, hpop, happ, ha, hpm, hs, outV, tk2]
    · refine ⟨a % many, scM s L0 c d R, ?_, ⟨L0, c, d, by omega, rfl⟩, Int.emod_nonneg _ (by omega), Int.emod_lt_of_pos _ (by omega)⟩
      generalize ((L0 ++ [a]).map PyData.int).length = n at *
      generalize scM s (L0 ++ [a]) c d R = M0 at *
      generalize scM s L0 c d R = M1 at *
      have hp' : 0 < n := by omega
      simp [runFn, f11, b11, hm2, i1, i2, hlen, hp', k1, k2, hpop, ha, hpm, hs, outV, tk1]
end Mp.k06
end
section
set_option maxHeartbeats 4000000
namespace Mp.k06
open PySem PySem.Spec PyProof.Rows L2 Mp

def eBig : ME := .bin .pow (.bin .pow (.con (.int 10)) (.con (.int 31))) (.con (.int 7))
theorem h_big {C : CT} : ∃ K : Int, 0 < K ∧ ∀ σ M, evE Gc C eBig σ M = .ok (.d (.int K)) M := by
  refine ⟨((10 : Int) ^ (31 : Int).toNat) ^ (7 : Int).toNat, Int.pow_pos (Int.pow_pos (by decide)), fun σ M => ?_⟩
  unfold eBig
  rw [x_bin, x_bin, x_con, x_bok, x_con, x_bok, x_rdd, x_rdd]
  dsimp only
  rw [x_powi, if_pos (by decide), x_ofS, x_bok, x_bok, x_con, x_bok, x_rdd, x_rdd]
  dsimp only
  rw [x_powi, if_pos (by decide +kernel), x_ofS, x_bok]
def eMid : ME := .bin .pow (.con (.int 10)) (.con (.int 14))
theorem h_mid {C : CT} : ∃ K : Int, ∀ σ M, evE Gc C eMid σ M = .ok (.d (.int K)) M := by
  refine ⟨(10 : Int) ^ (14 : Int).toNat, fun σ M => ?_⟩
  unfold eMid
  rw [x_bin, x_con, x_bok, x_con, x_bok, x_rdd, x_rdd]
  dsimp only
  rw [x_powi, if_pos (by decide), x_ofS, x_bok]
def s10a : MS := .set 4 (.bin .mod (.bi .abs (.cons (.bi .int (.cons (.var 1) .nil)) .nil)) eBig)
def s10b : MS := .set 3 (.bin .mod (.bi .int (.cons (.bin .add (.bin .add (.bin .add (.bin .mul (.var 3) (.con (.int 25013))) (.bin .mod (.var 4) (.con (.int 992219)))) (.bin .mul (.con (.int 17)) (.bi .int (.cons (.cmp .lt (.bi .int (.cons (.var 1) .nil)) (.con (.int 0))) .nil)))) (.con (.int 9))) .nil)) (.con (.int 2147480909)))
def s10c : MS := .iff (.cmp .gt (.var 4) eMid) (.cons (.exp (.mt .append (.var 2) (.cons (.var 4) .nil))) .nil) .nil
def b10in : MSs := .cons s10a (.cons s10b (.cons s10c .nil))
theorem b10_is : b10 = .cons (.par2 2 3 (.new (.lst .nil)) (.con (.int 16061))) (.cons (.forr (.nm 1) (.ov (.slc (.var 0) .non (.som (.con (.int 39))))) b10in) (.cons (nthS b10 2) .nil)) := rfl
section
variable {C : CT} {s : List D} {G : List Int} {a load : Int} {z : Option Val}
def M10 (s : List D) (G : List Int) : Mem := [.scr s, .lst (G.map .int)]
theorem e10a : ∃ z', evS Gc C s10a [some (.ref 0), some (.d (.int a)), some (.ref 1), some (.d (.int load)), z] (M10 s G) = .ok (.nx [some (.ref 0), some (.d (.int a)), some (.ref 1), some (.d (.int load)), some (.d (.int z'))]) (M10 s G) := by
  obtain ⟨K, hK, h⟩ := h_big (C := C)
  refine ⟨(if a < 0 then -a else a) % K, ?_⟩
  simp [s10a, h, hK]
theorem e10b {b : Int} : ∃ l', evS Gc C s10b [some (.ref 0), some (.d (.int a)), some (.ref 1), some (.d (.int load)), some (.d (.int b))] (M10 s G) = .ok (.nx [some (.ref 0), some (.d (.int a)), some (.ref 1), some (.d (.int l')), some (.d (.int b))]) (M10 s G) := by
  have h1 : mulOk load 25013 = true := mul_ok (by decide)
  have h2 : ∀ t : Int, (t = 0 ∨ t = 1) → mulOk 17 t = true := fun t ht => mul_ok (by rcases ht with rfl | rfl <;> decide)
  have h3 := h2 0 (.inl rfl)
  have h4 := h2 1 (.inr rfl)
  by_cases hn : a < 0
  · exact ⟨_, by simp [s10b, h1, h3, h4, hn]; rfl⟩
  · exact ⟨_, by simp [s10b, h1, h3, h4, hn]; rfl⟩
theorem e10c {b : Int} (hl : G.length < lim) : ∃ G', G'.length ≤ G.length + 1 ∧ evS Gc C s10c [some (.ref 0), some (.d (.int a)), some (.ref 1), some (.d (.int load)), some (.d (.int b))] (M10 s G) = .ok (.nx [some (.ref 0), some (.d (.int a)), some (.ref 1), some (.d (.int load)), some (.d (.int b))]) (M10 s G') := by
  obtain ⟨K, h⟩ := h_mid (C := C)
  by_cases hb : K < b
  · refine ⟨G ++ [b], by simp, ?_⟩
    have hr : (M10 s G)[1]? = some (.lst (G.map .int)) := rfl
    have ha := x_app (x := .int b) hr
    rw [if_pos (by rw [List.length_map]; exact hl)] at ha
    have hk := x_kind (m := .append) (fun h => by cases h) (fun h => by cases h) hr
    have e : (M10 s G).set 1 (.lst (G.map .int ++ [.int b])) = M10 s (G ++ [b]) := by simp [M10]
    rw [e] at ha
    simp [s10c, h, hb, hk, ha]
  · exact ⟨G, by omega, by simp [s10c, h, hb]⟩
end
theorem t10 (m : Nat) {ns : List Int} (hn : ns.length ≤ 63) : ∃ M, callAt Gc tx.T (m + 1) 10 [.ref 0] [.scr (ns.map .int)] = .ok (.ref 2) M ∧ Sk (ns.map .int) [] M := by
  rw [call_is (f := f10) rfl]
  let s : List D := ns.map .int
  have hls : s.length = ns.length := List.length_map _
  obtain ⟨σ', M', e, G, y, z, load, rfl, rfl, hG⟩ := forL_go (tg := .nm 1) (b := evSs Gc (callAt Gc tx.T m) b10in) (xs := s.take 39) (σ := [some (.ref 0), none, some (.ref 1), some (.d (.int 16061)), none]) (M := M10 s [])
    (fun i σ M => ∃ (G : List Int) (y z : Option Val) (load : Int), σ = [some (.ref 0), y, some (.ref 1), some (.d (.int load)), z] ∧ M = M10 s G ∧ G.length ≤ i) ⟨[], none, none, 16061, rfl, rfl, Nat.le_refl _⟩ (by
    rintro i x σ M hx ⟨G, y, z, load, rfl, rfl, hG⟩
    have hi := (List.getElem?_eq_some_iff.mp hx).1
    rw [List.length_take] at hi
    obtain ⟨a, rfl⟩ : ∃ a, x = .int a := by
      have := List.mem_of_mem_take (List.mem_of_getElem? hx)
      obtain ⟨a, _, rfl⟩ := List.mem_map.mp this
      exact ⟨a, rfl⟩
    obtain ⟨z', h1⟩ := e10a (C := callAt Gc tx.T m) (s := s) (G := G) (a := a) (load := load) (z := z)
    obtain ⟨l', h2⟩ := e10b (C := callAt Gc tx.T m) (s := s) (G := G) (a := a) (load := load) (b := z')
    obtain ⟨G', hG', h3⟩ := e10c (C := callAt Gc tx.T m) (s := s) (G := G) (a := a) (load := l') (b := z') (by unfold lim; omega)
    refine ⟨[some (.ref 0), some (.d (.int a)), some (.ref 1), some (.d (.int load)), z], _, _, rfl, ?_, G', some (.d (.int a)), some (.d (.int z')), l', rfl, rfl, by omega⟩
    unfold b10in
    rw [sqn h1, sqn h2, sqn h3, x_snil])
  rw [List.length_take] at hG
  have h3 : 3 ≤ lim := by unfold lim; omega
  have e1 : evS Gc (callAt Gc tx.T m) (.par2 2 3 (.new (.lst .nil)) (.con (.int 16061))) [some (.ref 0), none, none, none, none] [.scr s] = .ok (.nx [some (.ref 0), none, some (.ref 1), some (.d (.int 16061)), none]) (M10 s []) := by
    simp [M10]
  have hc : cutD (.list s) none (some 39) = some (.list (s.take 39)) := by
    show some (PyData.list (cutL s none (some ((39 : Nat) : Int)))) = _
    rw [cutL_take]
  have hrd : rdS (M10 s []) (.ref 0) = some (.list s) := rfl
  have e2 : evS Gc (callAt Gc tx.T m) (.forr (.nm 1) (.ov (.slc (.var 0) .non (.som (.con (.int 39))))) b10in) [some (.ref 0), none, some (.ref 1), some (.d (.int 16061)), none] (M10 s []) = .ok (.nx [some (.ref 0), y, some (.ref 1), some (.d (.int load)), z]) (M10 s G) := by
    rw [x_forr, x_ov, x_slc]
    simp only [x_var, x_gete0, x_ofS, x_bok, x_non, x_som, x_con, hrd, hc]
    exact e
  have hrd2 : rdV [Ob.scr s, Ob.lst (G.map .int)] (.ref 1) = some (.list (G.map .int)) := rfl
  have h4 : mulOk load 307 = true := mul_ok (by decide)
  have e3 : evS Gc (callAt Gc tx.T m) (nthS b10 2) [some (.ref 0), y, some (.ref 1), some (.d (.int load)), z] (M10 s G) = .ok (.rt (.ref 2)) (scM s G (load + 3) ((load * 307 + 53) % 999999667) []) := by
    simp [nthS, b10, hrd2, h4, h3, M10, scM, List.map_reverse]
  refine ⟨_, ?_, G, load + 3, (load * 307 + 53) % 999999667, by omega, rfl⟩
  unfold runFn
  rw [show f10.body = b10 from rfl, b10_is]
  show ((evSs Gc _ _ [some (.ref 0), none, none, none, none] [.scr s]).bind _) = _
  rw [sqn e1, sqn e2, sqr e3, x_bok]
  rfl
/-! ### the same -/
def pn : Nat → D → Bool
  | _, .int _ => true
  | _, .str s => SeqAt.shaped (.str s)
  | d + 1, .tuple xs => xs.all (pn d) && decide (xs.length ≤ lim)
  | _, _ => false
theorem eq_str {s : Str} (h : SeqAt.shaped (.str s) = true) : eqD (.str s) (.str s) = some true := by
  unfold eqD
  rw [h]
  show some (s == s) = some true
  rw [beq_self_eq_true]
theorem pn_int (d : Nat) (i : Int) : pn d (.int i) = true := by cases d <;> rfl
theorem pn_str {d : Nat} {s : Str} : pn d (.str s) = SeqAt.shaped (.str s) := by cases d <;> rfl
theorem same : ∀ (d m : Nat) (x : D) (M : Mem), pn d x = true → callAt Gc tx.T (m + d + 1) 12 [.d x, .d x] M = .ok (.d (.bool true)) M := by
  intro d
  induction d with
  | zero =>
    intro m x M h
    rw [call_is (f := f12) rfl]
    cases x with
    | int i => simp [runFn, f12, b12, isD, outV]
    | str s =>
      have e := eq_str h
      simp [runFn, f12, b12, isD, outV, e]
    | _ => cases h
  | succ d ih =>
    intro m x M h
    rw [show m + (d + 1) + 1 = (m + d + 1) + 1 by omega, call_is (f := f12) rfl]
    cases x with
    | int i => simp [runFn, f12, b12, isD, outV]
    | str s =>
      have e := eq_str h
      simp [runFn, f12, b12, isD, outV, e]
    | tuple xs =>
      have h' : (xs.all (pn d) && decide (xs.length ≤ lim)) = true := h
      rw [Bool.and_eq_true] at h'
      have hl : xs.length ≤ lim := of_decide_eq_true h'.2
      have hr := rngOk_n hl
      have e := lcL_fil (tg := .nm 2) (own := [2]) (c := evE Gc (callAt Gc tx.T (m + d + 1)) (.not (.call 12 (.cons (.idx (.var 0) (.var 2)) (.cons (.idx (.var 1) (.var 2)) .nil))))) (f := evE Gc (callAt Gc tx.T (m + d + 1)) (.var 2))
        (σ := [some (.d (.tuple xs)), some (.d (.tuple xs)), none]) (M := M) (p := fun _ => false) (y := fun x => x) (xs := (rI xs.length).map .int) (fun x hx => by
          obtain ⟨a, ha, rfl⟩ := List.mem_map.mp hx
          obtain ⟨a0, a1⟩ := mem_rI.mp ha
          have hn : a.toNat < xs.length := by omega
          have hat : L2.atI xs a = some xs[a.toNat] := by
            have := L2.atI_nat (List.getElem?_eq_getElem hn)
            rw [show ((a.toNat : Nat) : Int) = a by omega] at this
            exact this
          have hc := ih m xs[a.toNat] M (List.all_eq_true.mp h'.1 _ (List.getElem_mem hn))
          exact ⟨_, rfl, by simp [sTst, wipeE, hat, hc], fun z => by cases z⟩)
      have e0 : ∀ l : List D, l.filter (fun _ => false) = [] := fun l => List.filter_eq_nil_iff.mpr fun _ _ => Bool.false_ne_true
      rw [e0] at e
      simp only [runFn, f12, b12]
      simp [evC, hr, rngD_rI, isD] at e ⊢
      rw [e]
      simp [outV]
    | _ => cases h
theorem pn_tup {d : Nat} {xs : List D} (h : ∀ x ∈ xs, pn d x = true) (hl : xs.length ≤ lim) : pn (d + 1) (.tuple xs) = true := by
  show (xs.all (pn d) && decide (xs.length ≤ lim)) = true
  rw [decide_eq_true hl, Bool.and_true]
  exact List.all_eq_true.mpr h
theorem pn_mono : ∀ {d : Nat} {x : D}, pn d x = true → pn (d + 1) x = true
  | 0, x, h => by
    cases x with
    | int i => rfl
    | str s => exact h
    | _ => cases h
  | d + 1, x, h => by
    cases x with
    | int i => rfl
    | str s => exact h
    | tuple xs =>
      have h' : (xs.all (pn d) && decide (xs.length ≤ lim)) = true := h
      rw [Bool.and_eq_true] at h'
      exact pn_tup (fun y hy => pn_mono (List.all_eq_true.mp h'.1 y hy)) (of_decide_eq_true h'.2)
    | _ => cases h
theorem pn_le {d e : Nat} {x : D} (h : pn d x = true) (hle : d ≤ e) : pn e x = true := by
  induction hle with
  | refl => exact h
  | step _ ih => exact pn_mono ih
theorem pn_iT {d : Nat} {p : List Int} (h : p.length ≤ lim) : pn (d + 1) (iT p) = true := pn_tup (fun x hx => by
  obtain ⟨a, _, rfl⟩ := List.mem_map.mp hx
  exact pn_int d a) (by rw [List.length_map]; exact h)
end Mp.k06
end
section
set_option maxHeartbeats 4000000
namespace Mp.k06
open PySem PySem.Spec PyProof.Rows L2 Mp

/-! ### items counted -/
def in0 : MSs := bodyOf (nthS b0 1)
def in18 : MSs := bodyOf (nthS b18 1)
section
variable {C : CT} {n : Nat} {b : Option Val} {M : Mem}
theorem step0 (hC : ∀ (its : Its) (M : Mem), its.dp < n → C 0 [.d (.tuple its.Ds)] M = .ok (.d (.int its.nn)) M) {i : It} {acc : Int} (h : i.dp ≤ n) :
    evSs Gc C in0 [b, some (.d (.int acc)), some (.d i.D)] M = .ok (.nx [b, some (.d (.int (acc + i.nn))), some (.d i.D)]) M := by
  cases i with
  | say w => simp [in0, bodyOf, nthS, b0, It.D, It.nn, q_say2, atI0]
  | call k => simp [in0, bodyOf, nthS, b0, It.D, It.nn, q_call2, atI0]
  | shw t => simp [in0, bodyOf, nthS, b0, It.D, It.nn, q_show2, atI0]
  | when cs x y =>
    have hd : max x.dp y.dp + 1 ≤ n := h
    have h1 := hC x M (by omega)
    have h2 := hC y M (by omega)
    simp [in0, bodyOf, nthS, b0, It.D, It.nn, q_when2, atI0, at2, at3, h1, h2]
    omega
theorem loop0 (hC : ∀ (its : Its) (M : Mem), its.dp < n → C 0 [.d (.tuple its.Ds)] M = .ok (.d (.int its.nn)) M) : ∀ {its : Its} {acc : Int} {t : Option Val}, its.dp ≤ n →
    ∃ t', forL (.nm 2) (evSs Gc C in0) its.Ds [b, some (.d (.int acc)), t] M = .ok (.nx [b, some (.d (.int (acc + its.nn))), t']) M
  | .nil, acc, t, _ => ⟨t, by show Res.ok (Fl.nx [b, some (.d (.int acc)), t]) M = _; simp [Its.nn]⟩
  | .cons i r, acc, t, h => by
    have hd : max i.dp r.dp ≤ n := h
    obtain ⟨t', e⟩ := loop0 hC (its := r) (acc := acc + i.nn) (t := some (.d i.D)) (by omega)
    refine ⟨t', ?_⟩
    show forL _ _ (i.D :: r.Ds) _ _ = _
    rw [forL_cons (σ1 := [b, some (.d (.int acc)), some (.d i.D)]) rfl (step0 hC (by omega)), e]
    have : acc + (i.nn : Int) + (r.nn : Int) = acc + ((Its.cons i r).nn : Nat) := by show _ = acc + ((i.nn + r.nn : Nat) : Int); omega
    rw [this]
theorem step18 (hC : ∀ (its : Its) (M : Mem), its.dp < n → C 18 [.d (.tuple its.Ds)] M = .ok (.d (.int its.nn)) M) {i : It} {acc : Int} (h : i.dp ≤ n) :
    evSs Gc C in18 [b, some (.d (.int acc)), some (.d i.D)] M = .ok (.nx [b, some (.d (.int (acc + i.nn))), some (.d i.D)]) M := by
  cases i with
  | say w => simp [in18, bodyOf, nthS, b18, It.D, It.nn, q_say2, atI0]
  | call k => simp [in18, bodyOf, nthS, b18, It.D, It.nn, q_call2, atI0]
  | shw t => simp [in18, bodyOf, nthS, b18, It.D, It.nn, q_show2, atI0]
  | when cs x y =>
    have hd : max x.dp y.dp + 1 ≤ n := h
    have h1 := hC x M (by omega)
    have h2 := hC y M (by omega)
    simp [in18, bodyOf, nthS, b18, It.D, It.nn, q_when2, atI0, at2, at3, h1, h2]
    omega
theorem loop18 (hC : ∀ (its : Its) (M : Mem), its.dp < n → C 18 [.d (.tuple its.Ds)] M = .ok (.d (.int its.nn)) M) : ∀ {its : Its} {acc : Int} {t : Option Val}, its.dp ≤ n →
    ∃ t', forL (.nm 2) (evSs Gc C in18) its.Ds [b, some (.d (.int acc)), t] M = .ok (.nx [b, some (.d (.int (acc + its.nn))), t']) M
  | .nil, acc, t, _ => ⟨t, by show Res.ok (Fl.nx [b, some (.d (.int acc)), t]) M = _; simp [Its.nn]⟩
  | .cons i r, acc, t, h => by
    have hd : max i.dp r.dp ≤ n := h
    obtain ⟨t', e⟩ := loop18 hC (its := r) (acc := acc + i.nn) (t := some (.d i.D)) (by omega)
    refine ⟨t', ?_⟩
    show forL _ _ (i.D :: r.Ds) _ _ = _
    rw [forL_cons (σ1 := [b, some (.d (.int acc)), some (.d i.D)]) rfl (step18 hC (by omega)), e]
    have : acc + (i.nn : Int) + (r.nn : Int) = acc + ((Its.cons i r).nn : Nat) := by show _ = acc + ((i.nn + r.nn : Nat) : Int); omega
    rw [this]
end
theorem t0 : ∀ (n m : Nat) (its : Its) (M : Mem), its.dp ≤ n → callAt Gc tx.T (m + n + 1) 0 [.d (.tuple its.Ds)] M = .ok (.d (.int its.nn)) M := by
  have go : ∀ (j n : Nat) (its : Its) (M : Mem), its.dp ≤ n → (∀ (its : Its) (M : Mem), its.dp < n → callAt Gc tx.T j 0 [.d (.tuple its.Ds)] M = .ok (.d (.int its.nn)) M) → callAt Gc tx.T (j + 1) 0 [.d (.tuple its.Ds)] M = .ok (.d (.int its.nn)) M := by
    intro j n its M h hC
    rw [call_is (f := f0) rfl]
    obtain ⟨t', e⟩ := loop0 (b := some (.d (.tuple its.Ds))) (M := M) hC (its := its) (acc := 0) (t := none) h
    rw [Int.zero_add] at e
    rw [run_rt (fn := f0) (σ0 := [some (.d (.tuple its.Ds)), none, none]) (v := .d (.int its.nn)) (M1 := M) rfl rfl ?_]
    · show outV M.length true _ _ = _
      rw [out_d]; simp
    show evSs Gc _ (.cons (.set 1 (.con (.int 0))) (.cons (.forr (.nm 2) (.ov (.var 0)) in0) (.cons (.ret (.var 1)) .nil))) _ M = _
    generalize in0 = IN at *
    simp [e]
  intro n
  induction n with
  | zero => exact fun m its M h => go m 0 its M h fun its M h => absurd h (Nat.not_lt_zero _)
  | succ n ih => exact fun m its M h => go (m + n + 1) (n + 1) its M h fun its M h => ih m its M (by omega)
theorem t18 : ∀ (n m : Nat) (its : Its) (M : Mem), its.dp ≤ n → callAt Gc tx.T (m + n + 1) 18 [.d (.tuple its.Ds)] M = .ok (.d (.int its.nn)) M := by
  have go : ∀ (j n : Nat) (its : Its) (M : Mem), its.dp ≤ n → (∀ (its : Its) (M : Mem), its.dp < n → callAt Gc tx.T j 18 [.d (.tuple its.Ds)] M = .ok (.d (.int its.nn)) M) → callAt Gc tx.T (j + 1) 18 [.d (.tuple its.Ds)] M = .ok (.d (.int its.nn)) M := by
    intro j n its M h hC
    rw [call_is (f := f18) rfl]
    obtain ⟨t', e⟩ := loop18 (b := some (.d (.tuple its.Ds))) (M := M) hC (its := its) (acc := 0) (t := none) h
    rw [Int.zero_add] at e
    rw [run_rt (fn := f18) (σ0 := [some (.d (.tuple its.Ds)), none, none]) (v := .d (.int its.nn)) (M1 := M) rfl rfl ?_]
    · show outV M.length true _ _ = _
      rw [out_d]; simp
    show evSs Gc _ (.cons (.set 1 (.con (.int 0))) (.cons (.forr (.nm 2) (.ov (.var 0)) in18) (.cons (.ret (.var 1)) .nil))) _ M = _
    generalize in18 = IN at *
    simp [e]
  intro n
  induction n with
  | zero => exact fun m its M h => go m 0 its M h fun its M h => absurd h (Nat.not_lt_zero _)
  | succ n ih => exact fun m its M h => go (m + n + 1) (n + 1) its M h fun its M h => ih m its M (by omega)
/-! ### asks called -/
def nI (xs : List Nat) : List D := xs.map fun (k : Nat) => PyData.int k
theorem nI_app (a b : List Nat) : nI (a ++ b) = nI a ++ nI b := List.map_append
theorem nI_len (a : List Nat) : (nI a).length = a.length := List.length_map _
def in1 : MSs := bodyOf (nthS b1 1)
def in20 : MSs := bodyOf (nthS b20 1)
section
variable {C : CT} {n : Nat} {b : Option Val} {M : Mem}
theorem step20 (hC : ∀ (its : Its) (M : Mem), its.dp < n → its.nn ≤ 1000 → C 20 [.d (.tuple its.Ds)] M = .ok (.d (.list (nI its.cl))) M) {i : It} {acc : List Nat} (h : i.dp ≤ n) (hl : acc.length + i.nn ≤ 1000) :
    evSs Gc C in20 [b, some (.d (.list (nI acc))), some (.d i.D)] M = .ok (.nx [b, some (.d (.list (nI (acc ++ i.cl)))), some (.d i.D)]) M := by
  have l1 : 1 ≤ lim := by unfold lim; omega
  have l0 : 0 ≤ lim := by unfold lim; omega
  have ha : acc.length ≤ lim := by unfold lim; omega
  cases i with
  | say w => simp [in20, bodyOf, nthS, b20, It.D, It.cl, q_say2, q_say3, atI0, nI_app, nI_len, l0, ha, show nI [] = [] from rfl]
  | call k =>
    have hl' : acc.length + 1 ≤ lim := by have : acc.length + 1 ≤ 1000 := hl; unfold lim; omega
    simp [in20, bodyOf, nthS, b20, It.D, It.cl, q_call3, atI0, at1, nI_app, nI_len, l1, hl', show nI [k] = [PyData.int k] from rfl]
  | shw t => simp [in20, bodyOf, nthS, b20, It.D, It.cl, q_show2, q_show3, atI0, nI_app, nI_len, l0, ha, show nI [] = [] from rfl]
  | when cs x y =>
    have hd : max x.dp y.dp + 1 ≤ n := h
    have hn : acc.length + (1 + (x.nn + y.nn)) ≤ 1000 := hl
    have h1 := hC x M (by omega) (by omega)
    have h2 := hC y M (by omega) (by omega)
    have c1 := Its.cl_len x
    have c2 := Its.cl_len y
    have b1 : x.cl.length + y.cl.length ≤ lim := by unfold lim; omega
    have b2 : acc.length + (x.cl.length + y.cl.length) ≤ lim := by unfold lim; omega
    simp [in20, bodyOf, nthS, b20, It.D, It.cl, q_when2, q_when3, atI0, at2, at3, h1, h2, nI_app, nI_len, b1, b2]
theorem loop20 (hC : ∀ (its : Its) (M : Mem), its.dp < n → its.nn ≤ 1000 → C 20 [.d (.tuple its.Ds)] M = .ok (.d (.list (nI its.cl))) M) : ∀ {its : Its} {acc : List Nat} {t : Option Val}, its.dp ≤ n → acc.length + its.nn ≤ 1000 →
    ∃ t', forL (.nm 2) (evSs Gc C in20) its.Ds [b, some (.d (.list (nI acc))), t] M = .ok (.nx [b, some (.d (.list (nI (acc ++ its.cl)))), t']) M
  | .nil, acc, t, _, _ => ⟨t, by show Res.ok (Fl.nx [b, some (.d (.list (nI acc))), t]) M = _; simp [Its.cl]⟩
  | .cons i r, acc, t, h, hl => by
    have hd : max i.dp r.dp ≤ n := h
    have hn : acc.length + (i.nn + r.nn) ≤ 1000 := hl
    have c1 := It.cl_len i
    obtain ⟨t', e⟩ := loop20 hC (its := r) (acc := acc ++ i.cl) (t := some (.d i.D)) (by omega) (by rw [List.length_append]; omega)
    refine ⟨t', ?_⟩
    show forL _ _ (i.D :: r.Ds) _ _ = _
    rw [forL_cons (σ1 := [b, some (.d (.list (nI acc))), some (.d i.D)]) rfl (step20 hC (by omega) (by omega)), e, List.append_assoc]
    rfl
/-- the text's own, with a list that is changed -/
theorem step1 {M0 X : Mem} {k : Nat} (hC : ∀ (its : Its) (M : Mem), its.dp < n → its.nn ≤ 1000 → C 1 [.d (.tuple its.Ds)] M = .ok (.d (.list (nI its.cl))) M) {i : It} {acc : List Nat} (h : i.dp ≤ n) (hX : X[k]? = some (.lst (nI acc))) (hl : acc.length + i.nn ≤ 1000) :
    ∃ X' k', evSs Gc C in1 [b, some (.ref (M0.length + k)), some (.d i.D)] (M0 ++ X) = .ok (.nx [b, some (.ref (M0.length + k')), some (.d i.D)]) (M0 ++ X') ∧ X'[k']? = some (.lst (nI (acc ++ i.cl))) := by
  have hk0 := (List.getElem?_eq_some_iff.mp hX).1
  have hr : (M0 ++ X)[M0.length + k]? = some (.lst (nI acc)) := by rw [get_app]; exact hX
  cases i with
  | say w => exact ⟨X, k, by simp [in1, bodyOf, nthS, b1, It.D, It.cl, q_say2, q_say3, atI0], by simp [It.cl, hX]⟩
  | shw t => exact ⟨X, k, by simp [in1, bodyOf, nthS, b1, It.D, It.cl, q_show2, q_show3, atI0], by simp [It.cl, hX]⟩
  | call j =>
    have hl' : acc.length < lim := by have : acc.length + 1 ≤ 1000 := hl; unfold lim; omega
    have hk := x_kind (m := .append) (fun h => by cases h) (fun h => by cases h) hr
    have ha := x_app (x := .int (j : Nat)) hr
    rw [nI_len, if_pos hl', set_app] at ha
    refine ⟨X.set k (.lst (nI acc ++ [.int (j : Nat)])), k, by simp [in1, bodyOf, nthS, b1, It.D, q_call3, atI0, at1, hk, ha], ?_⟩
    rw [List.getElem?_set_self hk0]
    simp [It.cl, nI]
  | when cs x y =>
    have hd : max x.dp y.dp + 1 ≤ n := h
    have hn : acc.length + (1 + (x.nn + y.nn)) ≤ 1000 := hl
    have h1 := hC x (M0 ++ X) (by omega) (by omega)
    have h2 := hC y (M0 ++ X) (by omega) (by omega)
    have c1 := Its.cl_len x
    have c2 := Its.cl_len y
    have b1 : acc.length + x.cl.length ≤ lim := by unfold lim; omega
    have b2 : acc.length + x.cl.length + y.cl.length ≤ lim := by unfold lim; omega
    have b3 : acc.length + (x.cl.length + y.cl.length) ≤ lim := by unfold lim; omega
    refine ⟨X ++ [.lst (nI (acc ++ (x.cl ++ y.cl)))], X.length, ?_, by simp [It.cl]⟩
    simp [in1, bodyOf, nthS, k06.b1, It.D, It.cl, q_when2, q_when3, atI0, at2, at3, x_rdr hr, h1, h2, nI_app, nI_len, b1, b2, b3]
theorem loop1 {M0 : Mem} (hC : ∀ (its : Its) (M : Mem), its.dp < n → its.nn ≤ 1000 → C 1 [.d (.tuple its.Ds)] M = .ok (.d (.list (nI its.cl))) M) : ∀ {its : Its} {acc : List Nat} {X : Mem} {k : Nat} {t : Option Val}, its.dp ≤ n → X[k]? = some (.lst (nI acc)) → acc.length + its.nn ≤ 1000 →
    ∃ X' k' t', forL (.nm 2) (evSs Gc C in1) its.Ds [b, some (.ref (M0.length + k)), t] (M0 ++ X) = .ok (.nx [b, some (.ref (M0.length + k')), t']) (M0 ++ X') ∧ X'[k']? = some (.lst (nI (acc ++ its.cl)))
  | .nil, acc, X, k, t, _, hX, _ => ⟨X, k, t, rfl, by simp [Its.cl, hX]⟩
  | .cons i r, acc, X, k, t, h, hX, hl => by
    have hd : max i.dp r.dp ≤ n := h
    have hn : acc.length + (i.nn + r.nn) ≤ 1000 := hl
    have c1 := It.cl_len i
    obtain ⟨X1, k1, e1, hX1⟩ := step1 (b := b) (M0 := M0) hC (i := i) (by omega) hX (by omega)
    obtain ⟨X', k', t', e, hX'⟩ := loop1 hC (its := r) (t := some (.d i.D)) (by omega) hX1 (by rw [List.length_append]; omega)
    refine ⟨X', k', t', ?_, by rw [List.append_assoc] at hX'; exact hX'⟩
    show forL _ _ (i.D :: r.Ds) _ _ = _
    rw [forL_cons (σ1 := [b, some (.ref (M0.length + k)), some (.d i.D)]) rfl e1, e]
end
theorem t20 : ∀ (n m : Nat) (its : Its) (M : Mem), its.dp ≤ n → its.nn ≤ 1000 → callAt Gc tx.T (m + n + 1) 20 [.d (.tuple its.Ds)] M = .ok (.d (.list (nI its.cl))) M := by
  have go : ∀ (j n : Nat) (its : Its) (M : Mem), its.dp ≤ n → its.nn ≤ 1000 → (∀ (its : Its) (M : Mem), its.dp < n → its.nn ≤ 1000 → callAt Gc tx.T j 20 [.d (.tuple its.Ds)] M = .ok (.d (.list (nI its.cl))) M) → callAt Gc tx.T (j + 1) 20 [.d (.tuple its.Ds)] M = .ok (.d (.list (nI its.cl))) M := by
    intro j n its M h hl hC
    rw [call_is (f := f20) rfl]
    obtain ⟨t', e⟩ := loop20 (b := some (.d (.tuple its.Ds))) (M := M) hC (its := its) (acc := []) (t := none) h (by simpa using hl)
    rw [List.nil_append] at e
    rw [run_rt (fn := f20) (σ0 := [some (.d (.tuple its.Ds)), none, none]) (v := .d (.list (nI its.cl))) (M1 := M) rfl rfl ?_]
    · show outV M.length true _ _ = _
      rw [out_d]; simp
    show evSs Gc _ (.cons (.set 1 (.lst .nil)) (.cons (.forr (.nm 2) (.ov (.var 0)) in20) (.cons (.ret (.var 1)) .nil))) _ M = _
    generalize in20 = IN at *
    have e' : forL (.nm 2) (evSs Gc (callAt Gc tx.T j) IN) its.Ds [some (.d (.tuple its.Ds)), some (.d (.list [])), none] M = _ := e
    simp [e']
  intro n
  induction n with
  | zero => exact fun m its M h hl => go m 0 its M h hl fun its M h => absurd h (Nat.not_lt_zero _)
  | succ n ih => exact fun m its M h hl => go (m + n + 1) (n + 1) its M h hl fun its M h hl => ih m its M (by omega) hl
theorem t1 : ∀ (n m : Nat) (its : Its) (M : Mem), its.dp ≤ n → its.nn ≤ 1000 → callAt Gc tx.T (m + n + 1) 1 [.d (.tuple its.Ds)] M = .ok (.d (.list (nI its.cl))) M := by
  have go : ∀ (j n : Nat) (its : Its) (M : Mem), its.dp ≤ n → its.nn ≤ 1000 → (∀ (its : Its) (M : Mem), its.dp < n → its.nn ≤ 1000 → callAt Gc tx.T j 1 [.d (.tuple its.Ds)] M = .ok (.d (.list (nI its.cl))) M) → callAt Gc tx.T (j + 1) 1 [.d (.tuple its.Ds)] M = .ok (.d (.list (nI its.cl))) M := by
    intro j n its M h hl hC
    rw [call_is (f := f1) rfl]
    obtain ⟨X', k', t', e, hX'⟩ := loop1 (b := some (.d (.tuple its.Ds))) (M0 := M) hC (its := its) (acc := []) (X := [.lst []]) (k := 0) (t := none) h rfl (by simpa using hl)
    rw [List.nil_append] at hX'
    have hr : (M ++ X')[M.length + k']? = some (.lst (nI its.cl)) := by rw [get_app]; exact hX'
    rw [run_rt (fn := f1) (σ0 := [some (.d (.tuple its.Ds)), none, none]) (v := .d (.list (nI its.cl))) (M1 := M ++ X'.set k' .dead) rfl rfl ?_]
    · show outV M.length true _ _ = _
      rw [out_d, take_app]
    show evSs Gc _ (.cons (.set 1 (.new (.lst .nil))) (.cons (.forr (.nm 2) (.ov (.var 0)) in1) (.cons (.frz 1) (.cons (.ret (.var 1)) .nil)))) _ M = _
    generalize in1 = IN at *
    have e' : forL (.nm 2) (evSs Gc (callAt Gc tx.T j) IN) its.Ds [some (.d (.tuple its.Ds)), some (.ref M.length), none] (M ++ [.lst []]) = .ok (.nx [some (.d (.tuple its.Ds)), some (.ref (M.length + k')), t']) (M ++ X') := e
    simp [e', hr, set_app]
  intro n
  induction n with
  | zero => exact fun m its M h hl => go m 0 its M h hl fun its M h => absurd h (Nat.not_lt_zero _)
  | succ n ih => exact fun m its M h hl => go (m + n + 1) (n + 1) its M h hl fun its M h hl => ih m its M (by omega) hl
end Mp.k06
end
section
set_option maxHeartbeats 4000000
namespace Mp.k06
open PySem PySem.Spec PyProof.Rows L2 Mp

theorem x_ext {M : Mem} {i : Nat} {xs ys : List D} (h : M[i]? = some (.lst xs)) : mtV .extend M (.ref i) [.d (.list ys)] = if xs.length + ys.length ≤ lim then some (.d .none, M.set i (.lst (xs ++ ys))) else none := by
  by_cases hl : xs.length + ys.length ≤ lim <;> simp [mtV, onL, h, v1, vD, dList, oB, hl]
def cT (cs : List (D × Tm × Tm)) : List Tm := cs.flatMap fun c => [c.2.1, c.2.2]
theorem cT_len : ∀ cs : List (D × Tm × Tm), (cT cs).length = 2 * cs.length
  | [] => rfl
  | c :: cs => by
    have := cT_len cs
    unfold cT at *
    rw [List.flatMap_cons, List.length_append, this, List.length_cons]
    simp only [List.length_cons, List.length_nil]
    omega
def tms (ts : List Tm) : List D := ts.map tmD
theorem tms_app (a b : List Tm) : tms (a ++ b) = tms a ++ tms b := List.map_append
theorem tms_len (a : List Tm) : (tms a).length = a.length := List.length_map _
def in4 : MSs := bodyOf (nthS b4 1)
def cn4 : MSs := .cons (.set 1 (.new (.bin .add (.var 1) (.lst (.cons (.var 4) (.cons (.var 5) .nil)))))) .nil
def w4 : MSs := .cons (.forr (.tup3 (.nm 3) (.nm 4) (.nm 5)) (.ov (.idx (.var 2) (.con (.int 1)))) cn4) (.cons (.set 1 (.new (.bin .add (.bin .add (.var 1) (.call 4 (.cons (.idx (.var 2) (.con (.int 2))) .nil))) (.call 4 (.cons (.idx (.var 2) (.con (.int 3))) .nil))))) .nil)
theorem in4_is : in4 = .cons (.iff (.cmp .eq (.idx (.var 2) (.con (.int 0))) (.con (.str ("show" : Str)))) (.cons (.exp (.mt .append (.var 1) (.cons (.idx (.var 2) (.con (.int 1))) .nil))) .nil) (.cons (.iff (.cmp .eq (.idx (.var 2) (.con (.int 0))) (.con (.str ("when" : Str)))) w4 .nil) .nil)) .nil := rfl
def in19 : MSs := bodyOf (nthS b19 1)
def cn19 : MSs := .cons (.exp (.mt .extend (.var 1) (.cons (.lst (.cons (.var 4) (.cons (.var 5) .nil))) .nil))) .nil
def w19 : MSs := .cons (.forr (.tup3 (.nm 3) (.nm 4) (.nm 5)) (.ov (.idx (.var 2) (.con (.int 1)))) cn19) (.cons (.set 1 (.new (.bin .add (.bin .add (.var 1) (.call 19 (.cons (.idx (.var 2) (.con (.int 2))) .nil))) (.call 19 (.cons (.idx (.var 2) (.con (.int 3))) .nil))))) .nil)
theorem in19_is : in19 = .cons (.iff (.cmp .eq (.idx (.var 2) (.con (.int 0))) (.con (.str ("show" : Str)))) (.cons (.exp (.mt .append (.var 1) (.cons (.idx (.var 2) (.con (.int 1))) .nil))) .nil) .nil) (.cons (.iff (.cmp .eq (.idx (.var 2) (.con (.int 0))) (.con (.str ("when" : Str)))) w19 .nil) .nil) := rfl
section
variable {C : CT} {n : Nat} {b it : Option Val} {M0 : Mem}
theorem conds4 : ∀ {cs : List (D × Tm × Tm)} {acc : List Tm} {X : Mem} {k : Nat} {s3 s4 s5 : Option Val}, X[k]? = some (.lst (tms acc)) → acc.length + 2 * cs.length ≤ lim →
    ∃ X' k' t3 t4 t5, forL (.tup3 (.nm 3) (.nm 4) (.nm 5)) (evSs Gc C cn4) (cs.map cndD) [b, some (.ref (M0.length + k)), it, s3, s4, s5] (M0 ++ X) = .ok (.nx [b, some (.ref (M0.length + k')), it, t3, t4, t5]) (M0 ++ X') ∧ X'[k']? = some (.lst (tms (acc ++ cT cs)))
  | [], acc, X, k, s3, s4, s5, hX, _ => ⟨X, k, s3, s4, s5, rfl, by simpa [cT] using hX⟩
  | (s, x, y) :: cs, acc, X, k, s3, s4, s5, hX, hl => by
    rw [List.length_cons] at hl
    have hr : (M0 ++ X)[M0.length + k]? = some (.lst (tms acc)) := by rw [get_app]; exact hX
    have h2 : 2 ≤ lim := by omega
    have h3 : acc.length + 2 ≤ lim := by omega
    have e1 : evSs Gc C cn4 [b, some (.ref (M0.length + k)), it, some (.d s), some (.d (tmD x)), some (.d (tmD y))] (M0 ++ X) = .ok (.nx [b, some (.ref (M0.length + X.length)), it, some (.d s), some (.d (tmD x)), some (.d (tmD y))]) (M0 ++ (X ++ [.lst (tms (acc ++ [x, y]))])) := by
      simp [cn4, x_rdr hr, h2, h3, tms_len, tms_app, show tms [x, y] = [tmD x, tmD y] from rfl]
    obtain ⟨X', k', t3, t4, t5, e, hX'⟩ := conds4 (cs := cs) (acc := acc ++ [x, y]) (X := X ++ [.lst (tms (acc ++ [x, y]))]) (k := X.length) (s3 := some (.d s)) (s4 := some (.d (tmD x))) (s5 := some (.d (tmD y))) (by simp) (by simp only [List.length_append, List.length_cons, List.length_nil]; omega)
    refine ⟨X', k', t3, t4, t5, ?_, by rw [List.append_assoc] at hX'; exact hX'⟩
    rw [List.map_cons, forL_cons (σ1 := [b, some (.ref (M0.length + k)), it, some (.d s), some (.d (tmD x)), some (.d (tmD y))]) rfl e1]
    exact e
theorem conds19 : ∀ {cs : List (D × Tm × Tm)} {acc : List Tm} {X : Mem} {k : Nat} {s3 s4 s5 : Option Val}, X[k]? = some (.lst (tms acc)) → acc.length + 2 * cs.length ≤ lim →
    ∃ X' t3 t4 t5, forL (.tup3 (.nm 3) (.nm 4) (.nm 5)) (evSs Gc C cn19) (cs.map cndD) [b, some (.ref (M0.length + k)), it, s3, s4, s5] (M0 ++ X) = .ok (.nx [b, some (.ref (M0.length + k)), it, t3, t4, t5]) (M0 ++ X') ∧ X'[k]? = some (.lst (tms (acc ++ cT cs)))
  | [], acc, X, k, s3, s4, s5, hX, _ => ⟨X, s3, s4, s5, rfl, by simpa [cT] using hX⟩
  | (s, x, y) :: cs, acc, X, k, s3, s4, s5, hX, hl => by
    rw [List.length_cons] at hl
    have hk0 := (List.getElem?_eq_some_iff.mp hX).1
    have hr : (M0 ++ X)[M0.length + k]? = some (.lst (tms acc)) := by rw [get_app]; exact hX
    have h2 : 2 ≤ lim := by omega
    have h3 : acc.length + 2 ≤ lim := by omega
    have hk := x_kind (m := .extend) (fun h => by cases h) (fun h => by cases h) hr
    have ha := x_ext (ys := [tmD x, tmD y]) hr
    rw [tms_len, if_pos (by simp only [List.length_cons, List.length_nil]; omega), set_app] at ha
    have e0 : tms acc ++ [tmD x, tmD y] = tms (acc ++ [x, y]) := by rw [tms_app]; rfl
    rw [e0] at ha
    have e1 : evSs Gc C cn19 [b, some (.ref (M0.length + k)), it, some (.d s), some (.d (tmD x)), some (.d (tmD y))] (M0 ++ X) = .ok (.nx [b, some (.ref (M0.length + k)), it, some (.d s), some (.d (tmD x)), some (.d (tmD y))]) (M0 ++ X.set k (.lst (tms (acc ++ [x, y])))) := by
      simp [cn19, hk, ha, h2]
    obtain ⟨X', t3, t4, t5, e, hX'⟩ := conds19 (cs := cs) (acc := acc ++ [x, y]) (X := X.set k (.lst (tms (acc ++ [x, y])))) (k := k) (s3 := some (.d s)) (s4 := some (.d (tmD x))) (s5 := some (.d (tmD y))) (by simp [hk0]) (by simp only [List.length_append, List.length_cons, List.length_nil]; omega)
    refine ⟨X', t3, t4, t5, ?_, by rw [List.append_assoc] at hX'; exact hX'⟩
    rw [List.map_cons, forL_cons (σ1 := [b, some (.ref (M0.length + k)), it, some (.d s), some (.d (tmD x)), some (.d (tmD y))]) rfl e1]
    exact e
def HT4 (C : CT) (j n : Nat) : Prop := ∀ (its : Its) (M : Mem), its.dp < n → its.cw 3 → its.nn ≤ 1000 → C j [.d (.tuple its.Ds)] M = .ok (.d (.list (tms its.tm))) M
theorem step4 (hC : HT4 C 4 n) {i : It} {acc : List Tm} {X : Mem} {k : Nat} {s3 s4 s5 : Option Val} (h : i.dp ≤ n) (hw : i.cw 3) (hX : X[k]? = some (.lst (tms acc))) (hl : acc.length + 7 * i.nn ≤ 7000) :
    ∃ X' k' t3 t4 t5, evSs Gc C in4 [b, some (.ref (M0.length + k)), some (.d i.D), s3, s4, s5] (M0 ++ X) = .ok (.nx [b, some (.ref (M0.length + k')), some (.d i.D), t3, t4, t5]) (M0 ++ X') ∧ X'[k']? = some (.lst (tms (acc ++ i.tm))) := by
  have hk0 := (List.getElem?_eq_some_iff.mp hX).1
  have hr : (M0 ++ X)[M0.length + k]? = some (.lst (tms acc)) := by rw [get_app]; exact hX
  cases i with
  | say w => exact ⟨X, k, s3, s4, s5, by simp [in4_is, It.D, q_say1, q_say2, atI0], by simp [It.tm, hX]⟩
  | call j => exact ⟨X, k, s3, s4, s5, by simp [in4_is, It.D, q_call1, q_call2, atI0], by simp [It.tm, hX]⟩
  | shw t =>
    have hl' : acc.length < lim := by have : acc.length + 7 * 1 ≤ 7000 := hl; unfold lim; omega
    have hk := x_kind (m := .append) (fun h => by cases h) (fun h => by cases h) hr
    have ha := x_app (x := tmD t) hr
    rw [tms_len, if_pos hl', set_app] at ha
    refine ⟨X.set k (.lst (tms acc ++ [tmD t])), k, s3, s4, s5, by simp [in4_is, It.D, q_show1, atI0, at1, hk, ha], ?_⟩
    rw [List.getElem?_set_self hk0]
    simp [It.tm, tms]
  | when cs x y =>
    have hd : max x.dp y.dp + 1 ≤ n := h
    have hn : acc.length + 7 * (1 + (x.nn + y.nn)) ≤ 7000 := hl
    obtain ⟨w0, w1, w2⟩ := hw
    have c1 := Its.tm_len (k := 3) x w1
    have c2 := Its.tm_len (k := 3) y w2
    obtain ⟨X1, k1, t3, t4, t5, e1, hX1⟩ := conds4 (C := C) (b := b) (it := some (.d (It.when cs x y).D)) (M0 := M0) (cs := cs) (s3 := s3) (s4 := s4) (s5 := s5) hX (by unfold lim; omega)
    have hc := cT_len cs
    have h1 := hC x (M0 ++ X1) (by omega) w1 (by omega)
    have h2 := hC y (M0 ++ X1) (by omega) w2 (by omega)
    have hr1 : (M0 ++ X1)[M0.length + k1]? = some (.lst (tms (acc ++ cT cs))) := by rw [get_app]; exact hX1
    have b1 : (acc ++ cT cs).length + x.tm.length ≤ lim := by rw [List.length_append]; unfold lim; omega
    have b2 : (acc ++ cT cs).length + x.tm.length + y.tm.length ≤ lim := by rw [List.length_append]; unfold lim; omega
    have e2 : evS Gc C (.forr (.tup3 (.nm 3) (.nm 4) (.nm 5)) (.ov (.idx (.var 2) (.con (.int 1)))) cn4) [b, some (.ref (M0.length + k)), some (.d (It.when cs x y).D), s3, s4, s5] (M0 ++ X) = .ok (.nx [b, some (.ref (M0.length + k1)), some (.d (It.when cs x y).D), t3, t4, t5]) (M0 ++ X1) := by
      rw [x_forr, ← e1]
      simp [It.D, at1]
    have e3 : evS Gc C (.set 1 (.new (.bin .add (.bin .add (.var 1) (.call 4 (.cons (.idx (.var 2) (.con (.int 2))) .nil))) (.call 4 (.cons (.idx (.var 2) (.con (.int 3))) .nil))))) [b, some (.ref (M0.length + k1)), some (.d (It.when cs x y).D), t3, t4, t5] (M0 ++ X1) =
        .ok (.nx [b, some (.ref (M0.length + X1.length)), some (.d (It.when cs x y).D), t3, t4, t5]) (M0 ++ (X1 ++ [.lst (tms (acc ++ cT cs) ++ tms x.tm ++ tms y.tm)])) := by
      generalize acc ++ cT cs = F at *
      have b3 : F.length + (x.tm.length + y.tm.length) ≤ lim := by omega
      simp [It.D, at2, at3, x_rdr hr1, h1, h2, tms_len, b1, b2, b3]
    refine ⟨X1 ++ [.lst (tms (acc ++ cT cs) ++ tms x.tm ++ tms y.tm)], X1.length, t3, t4, t5, ?_, ?_⟩
    · have e4 : evSs Gc C w4 [b, some (.ref (M0.length + k)), some (.d (It.when cs x y).D), s3, s4, s5] (M0 ++ X) = .ok (.nx [b, some (.ref (M0.length + X1.length)), some (.d (It.when cs x y).D), t3, t4, t5]) (M0 ++ (X1 ++ [.lst (tms (acc ++ cT cs) ++ tms x.tm ++ tms y.tm)])) := by unfold w4; rw [sqn e2, sqn e3, x_snil]
      rw [in4_is]
      generalize w4 = W at *
      have hD : (It.when cs x y).D = .tuple [.str ("when" : Str), .tuple (cs.map cndD), .tuple x.Ds, .tuple y.Ds] := rfl
      rw [hD] at e4 ⊢
      simp [q_when1, q_when2, atI0, e4]
    · have : acc ++ (It.when cs x y).tm = acc ++ cT cs ++ x.tm ++ y.tm := by
        show acc ++ (cT cs ++ x.tm ++ y.tm) = _
        simp
      rw [this]
      simp [tms_app]
theorem loop4 (hC : HT4 C 4 n) : ∀ {its : Its} {acc : List Tm} {X : Mem} {k : Nat} {s2 s3 s4 s5 : Option Val}, its.dp ≤ n → its.cw 3 → X[k]? = some (.lst (tms acc)) → acc.length + 7 * its.nn ≤ 7000 →
    ∃ X' k' t2 t3 t4 t5, forL (.nm 2) (evSs Gc C in4) its.Ds [b, some (.ref (M0.length + k)), s2, s3, s4, s5] (M0 ++ X) = .ok (.nx [b, some (.ref (M0.length + k')), t2, t3, t4, t5]) (M0 ++ X') ∧ X'[k']? = some (.lst (tms (acc ++ its.tm)))
  | .nil, acc, X, k, s2, s3, s4, s5, _, _, hX, _ => ⟨X, k, s2, s3, s4, s5, rfl, by simp [Its.tm, hX]⟩
  | .cons i r, acc, X, k, s2, s3, s4, s5, h, hw, hX, hl => by
    have hd : max i.dp r.dp ≤ n := h
    have hn : acc.length + 7 * (i.nn + r.nn) ≤ 7000 := hl
    have c1 := It.tm_len (k := 3) i hw.1
    obtain ⟨X1, k1, t3, t4, t5, e1, hX1⟩ := step4 (b := b) (M0 := M0) (s3 := s3) (s4 := s4) (s5 := s5) hC (i := i) (by omega) hw.1 hX (by omega)
    obtain ⟨X', k', u2, u3, u4, u5, e, hX'⟩ := loop4 hC (its := r) (s2 := some (.d i.D)) (s3 := t3) (s4 := t4) (s5 := t5) (by omega) hw.2 hX1 (by rw [List.length_append]; omega)
    refine ⟨X', k', u2, u3, u4, u5, ?_, by rw [List.append_assoc] at hX'; exact hX'⟩
    show forL _ _ (i.D :: r.Ds) _ _ = _
    rw [forL_cons (σ1 := [b, some (.ref (M0.length + k)), some (.d i.D), s3, s4, s5]) rfl e1, e]
theorem step19 (hC : HT4 C 19 n) {i : It} {acc : List Tm} {X : Mem} {k : Nat} {s3 s4 s5 : Option Val} (h : i.dp ≤ n) (hw : i.cw 3) (hX : X[k]? = some (.lst (tms acc))) (hl : acc.length + 7 * i.nn ≤ 7000) :
    ∃ X' k' t3 t4 t5, evSs Gc C in19 [b, some (.ref (M0.length + k)), some (.d i.D), s3, s4, s5] (M0 ++ X) = .ok (.nx [b, some (.ref (M0.length + k')), some (.d i.D), t3, t4, t5]) (M0 ++ X') ∧ X'[k']? = some (.lst (tms (acc ++ i.tm))) := by
  have hk0 := (List.getElem?_eq_some_iff.mp hX).1
  have hr : (M0 ++ X)[M0.length + k]? = some (.lst (tms acc)) := by rw [get_app]; exact hX
  cases i with
  | say w => exact ⟨X, k, s3, s4, s5, by simp [in19_is, It.D, q_say1, q_say2, atI0], by simp [It.tm, hX]⟩
  | call j => exact ⟨X, k, s3, s4, s5, by simp [in19_is, It.D, q_call1, q_call2, atI0], by simp [It.tm, hX]⟩
  | shw t =>
    have hl' : acc.length < lim := by have : acc.length + 7 * 1 ≤ 7000 := hl; unfold lim; omega
    have hk := x_kind (m := .append) (fun h => by cases h) (fun h => by cases h) hr
    have ha := x_app (x := tmD t) hr
    rw [tms_len, if_pos hl', set_app] at ha
    refine ⟨X.set k (.lst (tms acc ++ [tmD t])), k, s3, s4, s5, by simp [in19_is, It.D, q_show1, q_show2, atI0, at1, hk, ha], ?_⟩
    rw [List.getElem?_set_self hk0]
    simp [It.tm, tms]
  | when cs x y =>
    have hd : max x.dp y.dp + 1 ≤ n := h
    have hn : acc.length + 7 * (1 + (x.nn + y.nn)) ≤ 7000 := hl
    obtain ⟨w0, w1, w2⟩ := hw
    have c1 := Its.tm_len (k := 3) x w1
    have c2 := Its.tm_len (k := 3) y w2
    obtain ⟨X1, t3, t4, t5, e1, hX1⟩ := conds19 (C := C) (b := b) (it := some (.d (It.when cs x y).D)) (M0 := M0) (cs := cs) (s3 := s3) (s4 := s4) (s5 := s5) hX (by unfold lim; omega)
    have hc := cT_len cs
    have h1 := hC x (M0 ++ X1) (by omega) w1 (by omega)
    have h2 := hC y (M0 ++ X1) (by omega) w2 (by omega)
    have hr1 : (M0 ++ X1)[M0.length + k]? = some (.lst (tms (acc ++ cT cs))) := by rw [get_app]; exact hX1
    have b1 : (acc ++ cT cs).length + x.tm.length ≤ lim := by rw [List.length_append]; unfold lim; omega
    have b2 : (acc ++ cT cs).length + x.tm.length + y.tm.length ≤ lim := by rw [List.length_append]; unfold lim; omega
    have e2 : evS Gc C (.forr (.tup3 (.nm 3) (.nm 4) (.nm 5)) (.ov (.idx (.var 2) (.con (.int 1)))) cn19) [b, some (.ref (M0.length + k)), some (.d (It.when cs x y).D), s3, s4, s5] (M0 ++ X) = .ok (.nx [b, some (.ref (M0.length + k)), some (.d (It.when cs x y).D), t3, t4, t5]) (M0 ++ X1) := by
      rw [x_forr, ← e1]
      simp [It.D, at1]
    have e3 : evS Gc C (.set 1 (.new (.bin .add (.bin .add (.var 1) (.call 19 (.cons (.idx (.var 2) (.con (.int 2))) .nil))) (.call 19 (.cons (.idx (.var 2) (.con (.int 3))) .nil))))) [b, some (.ref (M0.length + k)), some (.d (It.when cs x y).D), t3, t4, t5] (M0 ++ X1) =
        .ok (.nx [b, some (.ref (M0.length + X1.length)), some (.d (It.when cs x y).D), t3, t4, t5]) (M0 ++ (X1 ++ [.lst (tms (acc ++ cT cs) ++ tms x.tm ++ tms y.tm)])) := by
      generalize acc ++ cT cs = F at *
      have b3 : F.length + (x.tm.length + y.tm.length) ≤ lim := by omega
      simp [It.D, at2, at3, x_rdr hr1, h1, h2, tms_len, b1, b2, b3]
    refine ⟨X1 ++ [.lst (tms (acc ++ cT cs) ++ tms x.tm ++ tms y.tm)], X1.length, t3, t4, t5, ?_, ?_⟩
    · have e4 : evSs Gc C w19 [b, some (.ref (M0.length + k)), some (.d (It.when cs x y).D), s3, s4, s5] (M0 ++ X) = .ok (.nx [b, some (.ref (M0.length + X1.length)), some (.d (It.when cs x y).D), t3, t4, t5]) (M0 ++ (X1 ++ [.lst (tms (acc ++ cT cs) ++ tms x.tm ++ tms y.tm)])) := by unfold w19; rw [sqn e2, sqn e3, x_snil]
      rw [in19_is]
      generalize w19 = W at *
      have hD : (It.when cs x y).D = .tuple [.str ("when" : Str), .tuple (cs.map cndD), .tuple x.Ds, .tuple y.Ds] := rfl
      rw [hD] at e4 ⊢
      simp [q_when1, q_when2, atI0, e4]
    · have : acc ++ (It.when cs x y).tm = acc ++ cT cs ++ x.tm ++ y.tm := by
        show acc ++ (cT cs ++ x.tm ++ y.tm) = _
        simp
      rw [this]
      simp [tms_app]
theorem loop19 (hC : HT4 C 19 n) : ∀ {its : Its} {acc : List Tm} {X : Mem} {k : Nat} {s2 s3 s4 s5 : Option Val}, its.dp ≤ n → its.cw 3 → X[k]? = some (.lst (tms acc)) → acc.length + 7 * its.nn ≤ 7000 →
    ∃ X' k' t2 t3 t4 t5, forL (.nm 2) (evSs Gc C in19) its.Ds [b, some (.ref (M0.length + k)), s2, s3, s4, s5] (M0 ++ X) = .ok (.nx [b, some (.ref (M0.length + k')), t2, t3, t4, t5]) (M0 ++ X') ∧ X'[k']? = some (.lst (tms (acc ++ its.tm)))
  | .nil, acc, X, k, s2, s3, s4, s5, _, _, hX, _ => ⟨X, k, s2, s3, s4, s5, rfl, by simp [Its.tm, hX]⟩
  | .cons i r, acc, X, k, s2, s3, s4, s5, h, hw, hX, hl => by
    have hd : max i.dp r.dp ≤ n := h
    have hn : acc.length + 7 * (i.nn + r.nn) ≤ 7000 := hl
    have c1 := It.tm_len (k := 3) i hw.1
    obtain ⟨X1, k1, t3, t4, t5, e1, hX1⟩ := step19 (b := b) (M0 := M0) (s3 := s3) (s4 := s4) (s5 := s5) hC (i := i) (by omega) hw.1 hX (by omega)
    obtain ⟨X', k', u2, u3, u4, u5, e, hX'⟩ := loop19 hC (its := r) (s2 := some (.d i.D)) (s3 := t3) (s4 := t4) (s5 := t5) (by omega) hw.2 hX1 (by rw [List.length_append]; omega)
    refine ⟨X', k', u2, u3, u4, u5, ?_, by rw [List.append_assoc] at hX'; exact hX'⟩
    show forL _ _ (i.D :: r.Ds) _ _ = _
    rw [forL_cons (σ1 := [b, some (.ref (M0.length + k)), some (.d i.D), s3, s4, s5]) rfl e1, e]
end
theorem t4 : ∀ (n m : Nat) (its : Its) (M : Mem), its.dp ≤ n → its.cw 3 → its.nn ≤ 1000 → callAt Gc tx.T (m + n + 1) 4 [.d (.tuple its.Ds)] M = .ok (.d (.list (tms its.tm))) M := by
  have go : ∀ (j n : Nat) (its : Its) (M : Mem), its.dp ≤ n → its.cw 3 → its.nn ≤ 1000 → HT4 (callAt Gc tx.T j) 4 n → callAt Gc tx.T (j + 1) 4 [.d (.tuple its.Ds)] M = .ok (.d (.list (tms its.tm))) M := by
    intro j n its M h hw hl hC
    rw [call_is (f := f4) rfl]
    obtain ⟨X', k', t2, t3, t4, t5, e, hX'⟩ := loop4 (b := some (.d (.tuple its.Ds))) (M0 := M) hC (its := its) (acc := []) (X := [.lst []]) (k := 0) (s2 := none) (s3 := none) (s4 := none) (s5 := none) h hw rfl (by simp; omega)
    rw [List.nil_append] at hX'
    have hr : (M ++ X')[M.length + k']? = some (.lst (tms its.tm)) := by rw [get_app]; exact hX'
    rw [run_rt (fn := f4) (σ0 := [some (.d (.tuple its.Ds)), none, none, none, none, none]) (v := .d (.list (tms its.tm))) (M1 := M ++ X'.set k' .dead) rfl rfl ?_]
    · show outV M.length true _ _ = _
      rw [out_d, take_app]
    show evSs Gc _ (.cons (.set 1 (.new (.lst .nil))) (.cons (.forr (.nm 2) (.ov (.var 0)) in4) (.cons (.frz 1) (.cons (.ret (.var 1)) .nil)))) _ M = _
    generalize in4 = IN at *
    have e' : forL (.nm 2) (evSs Gc (callAt Gc tx.T j) IN) its.Ds [some (.d (.tuple its.Ds)), some (.ref M.length), none, none, none, none] (M ++ [.lst []]) = .ok (.nx [some (.d (.tuple its.Ds)), some (.ref (M.length + k')), t2, t3, t4, t5]) (M ++ X') := e
    simp [e', hr, set_app]
  intro n
  induction n with
  | zero => exact fun m its M h hw hl => go m 0 its M h hw hl fun its M h => absurd h (Nat.not_lt_zero _)
  | succ n ih => exact fun m its M h hw hl => go (m + n + 1) (n + 1) its M h hw hl fun its M h hw hl => ih m its M (by omega) hw hl
theorem t19 : ∀ (n m : Nat) (its : Its) (M : Mem), its.dp ≤ n → its.cw 3 → its.nn ≤ 1000 → callAt Gc tx.T (m + n + 1) 19 [.d (.tuple its.Ds)] M = .ok (.d (.list (tms its.tm))) M := by
  have go : ∀ (j n : Nat) (its : Its) (M : Mem), its.dp ≤ n → its.cw 3 → its.nn ≤ 1000 → HT4 (callAt Gc tx.T j) 19 n → callAt Gc tx.T (j + 1) 19 [.d (.tuple its.Ds)] M = .ok (.d (.list (tms its.tm))) M := by
    intro j n its M h hw hl hC
    rw [call_is (f := f19) rfl]
    obtain ⟨X', k', t2, t3, t4, t5, e, hX'⟩ := loop19 (b := some (.d (.tuple its.Ds))) (M0 := M) hC (its := its) (acc := []) (X := [.lst []]) (k := 0) (s2 := none) (s3 := none) (s4 := none) (s5 := none) h hw rfl (by simp; omega)
    rw [List.nil_append] at hX'
    have hr : (M ++ X')[M.length + k']? = some (.lst (tms its.tm)) := by rw [get_app]; exact hX'
    rw [run_rt (fn := f19) (σ0 := [some (.d (.tuple its.Ds)), none, none, none, none, none]) (v := .d (.list (tms its.tm))) (M1 := M ++ X'.set k' .dead) rfl rfl ?_]
    · show outV M.length true _ _ = _
      rw [out_d, take_app]
    show evSs Gc _ (.cons (.set 1 (.new (.lst .nil))) (.cons (.forr (.nm 2) (.ov (.var 0)) in19) (.cons (.frz 1) (.cons (.ret (.var 1)) .nil)))) _ M = _
    generalize in19 = IN at *
    have e' : forL (.nm 2) (evSs Gc (callAt Gc tx.T j) IN) its.Ds [some (.d (.tuple its.Ds)), some (.ref M.length), none, none, none, none] (M ++ [.lst []]) = .ok (.nx [some (.d (.tuple its.Ds)), some (.ref (M.length + k')), t2, t3, t4, t5]) (M ++ X') := e
    simp [e', hr, set_app]
  intro n
  induction n with
  | zero => exact fun m its M h hw hl => go m 0 its M h hw hl fun its M h => absurd h (Nat.not_lt_zero _)
  | succ n ih => exact fun m its M h hw hl => go (m + n + 1) (n + 1) its M h hw hl fun its M h hw hl => ih m its M (by omega) hw hl
end Mp.k06
end
section
set_option maxHeartbeats 4000000
namespace Mp.k06
open PySem PySem.Spec PyProof.Rows L2 Mp

/-! ### programs -/
abbrev Ask := Mp.D × Its
def askD (a : Ask) : Mp.D := .tuple [a.1, .tuple a.2.Ds]
def prD (h : Mp.D) (asks : List Ask) : Mp.D := .tuple [h, .tuple (asks.map askD)]
structure Wf (asks : List Ask) : Prop where
  len : asks.length ≤ 10
  dp : ∀ a ∈ asks, a.2.dp ≤ 4
  cw : ∀ a ∈ asks, a.2.cw 3
  nn : ∀ a ∈ asks, a.2.nn ≤ 12
  cl : ∀ a ∈ asks, ∀ k ∈ a.2.cl, k < asks.length
  rk : ∃ r : Nat → Nat, (∀ i, r i ≤ 2) ∧ ∀ (i : Nat) (a : Ask), asks[i]? = some a → ∀ k ∈ a.2.cl, r k < r i
theorem pr1 (h : Mp.D) (asks : List Ask) (M : Mem) : idxV M (.d (prD h asks)) (.d (.int 1)) = some (.d (.tuple (asks.map askD))) := rfl
theorem ask_at {asks : List Ask} {i : Nat} {a : Ask} (h : asks[i]? = some a) : L2.atI (asks.map askD) ((i : Nat) : Int) = some (.tuple [a.1, .tuple a.2.Ds]) := L2.atI_nat (by rw [List.getElem?_map, h]; rfl)
def cons (ts : List Tm) : List Int := ts.filterMap fun t => match t with | .inl x => some x | .inr _ => none
theorem cons_len (ts : List Tm) : (cons ts).length ≤ ts.length := List.length_filterMap_le _ _
theorem cons_app (a b : List Tm) : cons (a ++ b) = cons a ++ cons b := by simp [cons]
def allC (asks : List Ask) : List Int := asks.flatMap fun a => cons a.2.tm
def in5 : MSs := .cons (.iff (.cmp .eq (.idx (.var 4) (.con (.int 0))) (.con (.str ("c" : Str)))) (.cons (.setI (.var 2) (.idx (.var 4) (.con (.int 1))) (.con (.bool true))) .nil) .nil) .nil
def out5 : MSs := .cons (.forr (.nm 4) (.ov (.call 4 (.cons (.idx (.idx (.idx (.var 0) (.con (.int 1))) (.var 3)) (.con (.int 1))) .nil))) in5) .nil
theorem b5_is : b5 = .cons (.set 2 (.dnw false)) (.cons (.forr (.nm 3) (.ov (.var 1)) out5) (.cons (.ret (.bi .tuple (.cons (.bi .sorted (.cons (.var 2) .nil)) .nil))) .nil)) := rfl
theorem loop5 {C : CT} {M : Mem} {p l ask : Val} : ∀ {ts : List Tm} {acc : List Int} {s4 : Option Val}, acc.length + ts.length < lim → ∃ t4, forL (.nm 4) (evSs Gc C in5) (tms ts) [some p, some l, some (.ref M.length), some ask, s4] (M ++ [.dK (dkI acc)]) =
    .ok (.nx [some p, some l, some (.ref M.length), some ask, t4]) (M ++ [.dK (dkI ((cons ts).foldl ins acc))])
  | [], acc, s4, _ => ⟨s4, rfl⟩
  | t :: ts, acc, s4, hl => by
    rw [List.length_cons] at hl
    show ∃ t4, forL (.nm 4) _ (tmD t :: tms ts) _ _ = _
    cases t with
    | inl x =>
      have hi : (ins acc x).length ≤ acc.length + 1 := by unfold ins; split <;> simp
      obtain ⟨t4, e⟩ := loop5 (C := C) (M := M) (p := p) (l := l) (ask := ask) (ts := ts) (acc := ins acc x) (s4 := some (.d (tmD (.inl x)))) (by omega)
      refine ⟨t4, ?_⟩
      have hs := x_setk (x := x) (get_end M (.dK (dkI acc))) (by omega)
      rw [set_end] at hs
      have e1 : evSs Gc C in5 [some p, some l, some (.ref M.length), some ask, some (.d (tmD (.inl x)))] (M ++ [.dK (dkI acc)]) = .ok (.nx [some p, some l, some (.ref M.length), some ask, some (.d (tmD (.inl x)))]) (M ++ [.dK (dkI (ins acc x))]) := by
        simp [in5, tmD, atI0, at1, q_cc, hs]
      rw [forL_cons (σ1 := [some p, some l, some (.ref M.length), some ask, some (.d (tmD (.inl x)))]) rfl e1, e]
      rfl
    | inr ab =>
      obtain ⟨a, b⟩ := ab
      obtain ⟨t4, e⟩ := loop5 (C := C) (M := M) (p := p) (l := l) (ask := ask) (ts := ts) (acc := acc) (s4 := some (.d (tmD (.inr (a, b))))) (by omega)
      refine ⟨t4, ?_⟩
      have e1 : evSs Gc C in5 [some p, some l, some (.ref M.length), some ask, some (.d (tmD (.inr (a, b))))] (M ++ [.dK (dkI acc)]) = .ok (.nx [some p, some l, some (.ref M.length), some ask, some (.d (tmD (.inr (a, b))))]) (M ++ [.dK (dkI acc)]) := by
        simp [in5, tmD, atI0, q_fc]
      rw [forL_cons (σ1 := [some p, some l, some (.ref M.length), some ask, some (.d (tmD (.inr (a, b))))]) rfl e1, e]
      rfl
theorem t5 (m : Nat) {h : Mp.D} {asks : List Ask} (M : Mem) (w : Wf asks) : callAt Gc tx.T (m + 6) 5 [.d (prD h asks), .d (.list ((rI asks.length).map .int))] M = .ok (.d (iT (sI (dd (allC asks))))) M := by
  rw [show m + 6 = (m + 5) + 1 by omega, call_is (f := f5) rfl]
  let C := callAt Gc tx.T (m + 5)
  have hlen0 := w.len
  obtain ⟨σ', M', e, acc, s3, s4, rfl, rfl, hacc, hlen⟩ := forL_go (tg := .nm 3) (b := evSs Gc C out5) (xs := (rI asks.length).map .int) (σ := [some (.d (prD h asks)), some (.d (.list ((rI asks.length).map .int))), some (.ref M.length), none, none]) (M := M ++ [.dK []])
    (fun i σ M' => ∃ (acc : List Int) (s3 s4 : Option Val), σ = [some (.d (prD h asks)), some (.d (.list ((rI asks.length).map .int))), some (.ref M.length), s3, s4] ∧ M' = M ++ [.dK (dkI acc)] ∧ acc = dd (allC (asks.take i)) ∧ acc.length ≤ i * 1000)
    ⟨[], none, none, rfl, rfl, rfl, Nat.le_refl _⟩ (by
      rintro i x σ M' hx ⟨acc, s3, s4, rfl, rfl, hacc, hlen⟩
      obtain ⟨hi, rfl⟩ := rI_at hx
      have hget : asks[i]? = some asks[i] := List.getElem?_eq_getElem hi
      have hm := List.getElem_mem hi
      have hnn := w.nn _ hm
      have htl := Its.tm_len (k := 3) asks[i].2 (w.cw _ hm)
      have hc0 := t4 4 m asks[i].2 (M ++ [.dK (dkI acc)]) (w.dp _ hm) (w.cw _ hm) (by omega)
      obtain ⟨t4', e1⟩ := loop5 (C := C) (M := M) (p := .d (prD h asks)) (l := .d (.list ((rI asks.length).map .int))) (ask := .d (.int (i : Nat))) (ts := asks[i].2.tm) (acc := acc) (s4 := s4) (by unfold lim; omega)
      have hat := ask_at hget
      refine ⟨[some (.d (prD h asks)), some (.d (.list ((rI asks.length).map .int))), some (.ref M.length), some (.d (.int (i : Nat))), s4], [some (.d (prD h asks)), some (.d (.list ((rI asks.length).map .int))), some (.ref M.length), some (.d (.int (i : Nat))), t4'], M ++ [.dK (dkI ((cons asks[i].2.tm).foldl ins acc))], rfl, ?_, _, _, _, rfl, rfl, ?_, ?_⟩
      · have e2 : evS Gc C (.forr (.nm 4) (.ov (.call 4 (.cons (.idx (.idx (.idx (.var 0) (.con (.int 1))) (.var 3)) (.con (.int 1))) .nil))) in5) [some (.d (prD h asks)), some (.d (.list ((rI asks.length).map .int))), some (.ref M.length), some (.d (.int (i : Nat))), s4] (M ++ [.dK (dkI acc)]) =
            .ok (.nx [some (.d (prD h asks)), some (.d (.list ((rI asks.length).map .int))), some (.ref M.length), some (.d (.int (i : Nat))), t4']) (M ++ [.dK (dkI ((cons asks[i].2.tm).foldl ins acc))]) := by
          rw [x_forr, x_ov, ← e1]
          simp only [x_call, x_cons, x_idx, x_var, x_con, x_nil, x_gete0, x_getes, x_ofS, x_bok, pr1, x_ixt, hat, at1, Option.map_some, C]
          rw [hc0]
          rfl
        unfold out5
        rw [sqn e2, x_snil]
      · rw [hacc, List.take_add_one, hget]
        unfold allC
        rw [List.flatMap_append, dd_append]
        simp
      · have := foldins_len (xs := cons asks[i].2.tm) (acc := acc)
        have := cons_len asks[i].2.tm
        omega)
  rw [List.length_map, rI_len] at hlen
  rw [List.length_map, rI_len, List.take_length] at hacc
  have hb := x_bsk (get_end M (.dK (dkI acc))) (by unfold lim; omega)
  have e1 : evS Gc C (.set 2 (.dnw false)) [some (.d (prD h asks)), some (.d (.list ((rI asks.length).map .int))), none, none, none] M = .ok (.nx [some (.d (prD h asks)), some (.d (.list ((rI asks.length).map .int))), some (.ref M.length), none, none]) (M ++ [.dK []]) := by simp
  have e2 : evS Gc C (.forr (.nm 3) (.ov (.var 1)) out5) [some (.d (prD h asks)), some (.d (.list ((rI asks.length).map .int))), some (.ref M.length), none, none] (M ++ [.dK []]) = .ok (.nx [some (.d (prD h asks)), some (.d (.list ((rI asks.length).map .int))), some (.ref M.length), s3, s4]) (M ++ [.dK (dkI acc)]) := by
    rw [x_forr, ← e]
    simp
  rw [run_rt (fn := f5) (σ0 := [some (.d (prD h asks)), some (.d (.list ((rI asks.length).map .int))), none, none, none]) (v := .d (iT (sI acc))) (M1 := M ++ [.dK (dkI acc)]) rfl rfl ?_]
  · show outV M.length true _ _ = _
    rw [out_d, take_app, hacc]
  show evSs Gc C b5 _ M = _
  rw [b5_is, sqn e1, sqn e2]
  simp [hb, iT]
theorem t6 (m : Nat) {h : Mp.D} {asks : List Ask} (M : Mem) (w : Wf asks) : callAt Gc tx.T (m + 7) 6 [.d (prD h asks)] M = .ok (.d (iT (sI (dd (allC asks))))) M := by
  have h1 := t5 m M w (h := h)
  have hr := rngOk_n (n := asks.length) (by have := w.len; unfold lim; omega)
  rw [show m + 7 = (m + 6) + 1 by omega, call_is (f := f6) rfl]
  have hp' := pr1 h asks M
  generalize prD h asks = p at *
  simp [runFn, f6, b6, hp', hr, rngD_rI, h1, outV, iT]
/-! ### rising -/
def insP (acc : List (List Int)) (x : List Int) : List (List Int) := if x ∈ acc then acc else acc ++ [x]
def ddP (xs : List (List Int)) : List (List Int) := xs.foldl insP []
theorem mem_insP {acc : List (List Int)} {x a : List Int} : a ∈ insP acc x ↔ a ∈ acc ∨ a = x := by
  unfold insP
  split
  · rename_i h
    constructor
    · exact .inl
    · rintro (h1 | rfl)
      · exact h1
      · exact h
  · simp
theorem mem_foldinsP : ∀ {xs acc : List (List Int)} {a : List Int}, a ∈ xs.foldl insP acc ↔ a ∈ acc ∨ a ∈ xs
  | [], _, _ => by simp
  | x :: xs, acc, a => by
    rw [List.foldl_cons, mem_foldinsP, mem_insP, List.mem_cons]
    constructor
    · rintro ((h | h) | h) <;> simp [h]
    · rintro (h | h | h) <;> simp [h]
theorem mem_ddP {xs : List (List Int)} {a : List Int} : a ∈ ddP xs ↔ a ∈ xs := by
  unfold ddP
  rw [mem_foldinsP]
  simp
theorem insP_nodup {acc : List (List Int)} {x : List Int} (h : acc.Nodup) : (insP acc x).Nodup := by
  unfold insP
  split
  · exact h
  · rename_i hx
    rw [List.nodup_append]
    exact ⟨h, by simp, fun a ha b hb e => hx (by rw [List.mem_singleton.mp hb] at e; rw [← e]; exact ha)⟩
theorem ddP_nodup (xs : List (List Int)) : (ddP xs).Nodup := by
  have : ∀ (xs acc : List (List Int)), acc.Nodup → (xs.foldl insP acc).Nodup := by
    intro xs
    induction xs with
    | nil => exact fun acc h => h
    | cons x xs ih => exact fun acc h => ih _ (insP_nodup h)
  exact this xs [] (by simp)
theorem ddP_len : ∀ (xs acc : List (List Int)), (xs.foldl insP acc).length ≤ acc.length + xs.length
  | [], acc => Nat.le_refl _
  | x :: xs, acc => by
    have h1 := ddP_len xs (insP acc x)
    have h2 : (insP acc x).length ≤ acc.length + 1 := by unfold insP; split <;> simp
    rw [List.foldl_cons, List.length_cons]
    omega
theorem sddP_eq {xs ys : List (List Int)} (h : ∀ a, a ∈ xs ↔ a ∈ ys) : sortP (ddP xs) = sortP (ddP ys) :=
  sortP_eq ((List.perm_ext_iff_of_nodup (ddP_nodup xs) (ddP_nodup ys)).mpr fun a => by rw [mem_ddP, mem_ddP, h])
def kvP (xs : List (List Int)) : List (NestedKey × Mp.D) := xs.map fun p => (kI p, .bool true)
theorem kvP_any (x : List Int) : ∀ xs : List (List Int), ((kvP xs).any fun z => decide (z.1 = kI x)) = decide (x ∈ xs)
  | [] => by simp [kvP]
  | a :: xs => by
    have ih := kvP_any x xs
    unfold kvP at *
    rw [List.map_cons, List.any_cons, ih]
    by_cases e : kI a = kI x
    · have := kI_inj e
      subst this
      simp
    · have hne : ¬ x = a := fun h => e (by rw [h])
      simp [e, hne]
theorem kvP_put (acc : List (List Int)) (x : List Int) : dPut (kvP acc) (kI x) (.bool true) = kvP (insP acc x) := by
  unfold dPut insP
  rw [kvP_any]
  by_cases h : x ∈ acc
  · rw [decide_eq_true h, if_pos rfl, if_pos h]
    unfold kvP
    rw [List.map_map]
    refine List.map_congr_left fun a _ => ?_
    show (if _ then _ else _) = _
    split <;> rfl
  · rw [decide_eq_false h, if_neg Bool.false_ne_true, if_neg h]
    simp [kvP]
theorem kvP_keys (xs : List (List Int)) : (kvP xs).map (fun z => z.1.data) = xs.map iT := by
  unfold kvP
  rw [List.map_map]
  exact List.map_congr_left fun p _ => kI_data p
def prP (p : List Int) : Mp.D := .tuple [iT p, .bool true]
theorem npairs_int : ∀ xs : List (List Int), npairs (xs.map prP) = some (kvP xs)
  | [] => rfl
  | x :: xs => by
    have hx : npair (prP x) = some (kI x, .bool true) := by
      show (nkT (iT x)).map (fun k => (k, PyData.bool true)) = _
      rw [nkT_iT]
      rfl
    show (match npair (prP x), npairs (xs.map prP) with | some k, some r => some (k :: r) | _, _ => none) = _
    rw [npairs_int xs, hx]
    rfl
theorem dAllT_fold : ∀ (xs acc : List (List Int)), (kvP xs).foldl (fun a kv => dPut a kv.1 kv.2) (kvP acc) = kvP (xs.foldl insP acc)
  | [], _ => rfl
  | x :: xs, acc => by
    show (kvP xs).foldl (fun a kv => dPut a kv.1 kv.2) (dPut (kvP acc) (kI x) (.bool true)) = _
    rw [kvP_put, dAllT_fold xs]
    rfl
theorem t23i (m : Nat) {xs : List Int} (M : Mem) (hl : xs.length ≤ lim) : callAt Gc tx.T (m + 1) 23 [.d (.list (xs.map .int))] M = .ok (.d (iT (sI (dd xs)))) M := by
  rw [call_is (f := f23) rfl]
  have l2 : 2 ≤ lim := by unfold lim; omega
  have e0 := lcL_map (tg := .nm 1) (own := [1]) (f := evE Gc (callAt Gc tx.T m) (.tup (.cons (.var 1) (.cons (.con (.bool true)) .nil)))) (σ := [some (.d (.list (xs.map .int))), none]) (M := M)
    (y := fun x => .tuple [x, .bool true]) (xs := xs.map .int) (fun x hx => ⟨_, rfl, by simp [wipeE, l2]⟩)
  have e0' : (xs.map PyData.int).map (fun x => PyData.tuple [x, .bool true]) = xs.map prI := by rw [List.map_map]; rfl
  rw [e0'] at e0
  have hdc := x_dcpI hl
  rw [dAll_int] at hdc
  have hb := x_bsk (get_end M (.dK (dkI (dd xs)))) (by have := dd_len xs; omega)
  rw [run_rt (fn := f23) (σ0 := [some (.d (.list (xs.map .int))), none]) (v := .d (iT (sI (dd xs)))) (M1 := M ++ [.dK (dkI (dd xs))]) rfl rfl ?_]
  · show outV M.length true _ _ = _
    rw [out_d, take_app]
  show evSs Gc _ b23 _ M = _
  simp [b23, evC] at e0 ⊢
  rw [e0]
  simp [hl, hdc, hb, iT]
theorem t23t (m : Nat) {ps : List (List Int)} (M : Mem) (hl : ps.length ≤ lim) (hne : ∀ p ∈ ps, p ≠ []) : callAt Gc tx.T (m + 1) 23 [.d (.list (ps.map iT))] M = .ok (.d (.tuple ((sortP (ddP ps)).map iT))) M := by
  cases hps : ps with
  | nil =>
    have h1 := t23i m (xs := []) M (Nat.zero_le _)
    have e1 : sI (dd []) = [] := sI_id List.Pairwise.nil
    have e2 : sortP (ddP []) = [] := sortP_id List.Pairwise.nil
    rw [e1] at h1
    rw [e2]
    exact h1
  | cons p0 ps0 =>
    rw [← hps]
    rw [call_is (f := f23) rfl]
    have l2 : 2 ≤ lim := by unfold lim; omega
    have e0 := lcL_map (tg := .nm 1) (own := [1]) (f := evE Gc (callAt Gc tx.T m) (.tup (.cons (.var 1) (.cons (.con (.bool true)) .nil)))) (σ := [some (.d (.list (ps.map iT))), none]) (M := M)
      (y := fun x => .tuple [x, .bool true]) (xs := ps.map iT) (fun x hx => ⟨_, rfl, by simp [wipeE, l2]⟩)
    have e0' : (ps.map iT).map (fun x => PyData.tuple [x, .bool true]) = ps.map prP := by rw [List.map_map]; rfl
    rw [e0'] at e0
    have hdc : dcpO [.d (.list (ps.map prP))] = some (.dT (kvP (ddP ps))) := by
      have h1 : vPairs [.d (.list (ps.map prP))] = none := by
        show (if (ps.map prP).length ≤ lim then dpairs (ps.map prP) else none) = none
        rw [List.length_map, if_pos hl, hps]
        rfl
      have h2 : vPairsT [.d (.list (ps.map prP))] = some (kvP ps) := by
        show (if (ps.map prP).length ≤ lim then npairs (ps.map prP) else none) = _
        rw [List.length_map, if_pos hl, npairs_int]
      unfold dcpO
      rw [h1, h2]
      show some (Ob.dT (dAllT (kvP ps))) = _
      unfold dAllT
      have := dAllT_fold ps []
      rw [show kvP [] = [] from rfl] at this
      rw [this]
      rfl
    have hdl : (ddP ps).length ≤ lim := by have := ddP_len ps []; rw [List.length_nil, Nat.zero_add] at this; exact Nat.le_trans this hl
    have hb := x_bsd (get_end M (.dT (kvP (ddP ps))))
    rw [kvP_keys, sortD_iT (.inl fun p hp => hne p (mem_ddP.mp hp)) hdl] at hb
    rw [run_rt (fn := f23) (σ0 := [some (.d (.list (ps.map iT))), none]) (v := .d (.tuple ((sortP (ddP ps)).map iT))) (M1 := M ++ [.dT (kvP (ddP ps))]) rfl rfl ?_]
    · show outV M.length true _ _ = _
      rw [out_d, take_app]
    show evSs Gc _ b23 _ M = _
    simp [b23, evC] at e0 ⊢
    rw [e0]
    simp [hl, hdc, hb]
/-! ### calls -/
def nZ (xs : List Nat) : List Int := xs.map fun (k : Nat) => (k : Int)
theorem nI_nZ (xs : List Nat) : nI xs = (nZ xs).map .int := by unfold nI nZ; rw [List.map_map]; rfl
theorem mem_nZ {xs : List Nat} {k : Nat} : (k : Int) ∈ nZ xs ↔ k ∈ xs := by
  unfold nZ
  rw [List.mem_map]
  constructor
  · rintro ⟨j, hj, e⟩
    have : j = k := by omega
    exact this ▸ hj
  · exact fun h => ⟨k, h, rfl⟩
theorem in_listI (x : Int) (p : List Int) : inD (.int x) (.list (p.map .int)) = some (decide (x ∈ p)) := by
  show (if (flatD (.int x) && (p.map PyData.int).all flatD) || _ then some _ else none) = _
  rw [flat_ints, any_int]
  simp [flatD]
def pIn (xs : List Int) (x : Mp.D) : Bool := match x with | .int j => decide (j ∈ xs) | _ => false
def cfr (n : Nat) (its : Its) : List Int := (rI n).filter fun i => decide (i ∈ nZ its.cl)
theorem cfr_sI {n : Nat} {its : Its} (h : ∀ k ∈ its.cl, k < n) : cfr n its = sI (dd (nZ its.cl)) := by
  have hpw : (rI n).Pairwise fun a b => a ≤ b := by
    unfold rI
    rw [List.pairwise_map]
    exact List.pairwise_lt_range.imp fun h => by omega
  have hnd : (rI n).Nodup := by
    unfold rI
    rw [List.nodup_iff_pairwise_ne, List.pairwise_map]
    exact (List.nodup_iff_pairwise_ne.mp List.nodup_range).imp fun h e => h (by omega)
  refine List.Perm.eq_of_pairwise (fun a b _ _ h1 h2 => Int.le_antisymm h1 h2) (hpw.filter _) (sI_pw _) ?_
  refine ((List.perm_ext_iff_of_nodup (hnd.filter _) (dd_nodup _)).mpr fun a => ?_).trans (sI_perm _).symm
  rw [List.mem_filter, mem_dd, decide_eq_true_eq, mem_rI]
  constructor
  · exact fun h => h.2
  · intro ha
    refine ⟨?_, ha⟩
    unfold nZ at ha
    obtain ⟨k, hk, rfl⟩ := List.mem_map.mp ha
    have := h k hk
    omega
theorem t2 (m : Nat) {h : Mp.D} {asks : List Ask} (M : Mem) (w : Wf asks) {i : Nat} {a : Ask} (hg : asks[i]? = some a) : callAt Gc tx.T (m + 6) 2 [.d (prD h asks), .d (.int (i : Nat))] M = .ok (.d (iT (cfr asks.length a.2))) M := by
  have hm := List.mem_of_getElem? hg
  have h1 := t1 4 m a.2 M (w.dp _ hm) (by have := w.nn _ hm; omega)
  have hr := rngOk_n (n := asks.length) (by have := w.len; unfold lim; omega)
  have hat := ask_at hg
  rw [show m + 6 = (m + 5) + 1 by omega, call_is (f := f2) rfl]
  let C := callAt Gc tx.T (m + 5)
  have hp' := pr1 h asks M
  have hal : (asks.map askD).length = asks.length := List.length_map _
  rw [nI_nZ] at h1
  generalize prD h asks = p at *
  have e := lcL_fil (tg := .nm 3) (own := [3]) (c := evE Gc C (.cmp .isin (.var 3) (.var 2))) (f := evE Gc C (.var 3)) (σ := [some (.d p), some (.d (.int (i : Nat))), some (.d (.list ((nZ a.2.cl).map .int))), none]) (M := M)
    (p := pIn (nZ a.2.cl)) (y := fun x => x) (xs := (rI asks.length).map .int) (fun x hx => by
      obtain ⟨j, hj, rfl⟩ := List.mem_map.mp hx
      have hin : cmpD .isin (.int j) (.list ((nZ a.2.cl).map .int)) = some (decide (j ∈ nZ a.2.cl)) := in_listI j _
      exact ⟨_, rfl, by simp [sTst, wipeE, hin, pIn], fun _ => by simp [wipeE]⟩)
  have e2 : ((((rI asks.length).map PyData.int).filter (pIn (nZ a.2.cl))).map fun x => x) = (cfr asks.length a.2).map .int := by
    rw [List.map_id', List.filter_map]
    rfl
  rw [e2] at e
  have hll : (cfr asks.length a.2).length ≤ lim := by
    have : (cfr asks.length a.2).length ≤ (rI asks.length).length := List.length_filter_le _ _
    rw [rI_len] at this
    have := w.len
    unfold lim; omega
  have s0 : evS Gc C (nthS b2 0) [some (.d p), some (.d (.int (i : Nat))), none, none] M = .ok (.nx [some (.d p), some (.d (.int (i : Nat))), some (.d (.list ((nZ a.2.cl).map .int))), none]) M := by
    simp [nthS, b2, hp', hat, at1, C, h1]
  rw [run_rt (fn := f2) (σ0 := [some (.d p), some (.d (.int (i : Nat))), none, none]) (v := .d (iT (cfr asks.length a.2))) (M1 := M) rfl rfl ?_]
  · show outV M.length true _ _ = _
    rw [out_d]
    simp
  show evSs Gc C (.cons (nthS b2 0) (.cons (.ret (.bi .tuple (.cons (.lc [3] (.nm 3) (.rg1 (.bi .len (.cons (.idx (.var 0) (.con (.int 1))) .nil))) (.cons (.cmp .isin (.var 3) (.var 2)) .nil) (.var 3)) .nil))) .nil)) _ M = _
  rw [sqn s0]
  simp [evC, hp', hr, rngD_rI] at e ⊢
  rw [e]
  simp [hll, iT]
end Mp.k06
end
section
set_option maxHeartbeats 4000000
namespace Mp.k06
open PySem PySem.Spec PyProof.Rows L2 Mp

def bk (asks : List Ask) (k : Nat) : Its := (asks[k]?.map (·.2)).getD .nil
def whenD (cs : List Mp.D) (a b : List Mp.D) : Mp.D := .tuple [.str ("when" : Str), .tuple cs, .tuple a, .tuple b]
mutual
def woIt (g : Nat → List Mp.D) : It → Mp.D
  | .call n => whenD [] (g n) []
  | .when cs a b => whenD (cs.map cndD) (woIts g a) (woIts g b)
  | .say w => (It.say w).D
  | .shw t => (It.shw t).D
def woIts (g : Nat → List Mp.D) : Its → List Mp.D
  | .nil => []
  | .cons i r => woIt g i :: woIts g r
end
def wo (asks : List Ask) : Nat → Nat → List Mp.D
  | 0, _ => []
  | f + 1, n => woIts (wo asks f) (bk asks n)
def in8 : MSs := bodyOf (nthS b8 1)
def in22 : MSs := bodyOf (nthS b22 1)
section
variable {C : CT} {h : Mp.D} {asks : List Ask} {r : Nat → Nat} {f n : Nat} {M : Mem}
def Cl (asks : List Ask) (r : Nat → Nat) (f : Nat) (cl : List Nat) : Prop := ∀ k ∈ cl, r k < f ∧ k < asks.length
def HW (C : CT) (j : Nat) (h : Mp.D) (asks : List Ask) (r : Nat → Nat) (f n : Nat) : Prop := ∀ (its : Its) (M : Mem), its.dp < n → Cl asks r f its.cl → its.nn ≤ 100 → C j [.d (prD h asks), .d (.tuple its.Ds)] M = .ok (.d (.tuple (woIts (wo asks f) its))) M
theorem step8 (hC : HW C 8 h asks r f n) (hK : ∀ (k : Nat) (M : Mem), r k < f → k < asks.length → C 9 [.d (prD h asks), .d (.int (k : Nat))] M = .ok (.d (.tuple (wo asks f k))) M) {i : It} {acc : List Mp.D} {b s4 : Option Val} (hd : i.dp ≤ n) (hc : Cl asks r f i.cl) (hn : i.nn ≤ 100) (hl : acc.length < lim) :
    ∃ t4, evSs Gc C in8 [some (.d (prD h asks)), b, some (.ref M.length), some (.d i.D), s4] (M ++ [.lst acc]) = .ok (.nx [some (.d (prD h asks)), b, some (.ref M.length), some (.d i.D), t4]) (M ++ [.lst (acc ++ [woIt (wo asks f) i])]) := by
  have l0 : 0 ≤ lim := Nat.zero_le _
  have l4 : 4 ≤ lim := by unfold lim; omega
  have hr := get_end M (.lst acc)
  have hk := x_kind (m := .append) (fun h => by cases h) (fun h => by cases h) hr
  have ha := fun x => x_app (x := x) hr
  simp only [if_pos hl, set_end] at ha
  generalize hp : prD h asks = p at *
  cases i with
  | say w =>
    have ha' := ha (It.say w).D
    refine ⟨s4, ?_⟩
    show _ = Res.ok (Fl.nx [some (.d p), b, some (.ref M.length), some (.d (It.say w).D), s4]) (M ++ [.lst (acc ++ [(It.say w).D])])
    simp only [It.D] at ha' ⊢
    simp [in8, bodyOf, nthS, b8, q_say2, q_say3, atI0, hk, ha']
  | shw t =>
    have ha' := ha (It.shw t).D
    refine ⟨s4, ?_⟩
    show _ = Res.ok (Fl.nx [some (.d p), b, some (.ref M.length), some (.d (It.shw t).D), s4]) (M ++ [.lst (acc ++ [(It.shw t).D])])
    simp only [It.D] at ha' ⊢
    simp [in8, bodyOf, nthS, b8, q_show2, q_show3, atI0, hk, ha']
  | call k =>
    obtain ⟨c1, c2⟩ := hc k (by show k ∈ [k]; simp)
    have h9 := hK k (M ++ [.lst acc]) c1 c2
    have ha' := ha (whenD [] (wo asks f k) [])
    refine ⟨s4, ?_⟩
    show _ = Res.ok (Fl.nx [some (.d p), b, some (.ref M.length), some (.d (It.call k).D), s4]) (M ++ [.lst (acc ++ [whenD [] (wo asks f k) []])])
    simp only [It.D, whenD] at ha' ⊢
    simp [in8, bodyOf, nthS, b8, q_call3, atI0, at1, hk, h9, l0, l4, ha']
  | when cs x y =>
    have hd' : max x.dp y.dp + 1 ≤ n := hd
    have hn' : 1 + (x.nn + y.nn) ≤ 100 := hn
    have hcx : Cl asks r f x.cl := fun k hk => hc k (List.mem_append_left _ hk)
    have hcy : Cl asks r f y.cl := fun k hk => hc k (List.mem_append_right _ hk)
    have h1 := hC x (M ++ [.lst acc]) (by omega) hcx (by omega)
    have h2 := hC y (M ++ [.lst acc]) (by omega) hcy (by omega)
    rw [hp] at h1 h2
    have ha' := ha (whenD (cs.map cndD) (woIts (wo asks f) x) (woIts (wo asks f) y))
    refine ⟨some (.d (.tuple (woIts (wo asks f) x))), ?_⟩
    show _ = Res.ok (Fl.nx [some (.d p), b, some (.ref M.length), some (.d (It.when cs x y).D), some (.d (.tuple (woIts (wo asks f) x)))]) (M ++ [.lst (acc ++ [whenD (cs.map cndD) (woIts (wo asks f) x) (woIts (wo asks f) y)])])
    simp only [It.D, whenD] at ha' ⊢
    simp [in8, bodyOf, nthS, b8, q_when2, q_when3, atI0, at1, at2, at3, hk, h1, h2, l4, ha']
theorem loop8 (hC : HW C 8 h asks r f n) (hK : ∀ (k : Nat) (M : Mem), r k < f → k < asks.length → C 9 [.d (prD h asks), .d (.int (k : Nat))] M = .ok (.d (.tuple (wo asks f k))) M) {b : Option Val} : ∀ {its : Its} {acc : List Mp.D} {s3 s4 : Option Val}, its.dp ≤ n → Cl asks r f its.cl → its.nn ≤ 100 → acc.length + its.nn ≤ 1000 →
    ∃ t3 t4, forL (.nm 3) (evSs Gc C in8) its.Ds [some (.d (prD h asks)), b, some (.ref M.length), s3, s4] (M ++ [.lst acc]) = .ok (.nx [some (.d (prD h asks)), b, some (.ref M.length), t3, t4]) (M ++ [.lst (acc ++ woIts (wo asks f) its)])
  | .nil, acc, s3, s4, _, _, _, _ => ⟨s3, s4, by show Res.ok _ _ = _; simp [woIts]⟩
  | .cons i q, acc, s3, s4, hd, hc, hn, hl => by
    have hd' : max i.dp q.dp ≤ n := hd
    have hn' : i.nn + q.nn ≤ 100 := hn
    have hl' : acc.length + (i.nn + q.nn) ≤ 1000 := hl
    have hp := It.nn_pos i
    obtain ⟨t4, e1⟩ := step8 (M := M) (b := b) (s4 := s4) (acc := acc) hC hK (i := i) (by omega) (fun k hk => hc k (List.mem_append_left _ hk)) (by omega) (by unfold lim; omega)
    obtain ⟨u3, u4, e⟩ := loop8 hC hK (its := q) (acc := acc ++ [woIt (wo asks f) i]) (s3 := some (.d i.D)) (s4 := t4) (by omega) (fun k hk => hc k (List.mem_append_right _ hk)) (by omega) (by rw [List.length_append, List.length_singleton]; omega)
    refine ⟨u3, u4, ?_⟩
    show forL _ _ (i.D :: q.Ds) _ _ = _
    rw [forL_cons (σ1 := [some (.d (prD h asks)), b, some (.ref M.length), some (.d i.D), s4]) rfl e1, e, List.append_assoc]
    rfl
theorem step22 (hC : HW C 22 h asks r f n) (hK : ∀ (k : Nat) (M : Mem), r k < f → k < asks.length → C 22 [.d (prD h asks), .d (.tuple (bk asks k).Ds)] M = .ok (.d (.tuple (wo asks f k))) M) {i : It} {acc : List Mp.D} {b : Option Val} (hd : i.dp ≤ n) (hc : Cl asks r f i.cl) (hn : i.nn ≤ 100) (hl : acc.length < lim) :
    ∃ t3, evSs Gc C in22 [some (.d (prD h asks)), b, some (.ref M.length), some (.d i.D)] (M ++ [.lst acc]) = .ok (.nx [some (.d (prD h asks)), b, some (.ref M.length), t3]) (M ++ [.lst (acc ++ [woIt (wo asks f) i])]) := by
  have l0 : 0 ≤ lim := Nat.zero_le _
  have l4 : 4 ≤ lim := by unfold lim; omega
  have hr := get_end M (.lst acc)
  have hk := x_kind (m := .append) (fun h => by cases h) (fun h => by cases h) hr
  have ha := fun x => x_app (x := x) hr
  simp only [if_pos hl, set_end] at ha
  have hp1 := pr1 h asks
  generalize hp : prD h asks = p at *
  cases i with
  | say w =>
    have ha' := ha (It.say w).D
    refine ⟨some (.d (It.say w).D), ?_⟩
    show _ = Res.ok (Fl.nx [some (.d p), b, some (.ref M.length), some (.d (It.say w).D)]) (M ++ [.lst (acc ++ [(It.say w).D])])
    simp only [It.D] at ha' ⊢
    simp [in22, bodyOf, nthS, b22, q_say2, q_say3, atI0, hk, ha']
  | shw t =>
    have ha' := ha (It.shw t).D
    refine ⟨some (.d (It.shw t).D), ?_⟩
    show _ = Res.ok (Fl.nx [some (.d p), b, some (.ref M.length), some (.d (It.shw t).D)]) (M ++ [.lst (acc ++ [(It.shw t).D])])
    simp only [It.D] at ha' ⊢
    simp [in22, bodyOf, nthS, b22, q_show2, q_show3, atI0, hk, ha']
  | call k =>
    obtain ⟨c1, c2⟩ := hc k (by show k ∈ [k]; simp)
    have h9 := hK k (M ++ [.lst acc]) c1 c2
    have hg : asks[k]? = some asks[k] := List.getElem?_eq_getElem c2
    have hat := ask_at hg
    have hbk : bk asks k = asks[k].2 := by unfold bk; rw [hg]; rfl
    rw [hbk] at h9
    have ha' := ha (whenD [] (wo asks f k) [])
    refine ⟨some (.d (whenD [] (wo asks f k) [])), ?_⟩
    show _ = Res.ok (Fl.nx [some (.d p), b, some (.ref M.length), some (.d (whenD [] (wo asks f k) []))]) (M ++ [.lst (acc ++ [whenD [] (wo asks f k) []])])
    simp only [It.D, whenD] at ha' ⊢
    simp [in22, bodyOf, nthS, b22, q_call3, atI0, at1, hk, hp1, hat, h9, l0, l4, ha']
  | when cs x y =>
    have hd' : max x.dp y.dp + 1 ≤ n := hd
    have hn' : 1 + (x.nn + y.nn) ≤ 100 := hn
    have hcx : Cl asks r f x.cl := fun k hk => hc k (List.mem_append_left _ hk)
    have hcy : Cl asks r f y.cl := fun k hk => hc k (List.mem_append_right _ hk)
    have h1 := hC x (M ++ [.lst acc]) (by omega) hcx (by omega)
    have h2 := hC y (M ++ [.lst acc]) (by omega) hcy (by omega)
    rw [hp] at h1 h2
    have ha' := ha (whenD (cs.map cndD) (woIts (wo asks f) x) (woIts (wo asks f) y))
    refine ⟨some (.d (whenD (cs.map cndD) (woIts (wo asks f) x) (woIts (wo asks f) y))), ?_⟩
    show _ = Res.ok (Fl.nx [some (.d p), b, some (.ref M.length), some (.d (whenD (cs.map cndD) (woIts (wo asks f) x) (woIts (wo asks f) y)))]) (M ++ [.lst (acc ++ [whenD (cs.map cndD) (woIts (wo asks f) x) (woIts (wo asks f) y)])])
    simp only [It.D, whenD] at ha' ⊢
    simp [in22, bodyOf, nthS, b22, q_when2, q_when3, atI0, at1, at2, at3, hk, h1, h2, l4, ha']
theorem loop22 (hC : HW C 22 h asks r f n) (hK : ∀ (k : Nat) (M : Mem), r k < f → k < asks.length → C 22 [.d (prD h asks), .d (.tuple (bk asks k).Ds)] M = .ok (.d (.tuple (wo asks f k))) M) {b : Option Val} : ∀ {its : Its} {acc : List Mp.D} {s3 : Option Val}, its.dp ≤ n → Cl asks r f its.cl → its.nn ≤ 100 → acc.length + its.nn ≤ 1000 →
    ∃ t3, forL (.nm 3) (evSs Gc C in22) its.Ds [some (.d (prD h asks)), b, some (.ref M.length), s3] (M ++ [.lst acc]) = .ok (.nx [some (.d (prD h asks)), b, some (.ref M.length), t3]) (M ++ [.lst (acc ++ woIts (wo asks f) its)])
  | .nil, acc, s3, _, _, _, _ => ⟨s3, by show Res.ok _ _ = _; simp [woIts]⟩
  | .cons i q, acc, s3, hd, hc, hn, hl => by
    have hd' : max i.dp q.dp ≤ n := hd
    have hn' : i.nn + q.nn ≤ 100 := hn
    have hl' : acc.length + (i.nn + q.nn) ≤ 1000 := hl
    have hp := It.nn_pos i
    obtain ⟨t3, e1⟩ := step22 (M := M) (b := b) (acc := acc) hC hK (i := i) (by omega) (fun k hk => hc k (List.mem_append_left _ hk)) (by omega) (by unfold lim; omega)
    obtain ⟨u3, e⟩ := loop22 hC hK (its := q) (acc := acc ++ [woIt (wo asks f) i]) (s3 := t3) (by omega) (fun k hk => hc k (List.mem_append_right _ hk)) (by omega) (by rw [List.length_append, List.length_singleton]; omega)
    refine ⟨u3, ?_⟩
    show forL _ _ (i.D :: q.Ds) _ _ = _
    rw [forL_cons (σ1 := [some (.d (prD h asks)), b, some (.ref M.length), some (.d i.D)]) rfl e1, e, List.append_assoc]
    rfl
end
section
variable {h : Mp.D} {asks : List Ask} {r : Nat → Nat}
theorem go8 {j f n : Nat} {its : Its} {M : Mem} (hd : its.dp ≤ n) (hc : Cl asks r f its.cl) (hn : its.nn ≤ 100) (hC : HW (callAt Gc tx.T j) 8 h asks r f n)
    (hK : ∀ (k : Nat) (M : Mem), r k < f → k < asks.length → callAt Gc tx.T j 9 [.d (prD h asks), .d (.int (k : Nat))] M = .ok (.d (.tuple (wo asks f k))) M) : callAt Gc tx.T (j + 1) 8 [.d (prD h asks), .d (.tuple its.Ds)] M = .ok (.d (.tuple (woIts (wo asks f) its))) M := by
  rw [call_is (f := f8) rfl]
  obtain ⟨t3, t4, e⟩ := loop8 (M := M) hC hK (b := some (.d (.tuple its.Ds))) (its := its) (acc := []) (s3 := none) (s4 := none) hd hc hn (by simp; omega)
  rw [List.nil_append] at e
  have hb := x_btupr (get_end M (.lst (woIts (wo asks f) its)))
  rw [run_rt (fn := f8) (σ0 := [some (.d (prD h asks)), some (.d (.tuple its.Ds)), none, none, none]) (v := .d (.tuple (woIts (wo asks f) its))) (M1 := M ++ [.lst (woIts (wo asks f) its)]) rfl rfl ?_]
  · show outV M.length true _ _ = _
    rw [out_d, take_app]
  show evSs Gc _ (.cons (.set 2 (.new (.lst .nil))) (.cons (.forr (.nm 3) (.ov (.var 1)) in8) (.cons (.ret (.bi .tuple (.cons (.var 2) .nil))) .nil))) _ M = _
  generalize in8 = IN at *
  simp [e, hb]
theorem go22 {j f n : Nat} {its : Its} {M : Mem} (hd : its.dp ≤ n) (hc : Cl asks r f its.cl) (hn : its.nn ≤ 100) (hC : HW (callAt Gc tx.T j) 22 h asks r f n)
    (hK : ∀ (k : Nat) (M : Mem), r k < f → k < asks.length → callAt Gc tx.T j 22 [.d (prD h asks), .d (.tuple (bk asks k).Ds)] M = .ok (.d (.tuple (wo asks f k))) M) : callAt Gc tx.T (j + 1) 22 [.d (prD h asks), .d (.tuple its.Ds)] M = .ok (.d (.tuple (woIts (wo asks f) its))) M := by
  rw [call_is (f := f22) rfl]
  obtain ⟨t3, e⟩ := loop22 (M := M) hC hK (b := some (.d (.tuple its.Ds))) (its := its) (acc := []) (s3 := none) hd hc hn (by simp; omega)
  rw [List.nil_append] at e
  have hb := x_btupr (get_end M (.lst (woIts (wo asks f) its)))
  rw [run_rt (fn := f22) (σ0 := [some (.d (prD h asks)), some (.d (.tuple its.Ds)), none, none]) (v := .d (.tuple (woIts (wo asks f) its))) (M1 := M ++ [.lst (woIts (wo asks f) its)]) rfl rfl ?_]
  · show outV M.length true _ _ = _
    rw [out_d, take_app]
  show evSs Gc _ (.cons (.set 2 (.new (.lst .nil))) (.cons (.forr (.nm 3) (.ov (.var 1)) in22) (.cons (.ret (.bi .tuple (.cons (.var 2) .nil))) .nil))) _ M = _
  generalize in22 = IN at *
  simp [e, hb]
theorem call9 {j k : Nat} {M : Mem} {R : Res Val} (hk : k < asks.length) (hR : callAt Gc tx.T j 8 [.d (prD h asks), .d (.tuple (bk asks k).Ds)] M = .ok (.d (.tuple (wo asks 100 k))) M ∨ True) (x : List Mp.D) (h8 : callAt Gc tx.T j 8 [.d (prD h asks), .d (.tuple (bk asks k).Ds)] M = .ok (.d (.tuple x)) M) :
    callAt Gc tx.T (j + 1) 9 [.d (prD h asks), .d (.int (k : Nat))] M = .ok (.d (.tuple x)) M := by
  rw [call_is (f := f9) rfl]
  have hg : asks[k]? = some asks[k] := List.getElem?_eq_getElem hk
  have hat := ask_at hg
  have hbk : bk asks k = asks[k].2 := by unfold bk; rw [hg]; rfl
  rw [hbk] at h8
  have hp1 := pr1 h asks M
  generalize prD h asks = p at *
  simp [runFn, f9, b9, hp1, hat, at1, h8, outV]
theorem bk_ok (w : Wf asks) {r : Nat → Nat} (hr : ∀ (i : Nat) (a : Ask), asks[i]? = some a → ∀ k ∈ a.2.cl, r k < r i) {k f : Nat} (hk : k < asks.length) (hf : r k ≤ f) : (bk asks k).dp ≤ 4 ∧ Cl asks r f (bk asks k).cl ∧ (bk asks k).nn ≤ 100 := by
  have hg : asks[k]? = some asks[k] := List.getElem?_eq_getElem hk
  have hm := List.getElem_mem hk
  have hbk : bk asks k = asks[k].2 := by unfold bk; rw [hg]; rfl
  rw [hbk]
  refine ⟨w.dp _ hm, fun j hj => ⟨?_, w.cl _ hm j hj⟩, by have := w.nn _ hm; omega⟩
  have := hr k _ hg j hj
  omega
theorem w8 (w : Wf asks) {r : Nat → Nat} (hr : ∀ (i : Nat) (a : Ask), asks[i]? = some a → ∀ k ∈ a.2.cl, r k < r i) : ∀ (f n d : Nat) (its : Its) (M : Mem), n ≤ 4 → its.dp ≤ n → Cl asks r f its.cl → its.nn ≤ 100 → 6 * f + n + 1 ≤ d → callAt Gc tx.T d 8 [.d (prD h asks), .d (.tuple its.Ds)] M = .ok (.d (.tuple (woIts (wo asks f) its))) M := by
  intro f
  induction f with
  | zero =>
    intro n
    induction n with
    | zero =>
      intro d its M hn4 hd hc hn hle
      obtain ⟨j, rfl⟩ : ∃ j, d = j + 1 := ⟨d - 1, by omega⟩
      exact go8 (n := 0) hd hc hn (fun its M h => absurd h (Nat.not_lt_zero _)) fun k M hk => absurd hk (Nat.not_lt_zero _)
    | succ n ihn =>
      intro d its M hn4 hd hc hn hle
      obtain ⟨j, rfl⟩ : ∃ j, d = j + 1 := ⟨d - 1, by omega⟩
      exact go8 (n := n + 1) hd hc hn (fun its M h1 h2 h3 => ihn j its M (by omega) (by omega) h2 h3 (by omega)) fun k M hk => absurd hk (Nat.not_lt_zero _)
  | succ f ihf =>
    have hK : ∀ (j k : Nat) (M : Mem), 6 * f + 6 ≤ j → r k < f + 1 → k < asks.length → callAt Gc tx.T j 9 [.d (prD h asks), .d (.int (k : Nat))] M = .ok (.d (.tuple (wo asks (f + 1) k))) M := by
      intro j k M hj hrk hk
      obtain ⟨j, rfl⟩ : ∃ i, j = i + 1 := ⟨j - 1, by omega⟩
      obtain ⟨g1, g2, g3⟩ := bk_ok w hr (f := f) hk (by omega)
      exact call9 (R := .no) hk (.inr trivial) _ (ihf 4 j (bk asks k) M (Nat.le_refl _) g1 g2 g3 (by omega))
    intro n
    induction n with
    | zero =>
      intro d its M hn4 hd hc hn hle
      obtain ⟨j, rfl⟩ : ∃ j, d = j + 1 := ⟨d - 1, by omega⟩
      exact go8 (n := 0) hd hc hn (fun its M h => absurd h (Nat.not_lt_zero _)) fun k M hk1 hk2 => hK j k M (by omega) hk1 hk2
    | succ n ihn =>
      intro d its M hn4 hd hc hn hle
      obtain ⟨j, rfl⟩ : ∃ j, d = j + 1 := ⟨d - 1, by omega⟩
      exact go8 (n := n + 1) hd hc hn (fun its M h1 h2 h3 => ihn j its M (by omega) (by omega) h2 h3 (by omega)) fun k M hk1 hk2 => hK j k M (by omega) hk1 hk2
theorem w22 (w : Wf asks) {r : Nat → Nat} (hr : ∀ (i : Nat) (a : Ask), asks[i]? = some a → ∀ k ∈ a.2.cl, r k < r i) : ∀ (f n d : Nat) (its : Its) (M : Mem), n ≤ 4 → its.dp ≤ n → Cl asks r f its.cl → its.nn ≤ 100 → 6 * f + n + 1 ≤ d → callAt Gc tx.T d 22 [.d (prD h asks), .d (.tuple its.Ds)] M = .ok (.d (.tuple (woIts (wo asks f) its))) M := by
  intro f
  induction f with
  | zero =>
    intro n
    induction n with
    | zero =>
      intro d its M hn4 hd hc hn hle
      obtain ⟨j, rfl⟩ : ∃ j, d = j + 1 := ⟨d - 1, by omega⟩
      exact go22 (n := 0) hd hc hn (fun its M h => absurd h (Nat.not_lt_zero _)) fun k M hk => absurd hk (Nat.not_lt_zero _)
    | succ n ihn =>
      intro d its M hn4 hd hc hn hle
      obtain ⟨j, rfl⟩ : ∃ j, d = j + 1 := ⟨d - 1, by omega⟩
      exact go22 (n := n + 1) hd hc hn (fun its M h1 h2 h3 => ihn j its M (by omega) (by omega) h2 h3 (by omega)) fun k M hk => absurd hk (Nat.not_lt_zero _)
  | succ f ihf =>
    have hK : ∀ (j k : Nat) (M : Mem), 6 * f + 6 ≤ j → r k < f + 1 → k < asks.length → callAt Gc tx.T j 22 [.d (prD h asks), .d (.tuple (bk asks k).Ds)] M = .ok (.d (.tuple (wo asks (f + 1) k))) M := by
      intro j k M hj hrk hk
      obtain ⟨g1, g2, g3⟩ := bk_ok w hr (f := f) hk (by omega)
      exact ihf 4 j (bk asks k) M (Nat.le_refl _) g1 g2 g3 (by omega)
    intro n
    induction n with
    | zero =>
      intro d its M hn4 hd hc hn hle
      obtain ⟨j, rfl⟩ : ∃ j, d = j + 1 := ⟨d - 1, by omega⟩
      exact go22 (n := 0) hd hc hn (fun its M h => absurd h (Nat.not_lt_zero _)) fun k M hk1 hk2 => hK j k M (by omega) hk1 hk2
    | succ n ihn =>
      intro d its M hn4 hd hc hn hle
      obtain ⟨j, rfl⟩ : ∃ j, d = j + 1 := ⟨d - 1, by omega⟩
      exact go22 (n := n + 1) hd hc hn (fun its M h1 h2 h3 => ihn j its M (by omega) (by omega) h2 h3 (by omega)) fun k M hk1 hk2 => hK j k M (by omega) hk1 hk2
/-- without calls, both ways -/
theorem both (w : Wf asks) {i : Nat} {a : Ask} (hg : asks[i]? = some a) (M : Mem) : callAt Gc tx.T 40 9 [.d (prD h asks), .d (.int (i : Nat))] M = .ok (.d (.tuple (wo asks 3 i))) M ∧ callAt Gc tx.T 40 22 [.d (prD h asks), .d (.tuple a.2.Ds)] M = .ok (.d (.tuple (wo asks 3 i))) M := by
  obtain ⟨r, hr0, hr⟩ := w.rk
  have hi := (List.getElem?_eq_some_iff.mp hg).1
  obtain ⟨g1, g2, g3⟩ := bk_ok w hr (f := 2) hi (hr0 i)
  have hbk : bk asks i = a.2 := by unfold bk; rw [hg]; rfl
  refine ⟨call9 (R := .no) hi (.inr trivial) _ (w8 w hr 2 4 39 (bk asks i) M (Nat.le_refl _) g1 g2 g3 (by omega)), ?_⟩
  have := w22 (h := h) w hr 2 4 40 (bk asks i) M (Nat.le_refl _) g1 g2 g3 (by omega)
  rw [hbk] at this
  have e : woIts (wo asks 2) a.2 = wo asks 3 i := by show _ = woIts (wo asks 2) (bk asks i); rw [hbk]
  rw [e] at this
  exact this
end
end Mp.k06
end
section
set_option maxHeartbeats 4000000
namespace Mp.k06
open PySem PySem.Spec PyProof.Rows L2 Mp

/-- a loop that may be left -/
theorem forL_brk {tg : Tg} {b : SS} (P : Nat → Env → Mem → Prop) (Q : Env → Mem → Prop) : ∀ {xs : List Mp.D} {n : Nat} {σ : Env} {M : Mem}, P n σ M →
    (∀ (i : Nat) (x : Mp.D) (σ : Env) (M : Mem), xs[i]? = some x → P (n + i) σ M → ∃ σ1, asgT tg x σ = some σ1 ∧ ((∃ σ2 M2, b σ1 M = .ok (.nx σ2) M2 ∧ P (n + i + 1) σ2 M2) ∨ ∃ σ2 M2, b σ1 M = .ok (.bk σ2) M2 ∧ Q σ2 M2)) →
    ∃ σ' M', forL tg b xs σ M = .ok (.nx σ') M' ∧ (P (n + xs.length) σ' M' ∨ Q σ' M')
  | [], n, σ, M, h0, _ => ⟨σ, M, rfl, .inl h0⟩
  | x :: xs, n, σ, M, h0, hs => by
    obtain ⟨σ1, h1, h2⟩ := hs 0 x σ M rfl h0
    rcases h2 with ⟨σ2, M2, h2, h3⟩ | ⟨σ2, M2, h2, h3⟩
    · obtain ⟨σ', M', e, h⟩ := forL_brk P Q (xs := xs) (n := n + 1) (σ := σ2) (M := M2) h3 fun i z σ M hz hp => by
        have := hs (i + 1) z σ M (by simpa using hz) (by rw [show n + (i + 1) = n + 1 + i by omega]; exact hp)
        rw [show n + (i + 1) + 1 = n + 1 + i + 1 by omega] at this
        exact this
      refine ⟨σ', M', by rw [forL_cons h1 h2]; exact e, ?_⟩
      rw [show n + (x :: xs).length = n + 1 + xs.length by simp; omega]
      exact h
    · refine ⟨σ2, M2, ?_, .inr h3⟩
      unfold forL
      rw [h1]
      dsimp only
      rw [h2, x_bok]
/-! ### what a lot reaches -/
def bz (asks : List Ask) (x : Int) : Its := bk asks x.toNat
inductive Reach (asks : List Ask) (lot : List Int) : Int → Prop
  | base {x : Int} : x ∈ lot → Reach asks lot x
  | step {x y : Int} : Reach asks lot x → y ∈ nZ (bz asks x).cl → Reach asks lot y
def In (asks : List Ask) (x : Int) : Prop := 0 ≤ x ∧ x < asks.length
section
variable {h : Mp.D} {asks : List Ask}
theorem bz_at {x : Int} (hx : In asks x) : ∃ a, asks[x.toNat]? = some a ∧ bz asks x = a.2 ∧ x = (x.toNat : Nat) := by
  have hl : x.toNat < asks.length := by have := hx.1; have := hx.2; omega
  refine ⟨asks[x.toNat], List.getElem?_eq_getElem hl, ?_, by have := hx.1; omega⟩
  unfold bz bk
  rw [List.getElem?_eq_getElem hl]
  rfl
theorem call_in (w : Wf asks) {x y : Int} (hx : In asks x) (hy : y ∈ nZ (bz asks x).cl) : In asks y := by
  obtain ⟨a, ha, hb, _⟩ := bz_at hx
  rw [hb] at hy
  obtain ⟨k, hk, rfl⟩ := List.mem_map.mp hy
  have := w.cl a (List.mem_of_getElem? ha) k hk
  exact ⟨by omega, by omega⟩
theorem cfr_mem (w : Wf asks) {x y : Int} (hx : In asks x) : y ∈ cfr asks.length (bz asks x) ↔ y ∈ nZ (bz asks x).cl := by
  unfold cfr
  rw [List.mem_filter, decide_eq_true_eq, mem_rI]
  exact ⟨fun h => h.2, fun h => ⟨call_in w hx h, h⟩⟩
theorem rI_nodup (n : Nat) : (rI n).Nodup := by
  unfold rI
  rw [List.nodup_iff_pairwise_ne, List.pairwise_map]
  exact (List.nodup_iff_pairwise_ne.mp List.nodup_range).imp fun h e => h (by omega)
theorem in_len {xs : List Int} (hn : xs.Nodup) (hi : ∀ x ∈ xs, In asks x) : xs.length ≤ asks.length := by
  have := hn.length_le_of_subset (l₂ := rI asks.length) fun x hx => mem_rI.mpr (hi x hx)
  rw [rI_len] at this
  exact this
/-- closed and reached: just what is reached -/
theorem reach_iff {lot F : List Int} (h1 : ∀ x ∈ lot, x ∈ F) (h2 : ∀ x ∈ F, Reach asks lot x) (h3 : ∀ x ∈ F, ∀ y ∈ nZ (bz asks x).cl, y ∈ F) (x : Int) : x ∈ F ↔ Reach asks lot x :=
  ⟨h2 x, fun h => by
    induction h with
    | base hx => exact h1 _ hx
    | step _ hy ih => exact h3 _ ih _ hy⟩
def c3 : ME := .cmp .lt (.var 3) (.bi .len (.cons (.var 2) .nil))
def w3 : MSs := .cons (.set 2 (.bin .add (.var 2) (.lc [4] (.nm 4) (.ov (.call 2 (.cons (.var 0) (.cons (.idx (.var 2) (.var 3)) .nil)))) (.cons (.cmp .notin (.var 4) (.var 2)) .nil) (.var 4)))) (.cons (.aug 3 .add (.con (.int 1))) .nil)
theorem b3_is : b3 = .cons (.set 2 (.bi .list (.cons (.var 1) .nil))) (.cons (.set 3 (.con (.int 0))) (.cons (.whil c3 w3) (.cons (.ret (.var 2)) .nil))) := rfl
def pNot (xs : List Int) (x : Mp.D) : Bool := match x with | .int j => !decide (j ∈ xs) | _ => false
theorem fil_not (xs zs : List Int) : (((zs.map PyData.int).filter (pNot xs)).map fun x => x) = (zs.filter fun z => !decide (z ∈ xs)).map .int := by
  rw [List.map_id', List.filter_map]
  rfl
theorem t3 (m : Nat) {lot : List Int} (M : Mem) (w : Wf asks) (hn : lot.Nodup) (hi : ∀ x ∈ lot, In asks x) : ∃ F : List Int, callAt Gc tx.T (m + 7) 3 [.d (prD h asks), .d (iT lot)] M = .ok (.d (.list (F.map .int))) M ∧ (∀ x, x ∈ F ↔ Reach asks lot x) ∧ F.length ≤ asks.length ∧ ∀ x ∈ F, In asks x := by
  rw [show m + 7 = (m + 6) + 1 by omega, call_is (f := f3) rfl]
  let C := callAt Gc tx.T (m + 6)
  have hlen := w.len
  obtain ⟨σ', M', e, F, pl, t4, rfl, rfl, q1, q2, q3, q4, q5, q6⟩ := whL_inv (c := evE Gc C c3) (b := evSs Gc C w3)
    (fun n σ M' => ∃ (F : List Int) (pl : Nat) (t4 : Option Val), σ = [some (.d (prD h asks)), some (.d (iT lot)), some (.d (.list (F.map .int))), some (.d (.int (pl : Nat))), none] ∧ M' = M ∧ F.Nodup ∧ (∀ x ∈ F, In asks x) ∧ (∀ x ∈ lot, x ∈ F) ∧ (∀ x ∈ F, Reach asks lot x) ∧ (∀ (j : Nat) (x : Int), j < pl → F[j]? = some x → ∀ y ∈ nZ (bz asks x).cl, y ∈ F) ∧ pl + n = asks.length + 1 ∧ pl ≤ F.length)
    (fun σ M' => ∃ (F : List Int) (pl : Nat) (t4 : Option Val), σ = [some (.d (prD h asks)), some (.d (iT lot)), some (.d (.list (F.map .int))), some (.d (.int (pl : Nat))), none] ∧ M' = M ∧ F.Nodup ∧ (∀ x ∈ F, In asks x) ∧ (∀ x ∈ lot, x ∈ F) ∧ (∀ x ∈ F, Reach asks lot x) ∧ (∀ x ∈ F, ∀ y ∈ nZ (bz asks x).cl, y ∈ F) ∧ True)
    (by
      rintro n σ M' ⟨F, pl, t4, rfl, rfl, q1, q2, q3, q4, q5, q6, q7⟩
      have hFl := in_len q1 q2
      refine ⟨.d (.bool (decide (pl < F.length))), decide (pl < F.length), ?_, rfl, ?_⟩
      · simp [c3]
      by_cases hp : pl < F.length
      · refine .inr ⟨decide_eq_true hp, n - 1, ?_⟩
        have hgx : F[pl]? = some F[pl] := List.getElem?_eq_getElem hp
        have hin := q2 _ (List.getElem_mem hp)
        obtain ⟨a, ha, hb, hx⟩ := bz_at hin
        have hc := t2 m (h := h) M' w ha
        rw [← hb, ← hx] at hc
        have hat : L2.atI (F.map PyData.int) ((pl : Nat) : Int) = some (.int F[pl]) := L2.atI_nat (by rw [List.getElem?_map, hgx]; rfl)
        have e := lcL_fil (tg := .nm 4) (own := [4]) (c := evE Gc C (.cmp .notin (.var 4) (.var 2))) (f := evE Gc C (.var 4)) (σ := [some (.d (prD h asks)), some (.d (iT lot)), some (.d (.list (F.map .int))), some (.d (.int (pl : Nat))), none]) (M := M')
          (p := pNot F) (y := fun x => x) (xs := (cfr asks.length (bz asks F[pl])).map .int) (fun x hx => by
            obtain ⟨j, hj, rfl⟩ := List.mem_map.mp hx
            have hin : cmpD .notin (.int j) (.list (F.map .int)) = some (!decide (j ∈ F)) := by
              show (inD _ _).map not = _
              rw [in_listI]
              rfl
            exact ⟨_, rfl, by simp [sTst, wipeE, hin, pNot], fun _ => by simp [wipeE]⟩)
        rw [fil_not] at e
        let N := (cfr asks.length (bz asks F[pl])).filter fun z => !decide (z ∈ F)
        have hNm : ∀ y, y ∈ N ↔ y ∈ nZ (bz asks F[pl]).cl ∧ y ∉ F := fun y => by
          show y ∈ (cfr _ _).filter _ ↔ _
          rw [List.mem_filter, cfr_mem w hin]
          simp
        have hNn : N.Nodup := ((rI_nodup _).filter _).filter _
        have hFN : (F ++ N).Nodup := by
          rw [List.nodup_append]
          exact ⟨q1, hNn, fun x hx y hy e => ((hNm y).mp hy).2 (e ▸ hx)⟩
        have hFi : ∀ x ∈ F ++ N, In asks x := fun x hx => (List.mem_append.mp hx).elim (q2 x) fun hx => call_in w hin ((hNm x).mp hx).1
        have hFNl := in_len hFN hFi
        have hNl : N.length ≤ lim := by rw [List.length_append] at hFNl; unfold lim; omega
        have hl2 : F.length + N.length ≤ lim := by rw [List.length_append] at hFNl; unfold lim; omega
        refine ⟨[some (.d (prD h asks)), some (.d (iT lot)), some (.d (.list ((F ++ N).map .int))), some (.d (.int ((pl + 1 : Nat)))), none], M', by omega, ?_, F ++ N, pl + 1, none, rfl, rfl, hFN, hFi, fun x hx => List.mem_append_left _ (q3 x hx), fun x hx => ?_, fun j x hj hxj => ?_, by omega, by rw [List.length_append]; omega⟩
        · have hc' : C 2 [.d (prD h asks), .d (.int F[pl])] M' = .ok (.d (.tuple ((cfr asks.length (bz asks F[pl])).map .int))) M' := hc
          have e' : lcL (.nm 4) [4] (some (evE Gc C (.cmp .notin (.var 4) (.var 2)))) (evE Gc C (.var 4)) [some (.d (prD h asks)), some (.d (iT lot)), some (.d (.list (F.map .int))), some (.d (.int (pl : Nat))), none] ((cfr asks.length (bz asks F[pl])).map .int) M' = .ok (N.map .int) M' := e
          generalize hcf : (cfr asks.length (bz asks F[pl])).map PyData.int = cf at *
          generalize N = N at *
          generalize prD h asks = p at *
          generalize F[pl] = fx at *
          simp only [w3, x_scons, x_set, x_bin, x_var, x_lc, x_ov, x_call, x_cons, x_idx, x_nil, x_gete0, x_getes, x_ofS, x_bok, x_ixl, hat, Option.map_some, hc', evC, e']
          simp [hNl, hl2]
        · rcases List.mem_append.mp hx with hx | hx
          · exact q4 x hx
          · exact .step (q4 _ (List.getElem_mem hp)) ((hNm x).mp hx).1
        · have hcase : F[j]? = some x ∧ j < F.length := by
            have hjl : j < F.length := by omega
            rw [List.getElem?_append_left hjl] at hxj
            exact ⟨hxj, hjl⟩
          by_cases hjp : j < pl
          · exact fun y hy => List.mem_append_left _ (q5 j x hjp hcase.1 y hy)
          · have hjp' : j = pl := by omega
            subst hjp'
            have : x = F[j] := by rw [hgx] at hcase; exact (Option.some.inj hcase.1).symm
            subst this
            intro y hy
            by_cases hyF : y ∈ F
            · exact List.mem_append_left _ hyF
            · exact List.mem_append_right _ ((hNm y).mpr ⟨hy, hyF⟩)
      · exact .inl ⟨decide_eq_false hp, F, pl, none, rfl, rfl, q1, q2, q3, q4, fun x hx y hy => by
          obtain ⟨j, hj, e⟩ := List.getElem_of_mem hx
          exact q5 j x (by omega) (by rw [List.getElem?_eq_getElem hj, e]) y hy, trivial⟩)
    (asks.length + 1) [some (.d (prD h asks)), some (.d (iT lot)), some (.d (.list (lot.map .int))), some (.d (.int ((0 : Nat)))), none] M ⟨lot, 0, none, rfl, rfl, hn, hi, fun x hx => hx, fun x hx => .base hx, fun j x hj => absurd hj (Nat.not_lt_zero _), by omega, by omega⟩ wfuel (by unfold wfuel; omega)
  refine ⟨F, ?_, reach_iff q3 q4 q5, in_len q1 q2, q2⟩
  rw [run_rt (fn := f3) (σ0 := [some (.d (prD h asks)), some (.d (iT lot)), none, none, none]) (v := .d (.list (F.map .int))) (M1 := M') rfl rfl ?_]
  · show outV M'.length true _ _ = _
    rw [out_d]
    simp
  show evSs Gc C b3 _ M' = _
  have s0 : evS Gc C (.set 2 (.bi .list (.cons (.var 1) .nil))) [some (.d (prD h asks)), some (.d (iT lot)), none, none, none] M' = .ok (.nx [some (.d (prD h asks)), some (.d (iT lot)), some (.d (.list (lot.map .int))), none, none]) M' := by simp [iT]
  have s1 : evS Gc C (.set 3 (.con (.int 0))) [some (.d (prD h asks)), some (.d (iT lot)), some (.d (.list (lot.map .int))), none, none] M' = .ok (.nx [some (.d (prD h asks)), some (.d (iT lot)), some (.d (.list (lot.map .int))), some (.d (.int ((0 : Nat)))), none]) M' := by simp
  have s2 : evS Gc C (.whil c3 w3) [some (.d (prD h asks)), some (.d (iT lot)), some (.d (.list (lot.map .int))), some (.d (.int ((0 : Nat)))), none] M' = .ok (.nx [some (.d (prD h asks)), some (.d (iT lot)), some (.d (.list (F.map .int))), some (.d (.int (pl : Nat))), none]) M' := by rw [x_whil]; exact e
  rw [b3_is, sqn s0, sqn s1, sqn s2]
  simp
end
end Mp.k06
end
section
set_option maxHeartbeats 4000000
namespace Mp.k06
open PySem PySem.Spec PyProof.Rows L2 Mp

theorem dd_grow {T N : List Int} (hne : N ≠ []) (hN : ∀ x ∈ N, x ∉ T) : (dd T).length + 1 ≤ (dd (T ++ N)).length := by
  obtain ⟨x, r, rfl⟩ : ∃ x r, N = x :: r := by
    cases N with
    | nil => exact absurd rfl hne
    | cons x r => exact ⟨x, r, rfl⟩
  have hx := hN x List.mem_cons_self
  have hnd : (x :: dd T).Nodup := List.nodup_cons.mpr ⟨fun h => hx (mem_dd.mp h), dd_nodup T⟩
  have := hnd.length_le_of_subset (l₂ := dd (T ++ x :: r)) fun y hy => by
    rw [mem_dd, List.mem_append]
    rcases List.mem_cons.mp hy with rfl | hy
    · exact .inr List.mem_cons_self
    · exact .inl (mem_dd.mp hy)
  rw [List.length_cons] at this
  exact this
section
variable {h : Mp.D} {asks : List Ask}
def in21 : MSs := bodyOf (nthS b21 1)
def s21 : MS := .exp (.mt .extend (.var 2) (.cons (.lc [4] (.nm 4) (.ov (.call 20 (.cons (.idx (.idx (.idx (.var 0) (.con (.int 1))) (.idx (.var 2) (.var 3))) (.con (.int 1))) .nil))) (.cons (.cmp .notin (.var 4) (.var 2)) .nil) (.var 4)) .nil))
theorem in21_is : in21 = .cons (.iff (.cmp .ge (.var 3) (.bi .len (.cons (.var 2) .nil))) (.cons .brk .nil) .nil) (.cons s21 .nil) := rfl
theorem b21_is : b21 = .cons (.set 2 (.new (.bi .list (.cons (.var 1) .nil)))) (.cons (.forr (.nm 3) (.rg1 (.con (.int 200))) in21) (.cons (.frz 2) (.cons (.ret (.var 2)) .nil))) := rfl
structure G21 (asks : List Ask) (lot T : List Int) (i : Nat) : Prop where
  inn : ∀ x ∈ T, In asks x
  lt0 : ∀ x ∈ lot, x ∈ T
  re : ∀ x ∈ T, Reach asks lot x
  clo : ∀ (j : Nat) (x : Int), j < i → T[j]? = some x → ∀ y ∈ nZ (bz asks x).cl, y ∈ T
  len : T.length ≤ 10 + 12 * (dd T).length
  le : i ≤ T.length
theorem t21 (m : Nat) {lot : List Int} (M : Mem) (w : Wf asks) (hn : lot.Nodup) (hi : ∀ x ∈ lot, In asks x) : ∃ F : List Int, callAt Gc tx.T (m + 6) 21 [.d (prD h asks), .d (iT lot)] M = .ok (.d (.list (F.map .int))) M ∧ (∀ x, x ∈ F ↔ Reach asks lot x) ∧ F.length ≤ 130 ∧ ∀ x ∈ F, In asks x := by
  rw [show m + 6 = (m + 5) + 1 by omega, call_is (f := f21) rfl]
  let C := callAt Gc tx.T (m + 5)
  have hlen := w.len
  have hll := in_len hn hi
  have bound : ∀ {T : List Int} {i : Nat}, G21 asks lot T i → T.length ≤ 130 := fun {T i} g => by
    have h1 := in_len (dd_nodup T) fun x hx => g.inn x (mem_dd.mp hx)
    have := g.len
    omega
  obtain ⟨σ', M', e, hPQ⟩ := forL_brk (tg := .nm 3) (b := evSs Gc C in21)
    (fun i σ M' => ∃ (T : List Int) (t3 : Option Val), σ = [some (.d (prD h asks)), some (.d (iT lot)), some (.ref M.length), t3, none] ∧ M' = M ++ [.lst (T.map .int)] ∧ G21 asks lot T i)
    (fun σ M' => ∃ (T : List Int) (t3 : Option Val), σ = [some (.d (prD h asks)), some (.d (iT lot)), some (.ref M.length), t3, none] ∧ M' = M ++ [.lst (T.map .int)] ∧ G21 asks lot T T.length) (xs := (rI 200).map .int) (n := 0)
    (σ := [some (.d (prD h asks)), some (.d (iT lot)), some (.ref M.length), none, none]) (M := M ++ [.lst (lot.map .int)])
    ⟨lot, none, rfl, rfl, ⟨hi, fun x hx => hx, fun x hx => .base hx, fun j x hj => absurd hj (Nat.not_lt_zero _), by omega, Nat.zero_le _⟩⟩ (by
      rintro i x σ M' hx ⟨T, t3, rfl, rfl, g⟩
      obtain ⟨hi2, rfl⟩ := rI_at hx
      rw [Nat.zero_add] at g ⊢
      have hTl := bound g
      have hr := get_end M (.lst (T.map PyData.int))
      have hlr := x_lenr hr
      rw [List.length_map] at hlr
      refine ⟨[some (.d (prD h asks)), some (.d (iT lot)), some (.ref M.length), some (.d (.int (i : Nat))), none], rfl, ?_⟩
      by_cases hp : T.length ≤ i
      · refine .inr ⟨[some (.d (prD h asks)), some (.d (iT lot)), some (.ref M.length), some (.d (.int (i : Nat))), none], M ++ [.lst (T.map .int)], ?_, T, some (.d (.int (i : Nat))), rfl, rfl, ⟨g.inn, g.lt0, g.re, fun j x hj => g.clo j x (by omega), g.len, Nat.le_refl _⟩⟩
        rw [in21_is]
        simp [hlr, hp]
      · have hp' : i < T.length := by omega
        have hgx : T[i]? = some T[i] := List.getElem?_eq_getElem hp'
        have hin := g.inn _ (List.getElem_mem hp')
        obtain ⟨a, ha, hb, hx⟩ := bz_at hin
        have hm := List.mem_of_getElem? ha
        have hnn := w.nn a hm
        have hcl := Its.cl_len a.2
        have hc := t20 4 m a.2 (M ++ [.lst (T.map PyData.int)]) (w.dp a hm) (by omega)
        rw [nI_nZ] at hc
        have hat := ask_at ha
        rw [← hx] at hat
        have hat2 : L2.atI (T.map PyData.int) ((i : Nat) : Int) = some (.int T[i]) := L2.atI_nat (by rw [List.getElem?_map, hgx]; rfl)
        have e := lcL_fil (tg := .nm 4) (own := [4]) (c := evE Gc C (.cmp .notin (.var 4) (.var 2))) (f := evE Gc C (.var 4)) (σ := [some (.d (prD h asks)), some (.d (iT lot)), some (.ref M.length), some (.d (.int (i : Nat))), none]) (M := M ++ [.lst (T.map PyData.int)])
          (p := pNot T) (y := fun x => x) (xs := (nZ a.2.cl).map .int) (fun x hx => by
            obtain ⟨j, hj, rfl⟩ := List.mem_map.mp hx
            have hin : cmpV (M ++ [.lst (T.map PyData.int)]) .notin (.d (.int j)) (.ref M.length) = some (!decide (j ∈ T)) := by
              rw [x_cmpr hr]
              show (inD _ _).map not = _
              rw [in_listI]
              rfl
            exact ⟨_, rfl, by simp [sTst, wipeE, hin, pNot], fun _ => by simp [wipeE]⟩)
        rw [fil_not] at e
        let N := (nZ a.2.cl).filter fun z => !decide (z ∈ T)
        have hNm : ∀ y, y ∈ N ↔ y ∈ nZ (bz asks T[i]).cl ∧ y ∉ T := fun y => by
          rw [hb]
          show y ∈ List.filter _ _ ↔ _
          rw [List.mem_filter]
          simp
        have hNl : N.length ≤ 12 := by
          have : N.length ≤ (nZ a.2.cl).length := List.length_filter_le _ _
          rw [show (nZ a.2.cl).length = a.2.cl.length from List.length_map _] at this
          omega
        have hNlim : N.length ≤ lim := by unfold lim; omega
        have hl2 : T.length + N.length ≤ lim := by unfold lim; omega
        have hk := x_kind (m := .extend) (fun h => by cases h) (fun h => by cases h) hr
        have hext := x_ext (ys := N.map PyData.int) hr
        rw [List.length_map, List.length_map, if_pos hl2, set_end, ← List.map_append] at hext
        have hp1 := pr1 h asks (M ++ [.lst (T.map PyData.int)])
        have hix := x_ixr (i := ((i : Nat) : Int)) hr
        rw [hat2] at hix
        have s1 : evS Gc C (.iff (.cmp .ge (.var 3) (.bi .len (.cons (.var 2) .nil))) (.cons .brk .nil) .nil) [some (.d (prD h asks)), some (.d (iT lot)), some (.ref M.length), some (.d (.int (i : Nat))), none] (M ++ [.lst (T.map .int)]) = .ok (.nx [some (.d (prD h asks)), some (.d (iT lot)), some (.ref M.length), some (.d (.int (i : Nat))), none]) (M ++ [.lst (T.map .int)]) := by
          simp [hlr, hp]
        have s2 : evS Gc C s21 [some (.d (prD h asks)), some (.d (iT lot)), some (.ref M.length), some (.d (.int (i : Nat))), none] (M ++ [.lst (T.map .int)]) = .ok (.nx [some (.d (prD h asks)), some (.d (iT lot)), some (.ref M.length), some (.d (.int (i : Nat))), none]) (M ++ [.lst ((T ++ N).map .int)]) := by
          have hc' : C 20 [.d (.tuple a.2.Ds)] (M ++ [.lst (T.map PyData.int)]) = .ok (.d (.list ((nZ a.2.cl).map .int))) (M ++ [.lst (T.map PyData.int)]) := hc
          have e' : lcL (.nm 4) [4] (some (evE Gc C (.cmp .notin (.var 4) (.var 2)))) (evE Gc C (.var 4)) [some (.d (prD h asks)), some (.d (iT lot)), some (.ref M.length), some (.d (.int (i : Nat))), none] ((nZ a.2.cl).map .int) (M ++ [.lst (T.map PyData.int)]) = .ok (N.map .int) (M ++ [.lst (T.map PyData.int)]) := e
          generalize hcf : (nZ a.2.cl).map PyData.int = cf at *
          generalize N = N at *
          generalize prD h asks = p at *
          generalize T[i] = fx at *
          generalize M ++ [Ob.lst (T.map PyData.int)] = M1 at *
          simp only [s21, x_exp, x_mt, x_var, x_lc, x_ov, x_call, x_cons, x_idx, x_con, x_nil, x_gete0, x_getes, x_ofS, x_bok, hk, if_true, hp1, hix, Option.map_some, x_ixt, hat, at1, hc', evC, e', List.length_map, hNlim, hext]
        refine .inl ⟨[some (.d (prD h asks)), some (.d (iT lot)), some (.ref M.length), some (.d (.int (i : Nat))), none], M ++ [.lst ((T ++ N).map .int)], by rw [in21_is, sqn s1, sqn s2, x_snil], T ++ N, some (.d (.int (i : Nat))), rfl, rfl, ?_⟩
        refine ⟨fun x hx => (List.mem_append.mp hx).elim (g.inn x) fun hx => call_in w hin ((hNm x).mp hx).1, fun x hx => List.mem_append_left _ (g.lt0 x hx), fun x hx => ?_, fun j x hj hxj => ?_, ?_, by rw [List.length_append]; omega⟩
        · rcases List.mem_append.mp hx with hx | hx
          · exact g.re x hx
          · exact .step (g.re _ (List.getElem_mem hp')) ((hNm x).mp hx).1
        · have hjl : j < T.length := by omega
          rw [List.getElem?_append_left hjl] at hxj
          by_cases hjp : j < i
          · exact fun y hy => List.mem_append_left _ (g.clo j x hjp hxj y hy)
          · have hjp' : j = i := by omega
            subst hjp'
            have : x = T[j] := by rw [hgx] at hxj; exact (Option.some.inj hxj).symm
            subst this
            intro y hy
            by_cases hyF : y ∈ T
            · exact List.mem_append_left _ hyF
            · exact List.mem_append_right _ ((hNm y).mpr ⟨hy, hyF⟩)
        · by_cases hNe : N = []
          · rw [hNe, List.append_nil]
            exact g.len
          · have h1 := dd_grow hNe fun x hx => ((hNm x).mp hx).2
            have h2 := g.len
            rw [List.length_append]
            omega)
  have hQ : ∃ (T : List Int) (t3 : Option Val), σ' = [some (.d (prD h asks)), some (.d (iT lot)), some (.ref M.length), t3, none] ∧ M' = M ++ [.lst (T.map .int)] ∧ G21 asks lot T T.length := by
    rcases hPQ with ⟨T, t3, h1, h2, g⟩ | hQ
    · have h3 := bound g
      have h4 := g.le
      rw [List.length_map, rI_len] at h4
      omega
    · exact hQ
  obtain ⟨T, t3, rfl, rfl, g⟩ := hQ
  refine ⟨T, ?_, reach_iff g.lt0 g.re (fun x hx y hy => by
    obtain ⟨j, hj, e⟩ := List.getElem_of_mem hx
    exact g.clo j x hj (by rw [List.getElem?_eq_getElem hj, e]) y hy), bound g, g.inn⟩
  have hr := get_end M (.lst (T.map PyData.int))
  have hlot : lot.length ≤ lim := by unfold lim; omega
  rw [run_rt (fn := f21) (σ0 := [some (.d (prD h asks)), some (.d (iT lot)), none, none, none]) (v := .d (.list (T.map .int))) (M1 := M ++ [.dead]) rfl rfl ?_]
  · show outV M.length true _ _ = _
    rw [out_d, take_app]
  show evSs Gc C b21 _ M = _
  have s0 : evS Gc C (.set 2 (.new (.bi .list (.cons (.var 1) .nil)))) [some (.d (prD h asks)), some (.d (iT lot)), none, none, none] M = .ok (.nx [some (.d (prD h asks)), some (.d (iT lot)), some (.ref M.length), none, none]) (M ++ [.lst (lot.map .int)]) := by simp [iT]
  have hr2 : rngOk 0 200 = true := by decide
  have hr3 : rngD 0 200 = (rI 200).map .int := rngD_rI 200
  have s1 : evS Gc C (.forr (.nm 3) (.rg1 (.con (.int 200))) in21) [some (.d (prD h asks)), some (.d (iT lot)), some (.ref M.length), none, none] (M ++ [.lst (lot.map .int)]) = .ok (.nx [some (.d (prD h asks)), some (.d (iT lot)), some (.ref M.length), t3, none]) (M ++ [.lst (T.map .int)]) := by
    rw [x_forr, ← e]
    generalize in21 = IN at *
    simp only [x_rg1, x_con, x_bok, hr2, if_true, hr3]
  have s2 : evS Gc C (.frz 2) [some (.d (prD h asks)), some (.d (iT lot)), some (.ref M.length), t3, none] (M ++ [.lst (T.map .int)]) = .ok (.nx [some (.d (prD h asks)), some (.d (iT lot)), some (.d (.list (T.map .int))), t3, none]) (M ++ [.dead]) := by
    rw [x_frz]
    simp only [x_gete0, x_getes, hr, set_end]
    rfl
  rw [b21_is, sqn s0, sqn s1, sqn s2]
  simp
end
end Mp.k06
end
section
set_option maxHeartbeats 4000000
namespace Mp.k06
open PySem PySem.Spec PyProof.Rows L2 Mp

def fl1 : Tm → Option (List Int)
  | .inr (a, b) => some [a, b]
  | .inl _ => none
def fls (ts : List Tm) : List (List Int) := ts.filterMap fl1
theorem fls_len (ts : List Tm) : (fls ts).length ≤ ts.length := List.length_filterMap_le _ _
theorem fls_app (a b : List Tm) : fls (a ++ b) = fls a ++ fls b := by simp [fls]
theorem fls_ne {ts : List Tm} : ∀ p ∈ fls ts, p ≠ [] := by
  intro p hp
  obtain ⟨t, _, ht⟩ := List.mem_filterMap.mp hp
  cases t with
  | inl x => cases ht
  | inr ab => obtain ⟨a, b⟩ := ab; cases ht; simp
def in7 : MSs := .cons (.iff (.cmp .eq (.idx (.var 4) (.con (.int 0))) (.con (.str ("f" : Str)))) (.cons (.setI (.var 2) (.tup (.cons (.idx (.var 4) (.con (.int 1))) (.cons (.idx (.var 4) (.con (.int 2))) .nil))) (.con (.bool true))) .nil) .nil) .nil
def out7 : MSs := .cons (.forr (.nm 4) (.ov (.call 4 (.cons (.idx (.idx (.idx (.var 0) (.con (.int 1))) (.var 3)) (.con (.int 1))) .nil))) in7) .nil
theorem b7_is : b7 = .cons (.set 2 (.dnw true)) (.cons (.forr (.nm 3) (.ov (.call 3 (.cons (.var 0) (.cons (.var 1) .nil)))) out7) (.cons (.ret (.bi .tuple (.cons (.bi .sorted (.cons (.var 2) .nil)) .nil))) .nil)) := rfl
theorem insP_len (acc : List (List Int)) (x : List Int) : (insP acc x).length ≤ acc.length + 1 := by unfold insP; split <;> simp
theorem loop7 {C : CT} {M : Mem} {p l ask : Val} : ∀ {ts : List Tm} {acc : List (List Int)} {s4 : Option Val}, acc.length + ts.length < lim → ∃ t4, forL (.nm 4) (evSs Gc C in7) (tms ts) [some p, some l, some (.ref M.length), some ask, s4] (M ++ [.dT (kvP acc)]) =
    .ok (.nx [some p, some l, some (.ref M.length), some ask, t4]) (M ++ [.dT (kvP ((fls ts).foldl insP acc))])
  | [], acc, s4, _ => ⟨s4, rfl⟩
  | t :: ts, acc, s4, hl => by
    rw [List.length_cons] at hl
    show ∃ t4, forL (.nm 4) _ (tmD t :: tms ts) _ _ = _
    cases t with
    | inr ab =>
      obtain ⟨a, b⟩ := ab
      have hi := insP_len acc [a, b]
      have l2 : 2 ≤ lim := by unfold lim; omega
      obtain ⟨t4, e⟩ := loop7 (C := C) (M := M) (p := p) (l := l) (ask := ask) (ts := ts) (acc := insP acc [a, b]) (s4 := some (.d (tmD (.inr (a, b))))) (by omega)
      refine ⟨t4, ?_⟩
      have hs := x_sett (y := .bool true) (get_end M (.dT (kvP acc))) (nkT_iT [a, b])
      rw [show (kvP acc).length = acc.length from List.length_map _, if_pos (by omega), set_end, kvP_put] at hs
      have hs' : setV (M ++ [.dT (kvP acc)]) (.ref M.length) (.d (.tuple [.int a, .int b])) (.d (.bool true)) = some (M ++ [.dT (kvP (insP acc [a, b]))]) := hs
      have e1 : evSs Gc C in7 [some p, some l, some (.ref M.length), some ask, some (.d (tmD (.inr (a, b))))] (M ++ [.dT (kvP acc)]) = .ok (.nx [some p, some l, some (.ref M.length), some ask, some (.d (tmD (.inr (a, b))))]) (M ++ [.dT (kvP (insP acc [a, b]))]) := by
        simp [in7, tmD, atI0, at1, at2, q_ff, l2, hs']
      rw [forL_cons (σ1 := [some p, some l, some (.ref M.length), some ask, some (.d (tmD (.inr (a, b))))]) rfl e1, e]
      rfl
    | inl x =>
      obtain ⟨t4, e⟩ := loop7 (C := C) (M := M) (p := p) (l := l) (ask := ask) (ts := ts) (acc := acc) (s4 := some (.d (tmD (.inl x)))) (by omega)
      refine ⟨t4, ?_⟩
      have e1 : evSs Gc C in7 [some p, some l, some (.ref M.length), some ask, some (.d (tmD (.inl x)))] (M ++ [.dT (kvP acc)]) = .ok (.nx [some p, some l, some (.ref M.length), some ask, some (.d (tmD (.inl x)))]) (M ++ [.dT (kvP acc)]) := by
        simp [in7, tmD, atI0, q_cf]
      rw [forL_cons (σ1 := [some p, some l, some (.ref M.length), some ask, some (.d (tmD (.inl x)))]) rfl e1, e]
      rfl
section
variable {h : Mp.D} {asks : List Ask}
def rF (asks : List Ask) (F : List Int) : List (List Int) := F.flatMap fun x => fls (bz asks x).tm
theorem bz_tm (w : Wf asks) {x : Int} (hx : In asks x) : (bz asks x).tm.length ≤ 84 ∧ (bz asks x).dp ≤ 4 ∧ (bz asks x).cw 3 ∧ (bz asks x).nn ≤ 12 := by
  obtain ⟨a, ha, hb, _⟩ := bz_at hx
  have hm := List.mem_of_getElem? ha
  rw [hb]
  have h1 := Its.tm_len (k := 3) a.2 (w.cw a hm)
  have h2 := w.nn a hm
  exact ⟨by omega, w.dp a hm, w.cw a hm, h2⟩
theorem t7 (m : Nat) {lot : List Int} (M : Mem) (w : Wf asks) (hn : lot.Nodup) (hi : ∀ x ∈ lot, In asks x) : ∃ F : List Int, callAt Gc tx.T (m + 8) 7 [.d (prD h asks), .d (iT lot)] M = .ok (.d (.tuple ((sortP (ddP (rF asks F))).map iT))) M ∧ (∀ x, x ∈ F ↔ Reach asks lot x) ∧ (rF asks F).length ≤ 1000 := by
  rw [show m + 8 = (m + 7) + 1 by omega, call_is (f := f7) rfl]
  let C := callAt Gc tx.T (m + 7)
  have hlen0 := w.len
  obtain ⟨F, hF, hFr, hFl, hFi⟩ := t3 m (h := h) (M ++ [.dT []]) w hn hi
  obtain ⟨σ', M', e, acc, s3, s4, rfl, rfl, hacc, hlen⟩ := forL_go (tg := .nm 3) (b := evSs Gc C out7) (xs := F.map .int) (σ := [some (.d (prD h asks)), some (.d (iT lot)), some (.ref M.length), none, none]) (M := M ++ [.dT []])
    (fun i σ M' => ∃ (acc : List (List Int)) (s3 s4 : Option Val), σ = [some (.d (prD h asks)), some (.d (iT lot)), some (.ref M.length), s3, s4] ∧ M' = M ++ [.dT (kvP acc)] ∧ acc = ddP (rF asks (F.take i)) ∧ acc.length ≤ i * 100)
    ⟨[], none, none, rfl, rfl, rfl, Nat.le_refl _⟩ (by
      rintro i x σ M' hx ⟨acc, s3, s4, rfl, rfl, hacc, hlen⟩
      rw [List.getElem?_map] at hx
      obtain ⟨y, hy, rfl⟩ := Option.map_eq_some_iff.mp hx
      have hiF := (List.getElem?_eq_some_iff.mp hy).1
      have hin := hFi y (List.mem_of_getElem? hy)
      obtain ⟨a, ha, hb, hyn⟩ := bz_at hin
      obtain ⟨g1, g2, g3, g4⟩ := bz_tm w hin
      have hc0 := t4 4 (m + 2) (bz asks y) (M ++ [.dT (kvP acc)]) g2 g3 (by omega)
      obtain ⟨t4', e1⟩ := loop7 (C := C) (M := M) (p := .d (prD h asks)) (l := .d (iT lot)) (ask := .d (.int y)) (ts := (bz asks y).tm) (acc := acc) (s4 := s4) (by unfold lim; omega)
      have hat := ask_at ha
      rw [← hyn, ← hb] at hat
      refine ⟨[some (.d (prD h asks)), some (.d (iT lot)), some (.ref M.length), some (.d (.int y)), s4], [some (.d (prD h asks)), some (.d (iT lot)), some (.ref M.length), some (.d (.int y)), t4'], M ++ [.dT (kvP ((fls (bz asks y).tm).foldl insP acc))], rfl, ?_, _, _, _, rfl, rfl, ?_, ?_⟩
      · have e2 : evS Gc C (.forr (.nm 4) (.ov (.call 4 (.cons (.idx (.idx (.idx (.var 0) (.con (.int 1))) (.var 3)) (.con (.int 1))) .nil))) in7) [some (.d (prD h asks)), some (.d (iT lot)), some (.ref M.length), some (.d (.int y)), s4] (M ++ [.dT (kvP acc)]) =
            .ok (.nx [some (.d (prD h asks)), some (.d (iT lot)), some (.ref M.length), some (.d (.int y)), t4']) (M ++ [.dT (kvP ((fls (bz asks y).tm).foldl insP acc))]) := by
          rw [x_forr, x_ov, ← e1]
          have hc0' : C 4 [.d (.tuple (bz asks y).Ds)] (M ++ [.dT (kvP acc)]) = .ok (.d (.list (tms (bz asks y).tm))) (M ++ [.dT (kvP acc)]) := hc0
          simp only [x_call, x_cons, x_idx, x_var, x_con, x_nil, x_gete0, x_getes, x_ofS, x_bok, pr1, x_ixt, hat, at1, Option.map_some, hc0']
        unfold out7
        rw [sqn e2, x_snil]
      · rw [hacc, List.take_add_one, hy]
        unfold rF ddP
        rw [List.flatMap_append, List.foldl_append]
        simp
      · have := ddP_len (fls (bz asks y).tm) acc
        have := fls_len (bz asks y).tm
        omega)
  rw [List.length_map] at hlen
  rw [List.length_map, List.take_length] at hacc
  have hrl : (rF asks F).length ≤ 1000 := by
    have : ∀ F : List Int, (∀ x ∈ F, In asks x) → (rF asks F).length ≤ 84 * F.length := by
      intro F
      induction F with
      | nil => intro _; exact Nat.le_refl _
      | cons x F ih =>
        intro hF
        have h1 := ih fun y hy => hF y (List.mem_cons_of_mem _ hy)
        have h2 := (bz_tm w (hF x List.mem_cons_self)).1
        have h3 := fls_len (bz asks x).tm
        unfold rF at h1 ⊢
        rw [List.flatMap_cons, List.length_append, List.length_cons]
        omega
    have := this F hFi
    omega
  refine ⟨F, ?_, hFr, hrl⟩
  have hne : ∀ p ∈ acc, p ≠ [] := fun p hp => by
    rw [hacc, mem_ddP] at hp
    obtain ⟨x, _, hx⟩ := List.mem_flatMap.mp hp
    exact fls_ne p hx
  have hb := x_bsd (get_end M (.dT (kvP acc)))
  rw [kvP_keys, sortD_iT (.inl hne) (by unfold lim; omega)] at hb
  have e1 : evS Gc C (.set 2 (.dnw true)) [some (.d (prD h asks)), some (.d (iT lot)), none, none, none] M = .ok (.nx [some (.d (prD h asks)), some (.d (iT lot)), some (.ref M.length), none, none]) (M ++ [.dT []]) := by simp
  have e2 : evS Gc C (.forr (.nm 3) (.ov (.call 3 (.cons (.var 0) (.cons (.var 1) .nil)))) out7) [some (.d (prD h asks)), some (.d (iT lot)), some (.ref M.length), none, none] (M ++ [.dT []]) = .ok (.nx [some (.d (prD h asks)), some (.d (iT lot)), some (.ref M.length), s3, s4]) (M ++ [.dT (kvP acc)]) := by
    rw [x_forr, ← e]
    have hF' : C 3 [.d (prD h asks), .d (iT lot)] (M ++ [.dT []]) = _ := hF
    generalize out7 = O at *
    simp [hF']
  rw [run_rt (fn := f7) (σ0 := [some (.d (prD h asks)), some (.d (iT lot)), none, none, none]) (v := .d (.tuple ((sortP acc).map iT))) (M1 := M ++ [.dT (kvP acc)]) rfl rfl ?_]
  · show outV M.length true _ _ = _
    rw [out_d, take_app, hacc]
  show evSs Gc C b7 _ M = _
  rw [b7_is, sqn e1, sqn e2]
  simp [hb]
end
end Mp.k06
end
section
set_option maxHeartbeats 4000000
namespace Mp.k06
open PySem PySem.Spec PyProof.Rows L2 Mp

mutual
def wkI : It → Prop
  | .say w => pn 0 w = true
  | .when cs a b => (∀ c ∈ cs, pn 0 c.1 = true) ∧ wkS a ∧ wkS b
  | _ => True
def wkS : Its → Prop
  | .nil => True
  | .cons i r => wkI i ∧ wkS r
end
theorem pn_tm (t : Tm) : pn 1 (tmD t) = true := by
  cases t with
  | inl x =>
    exact pn_tup (fun y hy => by
      simp only [List.mem_cons, List.not_mem_nil, or_false] at hy
      rcases hy with rfl | rfl
      · decide +kernel
      · rfl) (by show 2 ≤ lim; unfold lim; omega)
  | inr ab =>
    obtain ⟨a, b⟩ := ab
    exact pn_tup (fun y hy => by
      simp only [List.mem_cons, List.not_mem_nil, or_false] at hy
      rcases hy with rfl | rfl | rfl
      · decide +kernel
      · rfl
      · rfl) (by show 3 ≤ lim; unfold lim; omega)
theorem pn_cnd {c : Mp.D × Tm × Tm} (h : pn 0 c.1 = true) : pn 2 (cndD c) = true := pn_tup (fun y hy => by
  simp only [List.mem_cons, List.not_mem_nil, or_false] at hy
  rcases hy with rfl | rfl | rfl
  · exact pn_le h (by decide)
  · exact pn_tm _
  · exact pn_tm _) (by show 3 ≤ lim; unfold lim; omega)
theorem sh_when : SeqAt.shaped (.str ("when" : Str)) = true := by decide +kernel
theorem sh_say : SeqAt.shaped (.str ("say" : Str)) = true := by decide +kernel
theorem sh_show : SeqAt.shaped (.str ("show" : Str)) = true := by decide +kernel
section
variable {g : Nat → List Mp.D} {e : Nat}
theorem pn_tup4 {d : Nat} {a b c x : Mp.D} (h1 : pn d a = true) (h2 : pn d b = true) (h3 : pn d c = true) (h4 : pn d x = true) : pn (d + 1) (.tuple [a, b, c, x]) = true := pn_tup (fun y hy => by
  simp only [List.mem_cons, List.not_mem_nil, or_false] at hy
  rcases hy with rfl | rfl | rfl | rfl <;> assumption) (by show 4 ≤ lim; unfold lim; omega)
theorem pn_tup2 {d : Nat} {a b : Mp.D} (h1 : pn d a = true) (h2 : pn d b = true) : pn (d + 1) (.tuple [a, b]) = true := pn_tup (fun y hy => by
  simp only [List.mem_cons, List.not_mem_nil, or_false] at hy
  rcases hy with rfl | rfl <;> assumption) (by show 2 ≤ lim; unfold lim; omega)
theorem pn_nil {d : Nat} : pn (d + 1) (.tuple []) = true := pn_tup (fun y hy => by cases hy) (Nat.zero_le _)
theorem woIts_len (g : Nat → List Mp.D) : ∀ its : Its, (woIts g its).length = its.Ds.length
  | .nil => rfl
  | .cons i r => by
    show (woIts g r).length + 1 = r.Ds.length + 1
    rw [woIts_len g r]
mutual
theorem pnI (he : 3 ≤ e) (hg : ∀ k, pn e (.tuple (g k)) = true) : ∀ i : It, wkI i → i.nn ≤ 1000 → i.cw 3 → pn (e + 1 + 2 * i.dp) (woIt g i) = true
  | .say w, h, _, _ => pn_le (pn_tup2 (d := 0) (by rw [pn_str]; exact sh_say) h) (by omega)
  | .shw t, _, _, _ => pn_le (pn_tup2 (d := 1) (by rw [pn_str]; exact sh_show) (pn_tm t)) (by omega)
  | .call k, _, _, _ => by
    have := pn_tup4 (d := e) (a := .str ("when" : Str)) (b := .tuple []) (c := .tuple (g k)) (x := .tuple []) (by rw [pn_str]; exact sh_when) (pn_le (d := 1) pn_nil (by omega)) (hg k) (pn_le (d := 1) pn_nil (by omega))
    exact pn_le this (by omega)
  | .when cs a b, h, hn, hw => by
    obtain ⟨h0, h1, h2⟩ := h
    obtain ⟨w0, w1, w2⟩ := hw
    have hn' : 1 + (a.nn + b.nn) ≤ 1000 := hn
    have q1 := pnS he hg a h1 (by omega) w1
    have q2 := pnS he hg b h2 (by omega) w2
    have hd : (It.when cs a b).dp = max a.dp b.dp + 1 := rfl
    rw [hd]
    have l1 := Its.len_nn a
    have l2 := Its.len_nn b
    have := pn_tup4 (d := e + 2 + 2 * max a.dp b.dp) (a := .str ("when" : Str)) (b := .tuple (cs.map cndD)) (c := .tuple (woIts g a)) (x := .tuple (woIts g b)) (by rw [pn_str]; exact sh_when)
      (pn_le (d := 3) (pn_tup (fun y hy => by
        obtain ⟨c, hc, rfl⟩ := List.mem_map.mp hy
        exact pn_cnd (h0 c hc)) (by rw [List.length_map]; unfold lim; omega)) (by omega))
      (pn_le (d := e + 1 + 2 * a.dp + 1) (pn_tup q1 (by rw [woIts_len]; unfold lim; omega)) (by omega))
      (pn_le (d := e + 1 + 2 * b.dp + 1) (pn_tup q2 (by rw [woIts_len]; unfold lim; omega)) (by omega))
    exact pn_le this (by omega)
theorem pnS (he : 3 ≤ e) (hg : ∀ k, pn e (.tuple (g k)) = true) : ∀ its : Its, wkS its → its.nn ≤ 1000 → its.cw 3 → ∀ x ∈ woIts g its, pn (e + 1 + 2 * its.dp) x = true
  | .nil, _, _, _ => fun x hx => by cases hx
  | .cons i r, h, hn, hw => fun x hx => by
    have hn' : i.nn + r.nn ≤ 1000 := hn
    have hd : (Its.cons i r).dp = max i.dp r.dp := rfl
    rw [hd]
    have hx' : x ∈ woIt g i :: woIts g r := hx
    rcases List.mem_cons.mp hx' with rfl | hx
    · exact pn_le (pnI he hg i h.1 (by omega) hw.1) (by omega)
    · exact pn_le (pnS he hg r h.2 (by omega) hw.2 x hx) (by omega)
end
end
structure Wk (asks : List Ask) : Prop extends Wf asks where
  wk : ∀ a ∈ asks, wkS a.2
theorem pn_wo {asks : List Ask} (w : Wk asks) : ∀ (f k : Nat), pn (3 + 10 * f) (.tuple (wo asks f k)) = true
  | 0, k => pn_le (d := 1) pn_nil (by omega)
  | f + 1, k => by
    have ih := pn_wo w f
    show pn (3 + 10 * (f + 1)) (.tuple (woIts (wo asks f) (bk asks k))) = true
    cases hg : asks[k]? with
    | none =>
      have : bk asks k = .nil := by unfold bk; rw [hg]; rfl
      rw [this]
      exact pn_le (d := 1) pn_nil (by omega)
    | some a =>
      have hb : bk asks k = a.2 := by unfold bk; rw [hg]; rfl
      rw [hb]
      have hm := List.mem_of_getElem? hg
      have h12 := w.nn a hm
      have h4 := w.dp a hm
      have l1 := Its.len_nn a.2
      exact pn_le (d := 3 + 10 * f + 1 + 2 * a.2.dp + 1) (pn_tup (pnS (by omega) ih a.2 (w.wk a hm) (by omega) (w.cw a hm)) (by rw [woIts_len]; unfold lim; omega)) (by omega)
/-! ### whens of a block -/
def whs : Its → List (Mp.D × Its × Its)
  | .nil => []
  | .cons i r => match i with
    | .when cs a b => ((It.when cs a b).D, a, b) :: whs r
    | _ => whs r
def pWh (x : Mp.D) : Bool := match x with | .tuple (.str s :: _) => s == ("when" : Str) | _ => false
theorem whs_fil : ∀ its : Its, its.Ds.filter pWh = (whs its).map (·.1)
  | .nil => rfl
  | .cons i r => by
    have ih := whs_fil r
    show (i.D :: r.Ds).filter pWh = _
    cases i with
    | say w => rw [List.filter_cons_of_neg (by show ¬ (("say" : Str) == ("when" : Str)) = true; decide), ih]; rfl
    | call k => rw [List.filter_cons_of_neg (by show ¬ (("call" : Str) == ("when" : Str)) = true; decide), ih]; rfl
    | shw t => rw [List.filter_cons_of_neg (by show ¬ (("show" : Str) == ("when" : Str)) = true; decide), ih]; rfl
    | when cs a b => rw [List.filter_cons_of_pos (by show (("when" : Str) == ("when" : Str)) = true; decide), ih]; rfl
theorem mem_Ds : ∀ {its : Its} {x : Mp.D}, x ∈ its.Ds → ∃ i : It, x = i.D
  | .nil, x, h => by cases h
  | .cons i r, x, h => by
    have h' : x ∈ i.D :: r.Ds := h
    rcases List.mem_cons.mp h' with rfl | h
    · exact ⟨i, rfl⟩
    · exact mem_Ds h
theorem whs_ok : ∀ {its : Its} {w : Mp.D × Its × Its}, w ∈ whs its → (∃ cs : List (Mp.D × Tm × Tm), w.1 = .tuple [.str ("when" : Str), .tuple (cs.map cndD), .tuple w.2.1.Ds, .tuple w.2.2.Ds]) ∧ w.2.1.dp ≤ its.dp ∧ w.2.2.dp ≤ its.dp
  | .nil, w, h => by cases h
  | .cons i r, w, h => by
    have hd : (Its.cons i r).dp = max i.dp r.dp := rfl
    rw [hd]
    have rest : w ∈ whs r → (∃ cs : List (Mp.D × Tm × Tm), w.1 = .tuple [.str ("when" : Str), .tuple (cs.map cndD), .tuple w.2.1.Ds, .tuple w.2.2.Ds]) ∧ w.2.1.dp ≤ max i.dp r.dp ∧ w.2.2.dp ≤ max i.dp r.dp := fun h => by
      obtain ⟨h1, h2, h3⟩ := whs_ok h
      exact ⟨h1, by omega, by omega⟩
    cases i with
    | say w => exact rest h
    | call k => exact rest h
    | shw t => exact rest h
    | when cs a b =>
      have h' : w ∈ ((It.when cs a b).D, a, b) :: whs r := h
      rcases List.mem_cons.mp h' with rfl | h
      · have : (It.when cs a b).dp = max a.dp b.dp + 1 := rfl
        exact ⟨⟨cs, rfl⟩, by show a.dp ≤ _; omega, by show b.dp ≤ _; omega⟩
      · exact rest h
end Mp.k06
end
section
set_option maxHeartbeats 4000000
namespace Mp.k06
open PySem PySem.Spec PyProof.Rows L2 Mp

abbrev C40 : CT := callAt Gc tx.T 40
def pC (x : Mp.D) : Bool := match x with | .tuple (.str s :: _) => s == ("c" : Str) | _ => false
def yC (x : Mp.D) : Mp.D := match x with | .tuple [_, v] => v | _ => .none
def pF (x : Mp.D) : Bool := match x with | .tuple (.str s :: _) => s == ("f" : Str) | _ => false
def yF (x : Mp.D) : Mp.D := match x with | .tuple (_ :: r) => .tuple r | _ => .none
theorem fil_c : ∀ ts : List Tm, ((tms ts).filter pC).map yC = (cons ts).map .int
  | [] => rfl
  | .inl x :: ts => by
    have ih := fil_c ts
    show (List.filter pC (tmD (.inl x) :: tms ts)).map yC = _
    rw [List.filter_cons_of_pos (by show (("c" : Str) == ("c" : Str)) = true; decide), List.map_cons, ih]
    rfl
  | .inr (a, b) :: ts => by
    have ih := fil_c ts
    show (List.filter pC (tmD (.inr (a, b)) :: tms ts)).map yC = _
    rw [List.filter_cons_of_neg (by show ¬ (("f" : Str) == ("c" : Str)) = true; decide), ih]
    rfl
theorem fil_f : ∀ ts : List Tm, ((tms ts).filter pF).map yF = (fls ts).map iT
  | [] => rfl
  | .inl x :: ts => by
    have ih := fil_f ts
    show (List.filter pF (tmD (.inl x) :: tms ts)).map yF = _
    rw [List.filter_cons_of_neg (by show ¬ (("c" : Str) == ("f" : Str)) = true; decide), ih]
    rfl
  | .inr (a, b) :: ts => by
    have ih := fil_f ts
    show (List.filter pF (tmD (.inr (a, b)) :: tms ts)).map yF = _
    rw [List.filter_cons_of_pos (by show (("f" : Str) == ("f" : Str)) = true; decide), List.map_cons, ih]
    rfl
def allT (asks : List Ask) : List Tm := asks.flatMap fun a => a.2.tm
theorem allC_T : ∀ asks : List Ask, allC asks = cons (allT asks)
  | [] => rfl
  | a :: asks => by
    have ih := allC_T asks
    unfold allC allT at *
    rw [List.flatMap_cons, List.flatMap_cons, cons_app, ih]
section
variable {h : Mp.D} {asks : List Ask} {M : Mem} {e1 e2 e3 e4 e5 e6 e7 e8 : Option Val}
abbrev S24 (p : Mp.D) (e1 e2 e3 e4 e5 e6 e7 e8 : Option Val) : Env := [some (.d p), e1, e2, e3, e4, e5, e6, e7, e8, none, none]
def a24 (i : Nat) : MS := nthS b24 i
theorem b24_is : b24 = .cons (a24 0) (.cons (a24 1) (.cons (a24 2) (.cons (a24 3) (.cons (a24 4) (.cons (a24 5) (.cons (a24 6) (.cons (a24 7) .nil))))))) := rfl
theorem tm_le (w : Wf asks) {a : Ask} (ha : a ∈ asks) : a.2.tm.length ≤ 84 := by
  have h1 := Its.tm_len (k := 3) a.2 (w.cw a ha)
  have h2 := w.nn a ha
  omega
theorem s24_1 (w : Wf asks) : ∃ u5 u6, evS Gc C40 (a24 1) (S24 (prD h asks) (some (.d (.list []))) e2 e3 e4 e5 e6 e7 e8) M = .ok (.nx (S24 (prD h asks) (some (.d (.list (tms (allT asks))))) e2 e3 e4 u5 u6 e7 e8)) M ∧ (allT asks).length ≤ 840 := by
  let B : MSs := .cons (.set 1 (.bin .add (.var 1) (.call 19 (.cons (.var 6) .nil)))) .nil
  have hlen := w.len
  obtain ⟨σ', M', e, u5, u6, rfl, rfl, hl⟩ := forL_go (tg := .tup2 (.nm 5) (.nm 6)) (b := evSs Gc C40 B) (xs := asks.map askD) (σ := S24 (prD h asks) (some (.d (.list []))) e2 e3 e4 e5 e6 e7 e8) (M := M)
    (fun i σ M' => ∃ u5 u6, σ = S24 (prD h asks) (some (.d (.list (tms (allT (asks.take i)))))) e2 e3 e4 u5 u6 e7 e8 ∧ M' = M ∧ (allT (asks.take i)).length ≤ i * 84) ⟨e5, e6, rfl, rfl, Nat.le_refl _⟩ (by
      rintro i x σ M' hx ⟨u5, u6, rfl, rfl, hl⟩
      rw [List.getElem?_map] at hx
      obtain ⟨a, ha, rfl⟩ := Option.map_eq_some_iff.mp hx
      have hi := (List.getElem?_eq_some_iff.mp ha).1
      have hm := List.mem_of_getElem? ha
      have hc := t19 4 35 a.2 M' (w.dp a hm) (w.cw a hm) (by have := w.nn a hm; omega)
      have htl := tm_le w hm
      have hll : (allT (asks.take i)).length + a.2.tm.length ≤ lim := by unfold lim; omega
      have htk : allT (asks.take (i + 1)) = allT (asks.take i) ++ a.2.tm := by
        unfold allT
        rw [List.take_add_one, ha, List.flatMap_append]
        simp
      refine ⟨S24 (prD h asks) (some (.d (.list (tms (allT (asks.take i)))))) e2 e3 e4 (some (.d a.1)) (some (.d (.tuple a.2.Ds))) e7 e8, _, _, rfl, ?_, some (.d a.1), some (.d (.tuple a.2.Ds)), rfl, rfl, by rw [htk, List.length_append]; omega⟩
      have hc' : C40 19 [.d (.tuple a.2.Ds)] M' = .ok (.d (.list (tms a.2.tm))) M' := hc
      rw [htk, tms_app]
      simp [B, hc', tms_len, hll])
  rw [List.length_map, List.take_length] at hl
  rw [List.length_map, List.take_length] at e
  refine ⟨u5, u6, ?_, by omega⟩
  have hp := pr1 h asks M'
  show evS Gc C40 (.forr (.tup2 (.nm 5) (.nm 6)) (.ov (.idx (.var 0) (.con (.int 1)))) B) _ _ = _
  rw [x_forr, ← e]
  generalize B = BB at *
  simp only [x_ov, x_idx, x_var, x_con, x_gete0, x_ofS, x_bok, hp]
theorem s24_2 (w : Wf asks) (hl : (allT asks).length ≤ 840) : evS Gc C40 (a24 2) (S24 (prD h asks) (some (.d (.list (tms (allT asks))))) e2 e3 e4 e5 e6 e7 e8) M = .ok (.nx (S24 (prD h asks) (some (.d (.list (tms (allT asks))))) e2 e3 e4 e5 e6 e7 e8)) M := by
  have e := lcL_fil (tg := .nm 10) (own := [10]) (c := evE Gc C40 (.cmp .eq (.idx (.var 10) (.con (.int 0))) (.con (.str ("c" : Str))))) (f := evE Gc C40 (.idx (.var 10) (.con (.int 1)))) (σ := S24 (prD h asks) (some (.d (.list (tms (allT asks))))) e2 e3 e4 e5 e6 e7 e8) (M := M)
    (p := pC) (y := yC) (xs := tms (allT asks)) (fun x hx => by
      obtain ⟨t, _, rfl⟩ := List.mem_map.mp hx
      cases t with
      | inl x =>
        refine ⟨_, rfl, ?_, fun _ => ?_⟩
        · show sTst _ _ _ = Res.ok true M
          simp [sTst, wipeE, tmD, atI0, q_cc]
        · simp [wipeE, tmD, at1, yC]
      | inr ab =>
        obtain ⟨a, b⟩ := ab
        refine ⟨_, rfl, ?_, fun h => ?_⟩
        · show sTst _ _ _ = Res.ok false M
          simp [sTst, wipeE, tmD, atI0, q_fc]
        · exact absurd (show (("f" : Str) == ("c" : Str)) = true from h) (by decide))
  rw [fil_c] at e
  have hcl := cons_len (allT asks)
  have hcl2 : (cons (allT asks)).length ≤ lim := by unfold lim; omega
  have h6 := t6 33 (h := h) M w
  have h23 := t23i 39 (xs := cons (allT asks)) M hcl2
  rw [allC_T] at h6
  have hs := same 1 38 (iT (sI (dd (cons (allT asks))))) M (pn_iT (by rw [sI_len]; have := dd_len (cons (allT asks)); omega))
  have h6' : C40 6 [.d (prD h asks)] M = _ := h6
  have h23' : C40 23 [.d (.list ((cons (allT asks)).map .int))] M = _ := h23
  have hs' : C40 12 [.d (iT (sI (dd (cons (allT asks))))), .d (iT (sI (dd (cons (allT asks)))))] M = _ := hs
  generalize iT (sI (dd (cons (allT asks)))) = v at *
  generalize prD h asks = p at *
  show evS Gc C40 (.iff (.not (.call 12 (.cons (.call 6 (.cons (.var 0) .nil)) (.cons (.call 23 (.cons (.lc [10] (.nm 10) (.ov (.var 1)) (.cons (.cmp .eq (.idx (.var 10) (.con (.int 0))) (.con (.str ("c" : Str)))) .nil) (.idx (.var 10) (.con (.int 1)))) .nil)) .nil)))) (.cons (.ret (.con (.bool false))) .nil) .nil) _ _ = _
  simp only [x_iff, x_not, x_call, x_cons, x_nil, x_lc, x_ov, x_var, x_gete0, x_getes, x_ofS, x_bok, evC, e, List.length_map, hcl2, if_true, h6', h23', hs', x_trud, x_trub, Bool.not_true]
  simp
def in24 : MSs := bodyOf (a24 3)
def c24 (i : Nat) : MS := nthS in24 i
theorem in24_is : in24 = .cons (c24 0) (.cons (c24 1) (.cons (c24 2) (.cons (c24 3) (.cons (c24 4) .nil)))) := rfl
theorem body24 (w : Wk asks) {i : Nat} {a : Ask} (ha : asks[i]? = some a) : ∃ u6 u7, evSs Gc C40 in24 (S24 (prD h asks) e1 (some (.d (.int (i : Nat)))) e3 e4 e5 e6 e7 e8) M = .ok (.nx (S24 (prD h asks) e1 (some (.d (.int (i : Nat)))) e3 e4 e5 u6 u7 e8)) M := by
  have hm := List.mem_of_getElem? ha
  have hdp := w.dp a hm
  have hcw := w.cw a hm
  have hnn := w.nn a hm
  have hcll := Its.cl_len a.2
  have l2 : 2 ≤ lim := by unfold lim; omega
  have hat := ask_at ha
  have hp := pr1 h asks M
  have g0 : ∀ its : Its, its.dp ≤ 4 → C40 0 [.d (.tuple its.Ds)] M = .ok (.d (.int its.nn)) M := fun its hd => t0 4 35 its M hd
  have g18 : ∀ its : Its, its.dp ≤ 4 → C40 18 [.d (.tuple its.Ds)] M = .ok (.d (.int its.nn)) M := fun its hd => t18 4 35 its M hd
  have g20 : C40 20 [.d (.tuple a.2.Ds)] M = .ok (.d (.list (nI a.2.cl))) M := t20 4 35 a.2 M hdp (by omega)
  have g2 : C40 2 [.d (prD h asks), .d (.int (i : Nat))] M = .ok (.d (iT (cfr asks.length a.2))) M := t2 34 M w.toWf ha
  have g23 : C40 23 [.d (.list (nI a.2.cl))] M = .ok (.d (iT (cfr asks.length a.2))) M := by
    rw [nI_nZ, cfr_sI (w.cl a hm)]
    exact t23i 39 M (by rw [show (nZ a.2.cl).length = a.2.cl.length from List.length_map _]; unfold lim; omega)
  have s0 : evS Gc C40 (c24 0) (S24 (prD h asks) e1 (some (.d (.int (i : Nat)))) e3 e4 e5 e6 e7 e8) M = .ok (.nx (S24 (prD h asks) e1 (some (.d (.int (i : Nat)))) e3 e4 e5 (some (.d (.tuple a.2.Ds))) e7 e8)) M := by
    generalize prD h asks = p at *
    simp [c24, in24, a24, bodyOf, nthS, b24, hp, hat, at1]
  have e := lcL_fil (tg := .nm 9) (own := [9]) (c := evE Gc C40 (.cmp .eq (.idx (.var 9) (.con (.int 0))) (.con (.str ("when" : Str))))) (f := evE Gc C40 (.var 9)) (σ := S24 (prD h asks) e1 (some (.d (.int (i : Nat)))) e3 e4 e5 (some (.d (.tuple a.2.Ds))) e7 e8) (M := M)
    (p := pWh) (y := fun x => x) (xs := a.2.Ds) (fun x hx => by
      obtain ⟨it, rfl⟩ := mem_Ds hx
      cases it with
      | say w => exact ⟨_, rfl, (by show sTst _ _ _ = Res.ok false M; simp [sTst, wipeE, It.D, atI0, q_say2]), fun _ => by simp [wipeE]⟩
      | call w => exact ⟨_, rfl, (by show sTst _ _ _ = Res.ok false M; simp [sTst, wipeE, It.D, atI0, q_call2]), fun _ => by simp [wipeE]⟩
      | shw w => exact ⟨_, rfl, (by show sTst _ _ _ = Res.ok false M; simp [sTst, wipeE, It.D, atI0, q_show2]), fun _ => by simp [wipeE]⟩
      | when cs x y => exact ⟨_, rfl, (by show sTst _ _ _ = Res.ok true M; simp [sTst, wipeE, It.D, atI0, q_when2]), fun _ => by simp [wipeE]⟩)
  rw [List.map_id', whs_fil] at e
  have hwl : (whs a.2).length ≤ lim := by
    have h1 := congrArg List.length (whs_fil a.2)
    rw [List.length_map] at h1
    have h2 := List.length_filter_le pWh a.2.Ds
    have h3 := Its.len_nn a.2
    unfold lim; omega
  have s1 : evS Gc C40 (c24 1) (S24 (prD h asks) e1 (some (.d (.int (i : Nat)))) e3 e4 e5 (some (.d (.tuple a.2.Ds))) e7 e8) M = .ok (.nx (S24 (prD h asks) e1 (some (.d (.int (i : Nat)))) e3 e4 e5 (some (.d (.tuple a.2.Ds))) (some (.d (.list ((whs a.2).map (·.1))))) e8)) M := by
    generalize prD h asks = p at *
    show evS Gc C40 (.set 7 (.lc [9] (.nm 9) (.ov (.var 6)) (.cons (.cmp .eq (.idx (.var 9) (.con (.int 0))) (.con (.str ("when" : Str)))) .nil) (.var 9))) _ _ = _
    simp only [x_set, x_lc, x_ov, x_var, x_gete0, x_getes, x_ofS, x_bok, evC, e, List.length_map, hwl, if_true]
    simp
  have k2 : C40 12 [.d (.tuple [.int (a.2.nn : Nat), iT (cfr asks.length a.2)]), .d (.tuple [.int (a.2.nn : Nat), iT (cfr asks.length a.2)])] M = .ok (.d (.bool true)) M := by
    refine same 2 37 _ M (pn_tup2 (pn_int _ _) (pn_iT ?_))
    have : (cfr asks.length a.2).length ≤ (rI asks.length).length := List.length_filter_le _ _
    rw [rI_len] at this
    have := w.len
    unfold lim; omega
  have s2 : evS Gc C40 (c24 2) (S24 (prD h asks) e1 (some (.d (.int (i : Nat)))) e3 e4 e5 (some (.d (.tuple a.2.Ds))) (some (.d (.list ((whs a.2).map (·.1))))) e8) M = .ok (.nx (S24 (prD h asks) e1 (some (.d (.int (i : Nat)))) e3 e4 e5 (some (.d (.tuple a.2.Ds))) (some (.d (.list ((whs a.2).map (·.1))))) e8)) M := by
    have q0 := g0 a.2 hdp
    have q18 := g18 a.2 hdp
    generalize prD h asks = p at *
    generalize iT (cfr asks.length a.2) = v at *
    simp [c24, in24, a24, bodyOf, nthS, b24, q0, q18, g20, g2, g23, l2, k2]
  have s3 : evS Gc C40 (c24 3) (S24 (prD h asks) e1 (some (.d (.int (i : Nat)))) e3 e4 e5 (some (.d (.tuple a.2.Ds))) (some (.d (.list ((whs a.2).map (·.1))))) e8) M = .ok (.nx (S24 (prD h asks) e1 (some (.d (.int (i : Nat)))) e3 e4 e5 (some (.d (.tuple a.2.Ds))) (some (.d (.list ((whs a.2).map (·.1))))) e8)) M := by
    have hw0 : ∀ wx ∈ whs a.2, _ := fun wx hx => whs_ok hx
    rcases List.eq_nil_or_concat (whs a.2) with hn | ⟨ws, lw, hws⟩
    · rw [hn]
      generalize prD h asks = p at *
      simp [c24, in24, a24, bodyOf, nthS, b24]
    · rw [List.concat_eq_append] at hws
      obtain ⟨fw, rs, hf⟩ : ∃ fw rs, whs a.2 = fw :: rs := by
        cases hq : whs a.2 with
        | nil => rw [hq] at hws; simp at hws
        | cons x r => exact ⟨x, r, rfl⟩
      obtain ⟨⟨csl, hl1⟩, hl2, hl3⟩ := hw0 lw (by rw [hws]; simp)
      obtain ⟨⟨csf, hf1⟩, hf2, hf3⟩ := hw0 fw (by rw [hf]; simp)
      have i1 : L2.atI ((whs a.2).map (·.1)) (-1) = some lw.1 := by
        rw [hws, List.map_append]
        exact atI_last _ _
      have i2 : L2.atI ((whs a.2).map (·.1)) 0 = some fw.1 := by
        rw [hf, List.map_cons]
        exact atI0 _ _
      rw [hl1] at i1
      rw [hf1] at i2
      have hpos : 0 < (whs a.2).length := by rw [hf]; simp
      have q1 := g0 lw.2.1 (by omega)
      have q2 := g0 fw.2.2 (by omega)
      have q3 := g18 lw.2.1 (by omega)
      have q4 := g18 fw.2.2 (by omega)
      have k3 : C40 12 [.d (.tuple [.int (lw.2.1.nn : Nat), .int (fw.2.2.nn : Nat)]), .d (.tuple [.int (lw.2.1.nn : Nat), .int (fw.2.2.nn : Nat)])] M = .ok (.d (.bool true)) M := same 1 38 _ M (pn_tup2 (pn_int _ _) (pn_int _ _))
      generalize prD h asks = p at *
      have hml : ((whs a.2).map (·.1)).length = (whs a.2).length := List.length_map _
      generalize (whs a.2).map (·.1) = W at *
      generalize (whs a.2).length = wl at *
      simp [c24, in24, a24, bodyOf, nthS, b24, hml, hpos, i1, i2, at2, at3, permV, q1, q2, q3, q4, l2, k3]
  obtain ⟨b1, b2⟩ := both (h := h) w.toWf ha M
  have k4 : C40 12 [.d (.tuple (wo asks 3 i)), .d (.tuple (wo asks 3 i))] M = .ok (.d (.bool true)) M := same 33 6 _ M (pn_wo w 3 i)
  have s4 : evS Gc C40 (c24 4) (S24 (prD h asks) e1 (some (.d (.int (i : Nat)))) e3 e4 e5 (some (.d (.tuple a.2.Ds))) (some (.d (.list ((whs a.2).map (·.1))))) e8) M = .ok (.nx (S24 (prD h asks) e1 (some (.d (.int (i : Nat)))) e3 e4 e5 (some (.d (.tuple a.2.Ds))) (some (.d (.list ((whs a.2).map (·.1))))) e8)) M := by
    have b1' : C40 9 [.d (prD h asks), .d (.int (i : Nat))] M = _ := b1
    have b2' : C40 22 [.d (prD h asks), .d (.tuple a.2.Ds)] M = _ := b2
    generalize prD h asks = p at *
    simp [c24, in24, a24, bodyOf, nthS, b24, b1', b2', k4]
  exact ⟨_, _, by rw [in24_is, sqn s0, sqn s1, sqn s2, sqn s3, sqn s4, x_snil]⟩
end
end Mp.k06
end
section
set_option maxHeartbeats 4000000
namespace Mp.k06
open PySem PySem.Spec PyProof.Rows L2 Mp

section
variable {h : Mp.D} {asks : List Ask} {M : Mem} {e1 e2 e3 e4 e5 e6 e7 e8 : Option Val}
theorem s24_3 (w : Wk asks) : ∃ u2 u6 u7, evS Gc C40 (a24 3) (S24 (prD h asks) e1 e2 e3 e4 e5 e6 e7 e8) M = .ok (.nx (S24 (prD h asks) e1 u2 e3 e4 e5 u6 u7 e8)) M := by
  have hlen := w.len
  obtain ⟨σ', M', e, u2, u6, u7, rfl, rfl⟩ := forL_go (tg := .nm 2) (b := evSs Gc C40 in24) (xs := (rI asks.length).map .int) (σ := S24 (prD h asks) e1 e2 e3 e4 e5 e6 e7 e8) (M := M)
    (fun i σ M' => ∃ u2 u6 u7, σ = S24 (prD h asks) e1 u2 e3 e4 e5 u6 u7 e8 ∧ M' = M) ⟨e2, e6, e7, rfl, rfl⟩ (by
      rintro i x σ M' hx ⟨u2, u6, u7, rfl, rfl⟩
      obtain ⟨hi, rfl⟩ := rI_at hx
      obtain ⟨v6, v7, eb⟩ := body24 (h := h) (M := M') (e1 := e1) (e3 := e3) (e4 := e4) (e5 := e5) (e6 := u6) (e7 := u7) (e8 := e8) w (List.getElem?_eq_getElem hi)
      exact ⟨_, _, _, rfl, eb, some (.d (.int (i : Nat))), v6, v7, rfl, rfl⟩)
  refine ⟨u2, u6, u7, ?_⟩
  have hp := pr1 h asks M'
  have hr := rngOk_n (n := asks.length) (by unfold lim; omega)
  show evS Gc C40 (.forr (.nm 2) (.rg1 (.bi .len (.cons (.idx (.var 0) (.con (.int 1))) .nil))) in24) _ _ = _
  rw [x_forr, ← e]
  generalize in24 = IN at *
  generalize prD h asks = p at *
  simp [hp, hr, rngD_rI]
def OkL (n : Nat) (lots : List (List Int)) : Prop := ∀ lot ∈ lots, lot.Nodup ∧ ∀ x ∈ lot, 0 ≤ x ∧ x < n
def y24 (i : Nat) (x : Mp.D) : Mp.D := match x with | .tuple r => .tuple (r ++ [.int (i : Nat)]) | _ => .none
theorem s24_5 (w : Wk asks) : ∃ u2 u4 lots, evS Gc C40 (a24 5) (S24 (prD h asks) e1 e2 (some (.d (.list [.tuple []]))) e4 e5 e6 e7 e8) M = .ok (.nx (S24 (prD h asks) e1 u2 (some (.d (.list (lots.map iT)))) u4 e5 e6 e7 e8)) M ∧ OkL asks.length lots ∧ lots.length ≤ 1024 := by
  have hlen := w.len
  let B : MSs := .cons (.set 3 (.bin .add (.var 3) (.lc [4] (.nm 4) (.ov (.var 3)) .nil (.bin .add (.var 4) (.tup (.cons (.var 2) .nil)))))) .nil
  have l1 : 1 ≤ lim := by unfold lim; omega
  obtain ⟨σ', M', e, u2, lots, rfl, rfl, hok, hll⟩ := forL_go (tg := .nm 2) (b := evSs Gc C40 B) (xs := (rI asks.length).map .int) (σ := S24 (prD h asks) e1 e2 (some (.d (.list (([[]] : List (List Int)).map iT)))) e4 e5 e6 e7 e8) (M := M)
    (fun i σ M' => ∃ (u2 : Option Val) (lots : List (List Int)), σ = S24 (prD h asks) e1 u2 (some (.d (.list (lots.map iT)))) e4 e5 e6 e7 e8 ∧ M' = M ∧ OkL i lots ∧ lots.length ≤ 2 ^ i)
    ⟨e2, [[]], rfl, rfl, fun lot hl => by rw [List.mem_singleton.mp hl]; exact ⟨by simp, fun x hx => by cases hx⟩, Nat.le_refl _⟩ (by
      rintro i x σ M' hx ⟨u2, lots, rfl, rfl, hok, hll⟩
      obtain ⟨hi, rfl⟩ := rI_at hx
      have hpow : (2 : Nat) ^ i ≤ 2 ^ 10 := Nat.pow_le_pow_right (by decide) (by omega)
      have hll2 : lots.length ≤ 1024 := Nat.le_trans hll hpow
      have e := lcL_map (tg := .nm 4) (own := [4]) (f := evE Gc C40 (.bin .add (.var 4) (.tup (.cons (.var 2) .nil)))) (σ := S24 (prD h asks) e1 (some (.d (.int (i : Nat)))) (some (.d (.list (lots.map iT)))) e4 e5 e6 e7 e8) (M := M') (y := y24 i) (xs := lots.map iT) (fun y hy => by
        obtain ⟨lot, hl, rfl⟩ := List.mem_map.mp hy
        obtain ⟨h1, h2⟩ := hok lot hl
        have hlen2 : lot.length ≤ i := by
          have := h1.length_le_of_subset (l₂ := rI i) fun x hx => mem_rI.mpr (h2 x hx)
          rw [rI_len] at this
          exact this
        have : lot.length + 1 ≤ lim := by unfold lim; omega
        exact ⟨_, rfl, by simp [wipeE, iT, y24, l1, this]⟩)
      have e2' : (lots.map iT).map (y24 i) = (lots.map fun lot => lot ++ [(i : Int)]).map iT := by
        rw [List.map_map, List.map_map]
        refine List.map_congr_left fun lot _ => ?_
        show PyData.tuple (lot.map .int ++ [.int (i : Nat)]) = _
        simp [iT]
      rw [e2'] at e
      have b1 : lots.length ≤ lim := by unfold lim; omega
      have b2 : lots.length + lots.length ≤ lim := by unfold lim; omega
      refine ⟨S24 (prD h asks) e1 (some (.d (.int (i : Nat)))) (some (.d (.list (lots.map iT)))) e4 e5 e6 e7 e8, _, _, rfl, ?_, some (.d (.int (i : Nat))), lots ++ lots.map fun lot => lot ++ [(i : Int)], rfl, rfl, fun lot hl => ?_, by rw [List.length_append, List.length_map, Nat.pow_succ]; omega⟩
      · generalize prD h asks = p at *
        simp only [B, x_scons, x_set, x_bin, x_var, x_lc, x_ov, x_gete0, x_getes, x_ofS, x_bok, evC, e, x_rdd, List.length_map, b1, if_true, x_addl, b2, x_sqn, x_snil, List.map_append]
        simp
      · rcases List.mem_append.mp hl with hl | hl
        · obtain ⟨h1, h2⟩ := hok lot hl
          exact ⟨h1, fun x hx => by have := h2 x hx; omega⟩
        · obtain ⟨l0, hl0, rfl⟩ := List.mem_map.mp hl
          obtain ⟨h1, h2⟩ := hok l0 hl0
          refine ⟨?_, fun x hx => ?_⟩
          · rw [List.nodup_append]
            exact ⟨h1, by simp, fun a ha b hb e => by rw [List.mem_singleton.mp hb] at e; have := h2 a ha; omega⟩
          · rcases List.mem_append.mp hx with hx | hx
            · have := h2 x hx; omega
            · rw [List.mem_singleton.mp hx]; omega)
  rw [List.length_map, rI_len] at hok hll
  have hpow : (2 : Nat) ^ asks.length ≤ 2 ^ 10 := Nat.pow_le_pow_right (by decide) hlen
  refine ⟨u2, e4, lots, ?_, hok, Nat.le_trans hll hpow⟩
  have hp := pr1 h asks M'
  have hr := rngOk_n (n := asks.length) (by unfold lim; omega)
  show evS Gc C40 (.forr (.nm 2) (.rg1 (.bi .len (.cons (.idx (.var 0) (.con (.int 1))) .nil))) B) _ _ = _
  rw [x_forr, ← e]
  generalize B = BB at *
  generalize prD h asks = p at *
  simp [hp, hr, rngD_rI, iT]
def in6 : MSs := bodyOf (a24 6)
def c6 (i : Nat) : MS := nthS in6 i
theorem in6_is : in6 = .cons (c6 0) (.cons (c6 1) (.cons (c6 2) .nil)) := rfl
def tF (asks : List Ask) (F : List Int) : List Tm := F.flatMap fun x => (bz asks x).tm
theorem fls_tF (asks : List Ask) : ∀ F : List Int, fls (tF asks F) = rF asks F
  | [] => rfl
  | x :: F => by
    have ih := fls_tF asks F
    unfold tF rF at *
    rw [List.flatMap_cons, List.flatMap_cons, fls_app, ih]
theorem body6 (w : Wk asks) {lot : List Int} (h1 : lot.Nodup) (h2 : ∀ x ∈ lot, In asks x) : ∃ u2 u8, evSs Gc C40 in6 (S24 (prD h asks) e1 e2 e3 (some (.d (iT lot))) e5 e6 e7 e8) M = .ok (.nx (S24 (prD h asks) e1 u2 e3 (some (.d (iT lot))) e5 e6 e7 u8)) M := by
  obtain ⟨F, hF, hFr, hFl⟩ := t7 32 (h := h) M w.toWf h1 h2
  obtain ⟨T, hT, hTr, hTl, hTi⟩ := t21 34 (h := h) M w.toWf h1 h2
  let B : MSs := .cons (.set 8 (.bin .add (.var 8) (.call 19 (.cons (.idx (.idx (.idx (.var 0) (.con (.int 1))) (.var 2)) (.con (.int 1))) .nil)))) .nil
  have hp := pr1 h asks M
  obtain ⟨σ', M', e, u2, rfl, rfl, hl⟩ := forL_go (tg := .nm 2) (b := evSs Gc C40 B) (xs := T.map .int) (σ := S24 (prD h asks) e1 e2 e3 (some (.d (iT lot))) e5 e6 e7 (some (.d (.list [])))) (M := M)
    (fun i σ M' => ∃ u2, σ = S24 (prD h asks) e1 u2 e3 (some (.d (iT lot))) e5 e6 e7 (some (.d (.list (tms (tF asks (T.take i)))))) ∧ M' = M ∧ (tF asks (T.take i)).length ≤ i * 84) ⟨e2, rfl, rfl, Nat.le_refl _⟩ (by
      rintro i x σ M' hx ⟨u2, rfl, rfl, hl⟩
      rw [List.getElem?_map] at hx
      obtain ⟨y, hy, rfl⟩ := Option.map_eq_some_iff.mp hx
      have hi := (List.getElem?_eq_some_iff.mp hy).1
      have hin := hTi y (List.mem_of_getElem? hy)
      obtain ⟨a, ha, hb, hyn⟩ := bz_at hin
      obtain ⟨g1, g2, g3, g4⟩ := bz_tm w.toWf hin
      have hc : C40 19 [.d (.tuple (bz asks y).Ds)] M' = .ok (.d (.list (tms (bz asks y).tm))) M' := t19 4 35 (bz asks y) M' g2 g3 (by omega)
      have hat := ask_at ha
      rw [← hyn, ← hb] at hat
      have hll : (tF asks (T.take i)).length + (bz asks y).tm.length ≤ lim := by unfold lim; omega
      have htk : tF asks (T.take (i + 1)) = tF asks (T.take i) ++ (bz asks y).tm := by
        unfold tF
        rw [List.take_add_one, hy, List.flatMap_append]
        simp
      refine ⟨S24 (prD h asks) e1 (some (.d (.int y))) e3 (some (.d (iT lot))) e5 e6 e7 (some (.d (.list (tms (tF asks (T.take i)))))), _, _, rfl, ?_, some (.d (.int y)), rfl, rfl, by rw [htk, List.length_append]; omega⟩
      rw [htk, tms_app]
      generalize prD h asks = p at *
      generalize tF asks (T.take i) = acc at *
      simp [B, hp, hat, at1, hc, tms_len, hll])
  rw [List.length_map, List.take_length] at hl e
  have s0 : evS Gc C40 (c6 0) (S24 (prD h asks) e1 e2 e3 (some (.d (iT lot))) e5 e6 e7 e8) M' = .ok (.nx (S24 (prD h asks) e1 e2 e3 (some (.d (iT lot))) e5 e6 e7 (some (.d (.list []))))) M' := by
    generalize prD h asks = p at *
    simp [c6, in6, a24, bodyOf, nthS, b24]
  have s1 : evS Gc C40 (c6 1) (S24 (prD h asks) e1 e2 e3 (some (.d (iT lot))) e5 e6 e7 (some (.d (.list [])))) M' = .ok (.nx (S24 (prD h asks) e1 u2 e3 (some (.d (iT lot))) e5 e6 e7 (some (.d (.list (tms (tF asks T))))))) M' := by
    show evS Gc C40 (.forr (.nm 2) (.ov (.call 21 (.cons (.var 0) (.cons (.var 4) .nil)))) B) _ _ = _
    rw [x_forr, ← e]
    have hT' : C40 21 [.d (prD h asks), .d (iT lot)] M' = _ := hT
    generalize B = BB at *
    generalize prD h asks = p at *
    simp [hT']
  have hfl : (fls (tF asks T)).length ≤ lim := by
    have := fls_len (tF asks T)
    unfold lim; omega
  have e2' := lcL_fil (tg := .nm 10) (own := [10]) (c := evE Gc C40 (.cmp .eq (.idx (.var 10) (.con (.int 0))) (.con (.str ("f" : Str))))) (f := evE Gc C40 (.slc (.var 10) (.som (.con (.int 1))) .non)) (σ := S24 (prD h asks) e1 u2 e3 (some (.d (iT lot))) e5 e6 e7 (some (.d (.list (tms (tF asks T)))))) (M := M')
    (p := pF) (y := yF) (xs := tms (tF asks T)) (fun x hx => by
      obtain ⟨t, _, rfl⟩ := List.mem_map.mp hx
      cases t with
      | inl x =>
        refine ⟨_, rfl, ?_, fun h => ?_⟩
        · show sTst _ _ _ = Res.ok false M'
          simp [sTst, wipeE, tmD, atI0, q_cf]
        · exact absurd (show (("c" : Str) == ("f" : Str)) = true from h) (by decide)
      | inr ab =>
        obtain ⟨a, b⟩ := ab
        refine ⟨_, rfl, ?_, fun _ => ?_⟩
        · show sTst _ _ _ = Res.ok true M'
          simp [sTst, wipeE, tmD, atI0, q_ff]
        · have hc : cutL [PyData.str ("f" : Str), .int a, .int b] (some 1) none = [.int a, .int b] := cutL_drop [PyData.str ("f" : Str), .int a, .int b] 1
          simp [wipeE, tmD, yF, hc])
  rw [fil_f] at e2'
  have hset : sortP (ddP (fls (tF asks T))) = sortP (ddP (rF asks F)) := by
    rw [fls_tF]
    refine sddP_eq fun a => ?_
    unfold rF
    rw [List.mem_flatMap, List.mem_flatMap]
    constructor
    · rintro ⟨x, hx, hxa⟩
      exact ⟨x, (hFr x).mpr ((hTr x).mp hx), hxa⟩
    · rintro ⟨x, hx, hxa⟩
      exact ⟨x, (hTr x).mpr ((hFr x).mp hx), hxa⟩
  have h23 := t23t 39 (ps := fls (tF asks T)) M' hfl fls_ne
  rw [hset] at h23
  have hdl := ddP_len (rF asks F) []
  rw [List.length_nil, Nat.zero_add] at hdl
  have hne : ∀ p ∈ sortP (ddP (rF asks F)), p.length ≤ 2 := fun p hp => by
    have hp2 := mem_ddP.mp ((sortP_perm _).mem_iff.mp hp)
    obtain ⟨x, _, hx⟩ := List.mem_flatMap.mp hp2
    obtain ⟨t, _, ht⟩ := List.mem_filterMap.mp hx
    cases t with
    | inl x => cases ht
    | inr ab => obtain ⟨a, b⟩ := ab; cases ht; exact Nat.le_refl _
  have hs := same 2 37 (.tuple ((sortP (ddP (rF asks F))).map iT)) M' (pn_tup (fun x hx => by
    obtain ⟨q, hq, rfl⟩ := List.mem_map.mp hx
    exact pn_iT (by have := hne q hq; unfold lim; omega)) (by
    rw [List.length_map, (sortP_perm _).length_eq]
    show (ddP (rF asks F)).length ≤ lim
    have : (ddP (rF asks F)).length ≤ (rF asks F).length := hdl
    unfold lim; omega))
  have s2 : evS Gc C40 (c6 2) (S24 (prD h asks) e1 u2 e3 (some (.d (iT lot))) e5 e6 e7 (some (.d (.list (tms (tF asks T)))))) M' = .ok (.nx (S24 (prD h asks) e1 u2 e3 (some (.d (iT lot))) e5 e6 e7 (some (.d (.list (tms (tF asks T))))))) M' := by
    have hF' : C40 7 [.d (prD h asks), .d (iT lot)] M' = _ := hF
    have h23' : C40 23 [.d (.list ((fls (tF asks T)).map iT))] M' = _ := h23
    have hs' : C40 12 [.d (.tuple ((sortP (ddP (rF asks F))).map iT)), .d (.tuple ((sortP (ddP (rF asks F))).map iT))] M' = _ := hs
    generalize PyData.tuple ((sortP (ddP (rF asks F))).map iT) = v at *
    generalize prD h asks = p at *
    show evS Gc C40 (.iff (.not (.call 12 (.cons (.call 7 (.cons (.var 0) (.cons (.var 4) .nil))) (.cons (.call 23 (.cons (.lc [10] (.nm 10) (.ov (.var 8)) (.cons (.cmp .eq (.idx (.var 10) (.con (.int 0))) (.con (.str ("f" : Str)))) .nil) (.slc (.var 10) (.som (.con (.int 1))) .non)) .nil)) .nil)))) (.cons (.ret (.con (.bool false))) .nil) .nil) _ _ = _
    simp only [x_iff, x_not, x_call, x_cons, x_nil, x_lc, x_ov, x_var, x_gete0, x_getes, x_ofS, x_bok, evC, e2', List.length_map, hfl, if_true, hF', h23', hs', x_trud, x_trub, Bool.not_true]
    simp
  exact ⟨_, _, by rw [in6_is, sqn s0, sqn s1, sqn s2, x_snil]⟩
theorem t24 (w : Wk asks) : callAt Gc tx.T 41 24 [.d (prD h asks)] M = .ok (.d (.bool true)) M := by
  rw [show (41 : Nat) = 40 + 1 from rfl, call_is (f := f24) rfl]
  have l0 : 0 ≤ lim := Nat.zero_le _
  have l1 : 1 ≤ lim := by unfold lim; omega
  have hlen := w.len
  have s0 : evS Gc C40 (a24 0) (S24 (prD h asks) none none none none none none none none) M = .ok (.nx (S24 (prD h asks) (some (.d (.list []))) none none none none none none none)) M := by
    generalize prD h asks = p at *
    simp [a24, nthS, b24]
  obtain ⟨u5, u6, s1, hT⟩ := s24_1 (h := h) (M := M) (e2 := none) (e3 := none) (e4 := none) (e5 := none) (e6 := none) (e7 := none) (e8 := none) w.toWf
  have s2 := s24_2 (h := h) (M := M) (e2 := none) (e3 := none) (e4 := none) (e5 := u5) (e6 := u6) (e7 := none) (e8 := none) w.toWf hT
  obtain ⟨v2, v6, v7, s3⟩ := s24_3 (h := h) (M := M) (e1 := some (.d (.list (tms (allT asks))))) (e2 := none) (e3 := none) (e4 := none) (e5 := u5) (e6 := u6) (e7 := none) (e8 := none) w
  have s4 : evS Gc C40 (a24 4) (S24 (prD h asks) (some (.d (.list (tms (allT asks))))) v2 none none u5 v6 v7 none) M = .ok (.nx (S24 (prD h asks) (some (.d (.list (tms (allT asks))))) v2 (some (.d (.list [.tuple []]))) none u5 v6 v7 none)) M := by
    generalize prD h asks = p at *
    simp [a24, nthS, b24, l1]
  obtain ⟨w2, w4, lots, s5, hok, hll⟩ := s24_5 (h := h) (M := M) (e1 := some (.d (.list (tms (allT asks))))) (e2 := v2) (e4 := none) (e5 := u5) (e6 := v6) (e7 := v7) (e8 := none) w
  obtain ⟨σ', M', e, x2, x4, x8, rfl, rfl⟩ := forL_go (tg := .nm 4) (b := evSs Gc C40 in6) (xs := (lots.drop 1).map iT) (σ := S24 (prD h asks) (some (.d (.list (tms (allT asks))))) w2 (some (.d (.list (lots.map iT)))) w4 u5 v6 v7 none) (M := M)
    (fun i σ M' => ∃ x2 x4 x8, σ = S24 (prD h asks) (some (.d (.list (tms (allT asks))))) x2 (some (.d (.list (lots.map iT)))) x4 u5 v6 v7 x8 ∧ M' = M) ⟨w2, w4, none, rfl, rfl⟩ (by
      rintro i x σ M' hx ⟨x2, x4, x8, rfl, rfl⟩
      rw [List.getElem?_map] at hx
      obtain ⟨lot, hlot, rfl⟩ := Option.map_eq_some_iff.mp hx
      obtain ⟨g1, g2⟩ := hok lot (List.mem_of_mem_drop (List.mem_of_getElem? hlot))
      obtain ⟨y2, y8, eb⟩ := body6 (h := h) (M := M') (e1 := some (.d (.list (tms (allT asks))))) (e2 := x2) (e3 := some (.d (.list (lots.map iT)))) (e5 := u5) (e6 := v6) (e7 := v7) (e8 := x8) w g1 (fun x hx => g2 x hx)
      exact ⟨_, _, _, rfl, eb, y2, some (.d (iT lot)), y8, rfl, rfl⟩)
  have s6 : evS Gc C40 (a24 6) (S24 (prD h asks) (some (.d (.list (tms (allT asks))))) w2 (some (.d (.list (lots.map iT)))) w4 u5 v6 v7 none) M' = .ok (.nx (S24 (prD h asks) (some (.d (.list (tms (allT asks))))) x2 (some (.d (.list (lots.map iT)))) x4 u5 v6 v7 x8)) M' := by
    show evS Gc C40 (.forr (.nm 4) (.ov (.slc (.var 3) (.som (.con (.int 1))) .non)) in6) _ _ = _
    have hc : cutL (lots.map iT) (some 1) none = (lots.drop 1).map iT := by
      have := cutL_drop (lots.map iT) 1
      rw [← List.map_drop] at this
      exact this
    rw [x_forr, ← e]
    generalize in6 = IN at *
    generalize prD h asks = p at *
    simp [hc]
  rw [run_rt (fn := f24) (σ0 := S24 (prD h asks) none none none none none none none none) (v := .d (.bool true)) (M1 := M') rfl rfl ?_]
  · show outV M'.length true _ _ = _
    rw [out_d]
    simp
  show evSs Gc C40 b24 _ M' = _
  rw [b24_is, sqn s0, sqn s1, sqn s2, sqn s3, sqn s4, sqn s5, sqn s6]
  generalize prD h asks = p at *
  simp [a24, nthS, b24]
end
end Mp.k06
end
section
set_option maxHeartbeats 4000000
namespace Mp.k06
open PySem PySem.Spec PyProof.Rows L2 Mp

/-! ### terms drawn -/
def hsD (hs : List (Mp.D × List Mp.D)) : List Mp.D := hs.map fun z => .tuple [z.1, .tuple z.2]
structure Gd (R : Mem) (a b : Nat) (hs : List (Mp.D × List Mp.D)) (ns : List Int) : Prop where
  ha : R[a]? = some (.lst (hsD hs))
  hb : R[b]? = some (.lst (ns.map .int))
  h1 : hs ≠ [] ∧ hs.length ≤ 100
  h2 : ∀ z ∈ hs, 1 ≤ z.2.length ∧ z.2.length ≤ 100
  n1 : ns ≠ [] ∧ ns.length ≤ 100
theorem t13 (m : Nat) {s : List Mp.D} {R M : Mem} {a b : Nat} {hs : List (Mp.D × List Mp.D)} {ns : List Int} (h : Sk s R M) (g : Gd R a b hs ns) :
    ∃ (t : Tm) (M' : Mem), callAt Gc tx.T (m + 2) 13 [.ref 2, .ref (a + 3), .ref (b + 3)] M = .ok (.d (tmD t)) M' ∧ Sk s R M' := by
  have hml := h.len
  have l2 : 2 ≤ lim := by unfold lim; omega
  have l3 : 3 ≤ lim := by unfold lim; omega
  have hnp := List.length_pos_iff.mpr g.n1.1
  have hhp := List.length_pos_iff.mpr g.h1.1
  have hn2 := g.n1.2
  have hh2 := g.h1.2
  rw [show m + 2 = (m + 1) + 1 by omega, call_is (f := f13) rfl]
  let C := callAt Gc tx.T (m + 1)
  obtain ⟨r, M1, g1, h1, r0, r1⟩ := t11 m h (pl := 1) (many := 3) (by decide) (by decide) (by decide) (by decide)
  have ga1 : M1[a + 3]? = some (.lst (hsD hs)) := by rw [h1.get]; exact g.ha
  have gb1 : M1[b + 3]? = some (.lst (ns.map .int)) := by rw [h1.get]; exact g.hb
  have tk : ∀ M', Sk s R M' → M'.take M.length = M' := fun M' h' => List.take_of_length_le (by rw [hml, h'.len]; exact Nat.le_refl _)
  by_cases hr : r = 0
  · obtain ⟨r2, M2, g2, h2, r20, r21⟩ := t11 m h1 (pl := 2) (many := (ns.length : Nat)) (by decide) (by decide) (by omega) (by omega)
    obtain ⟨v, hv, _⟩ := atI_int (vs := ns) (a := r2) r20 r21
    have gb2 : M2[b + 3]? = some (.lst (ns.map .int)) := by rw [h2.get]; exact g.hb
    have hlr := x_lenr gb1
    have hix := x_ixr (i := r2) gb2
    rw [hv] at hix
    have htk := tk M2 h2
    have hlen : (ns.map PyData.int).length = ns.length := List.length_map _
    rw [hlen] at hlr
    refine ⟨.inl v, M2, ?_, h2⟩
    subst hr
    simp [runFn, f13, b13, g1, hlr, g2, hix, l2, outV, htk, tmD]
  · obtain ⟨r2, M2, g2, h2, r20, r21⟩ := t11 m h1 (pl := 3) (many := (hs.length : Nat)) (by decide) (by decide) (by omega) (by omega)
    have hi : r2.toNat < hs.length := by omega
    obtain ⟨z1, z2⟩ := g.h2 hs[r2.toNat] (List.getElem_mem hi)
    have hat : L2.atI (hsD hs) r2 = some (.tuple [hs[r2.toNat].1, .tuple hs[r2.toNat].2]) := by
      have := L2.atI_nat (xs := hsD hs) (j := r2.toNat) (v := .tuple [hs[r2.toNat].1, .tuple hs[r2.toNat].2]) (by unfold hsD; rw [List.getElem?_map, List.getElem?_eq_getElem hi]; rfl)
      rw [show ((r2.toNat : Nat) : Int) = r2 by omega] at this
      exact this
    obtain ⟨r3, M3, g3, h3, r30, r31⟩ := t11 m h2 (pl := 4) (many := ((hs[r2.toNat].2).length : Nat)) (by decide) (by decide) (by omega) (by omega)
    have ga2 : M2[a + 3]? = some (.lst (hsD hs)) := by rw [h2.get]; exact g.ha
    have hlr := x_lenr ga1
    rw [show (hsD hs).length = hs.length from List.length_map _] at hlr
    have hix := x_ixr (i := r2) ga2
    rw [hat] at hix
    have htk := tk M3 h3
    refine ⟨.inr (r2, r3), M3, ?_, h3⟩
    generalize hs[r2.toNat].2 = fs at *
    generalize hs[r2.toNat].1 = nm at *
    simp [runFn, f13, b13, g1, hr, hlr, g2, hix, at1, g3, l3, outV, htk, tmD]
/-! ### blocks at their end -/
def snoc : Its → It → Its
  | .nil, i => .cons i .nil
  | .cons j r, i => .cons j (snoc r i)
theorem snoc_Ds : ∀ (its : Its) (i : It), (snoc its i).Ds = its.Ds ++ [i.D]
  | .nil, i => rfl
  | .cons j r, i => by show j.D :: (snoc r i).Ds = _; rw [snoc_Ds r i]; rfl
theorem snoc_nn : ∀ (its : Its) (i : It), (snoc its i).nn = its.nn + i.nn
  | .nil, i => by show i.nn + 0 = 0 + i.nn; omega
  | .cons j r, i => by show j.nn + (snoc r i).nn = j.nn + r.nn + i.nn; rw [snoc_nn r i]; omega
theorem snoc_dp : ∀ (its : Its) (i : It), (snoc its i).dp = max its.dp i.dp
  | .nil, i => by show max i.dp 0 = max 0 i.dp; omega
  | .cons j r, i => by show max j.dp (snoc r i).dp = max (max j.dp r.dp) i.dp; rw [snoc_dp r i]; omega
theorem snoc_cw : ∀ {its : Its} {i : It}, its.cw 3 → i.cw 3 → (snoc its i).cw 3
  | .nil, i, _, h => ⟨h, trivial⟩
  | .cons j r, i, h, h2 => ⟨h.1, snoc_cw h.2 h2⟩
theorem snoc_wk : ∀ {its : Its} {i : It}, wkS its → wkI i → wkS (snoc its i)
  | .nil, i, _, h => ⟨h, trivial⟩
  | .cons j r, i, h, h2 => ⟨h.1, snoc_wk h.2 h2⟩
theorem snoc_cl : ∀ (its : Its) (i : It), (snoc its i).cl = its.cl ++ i.cl
  | .nil, i => by show i.cl ++ [] = [] ++ i.cl; simp
  | .cons j r, i => by show j.cl ++ (snoc r i).cl = (j.cl ++ r.cl) ++ i.cl; rw [snoc_cl r i, List.append_assoc]
structure Bk (n : Nat) (cs : List Nat) (its : Its) : Prop where
  dp : its.dp ≤ n
  cw : its.cw 3
  wk : wkS its
  cl : ∀ j ∈ its.cl, j ∈ cs
theorem Bk.snoc {n : Nat} {cs : List Nat} {its : Its} {i : It} (b : Bk n cs its) (h1 : i.dp ≤ n) (h2 : i.cw 3) (h3 : wkI i) (h4 : ∀ j ∈ i.cl, j ∈ cs) : Bk n cs (k06.snoc its i) :=
  ⟨by rw [snoc_dp]; have := b.dp; omega, snoc_cw b.cw h2, snoc_wk b.wk h3, fun j hj => by
    rw [snoc_cl] at hj
    exact (List.mem_append.mp hj).elim (b.cl j) (h4 j)⟩
end Mp.k06
end
section
set_option maxHeartbeats 4000000
namespace Mp.k06
open PySem PySem.Spec PyProof.Rows L2 Mp

/-! ### a block drawn -/
structure St (R : Mem) (c : Nat) (k : Int) (X : List Mp.D) (R1 : Mem) : Prop where
  tk : R1.take R.length = R.set c (.lst [.int k])
  gt : R1[R.length]? = some (.lst X)
section
variable {R R1 : Mem} {c : Nat} {k : Int} {X : List Mp.D}
theorem St.len (h : St R c k X R1) : R.length < R1.length := (List.getElem?_eq_some_iff.mp h.gt).1
theorem St.get (h : St R c k X R1) {i : Nat} (hi : i < R.length) : R1[i]? = (R.set c (.lst [.int k]))[i]? := by
  rw [← h.tk, List.getElem?_take_of_lt hi]
theorem St.atc (h : St R c k X R1) (hc : c < R.length) : R1[c]? = some (.lst [.int k]) := by
  rw [h.get hc, List.getElem?_set_self hc]
theorem St.ato (h : St R c k X R1) {i : Nat} (hi : i < R.length) (hne : c ≠ i) : R1[i]? = R[i]? := by
  rw [h.get hi, List.getElem?_set_ne hne]
theorem St.put (h : St R c k X R1) (Y : List Mp.D) : St R c k Y (R1.set R.length (.lst Y)) :=
  ⟨by rw [List.take_set_of_le (Nat.le_refl _), h.tk], by rw [List.getElem?_set_self h.len]⟩
theorem St.room (h : St R c k X R1) (hc : c < R.length) (k' : Int) : St R c k' X (R1.set c (.lst [.int k'])) :=
  ⟨by rw [List.take_set, h.tk, List.set_set], by rw [List.getElem?_set_ne (by omega), h.gt]⟩
theorem St.app (h : St R c k X R1) (ob : Ob) : St R c k X (R1 ++ [ob]) :=
  ⟨by rw [List.take_append_of_le_length (Nat.le_of_lt h.len), h.tk], by rw [List.getElem?_append_left h.len, h.gt]⟩
end
abbrev S14 (a b c t : Nat) (cs : List Nat) (n : Nat) (e7 e8 e9 e10 e11 : Option Val) : Env := [some (.ref 2), some (.ref (a + 3)), some (.ref (b + 3)), some (.d (.list (nI cs))), some (.d (.int (n : Nat))), some (.ref (c + 3)), some (.ref t), e7, e8, e9, e10, e11]
def in14 : MSs := bodyOf (nthS b14 1)
def a14 (i : Nat) : MS := nthS in14 i
theorem in14_is : in14 = .cons (a14 0) (.cons (a14 1) (.cons (a14 2) (.cons (a14 3) .nil))) := rfl
def H11 (C : CT) : Prop := ∀ {s : List Mp.D} {R M : Mem} {pl many : Int}, Sk s R M → 0 ≤ pl → pl ≤ 1000 → 1 ≤ many → many < 2 ^ 62 →
  ∃ r M', C 11 [.ref 2, .d (.int pl), .d (.int many)] M = .ok (.d (.int r)) M' ∧ Sk s R M' ∧ 0 ≤ r ∧ r < many
def H13 (C : CT) : Prop := ∀ {s : List Mp.D} {R M : Mem} {a b : Nat} {hs : List (Mp.D × List Mp.D)} {ns : List Int}, Sk s R M → Gd R a b hs ns →
  ∃ (t : Tm) (M' : Mem), C 13 [.ref 2, .ref (a + 3), .ref (b + 3)] M = .ok (.d (tmD t)) M' ∧ Sk s R M'
def H14 (C : CT) (n : Nat) : Prop := ∀ {s : List Mp.D} {R M : Mem} {a b c : Nat} {hs : List (Mp.D × List Mp.D)} {ns : List Int} {cs : List Nat} {k : Int}, Sk s R M → Gd R a b hs ns → R[c]? = some (.lst [.int k]) → c ≠ a → c ≠ b → 0 ≤ k → k ≤ 100 → cs.length ≤ 100 →
  ∃ (its : Its) (k' : Int) (M' : Mem), C 14 [.ref 2, .ref (a + 3), .ref (b + 3), .d (.list (nI cs)), .d (.int (n : Nat)), .ref (c + 3)] M = .ok (.d (.tuple its.Ds)) M' ∧ Sk s (R.set c (.lst [.int k'])) M' ∧ 0 ≤ k' ∧ its.nn + k' ≤ k ∧ Bk n cs its
theorem app14 {C : CT} {σ : Env} {t : Nat} {e : ME} {M M1 M2 : Mem} {x : Mp.D} (h0 : getE σ 6 = some (.ref t)) (h1 : kindM .append M (.ref t) = true) (h2 : evE Gc C e σ M = .ok (.d x) M1) (h3 : mtV .append M1 (.ref t) [.d x] = some (.d .none, M2)) :
    evS Gc C (.exp (.mt .append (.var 6) (.cons e .nil))) σ M = .ok (.nx σ) M2 := by
  simp [h0, h1, h2, h3]
section
variable {C : CT} {s : List Mp.D} {R R1 M : Mem} {a b c n : Nat} {hs : List (Mp.D × List Mp.D)} {ns : List Int} {cs : List Nat} {k k0 : Int} {its : Its} {e7 e8 e9 e10 e11 : Option Val}
def P14 (s : List Mp.D) (R : Mem) (a b c n : Nat) (cs : List Nat) (k0 : Int) (σ : Env) (M : Mem) : Prop := ∃ (its : Its) (k : Int) (R1 : Mem) (e7 e8 e9 e10 e11 : Option Val), σ = S14 a b c (R.length + 3) cs n e7 e8 e9 e10 e11 ∧ Sk s R1 M ∧ St R c k its.Ds R1 ∧ 0 ≤ k ∧ its.nn + k ≤ k0 ∧ Bk n cs its
/-- an item more -/
theorem more14 {e : ME} {M1 : Mem} {R2 : Mem} {i : It} {k1 : Int} (h : Sk s R1 M) (st : St R c k its.Ds R1) (h2 : evE Gc C e (S14 a b c (R.length + 3) cs n e7 e8 e9 e10 e11) M = .ok (.d i.D) M1) (hk1 : Sk s R2 M1) (st2 : St R c k1 its.Ds R2) (b1 : 0 ≤ k1) (b2 : its.nn + i.nn + k1 ≤ k0) (b3 : k0 ≤ 100) (hB : Bk n cs its)
    (q1 : i.dp ≤ n) (q2 : i.cw 3) (q3 : wkI i) (q4 : ∀ j ∈ i.cl, j ∈ cs) :
    ∃ M2, evS Gc C (.exp (.mt .append (.var 6) (.cons e .nil))) (S14 a b c (R.length + 3) cs n e7 e8 e9 e10 e11) M = .ok (.nx (S14 a b c (R.length + 3) cs n e7 e8 e9 e10 e11)) M2 ∧ P14 s R a b c n cs k0 (S14 a b c (R.length + 3) cs n e7 e8 e9 e10 e11) M2 := by
  have hr := h.get R.length
  rw [st.gt] at hr
  have hr2 := hk1.get R.length
  rw [st2.gt] at hr2
  have hk := x_kind (m := .append) (fun h => by cases h) (fun h => by cases h) hr
  have ha := x_app (x := i.D) hr2
  have hl := Its.len_nn its
  rw [if_pos (by unfold lim; omega)] at ha
  refine ⟨_, app14 rfl hk h2 ha, snoc its i, k1, _, e7, e8, e9, e10, e11, rfl, hk1.set _ _, ?_, b1, by rw [snoc_nn]; omega, hB.snoc q1 q2 q3 q4⟩
  rw [snoc_Ds]
  exact st2.put _
theorem tup3_at {x y z : Mp.D} {r : Int} (h0 : 0 ≤ r) (h1 : r < 3) : ∃ w, L2.atI [x, y, z] r = some w ∧ (w = x ∨ w = y ∨ w = z) := by
  have : r = 0 ∨ r = 1 ∨ r = 2 := by omega
  rcases this with rfl | rfl | rfl
  · exact ⟨x, atI0 _ _, .inl rfl⟩
  · exact ⟨y, at1 _ _ _, .inr (.inl rfl)⟩
  · exact ⟨z, at2 _ _ _ _, .inr (.inr rfl)⟩
def e14s : ME := .tup (.cons (.con (.str ("say" : Str))) (.cons (.idx (.tup (.cons (.con (.str ("far" : Str))) (.cons (.con (.str ("near" : Str))) (.cons (.con (.str ("b" : Str))) .nil)))) (.call 11 (.cons (.var 0) (.cons (.con (.int 7)) (.cons (.con (.int 3)) .nil))))) .nil))
def e14c : ME := .tup (.cons (.con (.str ("call" : Str))) (.cons (.idx (.var 3) (.call 11 (.cons (.var 0) (.cons (.con (.int 8)) (.cons (.bi .len (.cons (.var 3) .nil)) .nil))))) .nil))
def e14h : ME := .tup (.cons (.con (.str ("show" : Str))) (.cons (.call 13 (.cons (.var 0) (.cons (.var 1) (.cons (.var 2) .nil)))) .nil))
def e14k : ME := .tup (.cons (.idx (.tup (.cons (.con (.str ("=" : Str))) (.cons (.con (.str ("!" : Str))) .nil))) (.call 11 (.cons (.var 0) (.cons (.con (.int 10)) (.cons (.con (.int 2)) .nil))))) (.cons (.call 13 (.cons (.var 0) (.cons (.var 1) (.cons (.var 2) .nil)))) (.cons (.call 13 (.cons (.var 0) (.cons (.var 1) (.cons (.var 2) .nil)))) .nil)))
def k14 : MSs := .cons (.exp (.mt .append (.var 9) (.cons e14k .nil))) .nil
def m14 : MEs := .cons (.var 0) (.cons (.var 1) (.cons (.var 2) (.cons (.var 3) (.cons (.bin .sub (.var 4) (.con (.int 1))) (.cons (.var 5) .nil)))))
def e14w : ME := .tup (.cons (.con (.str ("when" : Str))) (.cons (.bi .tuple (.cons (.var 9) .nil)) (.cons (.var 11) (.cons (.call 14 m14) .nil))))
def w14 : MSs := .cons (.set 9 (.new (.lst .nil))) (.cons (.forr (.nm 10) (.rg1 (.idx (.tup (.cons (.con (.int 1)) (.cons (.con (.int 2)) (.cons (.con (.int 0)) (.cons (.con (.int 3)) (.cons (.con (.int 1)) .nil)))))) (.call 11 (.cons (.var 0) (.cons (.con (.int 9)) (.cons (.con (.int 5)) .nil)))))) k14) (.cons (.set 11 (.call 14 m14)) (.cons (.exp (.mt .append (.var 6) (.cons e14w .nil))) .nil)))
def ap14 (e : ME) : MS := .exp (.mt .append (.var 6) (.cons e .nil))
theorem a14_3 : a14 3 = .iff (.cmp .eq (.var 8) (.con (.int 0))) (.cons (ap14 e14s) .nil) (.cons (.iff (.and (.cmp .eq (.var 8) (.con (.int 1))) (.cmp .gt (.bi .len (.cons (.var 3) .nil)) (.con (.int 0)))) (.cons (ap14 e14c) .nil) (.cons (.iff (.or (.cmp .lt (.var 8) (.con (.int 4))) (.cmp .eq (.var 4) (.con (.int 0)))) (.cons (ap14 e14h) .nil) w14) .nil)) .nil) := rfl
theorem pn_s1 : pn 0 (.str ("far" : Str)) = true := by decide +kernel
theorem pn_s2 : pn 0 (.str ("near" : Str)) = true := by decide +kernel
theorem pn_s3 : pn 0 (.str ("b" : Str)) = true := by decide +kernel
theorem pn_s4 : pn 0 (.str ("=" : Str)) = true := by decide +kernel
theorem pn_s5 : pn 0 (.str ("!" : Str)) = true := by decide +kernel
theorem say14 (h11 : H11 C) (h : Sk s R1 M) : ∃ (w : Mp.D) (M1 : Mem), evE Gc C e14s (S14 a b c (R.length + 3) cs n e7 e8 e9 e10 e11) M = .ok (.d (It.say w).D) M1 ∧ Sk s R1 M1 ∧ pn 0 w = true := by
  obtain ⟨r, M1, g1, g2, r0, r1⟩ := h11 (pl := 7) (many := 3) h (by decide) (by decide) (by decide) (by decide)
  obtain ⟨w, hw, hw2⟩ := tup3_at (x := .str ("far" : Str)) (y := .str ("near" : Str)) (z := .str ("b" : Str)) r0 r1
  have l2 : 2 ≤ lim := by unfold lim; omega
  have l3 : 3 ≤ lim := by unfold lim; omega
  refine ⟨w, M1, ?_, g2, ?_⟩
  · simp [e14s, It.D, g1, l2, l3, hw]
  · rcases hw2 with rfl | rfl | rfl
    · exact pn_s1
    · exact pn_s2
    · exact pn_s3
theorem call14 (h11 : H11 C) (h : Sk s R1 M) (h0 : 0 < cs.length) (h1 : cs.length ≤ 100) : ∃ (j : Nat) (M1 : Mem), evE Gc C e14c (S14 a b c (R.length + 3) cs n e7 e8 e9 e10 e11) M = .ok (.d (It.call j).D) M1 ∧ Sk s R1 M1 ∧ j ∈ cs := by
  obtain ⟨r, M1, g1, g2, r0, r1⟩ := h11 (pl := 8) (many := (cs.length : Nat)) h (by decide) (by decide) (by omega) (by omega)
  have hj : r.toNat < cs.length := by omega
  have hat : L2.atI (nI cs) r = some (.int (cs[r.toNat] : Nat)) := by
    have := L2.atI_nat (xs := nI cs) (j := r.toNat) (v := .int (cs[r.toNat] : Nat)) (by unfold nI; rw [List.getElem?_map, List.getElem?_eq_getElem hj]; rfl)
    rw [show ((r.toNat : Nat) : Int) = r by omega] at this
    exact this
  have l2 : 2 ≤ lim := by unfold lim; omega
  have hl := nI_len cs
  refine ⟨cs[r.toNat], M1, ?_, g2, List.getElem_mem hj⟩
  simp [e14c, It.D, g1, l2, hat, hl]
theorem show14 (h13 : H13 C) (h : Sk s R1 M) (g : Gd R1 a b hs ns) : ∃ (t : Tm) (M1 : Mem), evE Gc C e14h (S14 a b c (R.length + 3) cs n e7 e8 e9 e10 e11) M = .ok (.d (It.shw t).D) M1 ∧ Sk s R1 M1 := by
  obtain ⟨t, M1, g1, g2⟩ := h13 h g
  have l2 : 2 ≤ lim := by unfold lim; omega
  exact ⟨t, M1, by simp [e14h, It.D, g1, l2], g2⟩
theorem cond14 {x : Option Val} (h11 : H11 C) (h13 : H13 C) (h : Sk s R1 M) (g : Gd R1 a b hs ns) : ∃ (cd : Mp.D × Tm × Tm) (M1 : Mem), evE Gc C e14k (S14 a b c (R.length + 3) cs n e7 e8 e9 x e11) M = .ok (.d (cndD cd)) M1 ∧ Sk s R1 M1 ∧ pn 0 cd.1 = true := by
  obtain ⟨r, M1, g1, g2, r0, r1⟩ := h11 (pl := 10) (many := 2) h (by decide) (by decide) (by decide) (by decide)
  obtain ⟨t1, M2, q1, q2⟩ := h13 g2 g
  obtain ⟨t2, M3, q3, q4⟩ := h13 q2 g
  have l2 : 2 ≤ lim := by unfold lim; omega
  have l3 : 3 ≤ lim := by unfold lim; omega
  have : r = 0 ∨ r = 1 := by omega
  rcases this with rfl | rfl
  · exact ⟨(.str ("=" : Str), t1, t2), M3, by simp [e14k, g1, q1, q3, l2, l3, cndD, atI0], q4, pn_s4⟩
  · exact ⟨(.str ("!" : Str), t1, t2), M3, by simp [e14k, g1, q1, q3, l2, l3, cndD, at1], q4, pn_s5⟩
theorem Gd.app (g : Gd R1 a b hs ns) (ob : Ob) : Gd (R1 ++ [ob]) a b hs ns :=
  ⟨by rw [List.getElem?_append_left (List.getElem?_eq_some_iff.mp g.ha).1, g.ha], by rw [List.getElem?_append_left (List.getElem?_eq_some_iff.mp g.hb).1, g.hb], g.h1, g.h2, g.n1⟩
theorem Gd.room (g : Gd R1 a b hs ns) (hca : c ≠ a) (hcb : c ≠ b) (ob : Ob) : Gd (R1.set c ob) a b hs ns :=
  ⟨by rw [List.getElem?_set_ne hca, g.ha], by rw [List.getElem?_set_ne hcb, g.hb], g.h1, g.h2, g.n1⟩
theorem tup5_at {r : Int} (h0 : 0 ≤ r) (h1 : r < 5) : ∃ j : Nat, L2.atI [PyData.int 1, .int 2, .int 0, .int 3, .int 1] r = some (.int (j : Nat)) ∧ j ≤ 3 := by
  have : r = 0 ∨ r = 1 ∨ r = 2 ∨ r = 3 ∨ r = 4 := by omega
  rcases this with rfl | rfl | rfl | rfl | rfl
  · exact ⟨1, atI0 _ _, by decide⟩
  · exact ⟨2, at1 _ _ _, by decide⟩
  · exact ⟨0, at2 _ _ _ _, by decide⟩
  · exact ⟨3, at3 _ _ _ _ _, by decide⟩
  · exact ⟨1, L2.atI_nat (j := 4) rfl, by decide⟩
theorem conds14 (h11 : H11 C) (h13 : H13 C) (h : Sk s (R1 ++ [.lst []]) M) (g : Gd R1 a b hs ns) {j : Nat} (hj : j ≤ 3) :
    ∃ (cds : List (Mp.D × Tm × Tm)) (x : Option Val) (M1 : Mem), forL (.nm 10) (evSs Gc C k14) ((rI j).map .int) (S14 a b c (R.length + 3) cs n e7 e8 (some (.ref (R1.length + 3))) e10 e11) M = .ok (.nx (S14 a b c (R.length + 3) cs n e7 e8 (some (.ref (R1.length + 3))) x e11)) M1 ∧ Sk s (R1 ++ [.lst (cds.map cndD)]) M1 ∧ cds.length ≤ 3 ∧ ∀ cd ∈ cds, pn 0 cd.1 = true := by
  obtain ⟨σ', M', e, cds, x, rfl, hk, hl, hp⟩ := forL_go (tg := .nm 10) (b := evSs Gc C k14) (xs := (rI j).map .int) (σ := S14 a b c (R.length + 3) cs n e7 e8 (some (.ref (R1.length + 3))) e10 e11) (M := M)
    (fun i σ M => ∃ (cds : List (Mp.D × Tm × Tm)) (x : Option Val), σ = S14 a b c (R.length + 3) cs n e7 e8 (some (.ref (R1.length + 3))) x e11 ∧ Sk s (R1 ++ [.lst (cds.map cndD)]) M ∧ cds.length = i ∧ ∀ cd ∈ cds, pn 0 cd.1 = true) ⟨[], e10, rfl, h, rfl, fun _ h => by cases h⟩ (by
      rintro i y σ M hx ⟨cds, x, rfl, hk, hl, hp⟩
      obtain ⟨hi, rfl⟩ := rI_at hx
      obtain ⟨cd, M1, q1, q2, q3⟩ := cond14 (R := R) (c := c) (cs := cs) (n := n) (e7 := e7) (e8 := e8) (e9 := some (.ref (R1.length + 3))) (x := some (.d (.int (i : Nat)))) (e11 := e11) h11 h13 hk (g.app _)
      have hr := hk.get R1.length
      rw [get_end] at hr
      have hr2 := q2.get R1.length
      rw [get_end] at hr2
      have hkd := x_kind (m := .append) (fun h => by cases h) (fun h => by cases h) hr
      have ha := x_app (x := cndD cd) hr2
      rw [if_pos (by rw [List.length_map]; unfold lim; omega)] at ha
      have hset := q2.set R1.length (.lst (cds.map cndD ++ [cndD cd]))
      rw [set_end] at hset
      refine ⟨_, _, _, rfl, ?_, cds ++ [cd], some (.d (.int (i : Nat))), rfl, by rw [List.map_append]; exact hset, by rw [List.length_append, hl]; rfl, fun z hz => ?_⟩
      · unfold k14
        simp [hkd, q1, ha]
      · rcases List.mem_append.mp hz with hz | hz
        · exact hp z hz
        · rw [List.mem_singleton.mp hz]; exact q3)
  rw [List.length_map, rI_len] at hl
  exact ⟨cds, x, M', e, hk, by omega, hp⟩
end
end Mp.k06
end
section
set_option maxHeartbeats 4000000
namespace Mp.k06
open PySem PySem.Spec PyProof.Rows L2 Mp

section
variable {C : CT} {s : List Mp.D} {R R1 M : Mem} {a b c n : Nat} {hs : List (Mp.D × List Mp.D)} {ns : List Int} {cs : List Nat} {k k0 : Int} {its : Its} {e7 e8 e9 e10 e11 : Option Val}
theorem Gd.st (g : Gd R a b hs ns) {X : List Mp.D} (st : St R c k X R1) (hca : c ≠ a) (hcb : c ≠ b) : Gd R1 a b hs ns :=
  ⟨by rw [st.ato (List.getElem?_eq_some_iff.mp g.ha).1 hca, g.ha], by rw [st.ato (List.getElem?_eq_some_iff.mp g.hb).1 hcb, g.hb], g.h1, g.h2, g.n1⟩
theorem args14 {C : CT} {t : Nat} (hn : 1 ≤ n) : evEs Gc C m14 (S14 a b c t cs n e7 e8 e9 e10 e11) M = .ok [.ref 2, .ref (a + 3), .ref (b + 3), .d (.list (nI cs)), .d (.int ((n - 1 : Nat) : Int)), .ref (c + 3)] M := by
  have : (n : Int) - 1 = ((n - 1 : Nat) : Int) := by omega
  simp [m14, this]
theorem when14 (h11 : H11 C) (h13 : H13 C) (h14 : 1 ≤ n → H14 C (n - 1)) (hn : 1 ≤ n) (hc : c < R.length) (hca : c ≠ a) (hcb : c ≠ b) (hcs : cs.length ≤ 100) (g : Gd R a b hs ns)
    (h : Sk s R1 M) (st : St R c k its.Ds R1) (b1 : 0 ≤ k) (b2 : its.nn + 1 + k ≤ k0) (b3 : k0 ≤ 100) (hB : Bk n cs its) :
    ∃ σ' M', evSs Gc C w14 (S14 a b c (R.length + 3) cs n e7 e8 e9 e10 e11) M = .ok (.nx σ') M' ∧ P14 s R a b c n cs k0 σ' M' := by
  have hml := h.len
  have s1 : evS Gc C (.set 9 (.new (.lst .nil))) (S14 a b c (R.length + 3) cs n e7 e8 e9 e10 e11) M = .ok (.nx (S14 a b c (R.length + 3) cs n e7 e8 (some (.ref (R1.length + 3))) e10 e11)) (M ++ [.lst []]) := by
    simp [hml]
  have h2 := h.app (.lst [])
  have st2 := st.app (.lst [])
  have g1 := g.st st hca hcb
  obtain ⟨r, M3, q1, h3, r0, r1⟩ := h11 (pl := 9) (many := 5) h2 (by decide) (by decide) (by decide) (by decide)
  obtain ⟨j, hj, hj3⟩ := tup5_at r0 r1
  obtain ⟨cds, x, M4, q2, h4, hcl, hcp⟩ := conds14 (c := c) (R := R) (n := n) (cs := cs) (e7 := e7) (e8 := e8) (e10 := e10) (e11 := e11) h11 h13 h3 g1 hj3
  have hrg := rngOk_n (n := j) (by unfold lim; omega)
  have l5 : 5 ≤ lim := by unfold lim; omega
  have s2 : evS Gc C (.forr (.nm 10) (.rg1 (.idx (.tup (.cons (.con (.int 1)) (.cons (.con (.int 2)) (.cons (.con (.int 0)) (.cons (.con (.int 3)) (.cons (.con (.int 1)) .nil)))))) (.call 11 (.cons (.var 0) (.cons (.con (.int 9)) (.cons (.con (.int 5)) .nil)))))) k14) (S14 a b c (R.length + 3) cs n e7 e8 (some (.ref (R1.length + 3))) e10 e11) (M ++ [.lst []]) = .ok (.nx (S14 a b c (R.length + 3) cs n e7 e8 (some (.ref (R1.length + 3))) x e11)) M4 := by
    rw [x_forr, ← q2]
    generalize k14 = K at *
    simp [l5, q1, hj, hrg, rngD_rI]
  have st4 : St R c k its.Ds (R1 ++ [.lst (cds.map cndD)]) := st.app _
  have g4 := g1.app (.lst (cds.map cndD))
  have hlen := st.len
  have hc4 : (R1 ++ [.lst (cds.map cndD)])[c]? = some (.lst [.int k]) := st4.atc hc
  obtain ⟨i1, k1, M5, q3, h5, p1, p2, B1⟩ := h14 hn (c := c) (cs := cs) (k := k) h4 g4 hc4 hca hcb b1 (by omega) hcs
  have st5 := st4.room hc k1
  have g5 := g4.room hca hcb (.lst [.int k1])
  have s3 : evS Gc C (.set 11 (.call 14 m14)) (S14 a b c (R.length + 3) cs n e7 e8 (some (.ref (R1.length + 3))) x e11) M4 = .ok (.nx (S14 a b c (R.length + 3) cs n e7 e8 (some (.ref (R1.length + 3))) x (some (.d (.tuple i1.Ds))))) M5 := by
    rw [x_set, x_call, args14 hn, x_bok, q3]
    rfl
  have hc5 := st5.atc hc
  obtain ⟨i2, k2, M6, q4, h6, p3, p4, B2⟩ := h14 hn (c := c) (cs := cs) (k := k1) h5 g5 hc5 hca hcb p1 (by omega) hcs
  have st6 := st5.room hc k2
  rw [List.set_set] at h6 st6
  have hq : M5[R1.length + 3]? = some (.lst (cds.map cndD)) := by
    rw [h5.get, List.getElem?_set_ne (by omega), get_end]
  have l4 : 4 ≤ lim := by unfold lim; omega
  have e6 : evE Gc C e14w (S14 a b c (R.length + 3) cs n e7 e8 (some (.ref (R1.length + 3))) x (some (.d (.tuple i1.Ds)))) M5 = .ok (.d (It.when cds i1 i2).D) M6 := by
    have hbt := x_btupr hq
    have ha := args14 (M := M5) (C := C) (a := a) (b := b) (c := c) (cs := cs) (e7 := e7) (e8 := e8) (e9 := some (.ref (R1.length + 3))) (e10 := x) (e11 := some (.d (.tuple i1.Ds))) (t := R.length + 3) hn
    simp [e14w, hbt, l4, It.D]
    rw [ha]
    simp [q4, l4]
  obtain ⟨M7, s4, hP⟩ := more14 (k0 := k0) (i := .when cds i1 i2) h5 st5 e6 h6 st6 p3 (by show (its.nn : Int) + ((1 + (i1.nn + i2.nn) : Nat) : Int) + k2 ≤ k0; omega) b3 hB
    (by have := B1.dp; have := B2.dp; show max i1.dp i2.dp + 1 ≤ n; omega) ⟨hcl, B1.cw, B2.cw⟩ ⟨hcp, B1.wk, B2.wk⟩ (fun j hj => (List.mem_append.mp (show j ∈ i1.cl ++ i2.cl from hj)).elim (B1.cl j) (B2.cl j))
  refine ⟨_, M7, ?_, hP⟩
  unfold w14
  rw [sqn s1, sqn s2, sqn s3, sqn s4, x_snil]
theorem lap14 (h11 : H11 C) (h13 : H13 C) (h14 : 1 ≤ n → H14 C (n - 1)) (hc : c < R.length) (hca : c ≠ a) (hcb : c ≠ b) (hcs : cs.length ≤ 100) (g : Gd R a b hs ns) (b3 : k0 ≤ 100)
    (h : Sk s R1 M) (st : St R c k its.Ds R1) (b1 : 0 ≤ k) (b2 : its.nn + k ≤ k0) (hB : Bk n cs its) :
    (∃ σ' M', evSs Gc C in14 (S14 a b c (R.length + 3) cs n e7 e8 e9 e10 e11) M = .ok (.nx σ') M' ∧ P14 s R a b c n cs k0 σ' M') ∨ ∃ σ' M', evSs Gc C in14 (S14 a b c (R.length + 3) cs n e7 e8 e9 e10 e11) M = .ok (.bk σ') M' ∧ P14 s R a b c n cs k0 σ' M' := by
  obtain ⟨w, M1, q1, h1, w0, w1⟩ := h11 (pl := 6) (many := 7) h (by decide) (by decide) (by decide) (by decide)
  have s0 : evS Gc C (a14 0) (S14 a b c (R.length + 3) cs n e7 e8 e9 e10 e11) M = .ok (.nx (S14 a b c (R.length + 3) cs n e7 (some (.d (.int w))) e9 e10 e11)) M1 := by
    simp [a14, in14, bodyOf, nthS, b14, q1]
  have hr := h1.get c
  rw [st.atc hc] at hr
  have hix := x_ixr (i := 0) hr
  rw [atI0] at hix
  by_cases hk : k < 1
  · have s1 : evS Gc C (a14 1) (S14 a b c (R.length + 3) cs n e7 (some (.d (.int w))) e9 e10 e11) M1 = .ok (.bk (S14 a b c (R.length + 3) cs n e7 (some (.d (.int w))) e9 e10 e11)) M1 := by
      simp [a14, in14, bodyOf, nthS, b14, hix, hk]
    refine .inr ⟨_, M1, ?_, its, k, R1, e7, some (.d (.int w)), e9, e10, e11, rfl, h1, st, b1, b2, hB⟩
    rw [in14_is, sqn s0, sq1 s1, x_sqb]
  have s1 : evS Gc C (a14 1) (S14 a b c (R.length + 3) cs n e7 (some (.d (.int w))) e9 e10 e11) M1 = .ok (.nx (S14 a b c (R.length + 3) cs n e7 (some (.d (.int w))) e9 e10 e11)) M1 := by
    simp [a14, in14, bodyOf, nthS, b14, hix, hk]
  have hset : setV M1 (.ref (c + 3)) (.d (.int 0)) (.d (.int (k - 1))) = some (M1.set (c + 3) (.lst [.int (k - 1)])) := by
    simp [setV, hr, L2.ixN]
  have s2 : evS Gc C (a14 2) (S14 a b c (R.length + 3) cs n e7 (some (.d (.int w))) e9 e10 e11) M1 = .ok (.nx (S14 a b c (R.length + 3) cs n e7 (some (.d (.int w))) e9 e10 e11)) (M1.set (c + 3) (.lst [.int (k - 1)])) := by
    simp [a14, in14, bodyOf, nthS, b14, hix, hset]
  have h2 := h1.set c (.lst [.int (k - 1)])
  have st2 := st.room hc (k - 1)
  generalize M1.set (c + 3) (.lst [.int (k - 1)]) = M2 at *
  generalize R1.set c (.lst [.int (k - 1)]) = R2 at *
  have key : ∃ σ' M', evS Gc C (a14 3) (S14 a b c (R.length + 3) cs n e7 (some (.d (.int w))) e9 e10 e11) M2 = .ok (.nx σ') M' ∧ P14 s R a b c n cs k0 σ' M' := by
    have hl := nI_len cs
    rw [a14_3]
    by_cases w_0 : w = 0
    · obtain ⟨x, M3, q2, h3, hx⟩ := say14 (R := R) (a := a) (b := b) (c := c) (n := n) (cs := cs) (e7 := e7) (e8 := some (.d (.int w))) (e9 := e9) (e10 := e10) (e11 := e11) h11 h2
      obtain ⟨M4, s4, hP⟩ := more14 (k0 := k0) (i := .say x) h2 st2 q2 h3 st2 (by omega) (by show (its.nn : Int) + ((1 : Nat) : Int) + (k - 1) ≤ k0; omega) b3 hB (Nat.zero_le _) trivial hx (fun j hj => by cases hj)
      refine ⟨_, M4, ?_, hP⟩
      unfold ap14
      rw [x_iff]
      simp only [x_cmp, x_var, x_con, x_gete0, x_getes, x_ofS, x_bok, x_cmpd, x_eqi, w_0, decide_true, x_trud, x_trub, if_true]
      subst w_0
      rw [sqn s4, x_snil]
    by_cases w_1 : w = 1 ∧ 0 < cs.length
    · obtain ⟨w_1, w_2⟩ := w_1
      obtain ⟨x, M3, q2, h3, hx⟩ := call14 (R := R) (a := a) (b := b) (c := c) (n := n) (cs := cs) (e7 := e7) (e8 := some (.d (.int w))) (e9 := e9) (e10 := e10) (e11 := e11) h11 h2 w_2 hcs
      obtain ⟨M4, s4, hP⟩ := more14 (k0 := k0) (i := .call x) h2 st2 q2 h3 st2 (by omega) (by show (its.nn : Int) + ((1 : Nat) : Int) + (k - 1) ≤ k0; omega) b3 hB (Nat.zero_le _) trivial trivial (fun j hj => by rw [List.mem_singleton.mp (show j ∈ [x] from hj)]; exact hx)
      refine ⟨_, M4, ?_, hP⟩
      subst w_1
      generalize ap14 e14s = X1 at *
      generalize ap14 e14h = X2 at *
      generalize w14 = X3 at *
      have s4' : evS Gc C (ap14 e14c) (S14 a b c (R.length + 3) cs n e7 (some (.d (.int 1))) e9 e10 e11) M2 = _ := s4
      generalize ap14 e14c = X4 at *
      simp [hl, s4', w_2]
    by_cases w_2 : w < 4 ∨ n = 0
    · obtain ⟨x, M3, q2, h3⟩ := show14 (R := R) (c := c) (n := n) (cs := cs) (e7 := e7) (e8 := some (.d (.int w))) (e9 := e9) (e10 := e10) (e11 := e11) h13 h2 (g.st st2 hca hcb)
      obtain ⟨M4, s4, hP⟩ := more14 (k0 := k0) (i := .shw x) h2 st2 q2 h3 st2 (by omega) (by show (its.nn : Int) + ((1 : Nat) : Int) + (k - 1) ≤ k0; omega) b3 hB (Nat.zero_le _) trivial trivial (fun j hj => by cases hj)
      refine ⟨_, M4, ?_, hP⟩
      generalize ap14 e14s = X1 at *
      generalize ap14 e14c = X2 at *
      generalize w14 = X3 at *
      have s4' : evS Gc C (ap14 e14h) (S14 a b c (R.length + 3) cs n e7 (some (.d (.int w))) e9 e10 e11) M2 = _ := s4
      generalize ap14 e14h = X4 at *
      by_cases w1' : w = 1
      · have hz : cs.length = 0 := by
          rcases Nat.eq_zero_or_pos cs.length with h | h
          · exact h
          · exact absurd ⟨w1', h⟩ w_1
        subst w1'
        simp [hl, s4', hz]
      · by_cases w4 : w < 4
        · simp [w_0, w1', w4, s4']
        · have hn0 : n = 0 := w_2.resolve_left w4
          simp [w_0, w1', w4, hn0] at s4' ⊢
          simp [s4']
    · have w4 : ¬ w < 4 := fun h => w_2 (.inl h)
      have hn0 : ¬ n = 0 := fun h => w_2 (.inr h)
      have w1' : ¬ w = 1 := by omega
      obtain ⟨σ', M4, s4, hP⟩ := when14 (k0 := k0) (e7 := e7) (e8 := some (.d (.int w))) (e9 := e9) (e10 := e10) (e11 := e11) h11 h13 h14 (by omega) hc hca hcb hcs g h2 st2 (by omega) (by omega) b3 hB
      refine ⟨_, M4, ?_, hP⟩
      generalize ap14 e14s = X1 at *
      generalize ap14 e14c = X2 at *
      generalize ap14 e14h = X3 at *
      generalize w14 = X4 at *
      simp [w_0, w1', w4, hn0, s4]
  obtain ⟨σ', M', s3, hP⟩ := key
  refine .inl ⟨σ', M', ?_, hP⟩
  rw [in14_is, sqn s0, sqn s1, sqn s2, sqn s3, x_snil]
end
theorem b14_is : b14 = .cons (.set 6 (.new (.lst .nil))) (.cons (.forr (.nm 7) (.rg1 (.idx (.tup (.cons (.con (.int 2)) (.cons (.con (.int 1)) (.cons (.con (.int 3)) (.cons (.con (.int 0)) (.cons (.con (.int 2)) .nil)))))) (.call 11 (.cons (.var 0) (.cons (.con (.int 5)) (.cons (.con (.int 5)) .nil)))))) in14) (.cons (.ret (.bi .tuple (.cons (.var 6) .nil))) .nil)) := rfl
theorem tup5b_at {r : Int} (h0 : 0 ≤ r) (h1 : r < 5) : ∃ j : Nat, L2.atI [PyData.int 2, .int 1, .int 3, .int 0, .int 2] r = some (.int (j : Nat)) ∧ j ≤ 3 := by
  have : r = 0 ∨ r = 1 ∨ r = 2 ∨ r = 3 ∨ r = 4 := by omega
  rcases this with rfl | rfl | rfl | rfl | rfl
  · exact ⟨2, atI0 _ _, by decide⟩
  · exact ⟨1, at1 _ _ _, by decide⟩
  · exact ⟨3, at2 _ _ _ _, by decide⟩
  · exact ⟨0, at3 _ _ _ _ _, by decide⟩
  · exact ⟨2, L2.atI_nat (j := 4) rfl, by decide⟩
theorem t14 (m : Nat) : ∀ n : Nat, H14 (callAt Gc tx.T (m + n + 3)) n := by
  intro n
  induction n with
  | zero => exact @go m 0 (fun h => absurd h (by decide))
  | succ n ih =>
    have h : H14 (callAt Gc tx.T (m + (n + 1) + 2)) n := by
      rw [show m + (n + 1) + 2 = m + n + 3 by omega]
      exact @ih
    exact @go m (n + 1) (fun _ => @h)
where
  go (m n : Nat) (h14 : 1 ≤ n → H14 (callAt Gc tx.T (m + n + 2)) (n - 1)) : H14 (callAt Gc tx.T (m + n + 3)) n := by
    intro s R M a b c hs ns cs k h g hck hca hcb k0 k1 hcs
    rw [show m + n + 3 = (m + n + 2) + 1 by omega, call_is (f := f14) rfl]
    let C := callAt Gc tx.T (m + n + 2)
    have h11 : H11 C := fun h a b c d => t11 (m + n + 1) h a b c d
    have h13 : H13 C := fun h g => t13 (m + n) h g
    have hc : c < R.length := (List.getElem?_eq_some_iff.mp hck).1
    have hml := h.len
    have hset : R.set c (.lst [.int k]) = R := by
      have := (List.getElem?_eq_some_iff.mp hck).2
      rw [← this, List.set_getElem_self]
    have s1 : evS Gc C (.set 6 (.new (.lst .nil))) [some (.ref 2), some (.ref (a + 3)), some (.ref (b + 3)), some (.d (.list (nI cs))), some (.d (.int (n : Nat))), some (.ref (c + 3)), none, none, none, none, none, none] M = .ok (.nx (S14 a b c (R.length + 3) cs n none none none none none)) (M ++ [.lst []]) := by
      simp [hml]
    have h1 := h.app (.lst [])
    obtain ⟨r, M2, q1, h2, r0, r1⟩ := h11 (pl := 5) (many := 5) h1 (by decide) (by decide) (by decide) (by decide)
    obtain ⟨j, hj, hj3⟩ := tup5b_at r0 r1
    have st : St R c k (Its.nil).Ds (R ++ [.lst []]) := ⟨by rw [hset]; simp, get_end _ _⟩
    obtain ⟨σ', M3, e, hP⟩ := forL_brk (tg := .nm 7) (b := evSs Gc C in14) (xs := (rI j).map .int) (σ := S14 a b c (R.length + 3) cs n none none none none none) (M := M2) (n := 0)
      (fun _ σ M => P14 s R a b c n cs k σ M) (fun σ M => P14 s R a b c n cs k σ M) ⟨.nil, k, R ++ [.lst []], none, none, none, none, none, rfl, h2, st, k0, by show ((0 : Nat) : Int) + k ≤ k; omega, ⟨Nat.zero_le _, trivial, trivial, fun j hj => by cases hj⟩⟩ (by
        rintro i x σ M hx ⟨its, k', R1, e7, e8, e9, e10, e11, rfl, p1, p2, p3, p4, p5⟩
        exact ⟨_, rfl, lap14 h11 h13 h14 hc hca hcb hcs g k1 p1 p2 p3 p4 p5⟩)
    obtain ⟨its, k', R1, e7, e8, e9, e10, e11, rfl, p1, p2, p3, p4, p5⟩ : P14 s R a b c n cs k σ' M3 := hP.elim id id
    have hrg := rngOk_n (n := j) (by unfold lim; omega)
    have l5 : 5 ≤ lim := by unfold lim; omega
    have s2 : evS Gc C (.forr (.nm 7) (.rg1 (.idx (.tup (.cons (.con (.int 2)) (.cons (.con (.int 1)) (.cons (.con (.int 3)) (.cons (.con (.int 0)) (.cons (.con (.int 2)) .nil)))))) (.call 11 (.cons (.var 0) (.cons (.con (.int 5)) (.cons (.con (.int 5)) .nil)))))) in14) (S14 a b c (R.length + 3) cs n none none none none none) (M ++ [.lst []]) = .ok (.nx (S14 a b c (R.length + 3) cs n e7 e8 e9 e10 e11)) M3 := by
      rw [x_forr, ← e]
      generalize in14 = K at *
      simp [l5, q1, hj, hrg, rngD_rI]
    have hr := p1.get R.length
    rw [p2.gt] at hr
    have hbt := x_btupr hr
    refine ⟨its, k', M3.take M.length, ?_, ?_, p3, p4, p5⟩
    · rw [run_rt (fn := f14) (v := .d (.tuple its.Ds)) (M1 := M3) rfl rfl ?_]
      · show outV M.length true _ _ = _
        rw [out_d]
      show evSs Gc C b14 _ M = _
      rw [b14_is]
      show evSs Gc C _ [some (.ref 2), some (.ref (a + 3)), some (.ref (b + 3)), some (.d (.list (nI cs))), some (.d (.int (n : Nat))), some (.ref (c + 3)), none, none, none, none, none, none] M = _
      rw [sqn s1, sqn s2]
      simp [hbt]
    · have e1 : R1 = R1.take R.length ++ R1.drop R.length := (List.take_append_drop _ _).symm
      rw [e1] at p1
      have := p1.take
      rw [List.length_take, Nat.min_eq_left (Nat.le_of_lt p2.len), p2.tk] at this
      rw [hml]
      exact this
end Mp.k06
end
section
set_option maxHeartbeats 4000000
namespace Mp.k06
open PySem PySem.Spec PyProof.Rows L2 Mp

/-! ### counts -/
def pe : Nat → Nat
  | 0 => 2
  | f + 1 => 12 * pe f
def tri (w q l : Nat) : Mp.D := .tuple [.int (w : Nat), .int (q : Nat), .int (l : Nat)]
theorem pe_ge : ∀ f : Nat, 2 ≤ pe f
  | 0 => Nat.le_refl _
  | f + 1 => by have := pe_ge f; show 2 ≤ 12 * pe f; omega
theorem mul_okl {a b : Int} (h : a.natAbs < 2 ^ 64) : mulOk a b = true := by
  unfold mulOk
  rw [decide_eq_true h]
  simp
theorem mul_oks {a b : Nat} {x y : Nat} (ha : a ≤ 2 ^ x) (hb : b ≤ 2 ^ y) (hx : x < 8000) (hy : y < 8000) : mulOk (a : Int) (b : Int) = true := by
  have h1 : a < lim9 := Nat.lt_of_le_of_lt ha (Nat.pow_lt_pow_right (by decide) hx)
  have h2 : b < lim9 := Nat.lt_of_le_of_lt hb (Nat.pow_lt_pow_right (by decide) hy)
  unfold mulOk small
  rw [Int.natAbs_natCast, Int.natAbs_natCast, decide_eq_true h1, decide_eq_true h2]
  rfl
theorem x_bmax {M : Mem} {a b : Nat} : biV .max2 M [.d (.int (a : Nat)), .d (.int (b : Nat))] = some (.int ((max a b : Nat) : Int)) := by
  show some (PyData.int (if (b : Int) > a then (b : Int) else a)) = _
  congr 2
  split <;> omega
def in15 : MSs := bodyOf (nthS b15 1)
def a15 (i : Nat) : MS := nthS in15 i
theorem in15_is : in15 = .cons (a15 0) (.cons (a15 1) .nil) := rfl
abbrev S15 (asks : List Ask) (b t i o : Option Val) (x y : Option Val) : Env := [some (.d (.list (asks.map askD))), b, t, i, o, x, y]
section
variable {C : CT} {asks : List Ask} {r : Nat → Nat} {f n : Nat} {M : Mem}
def HC (C : CT) (asks : List Ask) (r : Nat → Nat) (f n : Nat) : Prop := ∀ (its : Its) (M : Mem), its.dp < n → Cl asks r f its.cl → its.nn ≤ 12 → its.cw 3 → ∃ w q l : Nat, C 15 [.d (.list (asks.map askD)), .d (.tuple its.Ds)] M = .ok (.d (tri w q l)) M ∧ w ≤ 2 ^ (pe f * its.nn)
def HCK (C : CT) (asks : List Ask) (r : Nat → Nat) (f : Nat) : Prop := ∀ (k : Nat) (M : Mem), r k < f → k < asks.length → ∃ w q l : Nat, C 15 [.d (.list (asks.map askD)), .d (.tuple (bk asks k).Ds)] M = .ok (.d (tri w q l)) M ∧ w ≤ 2 ^ pe f
theorem pow_sum {e x y : Nat} (he : 2 ≤ e) : 2 ^ (e * x) + 3 * 2 ^ (e * y) ≤ 2 ^ (e * (1 + (x + y))) := by
  have h1 : 2 ^ (e * x) ≤ 2 ^ (e * (x + y)) := Nat.pow_le_pow_right (by decide) (Nat.mul_le_mul_left _ (by omega))
  have h2 : 2 ^ (e * y) ≤ 2 ^ (e * (x + y)) := Nat.pow_le_pow_right (by decide) (Nat.mul_le_mul_left _ (by omega))
  have h3 : 2 ^ 2 * 2 ^ (e * (x + y)) ≤ 2 ^ (e * (1 + (x + y))) := by
    rw [← Nat.pow_add]
    exact Nat.pow_le_pow_right (by decide) (by rw [Nat.mul_add e 1, Nat.mul_one]; omega)
  omega
theorem own15 (hC : HC C asks r f n) (hK : HCK C asks r f) {i : It} {b t s4 s5 s6 : Option Val} (hd : i.dp ≤ n) (hc : Cl asks r f i.cl) (hn : i.nn ≤ 12) (hw : i.cw 3) :
    ∃ (w q l : Nat) (t5 t6 : Option Val), evS Gc C (a15 0) (S15 asks b t (some (.d i.D)) s4 s5 s6) M = .ok (.nx (S15 asks b t (some (.d i.D)) (some (.d (tri w q l))) t5 t6)) M ∧ w ≤ 2 ^ (pe f * i.nn) := by
  have l3 : 3 ≤ lim := by unfold lim; omega
  cases i with
  | say x => exact ⟨1, 0, 1, s5, s6, by simp [a15, in15, bodyOf, nthS, b15, It.D, atI0, q_say2, q_say3, l3, tri], Nat.one_le_two_pow⟩
  | shw x => exact ⟨1, 0, 1, s5, s6, by simp [a15, in15, bodyOf, nthS, b15, It.D, atI0, q_show2, q_show3, l3, tri], Nat.one_le_two_pow⟩
  | call k =>
    obtain ⟨c1, c2⟩ := hc k (by show k ∈ [k]; simp)
    obtain ⟨w, q, l, h9, hb⟩ := hK k M c1 c2
    have hg : asks[k]? = some asks[k] := List.getElem?_eq_getElem c2
    have hat := ask_at hg
    have hbk : bk asks k = asks[k].2 := by unfold bk; rw [hg]; rfl
    rw [hbk] at h9
    refine ⟨w, q, l, s5, s6, ?_, by show w ≤ 2 ^ (pe f * 1); rw [Nat.mul_one]; exact hb⟩
    simp [a15, in15, bodyOf, nthS, b15, It.D, atI0, at1, q_call2, q_call3, l3, hat, h9]
  | when cs x y =>
    have hd' : max x.dp y.dp + 1 ≤ n := hd
    have hn' : 1 + (x.nn + y.nn) ≤ 12 := hn
    have hcx : Cl asks r f x.cl := fun k hk => hc k (List.mem_append_left _ hk)
    have hcy : Cl asks r f y.cl := fun k hk => hc k (List.mem_append_right _ hk)
    obtain ⟨w0, w1, w2⟩ := hw
    obtain ⟨wa, qa, la, h1, p1⟩ := hC x M (by omega) hcx (by omega) w1
    obtain ⟨wb, qb, lb, h2, p2⟩ := hC y M (by omega) hcy (by omega) w2
    have hm : mulOk ((cs.map cndD).length : Int) (wb : Int) = true := mul_okl (by rw [List.length_map]; omega)
    refine ⟨wa + cs.length * wb, 1 + max qa qb, max la lb, some (.d (tri wa qa la)), some (.d (tri wb qb lb)), ?_, ?_⟩
    · rw [List.length_map] at hm
      simp only [tri] at h1 h2 ⊢
      simp [a15, in15, bodyOf, nthS, b15, It.D, atI0, at1, at2, at3, q_when2, h1, h2, l3, hm, x_bmax]
    · have := pow_sum (e := pe f) (x := x.nn) (y := y.nn) (pe_ge f)
      have h3 : cs.length * wb ≤ 3 * 2 ^ (pe f * y.nn) := Nat.mul_le_mul w0 p2
      show wa + cs.length * wb ≤ 2 ^ (pe f * (1 + (x.nn + y.nn)))
      omega
theorem step15 (hf : pe f ≤ 288) (hC : HC C asks r f n) (hK : HCK C asks r f) {i : It} {w q l m : Nat} {b s4 s5 s6 : Option Val} (hd : i.dp ≤ n) (hc : Cl asks r f i.cl) (hn : m + i.nn ≤ 12) (hw : i.cw 3) (hb : w ≤ 2 ^ (pe f * m)) :
    ∃ (w' q' l' : Nat) (t4 t5 t6 : Option Val), evSs Gc C in15 (S15 asks b (some (.d (tri w q l))) (some (.d i.D)) s4 s5 s6) M = .ok (.nx (S15 asks b (some (.d (tri w' q' l'))) (some (.d i.D)) t4 t5 t6)) M ∧ w' ≤ 2 ^ (pe f * (m + i.nn)) := by
  obtain ⟨w2, q2, l2, t5, t6, s0, p0⟩ := own15 (M := M) (b := b) (t := some (.d (tri w q l))) (s4 := s4) (s5 := s5) (s6 := s6) hC hK hd hc (by omega) hw
  have l3 : 3 ≤ lim := by unfold lim; omega
  have e1 : pe f * m ≤ 288 * 12 := Nat.mul_le_mul hf (by omega)
  have e2 : pe f * i.nn ≤ 288 * 12 := Nat.mul_le_mul hf (by omega)
  have hm := mul_oks hb p0 (by omega) (by omega)
  have s1 : evS Gc C (a15 1) (S15 asks b (some (.d (tri w q l))) (some (.d i.D)) (some (.d (tri w2 q2 l2))) t5 t6) M = .ok (.nx (S15 asks b (some (.d (tri (w * w2) (q + q2) (l + l2)))) (some (.d i.D)) (some (.d (tri w2 q2 l2))) t5 t6)) M := by
    generalize i.D = X at *
    simp only [tri]
    simp [a15, in15, bodyOf, nthS, b15, atI0, at1, at2, l3, hm]
  refine ⟨w * w2, q + q2, l + l2, some (.d (tri w2 q2 l2)), t5, t6, ?_, ?_⟩
  · rw [in15_is, sqn s0, sqn s1, x_snil]
  · rw [Nat.mul_add, Nat.pow_add]
    exact Nat.mul_le_mul hb p0
theorem loop15 (hf : pe f ≤ 288) (hC : HC C asks r f n) (hK : HCK C asks r f) {b : Option Val} : ∀ {its : Its} {w q l m : Nat} {s3 s4 s5 s6 : Option Val}, its.dp ≤ n → Cl asks r f its.cl → m + its.nn ≤ 12 → its.cw 3 → w ≤ 2 ^ (pe f * m) →
    ∃ (w' q' l' : Nat) (t3 t4 t5 t6 : Option Val), forL (.nm 3) (evSs Gc C in15) its.Ds (S15 asks b (some (.d (tri w q l))) s3 s4 s5 s6) M = .ok (.nx (S15 asks b (some (.d (tri w' q' l'))) t3 t4 t5 t6)) M ∧ w' ≤ 2 ^ (pe f * (m + its.nn)) ∧ (its = .nil → w' = w ∧ q' = q ∧ l' = l)
  | .nil, w, q, l, m, s3, s4, s5, s6, _, _, _, _, hb => ⟨w, q, l, s3, s4, s5, s6, rfl, hb, fun _ => ⟨rfl, rfl, rfl⟩⟩
  | .cons i z, w, q, l, m, s3, s4, s5, s6, hd, hc, hn, hw, hb => by
    have hd' : max i.dp z.dp ≤ n := hd
    have hn' : m + (i.nn + z.nn) ≤ 12 := hn
    obtain ⟨w1, q1, l1, t4, t5, t6, e1, p1⟩ := step15 (M := M) (b := b) (s4 := s4) (s5 := s5) (s6 := s6) (w := w) (q := q) (l := l) (m := m) hf hC hK (i := i) (by omega) (fun k hk => hc k (List.mem_append_left _ hk)) (by omega) hw.1 hb
    obtain ⟨w2, q2, l2, u3, u4, u5, u6, e, p2, _⟩ := loop15 hf hC hK (b := b) (its := z) (w := w1) (q := q1) (l := l1) (m := m + i.nn) (s3 := some (.d i.D)) (s4 := t4) (s5 := t5) (s6 := t6) (by omega) (fun k hk => hc k (List.mem_append_right _ hk)) (by omega) hw.2 p1
    refine ⟨w2, q2, l2, u3, u4, u5, u6, ?_, by rw [Nat.add_assoc] at p2; exact p2, fun h => by cases h⟩
    show forL _ _ (i.D :: z.Ds) _ _ = _
    rw [forL_cons (σ1 := S15 asks b (some (.d (tri w q l))) (some (.d i.D)) s4 s5 s6) rfl e1, e]
theorem b15_is : b15 = .cons (.set 2 (.tup (.cons (.con (.int 1)) (.cons (.con (.int 0)) (.cons (.con (.int 0)) .nil))))) (.cons (.forr (.nm 3) (.ov (.var 1)) in15) (.cons (.ret (.var 2)) .nil)) := rfl
theorem go15 {j : Nat} {its : Its} (hf : pe f ≤ 288) (hd : its.dp ≤ n) (hc : Cl asks r f its.cl) (hn : its.nn ≤ 12) (hw : its.cw 3) (hC : HC (callAt Gc tx.T j) asks r f n) (hK : HCK (callAt Gc tx.T j) asks r f) :
    ∃ w q l : Nat, callAt Gc tx.T (j + 1) 15 [.d (.list (asks.map askD)), .d (.tuple its.Ds)] M = .ok (.d (tri w q l)) M ∧ w ≤ 2 ^ (pe f * its.nn) ∧ (its = .nil → w = 1 ∧ q = 0 ∧ l = 0) := by
  rw [call_is (f := f15) rfl]
  have l3 : 3 ≤ lim := by unfold lim; omega
  obtain ⟨w, q, l, t3, t4, t5, t6, e, p, hz⟩ := loop15 (M := M) (b := some (.d (.tuple its.Ds))) (w := 1) (q := 0) (l := 0) (m := 0) (s3 := none) (s4 := none) (s5 := none) (s6 := none) hf hC hK hd hc (by omega) hw (by simp)
  rw [Nat.zero_add] at p
  refine ⟨w, q, l, ?_, p, hz⟩
  rw [run_rt (fn := f15) (σ0 := S15 asks (some (.d (.tuple its.Ds))) none none none none none) (v := .d (tri w q l)) (M1 := M) rfl rfl ?_]
  · show outV M.length true _ _ = _
    rw [out_d]
    simp
  show evSs Gc _ b15 _ M = _
  rw [b15_is]
  have e' : forL (.nm 3) (evSs Gc (callAt Gc tx.T j) in15) its.Ds (S15 asks (some (.d (.tuple its.Ds))) (some (.d (.tuple [.int 1, .int 0, .int 0]))) none none none none) M = _ := e
  generalize in15 = IN at *
  simp [l3]
  rw [e']
  simp
theorem t15 (w : Wf asks) {r : Nat → Nat} (hr : ∀ (i : Nat) (a : Ask), asks[i]? = some a → ∀ k ∈ a.2.cl, r k < r i) : ∀ (f n d : Nat) (its : Its) (M : Mem), f ≤ 2 → n ≤ 4 → its.dp ≤ n → Cl asks r f its.cl → its.nn ≤ 12 → its.cw 3 → 6 * f + n + 1 ≤ d →
    ∃ w q l : Nat, callAt Gc tx.T d 15 [.d (.list (asks.map askD)), .d (.tuple its.Ds)] M = .ok (.d (tri w q l)) M ∧ w ≤ 2 ^ (pe f * its.nn) ∧ (its = .nil → w = 1 ∧ q = 0 ∧ l = 0) := by
  intro f
  induction f with
  | zero =>
    intro n
    have hK : ∀ j, HCK (callAt Gc tx.T j) asks r 0 := fun j k M hk => absurd hk (Nat.not_lt_zero _)
    induction n with
    | zero =>
      intro d its M hf hn4 hd hc hn hw hle
      obtain ⟨j, rfl⟩ : ∃ j, d = j + 1 := ⟨d - 1, by omega⟩
      exact go15 (n := 0) (by decide) hd hc hn hw (fun its M h => absurd h (Nat.not_lt_zero _)) (hK j)
    | succ n ihn =>
      intro d its M hf hn4 hd hc hn hw hle
      obtain ⟨j, rfl⟩ : ∃ j, d = j + 1 := ⟨d - 1, by omega⟩
      exact go15 (n := n + 1) (by decide) hd hc hn hw (fun its M h1 h2 h3 h4 => by
        obtain ⟨w, q, l, e1, e2, _⟩ := ihn j its M hf (by omega) (by omega) h2 h3 h4 (by omega)
        exact ⟨w, q, l, e1, e2⟩) (hK j)
  | succ f ihf =>
    have hK : ∀ (j : Nat), f + 1 ≤ 2 → 6 * f + 6 ≤ j → HCK (callAt Gc tx.T j) asks r (f + 1) := by
      intro j hf2 hj k M hrk hk
      obtain ⟨g1, g2, g3⟩ := bk_ok w hr (f := f) hk (by omega)
      have hg : asks[k]? = some asks[k] := List.getElem?_eq_getElem hk
      have hm := List.getElem_mem hk
      have hbk : bk asks k = asks[k].2 := by unfold bk; rw [hg]; rfl
      have h12 := w.nn _ hm
      have h3 := w.cw _ hm
      rw [← hbk] at h12 h3
      obtain ⟨x, q, l, e1, e2, _⟩ := ihf 4 j (bk asks k) M (by omega) (Nat.le_refl _) g1 g2 h12 h3 (by omega)
      refine ⟨x, q, l, e1, Nat.le_trans e2 (Nat.pow_le_pow_right (by decide) ?_)⟩
      show pe f * (bk asks k).nn ≤ 12 * pe f
      rw [Nat.mul_comm]
      exact Nat.mul_le_mul_right _ h12
    have hpe : f + 1 ≤ 2 → pe (f + 1) ≤ 288 := by
      intro h
      have : f = 0 ∨ f = 1 := by omega
      rcases this with rfl | rfl <;> decide
    intro n
    induction n with
    | zero =>
      intro d its M hf hn4 hd hc hn hw hle
      obtain ⟨j, rfl⟩ : ∃ j, d = j + 1 := ⟨d - 1, by omega⟩
      exact go15 (n := 0) (hpe hf) hd hc hn hw (fun its M h => absurd h (Nat.not_lt_zero _)) (hK j hf (by omega))
    | succ n ihn =>
      intro d its M hf hn4 hd hc hn hw hle
      obtain ⟨j, rfl⟩ : ∃ j, d = j + 1 := ⟨d - 1, by omega⟩
      exact go15 (n := n + 1) (hpe hf) hd hc hn hw (fun its M h1 h2 h3 h4 => by
        obtain ⟨w, q, l, e1, e2, _⟩ := ihn j its M hf (by omega) (by omega) h2 h3 h4 (by omega)
        exact ⟨w, q, l, e1, e2⟩) (hK j hf (by omega))
end
/-! ### less -/
structure Le (a b : Its) : Prop where
  dp : b.dp ≤ a.dp
  nn : b.nn ≤ a.nn
  ne : a ≠ .nil → b.nn < a.nn
  cw : a.cw 3 → b.cw 3
  wk : wkS a → wkS b
  cl : ∀ k ∈ b.cl, k ∈ a.cl
structure LeI (a b : It) : Prop where
  dp : b.dp ≤ a.dp
  nn : b.nn ≤ a.nn
  cw : a.cw 3 → b.cw 3
  wk : wkI a → wkI b
  cl : ∀ k ∈ b.cl, k ∈ a.cl
def e16 : ME := .ife (.cmp .eq (.idx (.var 1) (.con (.int 0))) (.con (.str ("when" : Str)))) (.tup (.cons (.con (.str ("when" : Str))) (.cons (.idx (.var 1) (.con (.int 1))) (.cons (.call 16 (.cons (.idx (.var 1) (.con (.int 2))) .nil)) (.cons (.call 16 (.cons (.idx (.var 1) (.con (.int 3))) .nil)) .nil))))) (.var 1)
theorem item16 {C : CT} {M : Mem} {n : Nat} {z : Option Val} (hC : ∀ (its : Its) (M : Mem), its.dp < n → its.nn ≤ 100 → ∃ b, C 16 [.d (.tuple its.Ds)] M = .ok (.d (.tuple b.Ds)) M ∧ Le its b) {i : It} (hd : i.dp ≤ n) (hn : i.nn ≤ 100) :
    ∃ b, evE Gc C e16 [z, some (.d i.D)] M = .ok (.d b.D) M ∧ LeI i b := by
  have l4 : 4 ≤ lim := by unfold lim; omega
  have ll : ∀ i : It, LeI i i := fun i => ⟨Nat.le_refl _, Nat.le_refl _, id, id, fun _ => id⟩
  cases i with
  | say x => exact ⟨_, by simp [e16, It.D, atI0, q_say2], ll (.say x)⟩
  | shw x => exact ⟨_, by simp [e16, It.D, atI0, q_show2], ll (.shw x)⟩
  | call x => exact ⟨_, by simp [e16, It.D, atI0, q_call2], ll (.call x)⟩
  | when cs x y =>
    have hd' : max x.dp y.dp + 1 ≤ n := hd
    have hn' : 1 + (x.nn + y.nn) ≤ 100 := hn
    obtain ⟨x', h1, p1⟩ := hC x M (by omega) (by omega)
    obtain ⟨y', h2, p2⟩ := hC y M (by omega) (by omega)
    refine ⟨.when cs x' y', by simp [e16, It.D, atI0, at1, at2, at3, q_when2, h1, h2, l4], ?_, ?_, fun h => ⟨h.1, p1.cw h.2.1, p2.cw h.2.2⟩, fun h => ⟨h.1, p1.wk h.2.1, p2.wk h.2.2⟩, fun k hk => ?_⟩
    · have := p1.dp; have := p2.dp; show max x'.dp y'.dp + 1 ≤ max x.dp y.dp + 1; omega
    · have := p1.nn; have := p2.nn; show 1 + (x'.nn + y'.nn) ≤ 1 + (x.nn + y.nn); omega
    · rcases List.mem_append.mp (show k ∈ x'.cl ++ y'.cl from hk) with h | h
      · exact List.mem_append_left _ (p1.cl k h)
      · exact List.mem_append_right _ (p2.cl k h)
theorem list16 {C : CT} {M : Mem} {n : Nat} {z : Option Val} (hC : ∀ (its : Its) (M : Mem), its.dp < n → its.nn ≤ 100 → ∃ b, C 16 [.d (.tuple its.Ds)] M = .ok (.d (.tuple b.Ds)) M ∧ Le its b) : ∀ its : Its, its.dp ≤ n → its.nn ≤ 100 →
    ∃ b : Its, lcL (.nm 1) [1] none (evE Gc C e16) [z, none] its.Ds.dropLast M = .ok b.Ds M ∧ Le its b
  | .nil, _, _ => ⟨.nil, rfl, Nat.le_refl _, Nat.le_refl _, fun h => absurd rfl h, id, id, fun _ => id⟩
  | .cons i .nil, _, _ => ⟨.nil, rfl, Nat.zero_le _, Nat.zero_le _, fun _ => by have := It.nn_pos i; show 0 < i.nn + 0; omega, fun _ => trivial, fun _ => trivial, fun _ h => by cases h⟩
  | .cons i (.cons j r), hd, hn => by
    have hd' : max i.dp (Its.cons j r).dp ≤ n := hd
    have hn' : i.nn + (Its.cons j r).nn ≤ 100 := hn
    obtain ⟨b, e, hb⟩ := list16 (z := z) (M := M) hC (.cons j r) (by omega) (by omega)
    obtain ⟨i', e1, hi⟩ := item16 (M := M) (z := z) hC (i := i) (by omega) (by omega)
    refine ⟨.cons i' b, ?_, ?_, ?_, fun _ => ?_, fun h => ⟨hi.cw h.1, hb.cw h.2⟩, fun h => ⟨hi.wk h.1, hb.wk h.2⟩, fun k hk => ?_⟩
    · have ed : (Its.cons i (.cons j r)).Ds.dropLast = i.D :: (Its.cons j r).Ds.dropLast := rfl
      rw [ed]
      unfold lcL
      show (match asgT (.nm 1) i.D (wipeE [z, none] [1]) with | none => Res.no | some σ1 => _) = _
      simp only [asgT, wipeE, sTst, x_bok, if_true, List.set_cons_succ, List.set_cons_zero, e1, e]
      rfl
    · have := hb.dp; have := hi.dp; show max i'.dp b.dp ≤ max i.dp (Its.cons j r).dp; omega
    · have := hb.nn; have := hi.nn; show i'.nn + b.nn ≤ i.nn + (Its.cons j r).nn; omega
    · have := hb.ne (by intro h; cases h); have := hi.nn; show i'.nn + b.nn < i.nn + (Its.cons j r).nn; omega
    · rcases List.mem_append.mp (show k ∈ i'.cl ++ b.cl from hk) with h | h
      · exact List.mem_append_left _ (hi.cl k h)
      · exact List.mem_append_right _ (hb.cl k h)
theorem t16 : ∀ (n m : Nat) (its : Its) (M : Mem), its.dp ≤ n → its.nn ≤ 100 → ∃ b : Its, callAt Gc tx.T (m + n + 1) 16 [.d (.tuple its.Ds)] M = .ok (.d (.tuple b.Ds)) M ∧ Le its b := by
  intro n
  induction n with
  | zero => intro m its M hd hn; exact go 0 m its M hd (fun its M h => absurd h (Nat.not_lt_zero _)) hn
  | succ n ih =>
    intro m its M hd hn
    refine go (n + 1) m its M hd ?_ hn
    intro i2 M2 h2 h3
    obtain ⟨b, e, hb⟩ := ih m i2 M2 (by omega) h3
    exact ⟨b, e, hb⟩
where
  go (n m : Nat) (its : Its) (M : Mem) (hd : its.dp ≤ n) (hC : ∀ (its : Its) (M : Mem), its.dp < n → its.nn ≤ 100 → ∃ b, callAt Gc tx.T (m + n) 16 [.d (.tuple its.Ds)] M = .ok (.d (.tuple b.Ds)) M ∧ Le its b) (hn : its.nn ≤ 100) : ∃ b : Its, callAt Gc tx.T (m + n + 1) 16 [.d (.tuple its.Ds)] M = .ok (.d (.tuple b.Ds)) M ∧ Le its b := by
    rw [call_is (f := f16) rfl]
    obtain ⟨b, e, hb⟩ := list16 (C := callAt Gc tx.T (m + n)) (M := M) (z := some (.d (.tuple its.Ds))) hC its hd hn
    have hbn := Its.len_nn b
    have hbl : b.Ds.length ≤ lim := by have := hb.nn; unfold lim; omega
    refine ⟨b, ?_, hb⟩
    have hc := cutL_init its.Ds
    rw [run_rt (fn := f16) (σ0 := [some (.d (.tuple its.Ds)), none]) (v := .d (.tuple b.Ds)) (M1 := M) rfl rfl ?_]
    · show outV M.length true _ _ = _
      rw [out_d]
      simp
    show evSs Gc _ (.cons (.ret (.bi .tuple (.cons (.lc [1] (.nm 1) (.ov (.slc (.var 0) .non (.som (.neg (.con (.int 1)))))) .nil e16) .nil))) .nil) _ M = _
    generalize e16 = E at *
    simp [evC, hc, e, hbl, cutD]
end Mp.k06
end
section
set_option maxHeartbeats 4000000
namespace Mp.k06
open PySem PySem.Spec PyProof.Rows L2 Mp

/-! ### a program drawn: the beginning -/
theorem appv {C : CT} {σ : Env} {v t : Nat} {e : ME} {M M1 M2 : Mem} {x : Mp.D} (h0 : getE σ v = some (.ref t)) (h1 : kindM .append M (.ref t) = true) (h2 : evE Gc C e σ M = .ok (.d x) M1) (h3 : mtV .append M1 (.ref t) [.d x] = some (.d .none, M2)) :
    evS Gc C (.exp (.mt .append (.var v) (.cons e .nil))) σ M = .ok (.nx σ) M2 := by
  simp [h0, h1, h2, h3]
abbrev S17 (e1 e2 e3 e4 e5 e6 e7 e8 e9 e10 e11 : Option Val) : Env := [some (.ref 2), e1, e2, e3, e4, e5, e6, e7, e8, e9, e10, e11, none, none, none, none]
def a17 (i : Nat) : MS := nthS b17 i
theorem b17_is : b17 = .cons (a17 0) (.cons (a17 1) (.cons (a17 2) (.cons (a17 3) (.cons (a17 4) (.cons (a17 5) (.cons (a17 6) (.cons (a17 7) (.cons (a17 8) .nil)))))))) := rfl
def n3 : List Mp.D := [.str ("shop" : Str), .str ("a" : Str), .str ("phone" : Str)]
def f4n : List Mp.D := [.str ("x" : Str), .str ("id" : Str), .str ("zip" : Str), .str ("y" : Str)]
def n3E : ME := .tup (.cons (.con (.str ("shop" : Str))) (.cons (.con (.str ("a" : Str))) (.cons (.con (.str ("phone" : Str))) .nil)))
def f4E : ME := .tup (.cons (.con (.str ("x" : Str))) (.cons (.con (.str ("id" : Str))) (.cons (.con (.str ("zip" : Str))) (.cons (.con (.str ("y" : Str))) .nil))))
def upE (p n : Int) : ME := .bin .add (.con (.int 1)) (.call 11 (.cons (.var 0) (.cons (.con (.int p)) (.cons (.con (.int n)) .nil))))
theorem ev_n3 {C : CT} {σ : Env} {M : Mem} : evE Gc C n3E σ M = .ok (.d (.tuple n3)) M := by
  have l3 : 3 ≤ lim := by unfold lim; omega
  simp [n3E, n3, l3]
theorem ev_f4 {C : CT} {σ : Env} {M : Mem} : evE Gc C f4E σ M = .ok (.d (.tuple f4n)) M := by
  have l4 : 4 ≤ lim := by unfold lim; omega
  simp [f4E, f4n, l4]
section
variable {C : CT} {s : List Mp.D} {R M : Mem} {e1 e2 e3 e4 e5 e6 e7 e8 e9 e10 e11 : Option Val}
theorem ev_up (h11 : H11 C) (h : Sk s R M) {p n : Int} (p0 : 0 ≤ p) (p1 : p ≤ 1000) (n1 : 1 ≤ n) (n2 : n < 2 ^ 62) (σ : Env) : ∃ (j : Nat) (M1 : Mem), evE Gc C (upE p n) (some (.ref 2) :: σ) M = .ok (.d (.int ((j + 1 : Nat) : Int))) M1 ∧ Sk s R M1 ∧ (j : Int) < n := by
  obtain ⟨r, M1, g1, g2, r0, r1⟩ := h11 h p0 p1 n1 n2
  refine ⟨r.toNat, M1, ?_, g2, by omega⟩
  have : 1 + r = ((r.toNat + 1 : Nat) : Int) := by omega
  unfold upE
  simp only [x_bin, x_con, x_bok, x_call, x_cons, x_nil, x_var, x_gete0, x_ofS, g1, x_rdd, x_addi, this]
theorem ev_sl (h11 : H11 C) (h : Sk s R M) {e : ME} {xs : List Mp.D} {p n : Int} (p0 : 0 ≤ p) (p1 : p ≤ 1000) (n1 : 1 ≤ n) (n2 : n < 2 ^ 62) (σ : Env) (he : evE Gc C e (some (.ref 2) :: σ) M = .ok (.d (.tuple xs)) M) : ∃ (j : Nat) (M1 : Mem), evE Gc C (.slc e .non (.som (upE p n))) (some (.ref 2) :: σ) M = .ok (.d (.tuple (xs.take (j + 1)))) M1 ∧ Sk s R M1 ∧ (j : Int) < n := by
  obtain ⟨j, M1, g1, g2, hj⟩ := ev_up h11 h p0 p1 n1 n2 σ
  refine ⟨j, M1, ?_, g2, hj⟩
  have hc := cutL_take xs (j + 1)
  rw [x_slc, he, x_bok, x_non, x_bok, x_som, g1, x_bok]
  dsimp only
  rw [x_bok, x_rsd]
  dsimp only
  show (ofO (some (PyData.tuple (cutL xs none (some ((j + 1 : Nat) : Int))))) M1).bind _ = _
  rw [hc]
  rfl
theorem s17_0 (h : Sk s [] M) : ∃ M1, evS Gc C (a17 0) (S17 none none none none none none none none none none none) M = .ok (.nx (S17 none none none (some (.ref 3)) (some (.ref 4)) none none none none none none)) M1 ∧ Sk s [.lst (hsD []), .lst []] M1 := by
  have hl := h.len
  have h1 := (h.app (.lst (hsD []))).app (.lst [])
  refine ⟨_, ?_, h1⟩
  have hl' : M.length = 3 := hl
  simp [a17, nthS, b17, hl', hsD]
def in17a : MSs := bodyOf (a17 1)
theorem in17a_is : in17a = .cons (.exp (.mt .append (.var 4) (.cons (.tup (.cons (.var 1) (.cons (.slc f4E .non (.som (upE 12 4))) .nil))) .nil))) .nil := rfl
theorem a17_1 : a17 1 = .forr (.nm 1) (.ov (.slc n3E .non (.som (upE 11 3)))) in17a := rfl
def HsOk (hs : List (Mp.D × List Mp.D)) : Prop := ∀ z ∈ hs, 1 ≤ z.2.length ∧ z.2.length ≤ 100
theorem s17_1 (h11 : H11 C) (h : Sk s [.lst (hsD []), .lst []] M) : ∃ (hs : List (Mp.D × List Mp.D)) (u1 : Option Val) (M1 : Mem), evS Gc C (a17 1) (S17 none none none (some (.ref 3)) (some (.ref 4)) none none none none none none) M = .ok (.nx (S17 u1 none none (some (.ref 3)) (some (.ref 4)) none none none none none none)) M1 ∧ Sk s [.lst (hsD hs), .lst []] M1 ∧ HsOk hs ∧ hs ≠ [] ∧ hs.length ≤ 100 := by
  obtain ⟨j, M1, g1, h1, hj⟩ := ev_sl h11 h (p := 11) (n := 3) (by decide) (by decide) (by decide) (by decide) [none, none, none, some (.ref 3), some (.ref 4), none, none, none, none, none, none, none, none, none, none] (ev_n3 (C := C))
  obtain ⟨σ', M', e, hs, u1, rfl, hk, ho, hl⟩ := forL_go (tg := .nm 1) (b := evSs Gc C in17a) (xs := n3.take (j + 1)) (σ := S17 none none none (some (.ref 3)) (some (.ref 4)) none none none none none none) (M := M1)
    (fun i σ M => ∃ (hs : List (Mp.D × List Mp.D)) (u1 : Option Val), σ = S17 u1 none none (some (.ref 3)) (some (.ref 4)) none none none none none none ∧ Sk s [.lst (hsD hs), .lst []] M ∧ HsOk hs ∧ hs.length = i) ⟨[], none, rfl, h1, (fun _ h => by cases h), rfl⟩ (by
      rintro i x σ M hx ⟨hs, u1, rfl, hk, ho, hl⟩
      have hi := (List.getElem?_eq_some_iff.mp hx).1
      rw [List.length_take] at hi
      have hi3 : i < 3 := Nat.lt_of_lt_of_le hi (Nat.min_le_right _ _)
      obtain ⟨j2, M2, g2, h2, hj2⟩ := ev_sl h11 hk (p := 12) (n := 4) (by decide) (by decide) (by decide) (by decide) [some (.d x), none, none, some (.ref 3), some (.ref 4), none, none, none, none, none, none, none, none, none, none] (ev_f4 (C := C))
      have hr := hk.get 0
      have hr2 := h2.get 0
      have hkd := x_kind (m := .append) (fun h => by cases h) (fun h => by cases h) hr
      have ha := x_app (x := .tuple [x, .tuple (f4n.take (j2 + 1))]) hr2
      rw [if_pos (by unfold hsD; rw [List.length_map]; unfold lim; omega)] at ha
      have l2 : 2 ≤ lim := by unfold lim; omega
      refine ⟨_, _, M2.set 3 (.lst (hsD hs ++ [.tuple [x, .tuple (f4n.take (j2 + 1))]])), rfl, ?_, hs ++ [(x, f4n.take (j2 + 1))], some (.d x), rfl, ?_, ?_, by rw [List.length_append, hl]; rfl⟩
      · rw [in17a_is]
        refine (sqn (appv (t := 3) rfl hkd ?_ ha)).trans (x_snil ..)
        show evE Gc C _ [some (.ref 2), some (.d x), none, none, some (.ref 3), some (.ref 4), none, none, none, none, none, none, none, none, none, none] M = _
        generalize (ME.slc f4E .non (.som (upE 12 4))) = E at *
        simp [g2, l2]
      · have := h2.set 0 (.lst (hsD hs ++ [.tuple [x, .tuple (f4n.take (j2 + 1))]]))
        rw [show hsD (hs ++ [(x, f4n.take (j2 + 1))]) = hsD hs ++ [.tuple [x, .tuple (f4n.take (j2 + 1))]] by unfold hsD; rw [List.map_append]; rfl]
        exact this
      · intro z hz
        rcases List.mem_append.mp hz with hz | hz
        · exact ho z hz
        · rw [List.mem_singleton.mp hz]
          show 1 ≤ (f4n.take (j2 + 1)).length ∧ _
          have e4 : f4n.length = 4 := rfl
          rw [List.length_take, e4]
          omega)
  have e3 : n3.length = 3 := rfl
  rw [List.length_take, e3] at hl
  refine ⟨hs, u1, M', ?_, hk, ho, fun h => ?_, by omega⟩
  · rw [a17_1, x_forr, x_ov]
    show ((evE Gc C _ [some (.ref 2), none, none, none, some (.ref 3), some (.ref 4), none, none, none, none, none, none, none, none, none, none] M).bind _).bind _ = _
    rw [g1, x_bok]
    exact e
  · rw [h, List.length_nil] at hl; omega
def num7E : ME := .tup (.cons (.con (.int 0)) (.cons (.con (.int 7)) (.cons (.neg (.con (.int 3))) (.cons (.bin .pow (.con (.int 10)) (.con (.int 9))) (.cons (.neg (.bin .pow (.con (.int 10)) (.con (.int 9)))) (.cons (.con (.int 1)) (.cons (.con (.int 5)) .nil)))))))
def num7 : List Int := [0, 7, -3, 10 ^ 9, -10 ^ 9, 1, 5]
theorem ev_num7 {C : CT} {σ : Env} {M : Mem} : evE Gc C num7E σ M = .ok (.d (.tuple (num7.map .int))) M := by
  have l7 : 7 ≤ lim := by unfold lim; omega
  simp [num7E, num7, l7]
def in17b : MSs := bodyOf (a17 2)
theorem in17b_is : in17b = .cons (.exp (.mt .append (.var 5) (.cons (.idx num7E (.call 11 (.cons (.var 0) (.cons (.con (.int 14)) (.cons (.con (.int 7)) .nil))))) .nil))) .nil := rfl
theorem a17_2 : a17 2 = .forr (.nm 2) (.rg1 (upE 13 3)) in17b := rfl
theorem s17_2 (h11 : H11 C) {H : List Mp.D} {u1 : Option Val} (h : Sk s [.lst H, .lst []] M) : ∃ (ns : List Int) (u2 : Option Val) (M1 : Mem), evS Gc C (a17 2) (S17 u1 none none (some (.ref 3)) (some (.ref 4)) none none none none none none) M = .ok (.nx (S17 u1 u2 none (some (.ref 3)) (some (.ref 4)) none none none none none none)) M1 ∧ Sk s [.lst H, .lst (ns.map .int)] M1 ∧ ns ≠ [] ∧ ns.length ≤ 100 := by
  obtain ⟨j, M1, g1, h1, hj⟩ := ev_up h11 h (p := 13) (n := 3) (by decide) (by decide) (by decide) (by decide) [u1, none, none, some (.ref 3), some (.ref 4), none, none, none, none, none, none, none, none, none, none]
  obtain ⟨σ', M', e, ns, u2, rfl, hk, hl⟩ := forL_go (tg := .nm 2) (b := evSs Gc C in17b) (xs := (rI (j + 1)).map .int) (σ := S17 u1 none none (some (.ref 3)) (some (.ref 4)) none none none none none none) (M := M1)
    (fun i σ M => ∃ (ns : List Int) (u2 : Option Val), σ = S17 u1 u2 none (some (.ref 3)) (some (.ref 4)) none none none none none none ∧ Sk s [.lst H, .lst (ns.map .int)] M ∧ ns.length = i) ⟨[], none, rfl, h1, rfl⟩ (by
      rintro i x σ M hx ⟨ns, u2, rfl, hk, hl⟩
      obtain ⟨hi, rfl⟩ := rI_at hx
      obtain ⟨r, M2, g2, h2, r0, r1⟩ := h11 hk (pl := 14) (many := 7) (by decide) (by decide) (by decide) (by decide)
      obtain ⟨v, hv, _⟩ := atI_int (vs := num7) (a := r) r0 r1
      have hr := hk.get 1
      have hr2 := h2.get 1
      have hkd := x_kind (m := .append) (fun h => by cases h) (fun h => by cases h) hr
      have ha := x_app (x := .int v) hr2
      rw [if_pos (by rw [List.length_map]; unfold lim; omega)] at ha
      refine ⟨_, _, M2.set 4 (.lst (ns.map .int ++ [.int v])), rfl, ?_, ns ++ [v], some (.d (.int (i : Nat))), rfl, ?_, by rw [List.length_append, hl]; rfl⟩
      · rw [in17b_is]
        refine (sqn (appv (t := 4) rfl hkd ?_ ha)).trans (x_snil ..)
        rw [x_idx, ev_num7, x_bok]
        simp [g2, hv]
      · have := h2.set 1 (.lst (ns.map .int ++ [.int v]))
        rw [List.map_append]
        exact this)
  rw [List.length_map, rI_len] at hl
  refine ⟨ns, u2, M', ?_, hk, fun h => ?_, by omega⟩
  · have hrg := rngOk_n (n := j + 1) (by unfold lim; omega)
    rw [a17_2, x_forr, x_rg1]
    show ((evE Gc C _ [some (.ref 2), u1, none, none, some (.ref 3), some (.ref 4), none, none, none, none, none, none, none, none, none, none] M).bind _).bind _ = _
    rw [g1, x_bok]
    dsimp only
    rw [if_pos hrg, x_bok, rngD_rI]
    exact e
  · rw [h, List.length_nil] at hl; omega
theorem s17_3 (h11 : H11 C) {H N : List Mp.D} {u1 u2 : Option Val} (h : Sk s [.lst H, .lst N] M) : ∃ (j : Nat) (M1 : Mem), evS Gc C (a17 3) (S17 u1 u2 none (some (.ref 3)) (some (.ref 4)) none none none none none none) M = .ok (.nx (S17 u1 u2 none (some (.ref 3)) (some (.ref 4)) (some (.d (.int ((j + 1 : Nat) : Int)))) (some (.ref 5)) (some (.ref 6)) (some (.ref 7)) none none)) M1 ∧ Sk s [.lst H, .lst N, .lst (nI []), .lst [.int 30], .lst []] M1 ∧ j < 3 := by
  obtain ⟨j, M1, g1, h1, hj⟩ := ev_up h11 h (p := 15) (n := 3) (by decide) (by decide) (by decide) (by decide) [u1, u2, none, some (.ref 3), some (.ref 4), none, none, none, none, none, none, none, none, none, none]
  have h2 := ((h1.app (.lst (nI []))).app (.lst [.int 30])).app (.lst [])
  have hl : M1.length = 5 := h1.len
  have l1 : 1 ≤ lim := by unfold lim; omega
  have l4 : 4 ≤ lim := by unfold lim; omega
  refine ⟨j, _, ?_, h2, by omega⟩
  show evS Gc C (.parN [6, 7, 8, 9] (.cons (upE 15 3) (.cons (.new (.lst .nil)) (.cons (.new (.lst (.cons (.con (.int 30)) .nil))) (.cons (.new (.lst .nil)) .nil))))) [some (.ref 2), u1, u2, none, some (.ref 3), some (.ref 4), none, none, none, none, none, none, none, none, none, none] M = _
  generalize upE 15 3 = E at *
  simp [g1, hl, l1, l4, setN, nI]
def in17c : MSs := bodyOf (a17 4)
theorem in17c_is : in17c = .cons (.exp (.mt .insert (.var 7) (.cons (.call 11 (.cons (.var 0) (.cons (.con (.int 16)) (.cons (.bin .add (.var 3) (.con (.int 1))) .nil)))) (.cons (.var 3) .nil)))) .nil := rfl
theorem ins_perm {os : List Nat} {i j : Nat} (h : os.Perm (List.range i)) : (os.take j ++ [i] ++ os.drop j).Perm (List.range (i + 1)) := by
  rw [List.range_succ]
  refine List.Perm.trans ?_ (h.append_right [i])
  have e : os = os.take j ++ os.drop j := (List.take_append_drop _ _).symm
  conv => rhs; rw [e]
  rw [List.append_assoc, List.append_assoc]
  exact List.Perm.append_left _ List.perm_append_comm
theorem s17_4 (h11 : H11 C) {H N : List Mp.D} {u1 u2 : Option Val} {j : Nat} (hj : j < 3) (h : Sk s [.lst H, .lst N, .lst (nI []), .lst [.int 30], .lst []] M) : ∃ (os : List Nat) (u3 : Option Val) (M1 : Mem), evS Gc C (a17 4) (S17 u1 u2 none (some (.ref 3)) (some (.ref 4)) (some (.d (.int ((j + 1 : Nat) : Int)))) (some (.ref 5)) (some (.ref 6)) (some (.ref 7)) none none) M = .ok (.nx (S17 u1 u2 u3 (some (.ref 3)) (some (.ref 4)) (some (.d (.int ((j + 1 : Nat) : Int)))) (some (.ref 5)) (some (.ref 6)) (some (.ref 7)) none none)) M1 ∧ Sk s [.lst H, .lst N, .lst (nI os), .lst [.int 30], .lst []] M1 ∧ os.Perm (List.range (j + 1)) := by
  obtain ⟨σ', M', e, os, u3, rfl, hk, hp⟩ := forL_go (tg := .nm 3) (b := evSs Gc C in17c) (xs := (rI (j + 1)).map .int) (σ := S17 u1 u2 none (some (.ref 3)) (some (.ref 4)) (some (.d (.int ((j + 1 : Nat) : Int)))) (some (.ref 5)) (some (.ref 6)) (some (.ref 7)) none none) (M := M)
    (fun i σ M => ∃ (os : List Nat) (u3 : Option Val), σ = S17 u1 u2 u3 (some (.ref 3)) (some (.ref 4)) (some (.d (.int ((j + 1 : Nat) : Int)))) (some (.ref 5)) (some (.ref 6)) (some (.ref 7)) none none ∧ Sk s [.lst H, .lst N, .lst (nI os), .lst [.int 30], .lst []] M ∧ os.Perm (List.range i)) ⟨[], none, rfl, h, List.Perm.refl _⟩ (by
      rintro i x σ M hx ⟨os, u3, rfl, hk, hp⟩
      obtain ⟨hi, rfl⟩ := rI_at hx
      have hlen := hp.length_eq
      rw [List.length_range] at hlen
      obtain ⟨r, M2, g2, h2, r0, r1⟩ := h11 hk (pl := 16) (many := (i : Int) + 1) (by decide) (by decide) (by omega) (by omega)
      have hr := hk.get 2
      have hr2 := h2.get 2
      have hkd := x_kind (m := .insert) (fun h => by cases h) (fun h => by cases h) hr
      have ha := x_ins (j := r) (x := .int (i : Nat)) hr2
      rw [nI_len] at ha
      rw [if_pos ⟨r0, by omega, by unfold lim; omega⟩] at ha
      have e2 : (nI os).take r.toNat ++ [PyData.int (i : Nat)] ++ (nI os).drop r.toNat = nI (os.take r.toNat ++ [i] ++ os.drop r.toNat) := by
        unfold nI
        rw [List.map_append, List.map_append, List.map_take, List.map_drop]
        rfl
      rw [e2] at ha
      refine ⟨_, _, M2.set 5 (.lst (nI (os.take r.toNat ++ [i] ++ os.drop r.toNat))), rfl, ?_, os.take r.toNat ++ [i] ++ os.drop r.toNat, some (.d (.int (i : Nat))), rfl, h2.set 2 _, ins_perm hp⟩
      rw [in17c_is]
      have hkd' : kindM .insert M (.ref 5) = true := hkd
      have ha' : mtV .insert M2 (.ref 5) [.d (.int r), .d (.int (i : Nat))] = _ := ha
      simp [hkd', g2, ha'])
  rw [List.length_map, rI_len] at hp
  refine ⟨os, u3, M', ?_, hk, hp⟩
  have hrg := rngOk_n (n := j + 1) (by unfold lim; omega)
  show evS Gc C (.forr (.nm 3) (.rg1 (.var 6)) in17c) _ M = _
  rw [x_forr, ← e, x_rg1]
  show ((Res.ok (Val.d (.int ((j + 1 : Nat) : Int))) M).bind _).bind _ = _
  rw [x_bok]
  dsimp only
  rw [if_pos hrg, x_bok, rngD_rI]
theorem s17_5 {H N O : List Mp.D} {u1 u2 u3 u6 : Option Val} (h : Sk s [.lst H, .lst N, .lst O, .lst [.int 30], .lst []] M) : ∃ M1, evS Gc C (a17 5) (S17 u1 u2 u3 (some (.ref 3)) (some (.ref 4)) u6 (some (.ref 5)) (some (.ref 6)) (some (.ref 7)) none none) M = .ok (.nx (S17 u1 u2 u3 (some (.ref 3)) (some (.ref 4)) u6 (some (.d (.list O))) (some (.ref 6)) (some (.ref 7)) none none)) M1 ∧ Sk s [.lst H, .lst N, .dead, .lst [.int 30], .lst []] M1 := by
  have hr := h.get 2
  refine ⟨_, ?_, h.set 2 .dead⟩
  have hr' : M[5]? = some (.lst O) := hr
  show evS Gc C (.frz 7) _ _ = _
  simp [hr']
end
end Mp.k06
end
section
set_option maxHeartbeats 4000000
namespace Mp.k06
open PySem PySem.Spec PyProof.Rows L2 Mp

/-! ### a program drawn: its asks -/
theorem flat_nI (p : List Nat) : (nI p).all flatD = true := by
  unfold nI
  rw [List.all_map]
  exact List.all_eq_true.mpr fun _ _ => rfl
theorem indexD_nI {a : Nat} : ∀ {p : List Nat} {n : Nat}, a ∈ p → indexD (.int (a : Nat)) (nI p) n = some (n + p.idxOf a)
  | [], _, h => by cases h
  | b :: p, n, h => by
    have e : PyData.eqv (.int (b : Nat)) (.int (a : Nat)) = decide (b = a) := by
      show ((b : Int) == (a : Int)) = _
      by_cases hb : b = a
      · simp [hb]
      · have : ¬ (b : Int) = a := by omega
        simp [hb, this]
    show (if PyData.eqv (.int (b : Nat)) (.int (a : Nat)) then some n else indexD (.int (a : Nat)) (nI p) (n + 1)) = _
    rw [e]
    by_cases hb : b = a
    · subst hb
      rw [decide_eq_true rfl, if_pos rfl, List.idxOf_cons_self]
      rfl
    · rw [decide_eq_false hb, if_neg Bool.false_ne_true, indexD_nI (p := p) (n := n + 1) ((List.mem_cons.mp h).resolve_left (Ne.symm hb)), List.idxOf_cons, show (b == a) = false by simpa using hb]
      congr 1
      simp
      omega
theorem x_index {M : Mem} {a : Nat} {p : List Nat} (h : a ∈ p) : mtV .index M (.d (.list (nI p))) [.d (.int (a : Nat))] = some (.d (.int ((p.idxOf a : Nat) : Int)), M) := by
  show oB ((flatD (.int (a : Nat)) && (nI p).all flatD) || _) ((indexD (.int (a : Nat)) (nI p) 0).map fun k => (Val.d (.int (k : Nat)), M)) = _
  rw [flat_nI, indexD_nI h]
  simp [flatD, oB]
theorem nI_take (p : List Nat) (k : Nat) : (nI p).take k = nI (p.take k) := by
  unfold nI
  rw [List.map_take]
def a3n : List Mp.D := [.str ("first" : Str), .str ("both" : Str), .str ("q" : Str)]
def a3E : ME := .tup (.cons (.con (.str ("first" : Str))) (.cons (.con (.str ("both" : Str))) (.cons (.con (.str ("q" : Str))) .nil)))
theorem ev_a3 {C : CT} {σ : Env} {M : Mem} : evE Gc C a3E σ M = .ok (.d (.tuple a3n)) M := by
  have l3 : 3 ≤ lim := by unfold lim; omega
  simp [a3E, a3n, l3]
theorem a3_at {i : Nat} (h : i < 3) : ∃ w, L2.atI a3n (i : Nat) = some w := by
  have e : a3n.length = 3 := rfl
  obtain ⟨x, hx, _⟩ := atI_get (xs := a3n) (a := (i : Nat)) (by omega) (by rw [e]; omega)
  exact ⟨x, hx⟩
def in17d : MSs := bodyOf (a17 6)
def q17 (i : Nat) : MS := nthS in17d i
theorem in17d_is : in17d = .cons (q17 0) (.cons (q17 1) (.cons (q17 2) .nil)) := rfl
def minE : ME := .new (.lst (.cons (.bi .min2 (.cons (.idx (.var 8) (.con (.int 0))) (.cons (.con (.int 12)) .nil))) .nil))
def blkE : ME := .call 14 (.cons (.var 0) (.cons (.var 4) (.cons (.var 5) (.cons (.var 10) (.cons (.con (.int 3)) (.cons minE .nil))))))
theorem q17_1 : q17 1 = .exp (.mt .append (.var 9) (.cons (.tup (.cons (.idx a3E (.var 3)) (.cons blkE .nil))) .nil)) := rfl
theorem x_bmin {M : Mem} {a b : Int} : biV .min2 M [.d (.int a), .d (.int b)] = some (.int (min a b)) := by
  show some (PyData.int (if b < a then b else a)) = _
  congr 2
  split <;> omega
/-- what an ask drawn is -/
def AOk (os : List Nat) (A : List Ask) : Prop := ∀ (i : Nat) (a : Ask), A[i]? = some a → Bk 3 (os.take (os.idxOf i)) a.2 ∧ a.2.nn ≤ 12
abbrev R17 (hs : List (Mp.D × List Mp.D)) (ns : List Int) (k : Int) (A : List Ask) (E : Mem) : Mem := .lst (hsD hs) :: .lst (ns.map .int) :: .dead :: .lst [.int k] :: .lst (A.map askD) :: E
section
variable {C : CT} {s : List Mp.D} {R M : Mem} {e1 e2 e3 e4 e5 e6 e7 e8 e9 e10 e11 : Option Val}
abbrev T17 (u1 u2 u3 : Option Val) (n : Nat) (os : List Nat) (u10 : Option Val) : Env := S17 u1 u2 u3 (some (.ref 3)) (some (.ref 4)) (some (.d (.int (n : Nat)))) (some (.d (.list (nI os)))) (some (.ref 6)) (some (.ref 7)) u10 none
theorem body17d (h14 : H14 C 3) (h18 : ∀ (its : Its) (M : Mem), its.dp ≤ 3 → C 18 [.d (.tuple its.Ds)] M = .ok (.d (.int its.nn)) M) {hs : List (Mp.D × List Mp.D)} {ns : List Int} {k : Int} {A : List Ask} {E : Mem} {os : List Nat} {n : Nat} {u1 u2 u10 : Option Val}
    (ho : HsOk hs) (h1 : hs ≠ [] ∧ hs.length ≤ 100) (h2 : ns ≠ [] ∧ ns.length ≤ 100) (hp : os.Perm (List.range n)) (hn : n ≤ 3) (hk : Sk s (R17 hs ns k A E) M) (hi : A.length < n) (hA : AOk os A) (k0 : 0 ≤ k) (k1 : k ≤ 30) :
    ∃ (a : Ask) (k' : Int) (E' : Mem) (M' : Mem) (u : Option Val), evSs Gc C in17d (T17 u1 u2 (some (.d (.int (A.length : Nat)))) n os u10) M = .ok (.nx (T17 u1 u2 (some (.d (.int (A.length : Nat)))) n os u)) M' ∧ Sk s (R17 hs ns k' (A ++ [a]) E') M' ∧ AOk os (A ++ [a]) ∧ 0 ≤ k' ∧ k' ≤ 30 := by
  have hmem : A.length ∈ os := hp.mem_iff.mpr (List.mem_range.mpr hi)
  have hoslen : os.length ≤ 3 := by rw [hp.length_eq, List.length_range]; exact hn
  have l1 : 1 ≤ lim := by unfold lim; omega
  have l2 : 2 ≤ lim := by unfold lim; omega
  -- calls
  have hix := x_index (M := M) hmem
  have hcut : cutL (nI os) none (some ((os.idxOf A.length : Nat) : Int)) = nI (os.take (os.idxOf A.length)) := by rw [cutL_take, nI_take]
  have s0 : evS Gc C (q17 0) (T17 u1 u2 (some (.d (.int (A.length : Nat)))) n os u10) M = .ok (.nx (T17 u1 u2 (some (.d (.int (A.length : Nat)))) n os (some (.d (.list (nI (os.take (os.idxOf A.length)))))))) M := by
    show evS Gc C (.set 10 (.slc (.var 7) .non (.som (.mt .index (.var 7) (.cons (.var 3) .nil))))) _ _ = _
    simp [kindM, isDL, hix, cutD, hcut]
  -- the block
  have hr8 : M[6]? = some (.lst [.int k]) := hk.get 3
  have hix8 := x_ixr (i := 0) hr8
  rw [atI0] at hix8
  have hml : M.length = (R17 hs ns k A E).length + 3 := hk.len
  have hk1 := hk.app (.lst [.int (min k 12)])
  have hg : Gd (R17 hs ns k A E ++ [.lst [.int (min k 12)]]) 0 1 hs ns := ⟨rfl, rfl, h1, ho, h2⟩
  obtain ⟨its, k', M2, g1, g2, g3, g4, g5⟩ := h14 (c := (R17 hs ns k A E).length) (k := min k 12) (cs := os.take (os.idxOf A.length)) hk1 hg (get_end _ _) (by show E.length + 5 ≠ 0; omega) (by show E.length + 5 ≠ 1; omega) (by omega) (by omega) (by rw [List.length_take]; omega)
  rw [set_end] at g2
  have eb : evE Gc C blkE (T17 u1 u2 (some (.d (.int (A.length : Nat)))) n os (some (.d (.list (nI (os.take (os.idxOf A.length))))))) M = .ok (.d (.tuple its.Ds)) M2 := by
    have g1' : C 14 [.ref 2, .ref 3, .ref 4, .d (.list (nI (os.take (os.idxOf A.length)))), .d (.int 3), .ref M.length] (M ++ [.lst [.int (min k 12)]]) = .ok (.d (.tuple its.Ds)) M2 := by rw [hml]; exact g1
    unfold blkE minE
    simp only [x_call, x_cons, x_nil, x_var, x_gete0, x_getes, x_ofS, x_bok, x_con, x_new, x_lst, x_bi, x_idx, hix8, Option.map_some, x_bmin, x_toDs, x_toDs0, List.length_singleton, l1, if_true, g1']
  obtain ⟨w, hw⟩ := a3_at (i := A.length) (by omega)
  have hr9 : M[7]? = some (.lst (A.map askD)) := hk.get 4
  have hr9' : M2[7]? = some (.lst (A.map askD)) := g2.get 4
  have hkd := x_kind (m := .append) (fun h => by cases h) (fun h => by cases h) hr9
  have ha := x_app (x := askD (w, its)) hr9'
  rw [if_pos (by rw [List.length_map]; unfold lim; omega)] at ha
  have ee : evE Gc C (.tup (.cons (.idx a3E (.var 3)) (.cons blkE .nil))) (T17 u1 u2 (some (.d (.int (A.length : Nat)))) n os (some (.d (.list (nI (os.take (os.idxOf A.length))))))) M = .ok (.d (askD (w, its))) M2 := by
    have ei : evE Gc C (.idx a3E (.var 3)) (T17 u1 u2 (some (.d (.int (A.length : Nat)))) n os (some (.d (.list (nI (os.take (os.idxOf A.length))))))) M = .ok (.d w) M := by
      rw [x_idx, ev_a3, x_bok]
      simp [hw]
    rw [x_tup, x_cons, ei, x_bok, x_cons, eb, x_bok]
    simp [l2, askD]
  have s1 : evS Gc C (q17 1) (T17 u1 u2 (some (.d (.int (A.length : Nat)))) n os (some (.d (.list (nI (os.take (os.idxOf A.length))))))) M = .ok (.nx (T17 u1 u2 (some (.d (.int (A.length : Nat)))) n os (some (.d (.list (nI (os.take (os.idxOf A.length)))))))) (M2.set 7 (.lst (A.map askD ++ [askD (w, its)]))) := by
    rw [q17_1]
    exact appv rfl hkd ee ha
  have g6 : Sk s _ (M2.set 7 (.lst (A.map askD ++ [askD (w, its)]))) := g2.set 4 (.lst (A.map askD ++ [askD (w, its)]))
  generalize M2.set 7 (.lst (A.map askD ++ [askD (w, its)])) = M3 at *
  have hr9'' : M3[7]? = some (.lst (A.map askD ++ [askD (w, its)])) := g6.get 4
  have hr8' : M3[6]? = some (.lst [.int k]) := g6.get 3
  have hix9 := x_ixr (i := (A.length : Nat)) hr9''
  have hat : L2.atI (A.map askD ++ [askD (w, its)]) (A.length : Nat) = some (.tuple [w, .tuple its.Ds]) := L2.atI_nat (by
    rw [List.getElem?_append_right (by rw [List.length_map]; exact Nat.le_refl _), List.length_map, Nat.sub_self]
    rfl)
  rw [hat] at hix9
  have h18' := h18 its M3 (by have := g5.dp; omega)
  have hix8' := x_ixr (i := 0) hr8'
  rw [atI0] at hix8'
  have hset : setV M3 (.ref 6) (.d (.int 0)) (.d (.int (k - its.nn))) = some (M3.set 6 (.lst [.int (k - its.nn)])) := by
    simp [setV, hr8', L2.ixN]
  have s2 : evS Gc C (q17 2) (T17 u1 u2 (some (.d (.int (A.length : Nat)))) n os (some (.d (.list (nI (os.take (os.idxOf A.length))))))) M3 = .ok (.nx (T17 u1 u2 (some (.d (.int (A.length : Nat)))) n os (some (.d (.list (nI (os.take (os.idxOf A.length)))))))) (M3.set 6 (.lst [.int (k - its.nn)])) := by
    show evS Gc C (.setI (.var 8) (.con (.int 0)) (.bin .sub (.idx (.var 8) (.con (.int 0))) (.call 18 (.cons (.idx (.idx (.var 9) (.var 3)) (.con (.int 1))) .nil)))) _ _ = _
    simp [hix8', hix9, at1, h18', hset]
  have g7 := g6.set 3 (.lst [.int (k - its.nn)])
  refine ⟨(w, its), k - its.nn, E ++ [.lst [.int k']], M3.set 6 (.lst [.int (k - its.nn)]), some (.d (.list (nI (os.take (os.idxOf A.length))))), ?_, ?_, ?_, by omega, by omega⟩
  · rw [in17d_is, sqn s0, sqn s1, sqn s2, x_snil]
  · have em : (A ++ [(w, its)]).map askD = A.map askD ++ [askD (w, its)] := by rw [List.map_append]; rfl
    show Sk s (.lst (hsD hs) :: .lst (ns.map .int) :: .dead :: .lst [.int (k - its.nn)] :: .lst ((A ++ [(w, its)]).map askD) :: (E ++ [.lst [.int k']])) _
    rw [em]
    exact g7
  · intro i a hia
    by_cases hlt : i < A.length
    · rw [List.getElem?_append_left hlt] at hia
      exact hA i a hia
    · have he : i = A.length := by
        have := (List.getElem?_eq_some_iff.mp hia).1
        rw [List.length_append, List.length_singleton] at this
        omega
      subst he
      rw [List.getElem?_append_right (Nat.le_refl _), Nat.sub_self] at hia
      cases hia
      exact ⟨g5, by show its.nn ≤ 12; omega⟩
theorem s17_6 (h14 : H14 C 3) (h18 : ∀ (its : Its) (M : Mem), its.dp ≤ 3 → C 18 [.d (.tuple its.Ds)] M = .ok (.d (.int its.nn)) M) {hs : List (Mp.D × List Mp.D)} {ns : List Int} {os : List Nat} {n : Nat} {u1 u2 u3 : Option Val}
    (ho : HsOk hs) (h1 : hs ≠ [] ∧ hs.length ≤ 100) (h2 : ns ≠ [] ∧ ns.length ≤ 100) (hp : os.Perm (List.range n)) (hn : n ≤ 3) (hk : Sk s (R17 hs ns 30 [] []) M) :
    ∃ (A : List Ask) (k' : Int) (E' : Mem) (M' : Mem) (v3 u : Option Val), evS Gc C (a17 6) (T17 u1 u2 u3 n os none) M = .ok (.nx (T17 u1 u2 v3 n os u)) M' ∧ Sk s (R17 hs ns k' A E') M' ∧ AOk os A ∧ A.length = n := by
  obtain ⟨σ', M', e, A, k, E, u3', u, rfl, g1, g2, g3, g4, g5⟩ := forL_go (tg := .nm 3) (b := evSs Gc C in17d) (xs := (rI n).map .int) (σ := T17 u1 u2 u3 n os none) (M := M)
    (fun i σ M => ∃ (A : List Ask) (k : Int) (E : Mem) (u3 u : Option Val), σ = T17 u1 u2 u3 n os u ∧ Sk s (R17 hs ns k A E) M ∧ AOk os A ∧ A.length = i ∧ 0 ≤ k ∧ k ≤ 30) ⟨[], 30, [], u3, none, rfl, hk, (fun i a h => by cases h), rfl, by decide, by decide⟩ (by
      rintro i x σ M hx ⟨A, k, E, u3, u, rfl, g1, g2, g3, g4, g5⟩
      obtain ⟨hi, rfl⟩ := rI_at hx
      subst g3
      obtain ⟨a, k', E', M', u', q1, q2, q3, q4, q5⟩ := body17d (u1 := u1) (u2 := u2) (u10 := u) h14 h18 ho h1 h2 hp hn g1 hi g2 g4 g5
      exact ⟨_, _, M', rfl, q1, A ++ [a], k', E', _, u', rfl, q2, q3, by rw [List.length_append]; rfl, q4, q5⟩)
  rw [List.length_map, rI_len] at g3
  refine ⟨A, k, E, M', u3', u, ?_, g1, g2, g3⟩
  have hrg := rngOk_n (n := n) (by unfold lim; omega)
  show evS Gc C (.forr (.nm 3) (.rg1 (.var 6)) in17d) _ M = _
  rw [x_forr, ← e, x_rg1]
  show ((Res.ok (Val.d (.int (n : Int))) M).bind _).bind _ = _
  rw [x_bok]
  dsimp only
  rw [if_pos hrg, x_bok, rngD_rI]
theorem s17_7 {hs : List (Mp.D × List Mp.D)} {ns : List Int} {k : Int} {A : List Ask} {E : Mem} {u1 u2 u3 u6 u7 u10 : Option Val} (h : Sk s (R17 hs ns k A E) M) :
    ∃ (M1 : Mem), evS Gc C (a17 7) (S17 u1 u2 u3 (some (.ref 3)) (some (.ref 4)) u6 u7 (some (.ref 6)) (some (.ref 7)) u10 none) M = .ok (.nx (S17 u1 u2 u3 (some (.ref 3)) (some (.ref 4)) u6 u7 (some (.ref 6)) (some (.d (.list (A.map askD)))) u10 none)) M1 ∧ Sk s (.lst (hsD hs) :: .lst (ns.map .int) :: .dead :: .lst [.int k] :: .dead :: E) M1 := by
  have hr := h.get 4
  refine ⟨_, ?_, h.set 4 .dead⟩
  have hr' : M[7]? = some (.lst (A.map askD)) := hr
  show evS Gc C (.frz 9) _ _ = _
  simp [hr']
end
end Mp.k06
end
section
set_option maxHeartbeats 4000000
namespace Mp.k06
open PySem PySem.Spec PyProof.Rows L2 Mp

/-! ### a program drawn: until it is small -/
theorem whL_rt {c : SF} {b : SS} (P : Nat → Env → Mem → Prop) (Q : Val → Mem → Prop) (hs : ∀ m σ M, P m σ M → c σ M = .ok (.d (.bool true)) M ∧ ((∃ v M2, b σ M = .ok (.rt v) M2 ∧ Q v M2) ∨ ∃ m' σ2 M2, m' < m ∧ b σ M = .ok (.nx σ2) M2 ∧ P m' σ2 M2)) :
    ∀ (m : Nat) (σ : Env) (M : Mem), P m σ M → ∀ fuel, m < fuel → ∃ v M', whL c b fuel σ M = .ok (.rt v) M' ∧ Q v M' := by
  intro m
  induction m using Nat.strongRecOn with
  | ind m ih =>
    intro σ M h fuel hf
    obtain ⟨h1, h3⟩ := hs m σ M h
    cases fuel with
    | zero => omega
    | succ fuel =>
      unfold whL
      rw [h1, x_bok, x_trud, x_trub, x_ofS, x_bok, if_pos rfl]
      rcases h3 with ⟨v, M2, hb, hq⟩ | ⟨m', σ2, M2, hm, hb, hp⟩
      · rw [hb, x_bok]
        exact ⟨v, M2, rfl, hq⟩
      · rw [hb, x_bok]
        exact ih m' hm σ2 M2 hp fuel (by omega)
theorem lcL_step {tg : Tg} {own : List Nat} {f : SF} {σ σ1 : Env} {x y : Mp.D} {xs ys : List Mp.D} {M M2 M3 : Mem} (h1 : asgT tg x (wipeE σ own) = some σ1) (h2 : f σ1 M = .ok (.d y) M2) (h3 : lcL tg own none f σ xs M2 = .ok ys M3) : lcL tg own none f σ (x :: xs) M = .ok (y :: ys) M3 := by
  unfold lcL
  rw [h1]
  simp only [sTst, x_bok, h2, h3, if_pos]
def tot (A : List Ask) : Nat := (A.map fun a => a.2.nn).sum
theorem tot_cons (a : Ask) (A : List Ask) : tot (a :: A) = a.2.nn + tot A := by unfold tot; rw [List.map_cons, List.sum_cons]
def w17 : MSs := match a17 8 with | .whil _ b => b | _ => .nil
theorem a17_8 : a17 8 = .whil (.con (.bool true)) w17 := rfl
def u17 (i : Nat) : MS := nthS w17 i
theorem w17_is : w17 = .cons (u17 0) (.cons (u17 1) (.cons (u17 2) .nil)) := rfl
def pB (x : Mp.D) : Bool := match x with | .tuple [.int w, .int q, .int l] => decide (24 < w) || decide (6 < q) || decide (12 < l) | _ => false
section
variable {C : CT} {s : List Mp.D} {M : Mem}
/-- one ask less -/
theorem updA (h16 : ∀ (its : Its), its.dp ≤ 4 → its.nn ≤ 100 → ∃ b : Its, C 16 [.d (.tuple its.Ds)] M = .ok (.d (.tuple b.Ds)) M ∧ Le its b) (σ : Env) (hσ : ∃ (e1 e12 : Option Val) (t : Env) (e2 e3 e4 e5 e6 e7 e8 e9 e10 e11 : Option Val), σ = e1 :: e2 :: e3 :: e4 :: e5 :: e6 :: e7 :: e8 :: e9 :: e10 :: e11 :: e12 :: none :: t) : ∀ A : List Ask, (∀ a ∈ A, a.2.dp ≤ 4 ∧ a.2.nn ≤ 100) →
    ∃ B : List Ask, lcL (.tup2 (.nm 1) (.nm 12)) [1, 12] none (evE Gc C (.tup (.cons (.var 1) (.cons (.call 16 (.cons (.var 12) .nil)) .nil)))) σ (A.map askD) M = .ok (B.map askD) M ∧ B.length = A.length ∧ (∀ (i : Nat) (b : Ask), B[i]? = some b → ∃ a, A[i]? = some a ∧ Le a.2 b.2) ∧ tot B ≤ tot A ∧ ((∃ a ∈ A, a.2 ≠ .nil) → tot B < tot A)
  | [], _ => ⟨[], rfl, rfl, (fun i b h => by cases h), Nat.le_refl _, fun ⟨_, h, _⟩ => by cases h⟩
  | a :: A, h => by
    obtain ⟨B, e, hl, hB, ht, hn⟩ := updA h16 σ hσ A fun x hx => h x (List.mem_cons_of_mem _ hx)
    obtain ⟨h1, h2⟩ := h a List.mem_cons_self
    obtain ⟨b, e1, hb⟩ := h16 a.2 h1 h2
    have l2 : 2 ≤ lim := by unfold lim; omega
    refine ⟨(a.1, b) :: B, ?_, by rw [List.length_cons, List.length_cons, hl], ?_, ?_, ?_⟩
    · obtain ⟨e1', e12, t, e2, e3, e4, e5, e6, e7, e8, e9, e10, e11, rfl⟩ := hσ
      rw [List.map_cons, List.map_cons]
      refine lcL_step (σ1 := e1' :: some (.d a.1) :: e3 :: e4 :: e5 :: e6 :: e7 :: e8 :: e9 :: e10 :: e11 :: e12 :: some (.d (.tuple a.2.Ds)) :: t) rfl ?_ e
      simp [askD, e1, l2]
    · intro i x hx
      cases i with
      | zero => cases hx; exact ⟨a, rfl, hb⟩
      | succ i => exact hB i x hx
    · rw [tot_cons, tot_cons]
      have := hb.nn
      show b.nn + tot B ≤ _
      omega
    · rintro ⟨x, hx, hne⟩
      rw [tot_cons, tot_cons]
      show b.nn + tot B < _
      have := hb.nn
      rcases List.mem_cons.mp hx with rfl | hx
      · have := hb.ne hne
        omega
      · have := hn ⟨x, hx, hne⟩
        omega
theorem Wk.less {A B : List Ask} (w : Wk A) (hl : B.length = A.length) (h : ∀ (i : Nat) (b : Ask), B[i]? = some b → ∃ a, A[i]? = some a ∧ Le a.2 b.2) : Wk B := by
  have hm : ∀ b ∈ B, ∃ a ∈ A, Le a.2 b.2 := fun b hb => by
    obtain ⟨i, hi⟩ := List.getElem?_of_mem hb
    obtain ⟨a, ha, hle⟩ := h i b hi
    exact ⟨a, List.mem_of_getElem? ha, hle⟩
  obtain ⟨r, r1, r2⟩ := w.rk
  refine ⟨⟨by rw [hl]; exact w.len, fun b hb => ?_, fun b hb => ?_, fun b hb => ?_, fun b hb k hk => ?_, r, r1, fun i b hb k hk => ?_⟩, fun b hb => ?_⟩
  · obtain ⟨a, ha, hle⟩ := hm b hb; have := w.dp a ha; have := hle.dp; omega
  · obtain ⟨a, ha, hle⟩ := hm b hb; exact hle.cw (w.cw a ha)
  · obtain ⟨a, ha, hle⟩ := hm b hb; have := w.nn a ha; have := hle.nn; omega
  · obtain ⟨a, ha, hle⟩ := hm b hb; rw [hl]; exact w.cl a ha k (hle.cl k hk)
  · obtain ⟨a, ha, hle⟩ := h i b hb; exact r2 i a ha k (hle.cl k hk)
  · obtain ⟨a, ha, hle⟩ := hm b hb; exact hle.wk (w.wk a ha)
theorem AOk.wk {os : List Nat} {A : List Ask} {n : Nat} (hp : os.Perm (List.range n)) (hn : n ≤ 3) (hA : AOk os A) (hl : A.length = n) : Wk A := by
  have hm : ∀ a ∈ A, ∃ i, A[i]? = some a := fun a ha => List.getElem?_of_mem ha
  have hol : os.length = n := by rw [hp.length_eq, List.length_range]
  have hnd : os.Nodup := hp.nodup_iff.mpr List.nodup_range
  refine ⟨⟨by omega, fun a ha => ?_, fun a ha => ?_, fun a ha => ?_, fun a ha k hk => ?_, fun k => min (os.idxOf k) 2, fun i => Nat.min_le_right _ _, fun i a ha k hk => ?_⟩, fun a ha => ?_⟩
  · obtain ⟨i, hi⟩ := hm a ha; have := (hA i a hi).1.dp; omega
  · obtain ⟨i, hi⟩ := hm a ha; exact (hA i a hi).1.cw
  · obtain ⟨i, hi⟩ := hm a ha; exact (hA i a hi).2
  · obtain ⟨i, hi⟩ := hm a ha
    have := List.mem_of_mem_take ((hA i a hi).1.cl k hk)
    rw [hl]
    exact List.mem_range.mp (hp.mem_iff.mp this)
  · have hk2 := (hA i a ha).1.cl k hk
    have hi : i < n := by rw [← hl]; exact (List.getElem?_eq_some_iff.mp ha).1
    have hio : i ∈ os := hp.mem_iff.mpr (List.mem_range.mpr hi)
    have h1 : os.idxOf i < os.length := List.idxOf_lt_length_of_mem hio
    obtain ⟨j, hj⟩ := List.getElem?_of_mem hk2
    rw [List.getElem?_take] at hj
    split at hj
    · rename_i hjl
      have hjk : os.idxOf k = j := by
        have hjo := List.getElem?_eq_some_iff.mp hj
        obtain ⟨hjo1, hjo2⟩ := hjo
        rw [← hjo2]
        exact hnd.idxOf_getElem j hjo1
      show min (os.idxOf k) 2 < min (os.idxOf i) 2
      omega
    · cases hj
  · obtain ⟨i, hi⟩ := hm a ha; exact (hA i a hi).1.wk
abbrev V17 (u1 u2 u3 u6 u7 u10 u11 : Option Val) (A : List Ask) : Env := S17 u1 u2 u3 (some (.ref 3)) (some (.ref 4)) u6 u7 (some (.ref 6)) (some (.d (.list (A.map askD)))) u10 u11
theorem lap17 {H : List Mp.D} (h15 : ∀ (A : List Ask), Wk A → ∀ a ∈ A, ∃ w q l : Nat, C 15 [.d (.list (A.map askD)), .d (.tuple a.2.Ds)] M = .ok (.d (tri w q l)) M ∧ (a.2 = .nil → w = 1 ∧ q = 0 ∧ l = 0))
    (h16 : ∀ (its : Its), its.dp ≤ 4 → its.nn ≤ 100 → ∃ b : Its, C 16 [.d (.tuple its.Ds)] M = .ok (.d (.tuple b.Ds)) M ∧ Le its b) (hr : M[3]? = some (.lst H)) {A : List Ask} (w : Wk A) {u1 u2 u3 u6 u7 u10 u11 : Option Val} :
    evSs Gc C w17 (V17 u1 u2 u3 u6 u7 u10 u11 A) M = .ok (.rt (.d (prD (.tuple H) A))) M ∨ ∃ (B : List Ask) (v11 : Option Val), evSs Gc C w17 (V17 u1 u2 u3 u6 u7 u10 u11 A) M = .ok (.nx (V17 u1 u2 u3 u6 u7 u10 v11 B)) M ∧ Wk B ∧ tot B < tot A := by
  have l2 : 2 ≤ lim := by unfold lim; omega
  have hlen := w.len
  obtain ⟨ys, e0, hyl, hy⟩ := lc_ex (tg := .tup2 (.nm 1) (.nm 12)) (own := [1, 12]) (f := evE Gc C (.call 15 (.cons (.var 9) (.cons (.var 12) .nil)))) (σ := V17 u1 u2 u3 u6 u7 u10 u11 A) (M := M)
    (fun y => ∃ w q l : Nat, y = tri w q l ∧ ((∀ a ∈ A, a.2 = .nil) → w = 1 ∧ q = 0 ∧ l = 0)) (xs := A.map askD) (fun x hx => by
      obtain ⟨a, ha, rfl⟩ := List.mem_map.mp hx
      obtain ⟨w', q, l, e, hz⟩ := h15 A w a ha
      exact ⟨_, tri w' q l, rfl, by simp [wipeE, asgT, askD, e], w', q, l, rfl, fun h => hz (h a ha)⟩)
  rw [List.length_map] at hyl
  have hyl2 : ys.length ≤ lim := by unfold lim; omega
  have s0 : evS Gc C (u17 0) (V17 u1 u2 u3 u6 u7 u10 u11 A) M = .ok (.nx (V17 u1 u2 u3 u6 u7 u10 (some (.d (.list ys))) A)) M := by
    show evS Gc C (.set 11 (.lc [1, 12] (.tup2 (.nm 1) (.nm 12)) (.ov (.var 9)) .nil (.call 15 (.cons (.var 9) (.cons (.var 12) .nil))))) _ _ = _
    rw [x_set, x_lc]
    simp only [x_ov, x_var, x_getes, x_gete0, x_ofS, x_bok, evC]
    rw [e0]
    simp [hyl2]
  have e1 := lcL_fil (tg := .tup3 (.nm 13) (.nm 14) (.nm 15)) (own := [13, 14, 15]) (c := evE Gc C (.or (.cmp .gt (.var 13) (.con (.int 24))) (.or (.cmp .gt (.var 14) (.con (.int 6))) (.cmp .gt (.var 15) (.con (.int 12)))))) (f := evE Gc C (.con (.int 1))) (σ := V17 u1 u2 u3 u6 u7 u10 (some (.d (.list ys))) A) (M := M) (p := pB) (y := fun _ => .int 1) (xs := ys) (fun x hx => by
    obtain ⟨w', q, l, rfl, _⟩ := hy x hx
    refine ⟨_, rfl, ?_, fun _ => rfl⟩
    simp only [tri, sTst]
    by_cases h1 : (24 : Int) < (w' : Nat)
    · simp [wipeE, asgT, pB, h1]
    · by_cases h2 : (6 : Int) < (q : Nat)
      · simp [wipeE, asgT, pB, h1, h2]
      · by_cases h3 : (12 : Int) < (l : Nat) <;> simp [wipeE, asgT, pB, h1, h2, h3])
  have hfl : (ys.filter pB).length ≤ lim := Nat.le_trans (List.length_filter_le _ _) hyl2
  by_cases hf : ys.filter pB = []
  · refine .inl ?_
    rw [hf] at e1
    have hbt := x_btupr hr
    have s1 : evS Gc C (u17 1) (V17 u1 u2 u3 u6 u7 u10 (some (.d (.list ys))) A) M = .ok (.rt (.d (prD (.tuple H) A))) M := by
      show evS Gc C (.iff (.cmp .eq (.bi .len (.cons (.lc [13, 14, 15] (.tup3 (.nm 13) (.nm 14) (.nm 15)) (.ov (.var 11)) (.cons (.or (.cmp .gt (.var 13) (.con (.int 24))) (.or (.cmp .gt (.var 14) (.con (.int 6))) (.cmp .gt (.var 15) (.con (.int 12))))) .nil) (.con (.int 1))) .nil)) (.con (.int 0))) (.cons (.ret (.tup (.cons (.bi .tuple (.cons (.var 4) .nil)) (.cons (.bi .tuple (.cons (.var 9) .nil)) .nil)))) .nil) .nil) _ _ = _
      rw [x_iff, x_cmp, x_bi, x_cons, x_lc]
      simp only [x_ov, x_var, x_getes, x_gete0, x_ofS, x_bok, evC]
      rw [e1]
      simp [hbt, l2, prD]
    rw [w17_is, sqn s0, sqr s1]
  · refine .inr ?_
    obtain ⟨B, e2, hBl, hB, ht, hn⟩ := updA (C := C) (M := M) h16 (V17 u1 u2 u3 u6 u7 u10 (some (.d (.list ys))) A) ⟨_, _, _, _, _, _, _, _, _, _, _, _, _, rfl⟩ A (fun a ha => ⟨w.dp a ha, by have := w.nn a ha; omega⟩)
    have hne : ∃ a ∈ A, a.2 ≠ .nil := by
      refine Classical.byContradiction fun hc => hf ?_
      have hall : ∀ a ∈ A, a.2 = .nil := fun a ha => Classical.byContradiction fun h => hc ⟨a, ha, h⟩
      refine List.filter_eq_nil_iff.mpr fun x hx => ?_
      obtain ⟨w', q, l, rfl, hz⟩ := hy x hx
      obtain ⟨rfl, rfl, rfl⟩ := hz hall
      decide
    have hfp := List.length_pos_iff.mpr hf
    have hBl2 : B.length ≤ lim := by unfold lim; omega
    have s1 : evS Gc C (u17 1) (V17 u1 u2 u3 u6 u7 u10 (some (.d (.list ys))) A) M = .ok (.nx (V17 u1 u2 u3 u6 u7 u10 (some (.d (.list ys))) A)) M := by
      show evS Gc C (.iff (.cmp .eq (.bi .len (.cons (.lc [13, 14, 15] (.tup3 (.nm 13) (.nm 14) (.nm 15)) (.ov (.var 11)) (.cons (.or (.cmp .gt (.var 13) (.con (.int 24))) (.or (.cmp .gt (.var 14) (.con (.int 6))) (.cmp .gt (.var 15) (.con (.int 12))))) .nil) (.con (.int 1))) .nil)) (.con (.int 0))) (.cons (.ret (.tup (.cons (.bi .tuple (.cons (.var 4) .nil)) (.cons (.bi .tuple (.cons (.var 9) .nil)) .nil)))) .nil) .nil) _ _ = _
      rw [x_iff, x_cmp, x_bi, x_cons, x_lc]
      simp only [x_ov, x_var, x_getes, x_gete0, x_ofS, x_bok, evC]
      rw [e1]
      simp only [List.length_map, hfl, if_true]
      generalize ys.filter pB = zs at *
      have : ¬ (zs.length : Int) = 0 := by omega
      simp [this]
      exact fun h => absurd h hf
    have s2 : evS Gc C (u17 2) (V17 u1 u2 u3 u6 u7 u10 (some (.d (.list ys))) A) M = .ok (.nx (V17 u1 u2 u3 u6 u7 u10 (some (.d (.list ys))) B)) M := by
      show evS Gc C (.set 9 (.lc [1, 12] (.tup2 (.nm 1) (.nm 12)) (.ov (.var 9)) .nil (.tup (.cons (.var 1) (.cons (.call 16 (.cons (.var 12) .nil)) .nil))))) _ _ = _
      rw [x_set, x_lc]
      simp only [x_ov, x_var, x_getes, x_gete0, x_ofS, x_bok, evC]
      rw [e2]
      simp [hBl2]
    exact ⟨B, _, by rw [w17_is, sqn s0, sqn s1, sqn s2, x_snil], w.less hBl hB, hn hne⟩
end
theorem tot_le {A : List Ask} (w : Wk A) : tot A ≤ 120 := by
  have hl := w.len
  have h : ∀ A : List Ask, (∀ a ∈ A, a.2.nn ≤ 12) → tot A ≤ 12 * A.length := by
    intro A
    induction A with
    | nil => exact fun _ => Nat.le_refl _
    | cons a A ih =>
      intro h
      have h1 := ih fun x hx => h x (List.mem_cons_of_mem _ hx)
      have h2 := h a List.mem_cons_self
      rw [tot_cons, List.length_cons]
      omega
  have := h A w.nn
  omega
theorem t17 (m : Nat) {s : List Mp.D} {M : Mem} (h : Sk s [] M) : ∃ (H : Mp.D) (A : List Ask) (M' : Mem), callAt Gc tx.T (m + 18) 17 [.ref 2] M = .ok (.d (prD H A)) M' ∧ Sk s [] M' ∧ Wk A := by
  rw [show m + 18 = (m + 17) + 1 by omega, call_is (f := f17) rfl]
  let C := callAt Gc tx.T (m + 17)
  have h11 : H11 C := fun h a b c d => t11 (m + 16) h a b c d
  have h14 : H14 C 3 := @t14 (m + 11) 3
  have h18 : ∀ (its : Its) (M : Mem), its.dp ≤ 3 → C 18 [.d (.tuple its.Ds)] M = .ok (.d (.int its.nn)) M := fun its M hd => t18 3 (m + 13) its M hd
  obtain ⟨M0, s0, g0⟩ := s17_0 (C := C) h
  obtain ⟨hs, u1, M1, s1, g1, ho, hs1, hs2⟩ := s17_1 h11 g0
  obtain ⟨ns, u2, M2, s2, g2, ns1, ns2⟩ := s17_2 h11 (u1 := u1) g1
  obtain ⟨j, M3, s3, g3, hj⟩ := s17_3 h11 (u1 := u1) (u2 := u2) g2
  obtain ⟨os, u3, M4, s4, g4, hp⟩ := s17_4 h11 (u1 := u1) (u2 := u2) hj g3
  obtain ⟨M5, s5, g5⟩ := s17_5 (C := C) (u1 := u1) (u2 := u2) (u3 := u3) (u6 := some (.d (.int ((j + 1 : Nat) : Int)))) g4
  obtain ⟨A, k, E, M6, v3, v10, s6, g6, hA, hAl⟩ := s17_6 (u1 := u1) (u2 := u2) (u3 := u3) h14 h18 ho ⟨hs1, hs2⟩ ⟨ns1, ns2⟩ hp (by omega) g5
  obtain ⟨M7, s7, g7⟩ := s17_7 (C := C) (u1 := u1) (u2 := u2) (u3 := v3) (u6 := some (.d (.int ((j + 1 : Nat) : Int)))) (u7 := some (.d (.list (nI os)))) (u10 := v10) g6
  have w := hA.wk hp (by omega) hAl
  have hr : M7[3]? = some (.lst (hsD hs)) := g7.get 0
  have h15 : ∀ (A : List Ask), Wk A → ∀ a ∈ A, ∃ w q l : Nat, C 15 [.d (.list (A.map askD)), .d (.tuple a.2.Ds)] M7 = .ok (.d (tri w q l)) M7 ∧ (a.2 = .nil → w = 1 ∧ q = 0 ∧ l = 0) := fun A w a ha => by
    obtain ⟨r, r1, r2⟩ := w.rk
    obtain ⟨i, hi⟩ := List.getElem?_of_mem ha
    obtain ⟨w', q, l, e, _, hz⟩ := t15 w.toWf r2 2 4 (m + 17) a.2 M7 (Nat.le_refl _) (Nat.le_refl _) (w.dp a ha) (fun k hk => ⟨by have := r2 i a hi k hk; have := r1 i; omega, w.cl a ha k hk⟩) (w.nn a ha) (w.cw a ha) (by omega)
    exact ⟨w', q, l, e, hz⟩
  have h16 : ∀ (its : Its), its.dp ≤ 4 → its.nn ≤ 100 → ∃ b : Its, C 16 [.d (.tuple its.Ds)] M7 = .ok (.d (.tuple b.Ds)) M7 ∧ Le its b := fun its h1 h2 => t16 4 (m + 12) its M7 h1 h2
  obtain ⟨v, M', e, A', rfl, rfl, w'⟩ := whL_rt (c := evE Gc C (.con (.bool true))) (b := evSs Gc C w17) (fun m σ M => ∃ (A : List Ask) (v11 : Option Val), σ = V17 u1 u2 v3 (some (.d (.int ((j + 1 : Nat) : Int)))) (some (.d (.list (nI os)))) v10 v11 A ∧ M = M7 ∧ Wk A ∧ tot A = m)
    (fun v M => ∃ A : List Ask, v = .d (prD (.tuple (hsD hs)) A) ∧ M = M7 ∧ Wk A) (by
      rintro m σ M ⟨A, v11, rfl, rfl, w, rfl⟩
      refine ⟨rfl, ?_⟩
      rcases lap17 (C := C) h15 h16 hr w (u1 := u1) (u2 := u2) (u3 := v3) (u6 := some (.d (.int ((j + 1 : Nat) : Int)))) (u7 := some (.d (.list (nI os)))) (u10 := v10) (u11 := v11) with e | ⟨B, x11, e, wB, hlt⟩
      · exact .inl ⟨_, _, e, A, rfl, rfl, w⟩
      · exact .inr ⟨tot B, _, _, hlt, e, B, x11, rfl, rfl, wB, rfl⟩) (tot A) _ M7 ⟨A, none, rfl, rfl, w, rfl⟩ wfuel (by have := tot_le w; unfold wfuel; omega)
  refine ⟨.tuple (hsD hs), A', M'.take M.length, ?_, ?_, w'⟩
  · rw [run_rt (fn := f17) (σ0 := S17 none none none none none none none none none none none) (v := .d (prD (.tuple (hsD hs)) A')) (M1 := M') rfl rfl ?_]
    · show outV M.length true _ _ = _
      rw [out_d]
    show evSs Gc C b17 _ M = _
    rw [b17_is, sqn s0, sqn s1, sqn s2, sqn s3, sqn s4, sqn s5, sqn s6, sqn s7, a17_8]
    refine sqr ?_
    rw [x_whil]
    exact e
  · rw [h.len]
    exact Sk.take (R := []) (R' := _) g7
end Mp.k06
end
section
set_option maxHeartbeats 4000000
namespace Mp.k06
open PySem PySem.Spec PyProof.Rows L2 Mp

/-! ### the document's program -/
def lowI : It := .when [(.str ("=" : Str), .inl 4, .inl 4), (.str ("!" : Str), .inr (0, 1), .inl (-2))] .nil (.cons (.say (.str ("no" : Str))) .nil)
def midI : It := .when [] (.cons (.shw (.inl 9)) .nil) (.cons (.call 2) (.cons (.shw (.inr (1, 0))) .nil))
def docA : List Ask := [(.str ("top" : Str), .cons (.call 1) (.cons (.shw (.inr (0, 0))) (.cons (.call 1) .nil))), (.str ("mid" : Str), .cons midI .nil), (.str ("low" : Str), .cons lowI .nil)]
def docH : Mp.D := .tuple [.tuple [.str ("a" : Str), .tuple [.str ("x" : Str), .str ("y" : Str)]], .tuple [.str ("b" : Str), .tuple [.str ("z" : Str)]]]
def putD : Mp.D := .tuple [.str ("when" : Str), .tuple [], .tuple [.tuple [.str ("when" : Str), .tuple [], .tuple [.tuple [.str ("show" : Str), .tuple [.str ("c" : Str), .int 9]]], .tuple [.tuple [.str ("when" : Str), .tuple [], .tuple [lowI.D], .tuple []], .tuple [.str ("show" : Str), .tuple [.str ("f" : Str), .int 1, .int 0]]]]], .tuple []]
theorem doc_all {P : Ask → Prop} (h0 : P (.str ("top" : Str), .cons (.call 1) (.cons (.shw (.inr (0, 0))) (.cons (.call 1) .nil)))) (h1 : P (.str ("mid" : Str), .cons midI .nil)) (h2 : P (.str ("low" : Str), .cons lowI .nil)) : ∀ a ∈ docA, P a := by
  intro a ha
  rcases List.mem_cons.mp ha with rfl | ha
  · exact h0
  rcases List.mem_cons.mp ha with rfl | ha
  · exact h1
  rw [List.mem_singleton.mp ha]
  exact h2
theorem pn_no : pn 0 (.str ("no" : Str)) = true := by decide +kernel
theorem docW : Wk docA := by
  refine ⟨⟨by decide, doc_all (by decide) (by decide) (by decide), doc_all ?_ ?_ ?_, doc_all (by decide) (by decide) (by decide), doc_all (by decide) (by decide) (by decide), fun i => 2 - i, fun i => Nat.sub_le _ _, fun i a h k hk => ?_⟩, doc_all ?_ ?_ ?_⟩
  · exact ⟨trivial, trivial, trivial, trivial⟩
  · exact ⟨⟨by decide, ⟨trivial, trivial⟩, trivial, trivial, trivial⟩, trivial⟩
  · exact ⟨⟨by decide, trivial, trivial, trivial⟩, trivial⟩
  · rcases i with _ | _ | _ | i
    · cases h
      have hk' : k ∈ [1, 1] := hk
      have : k = 1 := by simpa using hk'
      subst this
      decide
    · cases h
      have hk' : k ∈ [2] := hk
      have : k = 2 := by simpa using hk'
      subst this
      decide
    · cases h
      have hk' : k ∈ ([] : List Nat) := hk
      cases hk'
    · cases h
  · exact ⟨trivial, trivial, trivial, trivial⟩
  · exact ⟨⟨(fun c h => by cases h), ⟨trivial, trivial⟩, trivial, trivial, trivial⟩, trivial⟩
  · refine ⟨⟨fun c h => ?_, trivial, pn_no, trivial⟩, trivial⟩
    rcases List.mem_cons.mp h with rfl | h
    · exact pn_s4
    rw [List.mem_singleton.mp h]
    exact pn_s5
theorem docC : sI (dd (allC docA)) = [-2, 4, 9] := by
  have e : dd (allC docA) = [9, 4, -2] := rfl
  rw [e, sI_eq (ys := [-2, 4, 9]) (by decide)]
  exact sI_id (by decide)
theorem docWo : wo docA 3 0 = [putD, .tuple [.str ("show" : Str), .tuple [.str ("f" : Str), .int 0, .int 0]], putD] := rfl
theorem docF {lot G F : List Int} {ps : List (List Int)} (h1 : ∀ x, x ∈ F ↔ Reach docA lot x) (g1 : ∀ x ∈ lot, x ∈ G) (g2 : ∀ x ∈ G, Reach docA lot x) (g3 : ∀ x ∈ G, ∀ y ∈ nZ (bz docA x).cl, y ∈ G) (hs : sortP (ddP (rF docA G)) = ps) : sortP (ddP (rF docA F)) = ps := by
  rw [← hs]
  refine sddP_eq fun a => ?_
  unfold rF
  rw [List.mem_flatMap, List.mem_flatMap]
  have := fun x => (h1 x).trans (reach_iff g1 g2 g3 x).symm
  constructor
  · rintro ⟨x, hx, ha⟩
    exact ⟨x, (this x).mp hx, ha⟩
  · rintro ⟨x, hx, ha⟩
    exact ⟨x, (this x).mpr hx, ha⟩
theorem sort_doc {ps qs : List (List Int)} (h : ps.Perm qs) (hp : qs.Pairwise fun p q => p ≤ q) : sortP ps = qs := (sortP_eq h).trans (sortP_id hp)
theorem r0 (n : Int) (hn : n = 0 ∨ n = 1 ∨ n = 2) : ∀ x, n ≤ x → x ≤ 2 → Reach docA [n] x := by
  have step : ∀ x, Reach docA [n] x → x = 0 ∨ x = 1 → Reach docA [n] (x + 1) := by
    rintro x hx (rfl | rfl)
    · exact .step hx (by show (1 : Int) ∈ [(1 : Int), 1]; simp)
    · exact .step hx (by show (2 : Int) ∈ [(2 : Int)]; simp)
  have b : Reach docA [n] n := .base (by simp)
  intro x h1 h2
  rcases hn with rfl | rfl | rfl
  · have s1 := step 0 b (.inl rfl)
    have s2 := step 1 s1 (.inr rfl)
    have : x = 0 ∨ x = 1 ∨ x = 2 := by omega
    rcases this with rfl | rfl | rfl <;> assumption
  · have s2 := step 1 b (.inr rfl)
    have : x = 1 ∨ x = 2 := by omega
    rcases this with rfl | rfl <;> assumption
  · have : x = 2 := by omega
    rw [this]; exact b
theorem clo (G : List Int) (h : G = [0, 1, 2] ∨ G = [1, 2] ∨ G = [2]) : ∀ x ∈ G, ∀ y ∈ nZ (bz docA x).cl, y ∈ G := by
  have c0 : nZ (bz docA 0).cl = [1, 1] := rfl
  have c1 : nZ (bz docA 1).cl = [2] := rfl
  have c2 : nZ (bz docA 2).cl = [] := rfl
  rcases h with rfl | rfl | rfl <;> intro x hx y hy <;> simp only [List.mem_cons, List.not_mem_nil, or_false] at hx
  · rcases hx with rfl | rfl | rfl
    · rw [c0] at hy; simp at hy; simp [hy]
    · rw [c1] at hy; simp at hy; simp [hy]
    · rw [c2] at hy; cases hy
  · rcases hx with rfl | rfl
    · rw [c1] at hy; simp at hy; simp [hy]
    · rw [c2] at hy; cases hy
  · subst hx
    rw [c2] at hy; cases hy
def fld (M : Mem) (lot : List Int) (ps : List (List Int)) : Prop := callAt Gc tx.T 41 7 [.d (prD docH docA), .d (iT lot)] M = .ok (.d (.tuple (ps.map iT))) M
theorem fld0 (M : Mem) : fld M [0] [[0, 0], [0, 1], [1, 0]] := by
  obtain ⟨F, hF, hFr, _⟩ := t7 33 (h := docH) M docW.toWf (lot := [0]) (by simp) (fun x hx => by rw [List.mem_singleton.mp hx]; exact ⟨by decide, by decide⟩)
  rw [docF (G := [0, 1, 2]) (ps := [[0, 0], [0, 1], [1, 0]]) hFr (by simp) (fun x hx => r0 0 (.inl rfl) x (by simp at hx; omega) (by simp at hx; omega)) (clo _ (.inl rfl)) (by
    have e : ddP (rF docA [0, 1, 2]) = [[0, 0], [1, 0], [0, 1]] := rfl
    rw [e]
    exact sort_doc (by decide) (by decide))] at hF
  exact hF
theorem fld1 (M : Mem) : fld M [1] [[0, 1], [1, 0]] := by
  obtain ⟨F, hF, hFr, _⟩ := t7 33 (h := docH) M docW.toWf (lot := [1]) (by simp) (fun x hx => by rw [List.mem_singleton.mp hx]; exact ⟨by decide, by decide⟩)
  rw [docF (G := [1, 2]) (ps := [[0, 1], [1, 0]]) hFr (by simp) (fun x hx => r0 1 (.inr (.inl rfl)) x (by simp at hx; omega) (by simp at hx; omega)) (clo _ (.inr (.inl rfl))) (by
    have e : ddP (rF docA [1, 2]) = [[1, 0], [0, 1]] := rfl
    rw [e]
    exact sort_doc (by decide) (by decide))] at hF
  exact hF
theorem fld2 (M : Mem) : fld M [2] [[0, 1]] := by
  obtain ⟨F, hF, hFr, _⟩ := t7 33 (h := docH) M docW.toWf (lot := [2]) (by simp) (fun x hx => by rw [List.mem_singleton.mp hx]; exact ⟨by decide, by decide⟩)
  rw [docF (G := [2]) (ps := [[0, 1]]) hFr (by simp) (fun x hx => r0 2 (.inr (.inr rfl)) x (by simp at hx; omega) (by simp at hx; omega)) (clo _ (.inr (.inr rfl))) (by
    have e : ddP (rF docA [2]) = [[0, 1]] := rfl
    rw [e]
    exact sort_doc (by decide) (by decide))] at hF
  exact hF
end Mp.k06
end
section
set_option maxHeartbeats 4000000
namespace Mp.k06
open PySem PySem.Spec PyProof.Rows L2 Mp

def C41 : CT := callAt Gc tx.T 41
def a25 (i : Nat) : MS := nthS b25 i
theorem b25_is : b25 = .cons (a25 0) (.cons (a25 1) (.cons (a25 2) (.cons (a25 3) (.cons (a25 4) (.cons (a25 5) (.cons (a25 6) (.cons (a25 7) (.cons (a25 8) (.cons (a25 9) .nil))))))))) := rfl
abbrev S25 (e1 e2 e3 e4 e5 e6 e7 e8 e9 e10 : Option Val) : Env := [some (.ref 0), e1, e2, e3, e4, e5, e6, e7, e8, e9, e10]
def xD : Mp.D := .tuple [.str ("f" : Str), .int 0, .int 0]
def yD : Mp.D := .tuple [.str ("f" : Str), .int 0, .int 1]
def zD : Mp.D := .tuple [.str ("f" : Str), .int 1, .int 0]
section
variable {s : List Mp.D} {M : Mem}
theorem s25_1 (h : Sk s [] M) : ∃ (u2 : Option Val) (M' : Mem), evS Gc C41 (a25 1) (S25 (some (.ref 2)) none none none none none none none none none) M = .ok (.nx (S25 (some (.ref 2)) u2 none none none none none none none none)) M' ∧ Sk s [] M' := by
  let B : MSs := .cons (.iff (.not (.call 24 (.cons (.call 17 (.cons (.var 1) .nil)) .nil))) (.cons (.ret (.con (.bool false))) .nil) .nil) .nil
  obtain ⟨σ', M', e, u2, rfl, hk⟩ := forL_go (tg := .nm 2) (b := evSs Gc C41 B) (xs := (rI 4).map .int) (σ := S25 (some (.ref 2)) none none none none none none none none none) (M := M)
    (fun i σ M => ∃ (u2 : Option Val), σ = S25 (some (.ref 2)) u2 none none none none none none none none ∧ Sk s [] M) ⟨none, rfl, h⟩ (by
      rintro i x σ M hx ⟨u2, rfl, hk⟩
      obtain ⟨H, A, M1, g1, g2, g3⟩ := t17 23 hk
      have g4 := t24 (h := H) (M := M1) g3
      have g1' : C41 17 [.ref 2] M = .ok (.d (prD H A)) M1 := g1
      have g4' : C41 24 [.d (prD H A)] M1 = .ok (.d (.bool true)) M1 := g4
      generalize prD H A = p at *
      refine ⟨_, S25 (some (.ref 2)) (some (.d x)) none none none none none none none none, M1, rfl, ?_, some (.d x), rfl, g2⟩
      simp [B, g1', g4'])
  refine ⟨u2, M', ?_, hk⟩
  have hr : rngOk 0 4 = true := by decide +kernel
  show evS Gc C41 (.forr (.nm 2) (.rg1 (.con (.int 4))) B) _ _ = _
  rw [x_forr, ← e]
  have e4 : rngD 0 4 = (rI 4).map .int := rngD_rI 4
  generalize B = BB at *
  simp [hr, e4]
theorem s25_2 {u2 : Option Val} : evS Gc C41 (a25 2) (S25 (some (.ref 2)) u2 none none none none none none none none) M = .ok (.nx (S25 (some (.ref 2)) u2 none none none none none (some (.d xD)) (some (.d yD)) (some (.d zD)))) M := by
  have l3 : 3 ≤ lim := by unfold lim; omega
  simp [a25, nthS, b25, l3, setN, xD, yD, zD]
theorem s25_3 {u2 : Option Val} : evS Gc C41 (a25 3) (S25 (some (.ref 2)) u2 none none none none none (some (.d xD)) (some (.d yD)) (some (.d zD))) M = .ok (.nx (S25 (some (.ref 2)) u2 (some (.d lowI.D)) none none none none (some (.d xD)) (some (.d yD)) (some (.d zD)))) M := by
  have l4 : 4 ≤ lim := by unfold lim; omega
  have l3 : 3 ≤ lim := by unfold lim; omega
  have l2 : 2 ≤ lim := by unfold lim; omega
  have l1 : 1 ≤ lim := by unfold lim; omega
  simp [a25, nthS, b25, l4, l3, l2, l1]
  rfl
theorem s25_4 {u2 u3 : Option Val} : evS Gc C41 (a25 4) (S25 (some (.ref 2)) u2 u3 none none none none (some (.d xD)) (some (.d yD)) (some (.d zD))) M = .ok (.nx (S25 (some (.ref 2)) u2 u3 (some (.d midI.D)) none none none (some (.d xD)) (some (.d yD)) (some (.d zD)))) M := by
  have l4 : 4 ≤ lim := by unfold lim; omega
  have l3 : 3 ≤ lim := by unfold lim; omega
  have l2 : 2 ≤ lim := by unfold lim; omega
  have l1 : 1 ≤ lim := by unfold lim; omega
  simp [a25, nthS, b25, l4, l3, l2, l1]
  rfl
theorem s25_5 {u2 : Option Val} : evS Gc C41 (a25 5) (S25 (some (.ref 2)) u2 (some (.d lowI.D)) (some (.d midI.D)) none none none (some (.d xD)) (some (.d yD)) (some (.d zD))) M = .ok (.nx (S25 (some (.ref 2)) u2 (some (.d lowI.D)) (some (.d midI.D)) (some (.d (prD docH docA))) none none (some (.d xD)) (some (.d yD)) (some (.d zD)))) M := by
  have l4 : 4 ≤ lim := by unfold lim; omega
  have l3 : 3 ≤ lim := by unfold lim; omega
  have l2 : 2 ≤ lim := by unfold lim; omega
  have l1 : 1 ≤ lim := by unfold lim; omega
  have e1 : docA.map askD = [.tuple [.str ("top" : Str), .tuple [.tuple [.str ("call" : Str), .int 1], .tuple [.str ("show" : Str), xD], .tuple [.str ("call" : Str), .int 1]]], .tuple [.str ("mid" : Str), .tuple [midI.D]], .tuple [.str ("low" : Str), .tuple [lowI.D]]] := rfl
  unfold prD
  rw [e1]
  generalize lowI.D = LO at *
  generalize midI.D = MI at *
  generalize xD = X at *
  simp [a25, nthS, b25, l4, l3, l2, l1, docH]
theorem s25_6 {u2 u4 u5 : Option Val} : evS Gc C41 (a25 6) (S25 (some (.ref 2)) u2 (some (.d lowI.D)) u4 u5 none none (some (.d xD)) (some (.d yD)) (some (.d zD))) M = .ok (.nx (S25 (some (.ref 2)) u2 (some (.d lowI.D)) u4 u5 (some (.d putD)) none (some (.d xD)) (some (.d yD)) (some (.d zD)))) M := by
  have l4 : 4 ≤ lim := by unfold lim; omega
  have l3 : 3 ≤ lim := by unfold lim; omega
  have l2 : 2 ≤ lim := by unfold lim; omega
  have l1 : 1 ≤ lim := by unfold lim; omega
  unfold putD
  rw [show (PyData.tuple [.str ("f" : Str), .int 1, .int 0]) = zD from rfl]
  generalize lowI.D = LO at *
  generalize zD = Z at *
  simp [a25, nthS, b25, l4, l3, l2, l1]
def due7 : Mp.D := .tuple [.tuple [.int (-2), .int 4, .int 9], .tuple [.int 1], .tuple [.int 2]]
theorem pn7 : pn 2 due7 = true := by decide +kernel
theorem s25_7 {u2 u3 u4 u6 u8 u9 u10 : Option Val} : evS Gc C41 (a25 7) (S25 (some (.ref 2)) u2 u3 u4 (some (.d (prD docH docA))) u6 none u8 u9 u10) M = .ok (.nx (S25 (some (.ref 2)) u2 u3 u4 (some (.d (prD docH docA))) u6 none u8 u9 u10)) M := by
  have l3 : 3 ≤ lim := by unfold lim; omega
  have l1 : 1 ≤ lim := by unfold lim; omega
  have h24 : C41 24 [.d (prD docH docA)] M = .ok (.d (.bool true)) M := t24 docW
  have h6 : C41 6 [.d (prD docH docA)] M = .ok (.d (.tuple [.int (-2), .int 4, .int 9])) M := by
    have := t6 34 (h := docH) M docW.toWf
    rw [docC] at this
    exact this
  have h20 : C41 2 [.d (prD docH docA), .d (.int 0)] M = .ok (.d (.tuple [.int 1])) M := t2 35 (h := docH) M docW.toWf (i := 0) rfl
  have h21 : C41 2 [.d (prD docH docA), .d (.int 1)] M = .ok (.d (.tuple [.int 2])) M := t2 35 (h := docH) M docW.toWf (i := 1) rfl
  have hs : C41 12 [.d (.tuple [.tuple [.int (-2), .int 4, .int 9], .tuple [.int 1], .tuple [.int 2]]), .d (.tuple [.tuple [.int (-2), .int 4, .int 9], .tuple [.int 1], .tuple [.int 2]])] M = .ok (.d (.bool true)) M := same 2 38 due7 M pn7
  generalize prD docH docA = p at *
  simp [a25, nthS, b25, h24, h6, h20, h21, hs, permV, l3, l1]
def told8 : Mp.D := .tuple [.tuple [putD, .tuple [.str ("show" : Str), xD], putD], .tuple [.tuple [.int 0, .int 0], .tuple [.int 0, .int 1], .tuple [.int 1, .int 0]], .tuple [.tuple [.int 0, .int 1], .tuple [.int 1, .int 0]], .tuple [.tuple [.int 0, .int 1]]]
theorem pn8a : pn 2 (.tuple [.tuple [.int 0, .int 0], .tuple [.int 0, .int 1], .tuple [.int 1, .int 0]]) = true := by decide +kernel
theorem pn8b : pn 2 (.tuple [.tuple [.int 0, .int 1], .tuple [.int 1, .int 0]]) = true := by decide +kernel
theorem pn8c : pn 2 (.tuple [.tuple [.int 0, .int 1]]) = true := by decide +kernel
theorem pn8 : pn 34 told8 = true := by
  have h := pn_wo docW 3 0
  rw [docWo] at h
  exact pn_tup4 h (pn_le pn8a (by decide)) (pn_le pn8b (by decide)) (pn_le pn8c (by decide))
theorem s25_8 {u2 u3 u4 u6 u8 u9 u10 : Option Val} : evS Gc C41 (a25 8) (S25 (some (.ref 2)) u2 u3 u4 (some (.d (prD docH docA))) u6 none u8 u9 u10) M = .ok (.nx (S25 (some (.ref 2)) u2 u3 u4 (some (.d (prD docH docA))) u6 (some (.d told8)) u8 u9 u10)) M := by
  have l4 : 4 ≤ lim := by unfold lim; omega
  have l1 : 1 ≤ lim := by unfold lim; omega
  have h9 : C41 9 [.d (prD docH docA), .d (.int 0)] M = .ok (.d (.tuple [putD, .tuple [.str ("show" : Str), xD], putD])) M := by
    obtain ⟨r, hr0, hr⟩ := docW.rk
    obtain ⟨g1, g2, g3⟩ := bk_ok docW.toWf hr (f := 2) (k := 0) (by decide) (hr0 0)
    have := call9 (R := .no) (h := docH) (k := 0) (by decide) (.inr trivial) _ (w8 (h := docH) docW.toWf hr 2 4 40 (bk docA 0) M (Nat.le_refl _) g1 g2 g3 (by omega))
    exact this
  have f0 : C41 7 [.d (prD docH docA), .d (.tuple [.int 0])] M = .ok (.d (.tuple [.tuple [.int 0, .int 0], .tuple [.int 0, .int 1], .tuple [.int 1, .int 0]])) M := fld0 M
  have f1 : C41 7 [.d (prD docH docA), .d (.tuple [.int 1])] M = .ok (.d (.tuple [.tuple [.int 0, .int 1], .tuple [.int 1, .int 0]])) M := fld1 M
  have f2 : C41 7 [.d (prD docH docA), .d (.tuple [.int 2])] M = .ok (.d (.tuple [.tuple [.int 0, .int 1]])) M := fld2 M
  unfold told8
  generalize prD docH docA = p at *
  generalize putD = P at *
  generalize xD = X at *
  simp [a25, nthS, b25, h9, f0, f1, f2, permV, l4, l1]
theorem s25_9 {u2 u3 u4 u5 u9 u10 : Option Val} : evS Gc C41 (a25 9) (S25 (some (.ref 2)) u2 u3 u4 u5 (some (.d putD)) (some (.d told8)) (some (.d xD)) u9 u10) M = .ok (.rt (.d (.bool true))) M := by
  have l4 : 4 ≤ lim := by unfold lim; omega
  have l3 : 3 ≤ lim := by unfold lim; omega
  have l2 : 2 ≤ lim := by unfold lim; omega
  have l1 : 1 ≤ lim := by unfold lim; omega
  have l0 : 0 ≤ lim := Nat.zero_le _
  have hs : C41 12 [.d told8, .d (.tuple [.tuple [putD, .tuple [.str ("show" : Str), xD], putD], .tuple [.tuple [.int 0, .int 0], .tuple [.int 0, .int 1], .tuple [.int 1, .int 0]], .tuple [.tuple [.int 0, .int 1], .tuple [.int 1, .int 0]], .tuple [.tuple [.int 0, .int 1]]])] M = .ok (.d (.bool true)) M := same 34 6 told8 M pn8
  have h0 : C41 0 [.d (.tuple [])] M = .ok (.d (.int 0)) M := t0 0 40 .nil M (Nat.zero_le _)
  have hs0 : C41 12 [.d (.int 0), .d (.int 0)] M = .ok (.d (.bool true)) M := same 0 40 (.int 0) M rfl
  generalize told8 = T at *
  generalize putD = P at *
  generalize xD = X at *
  simp [a25, nthS, b25, hs, h0, hs0, l4, l3, l2, l1, l0]
end
theorem law_true (ns : List Int) (hn : ns.length ≤ 63) : ∃ M', callAt Gc tx.T 42 25 [.ref 0] [.scr (ns.map .int)] = .ok (.d (.bool true)) M' := by
  rw [show (42 : Nat) = 41 + 1 from rfl, call_is (f := f25) rfl]
  obtain ⟨M0, g0, h0⟩ := t10 40 hn
  have s0 : evS Gc C41 (a25 0) (S25 none none none none none none none none none none) [.scr (ns.map .int)] = .ok (.nx (S25 (some (.ref 2)) none none none none none none none none none)) M0 := by
    have g0' : C41 10 [.ref 0] [.scr (ns.map .int)] = .ok (.ref 2) M0 := g0
    simp [a25, nthS, b25, g0']
  obtain ⟨u2, M1, s1, h1⟩ := s25_1 h0
  refine ⟨M1.take 1, ?_⟩
  rw [run_rt (fn := f25) (σ0 := S25 none none none none none none none none none none) (v := .d (.bool true)) (M1 := M1) rfl rfl ?_]
  · rfl
  show evSs Gc C41 b25 _ _ = _
  rw [b25_is, sqn s0, sqn s1, sqn s25_2, sqn s25_3, sqn s25_4, sqn s25_5, sqn s25_6, sqn s25_7, sqn s25_8, sqr s25_9]
end Mp.k06
end
section
set_option maxHeartbeats 4000000
namespace Mp.k06
open PySem PySem.Spec PyProof.Rows L2 Mp
theorem bd0 : ∀ (kV doc pm : Value) (an : Option Addr) (cdv ct : Value) (us : List Value), us.length = d0.ps.length → bindArgs (PySem.W.fnOf d0.name d0.name (defArgs d0.st) (defBody d0.st) (defScope d0.st) .none kV doc pm an cdv ct) ⟨us, []⟩ = pure (d0.ps.zip us) :=
  fun _ _ _ _ _ _ us hl => match us, hl with | [_], _ => rfl
theorem bd1 : ∀ (kV doc pm : Value) (an : Option Addr) (cdv ct : Value) (us : List Value), us.length = d1.ps.length → bindArgs (PySem.W.fnOf d1.name d1.name (defArgs d1.st) (defBody d1.st) (defScope d1.st) .none kV doc pm an cdv ct) ⟨us, []⟩ = pure (d1.ps.zip us) :=
  fun _ _ _ _ _ _ us hl => match us, hl with | [_], _ => rfl
theorem bd2 : ∀ (kV doc pm : Value) (an : Option Addr) (cdv ct : Value) (us : List Value), us.length = d2.ps.length → bindArgs (PySem.W.fnOf d2.name d2.name (defArgs d2.st) (defBody d2.st) (defScope d2.st) .none kV doc pm an cdv ct) ⟨us, []⟩ = pure (d2.ps.zip us) :=
  fun _ _ _ _ _ _ us hl => match us, hl with | [_, _], _ => rfl
theorem bd3 : ∀ (kV doc pm : Value) (an : Option Addr) (cdv ct : Value) (us : List Value), us.length = d3.ps.length → bindArgs (PySem.W.fnOf d3.name d3.name (defArgs d3.st) (defBody d3.st) (defScope d3.st) .none kV doc pm an cdv ct) ⟨us, []⟩ = pure (d3.ps.zip us) :=
  fun _ _ _ _ _ _ us hl => match us, hl with | [_, _], _ => rfl
theorem bd4 : ∀ (kV doc pm : Value) (an : Option Addr) (cdv ct : Value) (us : List Value), us.length = d4.ps.length → bindArgs (PySem.W.fnOf d4.name d4.name (defArgs d4.st) (defBody d4.st) (defScope d4.st) .none kV doc pm an cdv ct) ⟨us, []⟩ = pure (d4.ps.zip us) :=
  fun _ _ _ _ _ _ us hl => match us, hl with | [_], _ => rfl
theorem bd5 : ∀ (kV doc pm : Value) (an : Option Addr) (cdv ct : Value) (us : List Value), us.length = d5.ps.length → bindArgs (PySem.W.fnOf d5.name d5.name (defArgs d5.st) (defBody d5.st) (defScope d5.st) .none kV doc pm an cdv ct) ⟨us, []⟩ = pure (d5.ps.zip us) :=
  fun _ _ _ _ _ _ us hl => match us, hl with | [_, _], _ => rfl
theorem bd6 : ∀ (kV doc pm : Value) (an : Option Addr) (cdv ct : Value) (us : List Value), us.length = d6.ps.length → bindArgs (PySem.W.fnOf d6.name d6.name (defArgs d6.st) (defBody d6.st) (defScope d6.st) .none kV doc pm an cdv ct) ⟨us, []⟩ = pure (d6.ps.zip us) :=
  fun _ _ _ _ _ _ us hl => match us, hl with | [_], _ => rfl
theorem bd7 : ∀ (kV doc pm : Value) (an : Option Addr) (cdv ct : Value) (us : List Value), us.length = d7.ps.length → bindArgs (PySem.W.fnOf d7.name d7.name (defArgs d7.st) (defBody d7.st) (defScope d7.st) .none kV doc pm an cdv ct) ⟨us, []⟩ = pure (d7.ps.zip us) :=
  fun _ _ _ _ _ _ us hl => match us, hl with | [_, _], _ => rfl
theorem bd8 : ∀ (kV doc pm : Value) (an : Option Addr) (cdv ct : Value) (us : List Value), us.length = d8.ps.length → bindArgs (PySem.W.fnOf d8.name d8.name (defArgs d8.st) (defBody d8.st) (defScope d8.st) .none kV doc pm an cdv ct) ⟨us, []⟩ = pure (d8.ps.zip us) :=
  fun _ _ _ _ _ _ us hl => match us, hl with | [_, _], _ => rfl
theorem bd9 : ∀ (kV doc pm : Value) (an : Option Addr) (cdv ct : Value) (us : List Value), us.length = d9.ps.length → bindArgs (PySem.W.fnOf d9.name d9.name (defArgs d9.st) (defBody d9.st) (defScope d9.st) .none kV doc pm an cdv ct) ⟨us, []⟩ = pure (d9.ps.zip us) :=
  fun _ _ _ _ _ _ us hl => match us, hl with | [_, _], _ => rfl
theorem bd10 : ∀ (kV doc pm : Value) (an : Option Addr) (cdv ct : Value) (us : List Value), us.length = d10.ps.length → bindArgs (PySem.W.fnOf d10.name d10.name (defArgs d10.st) (defBody d10.st) (defScope d10.st) .none kV doc pm an cdv ct) ⟨us, []⟩ = pure (d10.ps.zip us) :=
  fun _ _ _ _ _ _ us hl => match us, hl with | [_], _ => rfl
theorem bd11 : ∀ (kV doc pm : Value) (an : Option Addr) (cdv ct : Value) (us : List Value), us.length = d11.ps.length → bindArgs (PySem.W.fnOf d11.name d11.name (defArgs d11.st) (defBody d11.st) (defScope d11.st) .none kV doc pm an cdv ct) ⟨us, []⟩ = pure (d11.ps.zip us) :=
  fun _ _ _ _ _ _ us hl => match us, hl with | [_, _, _], _ => rfl
theorem bd12 : ∀ (kV doc pm : Value) (an : Option Addr) (cdv ct : Value) (us : List Value), us.length = d12.ps.length → bindArgs (PySem.W.fnOf d12.name d12.name (defArgs d12.st) (defBody d12.st) (defScope d12.st) .none kV doc pm an cdv ct) ⟨us, []⟩ = pure (d12.ps.zip us) :=
  fun _ _ _ _ _ _ us hl => match us, hl with | [_, _], _ => rfl
theorem bd13 : ∀ (kV doc pm : Value) (an : Option Addr) (cdv ct : Value) (us : List Value), us.length = d13.ps.length → bindArgs (PySem.W.fnOf d13.name d13.name (defArgs d13.st) (defBody d13.st) (defScope d13.st) .none kV doc pm an cdv ct) ⟨us, []⟩ = pure (d13.ps.zip us) :=
  fun _ _ _ _ _ _ us hl => match us, hl with | [_, _, _], _ => rfl
theorem bd14 : ∀ (kV doc pm : Value) (an : Option Addr) (cdv ct : Value) (us : List Value), us.length = d14.ps.length → bindArgs (PySem.W.fnOf d14.name d14.name (defArgs d14.st) (defBody d14.st) (defScope d14.st) .none kV doc pm an cdv ct) ⟨us, []⟩ = pure (d14.ps.zip us) :=
  fun _ _ _ _ _ _ us hl => match us, hl with | [_, _, _, _, _, _], _ => rfl
theorem bd15 : ∀ (kV doc pm : Value) (an : Option Addr) (cdv ct : Value) (us : List Value), us.length = d15.ps.length → bindArgs (PySem.W.fnOf d15.name d15.name (defArgs d15.st) (defBody d15.st) (defScope d15.st) .none kV doc pm an cdv ct) ⟨us, []⟩ = pure (d15.ps.zip us) :=
  fun _ _ _ _ _ _ us hl => match us, hl with | [_, _], _ => rfl
theorem bd16 : ∀ (kV doc pm : Value) (an : Option Addr) (cdv ct : Value) (us : List Value), us.length = d16.ps.length → bindArgs (PySem.W.fnOf d16.name d16.name (defArgs d16.st) (defBody d16.st) (defScope d16.st) .none kV doc pm an cdv ct) ⟨us, []⟩ = pure (d16.ps.zip us) :=
  fun _ _ _ _ _ _ us hl => match us, hl with | [_], _ => rfl
theorem bd17 : ∀ (kV doc pm : Value) (an : Option Addr) (cdv ct : Value) (us : List Value), us.length = d17.ps.length → bindArgs (PySem.W.fnOf d17.name d17.name (defArgs d17.st) (defBody d17.st) (defScope d17.st) .none kV doc pm an cdv ct) ⟨us, []⟩ = pure (d17.ps.zip us) :=
  fun _ _ _ _ _ _ us hl => match us, hl with | [_], _ => rfl
theorem bd18 : ∀ (kV doc pm : Value) (an : Option Addr) (cdv ct : Value) (us : List Value), us.length = d18.ps.length → bindArgs (PySem.W.fnOf d18.name d18.name (defArgs d18.st) (defBody d18.st) (defScope d18.st) .none kV doc pm an cdv ct) ⟨us, []⟩ = pure (d18.ps.zip us) :=
  fun _ _ _ _ _ _ us hl => match us, hl with | [_], _ => rfl
theorem bd19 : ∀ (kV doc pm : Value) (an : Option Addr) (cdv ct : Value) (us : List Value), us.length = d19.ps.length → bindArgs (PySem.W.fnOf d19.name d19.name (defArgs d19.st) (defBody d19.st) (defScope d19.st) .none kV doc pm an cdv ct) ⟨us, []⟩ = pure (d19.ps.zip us) :=
  fun _ _ _ _ _ _ us hl => match us, hl with | [_], _ => rfl
theorem bd20 : ∀ (kV doc pm : Value) (an : Option Addr) (cdv ct : Value) (us : List Value), us.length = d20.ps.length → bindArgs (PySem.W.fnOf d20.name d20.name (defArgs d20.st) (defBody d20.st) (defScope d20.st) .none kV doc pm an cdv ct) ⟨us, []⟩ = pure (d20.ps.zip us) :=
  fun _ _ _ _ _ _ us hl => match us, hl with | [_], _ => rfl
theorem bd21 : ∀ (kV doc pm : Value) (an : Option Addr) (cdv ct : Value) (us : List Value), us.length = d21.ps.length → bindArgs (PySem.W.fnOf d21.name d21.name (defArgs d21.st) (defBody d21.st) (defScope d21.st) .none kV doc pm an cdv ct) ⟨us, []⟩ = pure (d21.ps.zip us) :=
  fun _ _ _ _ _ _ us hl => match us, hl with | [_, _], _ => rfl
theorem bd22 : ∀ (kV doc pm : Value) (an : Option Addr) (cdv ct : Value) (us : List Value), us.length = d22.ps.length → bindArgs (PySem.W.fnOf d22.name d22.name (defArgs d22.st) (defBody d22.st) (defScope d22.st) .none kV doc pm an cdv ct) ⟨us, []⟩ = pure (d22.ps.zip us) :=
  fun _ _ _ _ _ _ us hl => match us, hl with | [_, _], _ => rfl
theorem bd23 : ∀ (kV doc pm : Value) (an : Option Addr) (cdv ct : Value) (us : List Value), us.length = d23.ps.length → bindArgs (PySem.W.fnOf d23.name d23.name (defArgs d23.st) (defBody d23.st) (defScope d23.st) .none kV doc pm an cdv ct) ⟨us, []⟩ = pure (d23.ps.zip us) :=
  fun _ _ _ _ _ _ us hl => match us, hl with | [_], _ => rfl
theorem bd24 : ∀ (kV doc pm : Value) (an : Option Addr) (cdv ct : Value) (us : List Value), us.length = d24.ps.length → bindArgs (PySem.W.fnOf d24.name d24.name (defArgs d24.st) (defBody d24.st) (defScope d24.st) .none kV doc pm an cdv ct) ⟨us, []⟩ = pure (d24.ps.zip us) :=
  fun _ _ _ _ _ _ us hl => match us, hl with | [_], _ => rfl
theorem bd25 : ∀ (kV doc pm : Value) (an : Option Addr) (cdv ct : Value) (us : List Value), us.length = d25.ps.length → bindArgs (PySem.W.fnOf d25.name d25.name (defArgs d25.st) (defBody d25.st) (defScope d25.st) .none kV doc pm an cdv ct) ⟨us, []⟩ = pure (d25.ps.zip us) :=
  fun _ _ _ _ _ _ us hl => match us, hl with | [_], _ => rfl
theorem kd0 : ∀ sh ∈ tx.kb, sh.j = 0 → d0.ps ≠ [] ∧ ∀ (kV doc pm : Value) (an : Option Addr) (cdv ct : Value) (us ws : List Value), us.length = sh.np → ws.length = sh.ks.length → bindArgs (PySem.W.fnOf d0.name d0.name (defArgs d0.st) (defBody d0.st) (defScope d0.st) .none kV doc pm an cdv ct) ⟨us, sh.ks.zip ws⟩ = pure (d0.ps.zip (gP sh.np sh.ks.length sh.perm us ws)) := by
  intro sh hs hj
  have hs2 : sh = ⟨0, 0, [("block" : Str)], [0]⟩ ∨ sh = ⟨6, 0, [("program" : Str)], [0]⟩ ∨ sh = ⟨2, 0, [("ask" : Str), ("program" : Str)], [1, 0]⟩ ∨ sh = ⟨9, 0, [("ask" : Str), ("program" : Str)], [1, 0]⟩ ∨ sh = ⟨7, 0, [("lot" : Str), ("program" : Str)], [1, 0]⟩ := by simpa [tx] using hs
  rcases hs2 with rfl | rfl | rfl | rfl | rfl
  · exact ⟨(by intro z; cases z), fun _ _ _ _ _ _ us ws h1 h2 => match us, ws, h1, h2 with | [], [_], _, _ => rfl⟩
  · exact absurd hj (by decide)
  · exact absurd hj (by decide)
  · exact absurd hj (by decide)
  · exact absurd hj (by decide)
theorem kd1 : ∀ sh ∈ tx.kb, sh.j = 1 → d1.ps ≠ [] ∧ ∀ (kV doc pm : Value) (an : Option Addr) (cdv ct : Value) (us ws : List Value), us.length = sh.np → ws.length = sh.ks.length → bindArgs (PySem.W.fnOf d1.name d1.name (defArgs d1.st) (defBody d1.st) (defScope d1.st) .none kV doc pm an cdv ct) ⟨us, sh.ks.zip ws⟩ = pure (d1.ps.zip (gP sh.np sh.ks.length sh.perm us ws)) := by
  intro sh hs hj
  have hs2 : sh = ⟨0, 0, [("block" : Str)], [0]⟩ ∨ sh = ⟨6, 0, [("program" : Str)], [0]⟩ ∨ sh = ⟨2, 0, [("ask" : Str), ("program" : Str)], [1, 0]⟩ ∨ sh = ⟨9, 0, [("ask" : Str), ("program" : Str)], [1, 0]⟩ ∨ sh = ⟨7, 0, [("lot" : Str), ("program" : Str)], [1, 0]⟩ := by simpa [tx] using hs
  rcases hs2 with rfl | rfl | rfl | rfl | rfl
  · exact absurd hj (by decide)
  · exact absurd hj (by decide)
  · exact absurd hj (by decide)
  · exact absurd hj (by decide)
  · exact absurd hj (by decide)
theorem kd2 : ∀ sh ∈ tx.kb, sh.j = 2 → d2.ps ≠ [] ∧ ∀ (kV doc pm : Value) (an : Option Addr) (cdv ct : Value) (us ws : List Value), us.length = sh.np → ws.length = sh.ks.length → bindArgs (PySem.W.fnOf d2.name d2.name (defArgs d2.st) (defBody d2.st) (defScope d2.st) .none kV doc pm an cdv ct) ⟨us, sh.ks.zip ws⟩ = pure (d2.ps.zip (gP sh.np sh.ks.length sh.perm us ws)) := by
  intro sh hs hj
  have hs2 : sh = ⟨0, 0, [("block" : Str)], [0]⟩ ∨ sh = ⟨6, 0, [("program" : Str)], [0]⟩ ∨ sh = ⟨2, 0, [("ask" : Str), ("program" : Str)], [1, 0]⟩ ∨ sh = ⟨9, 0, [("ask" : Str), ("program" : Str)], [1, 0]⟩ ∨ sh = ⟨7, 0, [("lot" : Str), ("program" : Str)], [1, 0]⟩ := by simpa [tx] using hs
  rcases hs2 with rfl | rfl | rfl | rfl | rfl
  · exact absurd hj (by decide)
  · exact absurd hj (by decide)
  · exact ⟨(by intro z; cases z), fun _ _ _ _ _ _ us ws h1 h2 => match us, ws, h1, h2 with | [], [_, _], _, _ => rfl⟩
  · exact absurd hj (by decide)
  · exact absurd hj (by decide)
theorem kd3 : ∀ sh ∈ tx.kb, sh.j = 3 → d3.ps ≠ [] ∧ ∀ (kV doc pm : Value) (an : Option Addr) (cdv ct : Value) (us ws : List Value), us.length = sh.np → ws.length = sh.ks.length → bindArgs (PySem.W.fnOf d3.name d3.name (defArgs d3.st) (defBody d3.st) (defScope d3.st) .none kV doc pm an cdv ct) ⟨us, sh.ks.zip ws⟩ = pure (d3.ps.zip (gP sh.np sh.ks.length sh.perm us ws)) := by
  intro sh hs hj
  have hs2 : sh = ⟨0, 0, [("block" : Str)], [0]⟩ ∨ sh = ⟨6, 0, [("program" : Str)], [0]⟩ ∨ sh = ⟨2, 0, [("ask" : Str), ("program" : Str)], [1, 0]⟩ ∨ sh = ⟨9, 0, [("ask" : Str), ("program" : Str)], [1, 0]⟩ ∨ sh = ⟨7, 0, [("lot" : Str), ("program" : Str)], [1, 0]⟩ := by simpa [tx] using hs
  rcases hs2 with rfl | rfl | rfl | rfl | rfl
  · exact absurd hj (by decide)
  · exact absurd hj (by decide)
  · exact absurd hj (by decide)
  · exact absurd hj (by decide)
  · exact absurd hj (by decide)
theorem kd4 : ∀ sh ∈ tx.kb, sh.j = 4 → d4.ps ≠ [] ∧ ∀ (kV doc pm : Value) (an : Option Addr) (cdv ct : Value) (us ws : List Value), us.length = sh.np → ws.length = sh.ks.length → bindArgs (PySem.W.fnOf d4.name d4.name (defArgs d4.st) (defBody d4.st) (defScope d4.st) .none kV doc pm an cdv ct) ⟨us, sh.ks.zip ws⟩ = pure (d4.ps.zip (gP sh.np sh.ks.length sh.perm us ws)) := by
  intro sh hs hj
  have hs2 : sh = ⟨0, 0, [("block" : Str)], [0]⟩ ∨ sh = ⟨6, 0, [("program" : Str)], [0]⟩ ∨ sh = ⟨2, 0, [("ask" : Str), ("program" : Str)], [1, 0]⟩ ∨ sh = ⟨9, 0, [("ask" : Str), ("program" : Str)], [1, 0]⟩ ∨ sh = ⟨7, 0, [("lot" : Str), ("program" : Str)], [1, 0]⟩ := by simpa [tx] using hs
  rcases hs2 with rfl | rfl | rfl | rfl | rfl
  · exact absurd hj (by decide)
  · exact absurd hj (by decide)
  · exact absurd hj (by decide)
  · exact absurd hj (by decide)
  · exact absurd hj (by decide)
theorem kd5 : ∀ sh ∈ tx.kb, sh.j = 5 → d5.ps ≠ [] ∧ ∀ (kV doc pm : Value) (an : Option Addr) (cdv ct : Value) (us ws : List Value), us.length = sh.np → ws.length = sh.ks.length → bindArgs (PySem.W.fnOf d5.name d5.name (defArgs d5.st) (defBody d5.st) (defScope d5.st) .none kV doc pm an cdv ct) ⟨us, sh.ks.zip ws⟩ = pure (d5.ps.zip (gP sh.np sh.ks.length sh.perm us ws)) := by
  intro sh hs hj
  have hs2 : sh = ⟨0, 0, [("block" : Str)], [0]⟩ ∨ sh = ⟨6, 0, [("program" : Str)], [0]⟩ ∨ sh = ⟨2, 0, [("ask" : Str), ("program" : Str)], [1, 0]⟩ ∨ sh = ⟨9, 0, [("ask" : Str), ("program" : Str)], [1, 0]⟩ ∨ sh = ⟨7, 0, [("lot" : Str), ("program" : Str)], [1, 0]⟩ := by simpa [tx] using hs
  rcases hs2 with rfl | rfl | rfl | rfl | rfl
  · exact absurd hj (by decide)
  · exact absurd hj (by decide)
  · exact absurd hj (by decide)
  · exact absurd hj (by decide)
  · exact absurd hj (by decide)
theorem kd6 : ∀ sh ∈ tx.kb, sh.j = 6 → d6.ps ≠ [] ∧ ∀ (kV doc pm : Value) (an : Option Addr) (cdv ct : Value) (us ws : List Value), us.length = sh.np → ws.length = sh.ks.length → bindArgs (PySem.W.fnOf d6.name d6.name (defArgs d6.st) (defBody d6.st) (defScope d6.st) .none kV doc pm an cdv ct) ⟨us, sh.ks.zip ws⟩ = pure (d6.ps.zip (gP sh.np sh.ks.length sh.perm us ws)) := by
  intro sh hs hj
  have hs2 : sh = ⟨0, 0, [("block" : Str)], [0]⟩ ∨ sh = ⟨6, 0, [("program" : Str)], [0]⟩ ∨ sh = ⟨2, 0, [("ask" : Str), ("program" : Str)], [1, 0]⟩ ∨ sh = ⟨9, 0, [("ask" : Str), ("program" : Str)], [1, 0]⟩ ∨ sh = ⟨7, 0, [("lot" : Str), ("program" : Str)], [1, 0]⟩ := by simpa [tx] using hs
  rcases hs2 with rfl | rfl | rfl | rfl | rfl
  · exact absurd hj (by decide)
  · exact ⟨(by intro z; cases z), fun _ _ _ _ _ _ us ws h1 h2 => match us, ws, h1, h2 with | [], [_], _, _ => rfl⟩
  · exact absurd hj (by decide)
  · exact absurd hj (by decide)
  · exact absurd hj (by decide)
theorem kd7 : ∀ sh ∈ tx.kb, sh.j = 7 → d7.ps ≠ [] ∧ ∀ (kV doc pm : Value) (an : Option Addr) (cdv ct : Value) (us ws : List Value), us.length = sh.np → ws.length = sh.ks.length → bindArgs (PySem.W.fnOf d7.name d7.name (defArgs d7.st) (defBody d7.st) (defScope d7.st) .none kV doc pm an cdv ct) ⟨us, sh.ks.zip ws⟩ = pure (d7.ps.zip (gP sh.np sh.ks.length sh.perm us ws)) := by
  intro sh hs hj
  have hs2 : sh = ⟨0, 0, [("block" : Str)], [0]⟩ ∨ sh = ⟨6, 0, [("program" : Str)], [0]⟩ ∨ sh = ⟨2, 0, [("ask" : Str), ("program" : Str)], [1, 0]⟩ ∨ sh = ⟨9, 0, [("ask" : Str), ("program" : Str)], [1, 0]⟩ ∨ sh = ⟨7, 0, [("lot" : Str), ("program" : Str)], [1, 0]⟩ := by simpa [tx] using hs
  rcases hs2 with rfl | rfl | rfl | rfl | rfl
  · exact absurd hj (by decide)
  · exact absurd hj (by decide)
  · exact absurd hj (by decide)
  · exact absurd hj (by decide)
  · exact ⟨(by intro z; cases z), fun _ _ _ _ _ _ us ws h1 h2 => match us, ws, h1, h2 with | [], [_, _], _, _ => rfl⟩
theorem kd8 : ∀ sh ∈ tx.kb, sh.j = 8 → d8.ps ≠ [] ∧ ∀ (kV doc pm : Value) (an : Option Addr) (cdv ct : Value) (us ws : List Value), us.length = sh.np → ws.length = sh.ks.length → bindArgs (PySem.W.fnOf d8.name d8.name (defArgs d8.st) (defBody d8.st) (defScope d8.st) .none kV doc pm an cdv ct) ⟨us, sh.ks.zip ws⟩ = pure (d8.ps.zip (gP sh.np sh.ks.length sh.perm us ws)) := by
  intro sh hs hj
  have hs2 : sh = ⟨0, 0, [("block" : Str)], [0]⟩ ∨ sh = ⟨6, 0, [("program" : Str)], [0]⟩ ∨ sh = ⟨2, 0, [("ask" : Str), ("program" : Str)], [1, 0]⟩ ∨ sh = ⟨9, 0, [("ask" : Str), ("program" : Str)], [1, 0]⟩ ∨ sh = ⟨7, 0, [("lot" : Str), ("program" : Str)], [1, 0]⟩ := by simpa [tx] using hs
  rcases hs2 with rfl | rfl | rfl | rfl | rfl
  · exact absurd hj (by decide)
  · exact absurd hj (by decide)
  · exact absurd hj (by decide)
  · exact absurd hj (by decide)
  · exact absurd hj (by decide)
theorem kd9 : ∀ sh ∈ tx.kb, sh.j = 9 → d9.ps ≠ [] ∧ ∀ (kV doc pm : Value) (an : Option Addr) (cdv ct : Value) (us ws : List Value), us.length = sh.np → ws.length = sh.ks.length → bindArgs (PySem.W.fnOf d9.name d9.name (defArgs d9.st) (defBody d9.st) (defScope d9.st) .none kV doc pm an cdv ct) ⟨us, sh.ks.zip ws⟩ = pure (d9.ps.zip (gP sh.np sh.ks.length sh.perm us ws)) := by
  intro sh hs hj
  have hs2 : sh = ⟨0, 0, [("block" : Str)], [0]⟩ ∨ sh = ⟨6, 0, [("program" : Str)], [0]⟩ ∨ sh = ⟨2, 0, [("ask" : Str), ("program" : Str)], [1, 0]⟩ ∨ sh = ⟨9, 0, [("ask" : Str), ("program" : Str)], [1, 0]⟩ ∨ sh = ⟨7, 0, [("lot" : Str), ("program" : Str)], [1, 0]⟩ := by simpa [tx] using hs
  rcases hs2 with rfl | rfl | rfl | rfl | rfl
  · exact absurd hj (by decide)
  · exact absurd hj (by decide)
  · exact absurd hj (by decide)
  · exact ⟨(by intro z; cases z), fun _ _ _ _ _ _ us ws h1 h2 => match us, ws, h1, h2 with | [], [_, _], _, _ => rfl⟩
  · exact absurd hj (by decide)
theorem kd10 : ∀ sh ∈ tx.kb, sh.j = 10 → d10.ps ≠ [] ∧ ∀ (kV doc pm : Value) (an : Option Addr) (cdv ct : Value) (us ws : List Value), us.length = sh.np → ws.length = sh.ks.length → bindArgs (PySem.W.fnOf d10.name d10.name (defArgs d10.st) (defBody d10.st) (defScope d10.st) .none kV doc pm an cdv ct) ⟨us, sh.ks.zip ws⟩ = pure (d10.ps.zip (gP sh.np sh.ks.length sh.perm us ws)) := by
  intro sh hs hj
  have hs2 : sh = ⟨0, 0, [("block" : Str)], [0]⟩ ∨ sh = ⟨6, 0, [("program" : Str)], [0]⟩ ∨ sh = ⟨2, 0, [("ask" : Str), ("program" : Str)], [1, 0]⟩ ∨ sh = ⟨9, 0, [("ask" : Str), ("program" : Str)], [1, 0]⟩ ∨ sh = ⟨7, 0, [("lot" : Str), ("program" : Str)], [1, 0]⟩ := by simpa [tx] using hs
  rcases hs2 with rfl | rfl | rfl | rfl | rfl
  · exact absurd hj (by decide)
  · exact absurd hj (by decide)
  · exact absurd hj (by decide)
  · exact absurd hj (by decide)
  · exact absurd hj (by decide)
theorem kd11 : ∀ sh ∈ tx.kb, sh.j = 11 → d11.ps ≠ [] ∧ ∀ (kV doc pm : Value) (an : Option Addr) (cdv ct : Value) (us ws : List Value), us.length = sh.np → ws.length = sh.ks.length → bindArgs (PySem.W.fnOf d11.name d11.name (defArgs d11.st) (defBody d11.st) (defScope d11.st) .none kV doc pm an cdv ct) ⟨us, sh.ks.zip ws⟩ = pure (d11.ps.zip (gP sh.np sh.ks.length sh.perm us ws)) := by
  intro sh hs hj
  have hs2 : sh = ⟨0, 0, [("block" : Str)], [0]⟩ ∨ sh = ⟨6, 0, [("program" : Str)], [0]⟩ ∨ sh = ⟨2, 0, [("ask" : Str), ("program" : Str)], [1, 0]⟩ ∨ sh = ⟨9, 0, [("ask" : Str), ("program" : Str)], [1, 0]⟩ ∨ sh = ⟨7, 0, [("lot" : Str), ("program" : Str)], [1, 0]⟩ := by simpa [tx] using hs
  rcases hs2 with rfl | rfl | rfl | rfl | rfl
  · exact absurd hj (by decide)
  · exact absurd hj (by decide)
  · exact absurd hj (by decide)
  · exact absurd hj (by decide)
  · exact absurd hj (by decide)
theorem kd12 : ∀ sh ∈ tx.kb, sh.j = 12 → d12.ps ≠ [] ∧ ∀ (kV doc pm : Value) (an : Option Addr) (cdv ct : Value) (us ws : List Value), us.length = sh.np → ws.length = sh.ks.length → bindArgs (PySem.W.fnOf d12.name d12.name (defArgs d12.st) (defBody d12.st) (defScope d12.st) .none kV doc pm an cdv ct) ⟨us, sh.ks.zip ws⟩ = pure (d12.ps.zip (gP sh.np sh.ks.length sh.perm us ws)) := by
  intro sh hs hj
  have hs2 : sh = ⟨0, 0, [("block" : Str)], [0]⟩ ∨ sh = ⟨6, 0, [("program" : Str)], [0]⟩ ∨ sh = ⟨2, 0, [("ask" : Str), ("program" : Str)], [1, 0]⟩ ∨ sh = ⟨9, 0, [("ask" : Str), ("program" : Str)], [1, 0]⟩ ∨ sh = ⟨7, 0, [("lot" : Str), ("program" : Str)], [1, 0]⟩ := by simpa [tx] using hs
  rcases hs2 with rfl | rfl | rfl | rfl | rfl
  · exact absurd hj (by decide)
  · exact absurd hj (by decide)
  · exact absurd hj (by decide)
  · exact absurd hj (by decide)
  · exact absurd hj (by decide)
theorem kd13 : ∀ sh ∈ tx.kb, sh.j = 13 → d13.ps ≠ [] ∧ ∀ (kV doc pm : Value) (an : Option Addr) (cdv ct : Value) (us ws : List Value), us.length = sh.np → ws.length = sh.ks.length → bindArgs (PySem.W.fnOf d13.name d13.name (defArgs d13.st) (defBody d13.st) (defScope d13.st) .none kV doc pm an cdv ct) ⟨us, sh.ks.zip ws⟩ = pure (d13.ps.zip (gP sh.np sh.ks.length sh.perm us ws)) := by
  intro sh hs hj
  have hs2 : sh = ⟨0, 0, [("block" : Str)], [0]⟩ ∨ sh = ⟨6, 0, [("program" : Str)], [0]⟩ ∨ sh = ⟨2, 0, [("ask" : Str), ("program" : Str)], [1, 0]⟩ ∨ sh = ⟨9, 0, [("ask" : Str), ("program" : Str)], [1, 0]⟩ ∨ sh = ⟨7, 0, [("lot" : Str), ("program" : Str)], [1, 0]⟩ := by simpa [tx] using hs
  rcases hs2 with rfl | rfl | rfl | rfl | rfl
  · exact absurd hj (by decide)
  · exact absurd hj (by decide)
  · exact absurd hj (by decide)
  · exact absurd hj (by decide)
  · exact absurd hj (by decide)
theorem kd14 : ∀ sh ∈ tx.kb, sh.j = 14 → d14.ps ≠ [] ∧ ∀ (kV doc pm : Value) (an : Option Addr) (cdv ct : Value) (us ws : List Value), us.length = sh.np → ws.length = sh.ks.length → bindArgs (PySem.W.fnOf d14.name d14.name (defArgs d14.st) (defBody d14.st) (defScope d14.st) .none kV doc pm an cdv ct) ⟨us, sh.ks.zip ws⟩ = pure (d14.ps.zip (gP sh.np sh.ks.length sh.perm us ws)) := by
  intro sh hs hj
  have hs2 : sh = ⟨0, 0, [("block" : Str)], [0]⟩ ∨ sh = ⟨6, 0, [("program" : Str)], [0]⟩ ∨ sh = ⟨2, 0, [("ask" : Str), ("program" : Str)], [1, 0]⟩ ∨ sh = ⟨9, 0, [("ask" : Str), ("program" : Str)], [1, 0]⟩ ∨ sh = ⟨7, 0, [("lot" : Str), ("program" : Str)], [1, 0]⟩ := by simpa [tx] using hs
  rcases hs2 with rfl | rfl | rfl | rfl | rfl
  · exact absurd hj (by decide)
  · exact absurd hj (by decide)
  · exact absurd hj (by decide)
  · exact absurd hj (by decide)
  · exact absurd hj (by decide)
theorem kd15 : ∀ sh ∈ tx.kb, sh.j = 15 → d15.ps ≠ [] ∧ ∀ (kV doc pm : Value) (an : Option Addr) (cdv ct : Value) (us ws : List Value), us.length = sh.np → ws.length = sh.ks.length → bindArgs (PySem.W.fnOf d15.name d15.name (defArgs d15.st) (defBody d15.st) (defScope d15.st) .none kV doc pm an cdv ct) ⟨us, sh.ks.zip ws⟩ = pure (d15.ps.zip (gP sh.np sh.ks.length sh.perm us ws)) := by
  intro sh hs hj
  have hs2 : sh = ⟨0, 0, [("block" : Str)], [0]⟩ ∨ sh = ⟨6, 0, [("program" : Str)], [0]⟩ ∨ sh = ⟨2, 0, [("ask" : Str), ("program" : Str)], [1, 0]⟩ ∨ sh = ⟨9, 0, [("ask" : Str), ("program" : Str)], [1, 0]⟩ ∨ sh = ⟨7, 0, [("lot" : Str), ("program" : Str)], [1, 0]⟩ := by simpa [tx] using hs
  rcases hs2 with rfl | rfl | rfl | rfl | rfl
  · exact absurd hj (by decide)
  · exact absurd hj (by decide)
  · exact absurd hj (by decide)
  · exact absurd hj (by decide)
  · exact absurd hj (by decide)
theorem kd16 : ∀ sh ∈ tx.kb, sh.j = 16 → d16.ps ≠ [] ∧ ∀ (kV doc pm : Value) (an : Option Addr) (cdv ct : Value) (us ws : List Value), us.length = sh.np → ws.length = sh.ks.length → bindArgs (PySem.W.fnOf d16.name d16.name (defArgs d16.st) (defBody d16.st) (defScope d16.st) .none kV doc pm an cdv ct) ⟨us, sh.ks.zip ws⟩ = pure (d16.ps.zip (gP sh.np sh.ks.length sh.perm us ws)) := by
  intro sh hs hj
  have hs2 : sh = ⟨0, 0, [("block" : Str)], [0]⟩ ∨ sh = ⟨6, 0, [("program" : Str)], [0]⟩ ∨ sh = ⟨2, 0, [("ask" : Str), ("program" : Str)], [1, 0]⟩ ∨ sh = ⟨9, 0, [("ask" : Str), ("program" : Str)], [1, 0]⟩ ∨ sh = ⟨7, 0, [("lot" : Str), ("program" : Str)], [1, 0]⟩ := by simpa [tx] using hs
  rcases hs2 with rfl | rfl | rfl | rfl | rfl
  · exact absurd hj (by decide)
  · exact absurd hj (by decide)
  · exact absurd hj (by decide)
  · exact absurd hj (by decide)
  · exact absurd hj (by decide)
theorem kd17 : ∀ sh ∈ tx.kb, sh.j = 17 → d17.ps ≠ [] ∧ ∀ (kV doc pm : Value) (an : Option Addr) (cdv ct : Value) (us ws : List Value), us.length = sh.np → ws.length = sh.ks.length → bindArgs (PySem.W.fnOf d17.name d17.name (defArgs d17.st) (defBody d17.st) (defScope d17.st) .none kV doc pm an cdv ct) ⟨us, sh.ks.zip ws⟩ = pure (d17.ps.zip (gP sh.np sh.ks.length sh.perm us ws)) := by
  intro sh hs hj
  have hs2 : sh = ⟨0, 0, [("block" : Str)], [0]⟩ ∨ sh = ⟨6, 0, [("program" : Str)], [0]⟩ ∨ sh = ⟨2, 0, [("ask" : Str), ("program" : Str)], [1, 0]⟩ ∨ sh = ⟨9, 0, [("ask" : Str), ("program" : Str)], [1, 0]⟩ ∨ sh = ⟨7, 0, [("lot" : Str), ("program" : Str)], [1, 0]⟩ := by simpa [tx] using hs
  rcases hs2 with rfl | rfl | rfl | rfl | rfl
  · exact absurd hj (by decide)
  · exact absurd hj (by decide)
  · exact absurd hj (by decide)
  · exact absurd hj (by decide)
  · exact absurd hj (by decide)
theorem kd18 : ∀ sh ∈ tx.kb, sh.j = 18 → d18.ps ≠ [] ∧ ∀ (kV doc pm : Value) (an : Option Addr) (cdv ct : Value) (us ws : List Value), us.length = sh.np → ws.length = sh.ks.length → bindArgs (PySem.W.fnOf d18.name d18.name (defArgs d18.st) (defBody d18.st) (defScope d18.st) .none kV doc pm an cdv ct) ⟨us, sh.ks.zip ws⟩ = pure (d18.ps.zip (gP sh.np sh.ks.length sh.perm us ws)) := by
  intro sh hs hj
  have hs2 : sh = ⟨0, 0, [("block" : Str)], [0]⟩ ∨ sh = ⟨6, 0, [("program" : Str)], [0]⟩ ∨ sh = ⟨2, 0, [("ask" : Str), ("program" : Str)], [1, 0]⟩ ∨ sh = ⟨9, 0, [("ask" : Str), ("program" : Str)], [1, 0]⟩ ∨ sh = ⟨7, 0, [("lot" : Str), ("program" : Str)], [1, 0]⟩ := by simpa [tx] using hs
  rcases hs2 with rfl | rfl | rfl | rfl | rfl
  · exact absurd hj (by decide)
  · exact absurd hj (by decide)
  · exact absurd hj (by decide)
  · exact absurd hj (by decide)
  · exact absurd hj (by decide)
theorem kd19 : ∀ sh ∈ tx.kb, sh.j = 19 → d19.ps ≠ [] ∧ ∀ (kV doc pm : Value) (an : Option Addr) (cdv ct : Value) (us ws : List Value), us.length = sh.np → ws.length = sh.ks.length → bindArgs (PySem.W.fnOf d19.name d19.name (defArgs d19.st) (defBody d19.st) (defScope d19.st) .none kV doc pm an cdv ct) ⟨us, sh.ks.zip ws⟩ = pure (d19.ps.zip (gP sh.np sh.ks.length sh.perm us ws)) := by
  intro sh hs hj
  have hs2 : sh = ⟨0, 0, [("block" : Str)], [0]⟩ ∨ sh = ⟨6, 0, [("program" : Str)], [0]⟩ ∨ sh = ⟨2, 0, [("ask" : Str), ("program" : Str)], [1, 0]⟩ ∨ sh = ⟨9, 0, [("ask" : Str), ("program" : Str)], [1, 0]⟩ ∨ sh = ⟨7, 0, [("lot" : Str), ("program" : Str)], [1, 0]⟩ := by simpa [tx] using hs
  rcases hs2 with rfl | rfl | rfl | rfl | rfl
  · exact absurd hj (by decide)
  · exact absurd hj (by decide)
  · exact absurd hj (by decide)
  · exact absurd hj (by decide)
  · exact absurd hj (by decide)
theorem kd20 : ∀ sh ∈ tx.kb, sh.j = 20 → d20.ps ≠ [] ∧ ∀ (kV doc pm : Value) (an : Option Addr) (cdv ct : Value) (us ws : List Value), us.length = sh.np → ws.length = sh.ks.length → bindArgs (PySem.W.fnOf d20.name d20.name (defArgs d20.st) (defBody d20.st) (defScope d20.st) .none kV doc pm an cdv ct) ⟨us, sh.ks.zip ws⟩ = pure (d20.ps.zip (gP sh.np sh.ks.length sh.perm us ws)) := by
  intro sh hs hj
  have hs2 : sh = ⟨0, 0, [("block" : Str)], [0]⟩ ∨ sh = ⟨6, 0, [("program" : Str)], [0]⟩ ∨ sh = ⟨2, 0, [("ask" : Str), ("program" : Str)], [1, 0]⟩ ∨ sh = ⟨9, 0, [("ask" : Str), ("program" : Str)], [1, 0]⟩ ∨ sh = ⟨7, 0, [("lot" : Str), ("program" : Str)], [1, 0]⟩ := by simpa [tx] using hs
  rcases hs2 with rfl | rfl | rfl | rfl | rfl
  · exact absurd hj (by decide)
  · exact absurd hj (by decide)
  · exact absurd hj (by decide)
  · exact absurd hj (by decide)
  · exact absurd hj (by decide)
theorem kd21 : ∀ sh ∈ tx.kb, sh.j = 21 → d21.ps ≠ [] ∧ ∀ (kV doc pm : Value) (an : Option Addr) (cdv ct : Value) (us ws : List Value), us.length = sh.np → ws.length = sh.ks.length → bindArgs (PySem.W.fnOf d21.name d21.name (defArgs d21.st) (defBody d21.st) (defScope d21.st) .none kV doc pm an cdv ct) ⟨us, sh.ks.zip ws⟩ = pure (d21.ps.zip (gP sh.np sh.ks.length sh.perm us ws)) := by
  intro sh hs hj
  have hs2 : sh = ⟨0, 0, [("block" : Str)], [0]⟩ ∨ sh = ⟨6, 0, [("program" : Str)], [0]⟩ ∨ sh = ⟨2, 0, [("ask" : Str), ("program" : Str)], [1, 0]⟩ ∨ sh = ⟨9, 0, [("ask" : Str), ("program" : Str)], [1, 0]⟩ ∨ sh = ⟨7, 0, [("lot" : Str), ("program" : Str)], [1, 0]⟩ := by simpa [tx] using hs
  rcases hs2 with rfl | rfl | rfl | rfl | rfl
  · exact absurd hj (by decide)
  · exact absurd hj (by decide)
  · exact absurd hj (by decide)
  · exact absurd hj (by decide)
  · exact absurd hj (by decide)
theorem kd22 : ∀ sh ∈ tx.kb, sh.j = 22 → d22.ps ≠ [] ∧ ∀ (kV doc pm : Value) (an : Option Addr) (cdv ct : Value) (us ws : List Value), us.length = sh.np → ws.length = sh.ks.length → bindArgs (PySem.W.fnOf d22.name d22.name (defArgs d22.st) (defBody d22.st) (defScope d22.st) .none kV doc pm an cdv ct) ⟨us, sh.ks.zip ws⟩ = pure (d22.ps.zip (gP sh.np sh.ks.length sh.perm us ws)) := by
  intro sh hs hj
  have hs2 : sh = ⟨0, 0, [("block" : Str)], [0]⟩ ∨ sh = ⟨6, 0, [("program" : Str)], [0]⟩ ∨ sh = ⟨2, 0, [("ask" : Str), ("program" : Str)], [1, 0]⟩ ∨ sh = ⟨9, 0, [("ask" : Str), ("program" : Str)], [1, 0]⟩ ∨ sh = ⟨7, 0, [("lot" : Str), ("program" : Str)], [1, 0]⟩ := by simpa [tx] using hs
  rcases hs2 with rfl | rfl | rfl | rfl | rfl
  · exact absurd hj (by decide)
  · exact absurd hj (by decide)
  · exact absurd hj (by decide)
  · exact absurd hj (by decide)
  · exact absurd hj (by decide)
theorem kd23 : ∀ sh ∈ tx.kb, sh.j = 23 → d23.ps ≠ [] ∧ ∀ (kV doc pm : Value) (an : Option Addr) (cdv ct : Value) (us ws : List Value), us.length = sh.np → ws.length = sh.ks.length → bindArgs (PySem.W.fnOf d23.name d23.name (defArgs d23.st) (defBody d23.st) (defScope d23.st) .none kV doc pm an cdv ct) ⟨us, sh.ks.zip ws⟩ = pure (d23.ps.zip (gP sh.np sh.ks.length sh.perm us ws)) := by
  intro sh hs hj
  have hs2 : sh = ⟨0, 0, [("block" : Str)], [0]⟩ ∨ sh = ⟨6, 0, [("program" : Str)], [0]⟩ ∨ sh = ⟨2, 0, [("ask" : Str), ("program" : Str)], [1, 0]⟩ ∨ sh = ⟨9, 0, [("ask" : Str), ("program" : Str)], [1, 0]⟩ ∨ sh = ⟨7, 0, [("lot" : Str), ("program" : Str)], [1, 0]⟩ := by simpa [tx] using hs
  rcases hs2 with rfl | rfl | rfl | rfl | rfl
  · exact absurd hj (by decide)
  · exact absurd hj (by decide)
  · exact absurd hj (by decide)
  · exact absurd hj (by decide)
  · exact absurd hj (by decide)
theorem kd24 : ∀ sh ∈ tx.kb, sh.j = 24 → d24.ps ≠ [] ∧ ∀ (kV doc pm : Value) (an : Option Addr) (cdv ct : Value) (us ws : List Value), us.length = sh.np → ws.length = sh.ks.length → bindArgs (PySem.W.fnOf d24.name d24.name (defArgs d24.st) (defBody d24.st) (defScope d24.st) .none kV doc pm an cdv ct) ⟨us, sh.ks.zip ws⟩ = pure (d24.ps.zip (gP sh.np sh.ks.length sh.perm us ws)) := by
  intro sh hs hj
  have hs2 : sh = ⟨0, 0, [("block" : Str)], [0]⟩ ∨ sh = ⟨6, 0, [("program" : Str)], [0]⟩ ∨ sh = ⟨2, 0, [("ask" : Str), ("program" : Str)], [1, 0]⟩ ∨ sh = ⟨9, 0, [("ask" : Str), ("program" : Str)], [1, 0]⟩ ∨ sh = ⟨7, 0, [("lot" : Str), ("program" : Str)], [1, 0]⟩ := by simpa [tx] using hs
  rcases hs2 with rfl | rfl | rfl | rfl | rfl
  · exact absurd hj (by decide)
  · exact absurd hj (by decide)
  · exact absurd hj (by decide)
  · exact absurd hj (by decide)
  · exact absurd hj (by decide)
theorem kd25 : ∀ sh ∈ tx.kb, sh.j = 25 → d25.ps ≠ [] ∧ ∀ (kV doc pm : Value) (an : Option Addr) (cdv ct : Value) (us ws : List Value), us.length = sh.np → ws.length = sh.ks.length → bindArgs (PySem.W.fnOf d25.name d25.name (defArgs d25.st) (defBody d25.st) (defScope d25.st) .none kV doc pm an cdv ct) ⟨us, sh.ks.zip ws⟩ = pure (d25.ps.zip (gP sh.np sh.ks.length sh.perm us ws)) := by
  intro sh hs hj
  have hs2 : sh = ⟨0, 0, [("block" : Str)], [0]⟩ ∨ sh = ⟨6, 0, [("program" : Str)], [0]⟩ ∨ sh = ⟨2, 0, [("ask" : Str), ("program" : Str)], [1, 0]⟩ ∨ sh = ⟨9, 0, [("ask" : Str), ("program" : Str)], [1, 0]⟩ ∨ sh = ⟨7, 0, [("lot" : Str), ("program" : Str)], [1, 0]⟩ := by simpa [tx] using hs
  rcases hs2 with rfl | rfl | rfl | rfl | rfl
  · exact absurd hj (by decide)
  · exact absurd hj (by decide)
  · exact absurd hj (by decide)
  · exact absurd hj (by decide)
  · exact absurd hj (by decide)
set_option maxHeartbeats 0 in
theorem allF {w : World} {K : PySem.W.Frag} {h : Heap} {mg : Str → Option Value} {fa : Addr} (X : K.In h) (Gn : h.Ns mainGlobals mg) (hfa : mg ("law" : Str) = some (.ref fa))
    {f0 : Addr} {oc0 : Value} {od0 an0 : Option Addr} {osl0 : Array (Option Value)} {kV0 doc0 pm0 cdv0 ct0 : Value}
    {f1 : Addr} {oc1 : Value} {od1 an1 : Option Addr} {osl1 : Array (Option Value)} {kV1 doc1 pm1 cdv1 ct1 : Value}
    {f2 : Addr} {oc2 : Value} {od2 an2 : Option Addr} {osl2 : Array (Option Value)} {kV2 doc2 pm2 cdv2 ct2 : Value}
    {f3 : Addr} {oc3 : Value} {od3 an3 : Option Addr} {osl3 : Array (Option Value)} {kV3 doc3 pm3 cdv3 ct3 : Value}
    {f4 : Addr} {oc4 : Value} {od4 an4 : Option Addr} {osl4 : Array (Option Value)} {kV4 doc4 pm4 cdv4 ct4 : Value}
    {f5 : Addr} {oc5 : Value} {od5 an5 : Option Addr} {osl5 : Array (Option Value)} {kV5 doc5 pm5 cdv5 ct5 : Value}
    {f6 : Addr} {oc6 : Value} {od6 an6 : Option Addr} {osl6 : Array (Option Value)} {kV6 doc6 pm6 cdv6 ct6 : Value}
    {f7 : Addr} {oc7 : Value} {od7 an7 : Option Addr} {osl7 : Array (Option Value)} {kV7 doc7 pm7 cdv7 ct7 : Value}
    {f8 : Addr} {oc8 : Value} {od8 an8 : Option Addr} {osl8 : Array (Option Value)} {kV8 doc8 pm8 cdv8 ct8 : Value}
    {f9 : Addr} {oc9 : Value} {od9 an9 : Option Addr} {osl9 : Array (Option Value)} {kV9 doc9 pm9 cdv9 ct9 : Value}
    {f10 : Addr} {oc10 : Value} {od10 an10 : Option Addr} {osl10 : Array (Option Value)} {kV10 doc10 pm10 cdv10 ct10 : Value}
    {f11 : Addr} {oc11 : Value} {od11 an11 : Option Addr} {osl11 : Array (Option Value)} {kV11 doc11 pm11 cdv11 ct11 : Value}
    {f12 : Addr} {oc12 : Value} {od12 an12 : Option Addr} {osl12 : Array (Option Value)} {kV12 doc12 pm12 cdv12 ct12 : Value}
    {f13 : Addr} {oc13 : Value} {od13 an13 : Option Addr} {osl13 : Array (Option Value)} {kV13 doc13 pm13 cdv13 ct13 : Value}
    {f14 : Addr} {oc14 : Value} {od14 an14 : Option Addr} {osl14 : Array (Option Value)} {kV14 doc14 pm14 cdv14 ct14 : Value}
    {f15 : Addr} {oc15 : Value} {od15 an15 : Option Addr} {osl15 : Array (Option Value)} {kV15 doc15 pm15 cdv15 ct15 : Value}
    {f16 : Addr} {oc16 : Value} {od16 an16 : Option Addr} {osl16 : Array (Option Value)} {kV16 doc16 pm16 cdv16 ct16 : Value}
    {f17 : Addr} {oc17 : Value} {od17 an17 : Option Addr} {osl17 : Array (Option Value)} {kV17 doc17 pm17 cdv17 ct17 : Value}
    {f18 : Addr} {oc18 : Value} {od18 an18 : Option Addr} {osl18 : Array (Option Value)} {kV18 doc18 pm18 cdv18 ct18 : Value}
    {f19 : Addr} {oc19 : Value} {od19 an19 : Option Addr} {osl19 : Array (Option Value)} {kV19 doc19 pm19 cdv19 ct19 : Value}
    {f20 : Addr} {oc20 : Value} {od20 an20 : Option Addr} {osl20 : Array (Option Value)} {kV20 doc20 pm20 cdv20 ct20 : Value}
    {f21 : Addr} {oc21 : Value} {od21 an21 : Option Addr} {osl21 : Array (Option Value)} {kV21 doc21 pm21 cdv21 ct21 : Value}
    {f22 : Addr} {oc22 : Value} {od22 an22 : Option Addr} {osl22 : Array (Option Value)} {kV22 doc22 pm22 cdv22 ct22 : Value}
    {f23 : Addr} {oc23 : Value} {od23 an23 : Option Addr} {osl23 : Array (Option Value)} {kV23 doc23 pm23 cdv23 ct23 : Value}
    {f24 : Addr} {oc24 : Value} {od24 an24 : Option Addr} {osl24 : Array (Option Value)} {kV24 doc24 pm24 cdv24 ct24 : Value}
    {f25 : Addr} {oc25 : Value} {od25 an25 : Option Addr} {osl25 : Array (Option Value)} {kV25 doc25 pm25 cdv25 ct25 : Value}
    (a0 : PySem.W.nsIn K mainGlobals d0.name = some (some (.ref f0))) (l0 : K.lookup f0 = some ⟨oc0, od0, .func (PySem.W.fnOf d0.name d0.name (defArgs d0.st) (defBody d0.st) (defScope d0.st) .none kV0 doc0 pm0 an0 cdv0 ct0), osl0⟩) (c0 : PySem.W.codeIn K cdv0 d0.name = true) (k0 : PySem.W.keepIn K (.ref f0) = true)
    (a1 : PySem.W.nsIn K mainGlobals d1.name = some (some (.ref f1))) (l1 : K.lookup f1 = some ⟨oc1, od1, .func (PySem.W.fnOf d1.name d1.name (defArgs d1.st) (defBody d1.st) (defScope d1.st) .none kV1 doc1 pm1 an1 cdv1 ct1), osl1⟩) (c1 : PySem.W.codeIn K cdv1 d1.name = true) (k1 : PySem.W.keepIn K (.ref f1) = true)
    (a2 : PySem.W.nsIn K mainGlobals d2.name = some (some (.ref f2))) (l2 : K.lookup f2 = some ⟨oc2, od2, .func (PySem.W.fnOf d2.name d2.name (defArgs d2.st) (defBody d2.st) (defScope d2.st) .none kV2 doc2 pm2 an2 cdv2 ct2), osl2⟩) (c2 : PySem.W.codeIn K cdv2 d2.name = true) (k2 : PySem.W.keepIn K (.ref f2) = true)
    (a3 : PySem.W.nsIn K mainGlobals d3.name = some (some (.ref f3))) (l3 : K.lookup f3 = some ⟨oc3, od3, .func (PySem.W.fnOf d3.name d3.name (defArgs d3.st) (defBody d3.st) (defScope d3.st) .none kV3 doc3 pm3 an3 cdv3 ct3), osl3⟩) (c3 : PySem.W.codeIn K cdv3 d3.name = true) (k3 : PySem.W.keepIn K (.ref f3) = true)
    (a4 : PySem.W.nsIn K mainGlobals d4.name = some (some (.ref f4))) (l4 : K.lookup f4 = some ⟨oc4, od4, .func (PySem.W.fnOf d4.name d4.name (defArgs d4.st) (defBody d4.st) (defScope d4.st) .none kV4 doc4 pm4 an4 cdv4 ct4), osl4⟩) (c4 : PySem.W.codeIn K cdv4 d4.name = true) (k4 : PySem.W.keepIn K (.ref f4) = true)
    (a5 : PySem.W.nsIn K mainGlobals d5.name = some (some (.ref f5))) (l5 : K.lookup f5 = some ⟨oc5, od5, .func (PySem.W.fnOf d5.name d5.name (defArgs d5.st) (defBody d5.st) (defScope d5.st) .none kV5 doc5 pm5 an5 cdv5 ct5), osl5⟩) (c5 : PySem.W.codeIn K cdv5 d5.name = true) (k5 : PySem.W.keepIn K (.ref f5) = true)
    (a6 : PySem.W.nsIn K mainGlobals d6.name = some (some (.ref f6))) (l6 : K.lookup f6 = some ⟨oc6, od6, .func (PySem.W.fnOf d6.name d6.name (defArgs d6.st) (defBody d6.st) (defScope d6.st) .none kV6 doc6 pm6 an6 cdv6 ct6), osl6⟩) (c6 : PySem.W.codeIn K cdv6 d6.name = true) (k6 : PySem.W.keepIn K (.ref f6) = true)
    (a7 : PySem.W.nsIn K mainGlobals d7.name = some (some (.ref f7))) (l7 : K.lookup f7 = some ⟨oc7, od7, .func (PySem.W.fnOf d7.name d7.name (defArgs d7.st) (defBody d7.st) (defScope d7.st) .none kV7 doc7 pm7 an7 cdv7 ct7), osl7⟩) (c7 : PySem.W.codeIn K cdv7 d7.name = true) (k7 : PySem.W.keepIn K (.ref f7) = true)
    (a8 : PySem.W.nsIn K mainGlobals d8.name = some (some (.ref f8))) (l8 : K.lookup f8 = some ⟨oc8, od8, .func (PySem.W.fnOf d8.name d8.name (defArgs d8.st) (defBody d8.st) (defScope d8.st) .none kV8 doc8 pm8 an8 cdv8 ct8), osl8⟩) (c8 : PySem.W.codeIn K cdv8 d8.name = true) (k8 : PySem.W.keepIn K (.ref f8) = true)
    (a9 : PySem.W.nsIn K mainGlobals d9.name = some (some (.ref f9))) (l9 : K.lookup f9 = some ⟨oc9, od9, .func (PySem.W.fnOf d9.name d9.name (defArgs d9.st) (defBody d9.st) (defScope d9.st) .none kV9 doc9 pm9 an9 cdv9 ct9), osl9⟩) (c9 : PySem.W.codeIn K cdv9 d9.name = true) (k9 : PySem.W.keepIn K (.ref f9) = true)
    (a10 : PySem.W.nsIn K mainGlobals d10.name = some (some (.ref f10))) (l10 : K.lookup f10 = some ⟨oc10, od10, .func (PySem.W.fnOf d10.name d10.name (defArgs d10.st) (defBody d10.st) (defScope d10.st) .none kV10 doc10 pm10 an10 cdv10 ct10), osl10⟩) (c10 : PySem.W.codeIn K cdv10 d10.name = true) (k10 : PySem.W.keepIn K (.ref f10) = true)
    (a11 : PySem.W.nsIn K mainGlobals d11.name = some (some (.ref f11))) (l11 : K.lookup f11 = some ⟨oc11, od11, .func (PySem.W.fnOf d11.name d11.name (defArgs d11.st) (defBody d11.st) (defScope d11.st) .none kV11 doc11 pm11 an11 cdv11 ct11), osl11⟩) (c11 : PySem.W.codeIn K cdv11 d11.name = true) (k11 : PySem.W.keepIn K (.ref f11) = true)
    (a12 : PySem.W.nsIn K mainGlobals d12.name = some (some (.ref f12))) (l12 : K.lookup f12 = some ⟨oc12, od12, .func (PySem.W.fnOf d12.name d12.name (defArgs d12.st) (defBody d12.st) (defScope d12.st) .none kV12 doc12 pm12 an12 cdv12 ct12), osl12⟩) (c12 : PySem.W.codeIn K cdv12 d12.name = true) (k12 : PySem.W.keepIn K (.ref f12) = true)
    (a13 : PySem.W.nsIn K mainGlobals d13.name = some (some (.ref f13))) (l13 : K.lookup f13 = some ⟨oc13, od13, .func (PySem.W.fnOf d13.name d13.name (defArgs d13.st) (defBody d13.st) (defScope d13.st) .none kV13 doc13 pm13 an13 cdv13 ct13), osl13⟩) (c13 : PySem.W.codeIn K cdv13 d13.name = true) (k13 : PySem.W.keepIn K (.ref f13) = true)
    (a14 : PySem.W.nsIn K mainGlobals d14.name = some (some (.ref f14))) (l14 : K.lookup f14 = some ⟨oc14, od14, .func (PySem.W.fnOf d14.name d14.name (defArgs d14.st) (defBody d14.st) (defScope d14.st) .none kV14 doc14 pm14 an14 cdv14 ct14), osl14⟩) (c14 : PySem.W.codeIn K cdv14 d14.name = true) (k14 : PySem.W.keepIn K (.ref f14) = true)
    (a15 : PySem.W.nsIn K mainGlobals d15.name = some (some (.ref f15))) (l15 : K.lookup f15 = some ⟨oc15, od15, .func (PySem.W.fnOf d15.name d15.name (defArgs d15.st) (defBody d15.st) (defScope d15.st) .none kV15 doc15 pm15 an15 cdv15 ct15), osl15⟩) (c15 : PySem.W.codeIn K cdv15 d15.name = true) (k15 : PySem.W.keepIn K (.ref f15) = true)
    (a16 : PySem.W.nsIn K mainGlobals d16.name = some (some (.ref f16))) (l16 : K.lookup f16 = some ⟨oc16, od16, .func (PySem.W.fnOf d16.name d16.name (defArgs d16.st) (defBody d16.st) (defScope d16.st) .none kV16 doc16 pm16 an16 cdv16 ct16), osl16⟩) (c16 : PySem.W.codeIn K cdv16 d16.name = true) (k16 : PySem.W.keepIn K (.ref f16) = true)
    (a17 : PySem.W.nsIn K mainGlobals d17.name = some (some (.ref f17))) (l17 : K.lookup f17 = some ⟨oc17, od17, .func (PySem.W.fnOf d17.name d17.name (defArgs d17.st) (defBody d17.st) (defScope d17.st) .none kV17 doc17 pm17 an17 cdv17 ct17), osl17⟩) (c17 : PySem.W.codeIn K cdv17 d17.name = true) (k17 : PySem.W.keepIn K (.ref f17) = true)
    (a18 : PySem.W.nsIn K mainGlobals d18.name = some (some (.ref f18))) (l18 : K.lookup f18 = some ⟨oc18, od18, .func (PySem.W.fnOf d18.name d18.name (defArgs d18.st) (defBody d18.st) (defScope d18.st) .none kV18 doc18 pm18 an18 cdv18 ct18), osl18⟩) (c18 : PySem.W.codeIn K cdv18 d18.name = true) (k18 : PySem.W.keepIn K (.ref f18) = true)
    (a19 : PySem.W.nsIn K mainGlobals d19.name = some (some (.ref f19))) (l19 : K.lookup f19 = some ⟨oc19, od19, .func (PySem.W.fnOf d19.name d19.name (defArgs d19.st) (defBody d19.st) (defScope d19.st) .none kV19 doc19 pm19 an19 cdv19 ct19), osl19⟩) (c19 : PySem.W.codeIn K cdv19 d19.name = true) (k19 : PySem.W.keepIn K (.ref f19) = true)
    (a20 : PySem.W.nsIn K mainGlobals d20.name = some (some (.ref f20))) (l20 : K.lookup f20 = some ⟨oc20, od20, .func (PySem.W.fnOf d20.name d20.name (defArgs d20.st) (defBody d20.st) (defScope d20.st) .none kV20 doc20 pm20 an20 cdv20 ct20), osl20⟩) (c20 : PySem.W.codeIn K cdv20 d20.name = true) (k20 : PySem.W.keepIn K (.ref f20) = true)
    (a21 : PySem.W.nsIn K mainGlobals d21.name = some (some (.ref f21))) (l21 : K.lookup f21 = some ⟨oc21, od21, .func (PySem.W.fnOf d21.name d21.name (defArgs d21.st) (defBody d21.st) (defScope d21.st) .none kV21 doc21 pm21 an21 cdv21 ct21), osl21⟩) (c21 : PySem.W.codeIn K cdv21 d21.name = true) (k21 : PySem.W.keepIn K (.ref f21) = true)
    (a22 : PySem.W.nsIn K mainGlobals d22.name = some (some (.ref f22))) (l22 : K.lookup f22 = some ⟨oc22, od22, .func (PySem.W.fnOf d22.name d22.name (defArgs d22.st) (defBody d22.st) (defScope d22.st) .none kV22 doc22 pm22 an22 cdv22 ct22), osl22⟩) (c22 : PySem.W.codeIn K cdv22 d22.name = true) (k22 : PySem.W.keepIn K (.ref f22) = true)
    (a23 : PySem.W.nsIn K mainGlobals d23.name = some (some (.ref f23))) (l23 : K.lookup f23 = some ⟨oc23, od23, .func (PySem.W.fnOf d23.name d23.name (defArgs d23.st) (defBody d23.st) (defScope d23.st) .none kV23 doc23 pm23 an23 cdv23 ct23), osl23⟩) (c23 : PySem.W.codeIn K cdv23 d23.name = true) (k23 : PySem.W.keepIn K (.ref f23) = true)
    (a24 : PySem.W.nsIn K mainGlobals d24.name = some (some (.ref f24))) (l24 : K.lookup f24 = some ⟨oc24, od24, .func (PySem.W.fnOf d24.name d24.name (defArgs d24.st) (defBody d24.st) (defScope d24.st) .none kV24 doc24 pm24 an24 cdv24 ct24), osl24⟩) (c24 : PySem.W.codeIn K cdv24 d24.name = true) (k24 : PySem.W.keepIn K (.ref f24) = true)
    (a25 : PySem.W.nsIn K mainGlobals d25.name = some (some (.ref f25))) (l25 : K.lookup f25 = some ⟨oc25, od25, .func (PySem.W.fnOf d25.name d25.name (defArgs d25.st) (defBody d25.st) (defScope d25.st) .none kV25 doc25 pm25 an25 cdv25 ct25), osl25⟩) (c25 : PySem.W.codeIn K cdv25 d25.name = true) (k25 : PySem.W.keepIn K (.ref f25) = true)
    (z0 : PySem.W.nsIn K mainGlobals ("abs" : Str) = some none)
    (z1 : PySem.W.nsIn K mainGlobals ("bool" : Str) = some none)
    (z2 : PySem.W.nsIn K mainGlobals ("dict" : Str) = some none)
    (z3 : PySem.W.nsIn K mainGlobals ("int" : Str) = some none)
    (z4 : PySem.W.nsIn K mainGlobals ("isinstance" : Str) = some none)
    (z5 : PySem.W.nsIn K mainGlobals ("len" : Str) = some none)
    (z6 : PySem.W.nsIn K mainGlobals ("list" : Str) = some none)
    (z7 : PySem.W.nsIn K mainGlobals ("max" : Str) = some none)
    (z8 : PySem.W.nsIn K mainGlobals ("min" : Str) = some none)
    (z9 : PySem.W.nsIn K mainGlobals ("range" : Str) = some none)
    (z10 : PySem.W.nsIn K mainGlobals ("sorted" : Str) = some none)
    (z11 : PySem.W.nsIn K mainGlobals ("str" : Str) = some none)
    (z12 : PySem.W.nsIn K mainGlobals ("tuple" : Str) = some none) :
    ∃ fd : FuncData, (∀ (s : Shared) (v : Value), BindsTo s fd ⟨[v], []⟩ [("script", v)]) ∧ ∀ base : Heap, K.In base → base.Ns mainGlobals mg → FnOk PySem.Challenge.pw_mustleave_k06_programtools w K mg base (L2.CX PySem.Challenge.pw_mustleave_k06_programtools w) 42 fa fd ["script"] (spC ⟨⟨K, PySem.Challenge.pw_mustleave_k06_programtools, w⟩, fun _ => 0⟩ (callAt Gc tx.T 42) 25) := by
  have hst : ∀ (j : Nat) (d : Df), tx.ds[j]? = some d → Stands K mg tx j d := by
    intro j d hd
    match j, hd with
    | 0, hd => cases (Option.some.inj hd : d0 = d); exact stands_mk X Gn a0 l0 c0 k0 bd0 kd0
    | 1, hd => cases (Option.some.inj hd : d1 = d); exact stands_mk X Gn a1 l1 c1 k1 bd1 kd1
    | 2, hd => cases (Option.some.inj hd : d2 = d); exact stands_mk X Gn a2 l2 c2 k2 bd2 kd2
    | 3, hd => cases (Option.some.inj hd : d3 = d); exact stands_mk X Gn a3 l3 c3 k3 bd3 kd3
    | 4, hd => cases (Option.some.inj hd : d4 = d); exact stands_mk X Gn a4 l4 c4 k4 bd4 kd4
    | 5, hd => cases (Option.some.inj hd : d5 = d); exact stands_mk X Gn a5 l5 c5 k5 bd5 kd5
    | 6, hd => cases (Option.some.inj hd : d6 = d); exact stands_mk X Gn a6 l6 c6 k6 bd6 kd6
    | 7, hd => cases (Option.some.inj hd : d7 = d); exact stands_mk X Gn a7 l7 c7 k7 bd7 kd7
    | 8, hd => cases (Option.some.inj hd : d8 = d); exact stands_mk X Gn a8 l8 c8 k8 bd8 kd8
    | 9, hd => cases (Option.some.inj hd : d9 = d); exact stands_mk X Gn a9 l9 c9 k9 bd9 kd9
    | 10, hd => cases (Option.some.inj hd : d10 = d); exact stands_mk X Gn a10 l10 c10 k10 bd10 kd10
    | 11, hd => cases (Option.some.inj hd : d11 = d); exact stands_mk X Gn a11 l11 c11 k11 bd11 kd11
    | 12, hd => cases (Option.some.inj hd : d12 = d); exact stands_mk X Gn a12 l12 c12 k12 bd12 kd12
    | 13, hd => cases (Option.some.inj hd : d13 = d); exact stands_mk X Gn a13 l13 c13 k13 bd13 kd13
    | 14, hd => cases (Option.some.inj hd : d14 = d); exact stands_mk X Gn a14 l14 c14 k14 bd14 kd14
    | 15, hd => cases (Option.some.inj hd : d15 = d); exact stands_mk X Gn a15 l15 c15 k15 bd15 kd15
    | 16, hd => cases (Option.some.inj hd : d16 = d); exact stands_mk X Gn a16 l16 c16 k16 bd16 kd16
    | 17, hd => cases (Option.some.inj hd : d17 = d); exact stands_mk X Gn a17 l17 c17 k17 bd17 kd17
    | 18, hd => cases (Option.some.inj hd : d18 = d); exact stands_mk X Gn a18 l18 c18 k18 bd18 kd18
    | 19, hd => cases (Option.some.inj hd : d19 = d); exact stands_mk X Gn a19 l19 c19 k19 bd19 kd19
    | 20, hd => cases (Option.some.inj hd : d20 = d); exact stands_mk X Gn a20 l20 c20 k20 bd20 kd20
    | 21, hd => cases (Option.some.inj hd : d21 = d); exact stands_mk X Gn a21 l21 c21 k21 bd21 kd21
    | 22, hd => cases (Option.some.inj hd : d22 = d); exact stands_mk X Gn a22 l22 c22 k22 bd22 kd22
    | 23, hd => cases (Option.some.inj hd : d23 = d); exact stands_mk X Gn a23 l23 c23 k23 bd23 kd23
    | 24, hd => cases (Option.some.inj hd : d24 = d); exact stands_mk X Gn a24 l24 c24 k24 bd24 kd24
    | 25, hd => cases (Option.some.inj hd : d25 = d); exact stands_mk X Gn a25 l25 c25 k25 bd25 kd25
    | n + 26, hd => cases (show (none : Option Df) = some d from hd)
  have hbl : ∀ x ∈ tx.bl, mg x = none := by
    intro x hx
    have hx2 : x = ("abs" : Str) ∨ x = ("bool" : Str) ∨ x = ("dict" : Str) ∨ x = ("int" : Str) ∨ x = ("isinstance" : Str) ∨ x = ("len" : Str) ∨ x = ("list" : Str) ∨ x = ("max" : Str) ∨ x = ("min" : Str) ∨ x = ("range" : Str) ∨ x = ("sorted" : Str) ∨ x = ("str" : Str) ∨ x = ("tuple" : Str) := by simpa [tx] using hx
    rcases hx2 with rfl | rfl | rfl | rfl | rfl | rfl | rfl | rfl | rfl | rfl | rfl | rfl | rfl
    · exact PySem.W.mg_none_of X Gn z0
    · exact PySem.W.mg_none_of X Gn z1
    · exact PySem.W.mg_none_of X Gn z2
    · exact PySem.W.mg_none_of X Gn z3
    · exact PySem.W.mg_none_of X Gn z4
    · exact PySem.W.mg_none_of X Gn z5
    · exact PySem.W.mg_none_of X Gn z6
    · exact PySem.W.mg_none_of X Gn z7
    · exact PySem.W.mg_none_of X Gn z8
    · exact PySem.W.mg_none_of X Gn z9
    · exact PySem.W.mg_none_of X Gn z10
    · exact PySem.W.mg_none_of X Gn z11
    · exact PySem.W.mg_none_of X Gn z12
  have hgv : ∀ (g : Nat) (x : Str), tx.gl[g]? = some x → ∃ v u d, mg x = some u ∧ RelV v u ∧ Gc g = some d ∧ ∀ H av, R (Kf.mk K PySem.Challenge.pw_mustleave_k06_programtools w) H av d v := by
    intro g x hx
    match g, hx with
    | n + 0, hx => cases (show (none : Option Str) = some x from hx)
  exact law_F (n := 100) (t := tx) (k := ⟨⟨K, PySem.Challenge.pw_mustleave_k06_programtools, w⟩, fun _ => 0⟩) (G := Gc) 42 25 (d := d25) rfl rfl rfl chk hst hbl hgv rfl rfl hfa (fun _ _ _ _ _ _ _ _ => .of_eq rfl)
end Mp.k06
open PySem PySem.W PyProof.Rows
set_option maxHeartbeats 0 in
theorem PySem.Challenge.cw_mustleave_k06_programtools_holds : PySem.Challenge.rw_mustleave_k06_programtools.Holds := by
  w_on; o_law; k_head; (case hw => w_witness2)
  k_fill
  refine L2.walk_of (l := PySem.Challenge.rw_mustleave_k06_programtools) (n := 63) (k := 42) (x := "script") (CX := fun w => L2.CX PySem.Challenge.pw_mustleave_k06_programtools w) (sp := fun w => Mp.spC ⟨⟨_, PySem.Challenge.pw_mustleave_k06_programtools, w⟩, fun _ => 0⟩ (Mp.callAt Mp.k06.Gc Mp.k06.tx.T 42) 25) rfl (by decide) rfl ⟨rfl, by decide, by decide⟩ (fun w h Y => PySem.W.kIn_of Y) ?F (fun _ _ a ns hl hO hS => Mp.law_hsp (k := ⟨⟨_, _, _⟩, _⟩) hO hS (Mp.k06.law_true ns hl)) (fun _ H s e s2 hx => Mp.law_hcx H s e s2 hx)
  case F =>
    intro w mg fa h KX G hmg
    refine' Mp.k06.allF KX G hmg ?Ja0 ?Jl0 ?Jc0 ?Jk0 ?Ja1 ?Jl1 ?Jc1 ?Jk1 ?Ja2 ?Jl2 ?Jc2 ?Jk2 ?Ja3 ?Jl3 ?Jc3 ?Jk3 ?Ja4 ?Jl4 ?Jc4 ?Jk4 ?Ja5 ?Jl5 ?Jc5 ?Jk5 ?Ja6 ?Jl6 ?Jc6 ?Jk6 ?Ja7 ?Jl7 ?Jc7 ?Jk7 ?Ja8 ?Jl8 ?Jc8 ?Jk8 ?Ja9 ?Jl9 ?Jc9 ?Jk9 ?Ja10 ?Jl10 ?Jc10 ?Jk10 ?Ja11 ?Jl11 ?Jc11 ?Jk11 ?Ja12 ?Jl12 ?Jc12 ?Jk12 ?Ja13 ?Jl13 ?Jc13 ?Jk13 ?Ja14 ?Jl14 ?Jc14 ?Jk14 ?Ja15 ?Jl15 ?Jc15 ?Jk15 ?Ja16 ?Jl16 ?Jc16 ?Jk16 ?Ja17 ?Jl17 ?Jc17 ?Jk17 ?Ja18 ?Jl18 ?Jc18 ?Jk18 ?Ja19 ?Jl19 ?Jc19 ?Jk19 ?Ja20 ?Jl20 ?Jc20 ?Jk20 ?Ja21 ?Jl21 ?Jc21 ?Jk21 ?Ja22 ?Jl22 ?Jc22 ?Jk22 ?Ja23 ?Jl23 ?Jc23 ?Jk23 ?Ja24 ?Jl24 ?Jc24 ?Jk24 ?Ja25 ?Jl25 ?Jc25 ?Jk25 ?Jz0 ?Jz1 ?Jz2 ?Jz3 ?Jz4 ?Jz5 ?Jz6 ?Jz7 ?Jz8 ?Jz9 ?Jz10 ?Jz11 ?Jz12
    (case Ja0 => k_is); (case Jl0 => k_is); (case Jc0 => k_is); (case Jk0 => k_is); (case Ja1 => k_is); (case Jl1 => k_is); (case Jc1 => k_is); (case Jk1 => k_is); (case Ja2 => k_is); (case Jl2 => k_is); (case Jc2 => k_is); (case Jk2 => k_is); (case Ja3 => k_is); (case Jl3 => k_is); (case Jc3 => k_is); (case Jk3 => k_is); (case Ja4 => k_is); (case Jl4 => k_is); (case Jc4 => k_is); (case Jk4 => k_is); (case Ja5 => k_is); (case Jl5 => k_is); (case Jc5 => k_is); (case Jk5 => k_is); (case Ja6 => k_is); (case Jl6 => k_is); (case Jc6 => k_is); (case Jk6 => k_is); (case Ja7 => k_is); (case Jl7 => k_is); (case Jc7 => k_is); (case Jk7 => k_is); (case Ja8 => k_is); (case Jl8 => k_is); (case Jc8 => k_is); (case Jk8 => k_is); (case Ja9 => k_is); (case Jl9 => k_is); (case Jc9 => k_is); (case Jk9 => k_is); (case Ja10 => k_is); (case Jl10 => k_is); (case Jc10 => k_is); (case Jk10 => k_is); (case Ja11 => k_is); (case Jl11 => k_is); (case Jc11 => k_is); (case Jk11 => k_is); (case Ja12 => k_is); (case Jl12 => k_is); (case Jc12 => k_is); (case Jk12 => k_is); (case Ja13 => k_is); (case Jl13 => k_is); (case Jc13 => k_is); (case Jk13 => k_is); (case Ja14 => k_is); (case Jl14 => k_is); (case Jc14 => k_is); (case Jk14 => k_is); (case Ja15 => k_is); (case Jl15 => k_is); (case Jc15 => k_is); (case Jk15 => k_is); (case Ja16 => k_is); (case Jl16 => k_is); (case Jc16 => k_is); (case Jk16 => k_is); (case Ja17 => k_is); (case Jl17 => k_is); (case Jc17 => k_is); (case Jk17 => k_is); (case Ja18 => k_is); (case Jl18 => k_is); (case Jc18 => k_is); (case Jk18 => k_is); (case Ja19 => k_is); (case Jl19 => k_is); (case Jc19 => k_is); (case Jk19 => k_is); (case Ja20 => k_is); (case Jl20 => k_is); (case Jc20 => k_is); (case Jk20 => k_is); (case Ja21 => k_is); (case Jl21 => k_is); (case Jc21 => k_is); (case Jk21 => k_is); (case Ja22 => k_is); (case Jl22 => k_is); (case Jc22 => k_is); (case Jk22 => k_is); (case Ja23 => k_is); (case Jl23 => k_is); (case Jc23 => k_is); (case Jk23 => k_is); (case Ja24 => k_is); (case Jl24 => k_is); (case Jc24 => k_is); (case Jk24 => k_is); (case Ja25 => k_is); (case Jl25 => k_is); (case Jc25 => k_is); (case Jk25 => k_is); (case Jz0 => k_is); (case Jz1 => k_is); (case Jz2 => k_is); (case Jz3 => k_is); (case Jz4 => k_is); (case Jz5 => k_is); (case Jz6 => k_is); (case Jz7 => k_is); (case Jz8 => k_is); (case Jz9 => k_is); (case Jz10 => k_is); (case Jz11 => k_is); (case Jz12 => k_is)
end
