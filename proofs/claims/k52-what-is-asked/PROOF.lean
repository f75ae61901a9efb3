import PyProof.Rows.All
import PyProof.ReprReads
import PyProof.P3Statements
import KE.DataEq
import KE.DataIsa
import HandS.ForMost
import HandS.Text
import HandS.Lambda
import HandS.TupMul
import HandS.TupAny
import HandS.TupLe
import HandS.Style
import HandS.IsInst
import HandS.Zip
import HandS.Flow
import HandS.RaiseMore
import HandS.Walk
import KE.DataFind
import KE.DataAny
import KE.GoesMore
import PyProof.EnumMake
import PyProof.WalksMore
import KE.KIndexOf
import HandS.Strs
import HandS.ExcOwn
import HandS.Ends
import HandS.Words
import HandS.WordsExc
import HandS.TryMany
import HandS.SortInts
import KE.KRevSl
import HandS.Star
import HandS.Conv
import KE.GoesZip
import HandS.NoneIn
import KE.KAssignIn
import PyProof.SeqIndex
import HandS.HotCalls
import HandS.ExcIs
import KE.KNestM
import HandS.EndBits
import HandS.DictComp
import PySem.Challenge.RW_comesback_k52_what_is_asked
import PyProof.ReprLen
set_option Elab.async false
set_option linter.all false
/-! Mi: a small syntax without positions, and its interpreter over plain data. -/
namespace Mi
open PySem

inductive D where
  | p (x : PyData)
  | ref (i : Nat)
  | scr (ns : List Int)
/-- what a cell of fixed places holds: data; or the object of the cell that stands k + 1 below -/
inductive FK where
  | d (x : PyData)
  | s (k : Nat)
/-- lst: a list; hdr: a list of fixed places (c = 0) or an instance of the class at c - 1; dct: a dict -/
inductive MO where
  | lst (xs : List PyData)
  | dead
  | hdr (c : Nat) (ks : List (Str × FK))
  | dct (kvs : List (PyData × PyData))
abbrev Mem := List MO
abbrev Env := List (Option D)
inductive Res (α : Type) where
  | ok (a : α) (m : Mem)
  | exc (c : Nat) (m : Mem)
  | bad
def Res.bind {α β : Type} (r : Res α) (f : α → Mem → Res β) : Res β :=
  match r with
  | .ok a m => f a m
  | .exc c m => .exc c m
  | .bad => .bad
/-- an exception is no end here -/
def Res.tame {α : Type} (r : Res α) : Res α := match r with
  | .ok a M => .ok a M
  | .exc _ _ => .bad
  | .bad => .bad
def Res.onto {α β : Type} (r : Res α) (f : α → Mem → Res β) (g : Nat → Mem → Res β) : Res β :=
  match r with
  | .ok a m => f a m
  | .exc c m => g c m
  | .bad => .bad
inductive BOp where | add | sub | mul | fdiv | mod | pow
inductive COp where | eq | ne | lt | le | gt | ge | is | isnot | isin | notin
inductive Ty where | int | bool | str | tuple | list | dict
inductive TM where | join | split | part | tidx | cnt | upp
inductive BF where | len | min | max | abs | sum | all | any | tuple | list (mt : Bool) | repr | str | isi (t : Ty) | sorted (mt : Bool)
inductive MF where | append | count | index | pop
inductive Tg where
  | nm (i : Nat)
  | tp (is : List Nat)
mutual
inductive CE where
  | var (i : Nat)
  | cst (x : PyData)
  | bin (op : BOp) (mt : Bool) (a b : CE)
  | neg (a : CE)
  | not (a : CE)
  | cmp (op : COp) (a b : CE)
  | chn (op op' : COp) (a b c : CE)
  | and (a b : CE)
  | or (a b : CE)
  | ife (c a b : CE)
  | tup (es : CEs)
  | tst (a : CE) (es : CEs)
  | txm (m : TM) (o e : CE)
  | dgt (d a b : CE)
  | nat (n : Nat) (es : CEs)
  | lst (mt : Bool) (es : CEs)
  | dct (ks vs : CEs)
  | idx (a i : CE)
  | slc (mt : Bool) (a : CE) (lo hi : CEo)
  | rev (mt : Bool) (a : CE)
  | call (f : Nat) (es : CEs)
  | said (f : Nat) (es : CEs)
  | blt (b : BF) (es : CEs)
  | mth (m : MF) (o : CE) (es : CEs)
  | comp (mt : Bool) (ws : List Nat) (t : Tg) (it : CI) (c : CEo) (e : CE)
  | box (e : CE) (m : Nat)
  | fld (c : Nat) (x : Str) (o : CE)
  | mcl (c : Nat) (x : Str) (f : Nat) (o : CE) (es : CEs)
  | mk (n c : Nat) (es : CEs)
inductive CEs where
  | nil
  | cons (e : CE) (es : CEs)
inductive CEo where
  | no
  | yes (e : CE)
inductive CI where
  | seq (e : CE)
  | rng (a : CE)
  | rng2 (a b : CE)
  | enum (e : CE)
  | zip (a b : CE)
  | zip3 (a b c : CE)
end
mutual
inductive CS where
  | expr (e : CE)
  | asg (t : Tg) (e : CE)
  | par (is : List Nat) (es : CEs)
  | sub (o i v : CE)
  | sb2 (n : Nat) (i j : Int) (es : CEs)
  | ret (e : CE)
  | retN
  | ife (c : CE) (a b : CSs)
  | loop (t : Tg) (it : CI) (b : CSs)
  | whl (c : CE) (b : CSs)
  | pass
  | brk
  | cont
  | never
  | rais (c : Nat)
  | sfl (c : Nat) (x : Str) (o v : CE)
inductive CSs where
  | nil
  | cons (s : CS) (ss : CSs)
end
inductive Fl where
  | nx (ρ : Env)
  | rt (d : D)
  | bk (ρ : Env)
  | ct (ρ : Env)
  | ex (c : Nat) (ρ : Env)
inductive It where
  | items (xs : List PyData)
  | live (i : Nat)

/-! ### operations -/
mutual
def noLst : PyData → Bool
  | .list _ => false
  | .tuple xs => noLstA xs
  | .dict kvs => noLstK kvs
  | _ => true
def noLstA : List PyData → Bool
  | [] => true
  | x :: xs => noLst x && noLstA xs
def noLstK : List (PyData × PyData) → Bool
  | [] => true
  | (_, x) :: xs => noLst x && noLstK xs
end
def dat (M : Mem) : D → Option PyData
  | .p x => some x
  | .ref i => match M[i]? with
    | some (.lst xs) => some (.list xs)
    | some (.dct kvs) => some (.dict kvs)
    | _ => none
  | .scr _ => none
def alloc (mt : Bool) (xs : List PyData) (M : Mem) : Res D :=
  if mt then .ok (.ref M.length) (M ++ [.lst xs]) else .ok (.p (.list xs)) M
def fkD (i : Nat) : FK → Option D
  | .d x => some (.p x)
  | .s k => if k < i then some (.ref (i - 1 - k)) else none
def allocB (cs : List MO) (c : Nat) (ks : List (Str × FK)) (M : Mem) : Res D := .ok (.ref (M.length + cs.length)) (M ++ cs ++ [.hdr c ks])
def setF (x : Str) (v : FK) : List (Str × FK) → List (Str × FK)
  | [] => []
  | (y, u) :: r => if y = x then (y, v) :: r else (y, u) :: setF x v r
/-- [x, [], .., []] -/
def boxF (x : PyData) (m : Nat) : List (Str × FK) := (("" : String), .d x) :: (List.range m).map fun k => (("" : String), .s (m - 1 - k))
def isK (k : Int) : PyData → Bool
  | .int i => decide (i = k)
  | _ => false
def dHas (kvs : List (PyData × PyData)) (k : Int) : Bool := kvs.any fun p => isK k p.1
def dPut (kvs : List (PyData × PyData)) (k : Int) (v : PyData) : List (PyData × PyData) := if dHas kvs k then kvs.map (fun p => if isK k p.1 then (p.1, v) else p) else kvs ++ [(.int k, v)]
def boxAt (M : Mem) (a : D) (k : Int) : Res D := match a with
  | .ref j => (match M[j]? with
    | some (.hdr 0 ks) => (match L2.atI ks k with
      | some p => (match fkD j p.2 with
        | some d => .ok d M
        | none => .bad)
      | none => .bad)
    | _ => .bad)
  | _ => .bad
def insAt (M : Mem) (d : D) (c : Nat) : Option (Nat × List (Str × FK)) := match d with
  | .ref i => (match M[i]? with
    | some (.hdr c' ks) => if c' = c + 1 then some (i, ks) else none
    | _ => none)
  | _ => none
def incB : List Int → Bool
  | [] => true
  | [_] => true
  | x :: y :: r => decide (x < y) && incB (y :: r)
/-- a value as data for good: what a mutable list holds, which is then given up -/
def frzP (d : D) (M : Mem) : Option (PyData × Mem) := match d with
  | .p x => some (x, M)
  | .ref i => match M[i]? with
    | some (.lst xs) => some (.list xs, M.set i .dead)
    | _ => none
  | .scr _ => none
def frzPs : List D → Mem → Option (List PyData × Mem)
  | [], M => some ([], M)
  | d :: ds, M => match frzP d M with
    | some (x, M) => match frzPs ds M with
      | some (xs, M) => some (x :: xs, M)
      | none => none
    | none => none
def binop (op : BOp) (mt : Bool) (a b : D) (M : Mem) : Res D :=
  match op, dat M a, dat M b with
  | .add, some (.int i), some (.int j) => .ok (.p (.int (i + j))) M
  | .add, some (.str x), some (.str y) => if x.length + y.length ≤ 16777216 then .ok (.p (.str (x ++ y))) M else .bad
  | .add, some (.tuple xs), some (.tuple ys) => if xs.length + ys.length ≤ 16777216 then .ok (.p (.tuple (xs ++ ys))) M else .bad
  | .add, some (.list xs), some (.list ys) => if xs.length + ys.length ≤ 16777216 then alloc mt (xs ++ ys) M else .bad
  | .sub, some (.int i), some (.int j) => .ok (.p (.int (i - j))) M
  | .mul, some (.int i), some (.int j) => if (-(2 ^ 64) < i ∧ i < 2 ^ 64) ∨ (-(2 ^ 64) < j ∧ j < 2 ^ 64) then .ok (.p (.int (i * j))) M else .bad
  | .mul, some (.str z), some (.int k) => if -(2 ^ 63) ≤ k ∧ k < 2 ^ 63 ∧ z.length * k.toNat ≤ 16777216 then .ok (.p (.str (Txt.mul z k))) M else .bad
  | .mul, some (.tuple xs), some (.int k) => if -(2 ^ 63) ≤ k ∧ k < 2 ^ 63 ∧ xs.length * k.toNat ≤ 16777216 then .ok (.p (.tuple (List.replicate k.toNat xs).flatten)) M else .bad
  | .mul, some (.list xs), some (.int k) => if -(2 ^ 63) ≤ k ∧ k < 2 ^ 63 ∧ xs.length * k.toNat ≤ 16777216 then alloc mt (List.replicate k.toNat xs).flatten M else .bad
  | .fdiv, some (.int i), some (.int j) => if 0 < j ∧ j < 1073741824 then .ok (.p (.int (i / j))) M else .bad
  | .mod, some (.int i), some (.int j) => if 0 < j then .ok (.p (.int (i % j))) M else .bad
  | .pow, some (.int i), some (.int j) => if 0 ≤ j ∧ j ≤ 1000000 ∧ i.natAbs < 2 ^ 64 then .ok (.p (.int (i ^ j.toNat))) M else .bad
  | _, _, _ => .bad
def isNone : PyData → Bool
  | .none => true
  | _ => false
def cmpB (op : COp) (a b : PyData) : Option Bool :=
  match op with
  | .eq => if a.plain && b.plain && decide (a.depth ≤ 60) then some (PyData.eqv a b) else none
  | .ne => if a.plain && b.plain && decide (a.depth ≤ 60) then some (!PyData.eqv a b) else none
  | .lt => match a, b with | .int i, .int j => some (decide (i < j)) | _, _ => none
  | .le => match a, b with | .int i, .int j => some (decide (i ≤ j)) | _, _ => none
  | .gt => match a, b with | .int i, .int j => some (decide (j < i)) | _, _ => none
  | .ge => match a, b with | .int i, .int j => some (decide (j ≤ i)) | _, _ => none
  | .is => match a, b with | .bool i, .bool j => some (i == j) | a, .none => some (isNone a) | _, _ => none
  | .isnot => match a, b with | .bool i, .bool j => some (!(i == j)) | a, .none => some (!isNone a) | _, _ => none
  | .isin => match b with
    | .list xs => if PyData.plainAll xs && a.plain && decide (a.depth ≤ 60) then some (xs.any fun y => PyData.eqv y a) else none
    | .tuple xs => if PyData.plainAll xs && a.plain && decide (a.depth ≤ 60) then some (xs.any fun y => PyData.eqv y a) else none
    | .str z => (match a with
      | .str y => some (!(Builtin.Str.occurrences z y 0 z.length 1).isEmpty)
      | _ => none)
    | .dict kvs => (match a with
      | .int k => some (dHas kvs k)
      | _ => none)
    | _ => none
  | .notin => match b with
    | .list xs => if PyData.plainAll xs && a.plain && decide (a.depth ≤ 60) then some (!xs.any fun y => PyData.eqv y a) else none
    | .tuple xs => if PyData.plainAll xs && a.plain && decide (a.depth ≤ 60) then some (!xs.any fun y => PyData.eqv y a) else none
    | .dict kvs => (match a with
      | .int k => some (!dHas kvs k)
      | _ => none)
    | _ => none
def cmpop (op : COp) (a b : D) (M : Mem) : Res D :=
  match dat M a, dat M b with
  | some x, some y => match cmpB op x y with
    | some k => .ok (.p (.bool k)) M
    | none => .bad
  | _, _ => .bad
def truth (M : Mem) (d : D) : Option Bool :=
  match dat M d with
  | some .none => some false
  | some (.bool b) => some b
  | some (.int i) => some (i != 0)
  | some (.str x) => if x.length ≤ 16777216 then some ((x.length : Int) != 0) else none
  | some (.list xs) => some (!xs.isEmpty)
  | some (.tuple xs) => some (!xs.isEmpty)
  | _ => none
def idxop (a i : D) (M : Mem) : Res D :=
  match a, i with
  | .scr ns, .p (.int k) => match L2.atI ns k with
    | some x => .ok (.p (.int x)) M
    | none => .bad
  | _, _ => match dat M a, i with
    | some (.list xs), .p (.int k) => match L2.atI xs k with | some x => .ok (.p x) M | none => .bad
    | some (.tuple xs), .p (.int k) => match L2.atI xs k with | some x => .ok (.p x) M | none => .bad
    | some (.str z), .p (.int k) => if z.length ≤ 16777216 then match L2.atI z.cps.toList k with | some c => .ok (.p (.str ⟨#[c]⟩)) M | none => .bad else .bad
    | none, .p (.int k) => boxAt M a k
    | _, _ => .bad
def cut {α : Type} (xs : List α) (lo hi : Option Int) : List α := (xs.drop (HT.sIx xs.length 0 lo)).take (HT.sIx xs.length xs.length hi - HT.sIx xs.length 0 lo)
def slcop (mt : Bool) (a : D) (lo hi : Option Int) (M : Mem) : Res D :=
  match dat M a with
  | some (.list xs) => alloc mt (cut xs lo hi) M
  | some (.tuple xs) => .ok (.p (.tuple (cut xs lo hi))) M
  | some (.str x) => if x.length ≤ 16777216 then .ok (.p (.str (L2.cutS x lo hi))) M else .bad
  | _ => .bad
def revop (mt : Bool) (a : D) (M : Mem) : Res D :=
  match dat M a with
  | some (.list xs) => alloc mt xs.reverse M
  | some (.tuple xs) => .ok (.p (.tuple xs.reverse)) M
  | _ => .bad
def ins (x : Int) : List Int → List Int
  | [] => [x]
  | y :: ys => if x ≤ y then x :: y :: ys else y :: ins x ys
def sortI : List Int → List Int
  | [] => []
  | x :: xs => ins x (sortI xs)
def asInts : List PyData → Option (List Int)
  | [] => some []
  | .int i :: r => (asInts r).map (i :: ·)
  | _ :: _ => none
def asBools : List PyData → Option (List Bool)
  | [] => some []
  | .bool i :: r => (asBools r).map (i :: ·)
  | _ :: _ => none
def isTy : Ty → PyData → Bool
  | .int, .int _ => true
  | .int, .bool _ => true
  | .bool, .bool _ => true
  | .str, .str _ => true
  | .tuple, .tuple _ => true
  | .list, .list _ => true
  | .dict, .dict _ => true
  | _, _ => false
def one (f : PyData → Mem → Res D) (ds : List D) (M : Mem) : Res D := match ds with
  | [d] => match dat M d with
    | some x => f x M
    | none => .bad
  | _ => .bad
def two (f : PyData → PyData → Mem → Res D) (ds : List D) (M : Mem) : Res D := match ds with
  | [d, e] => match dat M d, dat M e with
    | some x, some y => f x y M
    | _, _ => .bad
  | _ => .bad
def bLen (x : PyData) (M : Mem) : Res D := match x with
  | .list xs => .ok (.p (.int xs.length)) M
  | .tuple xs => .ok (.p (.int xs.length)) M
  | .str x => if x.length ≤ 16777216 then .ok (.p (.int x.length)) M else .bad
  | _ => .bad
def bMin (x y : PyData) (M : Mem) : Res D := match x, y with
  | .int i, .int j => .ok (.p (.int (if j < i then j else i))) M
  | _, _ => .bad
def bMax (x y : PyData) (M : Mem) : Res D := match x, y with
  | .int i, .int j => .ok (.p (.int (if j > i then j else i))) M
  | _, _ => .bad
def bAbs (x : PyData) (M : Mem) : Res D := match x with
  | .int i => .ok (.p (.int (if i < 0 then -i else i))) M
  | _ => .bad
def bSum (x : PyData) (M : Mem) : Res D := match x with
  | .list xs => match asInts xs with
    | some ns => .ok (.p (.int ns.sum)) M
    | none => .bad
  | .tuple xs => match asInts xs with
    | some ns => .ok (.p (.int ns.sum)) M
    | none => .bad
  | _ => .bad
def bSorted (mt : Bool) (x : PyData) (M : Mem) : Res D := match x with
  | .list xs => match asInts xs with
    | some ns => alloc mt ((sortI ns).map PyData.int) M
    | none => .bad
  | _ => .bad
def bAll (x : PyData) (M : Mem) : Res D := match x with
  | .list xs => match asBools xs with
    | some bs => .ok (.p (.bool (bs.all id))) M
    | none => .bad
  | _ => .bad
def bAny (x : PyData) (M : Mem) : Res D := match x with
  | .list xs => match asBools xs with
    | some bs => .ok (.p (.bool (bs.any id))) M
    | none => .bad
  | _ => .bad
def bTuple (x : PyData) (M : Mem) : Res D := match x with
  | .list xs => .ok (.p (.tuple xs)) M
  | .tuple xs => .ok (.p (.tuple xs)) M
  | _ => .bad
def bList (mt : Bool) (x : PyData) (M : Mem) : Res D := match x with
  | .list xs => alloc mt xs M
  | .tuple xs => alloc mt xs M
  | _ => .bad
def bRepr (x : PyData) (M : Mem) : Res D :=
  if x.showable && decide (x.depth ≤ 60) && decide (x.shown.length ≤ 16777216) && (!x.hasDict || noLst x) then .ok (.p (.str x.shown)) M else .bad
def bStr (x : PyData) (M : Mem) : Res D := match x with
  | .int i => if i.natAbs.log2 < 1920 then .ok (.p (.str (toString i))) M else .bad
  | .str x => .ok (.p (.str x)) M
  | _ => .bad
def bIsi (t : Ty) (x : PyData) (M : Mem) : Res D := .ok (.p (.bool (isTy t x))) M
def bltop (b : BF) (ds : List D) (M : Mem) : Res D :=
  match b with
  | .len => match ds with
    | [.scr ns] => .ok (.p (.int ns.length)) M
    | ds => one bLen ds M
  | .min => two bMin ds M
  | .max => two bMax ds M
  | .abs => one bAbs ds M
  | .sum => one bSum ds M
  | .all => one bAll ds M
  | .any => one bAny ds M
  | .tuple => one bTuple ds M
  | .list mt => one (bList mt) ds M
  | .repr => one bRepr ds M
  | .str => one bStr ds M
  | .isi t => one (bIsi t) ds M
  | .sorted mt => one (bSorted mt) ds M
def mAppend (o : D) (ds : List D) (M : Mem) : Res D := match o, ds with
  | .ref i, [d] => match frzP d M with
    | some (x, M) => match M[i]? with
      | some (.lst xs) => if xs.length < 16777216 then .ok (.p .none) (M.set i (.lst (xs ++ [x]))) else .bad
      | _ => .bad
    | none => .bad
  | _, _ => .bad
def mPop (o : D) (ds : List D) (M : Mem) : Res D := match o, ds with
  | .ref i, [.p (.int k)] => match M[i]? with
    | some (.lst xs) => if -(2 ^ 63) ≤ k ∧ k < 2 ^ 63 then match L2.ixN xs.length k with
        | some n => match xs[n]? with
          | some x => .ok (.p x) (M.set i (.lst (xs.eraseIdx n)))
          | none => .bad
        | none => .bad
      else .bad
    | _ => .bad
  | _, _ => .bad
def inOk (xs : List PyData) (x : PyData) : Bool := PyData.plainAll xs && x.plain && decide (x.depth ≤ 60)
def bCount (c x : PyData) (M : Mem) : Res D := match c with
  | .list xs => if inOk xs x then .ok (.p (.int ((xs.countP fun y => PyData.eqv y x : Nat) : Int))) M else .bad
  | _ => .bad
def bIndex (c x : PyData) (M : Mem) : Res D := match c with
  | .list xs => if inOk xs x then match xs.findIdx? (fun y => PyData.eqv y x) with
      | some j => .ok (.p (.int (j : Nat))) M
      | none => .bad
    else .bad
  | _ => .bad
/-- the receiver is a list -/
def recv (x : D) (M : Mem) : Bool := match dat M x with
  | some (.list _) => true
  | _ => false
def mthop (m : MF) (o : D) (ds : List D) (M : Mem) : Res D :=
  match m with
  | .append => mAppend o ds M
  | .pop => mPop o ds M
  | .count => two bCount (o :: ds) M
  | .index => two bIndex (o :: ds) M
def subop (o i v : D) (M : Mem) : Res Unit :=
  match frzP v M with
  | some (x, M) => match o, i with
    | .ref j, .p (.int k) => match M[j]? with
      | some (.lst xs) => match L2.ixN xs.length k with
        | some n => .ok () (M.set j (.lst (xs.set n x)))
        | none => .bad
      | some (.hdr 0 ks) => match L2.ixN ks.length k with
        | some n => (match ks[n]? with
          | some (y, .d _) => .ok () (M.set j (.hdr 0 (ks.set n (y, .d x))))
          | _ => .bad)
        | none => .bad
      | some (.dct kvs) => if kvs.length < 16777216 then .ok () (M.set j (.dct (dPut kvs k x))) else .bad
      | _ => .bad
    | _, _ => .bad
  | none => .bad
def asStrs : List PyData → Option (List Str)
  | [] => some []
  | .str x :: xs => match asStrs xs with
    | some ys => some (x :: ys)
    | none => none
  | _ => none
/-- the receiver of a text's method; of a tuple's -/
def txR (m : TM) (x : PyData) : Bool := match m with
  | .tidx => match x with
    | .tuple _ => true
    | _ => false
  | _ => match x with
    | .str _ => true
    | _ => false
def idxS (z : Str) : Nat → List Str → Option Nat
  | _, [] => none
  | i, y :: ys => if y = z then some i else idxS z (i + 1) ys
def txop (m : TM) (x y : PyData) : Option PyData := match m with
  | .join => match x, y with
    | .str a, .list xs => match asStrs xs with
      | some ys => if (ys.map (·.length)).sum + ys.length * a.length ≤ 16777216 then some (.str (Txt.join a ys)) else none
      | none => none
    | _, _ => none
  | .split => match x, y with
    | .str a, .str b => if (b.length == 0) = false ∧ a.length + 2 ≤ 16777216 then some (.list ((Txt.split a b).map PyData.str)) else none
    | _, _ => none
  | .part => match x, y with
    | .str a, .str b => if (b.length == 0) = false ∧ a.length ≤ 16777216 then some (.tuple [.str (Txt.partition a b).1, .str (Txt.partition a b).2.1, .str (Txt.partition a b).2.2]) else none
    | _, _ => none
  | .cnt => match x, y with
    | .str a, .str b => some (.int (Txt.count a b))
    | _, _ => none
  | .upp => match x with
    | .str a => if a.length ≤ 5592405 then some (.str (Txt.upper a)) else none
    | _ => none
  | .tidx => match x, y with
    | .tuple xs, .str z => match asStrs xs with
      | some ys => match idxS z 0 ys with
        | some j => some (.int (j : Nat))
        | none => none
      | none => none
    | _, _ => none
/-- values that are data -/
def asPs : List D → Option (List PyData)
  | [] => some []
  | .p x :: ds => match asPs ds with
    | some xs => some (x :: xs)
    | none => none
  | _ => none
def asIRows : List PyData → Option (List (List Int))
  | [] => some []
  | .tuple r :: xs => match asInts r, asIRows xs with
    | some ns, some rs => some (ns :: rs)
    | _, _ => none
  | _ => none
/-- a state with another number in later -/
def setLat (x : PyData) (a l m : Int) : Option PyData := match x with
  | .tuple [d, q, .tuple ls, t, o] => match asIRows ls with
    | some rs => if 0 ≤ a ∧ 0 ≤ l ∧ rs.length ≤ 1000 then match rs[a.toNat]? with
      | some r => if l.toNat < r.length then some (.tuple [d, q, .tuple ((rs.set a.toNat (r.set l.toNat m)).map fun r => .tuple (r.map PyData.int)), t, o]) else none
      | none => none
      else none
    | none => none
  | _ => none
mutual
/-- the same key: None, numbers, texts and tuples of such -/
def keqP : PyData → PyData → Bool
  | .none, y => (match y with
    | .none => true
    | _ => false)
  | .int a, y => (match y with
    | .int b => decide (a = b)
    | _ => false)
  | .str a, y => (match y with
    | .str b => decide (a = b)
    | _ => false)
  | .tuple a, y => (match y with
    | .tuple b => keqPs a b
    | _ => false)
  | _, _ => false
def keqPs : List PyData → List PyData → Bool
  | [], ys => (match ys with
    | [] => true
    | _ => false)
  | x :: xs, ys => (match ys with
    | y :: ys => keqP x y && keqPs xs ys
    | [] => false)
end
mutual
/-- a key of at most this depth -/
def keyD : PyData → Nat → Bool
  | .none, _ => true
  | .int _, _ => true
  | .str _, _ => true
  | .tuple xs, n => (match n with
    | 0 => false
    | n + 1 => keyDs xs n)
  | _, _ => false
def keyDs : List PyData → Nat → Bool
  | [], _ => true
  | x :: xs, n => keyD x n && keyDs xs n
end
def findK (x : PyData) : List PyData → Option Nat
  | [] => none
  | z :: zs => if keqP z x then some 0 else (match findK x zs with
    | some i => some (i + 1)
    | none => none)
def isTupD : PyData → Bool
  | .tuple _ => true
  | _ => false
/-- the spans of a row of truths: i: the number; pv: the truth ahead -/
def extL (acc : List (Int × Int)) (i : Int) : List (Int × Int) := match acc.getLast? with
  | some e => acc.dropLast ++ [(e.1, i)]
  | none => acc
def bsp : Nat → Bool → List Bool → List (Int × Int) → List (Int × Int)
  | _, _, [], acc => acc
  | i, pv, b :: bs, acc => bsp (i + 1) b bs (if b then (if pv then extL acc i else acc ++ [(((i : Nat) : Int), ((i : Nat) : Int))]) else acc)
def spD (bs : List Bool) : List (Int × Option Int) := match (bsp 0 false bs []).getLast? with
  | some e => (bsp 0 false bs []).dropLast.map (fun e => (e.1, some e.2)) ++ [(e.1, if bs.getLastD false then none else some e.2)]
  | none => []
def spE (e : Int × Option Int) : PyData := .tuple [.int e.1, match e.2 with
  | some k => .int k
  | none => .none]
/-- what a def of a law does, said at once: its soundness is shown by itself -/
def natop (n : Nat) (xs : List PyData) : Option PyData := match n, xs with
  | 0, [x, .int a, .int l, .int m] => setLat x a l m
  | 3, [x] => some x
  | 4, [.tuple line, x] => some (.tuple (line ++ [x]))
  | 1, [.tuple line, x] => if isTupD x && keyD x 8 && decide (line.length < 16000000) then some (.bool (!(line.any fun z => keqP z x))) else none
  | 2, [.tuple line, x] => if isTupD x && keyD x 8 then (match findK x line with
    | some i => some (.tuple [.int (i : Nat), .tuple (line.drop i)])
    | none => none) else none
  | 5, [.int n] => if decide (-(2 ^ 62) ≤ n) && decide (n ≤ 16777216) then some (.list ((List.range n.toNat).map fun i => .int (i : Nat))) else none
  | 8, [.int n] => if decide (-(2 ^ 62) ≤ n) && decide (n ≤ 16777216) then some (.tuple ((List.range n.toNat).map fun i => .int (i : Nat))) else none
  | 7, [.list xs] => match asBools xs with
    | some bs => if decide (0 < bs.length) && decide (bs.length ≤ 1000) then some (.tuple ((spD bs).map spE)) else none
    | none => none
  | _, _ => none
/-- what the making of an instance gives: 0: Run(plan, fails) -/
def mkop (n c : Nat) (xs : List PyData) (M : Mem) : Res D := match n, xs with
  | 0, [.tuple [l, k], .tuple ns] => (match asInts ns with
    | some is => if incB is && decide (is.length ≤ 1000000) then allocB [.dct (is.map fun i => (.int i, .bool true)), .dct [], .lst [], .lst []] (c + 1) [(("left" : String), .d l), (("keeps" : String), .d k), (("fails" : String), .s 3), (("kept" : String), .s 2), (("asks" : String), .s 1), (("deciders" : String), .s 0)] M else .bad
    | none => .bad)
  | _, _ => .bad
def dLook : List (PyData × PyData) → Str → Option PyData
  | [], _ => none
  | (.str k, v) :: r, s => if k = s then some v else dLook r s
  | _ :: r, s => dLook r s
def keyOk : PyData → Bool
  | .int _ => true
  | .str _ => true
  | _ => false
/-- a display of a dict: keys asInts and texts, all different -/
def keysOk : List PyData → Bool
  | [] => true
  | [k] => keyOk k
  | [.str a, .str b] => !decide (a = b)
  | _ => false
def dctop (ks vs : List D) (M : Mem) : Res D :=
  match frzPs ks M with
  | some (ks, M) => match frzPs vs M with
    | some (vs, M) => if ks.length = vs.length ∧ keysOk ks = true then .ok (.p (.dict (ks.zip vs))) M else .bad
    | none => .bad
  | none => .bad
def setAll : List Nat → List PyData → Env → Option Env
  | [], [], ρ => some ρ
  | i :: is, x :: xs, ρ => setAll is xs (ρ.set i (some (.p x)))
  | _, _, _ => none
def bindT (t : Tg) (x : PyData) (ρ : Env) : Option Env := match t with
  | .nm i => some (ρ.set i (some (.p x)))
  | .tp is => match x with
    | .tuple xs => setAll is xs ρ
    | .list xs => setAll is xs ρ
    | _ => none
def wipeE (ρ : Env) : List Nat → Env
  | [] => ρ
  | v :: vs => (wipeE ρ vs).set v none
def setDs : List Nat → List D → Env → Option Env
  | [], [], ρ => some ρ
  | i :: is, d :: ds, ρ => setDs is ds (ρ.set i (some d))
  | _, _, _ => none
def zipP : List PyData → List PyData → List PyData
  | x :: xs, y :: ys => .tuple [x, y] :: zipP xs ys
  | _, _ => []
def zipP3 : List PyData → List PyData → List PyData → List PyData
  | x :: xs, y :: ys, z :: zs => .tuple [x, y, z] :: zipP3 xs ys zs
  | _, _, _ => []
def seqP : D → Option (List PyData)
  | .p (.list xs) => some xs
  | .p (.tuple xs) => some xs
  | _ => none
def enumP : Nat → List PyData → List PyData
  | _, [] => []
  | i, x :: xs => .tuple [.int (i : Nat), x] :: enumP (i + 1) xs
def seqOf (d : D) (M : Mem) : Option It := match d with
  | .p (.list xs) => some (.items xs)
  | .p (.tuple xs) => some (.items xs)
  | .ref i => match M[i]? with
    | some (.lst _) => some (.live i)
    | _ => none
  | _ => none
def rngP (a b : Int) : List PyData := (List.range (b - a).toNat).map fun i => .int (a + (i : Nat))
def rngOk (a : Int) : Bool := decide (-(2 ^ 62) ≤ a) && decide (a < 2 ^ 62)

/-! ### comprehensions and loops -/
/-- f: from an item, what is kept of it -/
def compLoop (f : PyData → Mem → Res (Option PyData)) : List PyData → List PyData → Mem → Res (List PyData)
  | [], acc, M => .ok acc M
  | x :: xs, acc, M => match f x M with
    | .ok (some y) M => if acc.length < 16777216 then compLoop f xs (acc ++ [y]) M else .bad
    | .ok none M => compLoop f xs acc M
    | _ => .bad
def forLoop (f : PyData → Env → Mem → Res Fl) : List PyData → Env → Mem → Res Fl
  | [], ρ, M => .ok (.nx ρ) M
  | x :: xs, ρ, M => match f x ρ M with
    | .ok (.nx ρ) M => forLoop f xs ρ M
    | .ok (.ct ρ) M => forLoop f xs ρ M
    | .ok (.bk ρ) M => .ok (.nx ρ) M
    | r => r
def liveLoop (f : PyData → Env → Mem → Res Fl) (j : Nat) : Nat → Nat → Env → Mem → Res Fl
  | 0, _, _, _ => .bad
  | n + 1, k, ρ, M => match M[j]? with
    | some (.lst xs) => match xs[k]? with
      | none => .ok (.nx ρ) M
      | some x => match f x ρ M with
        | .ok (.nx ρ) M => liveLoop f j n (k + 1) ρ M
        | .ok (.ct ρ) M => liveLoop f j n (k + 1) ρ M
        | .ok (.bk ρ) M => .ok (.nx ρ) M
        | r => r
    | _ => .bad
/-- o[i], o[j] = v, w -/
def sb2op (o : Option (Option D)) (i j : Int) (ds : List D) (M : Mem) : Res Unit := match o, ds with
  | some (some o), [v, w] => (subop o (.p (.int i)) v M).bind fun _ M => subop o (.p (.int j)) w M
  | _, _ => .bad
/-- c: the test, by what it makes of the state -/
def whileLoop (c : Env → Mem → Res Bool) (f : Env → Mem → Res Fl) : Nat → Env → Mem → Res Fl
  | 0, _, _ => .bad
  | n + 1, ρ, M => match c ρ M with
    | .ok false M => .ok (.nx ρ) M
    | .ok true M => match f ρ M with
      | .ok (.nx ρ) M => whileLoop c f n ρ M
      | .ok (.ct ρ) M => whileLoop c f n ρ M
      | .ok (.bk ρ) M => .ok (.nx ρ) M
      | r => r
    | .exc c M => .ok (.ex c ρ) M
    | .bad => .bad

/-- the program's own classes of exceptions, with a law's words for them -/
def exTab : List (Str × Str) := [("NoSetting", "setting"), ("NoState", "state"), ("NoFresh", "fresh"), ("NoRow", "row"), ("NoSteady", "steady"), ("NoMost", "most"), ("NoTree", "tree"), ("NoPlan", "plan"), ("NoFails", "fails"), ("NoServices", "services"), ("NoService", "service"), ("NoCount", "count"), ("NoGate", "gate"), ("NoText", "text"), ("NothingDone", "nothing"), ("TooMany", "many")]
/-- how a law's own words call an exception's class -/
def exWord (c : Nat) : Option Str := match exTab[c]? with
  | some p => some p.2
  | none => none
def exNm (c : Nat) : Option Str := match exTab[c]? with
  | some p => some p.1
  | none => none
def exIx (x : Str) : Option Nat := exTab.findIdx? fun p => decide (p.1 = x)
/-- what _law_said tells of an end -/
def saidR (r : Res D) : Res D := match r with
  | .ok d M => one bRepr [d] M
  | .exc c M => (match exWord c with
    | some w => .ok (.p (.str (Str.ofString "! " ++ w))) M
    | none => .bad)
  | .bad => .bad
abbrev Fn := Nat → List D → Mem → Res D
def toB (M : Mem) (d : D) : Res Bool := match truth M d with
  | some b => .ok b M
  | none => .bad
def isB (M : Mem) (d : D) : Res Bool := match d with
  | .p (.bool b) => .ok b M
  | _ => .bad
def partI : D → Option Int
  | .p (.int i) => some i
  | _ => none
mutual
def evE (fn : Fn) : CE → Env → Mem → Res D
  | .var i, ρ, M => match ρ[i]? with
    | some (some d) => .ok d M
    | _ => .bad
  | .cst x, _, M => .ok (.p x) M
  | .bin op mt a b, ρ, M => (evE fn a ρ M).bind fun x M => (evE fn b ρ M).bind fun y M => binop op mt x y M
  | .neg a, ρ, M => (evE fn a ρ M).bind fun x M => match x with
    | .p (.int i) => .ok (.p (.int (-i))) M
    | _ => .bad
  | .not a, ρ, M => (evE fn a ρ M).bind fun x M => (toB M x).bind fun b M => .ok (.p (.bool (!b))) M
  | .cmp op a b, ρ, M => (evE fn a ρ M).bind fun x M => (evE fn b ρ M).bind fun y M => cmpop op x y M
  | .chn op op' a b c, ρ, M => (evE fn a ρ M).bind fun x M => (evE fn b ρ M).bind fun y M => (cmpop op x y M).bind fun k M => (isB M k).bind fun k M =>
      if k then (evE fn c ρ M).bind fun z M => cmpop op' y z M else .ok (.p (.bool false)) M
  | .and a b, ρ, M => (evE fn a ρ M).bind fun x M => (isB M x).bind fun k M => if k then evE fn b ρ M else .ok (.p (.bool false)) M
  | .or a b, ρ, M => (evE fn a ρ M).bind fun x M => (isB M x).bind fun k M => if k then .ok (.p (.bool true)) M else evE fn b ρ M
  | .ife c a b, ρ, M => (evE fn c ρ M).bind fun x M => (toB M x).bind fun k M => if k then evE fn a ρ M else evE fn b ρ M
  | .tup es, ρ, M => (evEs fn es ρ M).bind fun ds M => match frzPs ds M with
    | some (xs, M) => if xs.length ≤ 16777216 then .ok (.p (.tuple xs)) M else .bad
    | none => .bad
  | .tst a es, ρ, M => (evE fn a ρ M).bind fun x M => match x with
    | .p (.list xs) => (evEs fn es ρ M).bind fun ds M => match frzPs ds M with
      | some (ys, M) => if (xs ++ ys).length ≤ 16777216 then .ok (.p (.tuple (xs ++ ys))) M else .bad
      | none => .bad
    | _ => .bad
  | .txm m o e, ρ, M => (evE fn o ρ M).bind fun x M => match x with
    | .p x => if txR m x then (evE fn e ρ M).bind fun y M => match dat M y with
        | some y => match txop m x y with
          | some r => .ok (.p r) M
          | none => .bad
        | none => .bad
      else .bad
    | _ => .bad
  | .dgt d a b, ρ, M => (evE fn d ρ M).bind fun x M => match x with
    | .p (.dict kvs) => (evE fn a ρ M).bind fun y M => (evE fn b ρ M).bind fun z M => match y, z with
      | .p (.str s), .p z => .ok (.p ((dLook kvs s).getD z)) M
      | _, _ => .bad
    | _ => .bad
  | .nat n es, ρ, M => (evEs fn es ρ M).tame.bind fun ds M => match asPs ds with
    | some xs => match natop n xs with
      | some r => .ok (.p r) M
      | none => .bad
    | none => .bad
  | .lst mt es, ρ, M => (evEs fn es ρ M).bind fun ds M => match frzPs ds M with
    | some (xs, M) => if xs.length ≤ 16777216 then alloc mt xs M else .bad
    | none => .bad
  | .dct ks vs, ρ, M => (evEs fn ks ρ M).bind fun ks M => (evEs fn vs ρ M).bind fun vs M => dctop ks vs M
  | .idx a i, ρ, M => (evE fn a ρ M).bind fun x M => (evE fn i ρ M).bind fun y M => idxop x y M
  | .slc mt a lo hi, ρ, M => (evE fn a ρ M).bind fun x M => (evO fn lo ρ M).bind fun l M => (evO fn hi ρ M).bind fun h M => slcop mt x l h M
  | .rev mt a, ρ, M => (evE fn a ρ M).bind fun x M => revop mt x M
  | .call f es, ρ, M => (evEs fn es ρ M).bind fun ds M => fn f ds M
  | .said f es, ρ, M => saidR ((evEs fn es ρ M).bind fun ds M => fn f ds M)
  | .blt b es, ρ, M => (evEs fn es ρ M).bind fun ds M => bltop b ds M
  | .mth m o es, ρ, M => (evE fn o ρ M).bind fun x M => if recv x M then (evEs fn es ρ M).bind fun ds M => mthop m x ds M else .bad
  | .comp mt ws t it c e, ρ, M => (evI fn it ρ M).bind fun J M => match J with
    | .items xs => (compLoop (fun x M => match bindT t x (wipeE ρ ws) with
        | some ρ' => (evC fn c ρ' M).bind fun k M => if k then (evE fn e ρ' M).bind fun d M => match frzP d M with
            | some (y, M) => .ok (some y) M
            | none => .bad
          else .ok none M
        | none => .bad) xs [] M).bind fun ys M => alloc mt ys M
    | .live _ => .bad
  | .box e m, ρ, M => (evE fn e ρ M).bind fun d M => match frzP d M with
    | some (x, M) => if m ≤ 100 then allocB (List.replicate m (.lst [])) 0 (boxF x m) M else .bad
    | none => .bad
  | .fld c x o, ρ, M => (evE fn o ρ M).bind fun d M => match insAt M d c with
    | some (i, ks) => (match ks.lookup x with
      | some k => (match fkD i k with
        | some d => .ok d M
        | none => .bad)
      | none => .bad)
    | none => .bad
  | .mcl c x f o es, ρ, M => (evE fn o ρ M).bind fun d M => match insAt M d c with
    | some (i, ks) => if (ks.lookup x).isNone then (evEs fn es ρ M).bind fun ds M => fn f (.ref i :: ds) M else .bad
    | none => .bad
  | .mk n c es, ρ, M => (evEs fn es ρ M).bind fun ds M => match asPs ds with
    | some xs => mkop n c xs M
    | none => .bad
def evEs (fn : Fn) : CEs → Env → Mem → Res (List D)
  | .nil, _, M => .ok [] M
  | .cons e es, ρ, M => (evE fn e ρ M).bind fun d M => (evEs fn es ρ M).bind fun ds M => .ok (d :: ds) M
def evO (fn : Fn) : CEo → Env → Mem → Res (Option Int)
  | .no, _, M => .ok none M
  | .yes e, ρ, M => (evE fn e ρ M).bind fun d M => match partI d with
    | some i => .ok (some i) M
    | none => .bad
def evC (fn : Fn) : CEo → Env → Mem → Res Bool
  | .no, _, M => .ok true M
  | .yes e, ρ, M => (evE fn e ρ M).bind fun d M => toB M d
def evI (fn : Fn) : CI → Env → Mem → Res It
  | .seq e, ρ, M => (evE fn e ρ M).bind fun d M => match seqOf d M with
    | some J => .ok J M
    | none => .bad
  | .rng a, ρ, M => (evE fn a ρ M).bind fun x M => match x with
    | .p (.int j) => if rngOk j then .ok (.items (rngP 0 j)) M else .bad
    | _ => .bad
  | .rng2 a b, ρ, M => (evE fn a ρ M).bind fun x M => (evE fn b ρ M).bind fun y M => match x, y with
    | .p (.int i), .p (.int j) => if rngOk i && rngOk j then .ok (.items (rngP i j)) M else .bad
    | _, _ => .bad
  | .enum e, ρ, M => (evE fn e ρ M).bind fun x M => match x with
    | .p (.list xs) => .ok (.items (enumP 0 xs)) M
    | .p (.tuple xs) => .ok (.items (enumP 0 xs)) M
    | _ => .bad
  | .zip a b, ρ, M => (evE fn a ρ M).bind fun x M => (evE fn b ρ M).bind fun y M => match x, y with
    | .p (.list xs), .p (.list ys) => .ok (.items (zipP xs ys)) M
    | .p (.tuple xs), .p (.tuple ys) => .ok (.items (zipP xs ys)) M
    | .p (.list xs), .p (.tuple ys) => .ok (.items (zipP xs ys)) M
    | .p (.tuple xs), .p (.list ys) => .ok (.items (zipP xs ys)) M
    | _, _ => .bad
  | .zip3 a b c, ρ, M => (evE fn a ρ M).bind fun x M => (evE fn b ρ M).bind fun y M => (evE fn c ρ M).bind fun z M => match seqP x, seqP y, seqP z with
    | some xs, some ys, some zs => .ok (.items (zipP3 xs ys zs)) M
    | _, _, _ => .bad
end
def evX (ρ : Env) (c : Nat) (M : Mem) : Res Fl := .ok (.ex c ρ) M
def asgT (t : Tg) (d : D) (ρ : Env) (M : Mem) : Res Fl := match t with
  | .nm i => .ok (.nx (ρ.set i (some d))) M
  | .tp is => match d with
    | .p (.tuple xs) => match setAll is xs ρ with
      | some ρ => .ok (.nx ρ) M
      | none => .bad
    | .p (.list xs) => match setAll is xs ρ with
      | some ρ => .ok (.nx ρ) M
      | none => .bad
    | _ => .bad
mutual
def evS (fn : Fn) (fuel : Nat) : CS → Env → Mem → Res Fl
  | .expr e, ρ, M => (evE fn e ρ M).onto (fun _ M => .ok (.nx ρ) M) (evX ρ)
  | .asg t e, ρ, M => (evE fn e ρ M).onto (fun d M => asgT t d ρ M) (evX ρ)
  | .par is es, ρ, M => (evEs fn es ρ M).onto (fun ds M => match setDs is ds ρ with
    | some ρ => .ok (.nx ρ) M
    | none => .bad) (evX ρ)
  | .sub o i v, ρ, M => (evE fn v ρ M).onto (fun v M => (evE fn o ρ M).onto (fun o M => (evE fn i ρ M).onto (fun i M => (subop o i v M).onto (fun _ M => .ok (.nx ρ) M) (evX ρ)) (evX ρ)) (evX ρ)) (evX ρ)
  | .sb2 n i j es, ρ, M => (evEs fn es ρ M).onto (fun ds M => (sb2op ρ[n]? i j ds M).onto (fun _ M => .ok (.nx ρ) M) (evX ρ)) (evX ρ)
  | .ret e, ρ, M => (evE fn e ρ M).onto (fun d M => .ok (.rt d) M) (evX ρ)
  | .retN, _, M => .ok (.rt (.p .none)) M
  | .ife c a b, ρ, M => (evE fn c ρ M).onto (fun d M => (toB M d).onto (fun k M => if k then evSs fn fuel a ρ M else evSs fn fuel b ρ M) (evX ρ)) (evX ρ)
  | .loop t it b, ρ, M => (evI fn it ρ M).onto (fun J M => match J with
    | .items xs => forLoop (fun x ρ M => match bindT t x ρ with
        | some ρ => evSs fn fuel b ρ M
        | none => .bad) xs ρ M
    | .live j => liveLoop (fun x ρ M => match bindT t x ρ with
        | some ρ => evSs fn fuel b ρ M
        | none => .bad) j fuel 0 ρ M) (evX ρ)
  | .whl c b, ρ, M => whileLoop (fun ρ M => (evE fn c ρ M).bind fun d M => toB M d) (fun ρ M => evSs fn fuel b ρ M) fuel ρ M
  | .pass, ρ, M => .ok (.nx ρ) M
  | .brk, ρ, M => .ok (.bk ρ) M
  | .cont, ρ, M => .ok (.ct ρ) M
  | .never, _, _ => .bad
  | .rais c, ρ, M => .ok (.ex c ρ) M
  | .sfl c x o v, ρ, M => (evE fn v ρ M).onto (fun v M => match frzP v M with
    | some (y, M) => (evE fn o ρ M).onto (fun d M => match insAt M d c with
      | some (i, ks) => (match ks.lookup x with
        | some (.d _) => if ks.length < 1000 then .ok (.nx ρ) (M.set i (.hdr (c + 1) (setF x (.d y) ks))) else .bad
        | _ => .bad)
      | none => .bad) (evX ρ)
    | none => .bad) (evX ρ)
def evSs (fn : Fn) (fuel : Nat) : CSs → Env → Mem → Res Fl
  | .nil, ρ, M => .ok (.nx ρ) M
  | .cons s ss, ρ, M => match evS fn fuel s ρ M with
    | .ok (.nx ρ) M => evSs fn fuel ss ρ M
    | r => r
end
/-! ### functions -/
structure FD where
  n : Nat
  slots : Nat
  frz : Bool
  body : CSs
def fin (frz : Bool) (n : Nat) (d : D) (M : Mem) : Res D :=
  if frz then match d with
    | .p x => .ok (.p x) (M.take n)
    | .ref i => if i < n then .ok (.ref i) (M.take n) else match M[i]? with
      | some (.lst xs) => .ok (.p (.list xs)) (M.take n)
      | _ => .bad
    | .scr _ => .bad
  else .ok d M
def enter (fd : FD) (ds : List D) : Env := ds.map some ++ List.replicate (fd.slots - fd.n) none
def callF (fn : Fn) (fuel : Nat) (fd : FD) (ds : List D) (M : Mem) : Res D :=
  if ds.length = fd.n then match evSs fn fuel fd.body (enter fd ds) M with
    | .ok (.rt d) M' => fin fd.frz M.length d M'
    | .ok (.nx _) M' => fin fd.frz M.length (.p .none) M'
    | .ok (.ex c _) M' => .exc c (if fd.frz then M'.take M.length else M')
    | _ => .bad
  else .bad
def run (T : Nat → Option FD) (fuel : Nat) : Nat → Fn
  | 0, _, _, _ => .bad
  | k + 1, f, ds, M => match T f with
    | some fd => callF (run T fuel k) fuel fd ds M
    | none => .bad
end Mi

set_option Elab.async false
set_option linter.all false
set_option maxRecDepth 100000
/-! Mi: how data and mutable lists stand in HandS's abstract heap. -/
namespace Mi
open PySem PySem.Spec PyProof.Rows L2

/-- L: where the mutable objects stand (none: given up); Z: further places that no data may name -/
structure Sk where
  L : List (Option Addr)
  Z : List Addr
def Sk.no (S : Sk) (a : Addr) : Prop := some a ∉ S.L ∧ a ∉ S.Z
abbrev S0 : Sk := ⟨[], []⟩
theorem no0 (a : Addr) : S0.no a := ⟨List.not_mem_nil, List.not_mem_nil⟩
abbrev Kf := PySem.W.Frag
/-- a code object's table, and the code's name -/
def codeTab : Obj → Option (Addr × Str)
  | ⟨.type "code", _, .fields vs, _⟩ => (match (vs[11]? : Option Value), (vs[1]? : Option Value) with
    | some (.ref P), some (.str q _) => some (P, q)
    | _, _ => none)
  | _ => none
/-- the code objects at K's head, with their tables and names: those of the defs that make lambdas -/
def tabP (K : Kf) : List (Addr × Addr × Str) := (K.takeWhile fun q => (codeTab q.2).isSome).filterMap fun q => (codeTab q.2).map fun p => (q.1, p.1, p.2)
def tabT (K : Kf) : List (Addr × Str) := (tabP K).map fun p => (p.2.1, p.2.2 ++ ".<locals>." ++ "<lambda>")
theorem tabs_upd {T : List (Addr × Str)} {H : Hp} {p : Addr} {o : HO} (t : LamX.Tabs T H) (h1 : ∀ ps, H p ≠ some (.tbl ps)) (h2 : ∀ q, H p ≠ some (LamX.CodeO p q)) : LamX.Tabs T (upd H p o) := fun z hz => by
  obtain ⟨ps, e1, e2, e3⟩ := t z hz
  refine ⟨ps, by rw [upd_ne (fun e => h1 ps (by rw [← e]; exact e1))]; exact e1, e2, fun pos cv hc => ?_⟩
  obtain ⟨c, c1, c2⟩ := e3 pos cv hc
  exact ⟨c, c1, by rw [upd_ne (fun e => h2 z.2 (by rw [← e]; exact c2))]; exact c2⟩
theorem tabs_new {T : List (Addr × Str)} {H : Hp} {p : Addr} {o : HO} (t : LamX.Tabs T H) (h : H p = none) : LamX.Tabs T (upd H p o) :=
  tabs_upd t (fun _ e => by rw [h] at e; cases e) (fun _ e => by rw [h] at e; cases e)
theorem tabs_lst {T : List (Addr × Str)} {H : Hp} {p : Addr} {o : HO} {xs : List V} (t : LamX.Tabs T H) (h : H p = some (.lst xs)) : LamX.Tabs T (upd H p o) :=
  tabs_upd t (fun _ e => by rw [h] at e; cases e) (fun _ e => by rw [h] at e; unfold LamX.CodeO at e; cases e)
def TupK (K : Kf) (a : Addr) (xs : List V) : Prop :=
  ∃ (o : Obj) (its : Array Value) (n : Nat), K.lookup a = some o ∧ o.cls = .type "tuple" ∧ o.data = .seq its n ∧ its.size ≤ sizeLine ∧ Vals xs its.toList
def LstK (K : Kf) (a : Addr) (xs : List V) : Prop :=
  ∃ (o : Obj) (its : Array Value) (n : Nat), K.lookup a = some o ∧ o.cls = .type "list" ∧ o.dict = none ∧ o.data = .seq its n ∧ its.size ≤ sizeLine ∧ Vals xs its.toList
def SqT' (K : Kf) (S : Sk) (H : Hp) (a : Addr) (xs : List V) : Prop := (Rd H a (.tup xs) ∧ S.no a) ∨ TupK K a xs
theorem SqT'.sq {K : Kf} {S : Sk} {H : Hp} {a : Addr} {xs : List V} (h : SqT' K S H a xs) : SqT K H a xs := by
  rcases h with ⟨h, _⟩ | h
  · exact .inl h
  · exact .inr h
mutual
inductive RP (K : Kf) (S : Sk) (H : Hp) : PyData → V → Prop
  | non : RP K S H .none .non
  | bl (b : Bool) : RP K S H (.bool b) (.bl b)
  | int (i : Int) : RP K S H (.int i) (.int i)
  | str (x : Str) : RP K S H (.str x) (.str x)
  | lst {a : Addr} {xs : List V} {ds : List PyData} : Rd H a (.lst xs) → S.no a → RPs K S H ds xs → RP K S H (.list ds) (.ref a)
  | tup {a : Addr} {xs : List V} {ds : List PyData} : SqT' K S H a xs → RPs K S H ds xs → RP K S H (.tuple ds) (.ref a)
  | dct {a : Addr} {kvs : List (Key × V)} {ds : List (PyData × PyData)} : H a = some (.dK kvs) → S.no a → RKs K S H ds kvs → RP K S H (.dict ds) (.ref a)
inductive RPs (K : Kf) (S : Sk) (H : Hp) : List PyData → List V → Prop
  | nil : RPs K S H [] []
  | cons {d : PyData} {v : V} {ds : List PyData} {vs : List V} : RP K S H d v → RPs K S H ds vs → RPs K S H (d :: ds) (v :: vs)
inductive RKs (K : Kf) (S : Sk) (H : Hp) : List (PyData × PyData) → List (Key × V) → Prop
  | nil : RKs K S H [] []
  | int {i : Int} {d : PyData} {v : V} {ds : List (PyData × PyData)} {vs : List (Key × V)} : RP K S H d v → RKs K S H ds vs → RKs K S H ((.int i, d) :: ds) ((.inl i, v) :: vs)
  | str {i : Str} {d : PyData} {v : V} {ds : List (PyData × PyData)} {vs : List (Key × V)} : RP K S H d v → RKs K S H ds vs → RKs K S H ((.str i, d) :: ds) ((.inr i, v) :: vs)
end
section
variable {K : Kf} {S S' : Sk} {H H' : Hp}
/-- what data lean on is kept -/
structure Kp (S : Sk) (H : Hp) (S' : Sk) (H' : Hp) : Prop where
  no : ∀ a, H a ≠ none → S.no a → S'.no a
  keep : ∀ a o, H a = some o → (∀ ps, o ≠ .tbl ps) → S.no a → H' a = some o
theorem rd_some {a : Addr} {u : HO} (h : Rd H a u) : H a ≠ none := by
  rcases h with h | ⟨o, h⟩ <;> rw [h] <;> exact Option.some_ne_none _
theorem Kp.rd (k : Kp S H S' H') {a : Addr} {u : HO} (h : Rd H a u) (n : S.no a) (hu : ∀ ps, u ≠ .tbl ps := by intro _ z; cases z) : Rd H' a u := by
  rcases h with h | ⟨o, h⟩
  · exact .inl (k.keep _ _ h hu n)
  · exact .inr ⟨o, k.keep _ _ h (fun _ z => by cases z) n⟩
mutual
theorem RP.kp (k : Kp S H S' H') : ∀ {x : PyData} {v : V}, RP K S H x v → RP K S' H' x v
  | _, _, .non => .non
  | _, _, .bl b => .bl b
  | _, _, .int b => .int b
  | _, _, .str b => .str b
  | _, _, .lst r n h => .lst (k.rd r n) (k.no _ (rd_some r) n) (RPs.kp k h)
  | _, _, .tup r h => .tup (by
      rcases r with ⟨r, n⟩ | r
      · exact .inl ⟨k.rd r n, k.no _ (rd_some r) n⟩
      · exact .inr r) (RPs.kp k h)
  | _, _, .dct r n h => .dct (k.keep _ _ r (fun _ z => by cases z) n) (k.no _ (by rw [r]; exact Option.some_ne_none _) n) (RKs.kp k h)
theorem RPs.kp (k : Kp S H S' H') : ∀ {x : List PyData} {v : List V}, RPs K S H x v → RPs K S' H' x v
  | _, _, .nil => .nil
  | _, _, .cons a b => .cons (RP.kp k a) (RPs.kp k b)
theorem RKs.kp (k : Kp S H S' H') : ∀ {x : List (PyData × PyData)} {v : List (Key × V)}, RKs K S H x v → RKs K S' H' x v
  | _, _, .nil => .nil
  | _, _, .int a b => .int (RP.kp k a) (RKs.kp k b)
  | _, _, .str a b => .str (RP.kp k a) (RKs.kp k b)
end
theorem RP.anti (h : ∀ a, S.no a → S'.no a) {x : PyData} {v : V} (r : RP K S H x v) : RP K S' H x v := r.kp ⟨fun a _ n => h a n, fun _ _ e _ _ => e⟩
theorem RPs.anti (h : ∀ a, S.no a → S'.no a) {x : List PyData} {v : List V} (r : RPs K S H x v) : RPs K S' H x v := r.kp ⟨fun a _ n => h a n, fun _ _ e _ _ => e⟩
theorem RP.r0 {x : PyData} {v : V} (r : RP K S H x v) : RP K S0 H x v := r.anti fun a _ => no0 a
theorem RPs.r0 {x : List PyData} {v : List V} (r : RPs K S H x v) : RPs K S0 H x v := r.anti fun a _ => no0 a
theorem RPs.length : ∀ {x : List PyData} {v : List V}, RPs K S H x v → x.length = v.length
  | _, _, .nil => rfl
  | _, _, .cons _ b => congrArg (· + 1) b.length
theorem RPs.get : ∀ {x : List PyData} {v : List V} {i : Nat} {d : PyData}, RPs K S H x v → x[i]? = some d → ∃ u, v[i]? = some u ∧ RP K S H d u
  | _, _, i, _, .nil, e => by simp at e
  | _, _, 0, _, .cons a _, e => by simp at e; subst e; exact ⟨_, rfl, a⟩
  | _, _, i + 1, _, .cons _ b, e => by
    obtain ⟨u, h1, h2⟩ := RPs.get (i := i) b (by simpa using e)
    exact ⟨u, by simpa using h1, h2⟩
theorem RPs.app : ∀ {x y : List PyData} {v w : List V}, RPs K S H x v → RPs K S H y w → RPs K S H (x ++ y) (v ++ w)
  | _, _, _, _, .nil, s => s
  | _, _, _, _, .cons a b, s => .cons a (RPs.app b s)
theorem RPs.take : ∀ {x : List PyData} {v : List V} (n : Nat), RPs K S H x v → RPs K S H (x.take n) (v.take n)
  | _, _, 0, _ => .nil
  | _, _, _ + 1, .nil => .nil
  | _, _, n + 1, .cons a b => .cons a (RPs.take n b)
theorem RPs.drop : ∀ {x : List PyData} {v : List V} (n : Nat), RPs K S H x v → RPs K S H (x.drop n) (v.drop n)
  | _, _, 0, r => r
  | _, _, _ + 1, .nil => .nil
  | _, _, n + 1, .cons _ b => RPs.drop n b
theorem RPs.set {d : PyData} {u : V} (r : RP K S H d u) : ∀ {x : List PyData} {v : List V} (i : Nat), RPs K S H x v → RPs K S H (x.set i d) (v.set i u)
  | _, _, _, .nil => .nil
  | _, _, 0, .cons _ b => .cons r b
  | _, _, i + 1, .cons a b => .cons a (RPs.set r i b)
theorem RPs.rep {x : List PyData} {v : List V} (r : RPs K S H x v) : ∀ n : Nat, RPs K S H (List.replicate n x).flatten (List.replicate n v).flatten
  | 0 => .nil
  | n + 1 => by
    rw [List.replicate_succ, List.replicate_succ, List.flatten_cons, List.flatten_cons]
    exact r.app (RPs.rep r n)
theorem RPs.cut {x : List PyData} {v : List V} (r : RPs K S H x v) (lo hi : Option Int) : RPs K S H (cut x lo hi) (cutV v lo hi) := by
  unfold Mi.cut cutV
  rw [r.length]
  exact (r.drop _).take _
end
/-! ### dicts are read too -/
section
variable {X : Cx} {pins : List (Addr × Obj)} {σ : L2.St} {H : Hp} {s : Shared} {S : Sk}
mutual
theorem RP.reads (I : Inv X pins σ H s) : ∀ (x : PyData) (v : V) (u : Value), RP X.K S H x v → RelV v u → ∃ as, Reads s.heap u x as ∧ (noLst x = true → sysModules ∉ as)
  | .none, _, _, h, r => by cases h; cases r; exact ⟨_, Reads.none, fun _ => by simp⟩
  | .bool b, _, _, h, r => by cases h; cases r; exact ⟨_, Reads.bool b, fun _ => by simp⟩
  | .int i, _, _, h, r => by cases h; obtain ⟨t, rfl⟩ := r; exact ⟨_, Reads.int i t, fun _ => by simp⟩
  | .str i, _, _, h, r => by cases h; obtain ⟨t, rfl⟩ := r; exact ⟨_, Reads.str i t, fun _ => by simp⟩
  | .list ds, _, _, h, r => by
    cases h with
    | lst hs _ ha =>
      cases r
      obtain ⟨its, rv, ⟨o, n, ho, hc, _, hd⟩, _⟩ := I.list (.inl hs)
      obtain ⟨as, hr, _⟩ := RPs.reads I ds _ its ha rv
      exact ⟨_, Reads.list ho hc hd hr, fun z => by simp [noLst] at z⟩
  | .tuple ds, _, _, h, r => by
    cases h with
    | tup hs ha =>
      cases r
      obtain ⟨its, rv, ⟨o, ho, hc, n, hd⟩, _⟩ := I.tuple hs.sq
      obtain ⟨as, hr, q⟩ := RPs.reads I ds _ its ha rv
      exact ⟨_, Reads.tuple ho hc hd hr, fun z => q (by simpa [noLst] using z)⟩
  | .dict ds, _, _, h, r => by
    cases h with
    | dct hs _ ha =>
      cases r
      obtain ⟨_, hsm, vs, kv, o, es, ep, ho, hx, hd, _, hp, _⟩ := I.hok _ _ hs
      obtain ⟨as, bs, h1, h2, q⟩ := RKs.reads I ds _ vs es.toList ha kv hp
      refine ⟨_, Reads.dict ho hx.1 hd h1 h2, fun z => ?_⟩
      obtain ⟨q1, q2⟩ := q (by simpa [noLst] using z)
      have := beq_eq_false_iff_ne.mp hsm
      simp only [List.cons_append, List.mem_cons, List.mem_append, not_or]
      exact ⟨fun e => this e.symm, q1, q2⟩
theorem RPs.reads (I : Inv X pins σ H s) : ∀ (x : List PyData) (v : List V) (u : List Value), RPs X.K S H x v → Vals v u → ∃ as, ReadsAll s.heap u x as ∧ (noLstA x = true → sysModules ∉ as)
  | [], _, _, h, r => by cases h; cases r; exact ⟨_, ReadsAll.nil, fun _ => by simp⟩
  | d :: ds, _, _, h, r => by
    cases h with
    | cons h1 h2 =>
      cases r with
      | cons r1 r2 =>
        obtain ⟨as, q1, n1⟩ := RP.reads I d _ _ h1 r1
        obtain ⟨bs, q2, n2⟩ := RPs.reads I ds _ _ h2 r2
        refine ⟨_, ReadsAll.cons q1 q2, fun z => ?_⟩
        have z' : noLst d = true ∧ noLstA ds = true := by simpa [noLstA] using z
        simp [n1 z'.1, n2 z'.2]
theorem RKs.reads (I : Inv X pins σ H s) : ∀ (x : List (PyData × PyData)) (v : List (Key × V)) (u : List (Key × Value)) (es : List DictEntry), RKs X.K S H x v → KV v u → Pairs (mixKind X.prog X.w) es u →
    ∃ as bs, ReadsAll s.heap (es.map (·.key)) (x.map (·.1)) as ∧ ReadsAll s.heap (es.map (·.val)) (x.map (·.2)) bs ∧ (noLstK x = true → sysModules ∉ as ∧ sysModules ∉ bs)
  | [], _, _, _, h, r, p => by cases h; cases r; cases p; exact ⟨_, _, ReadsAll.nil, ReadsAll.nil, fun _ => by simp⟩
  | (a, d) :: ds, _, _, _, h, r, p => by
    cases h with
    | int h1 h2 =>
      cases r with
      | cons r1 r2 =>
        cases p with
        | cons k1 k2 k3 =>
          obtain ⟨as, q1, n1⟩ := RP.reads I d _ _ h1 r1.2
          obtain ⟨bs, cs, q2, q3, n2⟩ := RKs.reads I ds _ _ _ h2 r2 k3
          rw [← r1.1] at k1
          obtain ⟨t, e⟩ := Value.isInt_shape k1
          refine ⟨_, _, ReadsAll.cons (e ▸ Reads.int _ t) q2, ReadsAll.cons (show Reads s.heap _ d as by dsimp only; rw [k2]; exact q1) q3, fun z => ?_⟩
          have z' : noLst d = true ∧ noLstK ds = true := by simpa [noLstK] using z
          have := n2 z'.2
          simp [n1 z'.1, this.1, this.2]
    | str h1 h2 =>
      cases r with
      | cons r1 r2 =>
        cases p with
        | cons k1 k2 k3 =>
          obtain ⟨as, q1, n1⟩ := RP.reads I d _ _ h1 r1.2
          obtain ⟨bs, cs, q2, q3, n2⟩ := RKs.reads I ds _ _ _ h2 r2 k3
          rw [← r1.1] at k1
          obtain ⟨t, e⟩ := Value.isStrOf_shape k1
          refine ⟨_, _, ReadsAll.cons (e ▸ Reads.str _ t) q2, ReadsAll.cons (show Reads s.heap _ d as by dsimp only; rw [k2]; exact q1) q3, fun z => ?_⟩
          have z' : noLst d = true ∧ noLstK ds = true := by simpa [noLstK] using z
          have := n2 z'.2
          simp [n1 z'.1, this.1, this.2]
end
end

/-! ### states -/
structure Stp (S : Sk) (H : Hp) (S' : Sk) (H' : Hp) : Prop where
  len : S.L.length ≤ S'.L.length
  old : ∀ (i : Nat) (a : Addr), i < S.L.length → S'.L[i]? = some (some a) → S.L[i]? = some (some a)
  new : ∀ a, some a ∈ S'.L → some a ∈ S.L ∨ H a = none
  z : (∀ a, a ∈ S.Z → a ∈ S'.Z) ∧ ∀ a, a ∈ S'.Z → a ∈ S.Z ∨ H a = none
  keep : ∀ a o, H a = some o → (∀ ps, o ≠ .tbl ps) → some a ∉ S.L → H' a = some o
  live : ∀ a, H' a = none → H a = none
section
variable {K : Kf} {S S' S'' : Sk} {H H' H'' : Hp}
theorem Stp.refl : Stp S H S H := ⟨Nat.le_refl _, fun _ _ _ h => h, fun _ h => .inl h, ⟨fun _ h => h, fun _ h => .inl h⟩, fun _ _ h _ _ => h, fun _ h => h⟩
theorem Stp.kp (t : Stp S H S' H') : Kp S H S' H' := by
  refine ⟨fun a ha n => ⟨fun h => ?_, fun h => (t.z.2 a h).elim n.2 ha⟩, fun a o h nt n => t.keep a o h nt n.1⟩
  rcases t.new a h with h | h
  · exact n.1 h
  · exact ha h
theorem Stp.trans (t : Stp S H S' H') (u : Stp S' H' S'' H'') : Stp S H S'' H'' where
  len := Nat.le_trans t.len u.len
  old := fun i a h e => t.old i a h (u.old i a (Nat.lt_of_lt_of_le h t.len) e)
  new := fun a h => by
    rcases u.new a h with h | h
    · exact t.new a h
    · exact .inr (t.live a h)
  z := ⟨fun a h => u.z.1 a (t.z.1 a h), fun a h => by
    rcases u.z.2 a h with h | h
    · exact t.z.2 a h
    · exact .inr (t.live a h)⟩
  keep := fun a o h nt n => u.keep a o (t.keep a o h nt n) nt fun h' => by
    rcases t.new a h' with h' | h'
    · exact n h'
    · rw [h'] at h; cases h
  live := fun a h => t.live a (u.live a h)
def RD (K : Kf) (S : Sk) (H : Hp) : D → V → Prop
  | .p x, v => RP K S H x v
  | .ref i, v => i < S.L.length ∧ ∀ a, S.L[i]? = some (some a) → v = .ref a
  | .scr ns, v => ∃ a, v = .ref a ∧ ((Rd H a (.lst (ns.map V.int)) ∧ S.no a) ∨ LstK K a (ns.map V.int))
abbrev RDs (K : Kf) (S : Sk) (H : Hp) : List D → List V → Prop := Paired (RD K S H)
theorem RP.mono (t : Stp S H S' H') {x : PyData} {v : V} (r : RP K S H x v) : RP K S' H' x v := r.kp t.kp
theorem RPs.mono (t : Stp S H S' H') {x : List PyData} {v : List V} (r : RPs K S H x v) : RPs K S' H' x v := r.kp t.kp
theorem RD.mono (t : Stp S H S' H') {d : D} {v : V} (r : RD K S H d v) : RD K S' H' d v := by
  cases d with
  | p x => exact RP.mono (K := K) t r
  | ref i => exact ⟨Nat.lt_of_lt_of_le r.1 t.len, fun a e => r.2 a (t.old i a r.1 e)⟩
  | scr ns =>
    obtain ⟨a, e, h⟩ := r
    refine ⟨a, e, ?_⟩
    rcases h with ⟨h, n⟩ | h
    · exact .inl ⟨t.kp.rd h n, t.kp.no _ (rd_some h) n⟩
    · exact .inr h
theorem RDs.mono (t : Stp S H S' H') : ∀ {ds : List D} {vs : List V}, RDs K S H ds vs → RDs K S' H' ds vs
  | _, _, .nil => .nil
  | _, _, .cons a b => .cons (RD.mono t a) (RDs.mono t b)
structure Sl (K : Kf) (S : Sk) (H : Hp) (ρ : Env) (σ : L2.St) : Prop where
  len : ρ.length = σ.length
  at' : ∀ (i : Nat) (d : D), ρ[i]? = some (some d) → ∃ v, σ[i]? = some (some v) ∧ RD K S H d v
theorem Sl.mono (t : Stp S H S' H') {ρ : Env} {σ : L2.St} (r : Sl K S H ρ σ) : Sl K S' H' ρ σ :=
  ⟨r.len, fun i d e => let ⟨v, e1, e2⟩ := r.at' i d e; ⟨v, e1, e2.mono t⟩⟩
theorem Sl.set {ρ : Env} {σ : L2.St} (r : Sl K S H ρ σ) (i : Nat) {d : D} {v : V} (q : RD K S H d v) : Sl K S H (ρ.set i (some d)) (σ.set i (some v)) := by
  refine ⟨by simp [r.len], fun j e h => ?_⟩
  by_cases hj : i = j
  · subst hj
    by_cases hi : i < ρ.length
    · rw [List.getElem?_set_self hi] at h
      have := Option.some.inj (Option.some.inj h)
      subst this
      exact ⟨v, by rw [List.getElem?_set_self (by rw [← r.len]; exact hi)], q⟩
    · rw [List.getElem?_eq_none (by simpa using hi)] at h; cases h
  · rw [List.getElem?_set_ne hj] at h ⊢
    exact r.at' j e h
theorem Sl.wipe {ρ : Env} {σ : L2.St} (r : Sl K S H ρ σ) : ∀ vs : List Nat, Sl K S H (wipeE ρ vs) (L2.wipe σ vs)
  | [] => r
  | v :: vs => by
    have ih := Sl.wipe r vs
    unfold wipeE L2.wipe
    refine ⟨by simp [ih.len], fun j e h => ?_⟩
    by_cases hj : v = j
    · subst hj
      by_cases hi : v < (wipeE ρ vs).length
      · rw [List.getElem?_set_self hi] at h; cases h
      · rw [List.getElem?_eq_none (by simpa using hi)] at h; cases h
    · rw [List.getElem?_set_ne hj] at h ⊢
      exact ih.at' j e h
/-- what stands at a fixed place -/
inductive FKR (K : Kf) (S : Sk) (H : Hp) (i : Nat) : FK → V → Prop
  | d {x : PyData} {v : V} : RP K S H x v → FKR K S H i (.d x) v
  | s {k : Nat} {v : V} : k < i → (∀ b, S.L[i - 1 - k]? = some (some b) → v = .ref b) → FKR K S H i (.s k) v
inductive FKRs (K : Kf) (S : Sk) (H : Hp) (i : Nat) : List (Str × FK) → List V → Prop
  | nil : FKRs K S H i [] []
  | cons {x : Str} {k : FK} {v : V} {ks : List (Str × FK)} {vs : List V} : FKR K S H i k v → FKRs K S H i ks vs → FKRs K S H i ((x, k) :: ks) (v :: vs)
/-- the classes whose instances stand in cells, by number -/
def clsNm (c : Nat) : Str := match c with
  | 0 => "Run"
  | 1 => "Graph"
  | _ => "House"
/-- where a class stands -/
def Adr (K : Kf) (c : Nat) : Addr := match PySem.W.nsIn K mainGlobals (clsNm c) with
  | some (some (.ref C)) => C
  | _ => 0
/-- how a cell stands -/
def CeR (K : Kf) (S : Sk) (H : Hp) (i : Nat) (c : MO) (a : Addr) : Prop := match c with
  | .lst xs => ∃ vs, H a = some (.lst vs) ∧ RPs K S H xs vs
  | .dead => True
  | .hdr c ks => ∃ vs, FKRs K S H i ks vs ∧ (match c with
    | 0 => H a = some (.lst vs)
    | c + 1 => ∃ dx, H a = some (.ins (Adr K c) dx ((ks.map (·.1)).zip vs)))
  | .dct kvs => ∃ vs, H a = some (.dK vs) ∧ RKs K S H kvs vs
theorem FKR.gen (k : Kp S H S' H') {i : Nat} (hL : ∀ (j : Nat) (b : Addr), j < i → S'.L[j]? = some (some b) → S.L[j]? = some (some b)) {c : FK} {v : V} (h : FKR K S H i c v) : FKR K S' H' i c v := by
  cases h with
  | d r => exact .d (r.kp k)
  | s h1 h2 => exact .s h1 fun b e => h2 b (hL _ b (by omega) e)
theorem FKRs.gen (k : Kp S H S' H') {i : Nat} (hL : ∀ (j : Nat) (b : Addr), j < i → S'.L[j]? = some (some b) → S.L[j]? = some (some b)) {ks : List (Str × FK)} {vs : List V} (h : FKRs K S H i ks vs) : FKRs K S' H' i ks vs := by
  induction h with
  | nil => exact .nil
  | cons a b ih => exact .cons (a.gen k hL) ih
theorem CeR.gen (k : Kp S H S' H') {i : Nat} (hL : ∀ (j : Nat) (b : Addr), j < i → S'.L[j]? = some (some b) → S.L[j]? = some (some b)) {c : MO} {a : Addr} (ho : ∀ o, (∀ ps, o ≠ .tbl ps) → H a = some o → H' a = some o) (h : CeR K S H i c a) : CeR K S' H' i c a := by
  cases c with
  | lst xs => obtain ⟨vs, h1, h2⟩ := h; exact ⟨vs, ho _ (fun _ z => by cases z) h1, h2.kp k⟩
  | dead => trivial
  | dct xs => obtain ⟨vs, h1, h2⟩ := h; exact ⟨vs, ho _ (fun _ z => by cases z) h1, h2.kp k⟩
  | hdr c ks =>
    obtain ⟨vs, h1, h2⟩ := h
    refine ⟨vs, h1.gen k hL, ?_⟩
    cases c with
    | zero => exact ho _ (fun _ z => by cases z) h2
    | succ c => obtain ⟨dx, h2⟩ := h2; exact ⟨dx, ho _ (fun _ z => by cases z) h2⟩
theorem CeR.st (t : Stp S H S' H') {i : Nat} (hi : i < S.L.length) {c : MO} {a : Addr} (ho : ∀ o, H a = some o → H' a = some o) (h : CeR K S H i c a) : CeR K S' H' i c a :=
  h.gen t.kp (fun j b hj e => t.old j b (by omega) e) fun o _ => ho o
/-- the mutable objects as they stand -/
structure W (K : Kf) (S : Sk) (M : Mem) (H : Hp) : Prop where
  len : S.L.length = M.length
  nd : ∀ (i j : Nat) (a : Addr), S.L[i]? = some (some a) → S.L[j]? = some (some a) → i = j
  ob : ∀ (i : Nat) (a : Addr) (c : MO), S.L[i]? = some (some a) → M[i]? = some c → CeR K S H i c a
  al : ∀ a, some a ∈ S.L → H a ≠ none
  zl : ∀ a ∈ S.Z, H a ≠ none
  dj : ∀ a ∈ S.Z, some a ∉ S.L
  lv : ∀ (i : Nat) (c : MO), M[i]? = some c → c ≠ .dead → ∃ a, S.L[i]? = some (some a)
  tb : LamX.Tabs (tabT K) H
variable {M : Mem}
theorem FKRs.length {i : Nat} {ks : List (Str × FK)} {vs : List V} (h : FKRs K S H i ks vs) : ks.length = vs.length := by
  induction h with
  | nil => rfl
  | cons _ _ ih => simp [ih]
theorem FKRs.get {i : Nat} {ks : List (Str × FK)} {vs : List V} (h : FKRs K S H i ks vs) : ∀ {n : Nat} {p : Str × FK}, ks[n]? = some p → ∃ v, vs[n]? = some v ∧ FKR K S H i p.2 v := by
  induction h with
  | nil => intro n p h; simp at h
  | cons a b ih =>
    intro n p h
    cases n with
    | zero => simp at h; subst h; exact ⟨_, rfl, a⟩
    | succ n =>
      obtain ⟨v, h1, h2⟩ := ih (by simpa using h)
      exact ⟨v, by simpa using h1, h2⟩
theorem FKRs.look {i : Nat} {ks : List (Str × FK)} {vs : List V} (h : FKRs K S H i ks vs) (x : Str) : (∀ k, ks.lookup x = some k → ∃ v, ((ks.map (·.1)).zip vs).lookup x = some v ∧ FKR K S H i k v) ∧ (ks.lookup x = none → ((ks.map (·.1)).zip vs).lookup x = none) := by
  induction h with
  | nil => exact ⟨(fun k e => by cases e), fun _ => rfl⟩
  | @cons y k v ks vs a b ih =>
    simp only [List.map_cons, List.zip_cons_cons, List.lookup_cons]
    cases e : x == y with
    | true => exact ⟨(fun k' e' => by cases e'; exact ⟨v, rfl, a⟩), (fun e' => by cases e')⟩
    | false => exact ih
theorem FKRs.set {i : Nat} {ks : List (Str × FK)} {vs : List V} (h : FKRs K S H i ks vs) {n : Nat} {y : Str} {u : FK} (hn : ks[n]? = some (y, u)) {x : PyData} {v : V} (r : RP K S H x v) : FKRs K S H i (ks.set n (y, .d x)) (vs.set n v) := by
  induction h generalizing n with
  | nil => simp at hn
  | cons a b ih =>
    cases n with
    | zero => cases (Option.some.inj (show some _ = some _ from hn)); exact .cons (.d r) b
    | succ n => exact .cons a (ih (by simpa using hn))
theorem FKRs.setF {i : Nat} {ks : List (Str × FK)} {vs : List V} (h : FKRs K S H i ks vs) {x : Str} (hx : (ks.lookup x).isSome = true) {y : PyData} {v : V} (r : RP K S H y v) : ∃ vs', FKRs K S H i (Mi.setF x (.d y) ks) vs' ∧ putF x v ((ks.map (·.1)).zip vs) = ((Mi.setF x (.d y) ks).map (·.1)).zip vs' := by
  induction h with
  | nil => cases hx
  | @cons z k u ks vs a b ih =>
    by_cases e : z = x
    · refine ⟨v :: vs, ?_, ?_⟩
      · rw [Mi.setF, if_pos e]; exact .cons (.d r) b
      · rw [Mi.setF, if_pos e]
        simp only [List.map_cons, List.zip_cons_cons]
        show (if z = x then _ else _) = _
        rw [if_pos e]
    · have hx' : (ks.lookup x).isSome = true := by
        rw [List.lookup_cons, show (x == z) = false from beq_false_of_ne fun h => e h.symm] at hx
        exact hx
      obtain ⟨vs', h1, h2⟩ := ih hx'
      refine ⟨u :: vs', ?_, ?_⟩
      · rw [Mi.setF, if_neg e]; exact .cons a h1
      · rw [Mi.setF, if_neg e]
        simp only [List.map_cons, List.zip_cons_cons]
        show (if z = x then _ else _) = _
        rw [if_neg e, h2]
theorem RKs.has : ∀ {kvs : List (PyData × PyData)} {vs : List (Key × V)}, RKs K S H kvs vs → ∀ k : Int, (valV vs (.inl k)).isSome = dHas kvs k
  | _, _, .nil, k => rfl
  | _, _, @RKs.int _ _ _ i d v ds vs a b, k => by
    have ih := RKs.has b k
    show (valV ((Sum.inl i, v) :: vs) (.inl k)).isSome = (decide (i = k) || dHas ds k)
    by_cases e : i = k
    · rw [valV_pos (by rw [e])]; simp [e]
    · rw [valV_neg (by simpa using e), ih]; simp [e]
  | _, _, @RKs.str _ _ _ i d v ds vs a b, k => by
    have ih := RKs.has b k
    show (valV ((Sum.inr i, v) :: vs) (.inl k)).isSome = (false || dHas ds k)
    rw [valV_neg (by simp), ih]; rfl
theorem RKs.app1 : ∀ {kvs : List (PyData × PyData)} {vs : List (Key × V)}, RKs K S H kvs vs → ∀ {k : Int} {x : PyData} {v : V}, RP K S H x v → RKs K S H (kvs ++ [(.int k, x)]) (vs ++ [(.inl k, v)])
  | _, _, .nil, _, _, _, r => .int r .nil
  | _, _, .int a b, _, _, _, r => .int a (RKs.app1 b r)
  | _, _, .str a b, _, _, _, r => .str a (RKs.app1 b r)
theorem RKs.repl : ∀ {kvs : List (PyData × PyData)} {vs : List (Key × V)}, RKs K S H kvs vs → ∀ {k : Int} {x : PyData} {v : V}, RP K S H x v → RKs K S H (kvs.map (fun p => if isK k p.1 then (p.1, x) else p)) (vs.map (fun kv => if kv.1 = .inl k then (kv.1, v) else kv))
  | _, _, .nil, _, _, _, r => .nil
  | _, _, @RKs.int _ _ _ i d w ds vs a b, k, x, v, r => by
    have h1 : (if isK k (PyData.int i) = true then (PyData.int i, x) else (PyData.int i, d)) = (PyData.int i, if i = k then x else d) := by by_cases e : i = k <;> simp [isK, e]
    have h2 : (if (Sum.inl i : Key) = Sum.inl k then ((Sum.inl i : Key), v) else (Sum.inl i, w)) = (Sum.inl i, if i = k then v else w) := by by_cases e : i = k <;> simp [e]
    rw [List.map_cons, List.map_cons]
    show RKs K S H ((if isK k (PyData.int i) = true then (PyData.int i, x) else (PyData.int i, d)) :: _) ((if (Sum.inl i : Key) = Sum.inl k then ((Sum.inl i : Key), v) else (Sum.inl i, w)) :: _)
    rw [h1, h2]
    refine .int ?_ (RKs.repl b r)
    by_cases e : i = k
    · rw [if_pos e, if_pos e]; exact r
    · rw [if_neg e, if_neg e]; exact a
  | _, _, @RKs.str _ _ _ i d w ds vs a b, k, x, v, r => by
    rw [List.map_cons, List.map_cons]
    show RKs K S H ((PyData.str i, d) :: _) ((if (Sum.inr i : Key) = Sum.inl k then ((Sum.inr i : Key), v) else (Sum.inr i, w)) :: _)
    rw [if_neg (by simp)]
    exact .str a (RKs.repl b r)
theorem RKs.any {kvs : List (PyData × PyData)} {vs : List (Key × V)} (r : RKs K S H kvs vs) (k : Int) : (vs.any fun kv => decide (kv.1 = .inl k)) = dHas kvs k := by
  rw [← r.has k]
  unfold valV
  rw [Option.isSome_map]
  induction vs with
  | nil => rfl
  | cons p ps ih =>
    rw [List.any_cons, List.find?_cons]
    cases h : decide (p.1 = Sum.inl k) with
    | true => rfl
    | false =>
      simp only [Bool.false_or]
      clear r ih
      induction ps with
      | nil => rfl
      | cons q qs ih =>
        rw [List.any_cons, List.find?_cons]
        cases h : decide (q.1 = Sum.inl k) with
        | true => rfl
        | false => simpa using ih
theorem RKs.put {kvs : List (PyData × PyData)} {vs : List (Key × V)} (r : RKs K S H kvs vs) {k : Int} {x : PyData} {v : V} (rv : RP K S H x v) : RKs K S H (dPut kvs k x) (putK vs (.inl k) v) := by
  unfold dPut putK
  rw [r.any k]
  split
  · exact r.repl rv
  · exact r.app1 rv
theorem RKs.length : ∀ {kvs : List (PyData × PyData)} {vs : List (Key × V)}, RKs K S H kvs vs → kvs.length = vs.length
  | _, _, .nil => rfl
  | _, _, .int _ b => congrArg (· + 1) b.length
  | _, _, .str _ b => congrArg (· + 1) b.length
theorem W.obl (w : W K S M H) (i : Nat) (a : Addr) (xs : List PyData) (h1 : S.L[i]? = some (some a)) (h2 : M[i]? = some (.lst xs)) : ∃ vs, H a = some (.lst vs) ∧ RPs K S H xs vs := w.ob i a _ h1 h2
theorem W.lvl (w : W K S M H) (i : Nat) (xs : List PyData) (h : M[i]? = some (.lst xs)) : ∃ a, S.L[i]? = some (some a) := w.lv i _ h (fun e => by cases e)
theorem mem_L {L : List (Option Addr)} {a : Addr} (h : some a ∈ L) : ∃ i : Nat, L[i]? = some (some a) := List.getElem?_of_mem h
theorem L_mem {L : List (Option Addr)} {i : Nat} {a : Addr} (h : L[i]? = some (some a)) : some a ∈ L := List.mem_of_getElem? h
/-- what is read of a value -/
theorem RKs.r0 {x : List (PyData × PyData)} {v : List (Key × V)} (r : RKs K S H x v) : RKs K S0 H x v := r.kp ⟨fun a _ _ => no0 a, fun _ _ e _ _ => e⟩
theorem dat_ok (w : W K S M H) {d : D} {v : V} {x : PyData} (r : RD K S H d v) (e : dat M d = some x) : RP K S0 H x v := by
  cases d with
  | p y => cases e; exact RP.r0 (K := K) r
  | ref i =>
    unfold dat at e
    try dsimp only at e
    split at e
    · rename_i xs hm
      cases e
      obtain ⟨a, ha⟩ := w.lvl i xs hm
      obtain ⟨vs, h1, h2⟩ := w.obl i a xs ha hm
      rw [r.2 a ha]
      exact .lst (.inl h1) (no0 a) h2.r0
    · rename_i xs hm
      cases e
      obtain ⟨a, ha⟩ := w.lv i _ hm (fun e => by cases e)
      obtain ⟨vs, h1, h2⟩ : ∃ vs, H a = some (.dK vs) ∧ RKs K S H xs vs := w.ob i a _ ha hm
      rw [r.2 a ha]
      exact .dct h1 (no0 a) h2.r0
    · cases e
  | scr ns => cases e
/-- another place of the abstract heap is new -/
theorem Stp.fresh {p : Addr} {o : HO} (n : H p = none) : Stp S H S (upd H p o) :=
  ⟨Nat.le_refl _, fun _ _ _ h => h, fun _ h => .inl h, ⟨fun _ h => h, fun _ h => .inl h⟩, fun a u h _ _ => by rw [upd_ne (ne_of_none h n)]; exact h, fun a h => by
    by_cases e : a = p
    · subst e; exact n
    · rw [upd_ne e] at h; exact h⟩
theorem W.step_same (w : W K S M H) (t : Stp S H S H') (k : ∀ a o, some a ∈ S.L → H a = some o → H' a = some o) (tb : LamX.Tabs (tabT K) H') : W K S M H' where
  len := w.len
  nd := w.nd
  ob := fun i a c h1 h2 => (w.ob i a c h1 h2).st t (List.getElem?_eq_some_iff.1 h1).1 fun o => k a o (L_mem h1)
  al := fun a h e => w.al a h (t.live a e)
  zl := fun a h e => w.zl a h (t.live a e)
  dj := w.dj
  lv := w.lv
  tb := tb
theorem W.fresh (w : W K S M H) {p : Addr} {o : HO} (n : H p = none) : W K S M (upd H p o) :=
  w.step_same (Stp.fresh n) (fun a u _ h => by rw [upd_ne (ne_of_none h n)]; exact h) (tabs_new w.tb n)
/-- the walk goes on from the value that alloc gives -/
theorem alloc_ok (w : W K S M H) {p : Addr} {vs : List V} {xs : List PyData} (n : H p = none) (r : RPs K S H xs vs) {mt : Bool} {d : D} {M' : Mem} (e : alloc mt xs M = .ok d M') :
    ∃ S', Stp S H S' (upd H p (.lst vs)) ∧ W K S' M' (upd H p (.lst vs)) ∧ RD K S' (upd H p (.lst vs)) d (.ref p) := by
  have st : Stp S H S (upd H p (.lst vs)) := Stp.fresh n
  have np : some p ∉ S.L := fun h => w.al p h n
  have nz : p ∉ S.Z := fun h => w.zl p h n
  unfold alloc at e
  cases mt with
  | false =>
    simp only [Bool.false_eq_true, if_false, Res.ok.injEq] at e
    obtain ⟨rfl, rfl⟩ := e
    exact ⟨S, st, w.fresh n, .lst (.inl upd_same) ⟨np, nz⟩ (r.mono st)⟩
  | true =>
    simp only [if_true, Res.ok.injEq] at e
    obtain ⟨rfl, rfl⟩ := e
    have st' : Stp S H ⟨S.L ++ [some p], S.Z⟩ (upd H p (.lst vs)) := by
      refine ⟨by simp, fun i a hi h => ?_, fun a h => ?_, ⟨fun _ h => h, fun _ h => .inl h⟩, st.keep, st.live⟩
      · simp only [] at h; rw [List.getElem?_append_left hi] at h; exact h
      · rcases List.mem_append.mp h with h | h
        · exact .inl h
        · have : a = p := by simpa using h
          subst this; exact .inr n
    refine ⟨⟨S.L ++ [some p], S.Z⟩, st', ⟨by simp [w.len], fun i j a h1 h2 => ?_, fun i a c' h1 h2 => ?_, fun a h => ?_, fun a h => ?_, fun a h h' => ?_, fun i c' h hnd => ?_, tabs_new w.tb n⟩, ?_⟩
    · have key : ∀ (i : Nat) a, (S.L ++ [some p])[i]? = some (some a) → (i < S.L.length ∧ S.L[i]? = some (some a)) ∨ (i = S.L.length ∧ a = p) := fun i a h => by
        by_cases hi : i < S.L.length
        · rw [List.getElem?_append_left hi] at h; exact .inl ⟨hi, h⟩
        · rw [List.getElem?_append_right (by omega)] at h
          have : i - S.L.length = 0 := by
            rcases Nat.eq_zero_or_pos (i - S.L.length) with z | z
            · exact z
            · rw [List.getElem?_eq_none (by simp; omega)] at h; cases h
          rw [this] at h
          have e : p = a := by simpa using h
          exact .inr ⟨by omega, e.symm⟩
      rcases key i a h1 with ⟨_, q1⟩ | ⟨e1, e1'⟩ <;> rcases key j a h2 with ⟨_, q2⟩ | ⟨e2, e2'⟩
      · exact w.nd i j a q1 q2
      · subst e2'; exact absurd (L_mem q1) np
      · subst e1'; exact absurd (L_mem q2) np
      · rw [e1, e2]
    · by_cases hi : i < S.L.length
      · simp only [] at h1
        rw [List.getElem?_append_left hi] at h1
        rw [List.getElem?_append_left (by rw [← w.len]; exact hi)] at h2
        exact (w.ob i a c' h1 h2).st st' hi fun o q1 => by rw [upd_ne (ne_of_none q1 n)]; exact q1
      · simp only [] at h1
        rw [List.getElem?_append_right (by omega)] at h1
        rw [List.getElem?_append_right (by rw [← w.len]; omega)] at h2
        have z : i - S.L.length = 0 := by
          rcases Nat.eq_zero_or_pos (i - S.L.length) with z | z
          · exact z
          · rw [List.getElem?_eq_none (by simp; omega)] at h1; cases h1
        rw [z] at h1
        rw [← w.len, z] at h2
        have e1 : p = a := by simpa using h1
        have e2 : MO.lst xs = c' := by simpa using h2
        subst e1; subst e2
        exact ⟨vs, upd_same, r.mono st'⟩
    · rcases List.mem_append.mp h with h | h
      · intro e; exact w.al a h (st.live a e)
      · have : a = p := by simpa using h
        subst this; rw [upd_same]; exact Option.some_ne_none _
    · intro e; exact w.zl a h (st.live a e)
    · rcases List.mem_append.mp h' with h' | h'
      · exact w.dj a h h'
      · have : a = p := by simpa using h'
        subst this; exact nz h
    · by_cases hi : i < M.length
      · rw [List.getElem?_append_left hi] at h
        obtain ⟨a, ha⟩ := w.lv i c' h hnd
        exact ⟨a, by show (S.L ++ [some p])[i]? = _; rw [List.getElem?_append_left (by rw [w.len]; exact hi)]; exact ha⟩
      · have hi2 : i = M.length := by
          rcases Nat.lt_or_ge i (M.length + 1) with z | z
          · omega
          · rw [List.getElem?_eq_none (by simpa using z)] at h; cases h
        exact ⟨p, by show (S.L ++ [some p])[i]? = _; rw [hi2, ← w.len]; simp⟩
    · refine ⟨by simp [w.len], fun a h => ?_⟩
      have : (S.L ++ [some p])[M.length]? = some (some p) := by rw [← w.len]; simp
      rw [this] at h
      have := Option.some.inj (Option.some.inj h)
      subst this; rfl
/-- a mutable list is written -/
theorem W.write (w : W K S M H) {i : Nat} {a : Addr} {xs ys : List PyData} {vs : List V} (ha : S.L[i]? = some (some a)) (hm : M[i]? = some (.lst xs)) (r : RPs K S H ys vs) :
    W K S (M.set i (.lst ys)) (upd H a (.lst vs)) ∧ Stp S H S (upd H a (.lst vs)) := by
  have ma := L_mem ha
  have st : Stp S H S (upd H a (.lst vs)) := ⟨Nat.le_refl _, fun _ _ _ h => h, fun _ h => .inl h, ⟨fun _ h => h, fun _ h => .inl h⟩, fun b o h _ nb => by
    rw [upd_ne (fun e : b = a => nb (by rw [e]; exact ma))]; exact h, fun b h => by
    by_cases e : b = a
    · subst e; rw [upd_same] at h; cases h
    · rw [upd_ne e] at h; exact h⟩
  have hi : i < M.length := (List.getElem?_eq_some_iff.mp hm).1
  refine ⟨⟨by simp [w.len], w.nd, fun j b zs h1 h2 => ?_, fun b h e => w.al b h (st.live b e), fun b h e => w.zl b h (st.live b e), w.dj, fun j zs h hnd => ?_, tabs_lst w.tb (w.obl i a xs ha hm).choose_spec.1⟩, st⟩
  · by_cases hj : i = j
    · subst hj
      rw [List.getElem?_set_self hi] at h2
      have e2 : MO.lst ys = zs := by simpa using h2
      rw [ha] at h1
      have e1 : a = b := by simpa using h1
      subst e1; subst e2
      exact ⟨vs, upd_same, r.mono st⟩
    · rw [List.getElem?_set_ne hj] at h2
      have : b ≠ a := fun e => by subst e; exact hj (w.nd i j b ha h1)
      exact (w.ob j b zs h1 h2).st st (List.getElem?_eq_some_iff.1 h1).1 fun o q1 => by rw [upd_ne this]; exact q1
  · by_cases hj : i = j
    · subst hj; exact ⟨a, ha⟩
    · rw [List.getElem?_set_ne hj] at h; exact w.lv j zs h hnd
theorem Stp.put {a : Addr} {o : HO} (ma : some a ∈ S.L) : Stp S H S (upd H a o) := ⟨Nat.le_refl _, fun _ _ _ h => h, fun _ h => .inl h, ⟨fun _ h => h, fun _ h => .inl h⟩, fun b o h _ nb => by
    rw [upd_ne (fun e : b = a => nb (by rw [e]; exact ma))]; exact h, fun b h => by
    by_cases e : b = a
    · subst e; rw [upd_same] at h; cases h
    · rw [upd_ne e] at h; exact h⟩
/-- any cell is written -/
theorem W.put (w : W K S M H) {i : Nat} {a : Addr} {c : MO} {o : HO} (ha : S.L[i]? = some (some a)) (hr : CeR K S (upd H a o) i c a) (tb : LamX.Tabs (tabT K) (upd H a o)) : W K S (M.set i c) (upd H a o) := by
  have ma := L_mem ha
  have st : Stp S H S (upd H a o) := .put ma
  have hi : i < M.length := by rw [← w.len]; exact (List.getElem?_eq_some_iff.mp ha).1
  refine ⟨by simp [w.len], w.nd, fun j b z h1 h2 => ?_, fun b h e => w.al b h (st.live b e), fun b h e => w.zl b h (st.live b e), w.dj, fun j z h hnd => ?_, tb⟩
  · by_cases hj : i = j
    · subst hj
      rw [List.getElem?_set_self hi] at h2
      cases h2
      rw [ha] at h1
      have e1 : a = b := by simpa using h1
      subst e1
      exact hr
    · rw [List.getElem?_set_ne hj] at h2
      have : b ≠ a := fun e => by subst e; exact hj (w.nd i j b ha h1)
      exact (w.ob j b z h1 h2).st st (List.getElem?_eq_some_iff.1 h1).1 fun o q1 => by rw [upd_ne this]; exact q1
  · by_cases hj : i = j
    · subst hj; exact ⟨a, ha⟩
    · rw [List.getElem?_set_ne hj] at h; exact w.lv j z h hnd
theorem tabs_dK {T : List (Addr × Str)} {p : Addr} {o : HO} {xs : List (Key × V)} (t : LamX.Tabs T H) (h : H p = some (.dK xs)) : LamX.Tabs T (upd H p o) :=
  tabs_upd t (fun _ e => by rw [h] at e; cases e) (fun _ e => by rw [h] at e; unfold LamX.CodeO at e; cases e)
theorem tabs_ins {T : List (Addr × Str)} {p C dx : Addr} {o : HO} {xs : List (Str × V)} (t : LamX.Tabs T H) (h : H p = some (.ins C dx xs)) : LamX.Tabs T (upd H p o) :=
  tabs_upd t (fun _ e => by rw [h] at e; cases e) (fun _ e => by rw [h] at e; unfold LamX.CodeO at e; cases e)
/-- a mutable list is given up: it is data from now on -/
theorem W.kill (w : W K S M H) {i : Nat} {a : Addr} {xs : List PyData} (ha : S.L[i]? = some (some a)) (hm : M[i]? = some (.lst xs)) :
    W K ⟨S.L.set i none, S.Z⟩ (M.set i .dead) H ∧ Stp S H ⟨S.L.set i none, S.Z⟩ H ∧ RP K ⟨S.L.set i none, S.Z⟩ H (.list xs) (.ref a) := by
  have hi : i < S.L.length := (List.getElem?_eq_some_iff.mp ha).1
  have sub : ∀ (j : Nat) (b : Addr), (S.L.set i none)[j]? = some (some b) → S.L[j]? = some (some b) ∧ i ≠ j := fun j b h => by
    by_cases hj : i = j
    · subst hj; rw [List.getElem?_set_self hi] at h; cases h
    · rw [List.getElem?_set_ne hj] at h; exact ⟨h, hj⟩
  have subm : ∀ b, some b ∈ S.L.set i none → some b ∈ S.L := fun b h => by
    obtain ⟨j, hj⟩ := mem_L h
    exact L_mem (sub j b hj).1
  have st : Stp S H ⟨S.L.set i none, S.Z⟩ H := ⟨by simp, fun j b _ h => (sub j b h).1, fun b h => .inl (subm b h), ⟨fun _ h => h, fun _ h => .inl h⟩, fun _ _ h _ _ => h, fun _ h => h⟩
  refine ⟨⟨by simp [w.len], fun j k b h1 h2 => w.nd j k b (sub j b h1).1 (sub k b h2).1, fun j b zs h1 h2 => ?_, fun b h => w.al b (subm b h), w.zl, fun b h h' => w.dj b h (subm b h'), fun j zs h hnd => ?_, w.tb⟩, st, ?_⟩
  · obtain ⟨q, hj⟩ := sub j b h1
    rw [List.getElem?_set_ne hj] at h2
    exact (w.ob j b zs q h2).st st (List.getElem?_eq_some_iff.1 q).1 fun o q1 => q1
  · by_cases hj : i = j
    · subst hj; rw [List.getElem?_set_self (by rw [← w.len]; exact hi)] at h; cases h; exact absurd rfl hnd
    · rw [List.getElem?_set_ne hj] at h
      obtain ⟨b, hb⟩ := w.lv j zs h hnd
      exact ⟨b, by show (S.L.set i none)[j]? = _; rw [List.getElem?_set_ne hj]; exact hb⟩
  · obtain ⟨us, q1, q2⟩ := w.obl i a xs ha hm
    refine .lst (.inl q1) ⟨fun h => ?_, fun h => w.dj a h (L_mem ha)⟩ (q2.mono st)
    obtain ⟨j, hj⟩ := mem_L h
    obtain ⟨q, ne⟩ := sub j a hj
    exact ne (w.nd i j a ha q)
theorem frzP_ok (w : W K S M H) {d : D} {v : V} {x : PyData} {M' : Mem} (r : RD K S H d v) (e : frzP d M = some (x, M')) : ∃ S', W K S' M' H ∧ Stp S H S' H ∧ RP K S' H x v := by
  cases d with
  | p y =>
    have e' : y = x ∧ M = M' := by simpa [frzP] using e
    obtain ⟨rfl, rfl⟩ := e'
    exact ⟨S, w, .refl, r⟩
  | ref i =>
    unfold frzP at e
    try dsimp only at e
    split at e
    · rename_i xs hm
      have e' : PyData.list xs = x ∧ M.set i .dead = M' := by simpa using e
      obtain ⟨rfl, rfl⟩ := e'
      obtain ⟨a, ha⟩ := w.lvl i xs hm
      obtain ⟨h1, h2, h3⟩ := w.kill ha hm
      rw [r.2 a ha]
      exact ⟨_, h1, h2, h3⟩
    · cases e
  | scr ns => cases e
theorem frzPs_ok : ∀ {ds : List D} {vs : List V} {S : Sk} {M M' : Mem} {xs : List PyData}, W K S M H → RDs K S H ds vs → frzPs ds M = some (xs, M') → ∃ S', W K S' M' H ∧ Stp S H S' H ∧ RPs K S' H xs vs
  | [], _, S, M, M', xs, w, .nil, e => by
    have e' : [] = xs ∧ M = M' := by simpa [frzPs] using e
    obtain ⟨rfl, rfl⟩ := e'
    exact ⟨S, w, .refl, .nil⟩
  | d :: ds, _, S, M, M', xs, w, .cons r rs, e => by
    unfold frzPs at e
    split at e
    · rename_i x M1 h1
      split at e
      · rename_i ys M2 h2
        have e' : x :: ys = xs ∧ M2 = M' := by simpa using e
        obtain ⟨rfl, rfl⟩ := e'
        obtain ⟨S1, w1, t1, r1⟩ := frzP_ok w r h1
        obtain ⟨S2, w2, t2, r2⟩ := frzPs_ok w1 (RDs.mono t1 rs) h2
        exact ⟨S2, w2, t1.trans t2, .cons (r1.mono t2) r2⟩
      · cases e
    · cases e
/-- a call's own objects are forgotten -/
theorem W.cutBack {n : Nat} (w : W K S' M H) (hn : n ≤ S'.L.length) : W K ⟨S'.L.take n, S'.Z⟩ (M.take n) H := by
  have sub : ∀ (j : Nat) (b : Addr), (S'.L.take n)[j]? = some (some b) → S'.L[j]? = some (some b) ∧ j < n := fun j b h => by
    by_cases hj : j < n
    · rw [List.getElem?_take_of_lt hj] at h; exact ⟨h, hj⟩
    · rw [List.getElem?_eq_none (by rw [List.length_take]; omega)] at h; cases h
  have subm : ∀ b, some b ∈ S'.L.take n → some b ∈ S'.L := fun b h => List.mem_of_mem_take h
  have an : ∀ a, S'.no a → (⟨S'.L.take n, S'.Z⟩ : Sk).no a := fun a h => ⟨fun z => h.1 (subm a z), h.2⟩
  refine ⟨by simp [w.len], fun j k b h1 h2 => w.nd j k b (sub j b h1).1 (sub k b h2).1, fun j b zs h1 h2 => ?_, fun b h => w.al b (subm b h), w.zl, fun b h h' => w.dj b h (subm b h'), fun j zs h hnd => ?_, w.tb⟩
  · obtain ⟨q, hj⟩ := sub j b h1
    rw [List.getElem?_take_of_lt hj] at h2
    exact (w.ob j b zs q h2).gen ⟨fun a _ n => an a n, fun _ _ e _ _ => e⟩ (fun k c _ e => (sub k c e).1) fun o _ e => e
  · by_cases hj : j < n
    · rw [List.getElem?_take_of_lt hj] at h
      obtain ⟨b, hb⟩ := w.lv j zs h hnd
      exact ⟨b, by show (S'.L.take n)[j]? = _; rw [List.getElem?_take_of_lt hj]; exact hb⟩
    · rw [List.getElem?_eq_none (by rw [List.length_take]; omega)] at h; cases h
theorem Stp.cutBack (t : Stp S H S' H') : Stp S H ⟨S'.L.take S.L.length, S'.Z⟩ H' where
  len := by have := t.len; simp; omega
  old := fun i a h e => by
    simp only [] at e
    rw [List.getElem?_take_of_lt h] at e
    exact t.old i a h e
  new := fun a h => t.new a (List.mem_of_mem_take h)
  z := t.z
  keep := t.keep
  live := t.live
theorem fin_ok {n : Nat} {frz : Bool} {d d' : D} {v : V} {M' : Mem} (w : W K S' M H') (t : Stp S H S' H') (hn : n = S.L.length) (r : RD K S' H' d v) (e : fin frz n d M = .ok d' M') :
    ∃ S'', Stp S H S'' H' ∧ W K S'' M' H' ∧ RD K S'' H' d' v := by
  unfold fin at e
  have le : n ≤ S'.L.length := by rw [hn]; exact t.len
  have an : ∀ a, S'.no a → (⟨S'.L.take n, S'.Z⟩ : Sk).no a := fun a h => ⟨fun z => h.1 (List.mem_of_mem_take z), h.2⟩
  cases frz with
  | false =>
    simp only [Bool.false_eq_true, if_false, Res.ok.injEq] at e
    obtain ⟨rfl, rfl⟩ := e
    exact ⟨S', t, w, r⟩
  | true =>
    simp only [if_true] at e
    have tc : Stp S H ⟨S'.L.take n, S'.Z⟩ H' := by rw [hn]; exact t.cutBack
    cases d with
    | p x =>
      simp only [Res.ok.injEq] at e
      obtain ⟨rfl, rfl⟩ := e
      exact ⟨_, tc, w.cutBack le, RP.anti (K := K) an r⟩
    | ref i =>
      simp only [] at e
      split at e
      · rename_i hi
        simp only [Res.ok.injEq] at e
        obtain ⟨rfl, rfl⟩ := e
        refine ⟨_, tc, w.cutBack le, by simp only [List.length_take]; have := r.1; omega, fun a h => r.2 a ?_⟩
        simp only [] at h
        rw [List.getElem?_take_of_lt hi] at h
        exact h
      · split at e
        · rename_i hi xs hm
          simp only [Res.ok.injEq] at e
          obtain ⟨rfl, rfl⟩ := e
          obtain ⟨a, ha⟩ := w.lvl i xs hm
          obtain ⟨vs, h1, h2⟩ := w.obl i a xs ha hm
          rw [r.2 a ha]
          refine ⟨_, tc, w.cutBack le, .lst (.inl h1) ⟨fun h => ?_, fun h => w.dj a h (L_mem ha)⟩ (h2.anti an)⟩
          obtain ⟨j, hj⟩ := mem_L h
          have hjn : j < n := by
            rcases Nat.lt_or_ge j n with z | z
            · exact z
            · rw [List.getElem?_eq_none (by rw [List.length_take]; omega)] at hj; cases hj
          simp only [] at hj
          rw [List.getElem?_take_of_lt hjn] at hj
          have := w.nd i j a ha hj
          omega
        · cases e
    | scr ns => cases e
end
end Mi

set_option Elab.async false
set_option linter.all false
set_option maxRecDepth 100000
set_option maxHeartbeats 1000000
/-! Mi: each operation of the interpreter, by values, over HandS. -/
namespace Mi
open PySem PySem.Spec PyProof.Rows L2

/-- what is wanted behind a result -/
def Aft (K : Kf) (S : Sk) (H : Hp) (d : D) (M : Mem) (Q : VK) : Prop := ∀ S' H' v, Stp S H S' H' → W K S' M H' → RD K S' H' d v → Q v H'
def r2D (K : Kf) (f : D → D → Mem → Res D) : R2 := fun x y H Q => ∃ S M d e r M', W K S M H ∧ RD K S H d x ∧ RD K S H e y ∧ f d e M = .ok r M' ∧ Aft K S H r M' Q
section
variable {K : Kf} {S : Sk} {M M' : Mem} {H : Hp} {Q : VK} {d : D} {v : V}
theorem Aft.here (a : Aft K S H d M Q) (w : W K S M H) (r : RD K S H d v) : Q v H := a S H v .refl w r
theorem Aft.new (w : W K S M H) {p : Addr} {vs : List V} {xs : List PyData} {mt : Bool} (e : alloc mt xs M = .ok d M') (r : RPs K S H xs vs) (a : Aft K S H d M' Q) (n : H p = none) : Q (.ref p) (upd H p (.lst vs)) := by
  obtain ⟨S', t, w', r'⟩ := alloc_ok w n r e
  exact a S' _ _ t w' r'
theorem Aft.tup (w : W K S M H) {p : Addr} {vs : List V} {xs : List PyData} (a : Aft K S H (.p (.tuple xs)) M Q) (r : RPs K S H xs vs) (n : H p = none) : Q (.ref p) (upd H p (.tup vs)) := by
  refine a S _ _ (Stp.fresh n) (w.fresh n) (.tup (.inl ⟨.inl upd_same, fun h => w.al p h n, fun h => w.zl p h n⟩) (r.mono (Stp.fresh n)))
/-- data under a value that reads as a tuple, a list -/
theorem rd_tup (w : W K S M H) {xs : List PyData} (r : RD K S H d v) (e : dat M d = some (.tuple xs)) : ∃ a vs, v = .ref a ∧ SqT K H a vs ∧ RPs K S H xs vs ∧ RP K S H (.tuple xs) v := by
  cases d with
  | p y =>
    cases e
    have r' : RP K S H (.tuple xs) v := r
    cases id r' with
    | tup h1 h2 => exact ⟨_, _, rfl, h1.sq, h2, r'⟩
  | ref i =>
    unfold dat at e
    try dsimp only at e
    split at e <;> cases e
  | scr ns => cases e
theorem rd_lst (w : W K S M H) {xs : List PyData} (r : RD K S H d v) (e : dat M d = some (.list xs)) : ∃ a vs, v = .ref a ∧ Rd H a (.lst vs) ∧ RPs K S H xs vs := by
  cases d with
  | p y =>
    cases e
    have r' : RP K S H (.list xs) v := r
    cases r' with
    | lst h1 _ h2 => exact ⟨_, _, rfl, h1, h2⟩
  | ref i =>
    unfold dat at e
    try dsimp only at e
    split at e
    · rename_i ys hm
      cases e
      obtain ⟨a, ha⟩ := w.lvl i _ hm
      obtain ⟨vs, h1, h2⟩ := w.obl i a _ ha hm
      exact ⟨a, vs, r.2 a ha, .inl h1, h2⟩
    · cases e
    · cases e
  | scr ns => cases e
theorem rd_dct (w : W K S M H) {kvs : List (PyData × PyData)} (r : RD K S H d v) (e : dat M d = some (.dict kvs)) : ∃ a vs, v = .ref a ∧ H a = some (.dK vs) ∧ RKs K S0 H kvs vs := by
  have := dat_ok w r e
  cases this with
  | dct h1 _ h2 => exact ⟨_, _, rfl, h1, h2⟩
theorem fk_rd (w : W K S M H) {i : Nat} (hi : i < S.L.length) {k : FK} {v : V} (h : FKR K S H i k v) {d : D} (e : fkD i k = some d) : RD K S H d v := by
  cases h with
  | d r => cases e; exact r
  | s h1 h2 =>
    simp only [fkD] at e
    rw [if_pos h1] at e
    cases e
    exact ⟨by omega, h2⟩
theorem rd_int (w : W K S M H) {i : Int} (r : RD K S H d v) (e : dat M d = some (.int i)) : v = .int i := by
  have := dat_ok w r e
  cases this; rfl
theorem rd_str (w : W K S M H) {i : Str} (r : RD K S H d v) (e : dat M d = some (.str i)) : v = .str i := by
  have := dat_ok w r e
  cases this; rfl
theorem rd_bl (w : W K S M H) {i : Bool} (r : RD K S H d v) (e : dat M d = some (.bool i)) : v = .bl i := by
  have := dat_ok w r e
  cases this; rfl
theorem rd_non (w : W K S M H) (r : RD K S H d v) (e : dat M d = some .none) : v = .non := by
  have := dat_ok w r e
  cases this; rfl
end
theorem sz_le {n : Nat} (h : n ≤ 16777216) : n ≤ sizeLine := by rw [sizeLine_eq]; exact h
theorem sz_lt {n : Nat} (h : n < 16777216) : n < sizeLine := by rw [sizeLine_eq]; exact h

/-! ### lists that may be locked (the script) in +, * -/
section
variable {X : Cx}
theorem rd_obj {pins : List (Addr × Obj)} {σ : L2.St} {H : Hp} {s : Shared} {a : Addr} {xs : List V} (I : L2.Inv X pins σ H s) (h : Rd H a (.lst xs)) : xs.length ≤ sizeLine ∧ ∃ (its : List Value) (n : Nat), Vals xs its ∧ xs.length = its.length ∧ s.heap.get? a = some { cls := .type "list", data := .seq its.toArray n } := by
  obtain ⟨z, its, n, r, e⟩ := h.ok I.hok
  exact ⟨z, its, n, r, r.length, e⟩
def rCat' : R2 := fun x y H Q => ∃ l b xs zs, x = .ref l ∧ y = .ref b ∧ Rd H l (.lst xs) ∧ Rd H b (.lst zs) ∧ xs.length + zs.length ≤ sizeLine ∧ ∀ p, H p = none → Q (.ref p) (upd H p (.lst (xs ++ zs)))
theorem op_cat' : OpR X (binaryOp .Add) rCat' := by
  intro pins s σ H x y v u Q I rx ry h
  obtain ⟨l, b, xs, zs, rfl, rfl, hH, hB, hz, q⟩ := h
  cases rx
  cases ry
  obtain ⟨z, its, n, r, hl, e⟩ := rd_obj I hH
  obtain ⟨z2, its2, n2, r2, hl2, e2⟩ := rd_obj I hB
  refine PySem.P.add_list e e2 ?_ (by rw [List.size_toArray, List.size_toArray]; omega)
  have ea : its.toArray ++ its2.toArray = (its ++ its2).toArray := by simp
  rw [ea]
  exact ⟨.ref _, _, I.lnew (t' := s.toks) (r.append r2) (by rw [List.length_append]; omega), rfl, q _ I.fresh⟩

theorem op_rep' : OpR X (binaryOp .Mult) (fun x y H Q => ∃ l k xs, x = .ref l ∧ y = .int k ∧ Rd H l (.lst xs) ∧ -(2 ^ 63) ≤ k ∧ k < 2 ^ 63 ∧ xs.length * k.toNat ≤ sizeLine ∧
    ∀ p, H p = none → Q (.ref p) (upd H p (.lst (List.replicate k.toNat xs).flatten))) := by
  intro pins s σ H x y v u Q I rx ry h
  obtain ⟨at', k, zs, rfl, rfl, hR, hlo, hhi, hsz, fin⟩ := h
  cases rx
  obtain ⟨tk, rfl⟩ := ry
  obtain ⟨_, ls, n, rv, hlen, ho⟩ := rd_obj I hR
  have sz : ls.toArray.size * k.toNat ≤ sizeLine := by rw [List.size_toArray, ← hlen]; exact hsz
  have small : ¬ ls.toArray.size * k.toNat > (2 ^ 63 - 1) / 8 := by
    have b : (sizeLine : Nat) ≤ (2 ^ 63 - 1) / 8 := by decide
    omega
  have fit : ¬ (!Builtin.List.listFitsIndex k) = true := by rw [fitsIndex_both hlo hhi]; exact Bool.false_ne_true
  have short : ¬ Builtin.List.listTooLong (ls.toArray.size * k.toNat) = true := by rw [notLongL sz]; exact Bool.false_ne_true
  have made : List.foldl (fun x1 x2 => x1 ++ x2) #[] (List.replicate (if ls.toArray.isEmpty = true then 0 else k.toNat) ls.toArray) = (List.replicate k.toNat ls).flatten.toArray := by
    rw [size_rep]
    cases ls with
    | nil => simp
    | cons _ _ => rw [if_neg (by simp)]
  refine wpAny_binaryOp_repeat_ref (T := "list") (U := "int") (by decide) ⟨_, ho, rfl⟩ (fun s' => typeIs_int s' k tk) noFill_list_mul F.fills_int_mul
    F.slot_int_rmul repeat_list F.slot_int_index.lookup (call_meets F.slot_int_rmul (typeIs_int s k tk) F.entry_int_rmul (F.args_int_rmul_2 _ _)
      (int___rmul___int_list k tk at' ls.toArray n) ⟨ho, rfl, ⟨_, ho, rfl⟩, call_meets F.slot_list_mul ⟨_, ho, rfl⟩ F.entry_list_mul
        (F.args_list_mul_2 _ _) (AutoListH.list___mul___list_int_3 at' ls.toArray n k tk fit small short) ⟨ho, ?_⟩⟩)
  rw [made]
  exact ⟨.ref _, _, I.lnew (t' := s.toks) (rv.rep k.toNat) (by rw [PyProof.Rows.lm_len_rep_flat, Nat.mul_comm]; exact hsz), rfl, fin _ I.fresh⟩

/-! ### a tuple times an int -/
theorem tuple_mulS (l : Addr) (items : Array Value) (n : Nat) (dd : Option Addr) (sl : Array (Option Value)) (x : Int) (u : Tok) (c0 : (decide (x < -(2 ^ 63)) || decide (x ≥ 2 ^ 63)) = false) (c1 : (items.isEmpty || x == 1) = true) :
    Meets (Builtin.«tuple.__mul__» ⟨[.ref l, .int x u], []⟩) (fun _ R s => s.heap.get? l = some { cls := .type "tuple", dict := dd, data := .seq items n, slots := sl } ∧ R (.ok (.ret (Value.ref l))) s) :=
  .of_wp fun prog w A R s h => by
    obtain ⟨hp, g, d, tk, os⟩ := s
    obtain ⟨hl, h⟩ := h
    have f1 := AutoSeq1.idx_int
    wp_walk using wpAny_loadPart' hl
    repeat (first
      | (refine wpAny_ite_false (decide_eq_false (by rw [c0]; exact Bool.false_ne_true)) ?_; wp_walk using wpAny_loadPart' hl)
      | (refine wpAny_ite_true (decide_eq_true c1) ?_; wp_walk using wpAny_loadPart' hl))
    exact ⟨_, rfl, h⟩
theorem tuple_mul0 (l : Addr) (items : Array Value) (n : Nat) (dd : Option Addr) (sl : Array (Option Value)) (x : Int) (u : Tok) (c0 : (decide (x < -(2 ^ 63)) || decide (x ≥ 2 ^ 63)) = false) (c1 : (items.isEmpty || x == 1) = false) (c2 : (decide (x ≤ 0) || items.isEmpty) = true) :
    Meets (Builtin.«tuple.__mul__» ⟨[.ref l, .int x u], []⟩) (fun _ R s => s.heap.get? l = some { cls := .type "tuple", dict := dd, data := .seq items n, slots := sl } ∧
      R (.ok (.ret (Value.ref s.heap.objs.size))) { s with heap := s.heap.push { cls := Value.type "tuple", data := Data.seq #[] }, toks := s.toks }) :=
  .of_wp fun prog w A R s h => by
    obtain ⟨hp, g, d, tk, os⟩ := s
    obtain ⟨hl, h⟩ := h
    have f1 := AutoSeq1.idx_int
    wp_walk using wpAny_loadPart' hl
    repeat (first
      | (refine wpAny_ite_false (decide_eq_false (by rw [c0]; exact Bool.false_ne_true)) ?_; wp_walk using wpAny_loadPart' hl)
      | (refine wpAny_ite_false (decide_eq_false (by rw [c1]; exact Bool.false_ne_true)) ?_; wp_walk using wpAny_loadPart' hl)
      | (refine wpAny_ite_true (decide_eq_true c2) ?_; wp_walk using wpAny_loadPart' hl))
    exact ⟨_, rfl, h⟩
def rRepT' (K : Kf) : R2 := fun x y H Q => ∃ l k xs, x = .ref l ∧ y = .int k ∧ SqT K H l xs ∧ -(2 ^ 63) ≤ k ∧ k < 2 ^ 63 ∧ xs.length * k.toNat ≤ sizeLine ∧
  ((xs = [] ∨ k = 1) → Q (.ref l) H) ∧ (¬ (xs = [] ∨ k = 1) → ∀ p, H p = none → Q (.ref p) (upd H p (.tup (List.replicate k.toNat xs).flatten)))
theorem op_repT' : OpR X (binaryOp .Mult) (rRepT' X.K) := by
  intro pins s σ H x y v u Q I rx ry h
  obtain ⟨l, k, xs, rfl, rfl, hT, h1, h2, hz, q1, q2⟩ := h
  cases rx
  obtain ⟨t, rfl⟩ := ry
  obtain ⟨its, r, ⟨⟨cls, dd, data, sl⟩, ho, hc, n, hd⟩, hs⟩ := I.tuple hT
  simp only at hc hd
  subst hc hd
  have hle : its.length = xs.length := r.length.symm
  have c0 : (decide (k < -(2 ^ 63)) || decide (k ≥ 2 ^ 63)) = false := by
    rw [decide_eq_false (by omega), decide_eq_false (by omega)] <;> rfl
  have hemp : its.toArray.isEmpty = true ↔ xs = [] := by
    rw [Array.isEmpty_iff]
    constructor
    · intro e
      have : its = [] := by simpa using e
      rw [this] at hle
      exact List.eq_nil_of_length_eq_zero hle.symm
    · intro e
      rw [e] at hle
      have : its = [] := List.eq_nil_of_length_eq_zero hle
      simp [this]
  by_cases hk : xs = [] ∨ k = 1
  · have c1 : (its.toArray.isEmpty || k == 1) = true := by
      rcases hk with e | e
      · rw [hemp.mpr e]; rfl
      · rw [e]; simp
    exact wpAny_binaryOp_repeat_ref (T := "tuple") (U := "int") (by decide) ⟨_, ho, rfl⟩ (fun s' => typeIs_int s' k t) noFill_tuple_mul F.fills_int_mul F.slot_int_rmul repeat_tuple F.slot_int_index.lookup
      (call_meets F.slot_int_rmul (typeIs_int s k t) F.entry_int_rmul (F.args_int_rmul_2 _ _) (int_rmul_tuple k t l its.toArray n dd sl)
        ⟨ho, rfl, ⟨_, ho, rfl⟩, call_meets F.slot_tuple_mul ⟨_, ho, rfl⟩ F.entry_tuple_mul (F.args_tuple_mul_2 _ _) (tuple_mulS l its.toArray n dd sl k t c0 c1) ⟨ho, ⟨.ref l, H, I, rfl, q1 hk⟩⟩⟩)
  · have hi : its.toArray.isEmpty = false := by
      cases e : its.toArray.isEmpty with
      | false => rfl
      | true => exact absurd (.inl (hemp.mp e)) hk
    have c1 : (its.toArray.isEmpty || k == 1) = false := by
      rw [hi, Bool.false_or]
      exact beq_eq_false_iff_ne.mpr fun e => hk (.inr e)
    by_cases hk0 : k ≤ 0
    · have c2 : (decide (k ≤ 0) || its.toArray.isEmpty) = true := by rw [decide_eq_true hk0]; rfl
      refine wpAny_binaryOp_repeat_ref (T := "tuple") (U := "int") (by decide) ⟨_, ho, rfl⟩ (fun s' => typeIs_int s' k t) noFill_tuple_mul F.fills_int_mul F.slot_int_rmul repeat_tuple F.slot_int_index.lookup
        (call_meets F.slot_int_rmul (typeIs_int s k t) F.entry_int_rmul (F.args_int_rmul_2 _ _) (int_rmul_tuple k t l its.toArray n dd sl)
          ⟨ho, rfl, ⟨_, ho, rfl⟩, call_meets F.slot_tuple_mul ⟨_, ho, rfl⟩ F.entry_tuple_mul (F.args_tuple_mul_2 _ _) (tuple_mul0 l its.toArray n dd sl k t c0 c1 c2) ⟨ho, ?_⟩⟩)
      have ek : k.toNat = 0 := by omega
      have q3 := q2 hk _ (I.hok.fresh (Nat.le_refl _))
      rw [ek] at q3
      refine ⟨.ref s.heap.objs.size, _, I.laid (t' := s.toks) (o := .tup []) (fun b ob q => Heap.get?_push_of_some _ q) (Nat.le_refl _) ?_, rfl, q3⟩
      exact ⟨Nat.zero_le _, [], .nil, IsTup.new _ _⟩
    · have c2 : (decide (k ≤ 0) || its.toArray.isEmpty) = false := by
        rw [hi, Bool.or_false]
        exact decide_eq_false hk0
      have hm : ((its.toArray.size : Nat) : Int) * k ≤ 16777216 := by
        rw [List.size_toArray, hle]
        rw [sizeLine_eq] at hz
        have e1 : (k.toNat : Int) = k := by omega
        rw [← e1, ← Int.natCast_mul]
        exact Int.ofNat_le.mpr hz
      have flen : (List.replicate k.toNat its).flatten.length ≤ sizeLine := by
        rw [PyProof.Rows.lm_len_rep_flat, hle, Nat.mul_comm]
        exact hz
      have c4 : Builtin.Tuple.tupleTooMany (((its.toArray.size : Nat) : Int) * k) = false := by
        unfold Builtin.Tuple.tupleTooMany
        rw [sizeLine_eq]
        exact decide_eq_false (by omega)
      refine wpAny_binaryOp_repeat_ref (T := "tuple") (U := "int") (by decide) ⟨_, ho, rfl⟩ (fun s' => typeIs_int s' k t) noFill_tuple_mul F.fills_int_mul F.slot_int_rmul repeat_tuple F.slot_int_index.lookup
        (call_meets F.slot_int_rmul (typeIs_int s k t) F.entry_int_rmul (F.args_int_rmul_2 _ _) (int_rmul_tuple k t l its.toArray n dd sl)
          ⟨ho, rfl, ⟨_, ho, rfl⟩, call_meets F.slot_tuple_mul ⟨_, ho, rfl⟩ F.entry_tuple_mul (F.args_tuple_mul_2 _ _) (tuple_mulW l its.toArray n dd sl k t c0 c1 c2 (by omega) c4 (by rw [size_rep, List.size_toArray]; exact flen)) ⟨ho, ?_⟩⟩)
      rw [size_rep]
      refine ⟨.ref s.heap.objs.size, _, I.laid (t' := s.toks) (o := .tup (List.replicate k.toNat xs).flatten) (fun b ob q => Heap.get?_push_of_some _ q) (Nat.le_refl _) ?_, rfl, q2 hk _ (I.hok.fresh (Nat.le_refl _))⟩
      exact ⟨by rw [PyProof.Rows.lm_len_rep_flat, Nat.mul_comm]; exact hz, _, r.rep k.toNat, IsTup.new _ _⟩

/-! ### the binary operators -/
def opOf : BOp → Operator
  | .add => .Add
  | .sub => .Sub
  | .mul => .Mult
  | .fdiv => .FloorDiv
  | .mod => .Mod
  | .pow => .Pow
theorem op_mul_str {X : Cx} : OpR X (binaryOp .Mult) (fun x y H Q => ∃ (a : Str) (n : Int), x = .str a ∧ y = .int n ∧ (-(2 ^ 63) ≤ n ∧ n < 2 ^ 63 ∧ a.length * n.toNat ≤ 16777216) ∧ Q (.str (Txt.mul a n)) H) := by
  intro pins s σ H x y v u Q I rx ry h
  obtain ⟨a, n, rfl, rfl, ⟨h1, h2, h3⟩, q⟩ := h
  obtain ⟨t, rfl⟩ := rx
  obtain ⟨t', rfl⟩ := ry
  refine PySem.SB.mul ⟨?_, fun c _ => ?_, fun _ _ => ?_⟩ fun t' k => ⟨.str (Txt.mul a n), H, I.tok _, ⟨_, rfl⟩, q⟩
  · simp only [Bool.or_eq_false_iff, decide_eq_false_iff_not]
    omega
  · have e : (a.length : Int) * n ≤ 16777216 := by
      have : ((a.length * n.toNat : Nat) : Int) ≤ ((16777216 : Nat) : Int) := by exact_mod_cast h3
      rw [Int.natCast_mul, Int.toNat_of_nonneg (by omega)] at this
      exact this
    have : (a.length : Int) ≤ (2 ^ 63 - 1) / n := (Int.le_ediv_iff_mul_le (by omega)).2 (by omega)
    omega
  · have := sz_le h3
    simp only [Builtin.Str.tooLong, decide_eq_false_iff_not]
    omega
theorem op_bin (op : BOp) (mt : Bool) : OpR X (binaryOp (opOf op)) (r2D X.K (binop op mt)) := by
  intro pins s σ H x y v u Q I rx ry h
  obtain ⟨S, M, d, e, r, M', w, rd, re, hb, af⟩ := h
  unfold binop at hb
  split at hb
  · rename_i i j h1 h2
    cases hb
    have e1 := rd_int w rd h1
    have e2 := rd_int w re h2
    exact op_add pins s σ H x y v u Q I rx ry ⟨i, j, e1, e2, af.here w (.int _)⟩
  · rename_i i j h1 h2
    split at hb
    · rename_i hz
      cases hb
      have e1 := rd_str w rd h1
      have e2 := rd_str w re h2
      exact op_add_str pins s σ H x y v u Q I rx ry ⟨i, j, e1, e2, sz_le hz, af.here w (.str _)⟩
    · cases hb
  · rename_i xs ys h1 h2
    split at hb
    · rename_i hz
      cases hb
      obtain ⟨a, vs, e1, q1, p1, t1⟩ := rd_tup w rd h1
      obtain ⟨b, us, e2, q2, p2, t2⟩ := rd_tup w re h2
      refine op_catA pins s σ H x y v u Q I rx ry ⟨a, b, vs, us, e1, e2, q1, q2, by rw [← p1.length, ← p2.length]; exact sz_le hz, fun z => ?_, fun _ z => ?_, fun _ _ p np => af.tup w (p1.app p2) np⟩
      · subst z
        have ez : xs = [] := List.eq_nil_of_length_eq_zero (by rw [p1.length]; rfl)
        subst ez
        exact af.here w (e2 ▸ t2)
      · subst z
        have ez : ys = [] := List.eq_nil_of_length_eq_zero (by rw [p2.length]; rfl)
        subst ez
        rw [List.append_nil] at af
        exact af.here w (e1 ▸ t1)
    · cases hb
  · rename_i xs ys h1 h2
    split at hb
    · rename_i hz
      obtain ⟨a, vs, e1, q1, p1⟩ := rd_lst w rd h1
      obtain ⟨b, us, e2, q2, p2⟩ := rd_lst w re h2
      exact op_cat' pins s σ H x y v u Q I rx ry ⟨a, b, vs, us, e1, e2, q1, q2, by rw [← p1.length, ← p2.length]; exact sz_le hz, fun p np => Aft.new w hb (p1.app p2) af np⟩
    · cases hb
  · rename_i i j h1 h2
    cases hb
    exact op_sub pins s σ H x y v u Q I rx ry ⟨i, j, rd_int w rd h1, rd_int w re h2, af.here w (.int _)⟩
  · rename_i i j h1 h2
    split at hb
    · rename_i hz
      cases hb
      exact op_mul pins s σ H x y v u Q I rx ry ⟨i, j, rd_int w rd h1, rd_int w re h2, hz, af.here w (.int _)⟩
    · cases hb
  · rename_i z k h1 h2
    split at hb
    · rename_i hz
      cases hb
      exact op_mul_str pins s σ H x y v u Q I rx ry ⟨z, k, rd_str w rd h1, rd_int w re h2, hz, af.here w (.str _)⟩
    · cases hb
  · rename_i xs k h1 h2
    split at hb
    · rename_i hz
      cases hb
      obtain ⟨a, vs, e1, q1, p1, t1⟩ := rd_tup w rd h1
      refine op_repT' pins s σ H x y v u Q I rx ry ⟨a, k, vs, e1, rd_int w re h2, q1, hz.1, hz.2.1, by rw [← p1.length]; exact sz_le hz.2.2, fun z => ?_, fun _ p np => af.tup w (p1.rep _) np⟩
      have ez : (List.replicate k.toNat xs).flatten = xs := by
        rcases z with z | z
        · subst z
          have : xs = [] := List.eq_nil_of_length_eq_zero (by rw [p1.length]; rfl)
          rw [this]; simp
        · subst z
          show (List.replicate 1 xs).flatten = xs
          simp
      rw [ez] at af
      exact af.here w (e1 ▸ t1)
    · cases hb
  · rename_i xs k h1 h2
    split at hb
    · rename_i hz
      obtain ⟨a, vs, e1, q1, p1⟩ := rd_lst w rd h1
      exact op_rep' pins s σ H x y v u Q I rx ry ⟨a, k, vs, e1, rd_int w re h2, q1, hz.1, hz.2.1, by rw [← p1.length]; exact sz_le hz.2.2, fun p np => Aft.new w hb (p1.rep _) af np⟩
    · cases hb
  · rename_i i j h1 h2
    split at hb
    · rename_i hz
      cases hb
      exact op_fdiv pins s σ H x y v u Q I rx ry ⟨i, j, rd_int w rd h1, rd_int w re h2, hz, af.here w (.int _)⟩
    · cases hb
  · rename_i i j h1 h2
    split at hb
    · rename_i hz
      cases hb
      exact op_mod pins s σ H x y v u Q I rx ry ⟨i, j, rd_int w rd h1, rd_int w re h2, hz, af.here w (.int _)⟩
    · cases hb
  · rename_i i j h1 h2
    split at hb
    · rename_i hz
      cases hb
      exact op_pow pins s σ H x y v u Q I rx ry ⟨i, j, rd_int w rd h1, rd_int w re h2, hz, af.here w (.int _)⟩
    · cases hb
  · cases hb
end
end Mi

set_option Elab.async false
set_option linter.all false
set_option maxRecDepth 100000
set_option maxHeartbeats 1000000
/-! Mi: enumerate over a tuple, the sum of a tuple. -/
namespace Mi
open PySem PySem.Spec PyProof.Rows L2
open AutoSeq1 (wpAny_loadPart')
/-- a new enumerate over a tuple -/
theorem en_newT (q : Addr) (vs : Array Value) (k : Nat) (dc : Option Addr) (sl : Array (Option Value)) :
    Meets (Builtin.«enumerate.__new__» ⟨[.type "enumerate", .ref q], []⟩) (fun _ R s => s.heap.get? q = some { cls := .type "tuple", dict := dc, data := .seq vs k, slots := sl } ∧
      R (.ok (.ret (.ref (s.heap.push { cls := .type "tuple_iterator", data := .fields #[.ref q, .int 0 0] }).objs.size)))
        { s with heap := (s.heap.push { cls := .type "tuple_iterator", data := .fields #[.ref q, .int 0 0] }).push { cls := .type "enumerate", data := .fields #[.none, .bool false, .ref s.heap.objs.size, rawInt 0, .none, .none] } }) :=
  .of_wp fun prog w A R s h => by
    obtain ⟨hp, g, d, tk, os⟩ := s
    obtain ⟨hl, h⟩ := h
    have su := sub_enumerate
    have hT : Heap.IsTuple (Shared.heap ⟨hp, g, d, tk, os⟩) q vs := ⟨_, hl, rfl, k, rfl⟩
    wp_walk using wpAny_loadPart' hl
    refine wpAny_stack_any fun st => wpAny_pure ?_
    split
    · rename_i c _ _ _ _ _
      cases (c == Value.type "enumerate") <;>
      · wp_walk using wpAny_loadPart' hl, wpAny_pyIter_tuple hT
        exact ⟨_, rfl, h⟩
    · wp_walk using wpAny_loadPart' hl, wpAny_pyIter_tuple hT
      exact ⟨_, rfl, h⟩
end Mi
namespace Mi
open PySem PySem.Spec PyProof.Rows L2
section
variable {prog : Program} {w : World} {A : Around} {E : Value → Shared → Prop} {s : Shared}
theorem en_callT {q : Addr} {vs : Array Value} {Q : Value → Shared → Prop} (hT : s.heap.IsTuple q vs)
    (h : ∀ h', IsEnum h' (s.heap.objs.size + 1) s.heap.objs.size 0 .none → h'.IsTupleIter s.heap.objs.size q 0 → (∀ b o, s.heap.get? b = some o → h'.get? b = some o) → Q (.ref (s.heap.objs.size + 1)) { s with heap := h' }) :
    wpAny (model prog w) A (call (.type "enumerate") [.ref q]) Q E s := by
  obtain ⟨⟨c, dc, dt, sl⟩, hl, hc, n, hd⟩ := hT
  have hc : c = .type "tuple" := hc
  have hd : dt = .seq vs n := hd
  subst hc hd
  have hz : (s.heap.push { cls := .type "tuple_iterator", data := .fields #[.ref q, .int 0 0] }).objs.size = s.heap.objs.size + 1 := Heap.size_push ..
  refine callType_new F.called_enumerate (by decide) (F.typeCall_enumerate_1 _) (F.newCall_enumerate_1 _) (fun ob => F.args_object_init_2 ob _) F.entry_enumerate_new (en_newT q vs n dc sl) ⟨hl, ?_⟩
  have he : IsEnum ((s.heap.push { cls := .type "tuple_iterator", data := .fields #[.ref q, .int 0 0] }).push { cls := .type "enumerate", data := .fields #[.none, .bool false, .ref s.heap.objs.size, rawInt 0, .none, .none] }) (s.heap.objs.size + 1) s.heap.objs.size 0 .none := by
    have z := Heap.get?_push_size (s.heap.push { cls := .type "tuple_iterator", data := .fields #[.ref q, .int 0 0] }) (o := { cls := .type "enumerate", data := .fields #[.none, .bool false, .ref s.heap.objs.size, rawInt 0, .none, .none] }) rfl
    rw [hz] at z
    exact z
  show _ ∧ _
  rw [hz]
  exact ⟨⟨_, he, rfl⟩, h _ he ⟨_, Heap.get?_push_of_some _ (Heap.get?_push_size _ rfl), rfl, rfl⟩ fun b o y => Heap.get?_push_of_some _ (Heap.get?_push_of_some _ y)⟩
end
/-- the items of a tuple, each in a new pair with its place -/
def ItE (K : PySem.W.Frag) (a : Addr) (xs : List V) : L2.It :=
  ⟨fun i H => SqT K H a xs ∧ i < xs.length, fun i H v H' => ∃ T x, v = .ref T ∧ H T = none ∧ H' = upd H T (.tup [.int (i : Nat), x]) ∧ xs[i]? = some x, fun i H => SqT K H a xs ∧ i = xs.length⟩
theorem turn_enT {P : Program} {w : World} {K : PySem.W.Frag} {elts : List Expr} {kk : Nat} {tpos : Pos} (a e it : Addr) (xs : List V) (n1 : e ≠ it) (n2 : a ≠ it) (n3 : e ≠ a) :
    Turn P w K (.Tuple elts kk tpos) (ItE K a xs) [e, it] e (fun i h => (∃ old, IsEnum h e it ((i : Nat) : Int) old) ∧ h.IsTupleIter it a i) where
  mem := List.mem_cons_self
  obj := fun i h st b hb => by
    obtain ⟨⟨old, he⟩, ⟨o, ho, hc, hd⟩⟩ := st
    rcases (by simpa using hb : b = e ∨ b = it) with z | z
    · rw [z]; exact ⟨_, he, fun v y => nomatch y⟩
    · rw [z]; exact ⟨o, ho, fun v y => by rw [hd] at y; cases y⟩
  keep := fun i h h' st k => by
    obtain ⟨⟨old, he⟩, hi⟩ := st
    exact ⟨⟨old, k e (by simp) _ he⟩, hi.at fun o y => k it (by simp) o y⟩
  item := by
    intro X hP hw hK hc i pins s σ H E I hf st hg
    subst hP hw hK
    obtain ⟨⟨old, he⟩, hit⟩ := st
    obtain ⟨hq, hi⟩ := hg
    obtain ⟨its, rv, p, _⟩ := I.tuple hq
    have hl := rv.length
    have hx : xs[i]? = some xs[i] := List.getElem?_eq_getElem hi
    obtain ⟨u, hu, ru⟩ := rv.get hx
    have hel : e < s.heap.objs.size := Heap.lt_size he
    have hil : it < s.heap.objs.size := by obtain ⟨_, y, _⟩ := hit; exact Heap.lt_size y
    refine wpAny_pyNext_enum_itemD (Draws.tuple (A := X.A.in1) (I.ok.hd hc) it a n2 its.toArray) he ⟨hit, p⟩ (by simp; omega) n1 (by simp [n1, n3]) fun y h' tk hy ho hst hT hsz hk => ?_
    have hyu : y = u := by
      have : its[i]? = some y := by simpa using hy
      rw [this] at hu; cases hu; rfl
    subst hyu
    refine ⟨_, rfl, wpAny_letOwnedTupleGo_enum (s := { s with heap := h', toks := tk + 1 }) ho fun h2 he2 sb => ?_⟩
    have hT2 : h2.get? s.heap.objs.size = some { cls := .type "tuple", data := .seq #[.int i tk, y] } := (sb.2 _ (Nat.ne_of_gt hel)).trans hT
    have new : ObjOk X.prog X.w (upd H s.heap.objs.size (.tup [.int (i : Nat), xs[i]])) h2 s.heap.objs.size (.tup [.int (i : Nat), xs[i]]) :=
      ⟨by show 2 ≤ sizeLine; decide, [.int i tk, y], .cons ⟨_, rfl⟩ (.cons ru .nil), ⟨_, hT2, rfl, _, rfl⟩⟩
    have I1 : Inv X pins σ (upd H s.heap.objs.size (.tup [.int (i : Nat), xs[i]])) { s with heap := h2, toks := tk + 1 } :=
      I.turnedNew (ch := [e, it]) (fun b ob hb y => (sb.2 b (fun z => hb (by simp [z]))).trans (hk b ob (fun z => hb (by simp [z])) (fun z => hb (by simp [z])) y)) hf (Nat.le_refl _) new
    refine ⟨.ref s.heap.objs.size, _, I1, rfl, ⟨_, xs[i], rfl, I.hok.fresh (Nat.le_refl _), rfl, hx⟩, ⟨⟨y, ?_⟩, hst.1.at fun o z => (sb.2 it (Ne.symm n1)).trans z⟩, fun b hb => ?_⟩
    · have e1 : ((i + 1 : Nat) : Int) = (i : Int) + 1 := by omega
      rw [e1]; exact he2
    · have hb' : b < s.heap.objs.size := by
        rcases (by simpa using hb : b = e ∨ b = it) with z | z
        · rw [z]; exact hel
        · rw [z]; exact hil
      rw [upd_ne (Nat.ne_of_lt hb')]
      exact (hf b hb).1
  done := by
    intro X hP hw hK hc i pins s σ H E I hf st hg
    subst hP hw hK
    obtain ⟨⟨old, he⟩, hit⟩ := st
    obtain ⟨hq, hi⟩ := hg
    obtain ⟨its, rv, p, _⟩ := I.tuple hq
    have hl := rv.length
    obtain ⟨f0, f1, f2, f3, f4, f5⟩ := hf it (by simp)
    have hsz : i = its.toArray.size := by simp; omega
    exact wpAny_pyNext_enum_endD (Draws.tuple (A := X.A.in1) (I.ok.hd hc) it a n2 its.toArray) he ⟨hsz ▸ hit, p⟩ fun h' eb => ⟨rfl, I.turned (t' := s.toks) (fun b o hb y => eb b o hb y) f0 f1 f3 f4 f5⟩
  self := fun A i s Q E st h => by obtain ⟨⟨_, he⟩, _⟩ := st; exact wpAny_pyIter_enum he h
def iEnA (K : PySem.W.Frag) (ta : TA) : TI := fun σ H R => ta σ H fun vs H1 => ∃ a xs, vs = [.ref a] ∧ ((SqL K H1 a xs ∧ R (Ite K a) H1) ∨ (SqT K H1 a xs ∧ R (ItE K a xs) H1))
theorem pi_enA {X : Cx} {e : Expr} {ta : TA} {p pos tpos : Pos} {elts : List Expr} {kk : Nat} (hg : Gl X "enumerate") (hm : X.mg "enumerate" = none) (ha : PA X [e] ta) (hs : starEach [e] X.env = [(false, eval e X.env)]) :
    PI X (.Tuple elts kk tpos) (.Call (.Name "enumerate" p) [e] [] pos) (iEnA X.K ta) := by
  refine ⟨fun pins s σ H R I h => Call_ (ld_blt I hg hm boot_enumerate (PyProof.Rows.callWith_type1 (thn (ha.run pos pins s σ H _ I h) fun us s1 ⟨vs, H1, I1, r1, a, xs, ex, q1⟩ => ?_) hs rfl))⟩
  subst ex
  obtain ⟨u, rfl, ru⟩ := r1.one
  cases ru
  have two : ∀ b, b ∈ [s1.heap.objs.size + 1, s1.heap.objs.size] → s1.heap.objs.size ≤ b := fun b hb => by
    rcases (by simpa using hb : b = s1.heap.objs.size + 1 ∨ b = s1.heap.objs.size) with z | z <;> rw [z] <;> omega
  rcases q1 with ⟨hq, q⟩ | ⟨hq, q⟩
  · obtain ⟨its, rv, pl, _⟩ := I1.list hq
    refine call_enumerate_list pl.isList fun h' he hit _ hk => wpAny_pyIter_enum he ⟨s1.heap.objs.size + 1, [s1.heap.objs.size + 1, s1.heap.objs.size], _, _, H1, rfl, I1.kept (t' := s1.toks) hk, turn_enum a _ _, ⟨⟨.none, he⟩, hit, Nat.succ_ne_self _⟩, fun b hb => ?_, q⟩
    exact I1.fpOk (two b hb) (I1.hok.fresh (two b hb))
  · obtain ⟨its, rv, pl, _⟩ := I1.tuple hq
    have hal : a < s1.heap.objs.size := by obtain ⟨_, y, _⟩ := pl; exact Heap.lt_size y
    refine en_callT (show s1.heap.IsTuple a its.toArray from pl) fun h' he hit hk => wpAny_pyIter_enum he ⟨s1.heap.objs.size + 1, [s1.heap.objs.size + 1, s1.heap.objs.size], _, _, H1, rfl, I1.kept (t' := s1.toks) hk, turn_enT a _ _ xs (Nat.succ_ne_self _) (Nat.ne_of_lt hal) (Nat.ne_of_gt (Nat.lt_succ_of_lt hal)), ⟨⟨.none, he⟩, hit⟩, fun b hb => ?_, q⟩
    exact I1.fpOk (two b hb) (I1.hok.fresh (two b hb))
/-! ### the sum of a tuple -/
def rSumT (K : PySem.W.Frag) : List V → Hp → VK → Prop := fun vs H Q => ∃ (a : Addr) (ns : List Int), vs = [V.ref a] ∧ SqT K H a (ns.map V.int) ∧ Q (.int ns.sum) H
theorem cr_sumT {X : Cx} (hc : X.calm = true) : CallR X (.builtin "sum") (rSumT X.K) := by
  intro pins s σ H vs us Q I r h
  obtain ⟨a, ns, rfl, hs, q⟩ := h
  obtain ⟨its, rv, hl, _⟩ := I.tuple hs
  rw [Vals.ref1 r]
  have hi := rv.ints
  obtain ⟨xs, e⟩ := hi.allInts.items
  have hn : numsOf (intItems xs).toList = ns := by rw [← e]; exact hi.numsOf
  rw [nums_intItems] at hn
  have hT : s.heap.IsTuple a (intItems xs) := by rw [← e]; exact hl
  have hal : a < s.heap.objs.size := by obtain ⟨_, y, _⟩ := hT; exact Heap.lt_size y
  refine call_sum_walkG (wpAny_pyIter_tuple hT ⟨s.heap.objs.size, [s.heap.objs.size, a], [s.heap.objs.size], _, _, _, numAt xs, rfl, Walks.tuple (A := X.A.in1) (I.ok.hd hc) s.heap.objs.size a (Nat.ne_of_lt hal) (intItems xs), ⟨⟨_, Heap.get?_push_size _ rfl, rfl, rfl⟩, ?_⟩, fun b hb => ?_, fun _ _ => intItems_at, fun h' tk t' hk => ?_⟩)
  · obtain ⟨o, ho, z⟩ := hT
    exact ⟨o, Heap.get?_push_of_some _ ho, z⟩
  · show b < (s.heap.push _).objs.size
    rw [Heap.size_push]
    rcases (by simpa using hb : b = s.heap.objs.size ∨ b = a) with z | z
    · rw [z]; exact Nat.lt_succ_self _
    · rw [z]; exact Nat.lt_succ_of_lt hal
  · refine ⟨.int ns.sum, H, I.kept fun b o y => hk b o (fun z => ?_) (Heap.get?_push_of_some _ y), ⟨t', ?_⟩, q⟩
    · have z : b = s.heap.objs.size := by simpa using z
      have y2 := Heap.lt_size y
      rw [z] at y2
      exact absurd y2 (Nat.lt_irrefl _)
    · rw [preSum_eq, List.take_of_length_le (by simp [intItems]), hn]
end Mi

set_option Elab.async false
set_option linter.all false
set_option maxRecDepth 100000
set_option maxHeartbeats 1000000
/-! Mi: comparisons, truth, places, built-ins, methods. -/
namespace Mi
open PySem PySem.Spec PyProof.Rows L2
section
variable {X : Cx} {pins : List (Addr × Obj)} {σ : L2.St} {H : Hp} {s : Shared} {S : Sk} {M M' : Mem}
theorem rd_reads (I : L2.Inv X pins σ H s) (w : W X.K S M H) {d : D} {v : V} {u : Value} {x : PyData} (r : RD X.K S H d v) (ru : RelV v u) (e : dat M d = some x) : ∃ as, Reads s.heap u x as ∧ (noLst x = true → sysModules ∉ as) :=
  RP.reads I x v u (dat_ok w r e) ru
theorem units60 {A : Around} {n m : Nat} (hu : A.units + 64 < cLine) (h : n ≤ 60) : A.units + 1 + min m n < cLine := by
  have : min m n ≤ n := Nat.min_le_right _ _
  omega

def copOf : COp → CmpOp
  | .eq => .Eq
  | .ne => .NotEq
  | .lt => .Lt
  | .le => .LtE
  | .gt => .Gt
  | .ge => .GtE
  | .is => .Is
  | .isnot => .IsNot
  | .isin => .In
  | .notin => .NotIn
theorem op_cmp (hu : X.A.units + 64 < cLine) (op : COp) : OpR X (compareOp (copOf op)) (r2D X.K (cmpop op)) := by
  intro pins s σ H x y v u Q I rx ry h
  obtain ⟨S, M, d, e, r, M', w, rd, re, hb, af⟩ := h
  unfold cmpop at hb
  split at hb
  · rename_i xd xe h1 h2
    split at hb
    · rename_i k hk
      cases hb
      obtain ⟨as, r1, n1⟩ := rd_reads I w rd rx h1
      obtain ⟨bs, r2, n2⟩ := rd_reads I w re ry h2
      have go : ∀ b, k = b → EP X pins σ Q (.bool b) s := fun b e => by subst e; exact ⟨.bl k, H, I, rfl, af.here w (.bl k)⟩
      unfold cmpB at hk
      cases op with
      | eq =>
        try dsimp only at hk
        split at hk
        · rename_i hp
          simp only [Bool.and_eq_true, decide_eq_true_eq] at hp
          exact SeqAt.eq_plain r1 r2 hp.1.1 hp.1.2 (by have : min xd.depth xe.depth ≤ xd.depth := Nat.min_le_left _ _; omega) (go _ (Option.some.inj hk).symm)
        · cases hk
      | ne =>
        try dsimp only at hk
        split at hk
        · rename_i hp
          simp only [Bool.and_eq_true, decide_eq_true_eq] at hp
          exact SeqAt.ne_plain r1 r2 hp.1.1 hp.1.2 (by have : min xd.depth xe.depth ≤ xd.depth := Nat.min_le_left _ _; omega) (go _ (Option.some.inj hk).symm)
        · cases hk
      | lt =>
        try dsimp only at hk
        split at hk
        · rename_i i j
          cases hk
          exact op_lt pins s σ H x y v u Q I rx ry ⟨i, j, rd_int w rd h1, rd_int w re h2, af.here w (.bl _)⟩
        · cases hk
      | le =>
        try dsimp only at hk
        split at hk
        · rename_i i j
          cases hk
          exact op_le pins s σ H x y v u Q I rx ry ⟨i, j, rd_int w rd h1, rd_int w re h2, af.here w (.bl _)⟩
        · cases hk
      | gt =>
        try dsimp only at hk
        split at hk
        · rename_i i j
          cases hk
          exact op_gt pins s σ H x y v u Q I rx ry ⟨i, j, rd_int w rd h1, rd_int w re h2, af.here w (.bl _)⟩
        · cases hk
      | ge =>
        try dsimp only at hk
        split at hk
        · rename_i i j
          cases hk
          exact op_ge pins s σ H x y v u Q I rx ry ⟨i, j, rd_int w rd h1, rd_int w re h2, af.here w (.bl _)⟩
        · cases hk
      | is =>
        try dsimp only at hk
        split at hk
        · rename_i i j
          cases hk
          exact op_is_bl pins s σ H x y v u Q I rx ry ⟨i, j, rd_bl w rd h1, rd_bl w re h2, by rw [show decide (i = j) = (i == j) by cases i <;> cases j <;> rfl]; exact af.here w (.bl _)⟩
        · cases hk
          refine op_isN pins s σ H x y v u Q I rx ry ⟨rd_non w re h2, ?_⟩
          have q := dat_ok w rd h1
          cases q <;> exact af.here w (.bl _)
        · cases hk
      | isnot =>
        try dsimp only at hk
        split at hk
        · rename_i i j
          cases hk
          exact op_isnot_bl pins s σ H x y v u Q I rx ry ⟨i, j, rd_bl w rd h1, rd_bl w re h2, by rw [show decide (i = j) = (i == j) by cases i <;> cases j <;> rfl]; exact af.here w (.bl _)⟩
        · cases hk
          refine op_notN pins s σ H x y v u Q I rx ry ⟨rd_non w re h2, ?_⟩
          have q := dat_ok w rd h1
          cases q <;> exact af.here w (.bl _)
        · cases hk
      | isin =>
        try dsimp only at hk
        split at hk
        · split at hk
          · rename_i hp
            simp only [Bool.and_eq_true, decide_eq_true_eq] at hp
            exact SeqAt.in_list_data r2 r1 hp.1.1 hp.1.2 (units60 hu hp.2) (go _ (Option.some.inj hk).symm)
          · cases hk
        · split at hk
          · rename_i hp
            simp only [Bool.and_eq_true, decide_eq_true_eq] at hp
            exact SeqAt.in_tuple_data r2 r1 hp.1.1 hp.1.2 (units60 hu hp.2) (go _ (Option.some.inj hk).symm)
          · cases hk
        · split at hk
          · rename_i z y'
            cases hk
            exact op_in_str pins s σ H x y v u Q I rx ry ⟨_, _, rd_str w rd h1, rd_str w re h2, af.here w (.bl _)⟩
          · cases hk
        · split at hk
          · rename_i kvs _ k
            cases hk
            obtain ⟨a, vs, rfl, g1, g2⟩ := rd_dct w re h2
            obtain rfl : u = Value.ref a := ry
            have e1 := rd_int w rd h1
            subst e1
            exact d_in (by omega) I (.k (k := Sum.inl k) g1) rx fun s' I' => ⟨.bl _, H, I', by rw [g2.has k]; rfl, af.here w (.bl _)⟩
          · cases hk
        · cases hk
      | notin =>
        try dsimp only at hk
        split at hk
        · split at hk
          · rename_i hp
            simp only [Bool.and_eq_true, decide_eq_true_eq] at hp
            exact SeqAt.notIn_list_data r2 r1 hp.1.1 hp.1.2 (units60 hu hp.2) (go _ (Option.some.inj hk).symm)
          · cases hk
        · split at hk
          · rename_i hp
            simp only [Bool.and_eq_true, decide_eq_true_eq] at hp
            exact SeqAt.notIn_tuple_data r2 r1 hp.1.1 hp.1.2 (units60 hu hp.2) (go _ (Option.some.inj hk).symm)
          · cases hk
        · split at hk
          · rename_i kvs _ k
            cases hk
            obtain ⟨a, vs, rfl, g1, g2⟩ := rd_dct w re h2
            obtain rfl : u = Value.ref a := ry
            have e1 := rd_int w rd h1
            subst e1
            exact d_notIn (by omega) I (.k (k := Sum.inl k) g1) rx fun s' I' => ⟨.bl _, H, I', by rw [g2.has k]; rfl, af.here w (.bl _)⟩
          · cases hk
        · cases hk
    · cases hb
  · cases hb

/-! ### truth -/
theorem tru_of (w : W X.K S M H) {d : D} {v : V} {k : Bool} (r : RD X.K S H d v) (e : truth M d = some k) : TruV X.K v H k := by
  unfold truth at e
  split at e
  · rename_i h; cases e; rw [rd_non w r h]; rfl
  · rename_i b h; cases e; rw [rd_bl w r h]; rfl
  · rename_i i h; cases e; rw [rd_int w r h]; rfl
  · rename_i x h
    split at e
    · rename_i hz; cases e; rw [rd_str w r h]; exact ⟨sz_le hz, rfl⟩
    · cases e
  · rename_i xs h
    cases e
    obtain ⟨a, vs, rfl, q1, q2⟩ := rd_lst w r h
    refine .inl ⟨vs, .inl q1, ?_⟩
    cases q2 <;> rfl
  · rename_i xs h
    cases e
    obtain ⟨a, vs, rfl, q1, q2, _⟩ := rd_tup w r h
    refine .inr (.inl ⟨vs, q1, ?_⟩)
    cases q2 <;> rfl
  · cases e

/-! ### places -/
theorem atI_len {α β : Type} {xs : List α} {ys : List β} {k : Int} {x : α} (h : atI xs k = some x) (hl : xs.length = ys.length) : ∃ j : Nat, xs[j]? = some x ∧ ∀ y, ys[j]? = some y → atI ys k = some y := by
  unfold atI at h ⊢
  rw [← hl]
  cases e : ixN xs.length k with
  | none => rw [e] at h; cases h
  | some j => rw [e] at h; exact ⟨j, h, fun y hy => hy⟩
theorem ix_any : IxR X (r2D X.K idxop) := by
  intro ev es pins s σ H x y v u Q I rx ry h hsub
  obtain ⟨S, M, d, e, r, M', w, rd, re, hb, af⟩ := h
  unfold idxop at hb
  split at hb
  · rename_i ns k
    split at hb
    · rename_i z hz
      cases hb
      have e2 : y = .int k := by cases (show RP X.K S H (.int k) y from re); rfl
      obtain ⟨a, e1, hs⟩ := rd
      have hs' : SqL X.K H a (ns.map V.int) := by
        rcases hs with ⟨hs, _⟩ | hs
        · exact .inl hs
        · exact .inr hs
      obtain ⟨j, g1, g2⟩ := atI_len (ys := ns.map V.int) hz (by simp)
      refine ix_list ev es pins s σ H x y v u Q I rx ry ?_ hsub
      exact ⟨a, _, k, .int z, e1, e2, hs', g2 _ (by rw [List.getElem?_map, g1]; rfl), af.here w (.int _)⟩
    · cases hb
  split at hb
  · rename_i xs k h1 _
    split at hb
    · rename_i z hz
      cases hb
      obtain ⟨a, vs, e1, q1, p1⟩ := rd_lst w rd h1
      have e2 : y = .int k := by cases (show RP X.K S H (.int k) y from re); rfl
      obtain ⟨j, g1, g2⟩ := atI_len hz p1.length
      obtain ⟨uv, g3, g4⟩ := p1.get g1
      refine ix_list ev es pins s σ H x y v u Q I rx ry ?_ hsub
      exact ⟨a, vs, k, uv, e1, e2, .inl q1, g2 uv g3, af.here w g4⟩
    · cases hb
  · rename_i xs k h1 _
    split at hb
    · rename_i z hz
      cases hb
      obtain ⟨a, vs, e1, q1, p1, _⟩ := rd_tup w rd h1
      have e2 : y = .int k := by cases (show RP X.K S H (.int k) y from re); rfl
      obtain ⟨j, g1, g2⟩ := atI_len hz p1.length
      obtain ⟨uv, g3, g4⟩ := p1.get g1
      refine ix_tup ev es pins s σ H x y v u Q I rx ry ?_ hsub
      exact ⟨a, vs, k, uv, e1, e2, q1, g2 uv g3, af.here w g4⟩
    · cases hb
  · rename_i z k h1 _
    split at hb
    · rename_i hlen
      split at hb
      · rename_i c hc
        cases hb
        have e2 : y = .int k := by cases (show RP X.K S H (.int k) y from re); rfl
        refine ix_str ev es pins s σ H x y v u Q I rx ry ?_ hsub
        exact ⟨z, k, c, rd_str w rd h1, e2, sz_le hlen, hc, af.here w (.str _)⟩
      · cases hb
    · cases hb
  · rename_i k h1 _
    cases d with
    | p z => cases hb
    | scr z => cases hb
    | ref j =>
      simp only [boxAt] at hb
      split at hb
      · rename_i ks hm
        split at hb
        · rename_i p hp
          split at hb
          case h_2 => cases hb
          rename_i d0 hd0
          obtain ⟨rfl, rfl⟩ : d0 = r ∧ M = M' := by
            injection hb with q1 q2
            exact ⟨q1, q2⟩
          obtain ⟨a, ha⟩ := w.lv j _ hm (fun e => by cases e)
          obtain ⟨vs, h2, h3⟩ : ∃ vs, FKRs X.K S H j ks vs ∧ H a = some (.lst vs) := w.ob j a _ ha hm
          have e2 : y = .int k := by cases (show RP X.K S H (.int k) y from re); rfl
          obtain ⟨n, g1, g2⟩ := atI_len hp h2.length
          obtain ⟨uv, g3, g4⟩ := h2.get g1
          refine ix_list ev es pins s σ H x y v u Q I rx ry ?_ hsub
          exact ⟨a, vs, k, uv, rd.2 a ha, e2, .inl (.inl h3), g2 uv g3, af.here w (fk_rd w rd.1 g4 hd0)⟩
        · cases hb
      · cases hb
  · cases hb
theorem sl_any (mt : Bool) : SlR X (fun x lo hi H Q => ∃ S M d r M', W X.K S M H ∧ RD X.K S H d x ∧ slcop mt d lo hi M = .ok r M' ∧ Aft X.K S H r M' Q) := by
  intro pins s σ H x v vl vu lo hi sl Q I rx hs pl pu h
  obtain ⟨S, M, d, r, M', w, rd, hb, af⟩ := h
  unfold slcop at hb
  split at hb
  · rename_i xs h1
    obtain ⟨a, vs, e1, q1, p1⟩ := rd_lst w rd h1
    exact sl_list pins s σ H x v vl vu lo hi sl Q I rx hs pl pu ⟨a, vs, e1, .inl q1, fun p np => Aft.new w hb (p1.cut lo hi) af np⟩
  · rename_i xs h1
    cases hb
    obtain ⟨a, vs, e1, q1, p1, t1⟩ := rd_tup w rd h1
    refine sl_tupA pins s σ H x v vl vu lo hi sl Q I rx hs pl pu ⟨a, vs, e1, q1, fun z => ?_, fun _ p np => af.tup w (p1.cut lo hi) np⟩
    have ez : cut xs lo hi = xs := by
      unfold cut
      rw [p1.length, z.1, z.2, List.drop_zero, Nat.sub_zero, ← p1.length, List.take_length]
    rw [ez] at af
    exact af.here w (e1 ▸ t1)
  · rename_i z h1
    split at hb
    · rename_i hz
      cases hb
      have := rd_str w rd h1
      subst this
      exact sl_str pins s σ H _ v vl vu lo hi sl Q I rx hs pl pu ⟨z, rfl, sz_le hz, af.here w (.str _)⟩
    · cases hb
  · cases hb

/-! ### built-ins -/
def rCD (K : Kf) (f : List D → Mem → Res D) : List V → Hp → VK → Prop := fun xs H Q => ∃ S M ds r M', W K S M H ∧ RDs K S H ds xs ∧ f ds M = .ok r M' ∧ Aft K S H r M' Q
theorem rds1 {K : Kf} {d : D} {xs : List V} (r : RDs K S H [d] xs) : ∃ x, xs = [x] ∧ RD K S H d x := by
  cases r with
  | cons a b => cases b; exact ⟨_, rfl, a⟩
theorem rds2 {K : Kf} {d e : D} {xs : List V} (r : RDs K S H [d, e] xs) : ∃ x y, xs = [x, y] ∧ RD K S H d x ∧ RD K S H e y := by
  cases r with
  | cons a b =>
    cases b with
    | cons c b => cases b; exact ⟨_, _, rfl, a, c⟩
theorem rp_int {K : Kf} {i : Int} {v : V} (r : RD K S H (.p (.int i)) v) : v = .int i := by
  cases (show RP K S H (.int i) v from r); rfl
theorem b_one {f : Value} {g : PyData → Mem → Res D} (h : ∀ (pins : List (Addr × Obj)) (s : Shared) (σ : L2.St) (H : Hp) (S : Sk) (M : Mem) (d : D) (x : V) (u : Value) (y : PyData) (r : D) (M' : Mem) (Q : VK), L2.Inv X pins σ H s → RelV x u → W X.K S M H → RD X.K S H d x → dat M d = some y → g y M = .ok r M' → Aft X.K S H r M' Q → wpAny (model X.prog X.w) X.A (call f [u]) (EP X pins σ Q) X.xe s) :
    CallR X f (rCD X.K (one g)) := by
  intro pins s σ H xs us Q I rv hh
  obtain ⟨S, M, ds, r, M', w, rd, hb, af⟩ := hh
  unfold one at hb
  split at hb
  · rename_i d
    split at hb
    · rename_i y hy
      obtain ⟨x, rfl, rx⟩ := rds1 rd
      obtain ⟨u, rfl, ru⟩ := vals1 rv
      exact h pins s σ H S M d x u y r M' Q I ru w rx hy hb af
    · cases hb
  · cases hb
theorem vls1 {x : V} {u : Value} (r : RelV x u) : Vals [x] [u] := .cons r .nil
theorem b_len1 : CallR X (.builtin "len") (rCD X.K (one bLen)) := by
  refine b_one fun pins s σ H S M d x u y r M' Q I ru w rx hy hb af => ?_
  unfold bLen at hb
  split at hb
  · rename_i ys
    cases hb
    obtain ⟨a, vs, e1, q1, p1⟩ := rd_lst w rx hy
    exact call_len pins s σ H _ _ Q I (vls1 ru) ⟨x, vs.length, rfl, by rw [e1]; exact .inl ⟨vs, .inl q1, rfl⟩, af.here w (by rw [p1.length]; exact .int _)⟩
  · rename_i ys
    cases hb
    obtain ⟨a, vs, e1, q1, p1, _⟩ := rd_tup w rx hy
    exact call_len pins s σ H _ _ Q I (vls1 ru) ⟨x, vs.length, rfl, by rw [e1]; exact .inr ⟨vs, q1, rfl⟩, af.here w (by rw [p1.length]; exact .int _)⟩
  · rename_i z
    split at hb
    · rename_i hz
      cases hb
      exact call_len pins s σ H _ _ Q I (vls1 ru) ⟨x, z.length, rfl, by rw [rd_str w rx hy]; exact ⟨sz_le hz, rfl⟩, af.here w (.int _)⟩
    · cases hb
  · cases hb
theorem b_len : CallR X (.builtin "len") (rCD X.K (bltop .len)) := by
  intro pins s σ H xs us Q I rv h
  obtain ⟨S, M, ds, r, M', w, rd, hb, af⟩ := h
  unfold bltop at hb
  try dsimp only at hb
  split at hb
  · rename_i ns
    cases hb
    obtain ⟨x, rfl, a, e1, hs⟩ := rds1 rd
    have hs' : SqL X.K H a (ns.map V.int) := by
      rcases hs with ⟨hs, _⟩ | hs
      · exact .inl hs
      · exact .inr hs
    refine call_len pins s σ H _ us Q I rv ⟨x, ns.length, rfl, ?_, af.here w (.int _)⟩
    rw [e1]
    exact .inl ⟨_, hs', by simp⟩
  · exact b_len1 pins s σ H xs us Q I rv ⟨S, M, _, r, M', w, rd, hb, af⟩
theorem b_two {f : Value} {g : PyData → PyData → Mem → Res D} (h : ∀ (pins : List (Addr × Obj)) (s : Shared) (σ : L2.St) (H : Hp) (S : Sk) (M : Mem) (d e : D) (x y : V) (u t : Value) (a b : PyData) (r : D) (M' : Mem) (Q : VK), L2.Inv X pins σ H s → RelV x u → RelV y t → W X.K S M H → RD X.K S H d x → RD X.K S H e y → dat M d = some a → dat M e = some b → g a b M = .ok r M' → Aft X.K S H r M' Q → wpAny (model X.prog X.w) X.A (call f [u, t]) (EP X pins σ Q) X.xe s) :
    CallR X f (rCD X.K (two g)) := by
  intro pins s σ H xs us Q I rv hh
  obtain ⟨S, M, ds, r, M', w, rd, hb, af⟩ := hh
  unfold two at hb
  split at hb
  · rename_i d e
    split at hb
    · rename_i a b ha hb'
      obtain ⟨x, y, rfl, rx, ry⟩ := rds2 rd
      obtain ⟨u, t, rfl, ru, rt⟩ := vals2 rv
      exact h pins s σ H S M d e x y u t a b r M' Q I ru rt w rx ry ha hb' hb af
    · cases hb
  · cases hb
theorem b_min (hc : X.calm = true) : CallR X (.builtin "min") (rCD X.K (two bMin)) := by
  refine b_two fun pins s σ H S M d e x y u t a b r M' Q I ru rt w rx ry ha hb' hb af => ?_
  unfold bMin at hb
  split at hb
  · rename_i i j
    cases hb
    exact call_min2 hc pins s σ H [x, y] _ Q I (.cons ru (.cons rt .nil)) ⟨i, j, by rw [rd_int w rx ha, rd_int w ry hb'], af.here w (.int _)⟩
  · cases hb
theorem b_max (hc : X.calm = true) : CallR X (.builtin "max") (rCD X.K (two bMax)) := by
  refine b_two fun pins s σ H S M d e x y u t a b r M' Q I ru rt w rx ry ha hb' hb af => ?_
  unfold bMax at hb
  split at hb
  · rename_i i j
    cases hb
    exact call_max2 hc pins s σ H [x, y] _ Q I (.cons ru (.cons rt .nil)) ⟨i, j, by rw [rd_int w rx ha, rd_int w ry hb'], af.here w (.int _)⟩
  · cases hb
theorem b_abs : CallR X (.builtin "abs") (rCD X.K (one bAbs)) := by
  refine b_one fun pins s σ H S M d x u y r M' Q I ru w rx hy hb af => ?_
  unfold bAbs at hb
  split at hb
  · rename_i i
    cases hb
    exact call_abs pins s σ H _ _ Q I (vls1 ru) ⟨i, by rw [rd_int w rx hy], af.here w (.int _)⟩
  · cases hb
theorem ints_of {K : Kf} : ∀ {xs : List PyData} {vs : List V} {ns : List Int}, RPs K S H xs vs → asInts xs = some ns → vs = ns.map V.int
  | [], _, _, .nil, e => by cases e; rfl
  | x :: xs, _, ns, .cons a b, e => by
    cases x <;> try (simp [asInts] at e; done)
    rename_i i
    unfold asInts at e
    cases q : asInts xs with
    | none => rw [q] at e; cases e
    | some ms =>
      rw [q] at e
      cases e
      cases a
      rw [ints_of b q]; rfl
theorem bools_of {K : Kf} : ∀ {xs : List PyData} {vs : List V} {ns : List Bool}, RPs K S H xs vs → asBools xs = some ns → vs = ns.map V.bl
  | [], _, _, .nil, e => by cases e; rfl
  | x :: xs, _, ns, .cons a b, e => by
    cases x <;> try (simp [asBools] at e; done)
    rename_i i
    unfold asBools at e
    cases q : asBools xs with
    | none => rw [q] at e; cases e
    | some ms =>
      rw [q] at e
      cases e
      cases a
      rw [bools_of b q]; rfl
theorem b_sum (hc : X.calm = true) : CallR X (.builtin "sum") (rCD X.K (one bSum)) := by
  refine b_one fun pins s σ H S M d x u y r M' Q I ru w rx hy hb af => ?_
  unfold bSum at hb
  split at hb
  · rename_i ys
    split at hb
    · rename_i ns hn
      cases hb
      obtain ⟨a, vs, e1, q1, p1⟩ := rd_lst w rx hy
      exact cr_sum hc pins s σ H [x] _ Q I (vls1 ru) ⟨a, ns, by rw [e1], by rw [← ints_of p1 hn]; exact .inl q1, af.here w (.int _)⟩
    · cases hb
  · rename_i ys
    split at hb
    · rename_i ns hn
      cases hb
      obtain ⟨a, vs, e1, q1, p1, t1⟩ := rd_tup w rx hy
      exact cr_sumT hc pins s σ H [x] _ Q I (vls1 ru) ⟨a, ns, by rw [e1], by rw [← ints_of p1 hn]; exact q1, af.here w (.int _)⟩
    · cases hb
  · cases hb
theorem b_all (hc : X.calm = true) : CallR X (.builtin "all") (rCD X.K (one bAll)) := by
  refine b_one fun pins s σ H S M d x u y r M' Q I ru w rx hy hb af => ?_
  unfold bAll at hb
  split at hb
  · rename_i ys
    split at hb
    · rename_i ns hn
      cases hb
      obtain ⟨a, vs, e1, q1, p1⟩ := rd_lst w rx hy
      exact cr_all hc pins s σ H [x] _ Q I (vls1 ru) ⟨a, ns, by rw [e1], by rw [← bools_of p1 hn]; exact .inl q1, af.here w (.bl _)⟩
    · cases hb
  · cases hb
theorem b_any (hc : X.calm = true) : CallR X (.builtin "any") (rCD X.K (one bAny)) := by
  refine b_one fun pins s σ H S M d x u y r M' Q I ru w rx hy hb af => ?_
  unfold bAny at hb
  split at hb
  · rename_i ys
    split at hb
    · rename_i ns hn
      cases hb
      obtain ⟨a, vs, e1, q1, p1⟩ := rd_lst w rx hy
      exact cr_any hc pins s σ H [x] _ Q I (vls1 ru) ⟨a, ns, by rw [e1], by rw [← bools_of p1 hn]; exact .inl q1, af.here w (.bl _)⟩
    · cases hb
  · cases hb
theorem b_tuple : CallR X (.type "tuple") (rCD X.K (one bTuple)) := by
  refine b_one fun pins s σ H S M d x u y r M' Q I ru w rx hy hb af => ?_
  unfold bTuple at hb
  split at hb
  · rename_i ys
    cases hb
    obtain ⟨a, vs, e1, q1, p1⟩ := rd_lst w rx hy
    exact call_tuple_of pins s σ H [x] _ Q I (vls1 ru) ⟨a, vs, by rw [e1], .inl ⟨.inl q1, fun l nl => af.tup w p1 nl⟩⟩
  · rename_i ys
    cases hb
    obtain ⟨a, vs, e1, q1, p1, t1⟩ := rd_tup w rx hy
    exact call_tuple_of pins s σ H [x] _ Q I (vls1 ru) ⟨a, vs, by rw [e1], .inr ⟨q1, af.here w (e1 ▸ t1)⟩⟩
  · cases hb
theorem b_list (mt : Bool) : CallR X (.type "list") (rCD X.K (one (bList mt))) := by
  refine b_one fun pins s σ H S M d x u y r M' Q I ru w rx hy hb af => ?_
  unfold bList at hb
  split at hb
  · rename_i ys
    obtain ⟨a, vs, e1, q1, p1⟩ := rd_lst w rx hy
    exact call_list_of pins s σ H [x] _ Q I (vls1 ru) ⟨a, vs, by rw [e1], .inl (.inl q1), fun l nl => Aft.new w hb p1 af nl⟩
  · rename_i ys
    obtain ⟨a, vs, e1, q1, p1, t1⟩ := rd_tup w rx hy
    exact call_list_of pins s σ H [x] _ Q I (vls1 ru) ⟨a, vs, by rw [e1], .inr q1, fun l nl => Aft.new w hb p1 af nl⟩
  · cases hb
theorem b_str : CallR X (.type "str") (rCD X.K (one bStr)) := by
  refine b_one fun pins s σ H S M d x u y r M' Q I ru w rx hy hb af => ?_
  unfold bStr at hb
  split at hb
  · rename_i i
    split at hb
    · rename_i hz
      cases hb
      exact call_str_int pins s σ H _ _ Q I (vls1 ru) ⟨i, by rw [rd_int w rx hy], hz, af.here w (.str _)⟩
    · cases hb
  · rename_i x
    cases hb
    exact SkE.call_str_str pins s σ H _ _ Q I (vls1 ru) ⟨x, by rw [rd_str w rx hy], af.here w (.str _)⟩
  · cases hb
theorem b_repr (hg : X.A.guards = some []) (hu : X.A.units + 64 < cLine) : CallR X (.builtin "repr") (rCD X.K (one bRepr)) := by
  refine b_one fun pins s σ H S M d x u y r M' Q I ru w rx hy hb af => ?_
  unfold bRepr at hb
  split at hb
  · rename_i hp
    cases hb
    simp only [Bool.and_eq_true, decide_eq_true_eq] at hp
    obtain ⟨⟨⟨h1, h2⟩, h3⟩, h4⟩ := hp
    obtain ⟨as, rr, ns⟩ := rd_reads I w rx ru hy
    have sm : y.hasDict = true → sysModules ∉ as := fun e => ns (by simpa [e] using h4)
    have go : ∀ z t h' tk, z = y.shown → (∀ b o, s.heap.get? b = some o → h'.get? b = some o) → EP X pins σ Q (.str z t) { s with heap := h', toks := tk } := fun z t h' tk e k => by
      subst e
      exact ⟨.str _, H, I.kept k, ⟨t, rfl⟩, af.here w (.str _)⟩
    cases rr with
    | none => exact PySem.P.repr_of_none (go _ _ s.heap _ (by simp [PyData.shown]) fun _ _ e => e)
    | bool b => exact PySem.P.repr_of_bool (go _ _ s.heap _ (by cases b <;> simp [PyData.shown]) fun _ _ e => e)
    | int i t => exact PySem.P.repr_of_int (by simpa [PyData.showable] using h1) (go _ _ s.heap _ (by simp [PyData.shown]) fun _ _ e => e)
    | str z t => exact PySem.P.repr_of_str (go _ _ s.heap _ (by simp [PyData.shown]) fun _ _ e => e) (by rw [PyData.shown] at h3; exact sz_le h3)
    | list a1 a2 a3 a4 => exact repr_of_reads' (Reads.list a1 a2 a3 a4) h1 sm hg (by omega) (fun _ _ e => e) (fun h' u tk k => go _ _ h' tk rfl k) (sz_le h3)
    | tuple a1 a2 a3 a4 => exact repr_of_reads' (Reads.tuple a1 a2 a3 a4) h1 sm hg (by omega) (fun _ _ e => e) (fun h' u tk k => go _ _ h' tk rfl k) (sz_le h3)
    | dict a1 a2 a3 a4 a5 => exact repr_of_reads' (Reads.dict a1 a2 a3 a4 a5) h1 sm hg (by omega) (fun _ _ e => e) (fun h' u tk k => go _ _ h' tk rfl k) (sz_le h3)
  · cases hb
def tyName : Ty → String
  | .int => "int"
  | .bool => "bool"
  | .str => "str"
  | .tuple => "tuple"
  | .list => "list"
  | .dict => "dict"
theorem b_isi (t : Ty) : CallR X (.builtin "isinstance") (fun xs H Q => ∃ x, xs = [x, .ty (tyName t)] ∧ rCD X.K (one (bIsi t)) [x] H Q) := by
  intro pins s σ H xs us Q I rv hh
  obtain ⟨x, rfl, S, M, ds, r, M', w, rd, hb, af⟩ := hh
  obtain ⟨u, t', rfl, ru, rt⟩ := vals2 rv
  cases (show t' = Value.type (tyName t) from rt)
  unfold one at hb
  split at hb
  · rename_i d
    split at hb
    · rename_i y hy
      cases hb
      obtain ⟨x', e, rx⟩ := rds1 rd
      cases e
      obtain ⟨as, rr, ns⟩ := rd_reads I w rx ru hy
      have go : ∀ b tk, b = isTy t y → EP X pins σ Q (.bool b) { s with toks := tk } := fun b tk e => by
        subst e
        exact ⟨.bl _, H, I.tok _, rfl, af.here w (.bl _)⟩
      cases t with
      | int => exact PySem.W.isinstance_int_data rr fun tk _ => go _ tk (by cases y <;> rfl)
      | bool => exact PySem.W.isinstance_bool_data rr fun tk _ => go _ tk (by cases y <;> rfl)
      | str => exact PySem.W.isinstance_str_data rr fun tk _ => go _ tk (by cases y <;> rfl)
      | tuple => exact PySem.W.isinstance_tuple_data rr fun tk _ => go _ tk (by cases y <;> rfl)
      | list => exact PySem.W.isinstance_list_data rr fun tk _ => go _ tk (by cases y <;> rfl)
      | dict => exact PySem.W.isinstance_dict_data rr fun tk _ => go _ tk (by cases y <;> rfl)
    · cases hb
  · cases hb

/-! ### methods -/
theorem m_append : MtM X "list.append" (fun x vs H Q => ∃ S M o ds r M', W X.K S M H ∧ RD X.K S H o x ∧ RDs X.K S H ds vs ∧ mAppend o ds M = .ok r M' ∧ Aft X.K S H r M' Q) := by
  intro pins s σ H x vs v us Q I rx rv h
  obtain ⟨S, M, o, ds, r, M', w, ro, rd, hb, af⟩ := h
  unfold mAppend at hb
  split at hb
  · rename_i i d
    split at hb
    · rename_i y M1 hf
      split at hb
      · rename_i xs hm
        split at hb
        · rename_i hz
          cases hb
          obtain ⟨z, rfl, rz⟩ := rds1 rd
          obtain ⟨S1, w1, t1, r1⟩ := frzP_ok w rz hf
          obtain ⟨a, ha⟩ := w1.lvl i xs hm
          obtain ⟨us', q1, q2⟩ := w1.obl i a xs ha hm
          have ro1 : RD X.K S1 H (.ref i) x := ro.mono t1
          obtain ⟨w2, t2⟩ := w1.write ha hm (q2.app (.cons r1 .nil))
          exact mt_append pins s σ H x _ v us Q I rx rv ⟨a, us', z, ro1.2 a ha, rfl, q1, by rw [← q2.length]; exact sz_lt hz, af S1 _ _ (t1.trans t2) w2 .non⟩
        · cases hb
      · cases hb
    · cases hb
  · cases hb
theorem RPs.erase {K : Kf} {S : Sk} {H : Hp} : ∀ {xs : List PyData} {vs : List V} (n : Nat), RPs K S H xs vs → RPs K S H (xs.eraseIdx n) (vs.eraseIdx n)
  | [], _, n, .nil => by simpa using .nil
  | _ :: _, _, 0, .cons a b => by simpa using b
  | _ :: _, _, n + 1, .cons a b => by rw [List.eraseIdx_cons_succ, List.eraseIdx_cons_succ]; exact .cons a (RPs.erase n b)
theorem m_pop : MtM X "list.pop" (fun x vs H Q => ∃ S M o ds r M', W X.K S M H ∧ RD X.K S H o x ∧ RDs X.K S H ds vs ∧ mPop o ds M = .ok r M' ∧ Aft X.K S H r M' Q) := by
  intro pins s σ H x vs v us Q I rx rv h
  obtain ⟨S, M, o, ds, r, M', w, ro, rd, hb, af⟩ := h
  unfold mPop at hb
  split at hb
  · rename_i i k
    split at hb
    · rename_i xs hm
      split at hb
      · rename_i hk
        split at hb
        · rename_i n hn
          split at hb
          · rename_i y hy
            cases hb
            obtain ⟨z, rfl, rz⟩ := rds1 rd
            obtain ⟨a, ha⟩ := w.lvl i xs hm
            obtain ⟨us', q1, q2⟩ := w.obl i a xs ha hm
            obtain ⟨u, hu, ru⟩ := q2.get hy
            obtain ⟨w2, t2⟩ := w.write ha hm (q2.erase n)
            have hz : z = .int k := rp_int rz
            subst hz
            exact mt_popAt pins s σ H x _ v us Q I rx rv ⟨a, us', k, n, u, ro.2 a ha, rfl, q1, hk.1, hk.2, by rw [← q2.length]; exact (ixN_seq hn).1, hu, af S _ _ t2 w2 (ru.mono t2)⟩
          · cases hb
        · cases hb
      · cases hb
    · cases hb
  · cases hb
theorem seq_reads (I : L2.Inv X pins σ H s) {a : Addr} {vs : List V} {xs : List PyData} (h : Rd H a (.lst vs)) (r : RPs X.K S H xs vs) : ∃ its as, s.heap.IsList a its ∧ ReadsAll s.heap its.toList xs as ∧ its.size = xs.length := by
  obtain ⟨_, its, n, rv, hl, ho⟩ := rd_obj I h
  obtain ⟨as, hr, _⟩ := RPs.reads I xs vs its r rv
  exact ⟨its.toArray, as, ⟨_, ho, rfl, _, rfl⟩, hr, by rw [List.size_toArray, ← hl, r.length]⟩
theorem inOk_of {xs : List PyData} {x : PyData} (h : inOk xs x = true) : PyData.plainAll xs = true ∧ x.plain = true ∧ x.depth ≤ 60 := by
  unfold inOk at h
  simp only [Bool.and_eq_true, decide_eq_true_eq] at h
  exact ⟨h.1.1, h.1.2, h.2⟩
theorem m_two {id : String} {g : PyData → PyData → Mem → Res D} (h : CallR X (.builtin id) (rCD X.K (two g))) : MtM X id (fun x vs H Q => ∃ S M o ds r M', W X.K S M H ∧ RD X.K S H o x ∧ RDs X.K S H ds vs ∧ two g (o :: ds) M = .ok r M' ∧ Aft X.K S H r M' Q) := by
  intro pins s σ H x vs v us Q I rx rv hh
  obtain ⟨S, M, o, ds, r, M', w, ro, rd, hb, af⟩ := hh
  exact h pins s σ H (x :: vs) (v :: us) Q I (.cons rx rv) ⟨S, M, o :: ds, r, M', w, .cons ro rd, hb, af⟩
theorem b_count (hu : X.A.units + 64 < cLine) : CallR X (.builtin "list.count") (rCD X.K (two bCount)) := by
  refine b_two fun pins s σ H S M d e x y u t a b r M' Q I ru rt w rx ry ha hb' hb af => ?_
  unfold bCount at hb
  split at hb
  · rename_i xs
    split at hb
    · rename_i hk
      cases hb
      obtain ⟨p, vs, e1, q1, p1⟩ := rd_lst w rx ha
      subst e1
      cases ru
      obtain ⟨h1, h2, h3⟩ := inOk_of hk
      obtain ⟨its, as, l1, l2, _⟩ := seq_reads I q1 p1
      obtain ⟨bs, r2, _⟩ := rd_reads I w ry rt hb'
      exact SeqAt.count_list_data l1 l2 r2 h1 h2 (units60 hu h3) ⟨.int _, H, I.tok _, ⟨_, rfl⟩, af.here w (.int _)⟩
    · cases hb
  · cases hb
end
end Mi

set_option Elab.async false
set_option linter.all false
set_option maxRecDepth 100000
set_option maxHeartbeats 1000000
/-! Mi: a def's promise where no repr is under way (guards = some []), and the law's end by it. -/
namespace Mi
open PySem PySem.Spec PyProof.Rows L2
abbrev CXm (P : Program) (w : World) : CXT := L2.CX P w
structure FnG (P : Program) (w : World) (K : Kf) (mg : Str → Option Value) (base : Heap) (k : Nat) (f : Addr) (fd : FuncData) (ps : List Str) (sp : Sp) : Prop where
  len : ∀ vs H Q E, sp vs H Q E → vs.length = ps.length
  run : ∀ (A : Around) (outer : List PySem.Env) (s : Shared) (H : Hp) (args : Args) (us : List Value) (vs : List V) (Q : VK) (E : XK), A.guards = some [] → Room k A → Env0 P w K mg base A outer s H → BindsTo s fd args (ps.zip us) → Vals vs us → sp vs H Q E →
    codeAny (model P w) A (.call (.ref f) args) (CR (CXm P w) outer P w H s Q E) s
theorem fnG_of {P : Program} {w : World} {K : Kf} {mg : Str → Option Value} {base : Heap} {k : Nat} {x qual : Str} {st : Stmt} {f : Addr} {fd : FuncData} {N ps : List Str} {sp : Sp} (F : Fun K x qual st f fd) (S : FnScope N ps (defScope st))
    (len : ∀ vs H Q E, sp vs H Q E → vs.length = ps.length)
    (body : ∀ (cdv : Value), fd.code = cdv → ∀ (A : Around) (outer : List PySem.Env) (s : Shared) (H : Hp) (vs : List V) (Q : VK) (E : XK), A.guards = some [] → Room k (A.deeper (envOfC qual (defScope st) s.heap.objs.size f cdv)) → sp vs H Q E →
      ∃ t, PSs (cxOf (CXm P w) P w K mg base N qual (defScope st) f cdv A outer s H E) (defBody st) t ∧ t { nx := fun _ H' => Q .non H', rt := Q } (start N vs) H) :
    FnG P w K mg base (k + 1) f fd ps sp := by
  obtain ⟨oc, od, kV, doc, pm, an, cdv, ct, osl, rfl, lk, hcd⟩ := F.ex
  refine ⟨len, fun A outer s H args us vs Q E hgd room e0 bd rel want => ?_⟩
  have hlen := len _ _ _ _ want
  have kin : K.In s.heap := e0.mod.kin.keeps fun b o e => (e0.bs b o e).1
  have nol : s.heap.NoLimit := e0.mod.nolimit.keeps fun b o e => (e0.bs b o e).1
  have kinds : ∀ y ∈ ps.zip us, (defScope st).names.lookup y.1 = some .local ∨ ((defScope st).names.lookup y.1 = some .cell ∧ ((cellsFrom (s.heap.objs.size + 1) (defScope st).names []).lookup y.1).isSome = true) := by
    rintro ⟨n, v⟩ hy
    rcases S.par n (List.of_mem_zip hy).1 with q | q
    · exact .inl q
    · exact .inr ⟨q, PySem.W.cellsFrom_some _ _ _ (.inl q)⟩
  refine codeAny_call_function room.depth (kin _ _ lk) rfl S.co S.gen rfl (PySem.W.codeRec_of kin hcd) (bd _ _ _ _ ?_)
  refine wpAny_newFunctionEnv_cells S.kind kinds fun env henv s1 x => ?_
  subst henv
  refine ⟨nol.keeps x.toInCall.keep, codeAny_func ?_⟩
  obtain ⟨t, ht, hq⟩ := body cdv rfl A outer s H vs Q E hgd (room.deeper _) want
  have I := inv_start (CX := CXm P w) (E := E) S room.hd e0 hlen rel x
  refine wpAny_mono (ht.run [] s1 (start N vs) H _ I hq) (fun fl s' hs => ?_) fun e s' hs => hs
  cases fl with
  | ret u => obtain ⟨v, σ', H', J, rv, q⟩ := hs; exact ⟨v, H', J.os, J.bare, J.base, J.hok, rv, q⟩
  | next => obtain ⟨σ', H', J, q⟩ := hs; exact ⟨V.non, H', J.os, J.bare, J.base, J.hok, rfl, q⟩
  | brk => obtain ⟨_, _, _, q⟩ := hs; exact q.elim
  | cont => obtain ⟨_, _, _, q⟩ := hs; exact q.elim

section
variable {X : Cx} {k : Nat} {f : Addr} {fd : FuncData} {ps : List Str} {sp : Sp} {dvs : List V} {ds : List Value} {Wx : WX} {x : Str} {p pos : Pos} {e : Expr} {es : List Expr} {t : TA}
theorem run_fnG {pins : List (Addr × Obj)} {σ : L2.St} {H : Hp} {s : Shared} {Q : VK} {us : List Value} {vs : List V} (F : FnG X.prog X.w X.K X.mg X.base k f fd ps sp) (hgd : X.A.guards = some []) (hr : Room k X.A) (hb : Binds X.K fd ps ds) (hd : Vals dvs ds) (tk : Takes X Wx)
    (I : L2.Inv X pins σ H s) (r : Vals vs us) (h : sp (vs ++ dvs) H Q (WE Wx σ)) : wpAny (model X.prog X.w) X.A (call (.ref f) us) (EP X pins σ Q) X.xe s := by
  have r2 : Vals (vs ++ dvs) (us ++ ds) := r.append hd
  have hl : (us ++ ds).length = ps.length := by rw [← r2.length]; exact F.len _ _ _ _ h
  refine wpAny_call (codeAny_mono (F.run X.A X.stack s H ⟨us, []⟩ (us ++ ds) (vs ++ dvs) Q (WE Wx σ) hgd hr I.env0 (hb s us I.kIn hl) r2 h) fun r s' hq => ?_)
  cases r with
  | error e => exact passAt tk σ pins H s e s' I hq
  | ok fl =>
    cases fl with
    | ret u => exact I.after hq
    | next => exact False.elim hq
    | brk => exact False.elim hq
    | cont => exact False.elim hq
def tCallG (sp : Sp) (dvs : List V) (Wx : WX) (t : TA) : TE := fun σ H Q => t σ H fun vs H1 => sp (vs ++ dvs) H1 Q (WE Wx σ)
theorem pe_callG (F : FnG X.prog X.w X.K X.mg X.base k f fd ps sp) (hgd : X.A.guards = some []) (hr : Room k X.A) (hg : Gl X x) (hm : X.mg x = some (.ref f)) (hk : PySem.W.keepIn X.K (.ref f) = true) (hb : Binds X.K fd ps ds) (hd : Vals dvs ds) (tk : Takes X Wx)
    (ha : PA X (e :: es) t) (hdb : (x == ("__debug__" : Str)) = false) (he : starEach (e :: es) X.env = (false, eval e X.env) :: starEach es X.env) (hpl : (backTo pos (starEach es X.env)).any (·.1) = false) :
    PE X (.Call (.Name x p) (e :: es) [] pos) (tCallG sp dvs Wx t) := by
  refine ⟨fun pins s σ H Q I h => wpAny_Call_Name_kw (ld_glob I hg hm ?_ hdb)⟩
  exact PySem.W.callWith_K (h₀ := X.base) I.ok.mod.kin hk (thn (ha.run pos pins s σ H _ I h) fun us s1 ⟨vs, H1, I1, r, q⟩ => ⟨I1.kIn, run_fnG F hgd hr hb hd tk I1 r q⟩) he hpl
theorem pe_callG0 (F : FnG X.prog X.w X.K X.mg X.base k f fd ps sp) (hgd : X.A.guards = some []) (hr : Room k X.A) (hg : Gl X x) (hm : X.mg x = some (.ref f)) (hk : PySem.W.keepIn X.K (.ref f) = true) (hb : Binds X.K fd ps ds) (hd : Vals dvs ds) (tk : Takes X Wx)
    (hdb : (x == ("__debug__" : Str)) = false) : PE X (.Call (.Name x p) [] [] pos) (tCallG sp dvs Wx tNil) := by
  refine ⟨fun pins s σ H Q I h => wpAny_Call_Name_kw (ld_glob I hg hm ?_ hdb)⟩
  exact PySem.W.callWith_K0 I.kIn hk (run_fnG (us := []) F hgd hr hb hd tk I .nil h)
end

/-! ### the law's own call -/
end Mi

set_option Elab.async false
set_option linter.all false
namespace L2
open PySem PySem.Spec PyProof.Rows
section
variable {X : Cx}
theorem adj_back (n : Nat) : Builtin.Slice.sliceAdjust none none (-1) (n : Int) = ((n : Int) - 1, -1) := by
  unfold Builtin.Slice.sliceAdjust
  simp
theorem plc_back (n : Nat) : Builtin.Slice.slicePlaces ((n : Int) - 1) (-1) (-1) = n := by
  unfold Builtin.Slice.slicePlaces
  simp only [show ¬ ((-1 : Int) > 0) by decide, if_false, show (- -1 : Int) = 1 by decide, Int.ediv_one]
  split <;> omega
theorem pick_back (xs : Array Value) : ((List.range xs.size).filterMap fun (m : Nat) => xs[((xs.size : Int) - 1 + (m : Int) * -1).toNat]?).toArray = xs.toList.reverse.toArray := by
  have h1 : ((List.range xs.size).filterMap fun (m : Nat) => xs[((xs.size : Int) - 1 + (m : Int) * -1).toNat]?) = ((List.range xs.size).map fun k => xs.size - 1 - k).filterMap (xs[·]?) := by
    rw [List.filterMap_map]
    congr 1
    funext m
    show xs[_]? = xs[xs.size - 1 - m]?
    congr 1
    omega
  rw [h1, PySem.W.krv_range, List.filterMap_reverse, PySem.W.krv_all]
theorem applied_back {prog : Program} {w : World} {A : Around} {E : Value → Shared → Prop} {s : Shared} {sl : Addr} {vs : Value} {n : Nat} {Q : Int × Int × Nat → Shared → Prop} (hs : s.heap.IsSliceOf sl .none .none vs) (ps : IsPart vs (some (-1)))
    (h : Q ((n : Int) - 1, -1, n) s) : wpAny (model prog w) A (Builtin.Slice.sliceApplied (.ref sl) (pure (n : Int))) Q E s := by
  obtain ⟨os, ho1, ho2, ho3⟩ := id hs
  unfold Builtin.Slice.sliceApplied Builtin.Slice.sliceFields
  refine wpAny_bind (wpAny_bind (wpAny_field ho1 ho3 (x := .none) rfl (wpAny_bind (wpAny_field ho1 ho3 (x := .none) rfl (wpAny_bind (wpAny_field ho1 ho3 (x := vs) rfl (wpAny_pure ?_)))))))
  refine wpAny_bind (HT.slicePart_ ps ?_)
  show wpAny _ _ (if ((-1 : Int) == 0) = true then _ else _) _ _ s
  rw [if_neg (by decide)]
  refine wpAny_bind (HT.slicePart_ .none (wpAny_bind (HT.slicePart_ .none (wpAny_bind (wpAny_pure ?_)))))
  show wpAny _ _ (match Builtin.Slice.sliceAdjust none none (-1) (n : Int) with | (lo, hi) => pure (lo, (-1 : Int), Builtin.Slice.slicePlaces lo hi (-1))) _ _ s
  rw [adj_back n]
  show wpAny _ _ (pure ((n : Int) - 1, (-1 : Int), Builtin.Slice.slicePlaces ((n : Int) - 1) (-1) (-1))) _ _ s
  rw [plc_back]
  exact wpAny_pure h
theorem getT_back {prog : Program} {w : World} {A : Around} {E : Value → Shared → Prop} {s : Shared} {t sl : Addr} {items : Array Value} {vs : Value} {Q : Value → Shared → Prop} (ht : IsTup s.heap t items) (hs : s.heap.IsSliceOf sl .none .none vs) (ps : IsPart vs (some (-1)))
    (h : Q (.ref s.heap.objs.size) { s with heap := s.heap.push { cls := .type "tuple", data := .seq items.toList.reverse.toArray } })
    (hsz : items.size ≤ sizeLine) : wpAny (model prog w) A (getItem (.ref t) (.ref sl)) Q E s := by
  have hz : sizeOk (.seq items.toList.reverse.toArray) := by
    show items.toList.reverse.toArray.size ≤ sizeLine
    rw [List.size_toArray, List.length_reverse, Array.length_toList]
    exact hsz
  obtain ⟨os, ho1, ho2, ho3⟩ := id hs
  have hTs : s.TypeIs (.ref sl) "slice" := ⟨os, ho1, ho2⟩
  unfold getItem; try with_reducible refine wpAny_holding ?_
  first | refine wpAny_bind (wpAny_pure ?_) | skip
  refine wpAny_bind (wpAny_sequenceKey ht.typeIs (by decide) ?_)
  refine wpAny_bind (wpAny_callSpecial?_slot (name := Str.ofString "__getitem__") ht.typeIs PyProof.Rows.slot_tuple_getitem (wpAny_call_entry PyProof.Rows.slot_tuple_getitem ht.typeIs PyProof.Rows.entry_tuple_getitem ?_ (PyProof.Rows.args_tuple_getitem _ _)))
  show wpAny _ _ (Builtin.Tuple.tupleItemsOf (.ref t) >>= _) _ _ s; refine wpAny_bind (tupleItemsOf_ ht ?_)
  refine wpAny_bind (wpAny_typeOf hTs ?_)
  rw [if_pos (by decide)]
  refine wpAny_bind (applied_back hs ps ?_)
  have hno : ¬ ((((items.size : Int) - 1) == 0 && (-1 : Int) == 1 && items.size == items.size) = true) := by
    rw [show ((-1 : Int) == 1) = false by decide, Bool.and_false, Bool.false_and]
    exact Bool.false_ne_true
  show wpAny _ _ (if (((items.size : Int) - 1) == 0 && (-1 : Int) == 1 && items.size == items.size) = true then _ else _) _ _ s
  rw [if_neg hno, pick_back]
  first
    | exact wpAny_bind (m := Builtin.Tuple.tupleExact _) (wpAny_newObj_type (wpAny_pure ⟨_, rfl, wpAny_pure h⟩) hz)
    | exact wpAny_bind (m := Builtin.Tuple.tupleExact _) (wpAny_newObj_type (wpAny_bind (wpAny_pure (wpAny_pure ⟨_, rfl, wpAny_pure h⟩))) hz)
    | exact wpAny_bind (wpAny_bind (m := Builtin.Tuple.tupleExact _) (wpAny_newObj_type (wpAny_pure (wpAny_pure ⟨_, rfl, wpAny_pure h⟩)) hz))
    | exact wpAny_bind (wpAny_bind (m := Builtin.Tuple.tupleExact _) (wpAny_newObj_type (wpAny_pure ⟨_, rfl, wpAny_pure h⟩) hz))
def rBack (K : PySem.W.Frag) : V → Hp → VK → Prop := fun x H Q => ∃ a xs, x = .ref a ∧ ((SqL K H a xs ∧ ∀ p, H p = none → Q (.ref p) (upd H p (.lst xs.reverse))) ∨ (SqT K H a xs ∧ ∀ p, H p = none → Q (.ref p) (upd H p (.tup xs.reverse))))
theorem pe_back {e : Expr} {te : TE} {r : V → Hp → VK → Prop} (hr : ∀ x H Q, r x H Q → rBack X.K x H Q) {k : Nat} {p1 p2 p3 pos : Pos} (he : PE X e te) : PE X (.Subscript e (.Slice none none (some (.UnaryOp .USub (.Constant (.int 1) k p1) p2)) p3) pos) (fun σ H Q => te σ H fun x H1 => r x H1 Q) := by
  refine ⟨fun pins s σ H Q I h => ?_⟩
  refine Subscript_ (thn (he.run pins s σ H _ I h) fun v s1 ⟨x, H1, I1, r1, q1⟩ => ?_)
  obtain ⟨a, xs, ex, q⟩ := hr _ _ _ q1
  subst ex
  cases r1
  have hst : PO X (some (.UnaryOp .USub (.Constant (.int 1) k p1) p2)) (tPart (tUn (rU fun i => .int (-i)) (tC (.int 1)))) := po_some (pe_un un_neg pe_int)
  refine wpAny_Slice ?_
  rw [evalPart_none]
  refine wpAny_pure (wpAny_pure ?_)
  refine thn (hst.run pins s1 σ H1 (fun o H4 => o = some (-1) ∧ H4 = H1) I1 ⟨1, rfl, -1, rfl, rfl, rfl⟩) fun vs s4 ⟨o, H4, I4, ps, eo, e4⟩ => ?_
  subst eo e4
  have I5 : Inv X pins σ H4 { s4 with heap := s4.heap.push { cls := .type "slice", data := .fields #[.none, .none, vs] } } := I4.kept (t' := s4.toks) fun b ob q => Heap.get?_push_of_some _ q
  show wpAny (model X.prog X.w) X.A (subscriptTail e (.Slice none none (some (.UnaryOp .USub (.Constant (.int 1) k p1) p2)) p3) (.ref a) (.ref s4.heap.objs.size)) (EP X pins σ Q) X.xe { s4 with heap := s4.heap.push { cls := .type "slice", data := .fields #[.none, .none, vs] } }
  rcases q with ⟨hx, q⟩ | ⟨hx, q⟩
  · obtain ⟨its, r, ht, hz⟩ := I5.list hx
    have hlen := r.length
    refine tail_any (ops := [.ref a, .ref s4.heap.objs.size]) ht.isList.typeIs (PySem.slot_list_getitem.lookup) ?_ (by with_unfolding_all rfl)
    refine wpAny_getItem_list_slice ht.isList (Heap.IsSliceOf.new _ .none .none vs) .none .none ps (by decide) ?_ (by rw [List.size_toArray]; omega)
    rw [PySem.W.krv_pick]
    refine ⟨.ref _, _, I5.laid (t' := s4.toks) (o := .lst xs.reverse) (fun b ob q => Heap.get?_push_of_some _ q) (Nat.le_refl _) ?_, rfl, q _ (I5.hok.fresh (Nat.le_refl _))⟩
    exact ⟨by rw [List.length_reverse]; exact hz, _, 0, r.reverse, Heap.get?_push_size _ rfl⟩
  · obtain ⟨its, r, ht, hz⟩ := I5.tuple hx
    have hlen := r.length
    refine tail_any (ops := [.ref a, .ref s4.heap.objs.size]) ht.typeIs (PyProof.Rows.slot_tuple_getitem.lookup) ?_ (by with_unfolding_all rfl)
    refine getT_back ht (Heap.IsSliceOf.new _ .none .none vs) ps ?_ (by rw [List.size_toArray]; omega)
    refine ⟨.ref _, _, I5.laid (t' := s4.toks) (o := .tup xs.reverse) (fun b ob q => Heap.get?_push_of_some _ q) (Nat.le_refl _) ?_, rfl, q _ (I5.hok.fresh (Nat.le_refl _))⟩
    exact ⟨by rw [List.length_reverse]; exact hz, _, r.reverse, IsTup.new _ _⟩
end
end L2

namespace Mi
open PySem PySem.Spec PyProof.Rows L2
theorem ins_perm (x : Int) : ∀ ys : List Int, (ins x ys).Perm (x :: ys)
  | [] => .refl _
  | y :: ys => by
    unfold ins
    split
    · exact .refl _
    · exact ((ins_perm x ys).cons y).trans (.swap x y ys)
theorem sortI_perm : ∀ xs : List Int, (sortI xs).Perm xs
  | [] => .refl _
  | x :: xs => (ins_perm x _).trans ((sortI_perm xs).cons x)
theorem ins_sorted (x : Int) : ∀ {ys : List Int}, ys.Pairwise (· ≤ ·) → (ins x ys).Pairwise (· ≤ ·)
  | [], _ => List.pairwise_singleton _ _
  | y :: ys, h => by
    have h' := List.pairwise_cons.mp h
    unfold ins
    split
    · rename_i hxy
      refine List.pairwise_cons.mpr ⟨fun z hz => ?_, h⟩
      rcases List.mem_cons.mp hz with rfl | hz
      · exact hxy
      · exact Int.le_trans hxy (h'.1 z hz)
    · rename_i hxy
      refine List.pairwise_cons.mpr ⟨fun z hz => ?_, ins_sorted x h'.2⟩
      rcases List.mem_cons.mp ((ins_perm x ys).mem_iff.mp hz) with rfl | hz
      · omega
      · exact h'.1 z hz
theorem sortI_sorted : ∀ xs : List Int, (sortI xs).Pairwise (· ≤ ·)
  | [] => .nil
  | x :: xs => ins_sorted x (sortI_sorted xs)
theorem sorted_uniq : ∀ {l m : List Int}, l.Perm m → l.Pairwise (· ≤ ·) → m.Pairwise (· ≤ ·) → l = m
  | [], m, p, _, _ => (List.nil_perm.mp p).symm
  | x :: l, [], p, _, _ => absurd p.length_eq (by simp)
  | x :: l, y :: m, p, hl, hm => by
    have hl' := List.pairwise_cons.mp hl
    have hm' := List.pairwise_cons.mp hm
    have e : x = y := by
      have h1 : x ≤ y := by
        rcases List.mem_cons.mp (p.mem_iff.mpr List.mem_cons_self) with h | h
        · omega
        · exact hl'.1 _ h
      have h2 : y ≤ x := by
        rcases List.mem_cons.mp (p.mem_iff.mp List.mem_cons_self) with h | h
        · omega
        · exact hm'.1 _ h
      omega
    subst e
    rw [sorted_uniq (List.Perm.cons_inv p) hl'.2 hm'.2]
theorem rps_ints {K : Kf} {S : Sk} {H : Hp} : ∀ ns : List Int, RPs K S H (ns.map PyData.int) (ns.map V.int)
  | [] => .nil
  | n :: ns => .cons (.int n) (rps_ints ns)
theorem RPs.rev {K : Kf} {S : Sk} {H : Hp} : ∀ {x : List PyData} {v : List V}, RPs K S H x v → RPs K S H x.reverse v.reverse
  | _, _, .nil => .nil
  | _, _, .cons a b => by
    rw [List.reverse_cons, List.reverse_cons]
    exact (RPs.rev b).app (.cons a .nil)
section
variable {X : Cx}
theorem b_sorted (mt : Bool) : CallR X (.builtin "sorted") (rCD X.K (one (bSorted mt))) := by
  refine b_one fun pins s σ H S M d x u y r M' Q I ru w rx hy hb af => ?_
  unfold bSorted at hb
  split at hb
  · rename_i ys
    split at hb
    · rename_i ns hn
      obtain ⟨a, vs, e1, q1, p1⟩ := rd_lst w rx hy
      refine cr_sortedI pins s σ H [x] _ Q I (vls1 ru) ⟨a, ns, by rw [e1], by rw [← ints_of p1 hn]; exact .inl q1, fun ns' p k1 k2 np => ?_⟩
      rw [sorted_uniq (k1.trans (sortI_perm ns).symm) k2 (sortI_sorted ns)]
      exact Aft.new w hb (rps_ints _) af np
    · cases hb
  · cases hb
theorem rv_any (mt : Bool) (x : V) (H : Hp) (Q : VK) (h : ∃ S M d r M', W X.K S M H ∧ RD X.K S H d x ∧ revop mt d M = .ok r M' ∧ Aft X.K S H r M' Q) : rBack X.K x H Q := by
  obtain ⟨S, M, d, r, M', w, rd, hb, af⟩ := h
  unfold revop at hb
  split at hb
  · rename_i xs h1
    obtain ⟨a, vs, e1, q1, p1⟩ := rd_lst w rd h1
    exact ⟨a, vs, e1, .inl ⟨.inl q1, fun p np => Aft.new w hb p1.rev af np⟩⟩
  · rename_i xs h1
    cases hb
    obtain ⟨a, vs, e1, q1, p1, t1⟩ := rd_tup w rd h1
    exact ⟨a, vs, e1, .inr ⟨q1, fun p np => af.tup w p1.rev np⟩⟩
  · cases hb
end
end Mi

set_option Elab.async false
set_option linter.all false
set_option maxRecDepth 100000
set_option maxHeartbeats 1000000
/-! Mi: the readings by the interpreter, and the rule for each construct. -/
namespace Mi
open PySem PySem.Spec PyProof.Rows L2

/-- what is wanted behind a run of the interpreter -/
def Aw {α : Type} (K : Kf) (ex : Nat → Value) (Wx : WX) (S : Sk) (H : Hp) (σ : L2.St) (r : Res α) (P : α → Mem → Sk → Hp → Prop) : Prop :=
  match r with
  | .ok a M => ∀ S' H', Stp S H S' H' → W K S' M H' → P a M S' H'
  | .exc c M => ∀ S' H', Stp S H S' H' → W K S' M H' → Wx (ex c) none σ H'
  | .bad => False
section
variable {α β : Type} {K : Kf} {ex : Nat → Value} {Wx : WX} {S : Sk} {H : Hp} {σ : L2.St} {r : Res α} {P P' : α → Mem → Sk → Hp → Prop}
theorem Aw.bind {f : α → Mem → Res β} {P : β → Mem → Sk → Hp → Prop} (h : Aw K ex Wx S H σ (r.bind f) P) : Aw K ex Wx S H σ r fun a M S1 H1 => Aw K ex Wx S1 H1 σ (f a M) P := by
  cases r with
  | ok a M =>
    intro S1 H1 t1 w1
    have h' : Aw K ex Wx S H σ (f a M) P := h
    show Aw K ex Wx S1 H1 σ (f a M) P
    cases e : f a M with
    | ok b M2 => rw [e] at h'; exact fun S' H' t w => h' S' H' (t1.trans t) w
    | exc c M2 => rw [e] at h'; exact fun S' H' t w => h' S' H' (t1.trans t) w
    | bad => rw [e] at h'; exact h'.elim
  | exc c M => exact h
  | bad => exact h
theorem Aw.imp (h : Aw K ex Wx S H σ r P) (f : ∀ a M S' H', Stp S H S' H' → W K S' M H' → P a M S' H' → P' a M S' H') : Aw K ex Wx S H σ r P' := by
  cases r with
  | ok a M => exact fun S' H' t w => f a M S' H' t w (h S' H' t w)
  | exc c M => exact h
  | bad => exact h
theorem Aw.of_ok {a : α} {M : Mem} (w : W K S M H) (h : Aw K ex Wx S H σ (.ok a M) P) : P a M S H := h S H .refl w
theorem Aw.ok (h : Aw K ex Wx S H σ r P) (n : ∀ c M, r ≠ .exc c M) : ∃ a M, r = .ok a M ∧ ∀ S' H', Stp S H S' H' → W K S' M H' → P a M S' H' := by
  cases r with
  | ok a M => exact ⟨a, M, rfl, h⟩
  | exc c M => exact absurd rfl (n c M)
  | bad => exact h.elim
end
theorem alloc_ne {mt : Bool} {xs : List PyData} {M : Mem} (c : Nat) (M' : Mem) : alloc mt xs M ≠ .exc c M' := by
  unfold alloc; split <;> intro h <;> cases h
theorem binop_ne {op : BOp} {mt : Bool} {a b : D} {M : Mem} (c : Nat) (M' : Mem) : binop op mt a b M ≠ .exc c M' := by
  intro h; unfold binop at h
  split at h <;> (try split at h) <;> first | cases h | exact alloc_ne _ _ h
theorem cmpop_ne {op : COp} {a b : D} {M : Mem} (c : Nat) (M' : Mem) : cmpop op a b M ≠ .exc c M' := by
  intro h; unfold cmpop at h
  split at h <;> (try split at h) <;> cases h
theorem boxAt_ne {a : D} {k : Int} {M : Mem} (c : Nat) (M' : Mem) : boxAt M a k ≠ .exc c M' := by
  intro h; unfold boxAt at h
  split at h <;> (try split at h) <;> (try split at h) <;> (try split at h) <;> cases h
theorem idxop_ne {a b : D} {M : Mem} (c : Nat) (M' : Mem) : idxop a b M ≠ .exc c M' := by
  intro h; unfold idxop at h
  split at h <;> (try split at h) <;> (try split at h) <;> (try split at h) <;> first | cases h | exact boxAt_ne _ _ h
theorem slcop_ne {mt : Bool} {a : D} {lo hi : Option Int} {M : Mem} (c : Nat) (M' : Mem) : slcop mt a lo hi M ≠ .exc c M' := by
  intro h; unfold slcop at h
  split at h <;> first | cases h | exact alloc_ne _ _ h | (split at h <;> cases h)
theorem revop_ne {mt : Bool} {a : D} {M : Mem} (c : Nat) (M' : Mem) : revop mt a M ≠ .exc c M' := by
  intro h; unfold revop at h
  split at h <;> first | cases h | exact alloc_ne _ _ h
theorem one_ne {g : PyData → Mem → Res D} (hg : ∀ x M c M', g x M ≠ .exc c M') {ds : List D} {M : Mem} (c : Nat) (M' : Mem) : one g ds M ≠ .exc c M' := by
  intro h; unfold one at h
  split at h
  · split at h
    · exact hg _ _ _ _ h
    · cases h
  · cases h
theorem two_ne {g : PyData → PyData → Mem → Res D} (hg : ∀ x y M c M', g x y M ≠ .exc c M') {ds : List D} {M : Mem} (c : Nat) (M' : Mem) : two g ds M ≠ .exc c M' := by
  intro h; unfold two at h
  split at h
  · split at h
    · exact hg _ _ _ _ _ h
    · cases h
  · cases h
theorem bltop_ne {b : BF} {ds : List D} {M : Mem} (c : Nat) (M' : Mem) : bltop b ds M ≠ .exc c M' := by
  cases b with
  | len =>
    intro h; unfold bltop at h; dsimp only at h
    split at h
    · cases h
    · exact one_ne (fun x M c M' h => by unfold bLen at h; split at h <;> (try split at h) <;> cases h) _ _ h
  | min => exact two_ne (fun x y M c M' h => by unfold bMin at h; split at h <;> cases h) _ _
  | max => exact two_ne (fun x y M c M' h => by unfold bMax at h; split at h <;> cases h) _ _
  | abs => exact one_ne (fun x M c M' h => by unfold bAbs at h; split at h <;> cases h) _ _
  | sum => exact one_ne (fun x M c M' h => by unfold bSum at h; split at h <;> (try split at h) <;> cases h) _ _
  | all => exact one_ne (fun x M c M' h => by unfold bAll at h; split at h <;> (try split at h) <;> cases h) _ _
  | any => exact one_ne (fun x M c M' h => by unfold bAny at h; split at h <;> (try split at h) <;> cases h) _ _
  | tuple => exact one_ne (fun x M c M' h => by unfold bTuple at h; split at h <;> cases h) _ _
  | list mt => exact one_ne (fun x M c M' h => by unfold bList at h; split at h <;> first | cases h | exact alloc_ne _ _ h) _ _
  | repr => exact one_ne (fun x M c M' h => by unfold bRepr at h; split at h <;> cases h) _ _
  | str => exact one_ne (fun x M c M' h => by unfold bStr at h; split at h <;> (try split at h) <;> cases h) _ _
  | isi t => exact one_ne (fun x M c M' h => by unfold bIsi at h; cases h) _ _
  | sorted mt => exact one_ne (fun x M c M' h => by unfold bSorted at h; split at h <;> (try split at h) <;> first | cases h | exact alloc_ne _ _ h) _ _
theorem mAppend_ne {o : D} {ds : List D} {M : Mem} (c : Nat) (M' : Mem) : mAppend o ds M ≠ .exc c M' := by
  intro h; unfold mAppend at h
  split at h <;> (try split at h) <;> (try split at h) <;> (try split at h) <;> cases h
theorem mPop_ne {o : D} {ds : List D} {M : Mem} (c : Nat) (M' : Mem) : mPop o ds M ≠ .exc c M' := by
  intro h; unfold mPop at h
  split at h <;> (try split at h) <;> (try split at h) <;> (try split at h) <;> (try split at h) <;> cases h

/-! ### the readings -/
section
variable (K : Kf) (ex : Nat → Value) (Wx : WX) (fn : Fn)
def tE (c : CE) : TE := fun σ H Q => ∃ S M ρ, W K S M H ∧ Sl K S H ρ σ ∧ Aw K ex Wx S H σ (evE fn c ρ M) fun d _ S' H' => ∀ v, RD K S' H' d v → Q v H'
def tEs (c : CEs) : TA := fun σ H Q => ∃ S M ρ, W K S M H ∧ Sl K S H ρ σ ∧ Aw K ex Wx S H σ (evEs fn c ρ M) fun ds _ S' H' => ∀ vs, RDs K S' H' ds vs → Q vs H'
def tT (c : CE) : TT := fun σ H Q => ∃ S M ρ, W K S M H ∧ Sl K S H ρ σ ∧ Aw K ex Wx S H σ (evE fn c ρ M) fun d M' _ H' => ∃ b, truth M' d = some b ∧ Q b H'
def tO (c : CEo) : TO := fun σ H Q => ∃ S M ρ, W K S M H ∧ Sl K S H ρ σ ∧ Aw K ex Wx S H σ (evO fn c ρ M) fun b _ _ H' => Q b H'
/-- what a def promises: what the interpreter says of it -/
def spF (f n : Nat) : Sp := fun vs H Q E => ∃ S M ds, W K S M H ∧ RDs K S H ds vs ∧ ds.length = n ∧ Aw K ex (fun c d _ H' => E c d H') S H [] (fn f ds M) fun d _ S' H' => ∀ v, RD K S' H' d v → Q v H'
end
theorem _root_.L2.PE.weak {X : Cx} {e : Expr} {t t' : TE} (h : PE X e t) (f : ∀ σ H Q, t' σ H Q → t σ H Q) : PE X e t' := ⟨fun pins s σ H Q I q => h.run pins s σ H Q I (f σ H Q q)⟩
theorem _root_.L2.PT.weak {X : Cx} {e : Expr} {t t' : TT} (h : PT X e t) (f : ∀ σ H Q, t' σ H Q → t σ H Q) : PT X e t' := ⟨fun pins s σ H Q I q => h.run pins s σ H Q I (f σ H Q q)⟩
theorem _root_.L2.PA.weak {X : Cx} {e : List Expr} {t t' : TA} (h : PA X e t) (f : ∀ σ H Q, t' σ H Q → t σ H Q) : PA X e t' := ⟨fun p pins s σ H Q I q => h.run p pins s σ H Q I (f σ H Q q)⟩
theorem _root_.L2.PW.weak {X : Cx} {e : Expr} {t t' : TT} (h : PW X e t) (f : ∀ σ H Q, t' σ H Q → t σ H Q) : PW X e t' := ⟨fun wh pins s σ H Q I q => h.run wh pins s σ H Q I (f σ H Q q)⟩
section
variable {X : Cx} {ex : Nat → Value} {Wx : WX} {fn : Fn} {a b e : Expr} {ca cb cc : CE} {pos : Pos}
theorem ce_var {i : Nat} {x : Str} (hN : X.N[i]? = some x) (hv : Vis X.env.scope x) (hd : (x == ("__debug__" : Str)) = false) (hcd : (x == ("__classdict__" : Str)) = false) : PE X (.Name x pos) (tE X.K ex Wx fn (.var i)) := by
  refine (pe_var hN hv hd hcd).weak fun σ H Q h => ?_
  obtain ⟨S, M, ρ, w, sl, aw⟩ := h
  simp only [evE] at aw
  split at aw
  · rename_i d hd
    obtain ⟨v, e1, e2⟩ := sl.at' i d hd
    exact ⟨v, e1, aw.of_ok w v e2⟩
  · exact aw.elim
theorem ce_cst {d : PyData} {v : V} (h : PE X e (tC v)) (r : ∀ S H, RP X.K S H d v) : PE X e (tE X.K ex Wx fn (.cst d)) := by
  refine h.weak fun σ H Q h => ?_
  obtain ⟨S, M, ρ, w, sl, aw⟩ := h
  simp only [evE] at aw
  exact aw.of_ok w v (r S H)
theorem ce_bin {o : BOp} {mt : Bool} (ha : PE X a (tE X.K ex Wx fn ca)) (hb : PE X b (tE X.K ex Wx fn cb)) : PE X (.BinOp a (opOf o) b pos) (tE X.K ex Wx fn (.bin o mt ca cb)) := by
  refine (pe_op (op_bin o mt) ha hb).weak fun σ H Q h => ?_
  obtain ⟨S, M, ρ, w, sl, aw⟩ := h
  simp only [evE] at aw
  refine ⟨S, M, ρ, w, sl, aw.bind.imp fun d M1 S1 H1 t1 w1 aw1 v1 r1 => ?_⟩
  refine ⟨S1, M1, ρ, w1, sl.mono t1, aw1.bind.imp fun d2 M2 S2 H2 t2 w2 aw2 v2 r2 => ?_⟩
  obtain ⟨r, M3, hb, af⟩ := aw2.ok binop_ne
  exact ⟨S2, M2, d, d2, r, M3, w2, r1.mono t2, r2, hb, fun S' H' v t w r => af S' H' t w v r⟩
theorem ce_neg (ha : PE X a (tE X.K ex Wx fn ca)) : PE X (.UnaryOp .USub a pos) (tE X.K ex Wx fn (.neg ca)) := by
  refine (pe_un un_neg ha).weak fun σ H Q h => ?_
  obtain ⟨S, M, ρ, w, sl, aw⟩ := h
  simp only [evE] at aw
  refine ⟨S, M, ρ, w, sl, aw.bind.imp fun d M1 S1 H1 t1 w1 aw1 v1 r1 => ?_⟩
  split at aw1
  · rename_i i
    exact ⟨i, rp_int r1, aw1.of_ok w1 _ (.int _)⟩
  · exact aw1.elim
theorem toB_ok {K : Kf} {S : Sk} {M : Mem} {H : Hp} {σ : L2.St} {d : D} {P : Bool → Mem → Sk → Hp → Prop} (aw : Aw K ex Wx S H σ (toB M d) P) (w : W K S M H) : ∃ b, truth M d = some b ∧ P b M S H := by
  unfold toB at aw
  split at aw
  · rename_i b hb
    exact ⟨b, hb, aw.of_ok w⟩
  · exact aw.elim
theorem ce_not (ha : PE X a (tE X.K ex Wx fn ca)) : PE X (.UnaryOp .Not a pos) (tE X.K ex Wx fn (.not ca)) := by
  refine (pe_notT ha).weak fun σ H Q h => ?_
  obtain ⟨S, M, ρ, w, sl, aw⟩ := h
  simp only [evE] at aw
  refine ⟨S, M, ρ, w, sl, aw.bind.imp fun d M1 S1 H1 t1 w1 aw1 v1 r1 => ?_⟩
  obtain ⟨b, hb, q⟩ := toB_ok aw1.bind w1
  exact ⟨b, tru_of w1 r1 hb, q.of_ok w1 _ (.bl _)⟩
theorem ce_cmp (hu : X.A.units + 64 < cLine) {o : COp} (ha : PE X a (tE X.K ex Wx fn ca)) (hb : PE X b (tE X.K ex Wx fn cb)) (hm : behindInMarks (copOf o) b = false) : PE X (.Compare a [copOf o] [b] pos) (tE X.K ex Wx fn (.cmp o ca cb)) := by
  refine (pe_cmpR (op_cmp hu o) ha hb hm).weak fun σ H Q h => ?_
  obtain ⟨S, M, ρ, w, sl, aw⟩ := h
  simp only [evE] at aw
  refine ⟨S, M, ρ, w, sl, aw.bind.imp fun d M1 S1 H1 t1 w1 aw1 v1 r1 => ?_⟩
  refine ⟨S1, M1, ρ, w1, sl.mono t1, aw1.bind.imp fun d2 M2 S2 H2 t2 w2 aw2 v2 r2 => ?_⟩
  obtain ⟨r, M3, hb, af⟩ := aw2.ok cmpop_ne
  exact ⟨S2, M2, d, d2, r, M3, w2, r1.mono t2, r2, hb, fun S' H' v t w r => af S' H' t w v r⟩
theorem cmp_bool {o : COp} {d e r : D} {M M' : Mem} (h : cmpop o d e M = .ok r M') : ∃ k, r = .p (.bool k) ∧ M' = M := by
  unfold cmpop at h
  split at h
  · split at h
    · cases h; exact ⟨_, rfl, rfl⟩
    · cases h
  · cases h
theorem ct_cmp (hu : X.A.units + 64 < cLine) {o : COp} (ha : PE X a (tE X.K ex Wx fn ca)) (hb : PE X b (tE X.K ex Wx fn cb)) (hm : behindInMarks (copOf o) b = false) : PT X (.Compare a [copOf o] [b] pos) (tT X.K ex Wx fn (.cmp o ca cb)) := by
  refine (pt_cmpR (op_cmp hu o) ha hb hm).weak fun σ H Q h => ?_
  obtain ⟨S, M, ρ, w, sl, aw⟩ := h
  simp only [evE] at aw
  refine ⟨S, M, ρ, w, sl, aw.bind.imp fun d M1 S1 H1 t1 w1 aw1 v1 r1 => ?_⟩
  refine ⟨S1, M1, ρ, w1, sl.mono t1, aw1.bind.imp fun d2 M2 S2 H2 t2 w2 aw2 v2 r2 => ?_⟩
  obtain ⟨r, M3, hb, af⟩ := aw2.ok cmpop_ne
  refine ⟨S2, M2, d, d2, r, M3, w2, r1.mono t2, r2, hb, fun S' H' v t w r => ?_⟩
  obtain ⟨k, rfl, rfl⟩ := cmp_bool hb
  obtain ⟨k', hk, q⟩ := af S' H' t w
  cases hk
  cases (show RP X.K S' H' (.bool k) v from r)
  exact ⟨k, rfl, q⟩
theorem isB_ok {K : Kf} {S : Sk} {M : Mem} {H : Hp} {σ : L2.St} {d : D} {P : Bool → Mem → Sk → Hp → Prop} (aw : Aw K ex Wx S H σ (isB M d) P) (w : W K S M H) : ∃ b, d = .p (.bool b) ∧ P b M S H := by
  unfold isB at aw
  split at aw
  · exact ⟨_, rfl, aw.of_ok w⟩
  · exact aw.elim
theorem ce_chn (hu : X.A.units + 64 < cLine) {o o' : COp} {c : Expr} (ha : PE X a (tE X.K ex Wx fn ca)) (hb : PE X b (tE X.K ex Wx fn cb)) (hc : PE X c (tE X.K ex Wx fn cc)) (hm : lastMarks [copOf o, copOf o'] [b, c] = false) :
    PE X (.Compare a [copOf o, copOf o'] [b, c] pos) (tE X.K ex Wx fn (.chn o o' ca cb cc)) := by
  refine (pe_chain (op_cmp hu o) (op_cmp hu o') ha hb hc hm).weak fun σ H Q h => ?_
  obtain ⟨S, M, ρ, w, sl, aw⟩ := h
  simp only [evE] at aw
  refine ⟨S, M, ρ, w, sl, aw.bind.imp fun d M1 S1 H1 t1 w1 aw1 v1 r1 => ?_⟩
  refine ⟨S1, M1, ρ, w1, sl.mono t1, aw1.bind.imp fun d2 M2 S2 H2 t2 w2 aw2 v2 r2 => ?_⟩
  obtain ⟨r, M3, hb, af⟩ := aw2.bind.ok cmpop_ne
  refine ⟨S2, M2, d, d2, r, M3, w2, r1.mono t2, r2, hb, fun S' H' v t w r => ?_⟩
  obtain ⟨k, rfl, rfl⟩ := cmp_bool hb
  obtain ⟨k', hk, q⟩ := isB_ok (af S' H' t w).bind w
  cases hk
  cases (show RP X.K S' H' (.bool k) v from r)
  refine ⟨k, rfl, ?_⟩
  cases k with
  | false => exact iteF (q.of_ok w _ (.bl _))
  | true =>
    refine iteT ⟨S', M3, ρ, w, sl.mono (t1.trans (t2.trans t)), q.bind.imp fun d3 M4 S4 H4 t4 w4 aw4 v4 r4 => ?_⟩
    obtain ⟨r', M5, hb', af'⟩ := aw4.ok cmpop_ne
    exact ⟨S4, M4, d2, d3, r', M5, w4, r2.mono (t.trans t4), r4, hb', fun S' H' v t w r => af' S' H' t w v r⟩
theorem ct_chn (hu : X.A.units + 64 < cLine) {o o' : COp} {c : Expr} (ha : PE X a (tE X.K ex Wx fn ca)) (hb : PE X b (tE X.K ex Wx fn cb)) (hc : PE X c (tE X.K ex Wx fn cc)) (hm : lastMarks [copOf o, copOf o'] [b, c] = false) :
    PT X (.Compare a [copOf o, copOf o'] [b, c] pos) (tT X.K ex Wx fn (.chn o o' ca cb cc)) := by
  refine (pt_chain (op_cmp hu o) (op_cmp hu o') ha hb hc hm).weak fun σ H Q h => ?_
  obtain ⟨S, M, ρ, w, sl, aw⟩ := h
  simp only [evE] at aw
  refine ⟨S, M, ρ, w, sl, aw.bind.imp fun d M1 S1 H1 t1 w1 aw1 v1 r1 => ?_⟩
  refine ⟨S1, M1, ρ, w1, sl.mono t1, aw1.bind.imp fun d2 M2 S2 H2 t2 w2 aw2 v2 r2 => ?_⟩
  obtain ⟨r, M3, hb, af⟩ := aw2.bind.ok cmpop_ne
  refine ⟨S2, M2, d, d2, r, M3, w2, r1.mono t2, r2, hb, fun S' H' v t w r => ?_⟩
  obtain ⟨k, rfl, rfl⟩ := cmp_bool hb
  obtain ⟨k', hk, q⟩ := isB_ok (af S' H' t w).bind w
  cases hk
  cases (show RP X.K S' H' (.bool k) v from r)
  refine ⟨k, rfl, ?_⟩
  cases k with
  | false =>
    obtain ⟨k', hk, q'⟩ := q.of_ok w
    cases hk
    exact iteF ⟨false, rfl, q'⟩
  | true =>
    refine iteT ⟨S', M3, ρ, w, sl.mono (t1.trans (t2.trans t)), q.bind.imp fun d3 M4 S4 H4 t4 w4 aw4 v4 r4 => ?_⟩
    obtain ⟨r', M5, hb', af'⟩ := aw4.ok cmpop_ne
    refine ⟨S4, M4, d2, d3, r', M5, w4, r2.mono (t.trans t4), r4, hb', fun S' H' v t w r => ?_⟩
    obtain ⟨k, rfl, rfl⟩ := cmp_bool hb'
    obtain ⟨k', hk, q⟩ := af' S' H' t w
    cases hk
    cases (show RP X.K S' H' (.bool k) v from r)
    exact ⟨k, rfl, q⟩

theorem ce_one {op : BoolOp} (ha : PE X a (tE X.K ex Wx fn ca)) : PE X (.BoolOp op [a] pos) (tE X.K ex Wx fn ca) := pe_one ha
theorem ce_and {rest : List Expr} (ha : PE X a (tE X.K ex Wx fn ca)) (hb : PE X (.BoolOp .And (b :: rest) pos) (tE X.K ex Wx fn cb)) : PE X (.BoolOp .And (a :: b :: rest) pos) (tE X.K ex Wx fn (.and ca cb)) := by
  refine (pe_and ha hb).weak fun σ H Q h => ?_
  obtain ⟨S, M, ρ, w, sl, aw⟩ := h
  simp only [evE] at aw
  refine ⟨S, M, ρ, w, sl, aw.bind.imp fun d M1 S1 H1 t1 w1 aw1 v1 r1 => ?_⟩
  obtain ⟨k, rfl, q⟩ := isB_ok aw1.bind w1
  cases (show RP X.K S1 H1 (.bool k) v1 from r1)
  refine ⟨k, rfl, ?_⟩
  cases k with
  | false => exact iteF (q.of_ok w1 _ (.bl _))
  | true => exact iteT ⟨S1, M1, ρ, w1, sl.mono t1, q⟩
theorem ce_or {rest : List Expr} (ha : PE X a (tE X.K ex Wx fn ca)) (hb : PE X (.BoolOp .Or (b :: rest) pos) (tE X.K ex Wx fn cb)) : PE X (.BoolOp .Or (a :: b :: rest) pos) (tE X.K ex Wx fn (.or ca cb)) := by
  refine (pe_or ha hb).weak fun σ H Q h => ?_
  obtain ⟨S, M, ρ, w, sl, aw⟩ := h
  simp only [evE] at aw
  refine ⟨S, M, ρ, w, sl, aw.bind.imp fun d M1 S1 H1 t1 w1 aw1 v1 r1 => ?_⟩
  obtain ⟨k, rfl, q⟩ := isB_ok aw1.bind w1
  cases (show RP X.K S1 H1 (.bool k) v1 from r1)
  refine ⟨k, rfl, ?_⟩
  cases k with
  | true => exact iteT (q.of_ok w1 _ (.bl _))
  | false => exact iteF ⟨S1, M1, ρ, w1, sl.mono t1, q⟩
theorem cw_one {op : BoolOp} (ha : PT X a (tT X.K ex Wx fn ca)) : PW X (.BoolOp op [a] pos) (tT X.K ex Wx fn ca) := by
  cases op with
  | And => exact pw_and1 ha
  | Or => exact pw_or1 ha
theorem cw_and {rest : List Expr} (ha : PT X a (tT X.K ex Wx fn ca)) (hb : PW X (.BoolOp .And (b :: rest) pos) (tT X.K ex Wx fn cb)) : PW X (.BoolOp .And (a :: b :: rest) pos) (tT X.K ex Wx fn (.and ca cb)) := by
  refine (pw_and ha hb).weak fun σ H Q h => ?_
  obtain ⟨S, M, ρ, w, sl, aw⟩ := h
  simp only [evE] at aw
  refine ⟨S, M, ρ, w, sl, aw.bind.imp fun d M1 S1 H1 t1 w1 aw1 => ?_⟩
  obtain ⟨k, rfl, q⟩ := isB_ok aw1.bind w1
  refine ⟨k, rfl, ?_⟩
  cases k with
  | true => exact iteT ⟨S1, M1, ρ, w1, sl.mono t1, q⟩
  | false =>
    obtain ⟨k', hk, q'⟩ := q.of_ok w1
    cases hk
    exact iteF q'
theorem cw_or {rest : List Expr} (ha : PT X a (tT X.K ex Wx fn ca)) (hb : PW X (.BoolOp .Or (b :: rest) pos) (tT X.K ex Wx fn cb)) : PW X (.BoolOp .Or (a :: b :: rest) pos) (tT X.K ex Wx fn (.or ca cb)) := by
  refine (pw_or ha hb).weak fun σ H Q h => ?_
  obtain ⟨S, M, ρ, w, sl, aw⟩ := h
  simp only [evE] at aw
  refine ⟨S, M, ρ, w, sl, aw.bind.imp fun d M1 S1 H1 t1 w1 aw1 => ?_⟩
  obtain ⟨k, rfl, q⟩ := isB_ok aw1.bind w1
  refine ⟨k, rfl, ?_⟩
  cases k with
  | false => exact iteF ⟨S1, M1, ρ, w1, sl.mono t1, q⟩
  | true =>
    obtain ⟨k', hk, q'⟩ := q.of_ok w1
    cases hk
    exact iteT q'
theorem ct_not (ha : PT X a (tT X.K ex Wx fn ca)) : PT X (.UnaryOp .Not a pos) (tT X.K ex Wx fn (.not ca)) := by
  refine (pt_not ha).weak fun σ H Q h => ?_
  obtain ⟨S, M, ρ, w, sl, aw⟩ := h
  simp only [evE] at aw
  refine ⟨S, M, ρ, w, sl, aw.bind.imp fun d M1 S1 H1 t1 w1 aw1 => ?_⟩
  obtain ⟨k, hk, q⟩ := toB_ok aw1.bind w1
  obtain ⟨k', hk', q'⟩ := q.of_ok w1
  cases hk'
  exact ⟨k, hk, q'⟩
theorem ct_any (ha : PE X a (tE X.K ex Wx fn ca)) (he : ∀ whole, isTrue a X.env whole = (do let v ← whole; standAt a.pos; holding [v] (truthy v))) : PT X a (tT X.K ex Wx fn ca) := by
  refine (pt_truth ha he).weak fun σ H Q h => ?_
  obtain ⟨S, M, ρ, w, sl, aw⟩ := h
  refine ⟨S, M, ρ, w, sl, aw.imp fun d M1 S1 H1 t1 w1 aw1 v r => ?_⟩
  obtain ⟨k, hk, q⟩ := aw1
  exact ⟨k, tru_of w1 r hk, q⟩
theorem ce_ife {c : Expr} (hc : PT X c (tT X.K ex Wx fn cc)) (ha : PE X a (tE X.K ex Wx fn ca)) (hb : PE X b (tE X.K ex Wx fn cb)) : PE X (.IfExp c a b pos) (tE X.K ex Wx fn (.ife cc ca cb)) := by
  refine (pe_ifExp hc ha hb).weak fun σ H Q h => ?_
  obtain ⟨S, M, ρ, w, sl, aw⟩ := h
  simp only [evE] at aw
  refine ⟨S, M, ρ, w, sl, aw.bind.imp fun d M1 S1 H1 t1 w1 aw1 => ?_⟩
  obtain ⟨k, hk, q⟩ := toB_ok aw1.bind w1
  refine ⟨k, hk, ?_⟩
  cases k with
  | true => exact iteT ⟨S1, M1, ρ, w1, sl.mono t1, q⟩
  | false => exact iteF ⟨S1, M1, ρ, w1, sl.mono t1, q⟩
/-! ### lists of expressions -/
variable {es : List Expr} {cs : CEs}
theorem ca_nil : PA X [] (tEs X.K ex Wx fn .nil) := by
  refine pa_nil.weak fun σ H Q h => ?_
  obtain ⟨S, M, ρ, w, sl, aw⟩ := h
  simp only [evEs] at aw
  exact aw.of_ok w _ .nil
theorem ca_cons (ha : PE X e (tE X.K ex Wx fn ca)) (hr : PA X es (tEs X.K ex Wx fn cs)) (hs : starEach (e :: es) X.env = (false, eval e X.env) :: starEach es X.env) : PA X (e :: es) (tEs X.K ex Wx fn (.cons ca cs)) := by
  refine (pa_cons ha hr hs).weak fun σ H Q h => ?_
  obtain ⟨S, M, ρ, w, sl, aw⟩ := h
  simp only [evEs] at aw
  refine ⟨S, M, ρ, w, sl, aw.bind.imp fun d M1 S1 H1 t1 w1 aw1 v1 r1 => ?_⟩
  refine ⟨S1, M1, ρ, w1, sl.mono t1, aw1.bind.imp fun ds M2 S2 H2 t2 w2 aw2 vs rs => ?_⟩
  exact aw2.of_ok w2 _ (.cons (r1.mono t2) rs)
theorem rds_len {K : Kf} {S : Sk} {H : Hp} : ∀ {ds : List D} {vs : List V}, RDs K S H ds vs → ds.length = vs.length
  | _, _, .nil => rfl
  | _, _, .cons _ b => congrArg (· + 1) (rds_len b)
theorem ce_tup {x1 : Nat} (h : PA X es (tEs X.K ex Wx fn cs)) : PE X (.Tuple es x1 pos) (tE X.K ex Wx fn (.tup cs)) := by
  refine (pe_tup h).weak fun σ H Q h => ?_
  obtain ⟨S, M, ρ, w, sl, aw⟩ := h
  simp only [evE] at aw
  refine ⟨S, M, ρ, w, sl, aw.bind.imp fun ds M1 S1 H1 t1 w1 aw1 vs rs => ?_⟩
  split at aw1
  · rename_i xs M2 hf
    split at aw1
    · rename_i hz
      obtain ⟨S2, w2, t2, r2⟩ := frzPs_ok w1 rs hf
      refine ⟨by rw [← r2.length]; exact sz_le hz, fun p np => ?_⟩
      have af : Aft X.K S2 H1 (.p (.tuple xs)) M2 Q := fun S' H' v t w r => aw1 S' H' (t2.trans t) w v r
      exact af.tup w2 r2 np
    · exact aw1.elim
  · exact aw1.elim
theorem ce_tst {x1 : Nat} {p : Pos} (ha : PE X e (tE X.K ex Wx fn ca)) (h : PA X es (tEs X.K ex Wx fn cs)) (hs : starEach (.Starred e p :: es) X.env = (true, eval e X.env) :: starEach es X.env) : PE X (.Tuple (.Starred e p :: es) x1 pos) (tE X.K ex Wx fn (.tst ca cs)) := by
  refine (pe_tup (StX.pa_star ha h hs)).weak fun σ H Q h => ?_
  obtain ⟨S, M, ρ, w, sl, aw⟩ := h
  simp only [evE] at aw
  refine ⟨S, M, ρ, w, sl, aw.bind.imp fun d M1 S1 H1 t1 w1 aw1 v1 r1 => ?_⟩
  split at aw1
  · rename_i xs
    obtain ⟨a, vs, rfl, q1, q2⟩ := rd_lst w1 r1 rfl
    refine ⟨a, vs, rfl, .inr (.inl q1), S1, M1, ρ, w1, sl.mono t1, aw1.bind.imp fun ds M2 S2 H2 t2 w2 aw2 us rs => ?_⟩
    split at aw2
    · rename_i ys M3 hf
      split at aw2
      · rename_i hz
        obtain ⟨S3, w3, t3, r3⟩ := frzPs_ok w2 rs hf
        have r4 := RPs.app ((q2.mono t2).mono t3) r3
        refine ⟨by rw [← r4.length]; exact sz_le hz, fun p np => ?_⟩
        have af : Aft X.K S3 H2 (.p (.tuple (xs ++ ys))) M3 Q := fun S' H' v t w r => aw2 S' H' (t3.trans t) w v r
        exact af.tup w3 r4 np
      · exact aw2.elim
    · exact aw2.elim
  · exact aw1.elim
theorem ce_lst {mt : Bool} (h : PA X es (tEs X.K ex Wx fn cs)) : PE X (.List es pos) (tE X.K ex Wx fn (.lst mt cs)) := by
  refine (pe_lst h).weak fun σ H Q h => ?_
  obtain ⟨S, M, ρ, w, sl, aw⟩ := h
  simp only [evE] at aw
  refine ⟨S, M, ρ, w, sl, aw.bind.imp fun ds M1 S1 H1 t1 w1 aw1 vs rs => ?_⟩
  split at aw1
  · rename_i xs M2 hf
    split at aw1
    · rename_i hz
      obtain ⟨S2, w2, t2, r2⟩ := frzPs_ok w1 rs hf
      obtain ⟨r, M3, hb, af⟩ := aw1.ok alloc_ne
      exact ⟨by rw [← r2.length]; exact sz_le hz, fun p np => Aft.new w2 hb r2 (fun S' H' v t w r => af S' H' (t2.trans t) w v r) np⟩
    · exact aw1.elim
  · exact aw1.elim
theorem ce_idx {i : Expr} {ci : CE} (ha : PE X a (tE X.K ex Wx fn ca)) (hi : PE X i (tE X.K ex Wx fn ci)) (hs : PlainIx i) : PE X (.Subscript a i pos) (tE X.K ex Wx fn (.idx ca ci)) := by
  refine (pe_ix ix_any ha hi hs).weak fun σ H Q h => ?_
  obtain ⟨S, M, ρ, w, sl, aw⟩ := h
  simp only [evE] at aw
  refine ⟨S, M, ρ, w, sl, aw.bind.imp fun d M1 S1 H1 t1 w1 aw1 v1 r1 => ?_⟩
  refine ⟨S1, M1, ρ, w1, sl.mono t1, aw1.bind.imp fun d2 M2 S2 H2 t2 w2 aw2 v2 r2 => ?_⟩
  obtain ⟨r, M3, hb, af⟩ := aw2.ok idxop_ne
  exact ⟨S2, M2, d, d2, r, M3, w2, r1.mono t2, r2, hb, fun S' H' v t w r => af S' H' t w v r⟩
theorem _root_.L2.PO.weak {X : Cx} {e : Option Expr} {t t' : TO} (h : PO X e t) (f : ∀ σ H Q, t' σ H Q → t σ H Q) : PO X e t' := ⟨fun pins s σ H Q I q => h.run pins s σ H Q I (f σ H Q q)⟩
theorem co_none : PO X none (tO X.K ex Wx fn .no) := by
  refine L2.PO.weak po_none fun σ H Q h => ?_
  obtain ⟨S, M, ρ, w, sl, aw⟩ := h
  simp only [evO] at aw
  exact aw.of_ok w
theorem co_some (ha : PE X a (tE X.K ex Wx fn ca)) : PO X (some a) (tO X.K ex Wx fn (.yes ca)) := by
  refine L2.PO.weak (po_some ha) fun σ H Q h => ?_
  obtain ⟨S, M, ρ, w, sl, aw⟩ := h
  simp only [evO] at aw
  refine ⟨S, M, ρ, w, sl, aw.bind.imp fun d M1 S1 H1 t1 w1 aw1 v1 r1 => ?_⟩
  split at aw1
  · rename_i i hi
    unfold partI at hi
    split at hi
    · cases hi
      exact ⟨i, rp_int r1, aw1.of_ok w1⟩
    · cases hi
  · exact aw1.elim
theorem ce_rev {mt : Bool} {k : Nat} {p1 p2 p3 : Pos} (ha : PE X a (tE X.K ex Wx fn ca)) : PE X (.Subscript a (.Slice none none (some (.UnaryOp .USub (.Constant (.int 1) k p1) p2)) p3) pos) (tE X.K ex Wx fn (.rev mt ca)) := by
  refine (pe_back (rv_any mt) ha).weak fun σ H Q h => ?_
  obtain ⟨S, M, ρ, w, sl, aw⟩ := h
  simp only [evE] at aw
  refine ⟨S, M, ρ, w, sl, aw.bind.imp fun d M1 S1 H1 t1 w1 aw1 v1 r1 => ?_⟩
  obtain ⟨r, M4, hb, af⟩ := aw1.ok revop_ne
  exact ⟨S1, M1, d, r, M4, w1, r1, hb, fun S' H' v t w r => af S' H' t w v r⟩
theorem ce_slc {mt : Bool} {lo hi : Option Expr} {cl ch : CEo} {p2 : Pos} (ha : PE X a (tE X.K ex Wx fn ca)) (hl : PO X lo (tO X.K ex Wx fn cl)) (hh : PO X hi (tO X.K ex Wx fn ch)) : PE X (.Subscript a (.Slice lo hi none p2) pos) (tE X.K ex Wx fn (.slc mt ca cl ch)) := by
  refine (pe_slice (sl_any mt) ha hl hh).weak fun σ H Q h => ?_
  obtain ⟨S, M, ρ, w, sl, aw⟩ := h
  simp only [evE] at aw
  refine ⟨S, M, ρ, w, sl, aw.bind.imp fun d M1 S1 H1 t1 w1 aw1 v1 r1 => ?_⟩
  refine ⟨S1, M1, ρ, w1, sl.mono t1, aw1.bind.imp fun l M2 S2 H2 t2 w2 aw2 => ?_⟩
  refine ⟨S2, M2, ρ, w2, sl.mono (t1.trans t2), aw2.bind.imp fun h M3 S3 H3 t3 w3 aw3 => ?_⟩
  obtain ⟨r, M4, hb, af⟩ := aw3.ok slcop_ne
  exact ⟨S3, M3, d, r, M4, w3, r1.mono (t2.trans t3), hb, fun S' H' v t w r => af S' H' t w v r⟩
/-! ### calls -/
theorem backTo_any {pos : Pos} : ∀ l : List (Bool × Sem Value), l.any (·.1) = false → (backTo pos l).any (·.1) = false
  | [], _ => rfl
  | (b, x) :: l, h => by
    simp only [List.any_cons, Bool.or_eq_false_iff] at h
    unfold backTo
    simp only [List.map_cons, List.any_cons, Bool.or_eq_false_iff]
    refine ⟨h.1, ?_⟩
    have := backTo_any (pos := pos) l h.2
    unfold backTo at this
    exact this
def NoStar (e : Expr) : Prop := ∀ (rest : List Expr) (env : PySem.Env), starEach (e :: rest) env = (false, eval e env) :: starEach rest env
theorem noStar_any : ∀ {es : List Expr} {env : PySem.Env}, (∀ e ∈ es, NoStar e) → (starEach es env).any (·.1) = false
  | [], _, _ => by simp [starEach]
  | e :: es, env, h => by
    rw [h e List.mem_cons_self es env, List.any_cons, noStar_any fun x hx => h x (List.mem_cons_of_mem _ hx)]
    rfl
theorem call_red {f n : Nat} {σ : L2.St} {H : Hp} {Q : VK} (hlen : ∀ ρ M ds M', evEs fn cs ρ M = .ok ds M' → ds.length = n) (h : tE X.K ex Wx fn (.call f cs) σ H Q) : tCallG (spF X.K ex fn f n) [] Wx (tEs X.K ex Wx fn cs) σ H Q := by
  obtain ⟨S, M, ρ, w, sl, aw⟩ := h
  simp only [evE] at aw
  have hl := hlen ρ M
  refine ⟨S, M, ρ, w, sl, ?_⟩
  have aw := aw.bind
  cases e : evEs fn cs ρ M with
  | bad => rw [e] at aw; exact aw
  | exc c M => rw [e] at aw; exact aw
  | ok ds M1 =>
    rw [e] at aw
    intro S1 H1 t1 w1 vs rs
    rw [List.append_nil]
    refine ⟨S1, M1, ds, w1, rs, hl ds M1 e, ?_⟩
    have aw1 : Aw X.K ex Wx S1 H1 σ (fn f ds M1) _ := aw S1 H1 t1 w1
    cases e2 : fn f ds M1 with
    | bad => rw [e2] at aw1; exact aw1
    | exc c M => rw [e2] at aw1; exact aw1
    | ok d M2 => rw [e2] at aw1; exact aw1
theorem ce_call {k f n : Nat} {fa : Addr} {fd : FuncData} {ps : List Str} {x : Str} {p : Pos} (F : FnG X.prog X.w X.K X.mg X.base k fa fd ps (spF X.K ex fn f n)) (hgd : X.A.guards = some []) (hr : Room k X.A) (hg : Gl X x) (hm : X.mg x = some (.ref fa)) (hk : PySem.W.keepIn X.K (.ref fa) = true)
    (hb : Binds X.K fd ps []) (tk : Takes X Wx) (ha : PA X (e :: es) (tEs X.K ex Wx fn cs)) (hdb : (x == ("__debug__" : Str)) = false) (hst : ∀ y ∈ e :: es, NoStar y) (hlen : ∀ ρ M ds M', evEs fn cs ρ M = .ok ds M' → ds.length = n) :
    PE X (.Call (.Name x p) (e :: es) [] pos) (tE X.K ex Wx fn (.call f cs)) :=
  (pe_callG F hgd hr hg hm hk hb .nil tk ha hdb (hst e List.mem_cons_self es X.env) (backTo_any _ (noStar_any fun y hy => hst y (List.mem_cons_of_mem _ hy)))).weak fun σ H Q h => call_red hlen h
theorem ce_call0 {k f : Nat} {fa : Addr} {fd : FuncData} {ps : List Str} {x : Str} {p : Pos} (F : FnG X.prog X.w X.K X.mg X.base k fa fd ps (spF X.K ex fn f 0)) (hgd : X.A.guards = some []) (hr : Room k X.A) (hg : Gl X x) (hm : X.mg x = some (.ref fa)) (hk : PySem.W.keepIn X.K (.ref fa) = true)
    (hb : Binds X.K fd ps []) (tk : Takes X Wx) (hdb : (x == ("__debug__" : Str)) = false) : PE X (.Call (.Name x p) [] [] pos) (tE X.K ex Wx fn (.call f .nil)) := by
  refine (pe_callG0 F hgd hr hg hm hk hb .nil tk hdb).weak fun σ H Q h => ?_
  obtain ⟨S, M, ρ, w, sl, aw⟩ := call_red (X := X) (cs := .nil) (n := 0) (fun ρ M ds M' e => by simp only [evEs] at e; cases e; rfl) h
  simp only [evEs] at aw
  exact aw.of_ok w [] .nil
theorem blt_red {b : BF} {r : List V → Hp → VK → Prop} {σ : L2.St} {H : Hp} {Q : VK} (hr : ∀ vs H Q, rCD X.K (bltop b) vs H Q → r vs H Q) (h : tE X.K ex Wx fn (.blt b cs) σ H Q) : tCB r (tEs X.K ex Wx fn cs) σ H Q := by
  obtain ⟨S, M, ρ, w, sl, aw⟩ := h
  simp only [evE] at aw
  refine ⟨S, M, ρ, w, sl, aw.bind.imp fun ds M1 S1 H1 t1 w1 aw1 vs rs => hr _ _ _ ?_⟩
  obtain ⟨r, M4, hb, af⟩ := aw1.ok bltop_ne
  exact ⟨S1, M1, ds, r, M4, w1, rs, hb, fun S' H' v t w r => af S' H' t w v r⟩
theorem ce_bltB {b : BF} {x : Str} {id : String} {p : Pos} (hc : CallR X (.builtin id) (rCD X.K (bltop b))) (hg : Gl X x) (hm : X.mg x = none) (hv : bootBuiltins x = some (.builtin id)) (ha : PA X (e :: es) (tEs X.K ex Wx fn cs)) (hn : x ≠ "__name__") (hdb : (x == ("__debug__" : Str)) = false) (hst : ∀ y ∈ e :: es, NoStar y) :
    PE X (.Call (.Name x p) (e :: es) [] pos) (tE X.K ex Wx fn (.blt b cs)) :=
  (pe_callB hc hg hm hv ha hn hdb (hst e List.mem_cons_self es X.env) (backTo_any _ (noStar_any fun y hy => hst y (List.mem_cons_of_mem _ hy)))).weak fun σ H Q h => blt_red (fun _ _ _ h => h) h
theorem ce_bltT {b : BF} {x : Str} {id : String} {p : Pos} (hc : CallR X (.type id) (rCD X.K (bltop b))) (hg : Gl X x) (hm : X.mg x = none) (hv : bootBuiltins x = some (.type id)) (ha : PA X (e :: es) (tEs X.K ex Wx fn cs)) (hn : x ≠ "__name__") (hdb : (x == ("__debug__" : Str)) = false) (hst : ∀ y ∈ e :: es, NoStar y) :
    PE X (.Call (.Name x p) (e :: es) [] pos) (tE X.K ex Wx fn (.blt b cs)) :=
  (pe_callTy hc hg hm hv ha hn hdb (hst e List.mem_cons_self es X.env) (backTo_any _ (noStar_any fun y hy => hst y (List.mem_cons_of_mem _ hy)))).weak fun σ H Q h => blt_red (fun _ _ _ h => h) h
/-- isinstance(a, T) -/
theorem ce_isi {t : Ty} {p p2 : Pos} {T : Str} (hg : Gl X "isinstance") (hm : X.mg "isinstance" = none) (hg2 : Gl X T) (hm2 : X.mg T = none) (hv2 : bootBuiltins T = some (.type (tyName t))) (hn2 : T ≠ "__name__") (hd2 : (T == ("__debug__" : Str)) = false) (ha : PE X a (tE X.K ex Wx fn ca)) (hst : NoStar a) :
    PE X (.Call (.Name "isinstance" p) [a, .Name T p2] [] pos) (tE X.K ex Wx fn (.blt (.isi t) (.cons ca .nil))) := by
  refine (pe_callB (b_isi t) hg hm (by decide +kernel) (pa_cons ha (pa_cons (pe_bltn (v := .ty (tyName t)) hg2 hm2 hv2 rfl hn2 hd2) pa_nil rfl) (hst _ _)) (by decide) (by decide) (hst _ _) rfl).weak fun σ H Q h => ?_
  obtain ⟨S, M, ρ, w, sl, aw⟩ := h
  simp only [evE, evEs] at aw
  have aw := aw.bind
  refine ⟨S, M, ρ, w, sl, aw.bind.imp fun d M1 S1 H1 t1 w1 aw1 v1 r1 => ?_⟩
  refine ⟨v1, rfl, ?_⟩
  have aw1 := aw1.of_ok w1
  obtain ⟨r, M4, hb, af⟩ := aw1.ok bltop_ne
  exact ⟨S1, M1, [d], r, M4, w1, .cons r1 .nil, hb, fun S' H' v t w r => af S' H' t w v r⟩
/-! ### methods of lists -/
theorem recv_ty {K : Kf} {S : Sk} {M : Mem} {H : Hp} {d : D} {v : V} (w : W K S M H) (r : RD K S H d v) (h : recv d M = true) : tyV K "list" v H := by
  unfold recv at h
  split at h
  · rename_i xs hd
    obtain ⟨a, vs, e1, q1, _⟩ := rd_lst w r hd
    subst e1
    exact .inl ⟨rfl, vs, .inl q1⟩
  · cases h
theorem ce_mth {m : MF} {name : Str} {id : String} {o : Expr} {co : CE} {apos : Pos} (slot : Slot "list" name id) (hty : typeOf (.builtin id) = pure (.type "method_descriptor"))
    (hm : MtM X id (fun x vs H Q => ∃ S M o ds r M', W X.K S M H ∧ RD X.K S H o x ∧ RDs X.K S H ds vs ∧ mthop m o ds M = .ok r M' ∧ Aft X.K S H r M' Q)) (hne : ∀ o ds M c M', mthop m o ds M ≠ .exc c M')
    (ho : PE X o (tE X.K ex Wx fn co)) (ha : PA X (e :: es) (tEs X.K ex Wx fn cs)) (hbase : attributeBase o name X.env (eval o X.env) = eval o X.env) (hline : (apos.endLine == pos.line) = true) (hfew : (e :: es).length < 30) (hst : ∀ y ∈ e :: es, NoStar y) :
    PE X (.Call (.Attribute o name apos) (e :: es) [] pos) (tE X.K ex Wx fn (.mth m co cs)) := by
  have nost := backTo_any (pos := pos) _ (noStar_any (env := X.env) hst)
  have few : ((backTo pos (starEach (e :: es) X.env)).all (fun x => !x.1) && (backToKw pos (keywordEach [] X.env)).all (fun x => x.1.isSome) && decide ((e :: es).length + ([] : List Keyword).length + (if ([] : List Keyword).isEmpty then 0 else 1) < 30)) = true := by
    have h1 : (backTo pos (starEach (e :: es) X.env)).all (fun x => !x.1) = true := by
      rw [List.all_eq_true]
      intro y hy
      have := List.any_eq_false.mp nost y hy
      simpa using this
    have h2 : (backToKw pos (keywordEach [] X.env)).all (fun x => x.1.isSome) = true := by simp [keywordEach, backToKw]
    have h3 : (e :: es).length + ([] : List Keyword).length + (if ([] : List Keyword).isEmpty then 0 else 1) < 30 := by
      show (e :: es).length + 0 + 0 < 30
      omega
    rw [h1, h2, decide_eq_true h3]
    rfl
  refine (pe_bm PySem.F.plainAttrs_list slot hty hm ho ha hbase few hline (hst e List.mem_cons_self es X.env) (backTo_any _ (noStar_any fun y hy => hst y (List.mem_cons_of_mem _ hy)))).weak fun σ H Q h => ?_
  obtain ⟨S, M, ρ, w, sl, aw⟩ := h
  simp only [evE] at aw
  refine ⟨S, M, ρ, w, sl, aw.bind.imp fun d M1 S1 H1 t1 w1 aw1 v1 r1 => ?_⟩
  split at aw1
  · rename_i hr
    refine ⟨recv_ty w1 r1 hr, S1, M1, ρ, w1, sl.mono t1, aw1.bind.imp fun ds M2 S2 H2 t2 w2 aw2 vs rs => ?_⟩
    obtain ⟨r, M4, hb, af⟩ := aw2.ok (hne _ _ _)
    exact ⟨S2, M2, d, ds, r, M4, w2, r1.mono t2, rs, hb, fun S' H' v t w r => af S' H' t w v r⟩
  · exact aw1.elim
/-! ### methods of texts, of a tuple of texts, of a dict -/
theorem rps_strs {K : Kf} {S : Sk} {H : Hp} : ∀ ys : List Str, RPs K S H (ys.map PyData.str) (ys.map V.str)
  | [] => .nil
  | y :: ys => .cons (.str y) (rps_strs ys)
theorem strs_of {K : Kf} {S : Sk} {H : Hp} : ∀ {xs : List PyData} {vs : List V} {ys : List Str}, RPs K S H xs vs → asStrs xs = some ys → vs = ys.map V.str
  | [], _, ys, .nil, h => by cases h; rfl
  | x :: xs, _, ys, .cons a b, h => by
    cases x <;> try (simp [asStrs] at h; done)
    simp only [asStrs] at h
    split at h
    · rename_i zs hz
      cases h
      cases a
      rw [strs_of b hz]; rfl
    · cases h
def rTx (K : Kf) (m : TM) : V → List V → Hp → VK → Prop := fun x vs H Q => ∃ S M a d y r v, W K S M H ∧ x = .str a ∧ vs = [v] ∧ RD K S H d v ∧ dat M d = some y ∧ txop m (.str a) y = some r ∧ Aft K S H (.p r) M Q
theorem m_split : MtR X "str.split" (rTx X.K .split) := by
  intro pins s σ H x xs v us Q I rx rs ⟨S, M, a, d, y, r, v', w, e1, e2, rd, hy, ht, af⟩
  subst e1 e2
  simp only [txop] at ht
  split at ht
  · rename_i a' b ea
    cases ea
    split at ht
    · rename_i hz
      cases ht
      have := rd_str w rd hy
      subst this
      exact mt_split pins s σ H _ _ v us Q I rx rs ⟨_, b, rfl, rfl, hz.1, sz_le hz.2, fun p np => Aft.new w (mt := false) rfl (rps_strs _) af np⟩
    · cases ht
  · cases ht
theorem m_part : MtR X "str.partition" (rTx X.K .part) := by
  intro pins s σ H x xs v us Q I rx rs ⟨S, M, a, d, y, r, v', w, e1, e2, rd, hy, ht, af⟩
  subst e1 e2
  simp only [txop] at ht
  split at ht
  · rename_i a' b ea
    cases ea
    split at ht
    · rename_i hz
      cases ht
      have := rd_str w rd hy
      subst this
      exact mt_partition pins s σ H _ _ v us Q I rx rs ⟨_, b, rfl, rfl, hz.1, sz_le hz.2, fun p np => af.tup w (.cons (.str _) (.cons (.str _) (.cons (.str _) .nil))) np⟩
    · cases ht
  · cases ht
theorem m_join : MtR X "str.join" (rTx X.K .join) := by
  intro pins s σ H x xs v us Q I rx rs ⟨S, M, a, d, y, r, v', w, e1, e2, rd, hy, ht, af⟩
  subst e1 e2
  simp only [txop] at ht
  split at ht
  · rename_i a' zs ea
    cases ea
    split at ht
    · rename_i ys hys
      split at ht
      · rename_i hz
        cases ht
        obtain ⟨p, vs, rfl, q1, q2⟩ := rd_lst w rd hy
        have := strs_of q2 hys
        subst this
        exact mt_join pins s σ H _ _ v us Q I rx rs ⟨_, p, ys, rfl, rfl, .inl (.inl q1), hz, af.here w (.str _)⟩
      · cases ht
    · cases ht
  · cases ht
theorem m_cnt : MtR X "str.count" (rTx X.K .cnt) := by
  intro pins s σ H x xs v us Q I rx rs ⟨S, M, a, d, y, r, v', w, e1, e2, rd, hy, ht, af⟩
  subst e1 e2
  simp only [txop] at ht
  split at ht
  · rename_i a' b ea
    cases ea
    cases ht
    have := rd_str w rd hy
    subst this
    exact mt_count pins s σ H _ _ v us Q I rx rs ⟨_, b, rfl, rfl, af.here w (.int _)⟩
  · cases ht
theorem few_one {e : Expr} (hst : NoStar e) : ((backTo pos (starEach [e] X.env)).all (fun x => !x.1) && (backToKw pos (keywordEach [] X.env)).all (fun x => x.1.isSome) && decide (([e] : List Expr).length + ([] : List Keyword).length + (if ([] : List Keyword).isEmpty then 0 else 1) < 30)) = true := by
  rw [hst]; rfl
theorem rps_rg (K : Kf) (S : Sk) (H : Hp) (n : Int) : RPs K S H ((List.range n.toNat).map fun i => PyData.int (i : Nat)) (rgV 0 n) := by
  unfold rgV
  rw [Int.sub_zero]
  generalize List.range n.toNat = xs
  induction xs with
  | nil => exact .nil
  | cons x xs ih =>
    rw [List.map_cons, List.map_cons, Int.zero_add]
    exact .cons (.int _) ih
theorem ce_lrg {a : Expr} {ca : CE} {p p2 pos2 : Pos} (hc : X.calm = true) (hg : Gl X "list") (hm : X.mg "list" = none) (hg2 : Gl X "range") (hm2 : X.mg "range" = none) (ha : PE X a (tE X.K ex Wx fn ca)) (hs : NoStar a) : PE X (.Call (.Name "list" p) [.Call (.Name "range" p2) [a] [] pos2] [] pos) (tE X.K ex Wx fn (.nat 5 (.cons ca .nil))) := by
  refine (pe_listRg hc hg hm (prg_1 hg2 hm2 ha (hs _ _)) rfl).weak fun σ H Q h => ?_
  obtain ⟨S, M, ρ, w, sl, aw⟩ := h
  simp only [evE, evEs] at aw
  cases e : evE fn ca ρ M with
  | bad => rw [e] at aw; exact (show False from aw).elim
  | exc c M1 => rw [e] at aw; exact (show False from aw).elim
  | ok d M1 =>
    rw [e] at aw
    refine ⟨S, M, ρ, w, sl, ?_⟩
    rw [e]
    intro S1 H1 t1 w1 v1 r1
    cases d with
    | ref j => exact (show False from aw).elim
    | scr j => exact (show False from aw).elim
    | p x =>
      cases x with
      | int n =>
        have aw : Aw X.K ex Wx S H σ (match natop 5 [.int n] with
          | some r => .ok (.p r) M1
          | none => .bad) (fun d _ S' H' => ∀ v, RD X.K S' H' d v → Q v H') := aw
        have en : natop 5 [.int n] = if (decide (-(2 ^ 62) ≤ n) && decide (n ≤ 16777216)) = true then some (.list ((List.range n.toNat).map fun i => .int (i : Nat))) else none := rfl
        rw [en] at aw
        split at aw
        · rename_i r hr
          split at hr
          · rename_i hb
            cases hr
            simp only [Bool.and_eq_true, decide_eq_true_eq] at hb
            have e1 : v1 = .int n := rp_int r1
            subst e1
            refine ⟨n, rfl, ⟨by omega, by omega, by omega, by omega, by omega⟩, fun q nq => ?_⟩
            have af : Aft X.K S1 H1 (.p (.list ((List.range n.toNat).map fun i => .int (i : Nat)))) M1 Q := fun S' H' v t w r => aw S' H' (t1.trans t) w v r
            exact af.new (mt := false) w1 rfl (rps_rg _ _ _ n) nq
          · cases hr
        · exact (show False from aw).elim
      | _ => exact (show False from aw).elim
theorem ce_trg {a : Expr} {ca : CE} {p p2 pos2 : Pos} (hc : X.calm = true) (hg : Gl X "tuple") (hm : X.mg "tuple" = none) (hg2 : Gl X "range") (hm2 : X.mg "range" = none) (ha : PE X a (tE X.K ex Wx fn ca)) (hs : NoStar a) : PE X (.Call (.Name "tuple" p) [.Call (.Name "range" p2) [a] [] pos2] [] pos) (tE X.K ex Wx fn (.nat 8 (.cons ca .nil))) := by
  refine (pe_tupRg hc hg hm (prg_1 hg2 hm2 ha (hs _ _)) rfl).weak fun σ H Q h => ?_
  obtain ⟨S, M, ρ, w, sl, aw⟩ := h
  simp only [evE, evEs] at aw
  cases e : evE fn ca ρ M with
  | bad => rw [e] at aw; exact (show False from aw).elim
  | exc c M1 => rw [e] at aw; exact (show False from aw).elim
  | ok d M1 =>
    rw [e] at aw
    refine ⟨S, M, ρ, w, sl, ?_⟩
    rw [e]
    intro S1 H1 t1 w1 v1 r1
    cases d with
    | ref j => exact (show False from aw).elim
    | scr j => exact (show False from aw).elim
    | p x =>
      cases x with
      | int n =>
        have aw : Aw X.K ex Wx S H σ (match natop 8 [.int n] with
          | some r => .ok (.p r) M1
          | none => .bad) (fun d _ S' H' => ∀ v, RD X.K S' H' d v → Q v H') := aw
        have en : natop 8 [.int n] = if (decide (-(2 ^ 62) ≤ n) && decide (n ≤ 16777216)) = true then some (.tuple ((List.range n.toNat).map fun i => .int (i : Nat))) else none := rfl
        rw [en] at aw
        split at aw
        · rename_i r hr
          split at hr
          · rename_i hb
            cases hr
            simp only [Bool.and_eq_true, decide_eq_true_eq] at hb
            have e1 : v1 = .int n := rp_int r1
            subst e1
            refine ⟨n, rfl, ⟨by omega, by omega, by omega, by omega, by omega⟩, fun q nq => ?_⟩
            have af : Aft X.K S1 H1 (.p (.tuple ((List.range n.toNat).map fun i => .int (i : Nat)))) M1 Q := fun S' H' v t w r => aw S' H' (t1.trans t) w v r
            exact af.tup w1 (rps_rg _ _ _ n) nq
          · cases hr
        · exact (show False from aw).elim
      | _ => exact (show False from aw).elim
theorem ce_txm {m : TM} (hmn : ∀ x, txR m x = true → ∃ a, x = .str a) {name : Str} {id : String} {o : Expr} {co : CE} {apos : Pos} (slot : Slot "str" name id) (hty : typeOf (.builtin id) = pure (.type "method_descriptor")) (hm : MtR X id (rTx X.K m))
    (ho : PE X o (tE X.K ex Wx fn co)) (he : PE X e (tE X.K ex Wx fn ca)) (hbase : attributeBase o name X.env (eval o X.env) = eval o X.env) (hline : (apos.endLine == pos.line) = true) (hst : NoStar e) :
    PE X (.Call (.Attribute o name apos) [e] [] pos) (tE X.K ex Wx fn (.txm m co ca)) := by
  refine (pe_bm PySem.F.plainAttrs_str slot hty hm ho (pa_cons he pa_nil (hst _ _)) hbase (few_one hst) hline (hst _ _) rfl).weak fun σ H Q h => ?_
  obtain ⟨S, M, ρ, w, sl, aw⟩ := h
  simp only [evE] at aw
  refine ⟨S, M, ρ, w, sl, aw.bind.imp fun d M1 S1 H1 t1 w1 aw1 v1 r1 => ?_⟩
  split at aw1
  · rename_i x
    split at aw1
    · rename_i hr
      obtain ⟨a, rfl⟩ := hmn x hr
      have e1 : v1 = .str a := rd_str w1 r1 rfl
      subst e1
      refine ⟨rfl, S1, M1, ρ, w1, sl.mono t1, aw1.bind.imp fun d2 M2 S2 H2 t2 w2 aw2 v2 r2 => ?_⟩
      split at aw2
      · rename_i y hy
        split at aw2
        · rename_i r hr2
          exact ⟨S2, M2, a, d2, y, r, v2, w2, rfl, rfl, r2, hy, hr2, fun S' H' v t w r => aw2 S' H' t w v r⟩
        · exact aw2.elim
      · exact aw2.elim
    · exact aw1.elim
  · exact aw1.elim
theorem ce_upp {o : Expr} {apos : Pos} (ho : PE X o (tE X.K ex Wx fn co)) (hbase : attributeBase o "upper" X.env (eval o X.env) = eval o X.env) (hline : (apos.endLine == pos.line) = true) :
    PE X (.Call (.Attribute o "upper" apos) [] [] pos) (tE X.K ex Wx fn (.txm .upp co (.cst .none))) := by
  refine (pe_bm0 PySem.F.plainAttrs_str PySem.F.slot_str_upper PySem.F.type_str_upper mt_upper ho hbase hline).weak fun σ H Q h => ?_
  obtain ⟨S, M, ρ, w, sl, aw⟩ := h
  simp only [evE] at aw
  refine ⟨S, M, ρ, w, sl, aw.bind.imp fun d M1 S1 H1 t1 w1 aw1 v1 r1 => ?_⟩
  split at aw1
  · rename_i x
    split at aw1
    · rename_i hr
      cases x with
      | str a =>
        have e1 : v1 = .str a := rd_str w1 r1 rfl
        subst e1
        simp only [Res.bind, dat, txop] at aw1
        split at aw1
        · rename_i r hr2
          split at hr2
          · rename_i hz
            cases hr2
            exact ⟨rfl, a, rfl, rfl, hz, aw1 S1 H1 .refl w1 _ (.str _)⟩
          · cases hr2
        · exact aw1.elim
      | _ => cases hr
    · exact aw1.elim
  · exact aw1.elim
theorem idxS_ok {z : Str} : ∀ {ys : List Str} {i j : Nat}, idxS z i ys = some j → ∃ m, j = i + m ∧ ys[m]? = some z ∧ ∀ n, n < m → ys[n]? ≠ some z
  | [], i, j, h => by cases h
  | y :: ys, i, j, h => by
    rw [idxS] at h
    split at h
    · rename_i e
      cases h
      exact ⟨0, rfl, by rw [e]; rfl, fun n hn => by omega⟩
    · rename_i e
      obtain ⟨m, e1, e2, e3⟩ := idxS_ok h
      refine ⟨m + 1, by omega, by simpa using e2, fun n hn => ?_⟩
      cases n with
      | zero => simpa using e
      | succ n => simpa using e3 n (by omega)
theorem ce_tidx {v : V} {xs : List PyData} {o : Expr} {apos : Pos} (ho : PE X o (tC v)) (rp : ∀ S H, RP X.K S H (.tuple xs) v) (ty : ∀ H, tyV X.K "tuple" v H) (he : PE X e (tE X.K ex Wx fn ca))
    (hbase : attributeBase o "index" X.env (eval o X.env) = eval o X.env) (hline : (apos.endLine == pos.line) = true) (hst : NoStar e) :
    PE X (.Call (.Attribute o "index" apos) [e] [] pos) (tE X.K ex Wx fn (.txm .tidx (.cst (.tuple xs)) ca)) := by
  refine (pe_bm PySem.F.plainAttrs_tuple PySem.F.slot_tuple_index PySem.F.type_tuple_index mt_tup_index ho (pa_cons he pa_nil (hst _ _)) hbase (few_one hst) hline (hst _ _) rfl).weak fun σ H Q h => ?_
  obtain ⟨S, M, ρ, w, sl, aw⟩ := h
  simp only [evE, Res.bind, txR, if_true] at aw
  refine ⟨ty H, S, M, ρ, w, sl, aw.bind.imp fun d2 M2 S2 H2 t2 w2 aw2 v2 r2 => ?_⟩
  split at aw2
  · rename_i y hy
    split at aw2
    · rename_i r hr2
      simp only [txop] at hr2
      split at hr2
      · rename_i xs' z ex'
        cases ex'
        split at hr2
        · rename_i ys hys
          split at hr2
          · rename_i j hj
            cases hr2
            obtain ⟨m, e1, e2, e3⟩ := idxS_ok hj
            obtain ⟨a, vs, e4, q1, q2, _⟩ := rd_tup (d := .p (.tuple xs)) w2 (rp S2 H2) rfl
            have := strs_of q2 hys
            subst this
            subst e4
            have e5 := rd_str w2 r2 hy
            subst e5
            refine ⟨a, ys, z, m, rfl, rfl, q1, e2, e3, ?_⟩
            rw [show ((m : Nat) : Int) = ((j : Nat) : Int) by rw [e1, Nat.zero_add]]
            exact aw2 S2 H2 .refl w2 _ (.int _)
          · cases hr2
        · cases hr2
      · cases hr2
    · exact aw2.elim
  · exact aw2.elim
theorem dLook_ok {K : Kf} {S : Sk} {H : Hp} {s : Str} : ∀ {ds : List (PyData × PyData)} {kvs : List (Key × V)}, RKs K S H ds kvs → (∀ z u, RP K S H z u → RP K S H ((dLook ds s).getD z) ((valV kvs (.inr s)).getD u))
  | _, _, .nil, z, u, r => by
    rw [dLook, valV_nil]; exact r
  | _, _, .int (i := i) a b, z, u, r => by
    rw [dLook, valV_neg (by simp)]
    · exact dLook_ok b z u r
    · intro k v h; simp at h
  | _, _, .str (i := i) a b, z, u, r => by
    rw [dLook]
    by_cases h : i = s
    · rw [if_pos h, valV_pos (by rw [h])]; exact a
    · rw [if_neg h, valV_neg (by simpa using h)]
      exact dLook_ok b z u r
theorem ce_dgt {d f : Expr} {cd cf : CE} {apos : Pos} (hu : X.A.units + 1 < cLine) (hd : PE X d (tE X.K ex Wx fn cd)) (he : PE X e (tE X.K ex Wx fn ca)) (hf : PE X f (tE X.K ex Wx fn cf))
    (hbase : attributeBase d "get" X.env (eval d X.env) = eval d X.env) (hline : (apos.endLine == pos.line) = true) (hs1 : NoStar e) (hs2 : NoStar f) :
    PE X (.Call (.Attribute d "get" apos) [e, f] [] pos) (tE X.K ex Wx fn (.dgt cd ca cf)) := by
  refine (pe_dget2 hu hd he hf ⟨hbase, by rw [hs1, hs2]; rfl, hline, by rw [hs1, hs2]; rfl⟩).weak fun σ H Q h => ?_
  obtain ⟨S, M, ρ, w, sl, aw⟩ := h
  simp only [evE] at aw
  refine ⟨S, M, ρ, w, sl, aw.bind.imp fun d M1 S1 H1 t1 w1 aw1 v1 r1 => ?_⟩
  split at aw1
  · rename_i kvs
    have r1' : RP X.K S1 H1 (.dict kvs) v1 := r1
    cases r1' with
    | @dct a ks _ q1 q2 q3 =>
      refine ⟨a, rfl, .inl ⟨ks, .inl q1⟩, S1, M1, ρ, w1, sl.mono t1, aw1.bind.imp fun d2 M2 S2 H2 t2 w2 aw2 v2 r2 => ?_⟩
      refine ⟨S2, M2, ρ, w2, (sl.mono t1).mono t2, aw2.bind.imp fun d3 M3 S3 H3 t3 w3 aw3 v3 r3 => ?_⟩
      split at aw3
      · rename_i s z
        have e2 : v2 = .str s := rd_str w2 r2 rfl
        subst e2
        have r4 : RP X.K S3 H3 (.dict kvs) (.ref a) := ((RP.dct q1 q2 q3 : RP X.K S1 H1 (.dict kvs) (.ref a)).mono t2).mono t3
        cases r4 with
        | @dct _ ks' _ p1 p2 p3 =>
          exact ⟨valV ks' (.inr s), .inl ⟨ks', .inr s, .inl p1, rfl, rfl⟩, aw3 S3 H3 .refl w3 _ (dLook_ok p3 z v3 r3)⟩
      · exact aw3.elim
  · exact aw1.elim
end
end Mi

set_option Elab.async false
set_option linter.all false
set_option maxRecDepth 100000
set_option maxHeartbeats 1000000
/-! Mi: zip of a tuple and a list, of a list and a tuple. -/
namespace Mi
open PySem PySem.Spec PyProof.Rows L2
def SqB (t : Bool) (K : PySem.W.Frag) (H : Hp) (a : Addr) (xs : List V) : Prop := if t then SqT K H a xs else SqL K H a xs
def IsB (t : Bool) (h : Heap) (a : Addr) (its : Array Value) : Prop := if t then h.IsTuple a its else h.IsList a its
def ItB (t : Bool) (h : Heap) (it a : Addr) (i : Nat) : Prop := if t then h.IsTupleIter it a i else h.IsListIter it a i
theorem ItB.obj {t : Bool} {h : Heap} {it a : Addr} {i : Nat} (x : ItB t h it a i) : ∃ o, h.get? it = some o ∧ ∀ v, o.data ≠ .cell v := by
  cases t with
  | true =>
    obtain ⟨o, e, _, d⟩ := (show h.IsTupleIter it a i from x)
    exact ⟨o, e, fun v q => by rw [d] at q; cases q⟩
  | false =>
    obtain ⟨o, e, _, d⟩ := (show h.IsListIter it a i from x)
    exact ⟨o, e, fun v q => by rw [d] at q; cases q⟩
theorem ItB.at {t : Bool} {h h' : Heap} {it a : Addr} {i : Nat} (x : ItB t h it a i) (k : ∀ o, h.get? it = some o → h'.get? it = some o) : ItB t h' it a i := by
  cases t with
  | true => exact (show h.IsTupleIter it a i from x).at k
  | false => exact (show h.IsListIter it a i from x).at k
theorem IsB.lt {t : Bool} {h : Heap} {a : Addr} {its : Array Value} (x : IsB t h a its) : a < h.objs.size := by
  cases t with
  | true => obtain ⟨o, e, _⟩ := (show h.IsTuple a its from x); exact Heap.lt_size e
  | false => obtain ⟨o, e, _⟩ := (show h.IsList a its from x); exact Heap.lt_size e
theorem SqB.its {t : Bool} {X : Cx} {pins : List (Addr × Obj)} {σ : L2.St} {H : Hp} {s : Shared} (I : Inv X pins σ H s) {a : Addr} {xs : List V} (h : SqB t X.K H a xs) : ∃ its : List Value, Vals xs its ∧ IsB t s.heap a its.toArray := by
  cases t with
  | true => obtain ⟨its, rv, p, _⟩ := I.tuple (show SqT X.K H a xs from h); exact ⟨its, rv, p⟩
  | false => obtain ⟨its, rv, p, _⟩ := I.list (show SqL X.K H a xs from h); exact ⟨its, rv, p.isList⟩
theorem drawsB (t : Bool) {prog : Program} {w : World} {A : Around} (hh : A.handled = none) (it a : Addr) (hne : a ≠ it) (items : Array Value) :
    Draws prog w A it [it, a] items.size (fun i v => items[i]? = some v) (fun i h => ItB t h it a i ∧ IsB t h a items) := by
  cases t with
  | true => exact Draws.tuple hh it a hne items
  | false => exact Draws.list hh it a hne items
def itO (t : Bool) (a : Addr) : Obj := { cls := .type (if t then "tuple_iterator" else "list_iterator"), data := .fields #[.ref a, .int 0 0] }
theorem beginsB (t : Bool) (a : Addr) (its : Array Value) : Begins (.ref a) (itO t a) fun h => IsB t h a its := by
  cases t with
  | true => exact begins_tuple a its
  | false => exact begins_list a its
theorem itB_new {t : Bool} {h : Heap} {it a : Addr} (e : h.get? it = some (itO t a)) : ItB t h it a 0 := by
  cases t with
  | true => exact ⟨_, e, rfl, rfl⟩
  | false => exact ⟨_, e, rfl, rfl⟩
/-- the items of two, in new pairs -/
def ItzB (K : PySem.W.Frag) (t1 t2 : Bool) (a b : Addr) (xs ys : List V) : L2.It :=
  ⟨fun i H => SqB t1 K H a xs ∧ SqB t2 K H b ys ∧ i < xs.length ∧ i < ys.length,
    fun i H v H' => ∃ T x y, v = .ref T ∧ H T = none ∧ H' = upd H T (.tup [x, y]) ∧ xs[i]? = some x ∧ ys[i]? = some y,
    fun i H => SqB t1 K H a xs ∧ SqB t2 K H b ys ∧ i = min xs.length ys.length⟩
theorem turn_zipB {P : Program} {w : World} {K : PySem.W.Frag} {elts : List Expr} {kk : Nat} {tpos : Pos} {t1 t2 : Bool} {a b z TI TO i1 i2 : Addr} (xs ys : List V) (D : ZipSep2 z TI TO i1 i2 [i1, a] [i2, b]) (n1 : a ≠ i1) (n2 : b ≠ i2) :
    Turn P w K (.Tuple elts kk tpos) (ItzB K t1 t2 a b xs ys) [z, TI, TO, i1, i2] z (fun i h => IsZip h z TI TO .none ∧ IsTupOf2 h TI (.ref i1) (.ref i2) ∧ (∃ x y, IsTupOf2 h TO x y) ∧ ItB t1 h i1 a i ∧ ItB t2 h i2 b i) where
  mem := by simp
  obj := fun i h st c hc => by
    obtain ⟨hz, hTI, ⟨x, y, hTO⟩, h1, h2⟩ := st
    have e' : c = z ∨ c = TI ∨ c = TO ∨ c = i1 ∨ c = i2 := by simpa using hc
    rcases e' with q | q | q | q | q
    · rw [q]; exact ⟨_, hz, fun v q => nomatch q⟩
    · rw [q]; exact ⟨_, hTI, fun v q => nomatch q⟩
    · rw [q]; exact ⟨_, hTO, fun v q => nomatch q⟩
    · rw [q]; exact h1.obj
    · rw [q]; exact h2.obj
  keep := fun i h h' st k => by
    obtain ⟨hz, hTI, ⟨x, y, hTO⟩, h1, h2⟩ := st
    exact ⟨k z (by simp) _ hz, k TI (by simp) _ hTI, ⟨x, y, k TO (by simp) _ hTO⟩, h1.at fun o q => k i1 (by simp) o q, h2.at fun o q => k i2 (by simp) o q⟩
  item := by
    intro X hP hw hK hc i pins s σ H E I hf st hg
    subst hP hw hK
    obtain ⟨hz, hTI, ⟨x0, y0, hTO⟩, h1, h2⟩ := st
    obtain ⟨hqx, hqy, l1, l2⟩ := hg
    obtain ⟨its, rv, p⟩ := hqx.its I
    obtain ⟨its2, rv2, p2⟩ := hqy.its I
    have e1 := rv.length
    have e2 := rv2.length
    have hx : xs[i]? = some xs[i] := List.getElem?_eq_getElem l1
    have hy : ys[i]? = some ys[i] := List.getElem?_eq_getElem l2
    obtain ⟨u, hu, ru⟩ := rv.get hx
    obtain ⟨u2, hu2, ru2⟩ := rv2.get hy
    have hzl : z < s.heap.objs.size := Heap.lt_size hz
    refine wpAny_pyNext_zipD2_item D (drawsB t1 (A := X.A.in1) (I.ok.hd hc) i1 a n1 its.toArray) (drawsB t2 (A := X.A.in1) (I.ok.hd hc) i2 b n2 its2.toArray) hz hTI hTO ⟨h1, p⟩ ⟨h2, p2⟩ (by simp; omega) (by simp; omega) fun v v2 h' tk hv hv2 z' TO' h1' h2' hT hsz hk => ?_
    have hvu : v = u := by
      have : its[i]? = some v := by simpa using hv
      rw [this] at hu; cases hu; rfl
    have hvu2 : v2 = u2 := by
      have : its2[i]? = some v2 := by simpa using hv2
      rw [this] at hu2; cases hu2; rfl
    subst hvu hvu2
    refine ⟨_, rfl, wpAny_letOwnedTupleGo_zip (s := { s with heap := h', toks := tk }) z' fun h'' z'' sb => ?_⟩
    have hT2 : h''.get? s.heap.objs.size = some { cls := .type "tuple", data := .seq #[v, v2] } := (sb.2 _ (Nat.ne_of_gt hzl)).trans hT
    have new : ObjOk X.prog X.w (upd H s.heap.objs.size (.tup [xs[i], ys[i]])) h'' s.heap.objs.size (.tup [xs[i], ys[i]]) :=
      ⟨by show 2 ≤ sizeLine; decide, [v, v2], .cons ru (.cons ru2 .nil), ⟨_, hT2, rfl, _, rfl⟩⟩
    have I1 : Inv X pins σ (upd H s.heap.objs.size (.tup [xs[i], ys[i]])) { s with heap := h'', toks := tk } :=
      I.turnedNew (ch := [z, TI, TO, i1, i2]) (fun c o hb q => (sb.2 c (fun q' => hb (by simp [q']))).trans (hk c o (fun q' => hb (by simp [q'])) (fun q' => hb (by simp [q'])) (fun q' => hb (by simp [q'])) (fun q' => hb (by simp [q'])) q)) hf (Nat.le_refl _) new
    refine ⟨.ref s.heap.objs.size, _, I1, rfl, ⟨_, xs[i], ys[i], rfl, I.hok.fresh (Nat.le_refl _), rfl, hx, hy⟩, ⟨z'', ?_, ⟨v, v2, ?_⟩, ?_, ?_⟩, fun c hcm => ?_⟩
    · exact (sb.2 _ D.TIz).trans (hk _ _ D.TIz D.TITO D.TIi1 D.TIi2 hTI)
    · exact (sb.2 _ D.TOz).trans TO'
    · exact h1'.1.at fun o q => (sb.2 _ D.zi1.symm).trans q
    · exact h2'.1.at fun o q => (sb.2 _ D.zi2.symm).trans q
    · have hlt : c < s.heap.objs.size := by
        have e' : c = z ∨ c = TI ∨ c = TO ∨ c = i1 ∨ c = i2 := by simpa using hcm
        rcases e' with q | q | q | q | q
        · rw [q]; exact hzl
        · rw [q]; exact Heap.lt_size hTI
        · rw [q]; exact Heap.lt_size hTO
        · rw [q]; obtain ⟨_, e1, _⟩ := h1.obj; exact Heap.lt_size e1
        · rw [q]; obtain ⟨_, e2, _⟩ := h2.obj; exact Heap.lt_size e2
      rw [upd_ne (Nat.ne_of_lt hlt)]
      exact (hf c hcm).1
  done := by
    intro X hP hw hK hc i pins s σ H E I hf st hg
    subst hP hw hK
    obtain ⟨hz, hTI, ⟨x0, y0, hTO⟩, h1, h2⟩ := st
    obtain ⟨hqx, hqy, hend⟩ := hg
    obtain ⟨its, rv, p⟩ := hqx.its I
    obtain ⟨its2, rv2, p2⟩ := hqy.its I
    have e1 := rv.length
    have e2 := rv2.length
    exact wpAny_pyNext_zipD2_end D (drawsB t1 (A := X.A.in1) (I.ok.hd hc) i1 a n1 its.toArray) (drawsB t2 (A := X.A.in1) (I.ok.hd hc) i2 b n2 its2.toArray) hz hTI hTO ⟨h1, p⟩ ⟨h2, p2⟩ (by simp; omega) (by simp; omega) (by simp; omega) fun h' tk hk => ⟨rfl, I.turnedL (ch := [z, TI, TO, i1, i2]) (fun c o hb q =>
      hk c o (fun q' => hb (by simp [q'])) (fun q' => hb (by simp [q'])) (fun q' => hb (by simp [q'])) (fun q' => hb (by simp [q'])) q) hf⟩
  self := fun A i s Q E st h => wpAny_pyIter_zip st.1 h
theorem nm2 (x p q : Nat) (h1 : x ≠ p) (h2 : x ≠ q) : x ∉ ([p, q] : List Nat) := by simp only [List.mem_cons, List.not_mem_nil, or_false]; omega
theorem nn2 (x y : Nat) (h : x < y ∨ y < x) : x ≠ y := by omega
theorem sep_new (n a b : Nat) (la : a < n) (lb : b < n) : ZipSep2 (n + 4) (n + 2) (n + 3) n (n + 1) [n, a] [n + 1, b] ∧ b ≠ n + 1 :=
  ⟨⟨nn2 (n + 2) (n + 4) (by omega), nn2 (n + 3) (n + 4) (by omega), nn2 (n + 2) (n + 3) (by omega), nn2 (n + 2) n (by omega), List.mem_cons_self, nm2 (n + 4) n a (by omega) (by omega), nm2 (n + 3) n a (by omega) (by omega),
    nn2 (n + 2) (n + 1) (by omega), List.mem_cons_self, nm2 (n + 4) (n + 1) b (by omega) (by omega), nm2 (n + 3) (n + 1) b (by omega) (by omega), nm2 n (n + 1) b (by omega) (by omega), nm2 (n + 1) n a (by omega) (by omega)⟩, by omega⟩
def iZipB (K : PySem.W.Frag) (ta : TA) : TI := fun σ H R => ta σ H fun vs H1 => ∃ a b xs ys t1 t2, vs = [.ref a, .ref b] ∧ SqB t1 K H1 a xs ∧ SqB t2 K H1 b ys ∧ R (ItzB K t1 t2 a b xs ys) H1
theorem pi_zipB {X : Cx} {e e2 : Expr} {ta : TA} {p pos tpos : Pos} {elts : List Expr} {kk : Nat} (hg : Gl X "zip") (hm : X.mg "zip" = none) (ha : PA X [e, e2] ta)
    (hs : starEach [e, e2] X.env = (false, eval e X.env) :: starEach [e2] X.env) (hpl : (backTo pos (starEach [e2] X.env)).any (·.1) = false) :
    PI X (.Tuple elts kk tpos) (.Call (.Name "zip" p) [e, e2] [] pos) (iZipB X.K ta) := by
  refine ⟨fun pins s σ H R I h => ?_⟩
  refine Call_ (ld_blt I hg hm PyProof.Rows.boot_zip (PyProof.Rows.callWith_type1 (thn (ha.run pos pins s σ H _ I h) fun us s1 ⟨vs, H1, I1, r1, q1⟩ => ?_) hs hpl))
  obtain ⟨a, b, xs, ys, t1, t2, ex, hqx, hqy, q⟩ := q1
  subst ex
  cases r1 with
  | cons r rr =>
    cases rr with
    | cons r' rr =>
      cases rr
      cases r
      cases r'
      have fresh5 : ∀ c, c ∈ [s1.heap.objs.size + 4, s1.heap.objs.size + 2, s1.heap.objs.size + 3, s1.heap.objs.size, s1.heap.objs.size + 1] → FpOk X pins H1 c := fun c hcm => by
        have e' : c = s1.heap.objs.size + 4 ∨ c = s1.heap.objs.size + 2 ∨ c = s1.heap.objs.size + 3 ∨ c = s1.heap.objs.size ∨ c = s1.heap.objs.size + 1 := by simpa using hcm
        have hle : s1.heap.objs.size ≤ c := by omega
        exact I1.fpOk hle (I1.hok.fresh hle)
      obtain ⟨its, rv, p1⟩ := hqx.its I1
      obtain ⟨its2, rv2, p2⟩ := hqy.its I1
      have la := p1.lt
      have lb := p2.lt
      refine zip_begins2 (beginsB t1 a its.toArray) (beginsB t2 b its2.toArray) p1 p2 fun h' hz hTI hTO h1 h2 hsz hk => wpAny_pyIter_zip hz ?_
      have I2 : Inv X pins σ H1 { s1 with heap := h' } := I1.kept (t' := s1.toks) hk
      exact ⟨s1.heap.objs.size + 4, [s1.heap.objs.size + 4, s1.heap.objs.size + 2, s1.heap.objs.size + 3, s1.heap.objs.size, s1.heap.objs.size + 1], _, _, H1, rfl, I2, turn_zipB xs ys (sep_new _ _ _ la lb).1 (Nat.ne_of_lt la) (sep_new _ _ _ la lb).2, ⟨hz, hTI, ⟨_, _, hTO⟩, itB_new h1, itB_new h2⟩, fresh5, q⟩
end Mi

set_option Elab.async false
set_option linter.all false
set_option maxRecDepth 100000
set_option maxHeartbeats 1000000
/-! Mi: zip of three, each a tuple or a list. -/
namespace Mi
open PySem PySem.Spec PyProof.Rows L2
/-- the items of three, in new triples -/
def Itz3 (K : PySem.W.Frag) (t1 t2 t3 : Bool) (a b c : Addr) (xs ys zs : List V) : L2.It :=
  ⟨fun i H => SqB t1 K H a xs ∧ SqB t2 K H b ys ∧ SqB t3 K H c zs ∧ i < xs.length ∧ i < ys.length ∧ i < zs.length,
    fun i H v H' => ∃ T x y z, v = .ref T ∧ H T = none ∧ H' = upd H T (.tup [x, y, z]) ∧ xs[i]? = some x ∧ ys[i]? = some y ∧ zs[i]? = some z,
    fun i H => SqB t1 K H a xs ∧ SqB t2 K H b ys ∧ SqB t3 K H c zs ∧ i = min (min xs.length ys.length) zs.length⟩
theorem turn_zip3 {P : Program} {w : World} {K : PySem.W.Frag} {elts : List Expr} {kk : Nat} {tpos : Pos} {t1 t2 t3 : Bool} {a b c0 z TI TO i1 i2 i3 : Addr} (xs ys zs : List V) (D : ZipSep3 z TI TO i1 i2 i3 [i1, a] [i2, b] [i3, c0]) (n1 : a ≠ i1) (n2 : b ≠ i2) (n3 : c0 ≠ i3) :
    Turn P w K (.Tuple elts kk tpos) (Itz3 K t1 t2 t3 a b c0 xs ys zs) [z, TI, TO, i1, i2, i3] z (fun i h => IsZip h z TI TO .none ∧ IsTupOf3 h TI (.ref i1) (.ref i2) (.ref i3) ∧ (∃ x y u, IsTupOf3 h TO x y u) ∧ ItB t1 h i1 a i ∧ ItB t2 h i2 b i ∧ ItB t3 h i3 c0 i) where
  mem := by simp
  obj := fun i h st c hc => by
    obtain ⟨hz, hTI, ⟨x, y, u, hTO⟩, h1, h2, h3⟩ := st
    have e' : c = z ∨ c = TI ∨ c = TO ∨ c = i1 ∨ c = i2 ∨ c = i3 := by simpa using hc
    rcases e' with q | q | q | q | q | q
    · rw [q]; exact ⟨_, hz, fun v q => nomatch q⟩
    · rw [q]; exact ⟨_, hTI, fun v q => nomatch q⟩
    · rw [q]; exact ⟨_, hTO, fun v q => nomatch q⟩
    · rw [q]; exact h1.obj
    · rw [q]; exact h2.obj
    · rw [q]; exact h3.obj
  keep := fun i h h' st k => by
    obtain ⟨hz, hTI, ⟨x, y, u, hTO⟩, h1, h2, h3⟩ := st
    exact ⟨k z (by simp) _ hz, k TI (by simp) _ hTI, ⟨x, y, u, k TO (by simp) _ hTO⟩, h1.at fun o q => k i1 (by simp) o q, h2.at fun o q => k i2 (by simp) o q, h3.at fun o q => k i3 (by simp) o q⟩
  item := by
    intro X hP hw hK hc i pins s σ H E I hf st hg
    subst hP hw hK
    obtain ⟨hz, hTI, ⟨x0, y0, u0, hTO⟩, h1, h2, h3⟩ := st
    obtain ⟨hqx, hqy, hqz, l1, l2, l3⟩ := hg
    obtain ⟨its, rv, p⟩ := hqx.its I
    obtain ⟨its2, rv2, p2⟩ := hqy.its I
    obtain ⟨its3, rv3, p3⟩ := hqz.its I
    have e1 := rv.length
    have e2 := rv2.length
    have e3 := rv3.length
    have hx : xs[i]? = some xs[i] := List.getElem?_eq_getElem l1
    have hy : ys[i]? = some ys[i] := List.getElem?_eq_getElem l2
    have hw' : zs[i]? = some zs[i] := List.getElem?_eq_getElem l3
    obtain ⟨u, hu, ru⟩ := rv.get hx
    obtain ⟨u2, hu2, ru2⟩ := rv2.get hy
    obtain ⟨u3, hu3, ru3⟩ := rv3.get hw'
    have hzl : z < s.heap.objs.size := Heap.lt_size hz
    refine wpAny_pyNext_zipD3_item D (drawsB t1 (A := X.A.in1) (I.ok.hd hc) i1 a n1 its.toArray) (drawsB t2 (A := X.A.in1) (I.ok.hd hc) i2 b n2 its2.toArray) (drawsB t3 (A := X.A.in1) (I.ok.hd hc) i3 c0 n3 its3.toArray) hz hTI hTO ⟨h1, p⟩ ⟨h2, p2⟩ ⟨h3, p3⟩ (by simp; omega) (by simp; omega) (by simp; omega) fun v v2 v3 h' tk hv hv2 hv3 z' TO' h1' h2' h3' hT hsz hk => ?_
    have hvu : v = u := by
      have : its[i]? = some v := by simpa using hv
      rw [this] at hu; cases hu; rfl
    have hvu2 : v2 = u2 := by
      have : its2[i]? = some v2 := by simpa using hv2
      rw [this] at hu2; cases hu2; rfl
    have hvu3 : v3 = u3 := by
      have : its3[i]? = some v3 := by simpa using hv3
      rw [this] at hu3; cases hu3; rfl
    subst hvu hvu2 hvu3
    refine ⟨_, rfl, wpAny_letOwnedTupleGo_zip (s := { s with heap := h', toks := tk }) z' fun h'' z'' sb => ?_⟩
    have hT2 : h''.get? s.heap.objs.size = some { cls := .type "tuple", data := .seq #[v, v2, v3] } := (sb.2 _ (Nat.ne_of_gt hzl)).trans hT
    have new : ObjOk X.prog X.w (upd H s.heap.objs.size (.tup [xs[i], ys[i], zs[i]])) h'' s.heap.objs.size (.tup [xs[i], ys[i], zs[i]]) :=
      ⟨by show 3 ≤ sizeLine; decide, [v, v2, v3], .cons ru (.cons ru2 (.cons ru3 .nil)), ⟨_, hT2, rfl, _, rfl⟩⟩
    have I1 : Inv X pins σ (upd H s.heap.objs.size (.tup [xs[i], ys[i], zs[i]])) { s with heap := h'', toks := tk } :=
      I.turnedNew (ch := [z, TI, TO, i1, i2, i3]) (fun c o hb q => (sb.2 c (fun q' => hb (by simp [q']))).trans (hk c o (fun q' => hb (by simp [q'])) (fun q' => hb (by simp [q'])) (fun q' => hb (by simp [q'])) (fun q' => hb (by simp [q'])) (fun q' => hb (by simp [q'])) q)) hf (Nat.le_refl _) new
    refine ⟨.ref s.heap.objs.size, _, I1, rfl, ⟨_, xs[i], ys[i], zs[i], rfl, I.hok.fresh (Nat.le_refl _), rfl, hx, hy, hw'⟩, ⟨z'', ?_, ⟨v, v2, v3, ?_⟩, ?_, ?_, ?_⟩, fun c hcm => ?_⟩
    · exact (sb.2 _ D.TIz).trans (hk _ _ D.TIz D.TITO D.TIi1 D.TIi2 D.TIi3 hTI)
    · exact (sb.2 _ D.TOz).trans TO'
    · exact h1'.1.at fun o q => (sb.2 _ D.zi1.symm).trans q
    · exact h2'.1.at fun o q => (sb.2 _ D.zi2.symm).trans q
    · exact h3'.1.at fun o q => (sb.2 _ D.zi3.symm).trans q
    · have hlt : c < s.heap.objs.size := by
        have e' : c = z ∨ c = TI ∨ c = TO ∨ c = i1 ∨ c = i2 ∨ c = i3 := by simpa using hcm
        rcases e' with q | q | q | q | q | q
        · rw [q]; exact hzl
        · rw [q]; exact Heap.lt_size hTI
        · rw [q]; exact Heap.lt_size hTO
        · rw [q]; obtain ⟨_, e1, _⟩ := h1.obj; exact Heap.lt_size e1
        · rw [q]; obtain ⟨_, e2, _⟩ := h2.obj; exact Heap.lt_size e2
        · rw [q]; obtain ⟨_, e3, _⟩ := h3.obj; exact Heap.lt_size e3
      rw [upd_ne (Nat.ne_of_lt hlt)]
      exact (hf c hcm).1
  done := by
    intro X hP hw hK hc i pins s σ H E I hf st hg
    subst hP hw hK
    obtain ⟨hz, hTI, ⟨x0, y0, u0, hTO⟩, h1, h2, h3⟩ := st
    obtain ⟨hqx, hqy, hqz, hend⟩ := hg
    obtain ⟨its, rv, p⟩ := hqx.its I
    obtain ⟨its2, rv2, p2⟩ := hqy.its I
    obtain ⟨its3, rv3, p3⟩ := hqz.its I
    have e1 := rv.length
    have e2 := rv2.length
    have e3 := rv3.length
    exact wpAny_pyNext_zipD3_end D (drawsB t1 (A := X.A.in1) (I.ok.hd hc) i1 a n1 its.toArray) (drawsB t2 (A := X.A.in1) (I.ok.hd hc) i2 b n2 its2.toArray) (drawsB t3 (A := X.A.in1) (I.ok.hd hc) i3 c0 n3 its3.toArray) hz hTI hTO ⟨h1, p⟩ ⟨h2, p2⟩ ⟨h3, p3⟩ (by simp; omega) (by simp; omega) (by simp; omega) (by simp; omega) fun h' tk hk => ⟨rfl, I.turnedL (ch := [z, TI, TO, i1, i2, i3]) (fun c o hb q =>
      hk c o (fun q' => hb (by simp [q'])) (fun q' => hb (by simp [q'])) (fun q' => hb (by simp [q'])) (fun q' => hb (by simp [q'])) (fun q' => hb (by simp [q'])) q) hf⟩
  self := fun A i s Q E st h => wpAny_pyIter_zip st.1 h
theorem sep_new3 (n a b c : Nat) (la : a < n) (lb : b < n) (lc : c < n) : ZipSep3 (n + 5) (n + 3) (n + 4) n (n + 1) (n + 2) [n, a] [n + 1, b] [n + 2, c] :=
  ⟨nn2 _ _ (by omega), nn2 _ _ (by omega), nn2 _ _ (by omega), nn2 _ _ (by omega), List.mem_cons_self, nm2 _ _ _ (by omega) (by omega), nm2 _ _ _ (by omega) (by omega),
    nn2 _ _ (by omega), List.mem_cons_self, nm2 _ _ _ (by omega) (by omega), nm2 _ _ _ (by omega) (by omega),
    nn2 _ _ (by omega), List.mem_cons_self, nm2 _ _ _ (by omega) (by omega), nm2 _ _ _ (by omega) (by omega),
    nm2 _ _ _ (by omega) (by omega), nm2 _ _ _ (by omega) (by omega), nm2 _ _ _ (by omega) (by omega), nm2 _ _ _ (by omega) (by omega), nm2 _ _ _ (by omega) (by omega), nm2 _ _ _ (by omega) (by omega)⟩
def iZip3 (K : PySem.W.Frag) (ta : TA) : TI := fun σ H R => ta σ H fun vs H1 => ∃ a b c xs ys zs t1 t2 t3, vs = [.ref a, .ref b, .ref c] ∧ SqB t1 K H1 a xs ∧ SqB t2 K H1 b ys ∧ SqB t3 K H1 c zs ∧ R (Itz3 K t1 t2 t3 a b c xs ys zs) H1
theorem pi_zip3 {X : Cx} {e e2 e3 : Expr} {ta : TA} {p pos tpos : Pos} {elts : List Expr} {kk : Nat} (hg : Gl X "zip") (hm : X.mg "zip" = none) (ha : PA X [e, e2, e3] ta)
    (hs : starEach [e, e2, e3] X.env = (false, eval e X.env) :: starEach [e2, e3] X.env) (hpl : (backTo pos (starEach [e2, e3] X.env)).any (·.1) = false) :
    PI X (.Tuple elts kk tpos) (.Call (.Name "zip" p) [e, e2, e3] [] pos) (iZip3 X.K ta) := by
  refine ⟨fun pins s σ H R I h => ?_⟩
  refine Call_ (ld_blt I hg hm PyProof.Rows.boot_zip (PyProof.Rows.callWith_type1 (thn (ha.run pos pins s σ H _ I h) fun us s1 ⟨vs, H1, I1, r1, q1⟩ => ?_) hs hpl))
  obtain ⟨a, b, c, xs, ys, zs, t1, t2, t3, ex, hqx, hqy, hqz, q⟩ := q1
  subst ex
  cases r1 with
  | cons r rr =>
    cases rr with
    | cons r' rr =>
      cases rr with
      | cons r'' rr =>
        cases rr
        cases r
        cases r'
        cases r''
        have fresh6 : ∀ c, c ∈ [s1.heap.objs.size + 5, s1.heap.objs.size + 3, s1.heap.objs.size + 4, s1.heap.objs.size, s1.heap.objs.size + 1, s1.heap.objs.size + 2] → FpOk X pins H1 c := fun c hcm => by
          have e' : c = s1.heap.objs.size + 5 ∨ c = s1.heap.objs.size + 3 ∨ c = s1.heap.objs.size + 4 ∨ c = s1.heap.objs.size ∨ c = s1.heap.objs.size + 1 ∨ c = s1.heap.objs.size + 2 := by simpa using hcm
          have hle : s1.heap.objs.size ≤ c := by omega
          exact I1.fpOk hle (I1.hok.fresh hle)
        obtain ⟨its, rv, p1⟩ := hqx.its I1
        obtain ⟨its2, rv2, p2⟩ := hqy.its I1
        obtain ⟨its3, rv3, p3⟩ := hqz.its I1
        have la := p1.lt
        have lb := p2.lt
        have lc := p3.lt
        refine zip_begins3 (beginsB t1 a its.toArray) (beginsB t2 b its2.toArray) (beginsB t3 c its3.toArray) p1 p2 p3 fun h' hz hTI hTO h1 h2 h3 hsz hk => wpAny_pyIter_zip hz ?_
        have I2 : Inv X pins σ H1 { s1 with heap := h' } := I1.kept (t' := s1.toks) hk
        exact ⟨s1.heap.objs.size + 5, [s1.heap.objs.size + 5, s1.heap.objs.size + 3, s1.heap.objs.size + 4, s1.heap.objs.size, s1.heap.objs.size + 1, s1.heap.objs.size + 2], _, _, H1, rfl, I2, turn_zip3 xs ys zs (sep_new3 _ _ _ _ la lb lc) (Nat.ne_of_lt la) (Nat.ne_of_lt (Nat.lt_succ_of_lt lb)) (Nat.ne_of_lt (Nat.lt_succ_of_lt (Nat.lt_succ_of_lt lc))), ⟨hz, hTI, ⟨_, _, _, hTO⟩, itB_new h1, itB_new h2, itB_new h3⟩, fresh6, q⟩
end Mi

set_option Elab.async false
set_option linter.all false
set_option maxRecDepth 100000
set_option maxHeartbeats 1000000
/-! Mi: targets, what is walked, comprehensions. -/
namespace Mi
open PySem PySem.Spec PyProof.Rows L2

/-! ### targets -/
def Off (is : List Nat) (σ σ' : L2.St) : Prop := σ'.length = σ.length ∧ ∀ i, i ∉ is → σ'[i]? = σ[i]?
def tgSlots : Tg → List Nat
  | .nm i => [i]
  | .tp is => is
def tG (K : Kf) (t : Tg) : TG := fun v σ H Q => ∃ S M ρ x ρ', W K S M H ∧ Sl K S H ρ σ ∧ RP K S H x v ∧ bindT t x ρ = some ρ' ∧ ∀ σ', Sl K S H ρ' σ' → Off (tgSlots t) σ σ' → Q σ' H
theorem _root_.L2.PG.weak {X : Cx} {e : Expr} {t t' : TG} (h : PG X e t) (f : ∀ v σ H Q, t' v σ H Q → t v σ H Q) : PG X e t' := ⟨fun pins s σ H v u Q I r q => h.run pins s σ H v u Q I r (f v σ H Q q)⟩
theorem off_set {i : Nat} {v : Option V} {σ : L2.St} : Off [i] σ (σ.set i v) := ⟨by simp, fun j hj => List.getElem?_set_ne (fun e => hj (by simp [e]))⟩
theorem Off.trans {a b : List Nat} {σ σ' σ'' : L2.St} (h : Off a σ σ') (h' : Off b σ' σ'') : Off (a ++ b) σ σ'' :=
  ⟨h'.1.trans h.1, fun i hi => (h'.2 i (fun z => hi (List.mem_append_right _ z))).trans (h.2 i fun z => hi (List.mem_append_left _ z))⟩
theorem wipe_get {σ : L2.St} {i : Nat} : ∀ {vs : List Nat}, (L2.wipe σ vs)[i]? = if i ∈ vs ∧ i < σ.length then some none else σ[i]?
  | [] => by simp [L2.wipe]
  | v :: vs => by
    unfold L2.wipe
    by_cases h : v = i
    · subst h
      by_cases hl : v < σ.length
      · rw [List.getElem?_set_self (by rw [wipe_length]; exact hl), if_pos ⟨List.mem_cons_self, hl⟩]
      · rw [List.getElem?_eq_none (by simp [wipe_length]; omega), if_neg (fun z => hl z.2), List.getElem?_eq_none (by omega)]
    · rw [List.getElem?_set_ne h, wipe_get]
      have : (i ∈ v :: vs) ↔ i ∈ vs := by simp [Ne.symm h]
      simp only [this]
theorem off_wipe {is vs : List Nat} {σ σ' : L2.St} (h : Off is (L2.wipe σ vs) σ') (hs : ∀ i ∈ is, i ∈ vs) : L2.wipe σ' vs = L2.wipe σ vs := by
  have hl : σ'.length = σ.length := by rw [h.1, wipe_length]
  apply List.ext_getElem?
  intro i
  rw [wipe_get, wipe_get, hl]
  by_cases hi : i ∈ vs
  · by_cases hil : i < σ.length
    · rw [if_pos ⟨hi, hil⟩, if_pos ⟨hi, hil⟩]
    · rw [if_neg (fun z => hil z.2), if_neg (fun z => hil z.2), List.getElem?_eq_none (by omega), List.getElem?_eq_none (by omega)]
  · rw [if_neg (fun z => hi z.1), if_neg (fun z => hi z.1), h.2 i (fun z => hi (hs i z)), wipe_get, if_neg (fun z => hi z.1)]
section
variable {X : Cx}
theorem cg_name {i : Nat} {x : Str} {pos : Pos} (hN : X.N.Nodup) (hi : X.N[i]? = some x) (hx : Loc X.env.scope x) (hf : X.fn x = true ∨ X.env.scope.names.lookup x = some .local) : PG X (.Name x pos) (tG X.K (.nm i)) := by
  refine (pg_name hN hi hx hf).weak fun v σ H Q h => ?_
  obtain ⟨S, M, ρ, x, ρ', w, sl, r, hb, q⟩ := h
  cases hb
  exact q _ (sl.set i r) off_set
/-- names of a tuple target, from the left -/
structure NmsOk (X : Cx) (es : List Expr) (is : List Nat) : Prop where
  go : PGs X es (fun vs σ H Q => ∃ S M ρ xs ρ', W X.K S M H ∧ Sl X.K S H ρ σ ∧ RPs X.K S H xs vs ∧ setAll is xs ρ = some ρ' ∧ ∀ σ', Sl X.K S H ρ' σ' → Off is σ σ' → Q σ' H)
  len : ∀ env, (assignEach es env).length = is.length
  star : ∀ env, (assignEach es env).findIdx? (·.1) = none
theorem _root_.L2.PGs.weak {X : Cx} {e : List Expr} {t t' : TGs} (h : PGs X e t) (f : ∀ v σ H Q, t' v σ H Q → t v σ H Q) : PGs X e t' := ⟨fun pins s σ H v u Q I r q => h.run pins s σ H v u Q I r (f v σ H Q q)⟩
theorem nms_nil : NmsOk X [] [] := by
  refine ⟨pgs_nil.weak fun vs σ H Q h => ?_, fun env => rfl, fun env => rfl⟩
  obtain ⟨S, M, ρ, xs, ρ', w, sl, r, hb, q⟩ := h
  cases xs with
  | nil =>
    cases r
    cases hb
    exact ⟨rfl, q σ sl ⟨rfl, fun _ _ => rfl⟩⟩
  | cons a b => cases hb
theorem nms_cons {i : Nat} {is : List Nat} {x : Str} {pos : Pos} {es : List Expr} (h1 : PG X (.Name x pos) (tG X.K (.nm i))) (h2 : NmsOk X es is) : NmsOk X (.Name x pos :: es) (i :: is) := by
  refine ⟨(pgs_cons h1 h2.go rfl).weak fun vs σ H Q h => ?_, fun env => ?_, fun env => ?_⟩
  · obtain ⟨S, M, ρ, xs, ρ', w, sl, r, hb, q⟩ := h
    cases r with
    | nil => cases hb
    | cons a b =>
      refine ⟨_, _, rfl, S, M, ρ, _, _, w, sl, a, rfl, fun σ' sl' off => ?_⟩
      exact ⟨S, M, _, _, ρ', w, sl', b, hb, fun σ'' sl'' off'' => q σ'' sl'' (off.trans off'')⟩
  · show (assignEach es env).length + 1 = _
    rw [h2.len env]; rfl
  · show ((false, assign (.Name x pos) env) :: assignEach es env).findIdx? (·.1) = none
    rw [List.findIdx?_cons]
    simp [h2.star env]
theorem setAll_len : ∀ {is : List Nat} {xs : List PyData} {ρ ρ' : Env}, setAll is xs ρ = some ρ' → xs.length = is.length
  | [], [], _, _, _ => rfl
  | [], _ :: _, _, _, h => by cases h
  | _ :: _, [], _, _, h => by cases h
  | i :: is, x :: xs, ρ, ρ', h => by simp only [setAll] at h; simp [setAll_len h]
theorem cg_tup {es : List Expr} {is : List Nat} {k : Nat} {pos : Pos} (hc : X.calm = true) (h : NmsOk X es is) : PG X (.Tuple es k pos) (tG X.K (.tp is)) := by
  refine ⟨fun pins s σ H v u Q I rv hh => ?_⟩
  obtain ⟨S, M, ρ, x, ρ', w, sl, r, hb, q⟩ := hh
  unfold bindT at hb
  try dsimp only at hb
  split at hb
  · rename_i xs
    cases r with
    | tup h1 h2 => exact (pg_tup hc h.go (h.len _) (h.star _)).run pins s σ H _ u Q I rv ⟨_, _, rfl, h1.sq, by rw [← h2.length]; exact setAll_len hb, S, M, ρ, xs, ρ', w, sl, h2, hb, q⟩
  · rename_i xs
    cases r with
    | lst h1 h0 h2 => exact (pg_unl hc h.go (h.len _) (h.star _)).run pins s σ H _ u Q I rv ⟨_, _, rfl, .inl h1, by rw [← h2.length]; exact setAll_len hb, S, M, ρ, xs, ρ', w, sl, h2, hb, q⟩
  · cases hb
end

/-! ### what is walked -/
/-- jt gives the items xs, whatever happens that is a step from here -/
structure ItR (K : Kf) (S : Sk) (H : Hp) (xs : List PyData) (jt : L2.It) : Prop where
  go : ∀ i S1 H1, i < xs.length → Stp S H S1 H1 → jt.go i H1
  stop : ∀ S1 H1, Stp S H S1 H1 → jt.stop xs.length H1
  yld : ∀ i S1 H1 M1 x H2 y, xs[i]? = some y → Stp S H S1 H1 → W K S1 M1 H1 → jt.yld i H1 x H2 → Stp S1 H1 S1 H2 ∧ W K S1 M1 H2 ∧ RP K S1 H2 y x
def IterOk (K : Kf) (S : Sk) (H : Hp) : It → L2.It → Prop
  | .items xs, jt => ItR K S H xs jt
  | .live j, jt => ∃ a, S.L[j]? = some (some a) ∧ jt = Itl K a
def tI (K : Kf) (ex : Nat → Value) (Wx : WX) (fn : Fn) (c : CI) : TI := fun σ H R => ∃ S M ρ, W K S M H ∧ Sl K S H ρ σ ∧ Aw K ex Wx S H σ (evI fn c ρ M) fun J _ S' H' => ∀ jt, IterOk K S' H' J jt → R jt H'
theorem _root_.L2.PI.weak {X : Cx} {tg e : Expr} {t t' : TI} (h : PI X tg e t) (f : ∀ σ H R, t' σ H R → t σ H R) : PI X tg e t' := ⟨fun pins s σ H R I q => h.run pins s σ H R I (f σ H R q)⟩
section
variable {K : Kf} {S : Sk} {H : Hp}
theorem itr_list {a : Addr} {vs : List V} {xs : List PyData} (h : Rd H a (.lst vs)) (n : S.no a) (r : RPs K S H xs vs) : ItR K S H xs (Itl K a) := by
  have at' : ∀ {S1 H1}, Stp S H S1 H1 → SqL K H1 a vs := fun t => .inl (t.kp.rd h n)
  refine ⟨fun i S1 H1 hi t => ?_, fun S1 H1 t => ⟨vs, at' t, by rw [r.length]; exact Nat.le_refl _⟩, fun i S1 H1 M1 x H2 y hy t w hyl => ?_⟩
  · obtain ⟨u, hu, _⟩ := r.get (List.getElem?_eq_getElem hi)
    exact ⟨vs, u, at' t, hu⟩
  · obtain ⟨rfl, hx⟩ := hyl
    obtain ⟨u, hu, ru⟩ := r.get hy
    have := hx vs (at' t)
    rw [hu] at this
    cases this
    exact ⟨.refl, w, ru.mono t⟩
theorem itr_tup {a : Addr} {vs : List V} {xs : List PyData} (h : SqT' K S H a vs) (r : RPs K S H xs vs) : ItR K S H xs (Itt K a) := by
  have at' : ∀ {S1 H1}, Stp S H S1 H1 → SqT K H1 a vs := fun t => by
    rcases h with ⟨h, n⟩ | h
    · exact .inl (t.kp.rd h n)
    · exact .inr h
  refine ⟨fun i S1 H1 hi t => ?_, fun S1 H1 t => ⟨vs, at' t, by rw [r.length]; exact Nat.le_refl _⟩, fun i S1 H1 M1 x H2 y hy t w hyl => ?_⟩
  · obtain ⟨u, hu, _⟩ := r.get (List.getElem?_eq_getElem hi)
    exact ⟨vs, u, at' t, hu⟩
  · obtain ⟨rfl, hx⟩ := hyl
    obtain ⟨u, hu, ru⟩ := r.get hy
    have := hx vs (at' t)
    rw [hu] at this
    cases this
    exact ⟨.refl, w, ru.mono t⟩
theorem rngP_len (a b : Int) : (rngP a b).length = (b - a).toNat := by unfold rngP; simp
theorem itr_rng {a b : Int} : ItR K S H (rngP a b) (Itr a (b - a).toNat) := by
  refine ⟨fun i S1 H1 hi t => by rw [rngP_len] at hi; exact hi, fun S1 H1 t => by rw [rngP_len]; exact Nat.le_refl _, fun i S1 H1 M1 x H2 y hy t w hyl => ?_⟩
  obtain ⟨rfl, rfl⟩ := hyl
  unfold rngP at hy
  rw [List.getElem?_map] at hy
  by_cases hi : i < (b - a).toNat
  · rw [List.getElem?_range hi] at hy
    cases hy
    exact ⟨.refl, w, .int _⟩
  · rw [List.getElem?_eq_none (by simpa using hi)] at hy
    cases hy
/-- a new pair -/
theorem pair_new {M1 : Mem} {S1 : Sk} {H1 : Hp} {T : Addr} {d1 d2 : PyData} {x y : V} (w : W K S1 M1 H1) (n : H1 T = none) (r1 : RP K S1 H1 d1 x) (r2 : RP K S1 H1 d2 y) :
    Stp S1 H1 S1 (upd H1 T (.tup [x, y])) ∧ W K S1 M1 (upd H1 T (.tup [x, y])) ∧ RP K S1 (upd H1 T (.tup [x, y])) (.tuple [d1, d2]) (.ref T) := by
  have t : Stp S1 H1 S1 (upd H1 T (.tup [x, y])) := .fresh n
  exact ⟨t, w.fresh n, .tup (.inl ⟨.inl upd_same, fun h => w.al T h n, fun h => w.zl T h n⟩) (.cons (r1.mono t) (.cons (r2.mono t) .nil))⟩
theorem enumP_get : ∀ {xs : List PyData} {k i : Nat} {y : PyData}, (enumP k xs)[i]? = some y → ∃ x, xs[i]? = some x ∧ y = .tuple [.int ((k + i : Nat) : Int), x]
  | [], k, i, y, h => by simp [enumP] at h
  | x :: xs, k, 0, y, h => by
    simp only [enumP, List.getElem?_cons_zero, Option.some.injEq] at h
    exact ⟨x, rfl, h.symm⟩
  | x :: xs, k, i + 1, y, h => by
    simp only [enumP, List.getElem?_cons_succ] at h
    obtain ⟨z, h1, h2⟩ := enumP_get h
    exact ⟨z, by simpa using h1, by rw [h2]; congr 3; omega⟩
theorem enumP_len : ∀ (xs : List PyData) (k : Nat), (enumP k xs).length = xs.length
  | [], _ => rfl
  | x :: xs, k => by simp [enumP, enumP_len xs]
theorem itr_enum {a : Addr} {vs : List V} {xs : List PyData} (h : Rd H a (.lst vs)) (n : S.no a) (r : RPs K S H xs vs) : ItR K S H (enumP 0 xs) (Ite K a) := by
  have at' : ∀ {S1 H1}, Stp S H S1 H1 → SqL K H1 a vs := fun t => .inl (t.kp.rd h n)
  have wk := walk_enum (K := K) (a := a) (xs := vs)
  refine ⟨fun i S1 H1 hi t => wk.goes i H1 (by rw [enumP_len, r.length] at hi; exact hi) (at' t), fun S1 H1 t => by rw [enumP_len, r.length]; exact wk.stops H1 (at' t), fun i S1 H1 M1 x H2 y hy t w hyl => ?_⟩
  obtain ⟨d, hd, rfl⟩ := enumP_get hy
  obtain ⟨u, hu, ru⟩ := r.get hd
  have hi : i < vs.length := (List.getElem?_eq_some_iff.mp hu).1
  obtain ⟨T, x1, x2, rfl, nT, rfl, e1, e2⟩ := wk.yields i H1 x H2 hi (at' t) hyl
  cases e1
  have e2 : vs[i]? = some x2 := e2
  rw [hu] at e2
  cases e2
  rw [Nat.zero_add]
  exact pair_new w nT (.int _) (ru.mono t)
theorem itr_enT {a : Addr} {vs : List V} {xs : List PyData} (h : SqT' K S H a vs) (r : RPs K S H xs vs) : ItR K S H (enumP 0 xs) (ItE K a vs) := by
  have at' : ∀ {S1 H1}, Stp S H S1 H1 → SqT K H1 a vs := fun t => by
    rcases h with ⟨h, n⟩ | h
    · exact .inl (t.kp.rd h n)
    · exact .inr h
  refine ⟨fun i S1 H1 hi t => ⟨at' t, by rw [enumP_len, r.length] at hi; exact hi⟩, fun S1 H1 t => ⟨at' t, by rw [enumP_len, r.length]⟩, fun i S1 H1 M1 x H2 y hy t w hyl => ?_⟩
  obtain ⟨d, hd, rfl⟩ := enumP_get hy
  obtain ⟨u, hu, ru⟩ := r.get hd
  obtain ⟨T, x2, rfl, nT, rfl, e2⟩ := hyl
  rw [hu] at e2
  cases e2
  rw [Nat.zero_add]
  exact pair_new w nT (.int _) (ru.mono t)
theorem zipP_get : ∀ {xs ys : List PyData} {i : Nat} {z : PyData}, (zipP xs ys)[i]? = some z → ∃ x y, xs[i]? = some x ∧ ys[i]? = some y ∧ z = .tuple [x, y]
  | [], _, i, z, h => by simp [zipP] at h
  | x :: xs, [], i, z, h => by simp [zipP] at h
  | x :: xs, y :: ys, 0, z, h => by
    simp only [zipP, List.getElem?_cons_zero, Option.some.injEq] at h
    exact ⟨x, y, rfl, rfl, h.symm⟩
  | x :: xs, y :: ys, i + 1, z, h => by
    simp only [zipP, List.getElem?_cons_succ] at h
    obtain ⟨a, b, h1, h2, h3⟩ := zipP_get h
    exact ⟨a, b, by simpa using h1, by simpa using h2, h3⟩
theorem zipP_len : ∀ (xs ys : List PyData), (zipP xs ys).length = min xs.length ys.length
  | [], ys => by simp [zipP]
  | x :: xs, [] => by simp [zipP]
  | x :: xs, y :: ys => by simp only [zipP, List.length_cons, zipP_len xs ys]; omega
theorem itr_zipT {a b : Addr} {vs us : List V} {xs ys : List PyData} (h : SqT' K S H a vs) (r : RPs K S H xs vs) (h' : SqT' K S H b us) (r' : RPs K S H ys us) : ItR K S H (zipP xs ys) (RZ.ItzT K a b) := by
  have one : ∀ {a : Addr} {vs : List V} {S1 H1}, SqT' K S H a vs → Stp S H S1 H1 → SqT K H1 a vs := fun h t => by
    rcases h with ⟨h, n⟩ | h
    · exact .inl (t.kp.rd h n)
    · exact .inr h
  have hlen : (zipP xs ys).length = min vs.length us.length := by rw [zipP_len, r.length, r'.length]
  refine ⟨fun i S1 H1 hi t => ?_, fun S1 H1 t => ?_, fun i S1 H1 M1 x H2 y hy t w hyl => ?_⟩
  · rw [hlen] at hi
    have h1 : i < vs.length := by omega
    have h2 : i < us.length := by omega
    exact ⟨vs, us, vs[i], us[i], one h t, one h' t, by simp [h1], by simp [h2]⟩
  · refine ⟨vs, us, one h t, one h' t, ?_⟩
    rw [hlen]; omega
  · obtain ⟨d, e, hd, he, rfl⟩ := zipP_get hy
    obtain ⟨u, hu, ru⟩ := r.get hd
    obtain ⟨u', hu', ru'⟩ := r'.get he
    obtain ⟨T, x1, x2, rfl, nT, rfl, e1, e2⟩ := hyl
    have e1 := e1 vs (one h t)
    have e2 := e2 us (one h' t)
    rw [hu] at e1
    rw [hu'] at e2
    cases e1
    cases e2
    exact pair_new w nT (ru.mono t) (ru'.mono t)
end
section
variable {X : Cx} {ex : Nat → Value} {Wx : WX} {fn : Fn} {a b e tg : Expr} {ca cb cc : CE} {pos : Pos}
theorem pi_sq {te : TE} (he : PE X e te) : PI X tg e (fun σ H R => te σ H fun x H1 => ∃ a, x = .ref a ∧ (((∃ xs, SqL X.K H1 a xs) ∧ R (Itl X.K a) H1) ∨ ((∃ xs, SqT X.K H1 a xs) ∧ R (Itt X.K a) H1))) := by
  refine ⟨fun pins s σ H R I h => thn (he.run pins s σ H _ I h) fun v s1 ⟨x, H1, I1, r1, a, ea, q⟩ => ?_⟩
  subst ea
  cases r1
  rcases q with ⟨⟨xs, hq⟩, q⟩ | ⟨⟨xs, hq⟩, q⟩
  · obtain ⟨its, _, pl, _⟩ := I1.list hq
    refine wpAny_pyIter_list pl.isList ⟨s1.heap.objs.size, [s1.heap.objs.size], _, _, H1, rfl, I1.kept (t' := s1.toks) fun b o z => Heap.get?_push_of_some _ z, turn_list a _, ⟨_, Heap.get?_push_size _ rfl, rfl, rfl⟩, fun b hb => ?_, q⟩
    obtain rfl : b = s1.heap.objs.size := by simpa using hb
    exact I1.fpOk (Nat.le_refl _) (I1.hok.fresh (Nat.le_refl _))
  · obtain ⟨its, _, pl, _⟩ := I1.tuple hq
    refine wpAny_pyIter_tuple (show s1.heap.IsTuple a its.toArray from pl) ⟨s1.heap.objs.size, [s1.heap.objs.size], _, _, H1, rfl, I1.kept (t' := s1.toks) fun b o z => Heap.get?_push_of_some _ z, turn_tuple a _, ⟨_, Heap.get?_push_size _ rfl, rfl, rfl⟩, fun b hb => ?_, q⟩
    obtain rfl : b = s1.heap.objs.size := by simpa using hb
    exact I1.fpOk (Nat.le_refl _) (I1.hok.fresh (Nat.le_refl _))
theorem ci_seq (he : PE X e (tE X.K ex Wx fn ca)) : PI X tg e (tI X.K ex Wx fn (.seq ca)) := by
  refine (pi_sq he).weak fun σ H R h => ?_
  obtain ⟨S, M, ρ, w, sl, aw⟩ := h
  simp only [evI] at aw
  refine ⟨S, M, ρ, w, sl, aw.bind.imp fun d M1 S1 H1 t1 w1 aw1 v1 r1 => ?_⟩
  split at aw1
  · rename_i J hJ
    have q := aw1.of_ok w1
    unfold seqOf at hJ
    split at hJ
    · rename_i xs
      cases hJ
      cases (show RP X.K S1 H1 (.list xs) v1 from r1) with
      | lst h1 h2 h3 => exact ⟨_, rfl, .inl ⟨⟨_, .inl h1⟩, q _ (itr_list h1 h2 h3)⟩⟩
    · rename_i xs
      cases hJ
      cases (show RP X.K S1 H1 (.tuple xs) v1 from r1) with
      | tup h1 h2 => exact ⟨_, rfl, .inr ⟨⟨_, h1.sq⟩, q _ (itr_tup h1 h2)⟩⟩
    · rename_i i
      split at hJ
      · rename_i xs hm
        cases hJ
        obtain ⟨a, ha⟩ := w1.lvl i xs hm
        obtain ⟨vs, h1, h2⟩ := w1.obl i a xs ha hm
        exact ⟨a, r1.2 a ha, .inl ⟨⟨vs, .inl (.inl h1)⟩, q _ ⟨a, ha, rfl⟩⟩⟩
      · cases hJ
    · cases hJ
  · exact aw1.elim
theorem rngOk_of {j : Int} (h : rngOk j = true) : -(2 ^ 62) ≤ j ∧ j < 2 ^ 62 := by
  unfold rngOk at h
  simp only [Bool.and_eq_true, decide_eq_true_eq] at h
  exact h
theorem ci_rng {p : Pos} (hg : Gl X "range") (hm : X.mg "range" = none) (ha : PE X a (tE X.K ex Wx fn ca)) (hs : NoStar a) : PI X tg (.Call (.Name "range" p) [a] [] pos) (tI X.K ex Wx fn (.rng ca)) := by
  refine (pi_range1 hg hm (pa_cons ha pa_nil (hs _ _)) (hs _ _)).weak fun σ H R h => ?_
  obtain ⟨S, M, ρ, w, sl, aw⟩ := h
  simp only [evI] at aw
  refine ⟨S, M, ρ, w, sl, aw.bind.imp fun d M1 S1 H1 t1 w1 aw1 v1 r1 => ?_⟩
  split at aw1
  · rename_i j
    split at aw1
    · rename_i hj
      obtain ⟨h1, h2⟩ := rngOk_of hj
      have q := itr_rng (K := X.K) (S := S1) (H := H1) (a := 0) (b := j)
      rw [Int.sub_zero] at q
      exact ⟨j, by rw [rp_int r1], h1, h2, aw1.of_ok w1 _ q⟩
    · exact aw1.elim
  · exact aw1.elim
theorem ci_rng2 {p : Pos} (hg : Gl X "range") (hm : X.mg "range" = none) (ha : PE X a (tE X.K ex Wx fn ca)) (hb : PE X b (tE X.K ex Wx fn cb)) (hs : NoStar a) (hs2 : NoStar b) : PI X tg (.Call (.Name "range" p) [a, b] [] pos) (tI X.K ex Wx fn (.rng2 ca cb)) := by
  refine (pi_range2 hg hm (pa_cons ha (pa_cons hb pa_nil (hs2 _ _)) (hs _ _)) (by rw [hs, hs2]; rfl) (by rw [hs2]; rfl)).weak fun σ H R h => ?_
  obtain ⟨S, M, ρ, w, sl, aw⟩ := h
  simp only [evI] at aw
  refine ⟨S, M, ρ, w, sl, aw.bind.imp fun d M1 S1 H1 t1 w1 aw1 v1 r1 => ?_⟩
  refine ⟨S1, M1, ρ, w1, sl.mono t1, aw1.bind.imp fun d2 M2 S2 H2 t2 w2 aw2 v2 r2 => ?_⟩
  split at aw2
  · rename_i i j
    split at aw2
    · rename_i hj
      simp only [Bool.and_eq_true] at hj
      obtain ⟨h1, h2⟩ := rngOk_of hj.1
      obtain ⟨h3, h4⟩ := rngOk_of hj.2
      exact ⟨i, j, by rw [rp_int r1, rp_int r2], ⟨h1, h2, h3, h4⟩, aw2.of_ok w2 _ itr_rng⟩
    · exact aw2.elim
  · exact aw2.elim
theorem ci_enum {p tpos : Pos} {elts : List Expr} {kk : Nat} (hg : Gl X "enumerate") (hm : X.mg "enumerate" = none) (ha : PE X a (tE X.K ex Wx fn ca)) (hs : NoStar a) : PI X (.Tuple elts kk tpos) (.Call (.Name "enumerate" p) [a] [] pos) (tI X.K ex Wx fn (.enum ca)) := by
  refine (pi_enA hg hm (pa_cons ha pa_nil (hs _ _)) (hs _ _)).weak fun σ H R h => ?_
  obtain ⟨S, M, ρ, w, sl, aw⟩ := h
  simp only [evI] at aw
  refine ⟨S, M, ρ, w, sl, aw.bind.imp fun d M1 S1 H1 t1 w1 aw1 v1 r1 => ?_⟩
  split at aw1
  · rename_i xs
    cases (show RP X.K S1 H1 (.list xs) v1 from r1) with
    | lst h1 h2 h3 => exact ⟨_, _, rfl, .inl ⟨.inl h1, aw1.of_ok w1 _ (itr_enum h1 h2 h3)⟩⟩
  · rename_i xs
    cases (show RP X.K S1 H1 (.tuple xs) v1 from r1) with
    | tup h1 h3 => exact ⟨_, _, rfl, .inr ⟨h1.sq, aw1.of_ok w1 _ (itr_enT h1 h3)⟩⟩
  · exact aw1.elim
theorem itr_zipB {K : Kf} {S : Sk} {H : Hp} {t1 t2 : Bool} {a b : Addr} {vs us : List V} {xs ys : List PyData} (h : ∀ {S1 H1}, Stp S H S1 H1 → SqB t1 K H1 a vs) (r : RPs K S H xs vs) (h' : ∀ {S1 H1}, Stp S H S1 H1 → SqB t2 K H1 b us) (r' : RPs K S H ys us) : ItR K S H (zipP xs ys) (ItzB K t1 t2 a b vs us) := by
  have hlen : (zipP xs ys).length = min vs.length us.length := by rw [zipP_len, r.length, r'.length]
  refine ⟨fun i S1 H1 hi t => ?_, fun S1 H1 t => ?_, fun i S1 H1 M1 x H2 y hy t w hyl => ?_⟩
  · rw [hlen] at hi
    exact ⟨h t, h' t, by omega, by omega⟩
  · exact ⟨h t, h' t, hlen⟩
  · obtain ⟨d, e, hd, he, rfl⟩ := zipP_get hy
    obtain ⟨u, hu, ru⟩ := r.get hd
    obtain ⟨u', hu', ru'⟩ := r'.get he
    obtain ⟨T, x1, x2, rfl, nT, rfl, e1, e2⟩ := hyl
    rw [hu] at e1
    rw [hu'] at e2
    cases e1
    cases e2
    exact pair_new w nT (ru.mono t) (ru'.mono t)
theorem sqB_l {K : Kf} {S : Sk} {H : Hp} {a : Addr} {vs : List V} (h : Rd H a (.lst vs)) (n : S.no a) : ∀ {S1 H1}, Stp S H S1 H1 → SqB false K H1 a vs := fun t => .inl (t.kp.rd h n)
theorem sqB_t {K : Kf} {S : Sk} {H : Hp} {a : Addr} {vs : List V} (h : SqT' K S H a vs) : ∀ {S1 H1}, Stp S H S1 H1 → SqB true K H1 a vs := fun t => by
  rcases h with ⟨h, n⟩ | h
  · exact .inl (t.kp.rd h n)
  · exact .inr h
theorem sqB_of {K : Kf} {S : Sk} {H : Hp} {t : Bool} {a : Addr} {vs : List V} (h : ∀ {S1 H1}, Stp S H S1 H1 → SqB t K H1 a vs) : SqB t K H a vs := h .refl
theorem ci_zip {p tpos : Pos} {elts : List Expr} {kk : Nat} (hg : Gl X "zip") (hm : X.mg "zip" = none) (ha : PE X a (tE X.K ex Wx fn ca)) (hb : PE X b (tE X.K ex Wx fn cb)) (hs : NoStar a) (hs2 : NoStar b) : PI X (.Tuple elts kk tpos) (.Call (.Name "zip" p) [a, b] [] pos) (tI X.K ex Wx fn (.zip ca cb)) := by
  refine (pi_zipB hg hm (pa_cons ha (pa_cons hb pa_nil (hs2 _ _)) (hs _ _)) (hs _ _) (by rw [hs2]; rfl)).weak fun σ H R h => ?_
  obtain ⟨S, M, ρ, w, sl, aw⟩ := h
  simp only [evI] at aw
  refine ⟨S, M, ρ, w, sl, aw.bind.imp fun d M1 S1 H1 t1 w1 aw1 v1 r1 => ?_⟩
  refine ⟨S1, M1, ρ, w1, sl.mono t1, aw1.bind.imp fun d2 M2 S2 H2 t2 w2 aw2 v2 r2 => ?_⟩
  have fin : ∀ {b1 b2 : Bool} {a1 a2 : Addr} {vs us : List V} {xs ys : List PyData} (q1 : ∀ {S3 H3}, Stp S2 H2 S3 H3 → SqB b1 X.K H3 a1 vs) (q2 : ∀ {S3 H3}, Stp S2 H2 S3 H3 → SqB b2 X.K H3 a2 us), RPs X.K S2 H2 xs vs → RPs X.K S2 H2 ys us → R (ItzB X.K b1 b2 a1 a2 vs us) H2 → ∃ a b xs ys t1 t2, [V.ref a1, V.ref a2] = [.ref a, .ref b] ∧ SqB t1 X.K H2 a xs ∧ SqB t2 X.K H2 b ys ∧ R (ItzB X.K t1 t2 a b xs ys) H2 :=
    fun q1 q2 _ _ q => ⟨_, _, _, _, _, _, rfl, sqB_of q1, sqB_of q2, q⟩
  split at aw2
  · rename_i xs ys
    cases (show RP X.K S2 H2 (.list xs) v1 from RD.mono (d := .p (.list xs)) t2 r1) with
    | lst h1 h2 h3 =>
      cases (show RP X.K S2 H2 (.list ys) v2 from r2) with
      | lst g1 g2 g3 => exact fin (sqB_l h1 h2) (sqB_l g1 g2) h3 g3 (aw2.of_ok w2 _ (itr_zipB (sqB_l h1 h2) h3 (sqB_l g1 g2) g3))
  · rename_i xs ys
    cases (show RP X.K S2 H2 (.tuple xs) v1 from RD.mono (d := .p (.tuple xs)) t2 r1) with
    | tup h1 h3 =>
      cases (show RP X.K S2 H2 (.tuple ys) v2 from r2) with
      | tup g1 g3 => exact fin (sqB_t h1) (sqB_t g1) h3 g3 (aw2.of_ok w2 _ (itr_zipB (sqB_t h1) h3 (sqB_t g1) g3))
  · rename_i xs ys
    cases (show RP X.K S2 H2 (.list xs) v1 from RD.mono (d := .p (.list xs)) t2 r1) with
    | lst h1 h2 h3 =>
      cases (show RP X.K S2 H2 (.tuple ys) v2 from r2) with
      | tup g1 g3 => exact fin (sqB_l h1 h2) (sqB_t g1) h3 g3 (aw2.of_ok w2 _ (itr_zipB (sqB_l h1 h2) h3 (sqB_t g1) g3))
  · rename_i xs ys
    cases (show RP X.K S2 H2 (.tuple xs) v1 from RD.mono (d := .p (.tuple xs)) t2 r1) with
    | tup h1 h3 =>
      cases (show RP X.K S2 H2 (.list ys) v2 from r2) with
      | lst g1 g2 g3 => exact fin (sqB_t h1) (sqB_l g1 g2) h3 g3 (aw2.of_ok w2 _ (itr_zipB (sqB_t h1) h3 (sqB_l g1 g2) g3))
  · exact aw2.elim
theorem zipP3_get : ∀ {xs ys zs : List PyData} {i : Nat} {z : PyData}, (zipP3 xs ys zs)[i]? = some z → ∃ x y u, xs[i]? = some x ∧ ys[i]? = some y ∧ zs[i]? = some u ∧ z = .tuple [x, y, u]
  | [], _, _, i, z, h => by simp [zipP3] at h
  | x :: xs, [], _, i, z, h => by simp [zipP3] at h
  | x :: xs, y :: ys, [], i, z, h => by simp [zipP3] at h
  | x :: xs, y :: ys, u :: zs, 0, z, h => by
    simp only [zipP3, List.getElem?_cons_zero, Option.some.injEq] at h
    exact ⟨x, y, u, rfl, rfl, rfl, h.symm⟩
  | x :: xs, y :: ys, u :: zs, i + 1, z, h => by
    simp only [zipP3, List.getElem?_cons_succ] at h
    obtain ⟨a, b, c, h1, h2, h3, h4⟩ := zipP3_get h
    exact ⟨a, b, c, by simpa using h1, by simpa using h2, by simpa using h3, h4⟩
theorem zipP3_len : ∀ (xs ys zs : List PyData), (zipP3 xs ys zs).length = min (min xs.length ys.length) zs.length
  | [], ys, zs => by simp [zipP3]
  | x :: xs, [], zs => by simp [zipP3]
  | x :: xs, y :: ys, [] => by simp [zipP3]
  | x :: xs, y :: ys, u :: zs => by simp only [zipP3, List.length_cons, zipP3_len xs ys zs]; omega
theorem tri_new {K : Kf} {M1 : Mem} {S1 : Sk} {H1 : Hp} {T : Addr} {d1 d2 d3 : PyData} {x y z : V} (w : W K S1 M1 H1) (n : H1 T = none) (r1 : RP K S1 H1 d1 x) (r2 : RP K S1 H1 d2 y) (r3 : RP K S1 H1 d3 z) :
    Stp S1 H1 S1 (upd H1 T (.tup [x, y, z])) ∧ W K S1 M1 (upd H1 T (.tup [x, y, z])) ∧ RP K S1 (upd H1 T (.tup [x, y, z])) (.tuple [d1, d2, d3]) (.ref T) := by
  have t : Stp S1 H1 S1 (upd H1 T (.tup [x, y, z])) := .fresh n
  exact ⟨t, w.fresh n, .tup (.inl ⟨.inl upd_same, fun h => w.al T h n, fun h => w.zl T h n⟩) (.cons (r1.mono t) (.cons (r2.mono t) (.cons (r3.mono t) .nil)))⟩
theorem itr_zip3 {K : Kf} {S : Sk} {H : Hp} {t1 t2 t3 : Bool} {a b c : Addr} {vs us ws : List V} {xs ys zs : List PyData} (h : ∀ {S1 H1}, Stp S H S1 H1 → SqB t1 K H1 a vs) (r : RPs K S H xs vs) (h' : ∀ {S1 H1}, Stp S H S1 H1 → SqB t2 K H1 b us) (r' : RPs K S H ys us)
    (h'' : ∀ {S1 H1}, Stp S H S1 H1 → SqB t3 K H1 c ws) (r'' : RPs K S H zs ws) : ItR K S H (zipP3 xs ys zs) (Itz3 K t1 t2 t3 a b c vs us ws) := by
  have hlen : (zipP3 xs ys zs).length = min (min vs.length us.length) ws.length := by rw [zipP3_len, r.length, r'.length, r''.length]
  refine ⟨fun i S1 H1 hi t => ?_, fun S1 H1 t => ?_, fun i S1 H1 M1 x H2 y hy t w hyl => ?_⟩
  · rw [hlen] at hi
    exact ⟨h t, h' t, h'' t, by omega, by omega, by omega⟩
  · exact ⟨h t, h' t, h'' t, hlen⟩
  · obtain ⟨d, e, f, hd, he, hf, rfl⟩ := zipP3_get hy
    obtain ⟨u, hu, ru⟩ := r.get hd
    obtain ⟨u', hu', ru'⟩ := r'.get he
    obtain ⟨u'', hu'', ru''⟩ := r''.get hf
    obtain ⟨T, x1, x2, x3, rfl, nT, rfl, e1, e2, e3⟩ := hyl
    rw [hu] at e1
    rw [hu'] at e2
    rw [hu''] at e3
    cases e1
    cases e2
    cases e3
    exact tri_new w nT (ru.mono t) (ru'.mono t) (ru''.mono t)
theorem sqB_any {K : Kf} {S : Sk} {H : Hp} {d : D} {v : V} {xs : List PyData} (r : RD K S H d v) (h : seqP d = some xs) : ∃ t a vs, v = .ref a ∧ (∀ S1 H1, Stp S H S1 H1 → SqB t K H1 a vs) ∧ RPs K S H xs vs := by
  cases d with
  | scr ns => cases h
  | ref j => cases h
  | p z =>
    cases z <;> first | cases h | skip
    · cases (show RP K S H (.list xs) v from r) with
      | lst h1 h2 h3 => exact ⟨false, _, _, rfl, fun _ _ t => sqB_l h1 h2 t, h3⟩
    · cases (show RP K S H (.tuple xs) v from r) with
      | tup h1 h3 => exact ⟨true, _, _, rfl, fun _ _ t => sqB_t h1 t, h3⟩
theorem ci_zip3 {c : Expr} {cc : CE} {p tpos : Pos} {elts : List Expr} {kk : Nat} (hg : Gl X "zip") (hm : X.mg "zip" = none) (ha : PE X a (tE X.K ex Wx fn ca)) (hb : PE X b (tE X.K ex Wx fn cb)) (hc : PE X c (tE X.K ex Wx fn cc)) (hs : NoStar a) (hs2 : NoStar b) (hs3 : NoStar c) : PI X (.Tuple elts kk tpos) (.Call (.Name "zip" p) [a, b, c] [] pos) (tI X.K ex Wx fn (.zip3 ca cb cc)) := by
  refine (pi_zip3 hg hm (pa_cons ha (pa_cons hb (pa_cons hc pa_nil (hs3 _ _)) (hs2 _ _)) (hs _ _)) (hs _ _) (by rw [hs2, hs3]; rfl)).weak fun σ H R h => ?_
  obtain ⟨S, M, ρ, w, sl, aw⟩ := h
  simp only [evI] at aw
  refine ⟨S, M, ρ, w, sl, aw.bind.imp fun d M1 S1 H1 t1 w1 aw1 v1 r1 => ?_⟩
  refine ⟨S1, M1, ρ, w1, sl.mono t1, aw1.bind.imp fun d2 M2 S2 H2 t2 w2 aw2 v2 r2 => ?_⟩
  refine ⟨S2, M2, ρ, w2, (sl.mono t1).mono t2, aw2.bind.imp fun d3 M3 S3 H3 t3 w3 aw3 v3 r3 => ?_⟩
  split at aw3
  · rename_i xs ys zs hx hy hz
    obtain ⟨b1, a1, vs, rfl, q1, p1⟩ := sqB_any ((r1.mono t2).mono t3) hx
    obtain ⟨b2, a2, us, rfl, q2, p2⟩ := sqB_any (r2.mono t3) hy
    obtain ⟨b3, a3, ws, rfl, q3, p3⟩ := sqB_any r3 hz
    exact ⟨a1, a2, a3, vs, us, ws, b1, b2, b3, rfl, q1 _ _ .refl, q2 _ _ .refl, q3 _ _ .refl, aw3.of_ok w3 _ (itr_zip3 (fun t => q1 _ _ t) p1 (fun t => q2 _ _ t) p2 (fun t => q3 _ _ t) p3)⟩
  · exact aw3.elim
/-! ### comprehensions -/
/-- the tests of a comprehension -/
def tC1 (K : Kf) (ex : Nat → Value) (Wx : WX) (fn : Fn) (c : CEo) : TT := fun σ H Q => ∃ S M ρ, W K S M H ∧ Sl K S H ρ σ ∧ Aw K ex Wx S H σ (evC fn c ρ M) fun b M' S' H' => Q b H'
theorem _root_.L2.PTs.weak {X : Cx} {e : List Expr} {t t' : TT} (h : PTs X e t) (f : ∀ σ H Q, t' σ H Q → t σ H Q) : PTs X e t' := ⟨fun pins s σ H Q I q => h.run pins s σ H Q I (f σ H Q q)⟩
theorem cc_nil : PTs X [] (tC1 X.K ex Wx fn .no) := by
  refine pts_nil.weak fun σ H Q h => ?_
  obtain ⟨S, M, ρ, w, sl, aw⟩ := h
  simp only [evC] at aw
  exact aw.of_ok w
theorem cc_one (ha : PT X a (tT X.K ex Wx fn ca)) : PTs X [a] (tC1 X.K ex Wx fn (.yes ca)) := by
  refine (pts_one ha).weak fun σ H Q h => ?_
  obtain ⟨S, M, ρ, w, sl, aw⟩ := h
  simp only [evC] at aw
  refine ⟨S, M, ρ, w, sl, aw.bind.imp fun d M1 S1 H1 t1 w1 aw1 => ?_⟩
  obtain ⟨b, hb, q⟩ := toB_ok aw1 w1
  exact ⟨b, hb, q⟩
theorem kp_upd {S : Sk} {H : Hp} {p : Addr} {o : HO} (h : p ∈ S.Z) : Kp S H S (upd H p o) := ⟨fun _ _ n => n, fun a u e _ n => by rw [upd_ne (fun z : a = p => n.2 (by rw [z]; exact h))]; exact e⟩
theorem W.zupdN {K : Kf} {S : Sk} {M : Mem} {H : Hp} (w : W K S M H) {p : Addr} {o : HO} (h : p ∈ S.Z) (tb : LamX.Tabs (tabT K) (upd H p o)) : W K S M (upd H p o) := by
  have lv : ∀ a, H a ≠ none → upd H p o a ≠ none := fun a ha => by
    by_cases e : a = p
    · subst e; rw [upd_same]; exact Option.some_ne_none _
    · rw [upd_ne e]; exact ha
  refine ⟨w.len, w.nd, fun i a xs h1 h2 => ?_, fun a ha => lv a (w.al a ha), fun a ha => lv a (w.zl a ha), w.dj, w.lv, tb⟩
  exact (w.ob i a xs h1 h2).gen (kp_upd h) (fun _ _ _ e => e) fun o _ q1 => by
    rw [upd_ne (fun e => w.dj p h (by rw [← e]; exact L_mem h1))]
    exact q1
theorem W.zupd {K : Kf} {S : Sk} {M : Mem} {H : Hp} (w : W K S M H) {p : Addr} {o : HO} (h : p ∈ S.Z) {xs : List V} (e : H p = some (.lst xs)) : W K S M (upd H p o) := w.zupdN h (tabs_lst w.tb e)
theorem Stp.zupd {S S' : Sk} {H H' : Hp} (t : Stp S H S' H') {p : Addr} {o : HO} (n : H p = none) : Stp S H S' (upd H' p o) :=
  ⟨t.len, t.old, t.new, t.z, fun a u h nt nl => by rw [upd_ne (ne_of_none h n)]; exact t.keep a u h nt nl, fun a h => by
    by_cases e : a = p
    · subst e; exact n
    · rw [upd_ne e] at h; exact t.live a h⟩
def rmv (H : Hp) (p : Addr) : Hp := fun a => if a = p then none else H a
theorem rmv_same {H : Hp} {p : Addr} : rmv H p p = none := by unfold rmv; rw [if_pos rfl]
theorem rmv_ne {H : Hp} {p a : Addr} (h : a ≠ p) : rmv H p a = H a := by unfold rmv; rw [if_neg h]
theorem upd_rmv {H : Hp} {p : Addr} {o : HO} (h : H p = some o) : upd (rmv H p) p o = H := by
  funext a
  by_cases e : a = p
  · subst e; rw [upd_same, h]
  · rw [upd_ne e, rmv_ne e]
theorem kp_rmv {S : Sk} {H : Hp} {p : Addr} {Z0 : List Addr} (h : p ∈ S.Z) (hz : ∀ a ∈ Z0, a ∈ S.Z) : Kp S H ⟨S.L, Z0⟩ (rmv H p) :=
  ⟨fun a _ n => ⟨n.1, fun z => n.2 (hz a z)⟩, fun a o e _ n => by rw [rmv_ne (fun z : a = p => n.2 (by rw [z]; exact h))]; exact e⟩
theorem tabs_rmv {T : List (Addr × Str)} {H : Hp} {p : Addr} {xs : List V} (t : LamX.Tabs T H) (h : H p = some (.lst xs)) : LamX.Tabs T (rmv H p) := fun z hz => by
  obtain ⟨ps, e1, e2, e3⟩ := t z hz
  refine ⟨ps, by rw [rmv_ne (fun e => by rw [← e, e1] at h; cases h)]; exact e1, e2, fun pos cv hc => ?_⟩
  obtain ⟨c, c1, c2⟩ := e3 pos cv hc
  exact ⟨c, c1, by rw [rmv_ne (fun e => by rw [← e, c2] at h; unfold LamX.CodeO at h; cases h)]; exact c2⟩
theorem W.rmv {K : Kf} {S : Sk} {M : Mem} {H : Hp} (w : W K S M H) {p : Addr} {Z0 : List Addr} (h : p ∈ S.Z) (hz : ∀ a ∈ Z0, a ∈ S.Z) (n : p ∉ Z0) {xs : List V} (hp : H p = some (.lst xs)) : W K ⟨S.L, Z0⟩ M (rmv H p) := by
  have nl : ∀ a, some a ∈ S.L → a ≠ p := fun a ha e => w.dj p h (by rw [← e]; exact ha)
  refine ⟨w.len, w.nd, fun i a xs h1 h2 => ?_, fun a ha => by rw [rmv_ne (nl a ha)]; exact w.al a ha, fun a ha => by rw [rmv_ne (fun e => n (by rw [← e]; exact ha))]; exact w.zl a (hz a ha), fun a ha => w.dj a (hz a ha), w.lv, tabs_rmv w.tb hp⟩
  exact (w.ob i a xs h1 h2).gen (kp_rmv h hz) (fun _ _ _ e => e) fun o _ q1 => by rw [rmv_ne (nl a (L_mem h1))]; exact q1
theorem Stp.rmv {S0 S : Sk} {H0 H : Hp} (t : Stp S0 H0 S H) {p : Addr} (n0 : H0 p = none) : Stp S0 H0 ⟨S.L, S0.Z⟩ (rmv H p) :=
  ⟨t.len, t.old, t.new, ⟨fun _ h => h, fun _ h => .inl h⟩, fun a o h nt nl => by rw [rmv_ne (ne_of_none h n0)]; exact t.keep a o h nt nl, fun a h => by
    by_cases e : a = p
    · subst e; exact n0
    · rw [rmv_ne e] at h; exact t.live a h⟩
abbrev W0 : WX := fun _ _ _ _ => False
theorem ce_comp {mt : Bool} {ws : List Nat} {t : Tg} {ci : CI} {cc : CEo} {ce : CE} {elt tg iter : Expr} {ifs : List Expr} {scope : Scope} {own : List (Str × Nat)} (hc : X.calm = true) (hN : X.N.Nodup) (hi : PI X tg iter (tI X.K ex Wx fn ci)) (ok : BlkOk X.N X.env.scope scope own)
    (hws : ws = own.map (·.2)) (hts : ∀ i ∈ tgSlots t, i ∈ ws)
    (hg : ∀ (s : Shared) (H : Hp) (C : Addr) (cl : List (Str × Addr)) (fp : List Addr), PG (X.blk s H scope (compEnvC scope cl C X.env) fp) tg (tG X.K t))
    (ht : ∀ (s : Shared) (H : Hp) (C : Addr) (cl : List (Str × Addr)) (fp : List Addr), PTs (X.blk s H scope (compEnvC scope cl C X.env) fp) ifs (tC1 X.K ex W0 fn cc))
    (he : ∀ (s : Shared) (H : Hp) (C : Addr) (cl : List (Str × Addr)) (fp : List Addr), PE (X.blk s H scope (compEnvC scope cl C X.env) fp) elt (tE X.K ex W0 fn ce)) {σ : L2.St} {H : Hp} {Q : VK}
    (h : tE X.K ex Wx fn (.comp mt ws t ci cc ce) σ H Q) : tLc (tI X.K ex Wx fn ci) (tG X.K t) (tC1 X.K ex W0 fn cc) (tE X.K ex W0 fn ce) (own.map (·.2)) σ H Q := by
  obtain ⟨S, M, ρ, w, sl, aw⟩ := h
  simp only [evE] at aw
  refine ⟨S, M, ρ, w, sl, aw.bind.imp fun J M1 S1 H1 t1 w1 aw1 jt hj => ?_⟩
  subst hws
  intro D nD
  cases J with
  | live j => exact aw1.elim
  | items xs =>
    have aw1 := aw1.bind
    -- the loop gives a list
    generalize hf : (fun x M => match bindT t x (wipeE ρ (own.map (·.2))) with
        | some ρ' => (evC fn cc ρ' M).bind fun k M => if k = true then (evE fn ce ρ' M).bind fun d M => match frzP d M with
            | some (y, M) => Res.ok (some y) M
            | none => Res.bad
          else Res.ok none M
        | none => Res.bad) = f at aw1
    have nex : ∀ (xs acc : List PyData) (M : Mem) (c : Nat) (M' : Mem), compLoop f xs acc M ≠ .exc c M' := by
      intro xs
      induction xs with
      | nil => intro acc M c M' z; cases z
      | cons x xs ih =>
        intro acc M c M' z
        unfold compLoop at z
        split at z
        · split at z
          · exact ih _ _ _ _ z
          · cases z
        · exact ih _ _ _ _ z
        · cases z
    obtain ⟨ys, M2, hloop, fin⟩ := aw1.ok (nex xs [] M1)
    let Pv : Nat → Hp → Prop := fun i H' => ∃ S' M' acc av, D ∈ S'.Z ∧ Stp S1 H1 S' H' ∧ W X.K S' M' H' ∧ H' D = some (.lst av) ∧ RPs X.K S' H' acc av ∧ compLoop f (xs.drop i) acc M' = .ok ys M2
    refine ⟨fun i m H' => m = xs.length - i ∧ i ≤ xs.length ∧ Pv i H', ⟨xs.length, by simp, Nat.zero_le _, ?_⟩, ?_⟩
    · have st : Stp S1 H1 S1 (upd H1 D (.lst [])) := .fresh nD
      refine ⟨⟨S1.L, D :: S1.Z⟩, M1, [], [], List.mem_cons_self, ⟨st.len, st.old, st.new, ⟨fun a h => List.mem_cons_of_mem _ h, fun a h => ?_⟩, st.keep, st.live⟩, ?_, upd_same, .nil, hloop⟩
      · rcases List.mem_cons.mp h with e | e
        · exact .inr (e ▸ nD)
        · exact .inl e
      · have w2 := w1.fresh (p := D) (o := .lst []) nD
        have nl : some D ∉ S1.L := fun h => w1.al D h nD
        refine ⟨w2.len, w2.nd, fun i a zs h1 h2 => ?_, w2.al, fun a h => ?_, fun a h => ?_, w2.lv, w2.tb⟩
        · have kk : Kp S1 H1 ⟨S1.L, D :: S1.Z⟩ (upd H1 D (.lst [])) := ⟨fun b hb n => ⟨n.1, fun z => by
            rcases List.mem_cons.mp z with e | e
            · subst e; exact hb nD
            · exact n.2 e⟩, fun b o e _ n => by rw [upd_ne (ne_of_none e nD)]; exact e⟩
          exact (w1.ob i a zs h1 h2).gen kk (fun _ _ _ e => e) fun o _ q1 => by rw [upd_ne (ne_of_none q1 nD)]; exact q1
        · rcases List.mem_cons.mp h with e | e
          · subst e; rw [upd_same]; exact Option.some_ne_none _
          · exact w2.zl a e
        · rcases List.mem_cons.mp h with e | e
          · subst e; exact nl
          · exact w1.dj a e
    · rintro i m H' ⟨rfl, hle, S', M', acc, av, hD, st, wS, hav, ra, hl⟩
      by_cases hlt : i < xs.length
      · refine .inr ⟨hj.go i S' H' hlt st, fun H'' => Pv (i + 1) H'', fun H'' p => ⟨xs.length - (i + 1), by omega, rfl, hlt, p⟩, fun x H2 hy => ?_⟩
        have hx : xs[i]? = some xs[i] := List.getElem?_eq_getElem hlt
        obtain ⟨s2, w2, rx⟩ := hj.yld i S' H' M' x H2 xs[i] hx st wS hy
        have hdrop : xs.drop i = xs[i] :: xs.drop (i + 1) := List.drop_eq_getElem_cons hlt
        rw [hdrop] at hl
        unfold compLoop at hl
        -- the target
        have stA := st.trans s2
        have slA : Sl X.K S' H2 (wipeE ρ (own.map (·.2))) (L2.wipe σ (own.map (·.2))) := ((sl.mono t1).mono stA).wipe _
        cases hbd : bindT t xs[i] (wipeE ρ (own.map (·.2))) with
        | none =>
          have : f xs[i] M' = .bad := by rw [← hf]; simp only [hbd]
          rw [this] at hl
          cases hl
        | some ρ' =>
          have hfx : f xs[i] M' = (evC fn cc ρ' M').bind fun k M => if k = true then (evE fn ce ρ' M).bind fun d M => match frzP d M with
              | some (y, M) => Res.ok (some y) M
              | none => Res.bad
            else Res.ok none M := by rw [← hf]; simp only [hbd]
          rw [hfx] at hl
          have hD2 : H2 D = some (.lst av) := s2.keep D _ hav (fun _ z => by cases z) (wS.dj D hD)
          refine ⟨S', M', _, xs[i], ρ', w2, slA, rx, hbd, fun σ2 sl2 off => ⟨off_wipe off hts, S', M', ρ', w2, sl2, ?_⟩⟩
          cases hcv : evC fn cc ρ' M' with
          | bad => rw [hcv] at hl; cases hl
          | exc c M3 => rw [hcv] at hl; cases hl
          | ok k M3 =>
            rw [hcv] at hl
            intro S3 H3 t3 w3
            cases k with
            | false =>
              refine iteF ⟨S3, M3, acc, av, t3.z.1 D hD, stA.trans t3, w3, t3.keep D _ hD2 (fun _ z => by cases z) (w2.dj D hD), (ra.mono s2).mono t3, hl⟩
            | true =>
              refine iteT ⟨S3, M3, ρ', w3, sl2.mono t3, ?_⟩
              have hl : (match ((evE fn ce ρ' M3).bind fun d M => match frzP d M with
                  | some (y, M) => Res.ok (some y) M
                  | none => Res.bad) with
                | .ok (some y) M => if acc.length < 16777216 then compLoop f (xs.drop (i + 1)) (acc ++ [y]) M else .bad
                | .ok none M => compLoop f (xs.drop (i + 1)) acc M
                | _ => .bad) = Res.ok ys M2 := hl
              cases hev : evE fn ce ρ' M3 with
              | bad => rw [hev] at hl; cases hl
              | exc c M4 => rw [hev] at hl; cases hl
              | ok d M4 =>
                rw [hev] at hl
                intro S4 H4 t4 w4 y ry
                simp only [Res.bind] at hl
                cases hfz : frzP d M4 with
                | none => rw [hfz] at hl; cases hl
                | some yM =>
                  obtain ⟨yd, M5⟩ := yM
                  rw [hfz] at hl
                  try dsimp only at hl
                  split at hl
                  · rename_i hz
                    obtain ⟨S5, w5, t5, r5⟩ := frzP_ok w4 ry hfz
                    have tA := t3.trans (t4.trans t5)
                    have hD4 : H4 D = some (.lst av) := tA.keep D _ hD2 (fun _ z => by cases z) (w2.dj D hD)
                    have hD5 : D ∈ S5.Z := tA.z.1 D hD
                    have ra5 : RPs X.K S5 H4 acc av := (ra.mono s2).mono tA
                    have hlen := ra5.length
                    refine ⟨av, hD4, by rw [← hlen]; exact sz_lt hz, S5, M5, acc ++ [yd], av ++ [y], hD5, (stA.trans tA).zupd nD, w5.zupd hD5 hD4, upd_same, (ra5.app (.cons r5 .nil)).kp (kp_upd hD5), hl⟩
                  · cases hl
      · have hi' : i = xs.length := by omega
        subst hi'
        refine .inl ⟨hj.stop S' H' st, ?_⟩
        rw [List.drop_length] at hl
        unfold compLoop at hl
        obtain ⟨e1, e2⟩ : acc = ys ∧ M' = M2 := by simpa using hl
        rw [e1] at ra
        rw [e2] at wS
        have nZ : D ∉ S1.Z := fun h => w1.zl D h nD
        have wr := wS.rmv hD st.z.1 nZ hav
        have fin : Aw X.K ex Wx ⟨S'.L, S1.Z⟩ (Mi.rmv H' D) σ (alloc mt ys M2) fun d _ S' H' => ∀ v, RD X.K S' H' d v → Q v H' := fin _ _ (st.rmv nD) wr
        obtain ⟨d, M3, ha, af⟩ := fin.ok alloc_ne
        have q := Aft.new (Q := Q) wr ha (ra.kp (kp_rmv hD st.z.1)) (fun S' H' v t w r => af S' H' t w v r) (p := D) rmv_same
        rw [upd_rmv hav] at q
        exact q
end
end Mi

set_option Elab.async false
set_option linter.all false
set_option maxRecDepth 100000
set_option maxHeartbeats 1000000
/-! Mi: statements. -/
namespace Mi
open PySem PySem.Spec PyProof.Rows L2
def FlP (K : Kf) (ex : Nat → Value) (Wx : WX) (D : Ends) (fl : Fl) (S : Sk) (H : Hp) : Prop := match fl with
  | .nx ρ => ∀ σ, Sl K S H ρ σ → D.nx σ H
  | .rt d => ∀ v, RD K S H d v → D.rt v H
  | .bk ρ => ∀ σ, Sl K S H ρ σ → D.bk σ H
  | .ct ρ => ∀ σ, Sl K S H ρ σ → D.ct σ H
  | .ex c ρ => ∀ σ, Sl K S H ρ σ → Wx (ex c) none σ H
def AwF (K : Kf) (ex : Nat → Value) (Wx : WX) (S : Sk) (H : Hp) (r : Res Fl) (D : Ends) : Prop := match r with
  | .ok fl M => ∀ S' H', Stp S H S' H' → W K S' M H' → FlP K ex Wx D fl S' H'
  | .exc _ _ => False
  | .bad => False
def tS (K : Kf) (ex : Nat → Value) (Wx : WX) (fn : Fn) (fuel : Nat) (c : CS) : TS := fun D σ H => ∃ S M ρ, W K S M H ∧ Sl K S H ρ σ ∧ AwF K ex Wx S H (evS fn fuel c ρ M) D
def tSs (K : Kf) (ex : Nat → Value) (Wx : WX) (fn : Fn) (fuel : Nat) (c : CSs) : TS := fun D σ H => ∃ S M ρ, W K S M H ∧ Sl K S H ρ σ ∧ AwF K ex Wx S H (evSs fn fuel c ρ M) D
theorem _root_.L2.PS.weak {X : Cx} {e : Stmt} {t t' : TS} (h : PS X e t) (f : ∀ D σ H, t' D σ H → t D σ H) : PS X e t' := ⟨fun pins s σ H D I q => h.run pins s σ H D I (f D σ H q)⟩
theorem _root_.L2.PSs.weak {X : Cx} {e : List Stmt} {t t' : TS} (h : PSs X e t) (f : ∀ D σ H, t' D σ H → t D σ H) : PSs X e t' := ⟨fun pins s σ H D I q => h.run pins s σ H D I (f D σ H q)⟩
section
variable {α : Type} {K : Kf} {ex : Nat → Value} {Wx : WX} {S : Sk} {H : Hp} {σ : L2.St} {ρ : Env} {D : Ends}
theorem AwF.mono {r : Res Fl} (h : AwF K ex Wx S H r D) {S1 : Sk} {H1 : Hp} (t : Stp S H S1 H1) : AwF K ex Wx S1 H1 r D := by
  cases r with
  | ok fl M => exact fun S' H' t' w => h S' H' (t.trans t') w
  | exc c M => exact h
  | bad => exact h
theorem AwF.of_ok {fl : Fl} {M : Mem} (h : AwF K ex Wx S H (.ok fl M) D) (w : W K S M H) : FlP K ex Wx D fl S H := h S H .refl w
theorem AwF.onto {r : Res α} {f : α → Mem → Res Fl} (sl : Sl K S H ρ σ) (h : AwF K ex Wx S H (r.onto f (evX ρ)) D) : Aw K ex Wx S H σ r fun a M S1 H1 => AwF K ex Wx S1 H1 (f a M) D := by
  cases r with
  | ok a M =>
    intro S1 H1 t1 w1
    have h' : AwF K ex Wx S H (f a M) D := h
    exact h'.mono t1
  | exc c M => exact fun S' H' t w => h S' H' t w σ (sl.mono t)
  | bad => exact h
end
section
variable {X : Cx} {ex : Nat → Value} {Wx : WX} {fn : Fn} {fuel : Nat} {a b e tg : Expr} {ca cb cc : CE} {cs : CEs} {pos : Pos}
theorem cs_pass : PS X (.Pass pos) (tS X.K ex Wx fn fuel .pass) := ps_pass.weak fun D σ H ⟨S, M, ρ, w, sl, aw⟩ => by simp only [evS] at aw; exact aw.of_ok w σ sl
theorem cs_brk : PS X (.Break pos) (tS X.K ex Wx fn fuel .brk) := ps_break.weak fun D σ H ⟨S, M, ρ, w, sl, aw⟩ => by simp only [evS] at aw; exact aw.of_ok w σ sl
theorem cs_cont : PS X (.Continue pos) (tS X.K ex Wx fn fuel .cont) := ps_continue.weak fun D σ H ⟨S, M, ρ, w, sl, aw⟩ => by simp only [evS] at aw; exact aw.of_ok w σ sl
theorem cs_rais {c : Nat} {C : Addr} {e : Expr} (hc : X.calm = true) (tk : Takes X Wx) (he : PMk X e fun _ H Q => Q (.ref C) none H) (hx : ex c = .ref C) : PS X (.Raise (some e) none pos) (tS X.K ex Wx fn fuel (.rais c)) :=
  (ps_raise hc tk he).weak fun D σ H ⟨S, M, ρ, w, sl, aw⟩ => by simp only [evS] at aw; have q := aw.of_ok w σ sl; rw [hx] at q; exact q
theorem cs_never {st : Stmt} : PS X st (tS X.K ex Wx fn fuel .never) := ps_never.weak fun D σ H ⟨S, M, ρ, w, sl, aw⟩ => by simp only [evS] at aw; exact aw
theorem cs_retN : PS X (.Return none pos) (tS X.K ex Wx fn fuel .retN) := ps_retN.weak fun D σ H ⟨S, M, ρ, w, sl, aw⟩ => by simp only [evS] at aw; exact aw.of_ok w _ .non
theorem cs_expr (he : PE X e (tE X.K ex Wx fn ca)) (hs : swapsWith e none pos.line X.env = pure false) : PS X (.Expr e pos) (tS X.K ex Wx fn fuel (.expr ca)) := by
  refine (ps_expr he hs).weak fun D σ H ⟨S, M, ρ, w, sl, aw⟩ => ?_
  simp only [evS] at aw
  exact ⟨S, M, ρ, w, sl, (aw.onto sl).imp fun d M1 S1 H1 t1 w1 q v r => q.of_ok w1 σ (sl.mono t1)⟩
theorem cs_ret (he : PE X e (tE X.K ex Wx fn ca)) : PS X (.Return (some e) pos) (tS X.K ex Wx fn fuel (.ret ca)) := by
  refine (ps_ret he).weak fun D σ H ⟨S, M, ρ, w, sl, aw⟩ => ?_
  simp only [evS] at aw
  exact ⟨S, M, ρ, w, sl, (aw.onto sl).imp fun d M1 S1 H1 t1 w1 q v r => q.of_ok w1 v r⟩
theorem cs_if {c : Expr} {p q : List Stmt} {cp cq : CSs} (hc : PT X c (tT X.K ex Wx fn cc)) (hp : PSs X p (tSs X.K ex Wx fn fuel cp)) (hq : PSs X q (tSs X.K ex Wx fn fuel cq)) : PS X (.If c p q pos) (tS X.K ex Wx fn fuel (.ife cc cp cq)) := by
  refine (ps_if hc hp hq).weak fun D σ H ⟨S, M, ρ, w, sl, aw⟩ => ?_
  simp only [evS] at aw
  refine ⟨S, M, ρ, w, sl, (aw.onto sl).imp fun d M1 S1 H1 t1 w1 q => ?_⟩
  obtain ⟨k, hk, q'⟩ := toB_ok (AwF.onto (sl.mono t1) q) w1
  refine ⟨k, hk, ?_⟩
  cases k with
  | true => exact iteT ⟨S1, M1, ρ, w1, sl.mono t1, q'⟩
  | false => exact iteF ⟨S1, M1, ρ, w1, sl.mono t1, q'⟩
theorem css_nil : PSs X [] (tSs X.K ex Wx fn fuel .nil) := pss_nil.weak fun D σ H ⟨S, M, ρ, w, sl, aw⟩ => by simp only [evSs] at aw; exact aw.of_ok w σ sl
theorem css_cons {st : Stmt} {rest : List Stmt} {c : CS} {cs : CSs} (h1 : PS X st (tS X.K ex Wx fn fuel c)) (h2 : PSs X rest (tSs X.K ex Wx fn fuel cs)) : PSs X (st :: rest) (tSs X.K ex Wx fn fuel (.cons c cs)) := by
  refine (pss_cons h1 h2).weak fun D σ H ⟨S, M, ρ, w, sl, aw⟩ => ?_
  simp only [evSs] at aw
  refine ⟨S, M, ρ, w, sl, ?_⟩
  cases e : evS fn fuel c ρ M with
  | bad => rw [e] at aw; exact aw
  | exc c M => rw [e] at aw; exact aw
  | ok fl M1 =>
    rw [e] at aw
    intro S1 H1 t1 w1
    cases fl with
    | nx ρ1 => exact fun σ1 sl1 => ⟨S1, M1, ρ1, w1, sl1, AwF.mono aw t1⟩
    | rt d => exact aw S1 H1 t1 w1
    | bk d => exact aw S1 H1 t1 w1
    | ct d => exact aw S1 H1 t1 w1
    | ex c d => exact aw S1 H1 t1 w1
/-! ### assignments -/
theorem cs_set {i : Nat} {x : Str} {pos' : Pos} (hN : X.N.Nodup) (hi : X.N[i]? = some x) (hx : Loc X.env.scope x) (he : PE X e (tE X.K ex Wx fn ca)) (hs : swapsWith e (some (.Name x pos')) pos.line X.env = pure false) (hf : X.fn x = true ∨ X.env.scope.names.lookup x = some .local) :
    PS X (.Assign [.Name x pos'] e pos) (tS X.K ex Wx fn fuel (.asg (.nm i) ca)) := by
  refine (ps_set hN hi hx he hs hf).weak fun D σ H ⟨S, M, ρ, w, sl, aw⟩ => ?_
  simp only [evS] at aw
  exact ⟨S, M, ρ, w, sl, (aw.onto sl).imp fun d M1 S1 H1 t1 w1 q v r => q.of_ok w1 _ ((sl.mono t1).set i r)⟩
theorem cs_asgT {is : List Nat} {es : List Expr} {k : Nat} {tpos : Pos} (hc : X.calm = true) (h : NmsOk X es is) (he : PE X e (tE X.K ex Wx fn ca)) (hs : swapsWith e (some (.Tuple es k tpos)) pos.line X.env = pure false) (hw : swappedStores [.Tuple es k tpos] e X.env = pure none) :
    PS X (.Assign [.Tuple es k tpos] e pos) (tS X.K ex Wx fn fuel (.asg (.tp is) ca)) := by
  refine (ps_asg he (cg_tup hc h) hs hw rfl).weak fun D σ H ⟨S, M, ρ, w, sl, aw⟩ => ?_
  simp only [evS] at aw
  refine ⟨S, M, ρ, w, sl, (aw.onto sl).imp fun d M1 S1 H1 t1 w1 q v r => ?_⟩
  unfold asgT at q
  try dsimp only at q
  split at q
  · rename_i xs
    split at q
    · rename_i ρ' hb
      exact ⟨S1, M1, ρ, .tuple xs, ρ', w1, sl.mono t1, r, hb, fun σ' sl' _ => q.of_ok w1 σ' sl'⟩
    · exact q.elim
  · rename_i xs
    split at q
    · rename_i ρ' hb
      exact ⟨S1, M1, ρ, .list xs, ρ', w1, sl.mono t1, r, hb, fun σ' sl' _ => q.of_ok w1 σ' sl'⟩
    · exact q.elim
  · exact q.elim
/-- several names from as many values -/
theorem setDs_ok {K : Kf} {S : Sk} {H : Hp} : ∀ {is : List Nat} {ds : List D} {vs : List V} {ρ ρ' : Env} {σ : L2.St}, Sl K S H ρ σ → RDs K S H ds vs → setDs is ds ρ = some ρ' → ∃ σ', Sl K S H ρ' σ' ∧ is.length = vs.length ∧ σ' = (is.zip vs).foldl (fun s p => s.set p.1 (some p.2)) σ
  | [], _, _, ρ, ρ', σ, sl, .nil, e => by cases e; exact ⟨σ, sl, rfl, rfl⟩
  | i :: is, _, _, ρ, ρ', σ, sl, .cons a b, e => by
    simp only [setDs] at e
    obtain ⟨σ', h1, h2, h3⟩ := setDs_ok (sl.set i a) b e
    exact ⟨σ', h1, by simp [h2], by rw [h3]; rfl⟩
  | [], _, _, ρ, ρ', σ, sl, .cons a b, e => by cases e
  | i :: is, _, _, ρ, ρ', σ, sl, .nil, e => by cases e
theorem cs_par2 {i j : Nat} {x y : Str} {px py pt : Pos} {kt k2 : Nat} {pt2 : Pos} (hc : X.calm = true) (hN : X.N.Nodup) (hi : X.N[i]? = some x) (hj : X.N[j]? = some y) (hij : i ≠ j) (hx : X.env.scope.names.lookup x = some .local) (hy : X.env.scope.names.lookup y = some .local) (ha : PA X [a, b] (tEs X.K ex Wx fn cs))
    (hw : swappedStores [.Tuple [.Name x px, .Name y py] kt pt] (.Tuple [a, b] k2 pt2) X.env = pure (some [x, y])) : PS X (.Assign [.Tuple [.Name x px, .Name y py] kt pt] (.Tuple [a, b] k2 pt2) pos) (tS X.K ex Wx fn fuel (.par [i, j] cs)) := by
  refine (ps_par hc hN hi hj hij hx hy ha hw rfl).weak fun D σ H ⟨S, M, ρ, w, sl, aw⟩ => ?_
  simp only [evS] at aw
  refine ⟨S, M, ρ, w, sl, (aw.onto sl).imp fun ds M1 S1 H1 t1 w1 q vs rs => ?_⟩
  split at q
  · rename_i ρ' hb
    obtain ⟨σ', h1, h2, h3⟩ := setDs_ok (sl.mono t1) rs hb
    match vs, h2, h3 with
    | [u, v], _, h3 => exact ⟨u, v, rfl, by have z := q.of_ok w1 σ' h1; rw [h3] at z; exact z⟩
  · exact q.elim
theorem cs_par3 {i j l : Nat} {x y z : Str} {c : Expr} {px py pz pt : Pos} {kt k2 : Nat} {pt2 : Pos} (hc : X.calm = true) (hN : X.N.Nodup) (hi : X.N[i]? = some x) (hj : X.N[j]? = some y) (hl : X.N[l]? = some z) (hij : i ≠ j) (hil : i ≠ l) (hjl : j ≠ l) (hx : X.env.scope.names.lookup x = some .local) (hy : X.env.scope.names.lookup y = some .local) (hz : X.env.scope.names.lookup z = some .local) (ha : PA X [a, b, c] (tEs X.K ex Wx fn cs))
    (hw : swappedStores [.Tuple [.Name x px, .Name y py, .Name z pz] kt pt] (.Tuple [a, b, c] k2 pt2) X.env = pure (some [x, y, z])) : PS X (.Assign [.Tuple [.Name x px, .Name y py, .Name z pz] kt pt] (.Tuple [a, b, c] k2 pt2) pos) (tS X.K ex Wx fn fuel (.par [i, j, l] cs)) := by
  refine (ps_par3 hc hN hi hj hl hij hil hjl hx hy hz ha hw rfl).weak fun D σ H ⟨S, M, ρ, w, sl, aw⟩ => ?_
  simp only [evS] at aw
  refine ⟨S, M, ρ, w, sl, (aw.onto sl).imp fun ds M1 S1 H1 t1 w1 q vs rs => ?_⟩
  split at q
  · rename_i ρ' hb
    obtain ⟨σ', h1, h2, h3⟩ := setDs_ok (sl.mono t1) rs hb
    match vs, h2, h3 with
    | [u, v, w], _, h3 => exact ⟨u, v, w, rfl, by have z := q.of_ok w1 σ' h1; rw [h3] at z; exact z⟩
  · exact q.elim
/-- names from values, through a tuple -/
structure NmsD (X : Cx) (es : List Expr) (is : List Nat) : Prop where
  go : PGs X es (fun vs σ H Q => ∃ S M ρ ds ρ', W X.K S M H ∧ Sl X.K S H ρ σ ∧ RDs X.K S H ds vs ∧ setDs is ds ρ = some ρ' ∧ ∀ σ', Sl X.K S H ρ' σ' → Q σ' H)
  len : ∀ env, (assignEach es env).length = is.length
  star : ∀ env, (assignEach es env).findIdx? (·.1) = none
theorem nmd_nil : NmsD X [] [] := by
  refine ⟨pgs_nil.weak fun vs σ H Q ⟨S, M, ρ, ds, ρ', w, sl, r, hb, q⟩ => ?_, fun env => rfl, fun env => rfl⟩
  cases ds with
  | nil => cases r; cases hb; exact ⟨rfl, q σ sl⟩
  | cons a b => cases hb
theorem nmd_cons {i : Nat} {is : List Nat} {x : Str} {es : List Expr} (hN : X.N.Nodup) (hi : X.N[i]? = some x) (hx : Loc X.env.scope x) (hf : X.fn x = true ∨ X.env.scope.names.lookup x = some .local) (h2 : NmsD X es is) : NmsD X (.Name x pos :: es) (i :: is) := by
  refine ⟨(pgs_cons (pg_name hN hi hx hf) h2.go rfl).weak fun vs σ H Q ⟨S, M, ρ, ds, ρ', w, sl, r, hb, q⟩ => ?_, fun env => ?_, fun env => ?_⟩
  · cases r with
    | nil => cases hb
    | cons a b => exact ⟨_, _, rfl, S, M, _, _, ρ', w, sl.set i a, b, hb, q⟩
  · show (assignEach es env).length + 1 = _
    rw [h2.len env]; rfl
  · show ((false, assign (.Name x pos) env) :: assignEach es env).findIdx? (·.1) = none
    rw [List.findIdx?_cons]
    simp [h2.star env]
theorem cs_parT {is : List Nat} {ts vs : List Expr} {k k2 : Nat} {tpos vpos : Pos} (hc : X.calm = true) (h : NmsD X ts is) (ha : PA X vs (tEs X.K ex Wx fn cs)) (hz : is.length ≤ 16777216) (hw : swappedStores [.Tuple ts k tpos] (.Tuple vs k2 vpos) X.env = pure none) :
    PS X (.Assign [.Tuple ts k tpos] (.Tuple vs k2 vpos) pos) (tS X.K ex Wx fn fuel (.par is cs)) := by
  refine (ps_asg (pe_tup ha) (pg_tup hc h.go (h.len _) (h.star _)) rfl hw rfl).weak fun D σ H ⟨S, M, ρ, w, sl, aw⟩ => ?_
  simp only [evS] at aw
  refine ⟨S, M, ρ, w, sl, (aw.onto sl).imp fun ds M1 S1 H1 t1 w1 q us rs => ?_⟩
  split at q
  · rename_i ρ' hb
    obtain ⟨σ', h1, h2, h3⟩ := setDs_ok (sl.mono t1) rs hb
    refine ⟨by rw [← h2]; exact sz_le hz, fun p np => ⟨p, us, rfl, .inl (.inl upd_same), h2.symm, S1, M1, ρ, ds, ρ', w1.fresh np, (sl.mono t1).mono (.fresh np), RDs.mono (.fresh np) rs, hb, fun σ'' sl'' => ?_⟩⟩
    exact (AwF.mono q (.fresh np)).of_ok (w1.fresh np) σ'' sl''
  · exact q.elim
/-! ### o[i] = v -/
theorem subop_ne {o i v : D} {M : Mem} (c : Nat) (M' : Mem) : subop o i v M ≠ .exc c M' := by
  intro h; unfold subop at h
  split at h <;> (try split at h) <;> (try split at h) <;> (try split at h) <;> (try split at h) <;> cases h
theorem set_sub (hu : X.A.units + 1 < cLine) : PSet X (fun o i v H Q => ∃ S M od id vd M', W X.K S M H ∧ RD X.K S H od o ∧ RD X.K S H id i ∧ RD X.K S H vd v ∧ subop od id vd M = .ok () M' ∧ ∀ S' H', Stp S H S' H' → W X.K S' M' H' → Q H') := by
  intro pins s σ H o i v ov iv u Q I ro ri rv h
  obtain ⟨S, M, od, id, vd, M', w, rod, rid, rvd, hb, q⟩ := h
  unfold subop at hb
  split at hb
  · rename_i x M1 hf
    obtain ⟨S1, w1, t1, r1⟩ := frzP_ok w rvd hf
    split at hb
    · rename_i j k
      split at hb
      · rename_i xs hm
        split at hb
        · rename_i n hn
          cases hb
          obtain ⟨p, hp⟩ := w1.lvl j xs hm
          obtain ⟨vs, g1, g2⟩ := w1.obl j p xs hp hm
          obtain ⟨w2, t2⟩ := w1.write hp hm (g2.set r1 n)
          have ro1 : RD X.K S1 H (.ref j) o := rod.mono t1
          exact set_list pins s σ H o i v ov iv u Q I ro ri rv ⟨p, vs, k, n, ro1.2 p hp, rp_int rid, g1, by rw [← g2.length]; exact hn, q S1 _ (t1.trans t2) w2⟩
        · cases hb
      · rename_i ks hm
        split at hb
        · rename_i n hn
          split at hb
          · rename_i y z hz
            cases hb
            obtain ⟨p, hp⟩ := w1.lv j _ hm (fun e => by cases e)
            obtain ⟨vs, g2, g1⟩ : ∃ vs, FKRs X.K S1 H j ks vs ∧ H p = some (.lst vs) := w1.ob j p _ hp hm
            have t2 : Stp S1 H S1 (upd H p (.lst (vs.set n v))) := .put (L_mem hp)
            have w2 := w1.put (o := .lst (vs.set n v)) (c := .hdr 0 (ks.set n (y, .d x))) hp ⟨vs.set n v, (g2.gen t2.kp fun _ _ _ e => e).set hz (r1.mono t2), upd_same⟩ (tabs_lst w1.tb g1)
            have ro1 : RD X.K S1 H (.ref j) o := rod.mono t1
            exact set_list pins s σ H o i v ov iv u Q I ro ri rv ⟨p, vs, k, n, ro1.2 p hp, rp_int rid, g1, by rw [← g2.length]; exact hn, q S1 _ (t1.trans t2) w2⟩
          · cases hb
        · cases hb
      · rename_i kvs hm
        split at hb
        · rename_i hl
          cases hb
          obtain ⟨p, hp⟩ := w1.lv j _ hm (fun e => by cases e)
          obtain ⟨vs, g1, g2⟩ : ∃ vs, H p = some (.dK vs) ∧ RKs X.K S1 H kvs vs := w1.ob j p _ hp hm
          have t2 : Stp S1 H S1 (upd H p (.dK (putK vs (.inl k) v))) := .put (L_mem hp)
          have w2 := w1.put (o := .dK (putK vs (.inl k) v)) (c := .dct (dPut kvs k x)) hp ⟨_, upd_same, (g2.kp t2.kp).put (r1.mono t2)⟩ (tabs_dK w1.tb g1)
          have ro1 : RD X.K S1 H (.ref j) o := rod.mono t1
          obtain rfl := ro1.2 p hp
          obtain rfl : ov = Value.ref p := ro
          have e1 := rp_int rid
          subst e1
          exact d_setItem hu I (.k (k := Sum.inl k) g1 (by rw [← g2.length]; have := sz_le (n := kvs.length + 1) (by omega); omega)) ri rv fun s' I' => ⟨_, I', q S1 _ (t1.trans t2) w2⟩
        · cases hb
      · cases hb
    · cases hb
  · cases hb
theorem cs_sub (hu : X.A.units + 1 < cLine) {o i : Expr} {co ci cv : CE} {tpos : Pos} (hv : PE X e (tE X.K ex Wx fn cv)) (ho : PE X o (tE X.K ex Wx fn co)) (hi : PE X i (tE X.K ex Wx fn ci)) (hs : swapsWith e (some (.Subscript o i tpos)) pos.line X.env = pure false)
    (ha : ∀ v, assign (.Subscript o i tpos) X.env v = (do
      let ov ← holding [v] (eval o X.env)
      let iv ← holding [v, ov] (eval i X.env)
      standAt tpos
      holding [v, ov, iv] (setItem ov iv v)
      release [v, ov, iv] [])) : PS X (.Assign [.Subscript o i tpos] e pos) (tS X.K ex Wx fn fuel (.sub co ci cv)) := by
  refine (ps_asg hv (pg_sub ho hi (set_sub hu) ha) hs rfl rfl).weak fun D σ H ⟨S, M, ρ, w, sl, aw⟩ => ?_
  simp only [evS] at aw
  refine ⟨S, M, ρ, w, sl, (aw.onto sl).imp fun d M1 S1 H1 t1 w1 q v r => ?_⟩
  refine ⟨S1, M1, ρ, w1, sl.mono t1, (AwF.onto (sl.mono t1) q).imp fun d2 M2 S2 H2 t2 w2 q2 v2 r2 => ?_⟩
  refine ⟨S2, M2, ρ, w2, sl.mono (t1.trans t2), (AwF.onto (sl.mono (t1.trans t2)) q2).imp fun d3 M3 S3 H3 t3 w3 q3 v3 r3 => ?_⟩
  have t13 := t1.trans (t2.trans t3)
  obtain ⟨u, M4, hb, af⟩ := (AwF.onto (sl.mono t13) q3).ok subop_ne
  refine ⟨S3, M3, d2, d3, d, M4, w3, r2.mono t3, r3, r.mono (t2.trans t3), hb, fun S' H' t w => ?_⟩
  exact (af S' H' t w).of_ok w σ ((sl.mono t13).mono t)
theorem sb2op_ne {o : Option (Option D)} {i j : Int} {ds : List D} {M : Mem} (c : Nat) (M' : Mem) : sb2op o i j ds M ≠ .exc c M' := by
  intro h; unfold sb2op at h
  split at h
  · rename_i o v w
    cases e : subop o (.p (.int i)) v M with
    | bad => rw [e] at h; cases h
    | exc c M1 => exact subop_ne _ _ e
    | ok u M1 => rw [e] at h; exact subop_ne _ _ h
  · cases h
theorem cs_sb2 (hu : X.A.units + 1 < cLine) {x : Str} {n : Nat} {i j : Int} {vs : List Expr} {cv : CEs} {k k2 k3 k4 : Nat} {p1 p2 p3 p4 p5 p6 tpos vpos : Pos} (hc : X.calm = true) (he : ∀ p, PE X (.Name x p) (tVar n)) (ha : PA X vs (tEs X.K ex Wx fn cv)) (hz : vs.length = 2)
    (hw : swappedStores [.Tuple [.Subscript (.Name x p1) (.Constant (.int i) k p2) p3, .Subscript (.Name x p4) (.Constant (.int j) k2 p5) p6] k3 tpos] (.Tuple vs k4 vpos) X.env = pure none) :
    PS X (.Assign [.Tuple [.Subscript (.Name x p1) (.Constant (.int i) k p2) p3, .Subscript (.Name x p4) (.Constant (.int j) k2 p5) p6] k3 tpos] (.Tuple vs k4 vpos) pos) (tS X.K ex Wx fn fuel (.sb2 n i j cv)) := by
  refine (ps_asg (pe_tup ha) (pg_tup (n := 2) hc (pgs_cons (pg_sub (he p1) pe_int (set_sub hu) (fun v => rfl)) (pgs_cons (pg_sub (he p4) pe_int (set_sub hu) (fun v => rfl)) pgs_nil rfl) rfl) rfl rfl) rfl hw rfl).weak fun D σ H ⟨S, M, ρ, w, sl, aw⟩ => ?_
  simp only [evS] at aw
  refine ⟨S, M, ρ, w, sl, (aw.onto sl).imp fun ds M1 S1 H1 t1 w1 q us rs => ?_⟩
  obtain ⟨u, M4, hb, af⟩ := (AwF.onto (sl.mono t1) q).ok sb2op_ne
  unfold sb2op at hb
  split at hb
  · rename_i o v w' ho
    cases rs with
    | cons rv rs =>
      cases rs with
      | cons rw' rs =>
        cases rs
        rename_i u1 u2
        obtain ⟨ov, hov, ro⟩ := (sl.mono t1).at' n o ho
        cases e : subop o (.p (.int i)) v M1 with
        | bad => rw [e] at hb; cases hb
        | exc c M2 => exact absurd e (subop_ne _ _)
        | ok un M2 =>
          rw [e] at hb
          have hb : subop o (.p (.int j)) w' M2 = .ok u M4 := hb
          refine ⟨sz_le (show 2 ≤ 16777216 by decide), fun p np => ⟨p, _, rfl, .inl (.inl upd_same), rfl, ?_⟩⟩
          have tp : Stp S1 H1 S1 _ := .fresh (o := .tup [u1, u2]) np
          refine ⟨_, _, rfl, ov, hov, S1, M1, o, .p (.int i), v, M2, w1.fresh np, ro.mono tp, .int i, rv.mono tp, e, fun S2 H2 t2 w2 => ?_⟩
          refine ⟨_, _, rfl, ov, hov, S2, M2, o, .p (.int j), w', M4, w2, (ro.mono tp).mono t2, .int j, (rw'.mono tp).mono t2, hb, fun S3 H3 t3 w3 => ⟨rfl, ?_⟩⟩
          exact (af S3 H3 (tp.trans (t2.trans t3)) w3).of_ok w3 σ ((sl.mono t1).mono (tp.trans (t2.trans t3)))
  · cases hb
/-! ### loops -/
theorem cs_for {iter : Expr} {body : List Stmt} {t : Tg} {ci : CI} {cb : CSs} (hp : PassesOwn (model X.prog X.w) X.A X.env X.xe) (hc : X.calm = true) (hi : PI X tg iter (tI X.K ex Wx fn ci)) (hg : PG X tg (tG X.K t)) (hb : PSs X body (tSs X.K ex Wx fn fuel cb)) (hs : ∀ x, foldedSetIterable iter X.env x = pure x) :
    PS X (.For tg iter body [] pos) (tS X.K ex Wx fn fuel (.loop t ci cb)) := by
  refine (ps_for hp hc hi hg hb hs).weak fun D σ H ⟨S, M, ρ, w, sl, aw⟩ => ?_
  simp only [evS] at aw
  refine ⟨S, M, ρ, w, sl, (aw.onto sl).imp fun J M1 S1 H1 t1 w1 q jt hj => ?_⟩
  generalize hf : (fun x ρ M => match bindT t x ρ with
        | some ρ => evSs fn fuel cb ρ M
        | none => Res.bad) = f at q
  -- one turn of the body
  have turn : ∀ (x : PyData) (S' : Sk) (M' : Mem) (ρ' : Env) (H2 : Hp) (v : V) (σ' : L2.St) (N B : L2.St → Hp → Prop), W X.K S' M' H2 → Sl X.K S' H2 ρ' σ' → RP X.K S' H2 x v → 
      AwF X.K ex Wx S' H2 (f x ρ' M') { D with nx := N, ct := N, bk := B } → tG X.K t v σ' H2 fun σ2 H3 => tSs X.K ex Wx fn fuel cb { D with nx := N, ct := N, bk := B } σ2 H3 := fun x S' M' ρ' H2 v σ' N B w2 sl2 rx aw2 => by
    cases hbd : bindT t x ρ' with
    | none =>
      have : f x ρ' M' = .bad := by rw [← hf]; simp only [hbd]
      rw [this] at aw2
      exact aw2.elim
    | some ρ2 =>
      have : f x ρ' M' = evSs fn fuel cb ρ2 M' := by rw [← hf]; simp only [hbd]
      rw [this] at aw2
      exact ⟨S', M', ρ', x, ρ2, w2, sl2, rx, hbd, fun σ2 sl3 _ => ⟨S', M', ρ2, w2, sl3, aw2⟩⟩
  cases J with
  | items xs =>
    let Pv : Nat → L2.St → Hp → Prop := fun i σ' H' => ∃ S' M' ρ', Stp S1 H1 S' H' ∧ W X.K S' M' H' ∧ Sl X.K S' H' ρ' σ' ∧ AwF X.K ex Wx S' H' (forLoop f (xs.drop i) ρ' M') D
    refine ⟨fun i m σ' H' => m = xs.length - i ∧ i ≤ xs.length ∧ Pv i σ' H', ⟨xs.length, by simp, Nat.zero_le _, S1, M1, ρ, .refl, w1, sl.mono t1, q⟩, ?_⟩
    rintro i m σ' H' ⟨rfl, hle, S', M', ρ', st, wS, slS, aw1⟩
    by_cases hlt : i < xs.length
    · refine .inr ⟨hj.go i S' H' hlt st, Pv (i + 1), fun σ2 H2 p => ⟨xs.length - (i + 1), by omega, rfl, hlt, p⟩, fun x H2 hy => ?_⟩
      have hx : xs[i]? = some xs[i] := List.getElem?_eq_getElem hlt
      obtain ⟨s2, w2, rx⟩ := hj.yld i S' H' M' x H2 xs[i] hx st wS hy
      rw [List.drop_eq_getElem_cons hlt] at aw1
      unfold forLoop at aw1
      refine turn xs[i] S' M' ρ' H2 x σ' _ _ w2 (slS.mono s2) rx ?_
      have aw1 := aw1.mono s2
      cases e : f xs[i] ρ' M' with
      | bad => rw [e] at aw1; exact aw1
      | exc c M => rw [e] at aw1; exact aw1
      | ok fl M3 =>
        rw [e] at aw1
        intro S3 H3 t3 w3
        cases fl with
        | nx ρ3 => exact fun σ3 sl3 => ⟨S3, M3, ρ3, st.trans (s2.trans t3), w3, sl3, AwF.mono aw1 t3⟩
        | ct ρ3 => exact fun σ3 sl3 => ⟨S3, M3, ρ3, st.trans (s2.trans t3), w3, sl3, AwF.mono aw1 t3⟩
        | bk ρ3 => exact aw1 S3 H3 t3 w3
        | rt d => exact aw1 S3 H3 t3 w3
        | ex c d => exact aw1 S3 H3 t3 w3
    · have hi' : i = xs.length := by omega
      subst hi'
      refine .inl ⟨hj.stop S' H' st, ?_⟩
      rw [List.drop_length] at aw1
      unfold forLoop at aw1
      exact aw1.of_ok wS σ' slS
  | live j =>
    obtain ⟨p, hp, rfl⟩ := hj
    let Pv : Nat → Nat → L2.St → Hp → Prop := fun i n σ' H' => ∃ S' M' ρ', Stp S1 H1 S' H' ∧ W X.K S' M' H' ∧ Sl X.K S' H' ρ' σ' ∧ AwF X.K ex Wx S' H' (liveLoop f j n i ρ' M') D
    refine ⟨Pv, ⟨fuel, S1, M1, ρ, .refl, w1, sl.mono t1, q⟩, ?_⟩
    rintro i m σ' H' ⟨S', M', ρ', st, wS, slS, aw1⟩
    cases m with
    | zero => exact aw1.elim
    | succ n =>
      unfold liveLoop at aw1
      split at aw1
      · rename_i xs hm
        obtain ⟨p', hp'⟩ := wS.lvl j xs hm
        have ep : p' = p := by
          have := st.old j p' (List.getElem?_eq_some_iff.mp hp).1 hp'
          rw [hp] at this
          cases this; rfl
        subst ep
        obtain ⟨vs, g1, g2⟩ := wS.obl j p' xs hp' hm
        have hsq : SqL X.K H' p' vs := .inl (.inl g1)
        split at aw1
        · rename_i hn
          refine .inl ⟨⟨vs, hsq, ?_⟩, aw1.of_ok wS σ' slS⟩
          rw [← g2.length]
          exact List.getElem?_eq_none_iff.mp hn
        · rename_i x hx
          obtain ⟨u, hu, ru⟩ := g2.get hx
          refine .inr ⟨⟨vs, u, hsq, hu⟩, fun σ2 H2 => Pv (i + 1) n σ2 H2, fun σ2 H2 p => ⟨n, Nat.lt_succ_self n, p⟩, fun v H2 hy => ?_⟩
          obtain ⟨rfl, hv⟩ := hy
          have := hv vs hsq
          rw [hu] at this
          cases this
          refine turn x S' M' ρ' _ u σ' _ _ wS slS ru ?_
          cases e : f x ρ' M' with
          | bad => rw [e] at aw1; exact aw1
          | exc c M => rw [e] at aw1; exact aw1
          | ok fl M3 =>
            rw [e] at aw1
            intro S3 H3 t3 w3
            cases fl with
            | nx ρ3 => exact fun σ3 sl3 => ⟨S3, M3, ρ3, st.trans t3, w3, sl3, AwF.mono aw1 t3⟩
            | ct ρ3 => exact fun σ3 sl3 => ⟨S3, M3, ρ3, st.trans t3, w3, sl3, AwF.mono aw1 t3⟩
            | bk ρ3 => exact aw1 S3 H3 t3 w3
            | rt d => exact aw1 S3 H3 t3 w3
            | ex c d => exact aw1 S3 H3 t3 w3
      · exact aw1.elim
theorem cs_while {c : Expr} {body : List Stmt} {cb : CSs} (hp : PassesOwn (model X.prog X.w) X.A X.env X.xe) (hc : PT X c (tT X.K ex Wx fn cc)) (hb : PSs X body (tSs X.K ex Wx fn fuel cb)) : PS X (.While c body [] pos) (tS X.K ex Wx fn fuel (.whl cc cb)) := by
  refine (ps_while hp hc hb).weak fun D σ H ⟨S, M, ρ, w, sl, aw⟩ => ?_
  simp only [evS] at aw
  refine ⟨fun n σ' H' => ∃ S' M' ρ', W X.K S' M' H' ∧ Sl X.K S' H' ρ' σ' ∧ AwF X.K ex Wx S' H' (whileLoop (fun ρ M => (evE fn cc ρ M).bind fun d M => toB M d) (fun ρ M => evSs fn fuel cb ρ M) n ρ' M') D, ⟨fuel, S, M, ρ, w, sl, aw⟩, ?_⟩
  rintro m σ' H' ⟨S', M', ρ', wS, slS, aw1⟩
  cases m with
  | zero => exact aw1.elim
  | succ n =>
    unfold whileLoop at aw1
    refine ⟨S', M', ρ', wS, slS, ?_⟩
    cases e : evE fn cc ρ' M' with
    | bad => rw [e] at aw1; exact aw1
    | exc x M2 => rw [e] at aw1; exact fun S2 H2 t2 w2 => aw1 S2 H2 t2 w2 σ' (slS.mono t2)
    | ok d M2 =>
      rw [e] at aw1
      intro S2 H2 t2 w2
      have aw1 := aw1.mono t2
      simp only [Res.bind] at aw1
      unfold toB at aw1
      cases e2 : truth M2 d with
      | none => rw [e2] at aw1; exact aw1.elim
      | some k =>
        rw [e2] at aw1
        refine ⟨k, rfl, ?_⟩
        cases k with
        | false => exact iteF (aw1.of_ok w2 σ' (slS.mono t2))
        | true =>
          refine iteT ⟨_, fun σ3 H3 z => ⟨n, Nat.lt_succ_self n, z⟩, S2, M2, ρ', w2, slS.mono t2, ?_⟩
          try dsimp only at aw1
          cases e3 : evSs fn fuel cb ρ' M2 with
          | bad => rw [e3] at aw1; exact aw1
          | exc x M3 => rw [e3] at aw1; exact aw1
          | ok fl M3 =>
            rw [e3] at aw1
            intro S3 H3 t3 w3
            cases fl with
            | nx ρ3 => exact fun σ3 sl3 => ⟨S3, M3, ρ3, w3, sl3, AwF.mono aw1 t3⟩
            | ct ρ3 => exact fun σ3 sl3 => ⟨S3, M3, ρ3, w3, sl3, AwF.mono aw1 t3⟩
            | bk ρ3 => exact aw1 S3 H3 t3 w3
            | rt d => exact aw1 S3 H3 t3 w3
            | ex c d => exact aw1 S3 H3 t3 w3
end
end Mi

set_option Elab.async false
set_option linter.all false
set_option maxRecDepth 100000
set_option maxHeartbeats 1000000
/-! Mi: instances, their fields and methods; lists of fixed places. -/
namespace Mi
open PySem PySem.Spec PyProof.Rows L2
section
variable {K : Kf} {S S' : Sk} {M M' : Mem} {H H' : Hp}
theorem insAt_ok {d : D} {c i : Nat} {ks : List (Str × FK)} (h : insAt M d c = some (i, ks)) : d = .ref i ∧ M[i]? = some (.hdr (c + 1) ks) := by
  unfold insAt at h
  split at h
  · rename_i j
    split at h
    · rename_i c' ks' hm
      split at h
      · rename_i e
        cases h
        subst e
        exact ⟨rfl, hm⟩
      · cases h
    · cases h
  · cases h
/-- an instance as it stands -/
theorem ins_ok (w : W K S M H) {d : D} {v : V} {c i : Nat} {ks : List (Str × FK)} (r : RD K S H d v) (h : insAt M d c = some (i, ks)) :
    ∃ a dx vs, d = .ref i ∧ S.L[i]? = some (some a) ∧ v = .ref a ∧ H a = some (.ins (Adr K c) dx ((ks.map (·.1)).zip vs)) ∧ FKRs K S H i ks vs := by
  obtain ⟨rfl, hm⟩ := insAt_ok h
  obtain ⟨a, ha⟩ := w.lv i _ hm (fun e => by cases e)
  obtain ⟨vs, h1, dx, h2⟩ : ∃ vs, FKRs K S H i ks vs ∧ ∃ dx, H a = some (.ins (Adr K c) dx ((ks.map (·.1)).zip vs)) := w.ob i a _ ha hm
  exact ⟨a, dx, vs, rfl, ha, r.2 a ha, h2, h1⟩
/-- a new cell -/
theorem W.push (w : W K S M H) {p : Addr} {o : HO} {c : MO} (n : H p = none) (hr : CeR K ⟨S.L ++ [some p], S.Z⟩ (upd H p o) S.L.length c p) :
    Stp S H ⟨S.L ++ [some p], S.Z⟩ (upd H p o) ∧ W K ⟨S.L ++ [some p], S.Z⟩ (M ++ [c]) (upd H p o) ∧ RD K ⟨S.L ++ [some p], S.Z⟩ (upd H p o) (.ref M.length) (.ref p) := by
  have st : Stp S H S (upd H p o) := Stp.fresh n
  have np : some p ∉ S.L := fun h => w.al p h n
  have nz : p ∉ S.Z := fun h => w.zl p h n
  have st' : Stp S H ⟨S.L ++ [some p], S.Z⟩ (upd H p o) := by
    refine ⟨by simp, fun i a hi h => ?_, fun a h => ?_, ⟨fun _ h => h, fun _ h => .inl h⟩, st.keep, st.live⟩
    · simp only [] at h; rw [List.getElem?_append_left hi] at h; exact h
    · rcases List.mem_append.mp h with h | h
      · exact .inl h
      · have : a = p := by simpa using h
        subst this; exact .inr n
  have key : ∀ (i : Nat) a, (S.L ++ [some p])[i]? = some (some a) → (i < S.L.length ∧ S.L[i]? = some (some a)) ∨ (i = S.L.length ∧ a = p) := fun i a h => by
    by_cases hi : i < S.L.length
    · rw [List.getElem?_append_left hi] at h; exact .inl ⟨hi, h⟩
    · rw [List.getElem?_append_right (by omega)] at h
      have : i - S.L.length = 0 := by
        rcases Nat.eq_zero_or_pos (i - S.L.length) with z | z
        · exact z
        · rw [List.getElem?_eq_none (by simp; omega)] at h; cases h
      rw [this] at h
      have e : p = a := by simpa using h
      exact .inr ⟨by omega, e.symm⟩
  refine ⟨st', ⟨by simp [w.len], fun i j a h1 h2 => ?_, fun i a c' h1 h2 => ?_, fun a h => ?_, fun a h => ?_, fun a h h' => ?_, fun i c' h hnd => ?_, tabs_new w.tb n⟩, ?_⟩
  · rcases key i a h1 with ⟨_, q1⟩ | ⟨e1, e1'⟩ <;> rcases key j a h2 with ⟨_, q2⟩ | ⟨e2, e2'⟩
    · exact w.nd i j a q1 q2
    · subst e2'; exact absurd (L_mem q1) np
    · subst e1'; exact absurd (L_mem q2) np
    · rw [e1, e2]
  · rcases key i a h1 with ⟨hi, q1⟩ | ⟨e1, e1'⟩
    · rw [List.getElem?_append_left (by rw [← w.len]; exact hi)] at h2
      exact (w.ob i a c' q1 h2).st st' hi fun o q => by rw [upd_ne (ne_of_none q n)]; exact q
    · subst e1'; subst e1
      rw [List.getElem?_append_right (by rw [w.len]; exact Nat.le_refl _), w.len, Nat.sub_self] at h2
      cases h2
      exact hr
  · rcases List.mem_append.mp h with h | h
    · intro e; exact w.al a h (st.live a e)
    · have : a = p := by simpa using h
      subst this; rw [upd_same]; exact Option.some_ne_none _
  · intro e; exact w.zl a h (st.live a e)
  · rcases List.mem_append.mp h' with h' | h'
    · exact w.dj a h h'
    · have : a = p := by simpa using h'
      subst this; exact nz h
  · by_cases hi : i < M.length
    · rw [List.getElem?_append_left hi] at h
      obtain ⟨a, ha⟩ := w.lv i c' h hnd
      exact ⟨a, by show (S.L ++ [some p])[i]? = _; rw [List.getElem?_append_left (by rw [w.len]; exact hi)]; exact ha⟩
    · have hi2 : i = M.length := by
        rcases Nat.lt_or_ge i (M.length + 1) with z | z
        · omega
        · rw [List.getElem?_eq_none (by simpa using z)] at h; cases h
      exact ⟨p, by show (S.L ++ [some p])[i]? = _; rw [hi2, ← w.len]; simp⟩
  · refine ⟨by simp [w.len], fun a h => ?_⟩
    have : (S.L ++ [some p])[M.length]? = some (some p) := by rw [← w.len]; simp
    rw [this] at h
    have := Option.some.inj (Option.some.inj h)
    subst this; rfl
end
/-! ### reading a field, calling a method -/
theorem call_own {M : Model} {A : Around} {E : Value → Shared → Prop} {s : Shared} {env : PySem.Env} {o : Expr} {name : Str} {apos pos : Pos} {args : List Expr} {Q : Value → Shared → Prop}
    (hbase : attributeBase o name env (eval o env) = eval o env)
    (hfew : ((backTo pos (starEach args env)).all (fun x => !x.1) && (backToKw pos (keywordEach [] env)).all (fun x => x.1.isSome)
      && decide (args.length + ([] : List Keyword).length + (if ([] : List Keyword).isEmpty then 0 else 1) < 30)) = true)
    (hline : (apos.endLine == pos.line) = true)
    (h : wpAny M A (eval o env) (fun ov s₁ => ∀ pl : Sem Bool, wpAny M A (getMethod ov name pl) (fun fx s₂ => wpAny M A (callWith pos fx.1 fx.2 (backTo pos (starEach args env)) (backToKw pos (keywordEach [] env))) Q E s₂) E s₁) E s) :
    wpAny M A (eval (.Call (.Attribute o name apos) args [] pos) env) Q E s := by
  rw [arm_eval_Call, hbase]
  refine wpAny_bind (wpAny_mono h (fun ov s₁ h₁ => ?_) fun _ _ e => e)
  refine wpAny_bind (wpAny_standAt ?_)
  have hform : methodCallForm (args.length + ([] : List Keyword).length) (backTo pos (starEach args env)) (backToKw pos (keywordEach [] env)) = true := hfew
  have hpos : methodCallPos true o env apos pos = pure pos := by unfold methodCallPos; simp [hline]
  unfold methodCall
  rw [hform]
  refine wpAny_bind (wpAny_holding (wpAny_mono (h₁ _) (fun fx s₂ h₂ => ?_) fun _ _ e => e))
  exact wpAny_bind (wpAny_of_eq hpos h₂)
def tMethG (C : Addr) (m : Str) (sp : Sp) (Wx : WX) (ta : TE) (t : TA) : TE := fun σ H Q => ta σ H fun x H1 => ∃ a dx fs, x = .ref a ∧ H1 a = some (.ins C dx fs) ∧ fs.lookup m = none ∧
  t σ H1 fun vs H2 => sp (x :: vs) H2 Q (WE Wx σ)
section
variable {X : Cx} {ex : Nat → Value} {Wx : WX} {fn : Fn} {fuel k : Nat} {o e : Expr} {es : List Expr} {co cv : CE} {ces : CEs} {pos apos : Pos} {C f : Addr} {m x : Str} {fd : FuncData} {ps : List Str} {sp : Sp} {ta : TE} {t : TA}
theorem pe_methG (he : PE X o ta) (c : Cls X.K C) (hm : Meth X.K C m f) (F : FnG X.prog X.w X.K X.mg X.base k f fd ps sp) (hgd : X.A.guards = some []) (hr : Room k X.A) (hb : Binds X.K fd ps []) (tk : Takes X Wx) (ha : PA X (e :: es) t)
    (hbase : attributeBase o m X.env (eval o X.env) = eval o X.env)
    (hfew : ((backTo pos (starEach (e :: es) X.env)).all (fun x => !x.1) && (backToKw pos (keywordEach [] X.env)).all (fun x => x.1.isSome) && decide ((e :: es).length + ([] : List Keyword).length + (if ([] : List Keyword).isEmpty then 0 else 1) < 30)) = true)
    (hline : (apos.endLine == pos.line) = true) (hst : starEach (e :: es) X.env = (false, eval e X.env) :: starEach es X.env) (hpl : (backTo pos (starEach es X.env)).any (·.1) = false) :
    PE X (.Call (.Attribute o m apos) (e :: es) [] pos) (tMethG C m sp Wx ta t) := by
  refine ⟨fun pins s σ H Q I h => ?_⟩
  refine call_own hbase hfew hline (thn (he.run pins s σ H _ I h) fun u s1 ⟨x, H1, I1, rx, a, dx, fs, ex, ea, l, q⟩ pl => ?_)
  subst ex
  obtain rfl : u = Value.ref a := rx
  refine getmeth_ok I1 ea c hm l ?_
  refine PySem.W.callWith_K (first := [.ref a]) (h₀ := X.base) I.ok.mod.kin hm.kp (thn (ha.run pos pins s1 σ H1 _ I1 q) fun us s2 ⟨vs, H2, I2, r, q2⟩ => ⟨I2.kIn, ?_⟩) hst hpl
  exact run_fnG (us := .ref a :: us) (vs := .ref a :: vs) (dvs := []) (ds := []) F hgd hr hb .nil tk I2 (.cons rfl r) (by rw [List.append_nil]; exact q2)
theorem pe_methG0 (he : PE X o ta) (c : Cls X.K C) (hm : Meth X.K C m f) (F : FnG X.prog X.w X.K X.mg X.base k f fd ps sp) (hgd : X.A.guards = some []) (hr : Room k X.A) (hb : Binds X.K fd ps []) (tk : Takes X Wx)
    (hbase : attributeBase o m X.env (eval o X.env) = eval o X.env) (hline : (apos.endLine == pos.line) = true) :
    PE X (.Call (.Attribute o m apos) [] [] pos) (tMethG C m sp Wx ta tNil) := by
  refine ⟨fun pins s σ H Q I h => ?_⟩
  refine call_own hbase rfl hline (thn (he.run pins s σ H _ I h) fun u s1 ⟨x, H1, I1, rx, a, dx, fs, ex, ea, l, q⟩ pl => ?_)
  subst ex
  obtain rfl : u = Value.ref a := rx
  refine getmeth_ok I1 ea c hm l ?_
  exact PySem.W.callWith_K0 (first := [.ref a]) I1.kIn hm.kp (run_fnG (us := [.ref a]) (vs := [.ref a]) (dvs := []) (ds := []) F hgd hr hb .nil tk I1 (.cons rfl .nil) q)
theorem ce_fld {C : Nat} (ho : PE X o (tE X.K ex Wx fn co)) (c : Cls X.K (Adr X.K C)) (na : NoAttr X.K (Adr X.K C) x) (hb : attributeBase o x X.env (eval o X.env) = eval o X.env) : PE X (.Attribute o x pos) (tE X.K ex Wx fn (.fld C x co)) := by
  refine (pe_fld ho hb).weak fun σ H Q h => ?_
  obtain ⟨S, M, ρ, w, sl, aw⟩ := h
  simp only [evE] at aw
  refine ⟨S, M, ρ, w, sl, aw.bind.imp fun d M1 S1 H1 t1 w1 aw1 v1 r1 => ?_⟩
  split at aw1
  · rename_i i ks hi
    split at aw1
    · rename_i k hk
      split at aw1
      · rename_i d0 hd0
        obtain ⟨a, dx, vs, rfl, ha, e1, h2, h1⟩ := ins_ok w1 r1 hi
        obtain ⟨v, g1, g2⟩ := (h1.look x).1 k hk
        exact ⟨a, Adr X.K C, dx, _, v, e1, h2, c, na, g1, aw1 S1 H1 .refl w1 v (fk_rd w1 r1.1 g2 hd0)⟩
      · exact aw1.elim
    · exact aw1.elim
  · exact aw1.elim
theorem few_of (hst : ∀ y ∈ e :: es, NoStar y) (hfew : (e :: es).length < 30) : ((backTo pos (starEach (e :: es) X.env)).all (fun x => !x.1) && (backToKw pos (keywordEach [] X.env)).all (fun x => x.1.isSome) && decide ((e :: es).length + ([] : List Keyword).length + (if ([] : List Keyword).isEmpty then 0 else 1) < 30)) = true := by
  have nost := backTo_any (pos := pos) _ (noStar_any (env := X.env) hst)
  have h1 : (backTo pos (starEach (e :: es) X.env)).all (fun x => !x.1) = true := by
    rw [List.all_eq_true]
    intro y hy
    have := List.any_eq_false.mp nost y hy
    simpa using this
  have h2 : (backToKw pos (keywordEach [] X.env)).all (fun x => x.1.isSome) = true := rfl
  rw [h1, h2]
  simpa using hfew
theorem mcl_red {f' n C : Nat} {σ : L2.St} {H : Hp} {Q : VK} (hlen : ∀ ρ M ds M', evEs fn ces ρ M = .ok ds M' → ds.length + 1 = n) (h : tE X.K ex Wx fn (.mcl C m f' co ces) σ H Q) : tMethG (Adr X.K C) m (spF X.K ex fn f' n) Wx (tE X.K ex Wx fn co) (tEs X.K ex Wx fn ces) σ H Q := by
  obtain ⟨S, M, ρ, w, sl, aw⟩ := h
  simp only [evE] at aw
  refine ⟨S, M, ρ, w, sl, aw.bind.imp fun d M1 S1 H1 t1 w1 aw1 v1 r1 => ?_⟩
  split at aw1
  · rename_i i ks hi
    split at aw1
    · rename_i hnone
      obtain ⟨a, dx, vs, rfl, ha, rfl, h2, h1⟩ := ins_ok w1 r1 hi
      refine ⟨a, dx, _, rfl, h2, (h1.look m).2 (by simpa using hnone), S1, M1, ρ, w1, sl.mono t1, ?_⟩
      cases e1 : evEs fn ces ρ M1 with
      | bad => rw [e1] at aw1; exact aw1.elim
      | exc c M2 => rw [e1] at aw1; exact aw1
      | ok ds M2 =>
        rw [e1] at aw1
        intro S2 H2 t2 w2 us rs
        refine ⟨S2, M2, .ref i :: ds, w2, .cons (RD.mono t2 r1) rs, hlen _ _ _ _ e1, ?_⟩
        have aw2 : Aw X.K ex Wx S1 H1 σ (fn f' (.ref i :: ds) M2) (fun d _ S' H' => ∀ v, RD X.K S' H' d v → Q v H') := aw1
        cases e2 : fn f' (.ref i :: ds) M2 with
        | bad => rw [e2] at aw2; exact aw2.elim
        | exc c M3 => rw [e2] at aw2; exact fun S' H' t w => aw2 S' H' (t2.trans t) w
        | ok d M3 => rw [e2] at aw2; exact fun S' H' t w => aw2 S' H' (t2.trans t) w
    · exact aw1.elim
  · exact aw1.elim
theorem ce_mcl {f' n C : Nat} (ho : PE X o (tE X.K ex Wx fn co)) (c : Cls X.K (Adr X.K C)) (hm : Meth X.K (Adr X.K C) m f) (F : FnG X.prog X.w X.K X.mg X.base k f fd ps (spF X.K ex fn f' n)) (hgd : X.A.guards = some []) (hr : Room k X.A) (hb : Binds X.K fd ps []) (tk : Takes X Wx)
    (ha : PA X (e :: es) (tEs X.K ex Wx fn ces)) (hlen : ∀ ρ M ds M', evEs fn ces ρ M = .ok ds M' → ds.length + 1 = n)
    (hbase : attributeBase o m X.env (eval o X.env) = eval o X.env) (hl30 : (e :: es).length < 30) (hline : (apos.endLine == pos.line) = true) (hst : ∀ y ∈ e :: es, NoStar y) :
    PE X (.Call (.Attribute o m apos) (e :: es) [] pos) (tE X.K ex Wx fn (.mcl C m f' co ces)) :=
  (pe_methG ho c hm F hgd hr hb tk ha hbase (few_of hst hl30) hline (hst e List.mem_cons_self es X.env) (backTo_any _ (noStar_any fun y hy => hst y (List.mem_cons_of_mem _ hy)))).weak fun σ H Q h => mcl_red hlen h
theorem ce_mcl0 {f' C : Nat} (ho : PE X o (tE X.K ex Wx fn co)) (c : Cls X.K (Adr X.K C)) (hm : Meth X.K (Adr X.K C) m f) (F : FnG X.prog X.w X.K X.mg X.base k f fd ps (spF X.K ex fn f' 1)) (hgd : X.A.guards = some []) (hr : Room k X.A) (hb : Binds X.K fd ps []) (tk : Takes X Wx)
    (hbase : attributeBase o m X.env (eval o X.env) = eval o X.env) (hline : (apos.endLine == pos.line) = true) :
    PE X (.Call (.Attribute o m apos) [] [] pos) (tE X.K ex Wx fn (.mcl C m f' co .nil)) := by
  refine (pe_methG0 ho c hm F hgd hr hb tk hbase hline).weak fun σ H Q h => ?_
  obtain ⟨S, M, ρ, w, sl, aw⟩ := mcl_red (X := X) (ces := .nil) (n := 1) (fun ρ M ds M' e => by simp only [evEs] at e; cases e; rfl) h
  refine ⟨S, M, ρ, w, sl, aw.imp fun d M1 S1 H1 t1 w1 q v r => ?_⟩
  obtain ⟨a, dx, fs, e1, e2, e3, S2, M2, ρ2, w2, sl2, q2⟩ := q v r
  simp only [evEs] at q2
  exact ⟨a, dx, fs, e1, e2, e3, q2 S2 H1 .refl w2 [] .nil⟩
/-! ### a field is written -/
theorem cs_sfl {C : Nat} {apos : Pos} {v : Expr} (ho : PE X o (tE X.K ex Wx fn co)) (hv : PE X v (tE X.K ex Wx fn cv)) (c : Cls X.K (Adr X.K C)) (na : NoAttr X.K (Adr X.K C) x) (hs : swapsWith v (some (.Attribute o x apos)) pos.line X.env = pure false) :
    PS X (.Assign [.Attribute o x apos] v pos) (tS X.K ex Wx fn fuel (.sfl C x co cv)) := by
  refine (ps_fld ho hv hs).weak fun D σ H ⟨S, M, ρ, w, sl, aw⟩ => ?_
  simp only [evS] at aw
  refine ⟨S, M, ρ, w, sl, (aw.onto sl).imp fun d M1 S1 H1 t1 w1 q v r => ?_⟩
  split at q
  · rename_i y M2 hf
    obtain ⟨S2, w2, t2, r2⟩ := frzP_ok w1 r hf
    have t12 := t1.trans t2
    refine ⟨S2, M2, ρ, w2, sl.mono t12, (AwF.onto (sl.mono t12) (q.mono t2)).imp fun d3 M3 S3 H3 t3 w3 q3 v3 r3 => ?_⟩
    split at q3
    · rename_i i ks hi
      split at q3
      · rename_i z hz
        split at q3
        case isFalse => exact q3.elim
        rename_i hlen
        obtain ⟨a, dx, vs, rfl, ha, rfl, h2, h1⟩ := ins_ok w3 r3 hi
        have r23 := r2.mono t3
        obtain ⟨vs', g1, g2⟩ := h1.setF (x := x) (by rw [hz]; rfl) r23
        have t4 : Stp S3 H3 S3 (upd H3 a (.ins (Adr X.K C) dx (putF x v ((ks.map (·.1)).zip vs)))) := .put (L_mem ha)
        have w4 := w3.put (o := .ins (Adr X.K C) dx (putF x v ((ks.map (·.1)).zip vs))) (c := .hdr (C + 1) (setF x (.d y) ks)) ha ⟨vs', g1.gen t4.kp fun _ _ _ e => e, dx, by rw [upd_same, g2]⟩ (tabs_ins w3.tb h2)
        refine ⟨a, Adr X.K C, dx, _, rfl, h2, c, na, ?_, ?_⟩
        · rw [List.length_zip, List.length_map]; omega
        · exact (q3 S3 _ t4 w4) σ ((sl.mono (t12.trans t3)).mono t4)
      · exact q3.elim
    · exact q3.elim
  · exact q.elim
/-! ### [x, [], .., []] -/
def tEmp : Nat → TA
  | 0 => fun σ H Q => Q [] H
  | m + 1 => fun σ H Q => ∀ p, H p = none → tEmp m σ (upd H p (.lst [])) fun vs H' => Q (.ref p :: vs) H'
theorem pa_emp : ∀ {es : List Expr}, (∀ e ∈ es, ∃ pos, e = .List [] pos) → PA X es (tEmp es.length)
  | [], _ => pa_nil
  | e :: es, h => by
    obtain ⟨pos, rfl⟩ := h e List.mem_cons_self
    exact (pa_cons (pe_lst pa_nil) (pa_emp fun e he => h e (List.mem_cons_of_mem _ he)) rfl).weak fun σ H Q h => ⟨Nat.zero_le _, fun p np => h p np⟩
theorem FKRs.of {K : Kf} {S : Sk} {H : Hp} {i : Nat} : ∀ {ks : List (Str × FK)} {vs : List V}, ks.length = vs.length → (∀ (n : Nat) p v, ks[n]? = some p → vs[n]? = some v → FKR K S H i p.2 v) → FKRs K S H i ks vs
  | [], [], _, _ => .nil
  | (x, k) :: ks, v :: vs, hl, h => .cons (h 0 _ _ rfl rfl) (FKRs.of (by simpa using hl) fun n p u h1 h2 => h (n + 1) p u (by simpa using h1) (by simpa using h2))
  | [], _ :: _, hl, _ => by cases hl
  | _ :: _, [], hl, _ => by cases hl
theorem emp_run {K : Kf} {σ : L2.St} : ∀ (m : Nat) {S : Sk} {M : Mem} {H : Hp} {Q : List V → Hp → Prop}, W K S M H → (∀ vs S' H', vs.length = m → Stp S H S' H' → W K S' (M ++ List.replicate m (MO.lst [])) H' → (∀ (k : Nat) v, vs[k]? = some v → ∃ a, v = .ref a ∧ S'.L[M.length + k]? = some (some a)) → Q vs H') → tEmp m σ H Q
  | 0, S, M, H, Q, w, q => q [] S H rfl .refl (by rw [List.replicate_zero, List.append_nil]; exact w) (fun k v h => by simp at h)
  | m + 1, S, M, H, Q, w, q => by
    intro p np
    obtain ⟨t1, w1, r1⟩ := w.push (c := .lst []) (o := .lst []) np ⟨[], upd_same, .nil⟩
    refine emp_run m w1 fun vs S' H' hl t2 w2 hv => ?_
    have e1 : M ++ [MO.lst []] ++ List.replicate m (MO.lst []) = M ++ List.replicate (m + 1) (MO.lst []) := by rw [List.append_assoc]; rfl
    rw [e1] at w2
    refine q _ S' H' (by simp [hl]) (t1.trans t2) w2 fun k v hk => ?_
    cases k with
    | zero =>
      simp only [List.getElem?_cons_zero, Option.some.injEq] at hk
      subst hk
      have hm : (M ++ List.replicate (m + 1) (MO.lst []))[M.length]? = some (MO.lst []) := by
        rw [List.getElem?_append_right (Nat.le_refl _), Nat.sub_self]; rfl
      obtain ⟨a, ha⟩ := w2.lv _ _ hm (fun e => by cases e)
      have := t2.old M.length a (by simp [w.len]) ha
      have h2 : (S.L ++ [some p])[M.length]? = some (some p) := by rw [← w.len]; simp
      rw [h2] at this
      have := Option.some.inj (Option.some.inj this)
      exact ⟨p, rfl, by rw [this, Nat.add_zero]; exact ha⟩
    | succ k =>
      obtain ⟨a, g1, g2⟩ := hv k v (by simpa using hk)
      refine ⟨a, g1, ?_⟩
      rw [← g2]
      congr 1
      simp only [List.length_append, List.length_singleton]; omega
theorem ce_box (he : PE X e (tE X.K ex Wx fn cv)) (hs : NoStar e) (hes : ∀ y ∈ es, ∃ pos, y = .List [] pos) : PE X (.List (e :: es) pos) (tE X.K ex Wx fn (.box cv es.length)) := by
  refine (pe_lst (pa_cons he (pa_emp hes) (hs _ _))).weak fun σ H Q h => ?_
  obtain ⟨S, M, ρ, w, sl, aw⟩ := h
  simp only [evE] at aw
  refine ⟨S, M, ρ, w, sl, aw.bind.imp fun d M1 S1 H1 t1 w1 aw1 v1 r1 => ?_⟩
  split at aw1
  · rename_i x M2 hf
    obtain ⟨S2, w2, t2, r2⟩ := frzP_ok w1 r1 hf
    split at aw1
    · rename_i hm
      refine emp_run es.length w2 fun vs S3 H3 hl t3 w3 hv => ⟨?_, fun q nq => ?_⟩
      · have := sz_le (n := (v1 :: vs).length) (by rw [List.length_cons, hl]; omega)
        exact this
      · have l3 : S3.L.length = M2.length + es.length := by rw [w3.len, List.length_append, List.length_replicate]
        have st : Stp S3 H3 ⟨S3.L ++ [some q], S3.Z⟩ (upd H3 q (.lst (v1 :: vs))) := by
          have st0 : Stp S3 H3 S3 (upd H3 q (.lst (v1 :: vs))) := Stp.fresh nq
          refine ⟨by simp, fun i a hi h => ?_, fun a h => ?_, ⟨fun _ h => h, fun _ h => .inl h⟩, st0.keep, st0.live⟩
          · simp only [] at h; rw [List.getElem?_append_left hi] at h; exact h
          · rcases List.mem_append.mp h with h | h
            · exact .inl h
            · have : a = q := by simpa using h
              subst this; exact .inr nq
        obtain ⟨t4, w4, r4⟩ := w3.push (c := .hdr 0 (boxF x es.length)) (o := .lst (v1 :: vs)) nq ⟨v1 :: vs, FKRs.of (by simp [boxF, hl]) fun n p v h1 h2 => by
          cases n with
          | zero =>
            cases h1
            cases h2
            exact .d ((r2.mono t3).mono st)
          | succ n =>
            have h2 : vs[n]? = some v := by simpa using h2
            have hn : n < es.length := by
              have := (List.getElem?_eq_some_iff.1 h2).1
              omega
            have h1 : ((List.range es.length).map fun k => ((("" : String) : Str), FK.s (es.length - 1 - k)))[n]? = some p := by simpa [boxF] using h1
            rw [List.getElem?_map, List.getElem?_range hn] at h1
            cases h1
            obtain ⟨a, g1, g2⟩ := hv n v h2
            refine .s (by omega) fun b hb => ?_
            rw [show S3.L.length - 1 - (es.length - 1 - n) = M2.length + n by omega] at hb
            have hb : (S3.L ++ [some q])[M2.length + n]? = some (some b) := hb
            rw [List.getElem?_append_left (by omega), g2] at hb
            rw [g1, Option.some.inj (Option.some.inj hb)], upd_same⟩
        have e1 : M2.length + (List.replicate es.length (MO.lst [])).length = (M2 ++ List.replicate es.length (MO.lst [])).length := by rw [List.length_append]
        have aw2 : Aw X.K ex Wx S1 H1 σ (.ok (.ref (M2.length + (List.replicate es.length (MO.lst [])).length)) (M2 ++ List.replicate es.length (MO.lst []) ++ [.hdr 0 (boxF x es.length)])) (fun d _ S' H' => ∀ v, RD X.K S' H' d v → Q v H') := aw1
        rw [e1] at aw2
        exact aw2 _ _ ((t2.trans t3).trans t4) w4 _ r4
    · exact aw1.elim
  · exact aw1.elim
/-! ### a field as a target; an instance is made -/
def gFld (K : Kf) (ta : TE) (f : Str) : TG := fun v σ H Q => ta σ H fun x H1 => ∃ a C dx fs, x = .ref a ∧ H1 a = some (.ins C dx fs) ∧ Cls K C ∧ NoAttr K C f ∧ fs.length < 1000 ∧ Q σ (upd H1 a (.ins C dx (putF f v fs)))
theorem pg_fld {f : Str} (ho : PE X o ta) : PG X (.Attribute o f pos) (gFld X.K ta f) := by
  refine ⟨fun pins s σ H v u Q I r h => ?_⟩
  refine PySem.W.kas_attr (thn (ho.run pins s σ H _ I h) fun ov s1 ⟨x, H1, I1, rx, a, C, dx, fs, ex, ea, c, n, l, q⟩ => ?_)
  subst ex
  obtain rfl : ov = Value.ref a := rx
  exact setattr_ok I1 ea c n l r fun s3 I3 => ⟨σ, _, I3, q⟩
def tMakeG (C : Addr) (sp : Sp) (Wx : WX) (t : TA) : TE := fun σ H Q => t σ H fun vs H1 => ∀ x dx, H1 x = none → H1 dx = none → dx ≠ x →
  sp (.ref x :: vs) (upd (upd H1 dx (.own x)) x (.ins C dx [])) (fun v H2 => v = .non ∧ Q (.ref x) H2) (WE Wx σ)
theorem pe_makeG {y : Str} {p : Pos} (M : Mk X.K C f) (F : FnG X.prog X.w X.K X.mg X.base k f fd ps sp) (hgd : X.A.guards = some []) (hr : Room (k + 1) X.A) (hg : Gl X y) (hm : X.mg y = some (.ref C)) (hb : Binds X.K fd ps []) (tk : Takes X Wx)
    (ha : PA X (e :: es) t) (hdb : (y == ("__debug__" : Str)) = false) (he : starEach (e :: es) X.env = (false, eval e X.env) :: starEach es X.env) (hpl : (backTo pos (starEach es X.env)).any (·.1) = false) :
    PE X (.Call (.Name y p) (e :: es) [] pos) (tMakeG C sp Wx t) := by
  refine ⟨fun pins s σ H Q I h => ?_⟩
  refine wpAny_Call_Name_kw (ld_glob I hg hm ?_ hdb)
  refine PySem.W.callWith_K (h₀ := X.base) I.ok.mod.kin M.kp (thn (ha.run pos pins s σ H _ I h) fun us s1 ⟨vs, H1, I1, r, q⟩ => ⟨I1.kIn, ?_⟩) he hpl
  have hq := q (s1.heap.objs.size + 1) s1.heap.objs.size (I1.hok.fresh (Nat.le_succ _)) (I1.hok.fresh (Nat.le_refl _)) (Nat.ne_of_lt (Nat.lt_succ_self _))
  have I2 := Inv.made (C := C) I1
  have r2 : Vals (V.ref (s1.heap.objs.size + 1) :: vs) (Value.ref (s1.heap.objs.size + 1) :: us) := .cons rfl r
  have hl : ((Value.ref (s1.heap.objs.size + 1) :: us) ++ []).length = ps.length := by
    rw [List.append_nil]
    have e := r2.length
    rw [F.len _ _ _ _ hq] at e
    exact e.symm
  have bd := hb _ (Value.ref (s1.heap.objs.size + 1) :: us) I2.kIn hl
  rw [List.append_nil] at bd
  refine wpAny_call (make_map (f := f) I1.kIn M.makes M.init (beq_iff_eq.mp M.fn) (codeAny_mono (F.run _ X.stack _ _ ⟨Value.ref (s1.heap.objs.size + 1) :: us, []⟩ (Value.ref (s1.heap.objs.size + 1) :: us) _ _ (WE Wx σ) hgd (hr.make C us [])
    (I2.env0.make C us []) bd r2 hq) fun r s' hq' => ?_))
  cases r with
  | error e => exact passAt tk σ pins _ _ e s' I2 hq'
  | ok fl =>
    cases fl with
    | ret u =>
      obtain ⟨v, H', I3, rv, ev, q3⟩ := I2.after hq'
      subst ev
      exact ⟨rv, ⟨V.ref (s1.heap.objs.size + 1), H', I3, rfl, q3⟩⟩
    | next => exact False.elim hq'
    | brk => exact False.elim hq'
    | cont => exact False.elim hq'
/-- what the making of an instance promises -/
def spM (K : Kf) (n c : Nat) : Sp := fun vs H Q _ => ∃ S M H1 x dx us xs r M', vs = .ref x :: us ∧ H1 x = none ∧ H1 dx = none ∧ dx ≠ x ∧ H = upd (upd H1 dx (.own x)) x (.ins (Adr K c) dx []) ∧ W K S M H1 ∧ RPs K S H1 xs us ∧
  mkop n c xs M = .ok r M' ∧ ∀ S' H', Stp S H1 S' H' → W K S' M' H' → RD K S' H' r (.ref x) → Q .non H'
theorem asPs_rps : ∀ {K : Kf} {S : Sk} {H : Hp} {ds : List D} {vs : List V} {xs : List PyData}, RDs K S H ds vs → asPs ds = some xs → RPs K S H xs vs
  | _, _, _, [], _, xs, .nil, e => by cases e; exact .nil
  | _, _, _, d :: ds, _, xs, .cons r rs, e => by
    cases d with
    | p x =>
      simp only [asPs] at e
      split at e
      · rename_i ys h1
        cases e
        exact .cons r (asPs_rps rs h1)
      · cases e
    | ref i => cases e
    | scr ns => cases e
theorem mkop_ne {n c : Nat} {xs : List PyData} {M M' : Mem} {c' : Nat} : mkop n c xs M ≠ .exc c' M' := by
  intro h
  unfold mkop at h
  split at h
  · split at h
    · split at h
      · cases h
      · cases h
    · cases h
  · cases h
theorem ce_mk {n C : Nat} {y : Str} {p : Pos} (M : Mk X.K (Adr X.K C) f) (F : FnG X.prog X.w X.K X.mg X.base k f fd ps (spM X.K n C)) (hgd : X.A.guards = some []) (hr : Room (k + 1) X.A) (hg : Gl X y) (hm : X.mg y = some (.ref (Adr X.K C))) (hb : Binds X.K fd ps []) (tk : Takes X Wx)
    (ha : PA X (e :: es) (tEs X.K ex Wx fn ces)) (hdb : (y == ("__debug__" : Str)) = false) (hst : ∀ y ∈ e :: es, NoStar y) :
    PE X (.Call (.Name y p) (e :: es) [] pos) (tE X.K ex Wx fn (.mk n C ces)) := by
  refine (pe_makeG M F hgd hr hg hm hb tk ha hdb (hst e List.mem_cons_self es X.env) (backTo_any _ (noStar_any fun y hy => hst y (List.mem_cons_of_mem _ hy)))).weak fun σ H Q h => ?_
  obtain ⟨S, M, ρ, w, sl, aw⟩ := h
  simp only [evE] at aw
  refine ⟨S, M, ρ, w, sl, aw.bind.imp fun ds M1 S1 H1 t1 w1 aw1 us rs => ?_⟩
  split at aw1
  · rename_i xs hxs
    cases hm : mkop n C xs M1 with
    | bad => rw [hm] at aw1; exact aw1.elim
    | exc c M2 => exact absurd hm mkop_ne
    | ok r M2 =>
      rw [hm] at aw1
      intro x dx n1 n2 n3
      exact ⟨S1, M1, H1, x, dx, us, xs, r, M2, rfl, n1, n2, n3, rfl, w1, asPs_rps rs hxs, hm, fun S' H' t w rr => ⟨rfl, aw1 S' H' t w _ rr⟩⟩
  · exact aw1.elim
end
end Mi

set_option Elab.async false
set_option linter.all false
set_option maxRecDepth 100000
set_option maxHeartbeats 1000000
/-! Mi: from the model's own syntax to the small one. -/
namespace Mi
open PySem PySem.Spec PyProof.Rows L2
/-- a class whose instances stand in cells: its number, its fields, its methods (with a number and how many parameters), how it is made (which making, how many arguments) -/
structure ClI where
  c : Nat
  fl : List Str
  ms : List (Str × (Nat × Nat))
  mko : Option (Nat × Nat)
/-- ids: the defs by name, with a number and how many parameters; cs: constants of the module; fr: names that the module does not bind -/
structure Gt where
  ids : List (Str × (Nat × Nat))
  cs : List (Str × PyData)
  fr : List Str
  lam : List (List Str)
  exs : List Nat
  cl : List ClI
  bx : Bool
  mta : List Str
def fldOf : List ClI → Str → Option Nat
  | [], _ => none
  | p :: r, x => if p.fl.contains x then some p.c else fldOf r x
def metOf : List ClI → Str → Option (Nat × (Nat × Nat))
  | [], _ => none
  | p :: r, x => (match p.ms.lookup x with
    | some q => some (p.c, q)
    | none => metOf r x)
def mkOf : List ClI → Str → Option (Nat × (Nat × Nat))
  | [], _ => none
  | p :: r, x => (match p.mko with
    | some q => if clsNm p.c = x then some (p.c, q) else mkOf r x
    | none => mkOf r x)
def slotOf : List Str → Str → Option Nat
  | [], _ => none
  | y :: ys, x => if y = x then some 0 else match slotOf ys x with
    | some i => some (i + 1)
    | none => none
theorem slotOf_get : ∀ {N : List Str} {x : Str} {i : Nat}, slotOf N x = some i → N[i]? = some x
  | [], _, _, h => by cases h
  | y :: ys, x, i, h => by
    unfold slotOf at h
    split at h
    · rename_i e; cases h; rw [e]; rfl
    · split at h
      · rename_i j hj; cases h; exact (show ys[j]? = some x from slotOf_get hj)
      · cases h
def visB (sc : Scope) (x : Str) : Bool := match sc.names.lookup x with
  | some .local => true
  | some .cell => true
  | some .free => true
  | _ => false
def gloB (sc : Scope) (x : Str) : Bool := match sc.names.lookup x with
  | some .globalImplicit => true
  | _ => false
def ownB (own : Option Scope) (x : Str) : Bool := match own with
  | none => true
  | some s => match s.names.lookup x with
    | some .cell => true
    | _ => false
def stoB (sc : Scope) (own : Option Scope) (x : Str) : Bool := match sc.names.lookup x with
  | some .local => true
  | some .cell => ownB own x
  | _ => false
def okx : Expr → Bool
  | .Starred .. => false
  | .Set .. => false
  | .Slice .. => false
  | _ => true
def constP : Const → Option PyData
  | .none => some .none
  | .bool b => some (.bool b)
  | .int i => some (.int i)
  | .str x => some (.str x)
  | _ => none
def bopOf : Operator → Option BOp
  | .Add => some .add
  | .Sub => some .sub
  | .Mult => some .mul
  | .FloorDiv => some .fdiv
  | .Mod => some .mod
  | .Pow => some .pow
  | _ => none
def cpOf : CmpOp → COp
  | .Eq => .eq
  | .NotEq => .ne
  | .Lt => .lt
  | .LtE => .le
  | .Gt => .gt
  | .GtE => .ge
  | .Is => .is
  | .IsNot => .isnot
  | .In => .isin
  | .NotIn => .notin
theorem cpOf_of (o : CmpOp) : copOf (cpOf o) = o := by cases o <;> rfl
theorem bopOf_of {o : Operator} {b : BOp} (h : bopOf o = some b) : opOf b = o := by cases o <;> cases h <;> rfl
/-- the mark of a lambda's body: no lambda within it -/
def mkS : Scope := { kind := .function, names := [], isGenerator := true, isCoroutine := false, more := [] }
def lamOk : Option Scope → Bool
  | some s => !s.isGenerator
  | none => true
structure Rec where
  e : Scope → Option Scope → Bool → Expr → Option CE
  t : Scope → Option Scope → Expr → Option CE
section
variable (T : Gt) (N : List Str) (R : Rec) (sc : Scope) (own : Option Scope)
def cName (x : Str) : Option CE :=
  if (x == ("__debug__" : Str)) then none else if visB sc x then (if (x == ("__classdict__" : Str)) then none else match slotOf N x with
    | some i => some (.var i)
    | none => none)
  else if gloB sc x then match T.cs.lookup x with
    | some d => some (.cst d)
    | none => none
  else none
def cEs : List Expr → Option CEs
  | [] => some .nil
  | e :: es => match R.e sc own false e with
    | some c => match cEs es with
      | some cs => some (.cons c cs)
      | none => none
    | none => none
/-- arguments whose lists are made mutable -/
def cEsM : List Expr → Option CEs
  | [] => some .nil
  | e :: es => match R.e sc own true e with
    | some c => match cEsM es with
      | some cs => some (.cons c cs)
      | none => none
    | none => none
def cBool (op : BoolOp) : List Expr → Option CE
  | [] => none
  | [a] => R.e sc own false a
  | a :: rest => match R.e sc own false a with
    | some c => match cBool op rest with
      | some cr => some (match op with | .And => .and c cr | .Or => .or c cr)
      | none => none
    | none => none
def cBoolT (op : BoolOp) : List Expr → Option CE
  | [] => none
  | [a] => R.t sc own a
  | a :: rest => match R.t sc own a with
    | some c => match cBoolT op rest with
      | some cr => some (match op with | .And => .and c cr | .Or => .or c cr)
      | none => none
    | none => none
def cCmp (a : Expr) (ops : List CmpOp) (bs : List Expr) : Option CE := match ops, bs with
  | [o], [b] => match R.e sc own false a, R.e sc own false b with
    | some ca, some cb => some (.cmp (cpOf o) ca cb)
    | _, _ => none
  | [o, o'], [b, c] => match R.e sc own false a, R.e sc own false b, R.e sc own false c with
    | some ca, some cb, some cc => some (.chn (cpOf o) (cpOf o') ca cb cc)
    | _, _, _ => none
  | _, _ => none
def cOpt : Option Expr → Option CEo
  | none => some .no
  | some e => match R.e sc own false e with
    | some c => some (.yes c)
    | none => none
def isBack : Expr → Bool
  | .UnaryOp .USub (.Constant (.int i) _ _) _ => i == 1
  | _ => false
def isNo : Option Expr → Bool
  | none => true
  | some _ => false
def cSub (mt : Bool) (a i : Expr) : Option CE := match i with
  | .Slice lo hi st _ => match st with
    | none => match R.e sc own false a, cOpt R sc own lo, cOpt R sc own hi with
      | some ca, some cl, some ch => some (.slc mt ca cl ch)
      | _, _, _ => none
    | some st => if isBack st && isNo lo && isNo hi then match R.e sc own false a with
        | some ca => some (.rev mt ca)
        | none => none
      else none
  | i => match R.e sc own false a, R.e sc own false i with
    | some ca, some ci => some (.idx ca ci)
    | _, _ => none
def tyOf (x : Str) : Option Ty :=
  if x = "int" then some .int else if x = "bool" then some .bool else if x = "str" then some .str else if x = "tuple" then some .tuple else if x = "list" then some .list else if x = "dict" then some .dict else none
def bfOf (mt : Bool) (x : Str) : Option BF :=
  if x = "len" then some .len else if x = "min" then some .min else if x = "max" then some .max else if x = "abs" then some .abs else if x = "sum" then some .sum else if x = "all" then some .all
  else if x = "any" then some .any else if x = "tuple" then some .tuple else if x = "list" then some (.list mt) else if x = "repr" then some .repr else if x = "str" then some .str else if x = "sorted" then some (.sorted mt) else none
/-- list(range(a)), tuple(range(a)) -/
def cLR (m : Nat) (args : List Expr) : Option CE := match args with
  | [.Call (.Name y _) [a] [] _] => if gloB sc y && T.fr.contains y && decide (y = "range") then match R.e sc own false a with
      | some ca => some (.nat m (.cons ca .nil))
      | none => none
    else none
  | _ => none
def cCall (mt : Bool) (x : Str) (args : List Expr) : Option CE :=
  if gloB sc x && !(x == ("__debug__" : Str)) then match T.ids.lookup x with
    | some (f, n) => if args.length = n then match (if T.mta.contains x then cEsM R sc own args else cEs R sc own args) with
        | some cs => some (.call f cs)
        | none => none
      else none
    | none => if T.fr.contains x then
        (if x = "isinstance" then match args with
          | [a, .Name t _] => if gloB sc t && T.fr.contains t then match R.e sc own false a, tyOf t with
              | some ca, some ty => some (.blt (.isi ty) (.cons ca .nil))
              | _, _ => none
            else none
          | _ => none
        else match (if x = "list" then cLR T R sc own 5 args else if x = "tuple" then cLR T R sc own 8 args else none) with
        | some c => some c
        | none => if args.isEmpty then none else match bfOf mt x, cEs R sc own args with
          | some b, some cs => some (.blt b cs)
          | _, _ => none)
      else none
  else none
def isCall : Expr → Bool
  | .Call (.Name _ _) [] [] _ => true
  | _ => false
def cMethI (o : Expr) (e : Expr) : Option CE := match o with
  | .Name x _ => if (x == ("__debug__" : Str)) then none else if gloB sc x then (match T.cs.lookup x with
      | some (.tuple xs) => (match R.e sc own false e with
        | some c => some (.txm .tidx (.cst (.tuple xs)) c)
        | none => none)
      | _ => none)
    else none
  | _ => none
def isTxt : Expr → Bool
  | .Constant (.str _) _ _ => true
  | _ => false
def cMethX (o : Expr) (m : Str) (args : List Expr) : Option CE := match args with
  | [e] => if m = "count" then (if isTxt e then (match R.e sc own false o, R.e sc own false e with
    | some co, some c => some (.txm .cnt co c)
    | _, _ => none) else none) else if m = "index" then cMethI T R sc own o e else (match R.e sc own false o, R.e sc own false e with
    | some co, some c => if m = "join" then some (.txm .join co c) else if m = "split" then some (.txm .split co c) else if m = "partition" then some (.txm .part co c) else none
    | _, _ => none)
  | [e, f] => if m = "get" then (match R.e sc own false o, R.e sc own false e, R.e sc own false f with
    | some d, some a, some b => some (.dgt d a b)
    | _, _, _ => none) else none
  | _ => none
def cUpp (o : Expr) (m : Str) (ap cp : Pos) : Option CE :=
  if !isCall o && (ap.endLine == cp.line) && decide (m = "upper") then (match R.e sc own false o with
    | some co => some (.txm .upp co (.cst .none))
    | none => none) else none
def cMeth (o : Expr) (m : Str) (args : List Expr) (ap cp : Pos) : Option CE :=
  if !isCall o && (ap.endLine == cp.line) && !args.isEmpty && decide (args.length < 30) then match cMethX T R sc own o m args with
    | some c => some c
    | none => (match R.e sc own false o, cEs R sc own args with
      | some co, some cs => if m = "append" then some (.mth .append co cs) else if m = "count" then some (.mth .count co cs) else if m = "pop" then some (.mth .pop co cs) else none
      | _, _ => none)
  else none
def cNms : List Expr → Option (List Nat)
  | [] => some []
  | .Name x _ :: es => if stoB sc own x then match slotOf N x, cNms es with
      | some i, some is => some (i :: is)
      | _, _ => none
    else none
  | _ => none
def cTg : Expr → Option Tg
  | .Name x _ => if stoB sc own x then match slotOf N x with
      | some i => some (.nm i)
      | none => none
    else none
  | .Tuple es _ _ => match cNms N sc own es with
    | some is => some (.tp is)
    | none => none
  | _ => none
def isTup : Expr → Bool
  | .Tuple .. => true
  | _ => false
def cIter (tg iter : Expr) : Option CI := match iter with
  | .Call (.Name x _) args [] _ =>
    if gloB sc x && T.fr.contains x && decide (x = "range") then match args with
      | [a] => match R.e sc own false a with
        | some c => some (.rng c)
        | none => none
      | [a, b] => match R.e sc own false a, R.e sc own false b with
        | some c, some d => some (.rng2 c d)
        | _, _ => none
      | _ => none
    else if gloB sc x && T.fr.contains x && decide (x = "enumerate") then match args with
      | [a] => if isTup tg then match R.e sc own false a with
          | some c => some (.enum c)
          | none => none
        else none
      | _ => none
    else if gloB sc x && T.fr.contains x && decide (x = "zip") then match args with
      | [a, b] => if isTup tg then match R.e sc own false a, R.e sc own false b with
          | some c, some d => some (.zip c d)
          | _, _ => none
        else none
      | [a, b, e] => if isTup tg then match R.e sc own false a, R.e sc own false b, R.e sc own false e with
          | some c, some d, some f => some (.zip3 c d f)
          | _, _, _ => none
        else none
      | _ => none
    else match R.e sc own false iter with
      | some c => some (.seq c)
      | none => none
  | iter => match R.e sc own false iter with
    | some c => some (.seq c)
    | none => none
def ownFrom (scope : Scope) : Nat → List Str → List (Str × Nat)
  | _, [] => []
  | i, x :: xs => match scope.names.lookup x with
    | some .local => (x, i) :: ownFrom scope (i + 1) xs
    | some .cell => (x, i) :: ownFrom scope (i + 1) xs
    | _ => ownFrom scope (i + 1) xs
def ownOf (scope : Scope) : List (Str × Nat) := ownFrom scope 0 N
def cLC (mt : Bool) (elt tg iter : Expr) (ifs : List Expr) (scope : Scope) : Option CE :=
  if blkC N sc scope (ownOf N scope) && lamOk own then
    match cIter T R sc own tg iter, cTg N (relS scope sc) (some scope) tg, (match ifs with
      | [] => some CEo.no
      | [c] => (match R.t (relS scope sc) (some scope) c with
        | some c => some (CEo.yes c)
        | none => none)
      | _ => none), R.e (relS scope sc) (some scope) false elt with
    | some ci, some t, some cc, some ce => if (tgSlots t).all fun i => decide (i ∈ (ownOf N scope).map (·.2)) then some (.comp mt ((ownOf N scope).map (·.2)) t ci cc ce) else none
    | _, _, _, _ => none
  else none
def cDict (ks : List (Option Expr)) (vs : List Expr) : Option CE := match ks, vs with
  | [], [] => some (.dct .nil .nil)
  | [some (.Constant (.str a) _ _), some (.Constant (.str b) _ _)], [.Constant v _ _, .Constant u _ _] => if a = b then none else (match constP v, constP u with
    | some vd, some ud => some (.dct (.cons (.cst (.str a)) (.cons (.cst (.str b)) .nil)) (.cons (.cst vd) (.cons (.cst ud) .nil)))
    | _, _ => none)
  | [some (.Constant k _ _)], [.Constant v _ _] => match constP k, constP v with
    | some kd, some vd => if keyOk kd then some (.dct (.cons (.cst kd) .nil) (.cons (.cst vd) .nil)) else none
    | _, _ => none
  | _, _ => none
def noPar : Arguments → Bool
  | ⟨[], [], none, [], [], none, []⟩ => true
  | _ => false
/-- _law_said(lambda: f(..)) -/
def cSaid (x : Str) (args : List Expr) : Option CE := if decide (x = "_law_said") && lamOk own && T.lam.contains N && gloB sc "_law_said" then (match args with
    | [.Lambda params (.Call (.Name g _) es [] _) scope _] => if noPar params && LamX.lamSB sc scope && gloB scope g && !(g == ("__debug__" : Str)) && !es.isEmpty then (match T.ids.lookup g with
        | some (f, n) => if es.length = n then (match cEs R scope (some mkS) es with
            | some cs => some (.said f cs)
            | none => none) else none
        | none => none) else none
    | _ => none)
  else none
def isEmp : Expr → Bool
  | .List [] _ => true
  | _ => false
/-- [e, [], .., []] -/
def cBox (es : List Expr) : Option CE := match es with
  | e :: r => if !r.isEmpty && r.all isEmp then (match R.e sc own false e with
    | some c => some (.box c r.length)
    | none => none) else none
  | [] => none
def cFld (o : Expr) (x : Str) : Option CE := if isCall o then none else (match fldOf T.cl x, R.e sc own false o with
  | some c, some co => some (.fld c x co)
  | _, _ => none)
def cMcl (o : Expr) (m : Str) (args : List Expr) (ap cp : Pos) : Option CE := if !isCall o && (ap.endLine == cp.line) && decide (args.length < 30) then (match metOf T.cl m with
  | some (c, (f, n)) => if args.length + 1 = n then (match R.e sc own false o, cEs R sc own args with
    | some co, some cs => some (.mcl c m f co cs)
    | _, _ => none) else none
  | none => none) else none
def cMk (x : Str) (args : List Expr) : Option CE := if lamOk own && gloB sc x && !(x == ("__debug__" : Str)) && !args.isEmpty then (match mkOf T.cl x with
  | some (c, (n, a)) => if args.length = a then (match cEs R sc own args with
    | some cs => some (.mk n c cs)
    | none => none) else none
  | none => none) else none
def stepE (mt : Bool) (e : Expr) : Option CE :=
  match e with
  | .Constant c _ _ => (match constP c with
    | some d => some (.cst d)
    | none => none)
  | .Name x _ => cName T N sc x
  | .BinOp a op b _ => (match bopOf op, R.e sc own false a, R.e sc own false b with
    | some o, some ca, some cb => some (.bin o mt ca cb)
    | _, _, _ => none)
  | .UnaryOp op a _ => (match op with
    | .USub => (match R.e sc own false a with
      | some c => some (.neg c)
      | none => none)
    | .Not => (match R.e sc own false a with
      | some c => some (.not c)
      | none => none)
    | _ => none)
  | .BoolOp op vs _ => cBool R sc own op vs
  | .Compare a ops bs _ => cCmp R sc own a ops bs
  | .IfExp c a b _ => (match R.t sc own c, R.e sc own mt a, R.e sc own mt b with
    | some cc, some ca, some cb => some (.ife cc ca cb)
    | _, _, _ => none)
  | .Tuple (.Starred e _ :: es) _ _ => (match R.e sc own false e, cEs R sc own es with
    | some c, some cs => some (.tst c cs)
    | _, _ => none)
  | .Tuple es _ _ => (match cEs R sc own es with
    | some cs => some (.tup cs)
    | none => none)
  | .List es _ => (match (if T.bx then cBox R sc own es else none) with
    | some c => some c
    | none => (match cEs R sc own es with
      | some cs => some (.lst mt cs)
      | none => none))
  | .Attribute o x _ => cFld T R sc own o x
  | .Dict ks vs _ => cDict ks vs
  | .Subscript a i _ => cSub R sc own mt a i
  | .Call f args kws cp => (match f, kws with
    | .Name x _, [] => (match cSaid T N R sc own x args with
      | some c => some c
      | none => (match cMk T R sc own x args with
        | some c => some c
        | none => cCall T R sc own mt x args))
    | .Attribute o m ap, [] => (match cMcl T R sc own o m args ap cp with
      | some c => some c
      | none => (match args with
        | [] => cUpp R sc own o m ap cp
        | args => cMeth T R sc own o m args ap cp))
    | _, _ => none)
  | .ListComp elt gs scope _ => (match gs with
    | [⟨tg, iter, ifs, 0⟩] => cLC T N R sc own mt elt tg iter ifs scope
    | _ => none)
  | _ => none
def stepT (e : Expr) : Option CE :=
  match e with
  | .BoolOp op vs _ => cBoolT R sc own op vs
  | .UnaryOp .Not a _ => (match R.t sc own a with
    | some c => some (.not c)
    | none => none)
  | .IfExp .. => none
  | e => R.e sc own false e
end
def recs (T : Gt) (N : List Str) : Nat → Rec
  | 0 => ⟨fun _ _ _ _ => none, fun _ _ _ => none⟩
  | n + 1 => ⟨fun sc own mt e => stepE T N (recs T N n) sc own mt e, fun sc own e => stepT (recs T N n) sc own e⟩
end Mi

set_option Elab.async false
set_option linter.all false
set_option maxRecDepth 100000
set_option maxHeartbeats 2000000
/-! Mi: how a law's own _law_word calls a caught exception (the suite is not calm: rules of its own, slot 0 the exception). -/
namespace Mi
open PySem PySem.Spec PyProof.Rows L2
theorem idx_find {xs : List PyData} {d : PyData} : ∀ {j : Nat}, xs.findIdx? (fun y => PyData.eqv y d) = some j → (xs.map fun y => PyData.eqv y d).idxOf true = j ∧ true ∈ xs.map fun y => PyData.eqv y d := by
  induction xs with
  | nil => intro j h; simp at h
  | cons x xs ih =>
    intro j h
    rw [List.findIdx?_cons] at h
    rw [List.map_cons, List.idxOf_cons]
    cases e : PyData.eqv x d with
    | true =>
      rw [e] at h
      cases h
      exact ⟨rfl, List.mem_cons_self⟩
    | false =>
      rw [e] at h
      cases h2 : xs.findIdx? (fun y => PyData.eqv y d) with
      | none => rw [h2] at h; cases h
      | some i =>
        rw [h2] at h
        cases h
        obtain ⟨h3, h4⟩ := ih h2
        exact ⟨by rw [h3]; rfl, List.mem_cons_of_mem _ h4⟩
section
variable {X : Cx}
theorem b_index (hu : X.A.units + 64 < cLine) : CallR X (.builtin "list.index") (rCD X.K (two bIndex)) := by
  refine b_two fun pins s σ H S M d e x y u t a b r M' Q I ru rt w rx ry ha hb' hb af => ?_
  unfold bIndex at hb
  split at hb
  · rename_i xs
    split at hb
    · rename_i hk
      split at hb
      · rename_i j hj
        cases hb
        obtain ⟨p, vs, e1, q1, p1⟩ := rd_lst w rx ha
        subst e1
        cases ru
        obtain ⟨h1, h2, h3⟩ := inOk_of hk
        have hz := (rd_obj I q1).1
        obtain ⟨its', as, l1, l2, l3⟩ := seq_reads I q1 p1
        obtain ⟨bs, r2, _⟩ := rd_reads I w ry rt hb'
        have he := SeqAt.items_plain l2 r2 h1 h2 (units60 (A := X.A) hu h3)
        obtain ⟨g1, g2⟩ := idx_find hj
        have hlen : its'.toList.length = (xs.map fun z => PyData.eqv z b).length := by rw [List.length_map, ← l3]; exact Array.length_toList
        refine SeqAt.call_list_index (vs := its'.toList) (ks := xs.map fun z => PyData.eqv z b) (k := true) (by rw [Array.toArray_toList]; exact l1) ⟨hlen, fun i q1 q2 => ?_⟩ ?_ g2 ?_
        · obtain ⟨z1, z2⟩ := SeqAt.readOf_at l2 h1 i (by simpa using q1)
          have hm := he its'.toList[i] (by rw [← Array.mem_toList_iff]; exact List.getElem_mem q1)
          rw [show SeqAt.readOf s.heap its'.toList[i] = xs[i] from by rw [← z2]; simp] at hm
          rw [List.getElem_map, Bool.decide_eq_true]
          exact hm
        · rw [List.length_map, p1.length]; exact hz
        · rw [g1]
          exact ⟨.int _, H, I.tok _, ⟨_, rfl⟩, af.here w (.int _)⟩
      · cases hb
    · cases hb
  · cases hb
end
/-! ### rules where slot 0 holds the exception at a -/
section
variable (K : Kf) (ex : Nat → Value) (Wx : WX) (fn : Fn) (a : Addr)
def zE (c : CE) : TE := fun σ H Q => σ[0]? = some (some (V.ref a)) ∧ tE K ex Wx fn c σ H Q
def zEs (c : CEs) : TA := fun σ H Q => σ[0]? = some (some (V.ref a)) ∧ tEs K ex Wx fn c σ H Q
def zT (c : CE) : TT := fun σ H Q => σ[0]? = some (some (V.ref a)) ∧ tT K ex Wx fn c σ H Q
def zS (fuel : Nat) (c : CS) : TS := fun D σ H => σ[0]? = some (some (V.ref a)) ∧ tS K ex Wx fn fuel c D σ H
def zSs (fuel : Nat) (c : CSs) : TS := fun D σ H => σ[0]? = some (some (V.ref a)) ∧ tSs K ex Wx fn fuel c D σ H
end
/-- a class by its name: own, or built in -/
def ClsN (mg : Str → Option Value) (x : Str) (cv : Value) : Prop := (∃ C, mg x = some (.ref C) ∧ cv = .ref C) ∨ (mg x = none ∧ x ≠ "__name__" ∧ ∃ T, bootBuiltins x = some (.type T) ∧ cv = .type T)
section
variable {X : Cx} {ex : Nat → Value} {Wx : WX} {fn : Fn} {fuel : Nat} {a : Addr} {p q e : Expr} {es : List Expr} {ca cb cc : CE} {cs : CEs} {pos : Pos}
theorem call_isP {D : Addr} {oe : Obj} (hp : (a, oe) ∈ X.pn) (kd : ExcC X.K D) (hz : Zc (.ref D) none oe) (hf : ∃ vs, oe.data = .fields vs) : CallR X (.builtin "isinstance") (rIsE X.K D a) := by
  rintro pins s σ H xs us Q I r ⟨c, cv, b, rfl, hcv, hk, q⟩
  obtain ⟨u1, u2, rfl, r1, r2⟩ := vals2 r
  obtain rfl : u1 = Value.ref a := r1
  obtain rfl := hcv _ r2
  have at0 := (I.pin (a, oe) (List.mem_append_left _ hp)).1
  obtain ⟨flds, hfl⟩ := hf
  have J : PySem.W.InstAt s.heap a oe D none := by
    cases oe
    obtain ⟨z1, z2⟩ := hz
    cases z1
    cases z2
    cases hfl
    exact ⟨at0, rfl, rfl, trivial⟩
  refine PySem.W.kia_one (PySem.W.handS_kitx_exc kd.hg kd.hk kd.hs kd.hd kd.ha kd.hn kd.ht kd.hm) I.kIn J hk (fun z => nomatch z) ?_
  exact fun tk => ⟨.bl b, H, I.tok tk, rfl, q⟩
theorem z_isi {D : Addr} {oe : Obj} {y x : Str} {cv : Value} {b : Bool} {p1 p2 p3 : Pos} (hp : (a, oe) ∈ X.pn) (kd : ExcC X.K D) (hz : Zc (.ref D) none oe) (hf : ∃ vs, oe.data = .fields vs) (hN : X.N[0]? = some y) (hv : Vis X.env.scope y) (hd : (y == ("__debug__" : Str)) = false) (hcd : (y == ("__classdict__" : Str)) = false)
    (hg : Gl X "isinstance") (hm : X.mg "isinstance" = none) (gx : Gl X x) (hx : (x == ("__debug__" : Str)) = false) (cl : ClsN X.mg x cv) (hk : PySem.W.kitOne X.K (.ref D) cv = some b) :
    PE X (.Call (.Name "isinstance" p1) [.Name y p2, .Name x p3] [] pos) (zE X.K ex Wx fn a (.cst (.bool b))) := by
  obtain ⟨c, hc, rc⟩ : ∃ c, PE X (.Name x p3) (tC c) ∧ ∀ u, RelV c u → u = cv := by
    rcases cl with ⟨C, m, rfl⟩ | ⟨m, nn, T, bb, rfl⟩
    · exact ⟨.ref C, pe_glob gx m rfl hx, fun u r => r⟩
    · exact ⟨.ty T, pe_bltn gx m bb rfl nn hx, fun u r => r⟩
  refine (pe_callB (call_isP hp kd hz hf) hg hm (by decide +kernel) (pa_cons (pe_var hN hv hd hcd) (pa_cons hc pa_nil rfl) rfl) (by decide) (by decide) rfl rfl).weak fun σ H Q ⟨h0, S, M, ρ, w, sl, aw⟩ => ?_
  simp only [evE] at aw
  exact ⟨.ref a, h0, c, cv, b, rfl, rc, hk, aw.of_ok w _ (.bl b)⟩
theorem z_var {i : Nat} {x : Str} (hN : X.N[i]? = some x) (hv : Vis X.env.scope x) (hd : (x == ("__debug__" : Str)) = false) (hcd : (x == ("__classdict__" : Str)) = false) : PE X (.Name x pos) (zE X.K ex Wx fn a (.var i)) := (ce_var hN hv hd hcd).weak fun σ H Q h => h.2
theorem z_cst {d : PyData} {v : V} (h : PE X e (tC v)) (r : ∀ S H, RP X.K S H d v) : PE X e (zE X.K ex Wx fn a (.cst d)) := (ce_cst h r).weak fun σ H Q h => h.2
theorem z_add (ha : PE X p (zE X.K ex Wx fn a ca)) (hb : PE X q (zE X.K ex Wx fn a cb)) : PE X (.BinOp p .Add q pos) (zE X.K ex Wx fn a (.bin .add false ca cb)) := by
  refine (pe_op (op_bin .add false) ha hb).weak fun σ H Q ⟨h0, S, M, ρ, w, sl, aw⟩ => ?_
  simp only [evE] at aw
  refine ⟨h0, S, M, ρ, w, sl, aw.bind.imp fun d M1 S1 H1 t1 w1 aw1 v1 r1 => ⟨h0, S1, M1, ρ, w1, sl.mono t1, aw1.bind.imp fun d2 M2 S2 H2 t2 w2 aw2 v2 r2 => ?_⟩⟩
  obtain ⟨r, M3, hb, af⟩ := aw2.ok binop_ne
  exact ⟨S2, M2, d, d2, r, M3, w2, r1.mono t2, r2, hb, fun S' H' v t w r => af S' H' t w v r⟩
theorem z_idx (ha : PE X p (zE X.K ex Wx fn a ca)) (hb : PE X q (zE X.K ex Wx fn a cb)) (hs : PlainIx q) : PE X (.Subscript p q pos) (zE X.K ex Wx fn a (.idx ca cb)) := by
  refine (pe_ix ix_any ha hb hs).weak fun σ H Q ⟨h0, S, M, ρ, w, sl, aw⟩ => ?_
  simp only [evE] at aw
  refine ⟨h0, S, M, ρ, w, sl, aw.bind.imp fun d M1 S1 H1 t1 w1 aw1 v1 r1 => ⟨h0, S1, M1, ρ, w1, sl.mono t1, aw1.bind.imp fun d2 M2 S2 H2 t2 w2 aw2 v2 r2 => ?_⟩⟩
  obtain ⟨r, M3, hb, af⟩ := aw2.ok idxop_ne
  exact ⟨S2, M2, d, d2, r, M3, w2, r1.mono t2, r2, hb, fun S' H' v t w r => af S' H' t w v r⟩
theorem z_ne (hu : X.A.units + 64 < cLine) (ha : PE X p (zE X.K ex Wx fn a ca)) (hb : PE X q (zE X.K ex Wx fn a cb)) (hm : behindInMarks .NotEq q = false) : PT X (.Compare p [.NotEq] [q] pos) (zT X.K ex Wx fn a (.cmp .ne ca cb)) := by
  refine (pt_cmpR (op_cmp hu .ne) ha hb hm).weak fun σ H Q ⟨h0, S, M, ρ, w, sl, aw⟩ => ?_
  simp only [evE] at aw
  refine ⟨h0, S, M, ρ, w, sl, aw.bind.imp fun d M1 S1 H1 t1 w1 aw1 v1 r1 => ⟨h0, S1, M1, ρ, w1, sl.mono t1, aw1.bind.imp fun d2 M2 S2 H2 t2 w2 aw2 v2 r2 => ?_⟩⟩
  obtain ⟨r, M3, hb, af⟩ := aw2.ok cmpop_ne
  refine ⟨S2, M2, d, d2, r, M3, w2, r1.mono t2, r2, hb, fun S' H' v t w r => ?_⟩
  obtain ⟨k, rfl, rfl⟩ := cmp_bool hb
  obtain ⟨k', hk, q⟩ := af S' H' t w
  cases hk
  cases (show RP X.K S' H' (.bool k) v from r)
  exact ⟨k, rfl, q⟩
theorem z_any (ha : PE X p (zE X.K ex Wx fn a ca)) (he : ∀ whole, isTrue p X.env whole = (do let v ← whole; standAt p.pos; holding [v] (truthy v))) : PT X p (zT X.K ex Wx fn a ca) := by
  refine (pt_truth ha he).weak fun σ H Q ⟨h0, S, M, ρ, w, sl, aw⟩ => ⟨h0, S, M, ρ, w, sl, aw.imp fun d M1 S1 H1 t1 w1 aw1 v r => ?_⟩
  obtain ⟨k, hk, q⟩ := aw1
  exact ⟨k, tru_of w1 r hk, q⟩
theorem z_not (ha : PT X p (zT X.K ex Wx fn a ca)) : PT X (.UnaryOp .Not p pos) (zT X.K ex Wx fn a (.not ca)) := by
  refine (pt_not ha).weak fun σ H Q ⟨h0, S, M, ρ, w, sl, aw⟩ => ?_
  simp only [evE] at aw
  refine ⟨h0, S, M, ρ, w, sl, aw.bind.imp fun d M1 S1 H1 t1 w1 aw1 => ?_⟩
  obtain ⟨k, hk, q⟩ := toB_ok aw1.bind w1
  obtain ⟨k', hk', q'⟩ := q.of_ok w1
  cases hk'
  exact ⟨k, hk, q'⟩
theorem z_or (ha : PT X p (zT X.K ex Wx fn a ca)) (hb : PT X q (zT X.K ex Wx fn a cb)) : PT X (.BoolOp .Or [p, q] pos) (zT X.K ex Wx fn a (.or ca cb)) := by
  refine ((pw_or ha (pw_or1 hb)).pt).weak fun σ H Q ⟨h0, S, M, ρ, w, sl, aw⟩ => ?_
  simp only [evE] at aw
  refine ⟨h0, S, M, ρ, w, sl, aw.bind.imp fun d M1 S1 H1 t1 w1 aw1 => ?_⟩
  obtain ⟨k, rfl, q⟩ := isB_ok aw1.bind w1
  refine ⟨k, rfl, ?_⟩
  cases k with
  | false => exact iteF ⟨h0, S1, M1, ρ, w1, sl.mono t1, q⟩
  | true =>
    obtain ⟨k', hk, q'⟩ := q.of_ok w1
    cases hk
    exact iteT q'
theorem z_nil : PA X [] (zEs X.K ex Wx fn a .nil) := ca_nil.weak fun σ H Q h => h.2
theorem z_cons (ha : PE X e (zE X.K ex Wx fn a ca)) (hr : PA X es (zEs X.K ex Wx fn a cs)) (hs : starEach (e :: es) X.env = (false, eval e X.env) :: starEach es X.env) : PA X (e :: es) (zEs X.K ex Wx fn a (.cons ca cs)) := by
  refine (pa_cons ha hr hs).weak fun σ H Q ⟨h0, S, M, ρ, w, sl, aw⟩ => ?_
  simp only [evEs] at aw
  refine ⟨h0, S, M, ρ, w, sl, aw.bind.imp fun d M1 S1 H1 t1 w1 aw1 v1 r1 => ⟨h0, S1, M1, ρ, w1, sl.mono t1, aw1.bind.imp fun ds M2 S2 H2 t2 w2 aw2 vs rs => ?_⟩⟩
  exact aw2.of_ok w2 _ (.cons (r1.mono t2) rs)
theorem z_lst (h : PA X es (zEs X.K ex Wx fn a cs)) : PE X (.List es pos) (zE X.K ex Wx fn a (.lst false cs)) := by
  refine (pe_lst h).weak fun σ H Q ⟨h0, S, M, ρ, w, sl, aw⟩ => ?_
  simp only [evE] at aw
  refine ⟨h0, S, M, ρ, w, sl, aw.bind.imp fun ds M1 S1 H1 t1 w1 aw1 vs rs => ?_⟩
  split at aw1
  · rename_i xs M2 hf
    split at aw1
    · rename_i hz
      obtain ⟨S2, w2, t2, r2⟩ := frzPs_ok w1 rs hf
      obtain ⟨r, M3, hb, af⟩ := aw1.ok alloc_ne
      exact ⟨by rw [← r2.length]; exact sz_le hz, fun p np => Aft.new w2 hb r2 (fun S' H' v t w r => af S' H' (t2.trans t) w v r) np⟩
    · exact aw1.elim
  · exact aw1.elim
theorem z_mth {m : MF} {name : Str} {id : String} {apos : Pos} (slot : Slot "list" name id) (hty : typeOf (.builtin id) = pure (.type "method_descriptor"))
    (hm : MtM X id (fun x vs H Q => ∃ S M o ds r M', W X.K S M H ∧ RD X.K S H o x ∧ RDs X.K S H ds vs ∧ mthop m o ds M = .ok r M' ∧ Aft X.K S H r M' Q)) (hne : ∀ o ds M c M', mthop m o ds M ≠ .exc c M')
    (ho : PE X p (zE X.K ex Wx fn a ca)) (he : PE X e (zE X.K ex Wx fn a cb)) (hbase : attributeBase p name X.env (eval p X.env) = eval p X.env) (hline : (apos.endLine == pos.line) = true) (hst : NoStar e) :
    PE X (.Call (.Attribute p name apos) [e] [] pos) (zE X.K ex Wx fn a (.mth m ca (.cons cb .nil))) := by
  refine (pe_bm PySem.F.plainAttrs_list slot hty hm ho (z_cons he z_nil (hst _ _)) hbase (few_one hst) hline (hst _ _) rfl).weak fun σ H Q ⟨h0, S, M, ρ, w, sl, aw⟩ => ?_
  simp only [evE] at aw
  refine ⟨h0, S, M, ρ, w, sl, aw.bind.imp fun d M1 S1 H1 t1 w1 aw1 v1 r1 => ?_⟩
  split at aw1
  · rename_i hr
    refine ⟨recv_ty w1 r1 hr, h0, S1, M1, ρ, w1, sl.mono t1, aw1.bind.imp fun ds M2 S2 H2 t2 w2 aw2 vs rs => ?_⟩
    obtain ⟨r, M4, hb, af⟩ := aw2.ok (hne _ _ _)
    exact ⟨S2, M2, d, ds, r, M4, w2, r1.mono t2, rs, hb, fun S' H' v t w r => af S' H' t w v r⟩
  · exact aw1.elim
end
/-! ### the body -/
def env0 (sc : Scope) : PySem.Env := { scope := sc, locals := 0, globals := 0, cells := [] }
def pos0 : Pos := ⟨0, 0, 0, 0⟩
def semOf {α : Type} : Sem α → Option α
  | .pure a => some a
  | _ => none
theorem semOf_ok {α : Type} {x : Sem α} {a : α} (h : semOf x = some a) : x = pure a := by
  cases x <;> cases h
  rfl
def swB (sc : Scope) (y : Str) (py : Pos) (e : Expr) : Option Bool := semOf (swapsWith e (some (.Name y py)) 0 (env0 sc))
theorem swB_ok {sc : Scope} {y : Str} {py : Pos} {e : Expr} {b : Bool} {env : PySem.Env} {l : Nat} (hs : env.scope = sc) (h : swB sc y py e = some b) : swapsWith e (some (.Name y py)) l env = pure b := by
  subst hs
  exact semOf_ok h
theorem okx_star {e : Expr} (h : okx e = true) : NoStar e := by
  intro rest env
  cases e <;> first | rfl | cases h
theorem okx_marks {e : Expr} (h : okx e = true) (o : CmpOp) : behindInMarks o e = false := by
  cases e <;> first | rfl | cases h
theorem okx_ix {e : Expr} (h : okx e = true) : PlainIx e := by
  intro o i
  cases e <;> first | rfl | cases h
theorem attr_of {o : Expr} (h : isCall o = false) (m : Str) (env : PySem.Env) : attributeBase o m env (eval o env) = eval o env := by
  cases o <;> try rfl
  rename_i f args kws p
  cases f <;> try rfl
  cases args <;> try rfl
  cases kws <;> first | rfl | cases h
section
variable {X : Cx} {ex : Nat → Value} {Wx : WX} {fn : Fn} {fuel : Nat} {a : Addr} {e c : Expr} {rest : List Stmt} {ca cc : CE} {cs : CSs} {pos : Pos}
theorem z_end (he : PE X e (zE X.K ex Wx fn a ca)) : PSs X [.Return (some e) pos] (zSs X.K ex Wx fn a fuel (.cons (.ret ca) .nil)) := by
  refine (pss_one (ps_ret he)).weak fun D σ H ⟨h0, S, M, ρ, w, sl, aw⟩ => ?_
  simp only [evSs, evS] at aw
  refine ⟨h0, S, M, ρ, w, sl, ?_⟩
  cases e1 : evE fn ca ρ M with
  | bad => rw [e1] at aw; exact aw.elim
  | exc x M1 => rw [e1] at aw; exact fun S' H' t w' => aw S' H' t w' σ (sl.mono t)
  | ok d M1 => rw [e1] at aw; exact fun S' H' t w' v r => aw S' H' t w' v r
theorem z_setC {i : Nat} {x : Str} {pos' : Pos} (hN : X.N.Nodup) (hi : X.N[i + 1]? = some x) (hx : X.env.scope.names.lookup x = some .local) (he : PE X e (zE X.K ex Wx fn a ca)) (hs : swapsWith e (some (.Name x pos')) pos.line X.env = pure false) (hr : PSs X rest (zSs X.K ex Wx fn a fuel cs)) :
    PSs X (.Assign [.Name x pos'] e pos :: rest) (zSs X.K ex Wx fn a fuel (.cons (.asg (.nm (i + 1)) ca) cs)) := by
  refine (pss_cons (ps_set hN hi (.inl hx) he hs (.inr hx)) hr).weak fun D σ H ⟨h0, S, M, ρ, w, sl, aw⟩ => ?_
  simp only [evSs, evS] at aw
  refine ⟨h0, S, M, ρ, w, sl, ?_⟩
  cases e1 : evE fn ca ρ M with
  | bad => rw [e1] at aw; exact aw.elim
  | exc x M1 => rw [e1] at aw; exact fun S' H' t w' => aw S' H' t w' σ (sl.mono t)
  | ok d M1 =>
    rw [e1] at aw
    refine fun S' H' t w' v r => ⟨?_, S', M1, ρ.set (i + 1) (some d), w', (sl.mono t).set (i + 1) r, ?_⟩
    · rw [List.getElem?_set_ne (by omega)]; exact h0
    · exact AwF.mono aw t
theorem z_ifC {p1 p2 : Pos} (hc : PT X c (zT X.K ex Wx fn a cc)) (he : PE X e (zE X.K ex Wx fn a ca)) (hr : PSs X rest (zSs X.K ex Wx fn a fuel cs)) :
    PSs X (.If c [.Return (some e) p1] [] p2 :: rest) (zSs X.K ex Wx fn a fuel (.cons (.ife cc (.cons (.ret ca) .nil) .nil) cs)) := by
  refine (pss_cons (ps_if hc (pss_one (ps_ret he)) pss_nil) hr).weak fun D σ H ⟨h0, S, M, ρ, w, sl, aw⟩ => ?_
  simp only [evSs, evS] at aw
  refine ⟨h0, S, M, ρ, w, sl, ?_⟩
  cases e1 : evE fn cc ρ M with
  | bad => rw [e1] at aw; exact aw.elim
  | exc x M1 => rw [e1] at aw; exact fun S' H' t w' => aw S' H' t w' σ (sl.mono t)
  | ok d M1 =>
    rw [e1] at aw
    intro S' H' t w'
    cases e2 : toB M1 d with
    | bad => simp only [Res.onto, e2] at aw; exact aw.elim
    | exc x M2 => unfold toB at e2; split at e2 <;> cases e2
    | ok k M2 =>
      unfold toB at e2
      split at e2
      · rename_i b hb
        cases e2
        simp only [Res.onto, toB, hb] at aw
        refine ⟨k, hb, ?_⟩
        cases k with
        | false => exact iteF ⟨h0, S', M1, ρ, w', sl.mono t, AwF.mono aw t⟩
        | true =>
          refine iteT ⟨h0, S', M1, ρ, w', sl.mono t, ?_⟩
          simp only [if_true] at aw
          cases e3 : evE fn ca ρ M1 with
          | bad => rw [e3] at aw; exact aw.elim
          | exc x M2 => rw [e3] at aw; exact fun S2 H2 t2 w2 => aw S2 H2 (t.trans t2) w2 σ (sl.mono (t.trans t2))
          | ok d2 M2 => rw [e3] at aw; exact fun S2 H2 t2 w2 v r => aw S2 H2 (t.trans t2) w2 v r
      · cases e2
end
/-! ### compiled -/
def isLoc (sc : Scope) (x : Str) : Bool := match sc.names.lookup x with
  | some .local => true
  | _ => false
section
variable (sc : Scope) (N : List Str) (tb : List (Str × Bool))
def wcLs (f : Expr → Option CE) : List Expr → Option CEs
  | [] => some .nil
  | e :: es => match f e, wcLs f es with
    | some c, some cs => some (.cons c cs)
    | _, _ => none
def wcIs : List Expr → Option CE
  | [.Name y _, .Name x _] => if N[0]? = some y ∧ visB sc y = true ∧ gloB sc "isinstance" = true ∧ gloB sc x = true ∧ (y == ("__debug__" : Str)) = false ∧ (y == ("__classdict__" : Str)) = false ∧ (x == ("__debug__" : Str)) = false then (match tb.lookup x with
    | some b => some (.cst (.bool b))
    | none => none) else none
  | _ => none
def wcE : Nat → Expr → Option CE
  | 0, _ => none
  | n + 1, e => match e with
    | .Constant c _ _ => (match c with
      | .bool b => some (.cst (.bool b))
      | .int i => some (.cst (.int i))
      | .str x => some (.cst (.str x))
      | _ => none)
    | .Name x _ => if visB sc x = true ∧ (x == ("__debug__" : Str)) = false ∧ (x == ("__classdict__" : Str)) = false then (match slotOf N x with
      | some i => some (.var i)
      | none => none) else none
    | .List es _ => (match wcLs (wcE n) es with
      | some cs => some (.lst false cs)
      | none => none)
    | .BinOp p op q _ => (match op, wcE n p, wcE n q with
      | .Add, some cp, some cq => some (.bin .add false cp cq)
      | _, _, _ => none)
    | .Subscript p q _ => (match wcE n p, wcE n q with
      | some cp, some cq => some (.idx cp cq)
      | _, _ => none)
    | .Call f args kws cp => (match f, kws with
      | .Name g _, [] => if g = "isinstance" then wcIs sc N tb args else none
      | .Attribute o m ap, [] => (match args with
        | [e] => if isCall o = false ∧ (ap.endLine == cp.line) = true then (match wcE n o, wcE n e with
          | some co, some ce => if m = "count" then some (.mth .count co (.cons ce .nil)) else if m = "index" then some (.mth .index co (.cons ce .nil)) else none
          | _, _ => none) else none
        | _ => none)
      | _, _ => none)
    | _ => none
def wcT : Nat → Expr → Option CE
  | 0, _ => none
  | n + 1, e => match e with
    | .BoolOp op vs _ => (match vs with
      | [p, q] => (match op, wcT n p, wcT n q with
        | .Or, some cp, some cq => some (.or cp cq)
        | _, _, _ => none)
      | _ => none)
    | .UnaryOp op p _ => (match op, wcT n p with
      | .Not, some cp => some (.not cp)
      | _, _ => none)
    | .Compare p os qs _ => (match os, qs with
      | [o], [q] => (match o, wcE sc N tb n p, wcE sc N tb n q with
        | .NotEq, some cp, some cq => some (.cmp .ne cp cq)
        | _, _, _ => none)
      | _, _ => none)
    | .Call f args kws cp => wcE sc N tb n (.Call f args kws cp)
    | _ => none
def wcSs (n : Nat) : List Stmt → Option CSs
  | [] => none
  | st :: rest => match st with
    | .Return (some e) _ => (match rest, wcE sc N tb n e with
      | [], some c => some (.cons (.ret c) .nil)
      | _, _ => none)
    | .Assign [.Name x px] e _ => if isLoc sc x = true ∧ swB sc x px e = some false then (match slotOf N x, wcE sc N tb n e, wcSs n rest with
      | some (i + 1), some c, some cs => some (.cons (.asg (.nm (i + 1)) c) cs)
      | _, _, _ => none) else none
    | .If c [.Return (some e) _] [] _ => (match wcT sc N tb n c, wcE sc N tb n e, wcSs n rest with
      | some cc, some ce, some cs => some (.cons (.ife cc (.cons (.ret ce) .nil) .nil) cs)
      | _, _, _ => none)
    | _ => none
end
structure Zok (sc : Scope) (N : List Str) (tb : List (Str × Bool)) (a : Addr) (X : Cx) : Prop where
  hN : X.N = N
  nd : N.Nodup
  hs : X.env.scope = sc
  un : X.A.units + 64 < cLine
  isi : X.mg "isinstance" = none
  ob : ∃ (D : Addr) (oe : Obj), (a, oe) ∈ X.pn ∧ ExcC X.K D ∧ Zc (.ref D) none oe ∧ (∃ vs, oe.data = .fields vs) ∧ ∀ x b, tb.lookup x = some b → ∃ cv, ClsN X.mg x cv ∧ PySem.W.kitOne X.K (.ref D) cv = some b
section
variable {X : Cx} {ex : Nat → Value} {Wx : WX} {fn : Fn} {fuel : Nat} {a : Addr} {sc : Scope} {N : List Str} {tb : List (Str × Bool)}
theorem z_vis (Z : Zok sc N tb a X) {x : Str} (h : visB sc x = true) : Vis X.env.scope x := by
  rw [Z.hs]
  unfold visB at h
  unfold Vis
  split at h
  · rename_i e; exact .inl e
  · rename_i e; exact .inr (.inl e)
  · rename_i e; exact .inr (.inr e)
  · cases h
theorem z_glo (Z : Zok sc N tb a X) {x : Str} (h : gloB sc x = true) : Gl X x := by
  unfold gloB at h
  show X.env.scope.names.lookup x = _
  rw [Z.hs]
  split at h
  · rename_i e; exact e
  · cases h
theorem wcLs_ok {f : Expr → Option CE} (hf : ∀ e c, f e = some c → okx e = true ∧ PE X e (zE X.K ex Wx fn a c)) : ∀ {es : List Expr} {cs : CEs}, wcLs f es = some cs → PA X es (zEs X.K ex Wx fn a cs)
  | [], cs, h => by cases h; exact z_nil
  | e :: es, cs, h => by
    unfold wcLs at h
    split at h
    · rename_i c cs' h1 h2
      cases h
      obtain ⟨k1, k2⟩ := hf e c h1
      exact z_cons k2 (wcLs_ok hf h2) (okx_star k1 _ _)
    · cases h
theorem wcIs_ok (Z : Zok sc N tb a X) {args : List Expr} {c : CE} {p1 pos : Pos} (h : wcIs sc N tb args = some c) : PE X (.Call (.Name "isinstance" p1) args [] pos) (zE X.K ex Wx fn a c) := by
  unfold wcIs at h
  split at h
  · rename_i y p2 x p3
    split at h
    · rename_i hh
      obtain ⟨h1, h2, h3, h4, h5, h6, h7⟩ := hh
      split at h
      · rename_i b hb
        cases h
        obtain ⟨D, oe, hp, kd, hz, hf, ht⟩ := Z.ob
        obtain ⟨cv, cl, hk⟩ := ht x b hb
        exact z_isi hp kd hz hf (by rw [Z.hN]; exact h1) (z_vis Z h2) h5 h6 (z_glo Z h3) Z.isi (z_glo Z h4) h7 cl hk
      · cases h
    · cases h
  · cases h
theorem wcE_ok (Z : Zok sc N tb a X) : ∀ (n : Nat) (e : Expr) (c : CE), wcE sc N tb n e = some c → okx e = true ∧ PE X e (zE X.K ex Wx fn a c) := by
  intro n
  induction n with
  | zero => intro e c h; cases h
  | succ n ih =>
    intro e c h
    cases e <;> try (cases h; done)
    case Constant k kk pos =>
      simp only [wcE] at h
      split at h
      · cases h; exact ⟨rfl, z_cst pe_bl fun _ _ => .bl _⟩
      · cases h; exact ⟨rfl, z_cst pe_int fun _ _ => .int _⟩
      · cases h; exact ⟨rfl, z_cst pe_str fun _ _ => .str _⟩
      · cases h
    case Name x pos =>
      simp only [wcE] at h
      split at h
      · rename_i hh
        split at h
        · rename_i i hi
          cases h
          exact ⟨rfl, z_var (by rw [Z.hN]; exact slotOf_get hi) (z_vis Z hh.1) hh.2.1 hh.2.2⟩
        · cases h
      · cases h
    case List es pos =>
      simp only [wcE] at h
      split at h
      · rename_i cs hcs
        cases h
        exact ⟨rfl, z_lst (wcLs_ok ih hcs)⟩
      · cases h
    case BinOp p op q pos =>
      simp only [wcE] at h
      split at h
      · rename_i cp cq hp hq
        cases h
        exact ⟨rfl, z_add (ih _ _ hp).2 (ih _ _ hq).2⟩
      · cases h
    case Subscript p q pos =>
      simp only [wcE] at h
      split at h
      · rename_i cp cq hp hq
        cases h
        exact ⟨rfl, z_idx (ih _ _ hp).2 (ih _ _ hq).2 (okx_ix (ih _ _ hq).1)⟩
      · cases h
    case Call f args kws cp =>
      simp only [wcE] at h
      split at h
      · rename_i g p1
        split at h
        · rename_i eg
          subst eg
          exact ⟨rfl, wcIs_ok Z h⟩
        · cases h
      · rename_i o m ap
        split at h
        · rename_i e
          split at h
          · rename_i hh
            split at h
            · rename_i co ce ho he
              obtain ⟨o1, o2⟩ := ih _ _ ho
              obtain ⟨e1, e2⟩ := ih _ _ he
              split at h
              · rename_i em
                subst em
                cases h
                exact ⟨rfl, z_mth (m := .count) PySem.F.slot_list_count PySem.F.type_list_count (m_two (b_count Z.un)) (fun o ds M c M' => two_ne (fun x y M c M' h => by unfold bCount at h; split at h <;> (try split at h) <;> cases h) c M') o2 e2 (attr_of hh.1 _ _) hh.2 (okx_star e1)⟩
              · split at h
                · rename_i em
                  subst em
                  cases h
                  exact ⟨rfl, z_mth (m := .index) PySem.F.slot_list_index PySem.F.type_list_index (m_two (b_index Z.un)) (fun o ds M c M' => two_ne (fun x y M c M' h => by unfold bIndex at h; split at h <;> (try split at h) <;> (try split at h) <;> cases h) c M') o2 e2 (attr_of hh.1 _ _) hh.2 (okx_star e1)⟩
                · cases h
            · cases h
          · cases h
        · cases h
      · cases h
theorem wcT_ok (Z : Zok sc N tb a X) : ∀ (n : Nat) (e : Expr) (c : CE), wcT sc N tb n e = some c → PT X e (zT X.K ex Wx fn a c) := by
  intro n
  induction n with
  | zero => intro e c h; cases h
  | succ n ih =>
    intro e c h
    cases e <;> try (cases h; done)
    case BoolOp op vs pos =>
      simp only [wcT] at h
      split at h
      · split at h
        · rename_i cp cq hp hq
          cases h
          exact z_or (ih _ _ hp) (ih _ _ hq)
        · cases h
      · cases h
    case UnaryOp op p pos =>
      simp only [wcT] at h
      split at h
      · rename_i cp hp
        cases h
        exact z_not (ih _ _ hp)
      · cases h
    case Compare p ops bs pos =>
      simp only [wcT] at h
      split at h
      · split at h
        · rename_i cp cq hp hq
          cases h
          exact z_ne Z.un (wcE_ok Z _ _ _ hp).2 (wcE_ok Z _ _ _ hq).2 (okx_marks (wcE_ok (ex := ex) (Wx := Wx) (fn := fn) Z _ _ _ hq).1 _)
        · cases h
      · cases h
    case Call f args kws cp =>
      simp only [wcT] at h
      exact z_any (wcE_ok Z _ _ _ h).2 (fun whole => rfl)
theorem wcSs_ok (Z : Zok sc N tb a X) {n : Nat} : ∀ (ss : List Stmt) (cs : CSs), wcSs sc N tb n ss = some cs → PSs X ss (zSs X.K ex Wx fn a fuel cs)
  | [], cs, h => by cases h
  | st :: rest, cs, h => by
    unfold wcSs at h
    split at h
    · rename_i e pos
      split at h
      · rename_i c hc
        cases h
        exact z_end (wcE_ok Z _ _ _ hc).2
      · cases h
    · rename_i x px e pos
      split at h
      · rename_i hh
        split at h
        · rename_i i c cs' hi hc hcs
          cases h
          refine z_setC (by rw [Z.hN]; exact Z.nd) (by rw [Z.hN]; exact slotOf_get hi) ?_ (wcE_ok Z _ _ _ hc).2 (swB_ok Z.hs hh.2) (wcSs_ok Z _ _ hcs)
          rw [Z.hs]
          have := hh.1
          unfold isLoc at this
          split at this
          · rename_i q; exact q
          · cases this
        · cases h
      · cases h
    · rename_i c e p1 p2
      split at h
      · rename_i cc ce cs' h1 h2 h3
        cases h
        exact z_ifC (wcT_ok Z _ _ _ h1) (wcE_ok Z _ _ _ h2).2 (wcSs_ok Z _ _ h3)
      · cases h
    · cases h
end
/-! ### the def called in an except suite -/
abbrev wordN : List Str := ["_law_e", "_law_marks", "_law_words"]
/-- which classes an exception of class c is of -/
def exTb (c : Nat) : List (Str × Bool) := exTab.zipIdx.map (fun p => (p.1.1, p.2 == c)) ++ [(("ValueError" : Str), true)]
def wordRun (st : Stmt) (c : Nat) (M : Mem) : Res Fl := match wcSs (defScope st) wordN (exTb c) 20 (defBody st) with
  | some cs => evSs (fun _ _ _ => .bad) 0 cs [none, none, none] M
  | none => .bad
structure WordG (K : Kf) (mg : Str → Option Value) : Prop where
  ok : ∃ (st : Stmt) (g : Addr) (fd : FuncData), mg "_law_word" = some (.ref g) ∧ Fun K "_law_word" "_law_word" st g fd ∧ Binds K fd ["_law_e"] [] ∧ FnScope wordN ["_law_e"] (defScope st) ∧ mg "isinstance" = none ∧ ∀ c w, exWord c = some w → ∀ M, wordRun st c M = .ok (.rt (.p (.str w))) M
/-- what of class c must be known where it is caught -/
structure HdG (K : Kf) (mg : Str → Option Value) (CS : Value) (c : Nat) (D : Addr) : Prop where
  nm : ∃ x, exNm c = some x ∧ mg x = some (.ref D)
  ec : ExcC K D
  mt : PySem.W.exmOne K (.ref D) CS = some true
  tb : ∀ x b, (exTb c).lookup x = some b → ∃ cv, ClsN mg x cv ∧ PySem.W.kitOne K (.ref D) cv = some b
section
variable {X : Cx} {ex : Nat → Value} {Wx : WX} {fn : Fn} {a D : Addr} {oe : Obj} {c i : Nat} {w : Str} {CS : Value} {p1 p2 pos : Pos}
theorem pe_word (G : WordG X.K X.mg) (hd : HdG X.K X.mg CS c D) (hw : exWord c = some w) (hp : (a, oe) ∈ X.pn) (hz : Zc (.ref D) none oe) (hf : ∃ vs, oe.data = .fields vs) (hr : L2H.RoomH 1 X.A) (hN : X.N[i]? = some ("_law_e" : Str)) (hv : Vis X.env.scope "_law_e") (hg : Gl X "_law_word") :
    PE X (.Call (.Name "_law_word" p1) [.Name "_law_e" p2] [] pos) (fun σ H Q => σ[i]? = some (some (V.ref a)) ∧ tE X.K ex Wx fn (.cst (.str w)) σ H Q) := by
  constructor
  rintro pins s σ H Q I ⟨h1, S, M, ρ, wS, sl, aw⟩
  obtain ⟨st, g, fd, mW, FW, BW, SW, mI, all⟩ := G.ok
  obtain ⟨oc, od, kV, doc, pm, an, cdv, ct, osl, rfl, lk, hcd⟩ := FW.ex
  have arg := (pa_cons (pe_var (pos := p2) hN hv (by decide) (by decide)) pa_nil rfl).run pos pins s σ H (fun vs H1 => vs = [V.ref a] ∧ H1 = H) I ⟨.ref a, h1, rfl, rfl⟩
  refine wpAny_Call_Name_kw (ld_glob I hg mW ?_ (by decide))
  refine PySem.W.callWith_K (h₀ := X.base) I.ok.mod.kin FW.kp (thn arg ?_) rfl rfl
  rintro us s1 ⟨vs, H1, I1, rv, rfl, rfl⟩
  refine ⟨I1.kIn, ?_⟩
  have pinned := I1.pin (a, oe) (List.mem_append_left _ hp)
  have pin1 : L2H.PinOk X.stack H1 s1 (a, oe) := by
    refine ⟨pinned.1, pinned.2.1, fun z => ?_, pinned.2.2.2.2⟩
    rcases List.mem_cons.1 (I1.stkSub _ z) with z | z
    · exact pinned.2.2.1 z
    · exact pinned.2.2.2.1 z
  have rc : codeAny (model X.prog X.w) X.A (.call (.ref g) ⟨us, []⟩) (CR C8.CX0 X.stack X.prog X.w H1 s1 Q C8.E0) s1 := by
    have one : us.length = 1 := by rw [← rv.length]; rfl
    have bw := BW s1 us I1.kIn (by rw [List.append_nil]; exact one)
    rw [List.append_nil] at bw
    refine codeAny_call_function hr.depth (I1.kIn _ _ lk) rfl SW.co SW.gen rfl (PySem.W.codeRec_of I1.kIn hcd) (bw _ _ _ _ ?_)
    refine wpAny_newFunctionEnv_cells SW.kind (fun y hy => ?_) fun env henv s2 x => ?_
    · rcases SW.par y.1 (List.of_mem_zip hy).1 with q | q
      · exact .inl q
      · exact .inr ⟨q, PySem.W.cellsFrom_some _ _ _ (.inl q)⟩
    subst henv
    refine ⟨(I1.nolimit.keeps fun b o e => e).keeps x.toInCall.keep, codeAny_func ?_⟩
    have J := L2H.inv_startH (CX := C8.CX0) (E := C8.E0) (p := (a, oe)) SW pin1 I1.env0 rfl rv x
    have Z : Zok (defScope st) wordN (exTb c) a (L2H.cxH C8.CX0 X.prog X.w X.K X.mg X.base wordN "_law_word" (defScope st) g cdv X.A X.stack s1 H1 C8.E0 (a, oe)) := by
      refine ⟨rfl, SW.nd, rfl, ?_, mI, D, oe, List.mem_singleton.2 rfl, hd.ec, hz, hf, hd.tb⟩
      have := (hr.deeper (envOfC "_law_word" (defScope st) s1.heap.objs.size g cdv)).un
      show (X.A.deeper _).units + 64 < cLine
      omega
    have run := all c w hw M
    unfold wordRun at run
    split at run
    · rename_i cs hcs
      have body := wcSs_ok (ex := ex) (Wx := Wx) (fn := fun _ _ _ => .bad) (fuel := 0) Z _ _ hcs
      refine wpAny_mono (body.run [] s2 _ H1 { nx := fun _ H' => Q .non H', rt := Q } J ⟨rfl, S, M, [none, none, none], wS, ⟨rfl, fun j d h => ?_⟩, ?_⟩) ?_ fun e s' h => h
      · match j, h with
        | 0, h => cases h
        | 1, h => cases h
        | 2, h => cases h
        | j + 3, h => simp at h
      · rw [run]
        simp only [evE] at aw
        exact fun S' H' t w' v r => aw S' H' t w' v r
      · intro fl s' h
        cases fl with
        | ret u => obtain ⟨v, σ', H', J', r', q⟩ := h; exact ⟨v, H', J'.os, J'.bare, J'.base, J'.hok, r', q⟩
        | next => obtain ⟨σ', H', J', q⟩ := h; exact ⟨V.non, H', J'.os, J'.bare, J'.base, J'.hok, rfl, q⟩
        | brk => obtain ⟨_, _, _, q⟩ := h; exact q.elim
        | cont => obtain ⟨_, _, _, q⟩ := h; exact q.elim
    · cases run
  refine wpAny_call (codeAny_mono rc ?_)
  intro r s2 hq
  match r, hq with
  | .error e, hq => exact (show False from hq).elim
  | .ok (.ret u), hq => exact I1.after hq
  | .ok .next, hq => exact False.elim hq
  | .ok .brk, hq => exact False.elim hq
  | .ok .cont, hq => exact False.elim hq
end
end Mi

set_option Elab.async false
set_option linter.all false
set_option maxRecDepth 100000
set_option maxHeartbeats 2000000
/-! Mi: what a law's own _law_said tells of a lambda: the text of what it gives. -/
namespace Mi
open PySem PySem.Spec PyProof.Rows L2
section
variable {X : Cx} {pins : List (Addr × Obj)} {σ : L2.St} {H : Hp} {s : Shared}
/-- the frame of the def that is handed the lambda -/
abbrev gEnv (q : Str) (sg : Scope) (g : Addr) (cd : Value) (s : Shared) : PySem.Env := envOfC q sg s.heap.objs.size g cd
/-- the lambda is called by its name in the def that got it -/
theorem act_of {CXg : CXT} {Eg : XK} {Ng : List Str} {qg : Str} {sg : Scope} {g f c' : Addr} {cdg pm ctv : Value} {params : Arguments} {body : Expr} {scope : Scope} {i : Nat} {a : Str}
    {pn : List (Addr × Obj)} {xe : Value → Shared → Prop} {Wx : WX} {tb : XK → TE} {p1 p2 : Pos} (I : L2.Inv X pins σ H s) (lam : LamX.LamS X.env.scope scope)
    (atf : s.heap.get? f = some (PySem.W.kla_obj "<lambda>" (X.env.qual ++ "<lambda>") params body scope (cloFrom X.env.cells scope.names []) pm c' ctv)) (free : H f = none) (nofr : f ∉ frs X.stack)
    (bnd : bindArgs (PySem.W.kla_fn "<lambda>" (X.env.qual ++ "<lambda>") params body scope (cloFrom X.env.cells scope.names []) pm (.ref c') ctv) ⟨[], []⟩ = pure [])
    (tk : Takes ((cxOf CXg X.prog X.w X.K X.mg X.base Ng qg sg g cdg X.A X.stack s H Eg).tr pn xe) Wx)
    (depth : (X.A.deeper (gEnv qg sg g cdg s)).depth < recursionLimit) (calm : (X.A.deeper (gEnv qg sg g cdg s)).handled = none)
    (inner : ∀ (E : XK) (outer : List PySem.Env) (s1 : Shared) (H1 : Hp), PE (LamX.lamCx X (X.A.deeper (gEnv qg sg g cdg s)) outer s1 H1 E scope f c') body (tb E))
    (slot : Ng[i]? = some a) (vis : Vis sg a) (n1 : (a == ("__debug__" : Str)) = false) (n2 : (a == ("__classdict__" : Str)) = false) :
    PE ((cxOf CXg X.prog X.w X.K X.mg X.base Ng qg sg g cdg X.A X.stack s H Eg).tr pn xe) (.Call (.Name a p1) [] [] p2)
      (fun σZ HZ Q => σZ[i]? = some (some (.ref f)) ∧ HZ c' = some (LamX.CodeO c' (X.env.qual ++ "<lambda>")) ∧ tb (WE Wx σZ) σ HZ Q) := by
  constructor
  rintro pinsZ sZ σZ HZ Q IZ ⟨hs, hc, ht⟩
  have ld := (pe_var (pos := p1) slot vis n1 n2).run pinsZ sZ σZ HZ (fun v H1 => v = .ref f ∧ H1 = HZ) IZ ⟨.ref f, hs, rfl, rfl⟩
  refine wpAny_Call_Name_kw (thn ld ?_)
  rintro u s1 ⟨v, H1, I1, r1, rfl, rfl⟩
  obtain rfl : u = Value.ref f := r1
  have here := I1.base.keep f _ atf free nofr (fun z => nomatch (show f ∈ ([] : List Addr) from z))
  refine PySem.W.callWith_F0 ⟨_, _, _, _, here⟩ ?_
  obtain ⟨⟨oc, vs, t, hoc, hdc, hvc⟩, _, _⟩ := I1.hok c' _ hc
  have go : codeAny (model X.prog X.w) (X.A.deeper (gEnv qg sg g cdg s)) (.call (.ref f) ⟨[], []⟩) (CR (L2.CX X.prog X.w) (gEnv qg sg g cdg s :: X.stack) X.prog X.w H1 s1 Q (WE Wx σZ)) s1 := by
    refine PySem.W.kla_callFunE depth here rfl lam.co lam.gen rfl ⟨c', oc, vs, t, rfl, hoc, hdc, hvc⟩ ?_
    rw [bnd]
    refine wpAny_pure (wpAny_newFunctionEnv (fun y hy => (lam.own y hy).2) (fun y hy => absurd hy (by simp)) (fun h₁ hns hsb => ⟨I1.nolimit.fresh _ hsb, ?_⟩) lam.kind)
    show codeAny _ _ (.expr body (LamX.lamEnv X scope s1.heap.objs.size f c')) _ _
    have kept : ∀ b o, s1.heap.get? b = some o → h₁.get? b = some o := fun b o e => hsb.extBut b o (Nat.ne_of_lt (Heap.lt_size e)) (Heap.get?_push_of_some _ e)
    have st := LamX.lam_start2 (f := f) (c' := c') (A := X.A.deeper (gEnv qg sg g cdg s)) (outer := gEnv qg sg g cdg s :: X.stack) (E := WE Wx σZ) (tk := s1.toks + ([] : List (Str × Value)).length) I lam I1.env0 calm I1.base hns kept
    refine PySem.W.kla_codeExpr (wpAny_mono ((inner _ _ s1 H1).run [] _ _ H1 Q st ht) ?_ fun e s' hq => hq)
    rintro v s' ⟨w', H', J', rv, q⟩
    exact ⟨w', H', J'.os, J'.bare, J'.base, J'.hok, rv, q⟩
  refine wpAny_call (codeAny_mono go ?_)
  intro r s' hq
  match r, hq with
  | .error e, hq => exact passAt tk σZ pinsZ H1 s1 e s' I1 hq
  | .ok (.ret u), hq => exact I1.after hq
  | .ok .next, hq => exact False.elim hq
  | .ok .brk, hq => exact False.elim hq
  | .ok .cont, hq => exact False.elim hq
/-- what the making of a lambda does to the heap -/
inductive LamH (q : Str) (H : Hp) : Hp → Prop
  | same : LamH q H H
  | made {P c : Addr} {ps more : Array Value} : H P = some (.tbl ps) → H c = none → LamH q H (upd (upd H P (.tbl (ps ++ more))) c (LamX.CodeO c q))
theorem LamH.keep {q : Str} {H H' : Hp} (h : LamH q H H') : ∀ b o, H b = some o → (∀ ps, o ≠ .tbl ps) → H' b = some o := by
  intro b o e n
  cases h with
  | same => exact e
  | @made P c ps more hP hc =>
    have h1 : b ≠ c := ne_of_none e hc
    have h2 : b ≠ P := fun z => by
      rw [z, hP] at e
      exact n ps (Option.some.inj e).symm
    rw [upd_ne h1, upd_ne h2]
    exact e
theorem LamH.live {q : Str} {H H' : Hp} (h : LamH q H H') : ∀ b, H' b = none → H b = none := by
  intro b e
  cases h with
  | same => exact e
  | @made P c ps more hP hc =>
    by_cases h1 : b = c
    · rw [h1]; exact hc
    · rw [upd_ne h1] at e
      by_cases h2 : b = P
      · rw [h2, upd_same] at e; cases e
      · rw [upd_ne h2] at e; exact e
/-- a lambda comes to be -/
theorem lam_new {T : List (Addr × Str)} {c P : Addr} {params : Arguments} {body : Expr} {scope : Scope} {pos : Pos} {Er Q : Value → Shared → Prop} (I : L2.Inv X pins σ H s) (tab : LamX.TabB X.base X.mg c P) (code : X.env.code = .ref c)
    (mem : (P, X.env.qual ++ "<lambda>") ∈ T) (one : ∀ p ∈ T, p.1 = P → p.2 = X.env.qual ++ "<lambda>") (tabs : LamX.Tabs T H) (nodef : defaultsOf params X.env = ([], [])) (cells : ∀ y ∈ scope.names, y.2 = .free → ∃ c, X.env.cells.lookup y.1 = some c)
    (go : ∀ (f c' : Addr) (pm ctv : Value) (H1 : Hp) (s' : Shared), L2.Inv X pins σ H1 s' → LamH (X.env.qual ++ "<lambda>") H H1 → LamX.Tabs T H1 →
      s'.heap.get? f = some (PySem.W.kla_obj "<lambda>" (X.env.qual ++ "<lambda>") params body scope (cloFrom X.env.cells scope.names []) pm c' ctv) → H1 f = none → f ∉ frs X.stack → H1 c' = some (LamX.CodeO c' (X.env.qual ++ "<lambda>")) → Q (.ref f) s') :
    wpAny (model X.prog X.w) X.A (eval (.Lambda params body scope pos) X.env) Q Er s := by
  have ⟨ps, hP, tri, known⟩ := tabs _ mem
  have bP := tab.bm.keeps I.bk
  have atP := I.hok P _ hP
  have nofr : ∀ f, s.heap.objs.size ≤ f → f ∉ frs X.stack := by
    intro f hf z
    rcases List.mem_cons.mp (I.stkSub _ z) with e | e
    · have below := I.lt
      rw [← e] at below
      exact absurd (Nat.lt_of_lt_of_le below hf) (Nat.lt_irrefl _)
    · exact I.nofs hf e
  refine PySem.W.kla_eval nodef ?_
  match hc : codeAmong pos ps.toList with
  | some cv =>
    have ⟨c', e, hco⟩ := known pos cv hc
    subst e
    refine PySem.W.kla_makeFunctionHit (mg := X.mg) (c := c) (P := P) (ps := ps) (closure_ok cells) I.ok.glob (I.mod.glob.keeps I.bk) code (tab.code.keeps I.bk) atP tri hc bP ?_
    intro ctv h' tk hx hsz
    refine go h'.objs.size c' ((X.mg "__name__").getD .none) ctv H _ (I.kept fun b o e => Heap.get?_push_of_some _ (hx b o e)) .same tabs (Heap.get?_push_size _ rfl) ?_ ?_ hco
    · exact I.hok.fresh hsz
    · exact nofr _ hsz
  | none =>
    refine PySem.W.kla_makeFunction (mg := X.mg) (c := c) (P := P) (ps := ps) (closure_ok cells) I.ok.glob (I.mod.glob.keeps I.bk) code (tab.code.keeps I.bk) atP tri hc tab.gP bP ?_
    intro c' ctv h' tk hx hge hlt hrec htb
    have ⟨c2, oc, vs, t, e2, hoc, hd, hv⟩ := hrec
    cases e2
    have grown : s.heap.objs.size ≤ h'.objs.size := by omega
    have newC : H c' = none := I.hok.fresh hge
    have J := LamX.inv_table (t' := tk) (more := #[rawInt pos.line, rawInt pos.col, .ref c']) (q := X.env.qual ++ "<lambda>") I hP
      (h' := h'.push (PySem.W.kla_obj "<lambda>" (X.env.qual ++ "<lambda>") params body scope (cloFrom X.env.cells scope.names []) ((X.mg "__name__").getD .none) c' ctv))
      (fun b o hb e => Heap.get?_push_of_some _ (hx b o hb e)) (Heap.get?_push_of_some _ htb) hge ⟨oc, vs, t, Heap.get?_push_of_some _ hoc, hd, hv⟩
    have lam : LamH (X.env.qual ++ "<lambda>") H _ := .made (more := #[rawInt pos.line, rawInt pos.col, .ref c']) hP newC
    have eL : (ps ++ #[rawInt pos.line, rawInt pos.col, .ref c']).toList = ps.toList ++ [rawInt pos.line, rawInt pos.col, .ref c'] := by simp
    refine go h'.objs.size c' ((X.mg "__name__").getD .none) ctv _ _ J lam ?_ (Heap.get?_push_size _ rfl) ?_ (nofr _ grown) upd_same
    · intro p hp
      by_cases hb : p.1 = P
      · rw [one p hp hb, hb]
        refine ⟨ps ++ #[rawInt pos.line, rawInt pos.col, .ref c'], ?_, ?_, ?_⟩
        · rw [upd_ne (ne_of_none hP newC), upd_same]
        · rw [eL]; exact PySem.TriplesOk_snoc _ _ _ _ tri
        · intro p' cv hcv
          rw [eL] at hcv
          rcases LamX.among_app _ tri hcv with z | z
          · have ⟨c0, e1, e2⟩ := known p' cv z
            exact ⟨c0, e1, lam.keep _ _ e2 LamX.codeO_ne⟩
          · exact ⟨c', z, upd_same⟩
      · have ⟨ps', a1, a2, a3⟩ := tabs p hp
        refine ⟨ps', ?_, a2, ?_⟩
        · rw [upd_ne (ne_of_none a1 newC), upd_ne hb]; exact a1
        · intro p' cv hcv
          have ⟨c0, e1, e2⟩ := a3 p' cv hcv
          exact ⟨c0, e1, lam.keep _ _ e2 LamX.codeO_ne⟩
    · have n1 : h'.objs.size ≠ c' := Nat.ne_of_gt hlt
      have n2 : h'.objs.size ≠ P := Nat.ne_of_gt (Nat.lt_of_lt_of_le (Heap.lt_size atP) grown)
      rw [upd_ne n1, upd_ne n2]
      exact I.hok.fresh grown
end
/-! ### the law's own _law_said -/
inductive SaidBody : List Stmt → Prop
  | mk {p1 p2 p3 p4 p5 p6 p7 p8 p9 p10 p11 p12 p13 p14 : Pos} {j : Nat} : SaidBody [.Try [.Return (some (.Call (.Name "repr" p1) [.Call (.Name "_law_call" p2) [] [] p3] [] p4)) p5]
      [.ExceptHandler (some (.Name "ServeError" p6)) (some "_law_e") [.Return (some (.BinOp (.Constant (.str "! ") j p7) .Add (.Call (.Name "_law_word" p8) [.Name "_law_e" p9] [] p10) p11)) p12] p13] [] [] p14]
abbrev saidN : List Str := ["_law_call", "_law_e"]
structure SaidG (K : Kf) (mg : Str → Option Value) : Prop where
  ok : ∃ (st : Stmt) (g : Addr) (fd : FuncData) (CS : Addr), mg "_law_said" = some (.ref g) ∧ Fun K "_law_said" "_law_said" st g fd ∧ Binds K fd ["_law_call"] [] ∧ FnScope saidN ["_law_call"] (defScope st) ∧ SaidBody (defBody st) ∧
    (defScope st).names.lookup ("_law_call" : Str) = some NameKind.local ∧ (defScope st).names.lookup ("_law_e" : Str) = some NameKind.local ∧ (defScope st).names.lookup ("repr" : Str) = some NameKind.globalImplicit ∧ (defScope st).names.lookup ("ServeError" : Str) = some NameKind.globalImplicit ∧ mg "repr" = none ∧ mg "ServeError" = some (.ref CS) ∧ (defScope st).names.lookup ("_law_word" : Str) = some NameKind.globalImplicit ∧ WordG K mg ∧ ∀ c w, exWord c = some w → ∃ D, HdG K mg (.ref CS) c D
/-- what stands where a lambda is made -/
structure LamHere (k : Nat) (X : Cx) : Prop where
  said : SaidG X.K X.mg
  tab : ∃ c P, X.env.code = .ref c ∧ LamX.TabB X.base X.mg c P ∧ (P, X.env.qual ++ "<lambda>") ∈ tabT X.K ∧ ∀ p ∈ tabT X.K, p.1 = P → p.2 = X.env.qual ++ "<lambda>"
  rm : Room (k + 2) X.A
theorem W.lam {K : Kf} {S : Sk} {M : Mem} {H H1 : Hp} {q : Str} (w : W K S M H) (h : LamH q H H1) (tb : LamX.Tabs (tabT K) H1) : Stp S H S H1 ∧ W K S M H1 := by
  have st : Stp S H S H1 := ⟨Nat.le_refl _, fun _ _ _ h => h, fun _ h => .inl h, ⟨fun _ h => h, fun _ h => .inl h⟩, fun a o e nt _ => h.keep a o e nt, h.live⟩
  refine ⟨st, w.len, w.nd, fun i a xs h1 h2 => ?_, fun a ha e => w.al a ha (h.live a e), fun a ha e => w.zl a ha (h.live a e), w.dj, w.lv, tb⟩
  exact (w.ob i a xs h1 h2).gen st.kp (fun _ _ _ e => e) fun o nt q1 => h.keep a _ q1 nt
theorem takes_no {X : Cx} : Takes X W0 := fun u s' h => by
  obtain ⟨_, _, _, _, _, _, _, _, _, _, _, _, _, _, _, _, z⟩ := h
  exact z.elim
/-- what of class c must be known where it is raised -/
structure ExG (K : Kf) (mg : Str → Option Value) (c : Nat) : Prop where
  ok : ∃ (x : Str) (D : Addr), exNm c = some x ∧ mg x = some (.ref D) ∧ PySem.W.excIn K D [.type "ValueError", .type "Exception", .type "BaseException", .type "object"] "ValueError.__new__" = true ∧ PySem.W.keepIn K (.ref D) = true ∧
    PySem.W.subIn K (.ref D) (.type "BaseException") = some true ∧ PySem.W.typeIn K (.ref D) = some (.type "type")
/-- the value of an exception's class -/
def exOf (mg : Str → Option Value) (c : Nat) : Value := match exNm c with
  | some x => (mg x).getD .none
  | none => .none
theorem HdG.of {K : Kf} {mg : Str → Option Value} {CS : Value} {c : Nat} {D : Addr} (h : HdG K mg CS c D) : exOf mg c = .ref D := by
  obtain ⟨x, e1, e2⟩ := h.nm
  unfold exOf
  rw [e1]
  show (mg x).getD .none = _
  rw [e2]
  rfl
theorem ex_len {c : Nat} {w : Str} (h : exWord c = some w) : w.length ≤ 8 := by
  unfold exWord at h
  split at h
  · rename_i p hp
    cases h
    have : ∀ q ∈ exTab, q.2.length ≤ 8 := by decide +kernel
    exact this p (List.mem_of_getElem? hp)
  · cases h
section
variable {X : Cx} {ex : Nat → Value} {Wx : WX} {fn : Fn} {k fi : Nat} {cs : CEs}
theorem pe_said {params : Arguments} {body : Expr} {scope : Scope} {p lpos pos : Pos} (hex : ∀ c, ex c = exOf X.mg c) (hl : LamHere k X) (hg : Gl X "_law_said") (hgd : X.A.guards = some []) (lam : LamX.LamS X.env.scope scope) (nodef : defaultsOf params X.env = ([], []))
    (bnd : ∀ (q : Str) (cl : List (Str × Addr)) (pm cv ctv : Value), bindArgs (PySem.W.kla_fn "<lambda>" q params body scope cl pm cv ctv) ⟨[], []⟩ = pure [])
    (hb : ∀ (A : Around) (outer : List PySem.Env) (s : Shared) (H : Hp) (f c' : Addr) (E : XK), A.guards = some [] → Room k (A.deeper (LamX.lamEnv X scope s.heap.objs.size f c')) → PE (LamX.lamCx X A outer s H E scope f c') body (tE X.K ex (fun cls d _ H' => E cls d H') fn (.call fi cs))) :
    PE X (.Call (.Name "_law_said" p) [.Lambda params body scope lpos] [] pos) (tE X.K ex Wx fn (.said fi cs)) := by
  constructor
  rintro pins s σ H Q I ⟨S, M, ρ, w, sl, aw⟩
  simp only [evE] at aw
  obtain ⟨⟨st, g, fd, CS, mS, FS, BS, SS, body', l1, l2, l3, l4, m1, m2, l5, WG, HG⟩, ⟨c, P, code, tab, mem, one⟩, rm⟩ := hl
  obtain ⟨oc, od, kV, doc, pm0, an, cdv, ct, osl, rfl, lk, hcd⟩ := FS.ex
  refine wpAny_Call_Name_kw (ld_glob I hg mS ?_ (by decide))
  refine PySem.W.callWith_K (h₀ := X.base) I.ok.mod.kin FS.kp ?_ (by rfl) (by rfl)
  show wpAny _ _ (spliced ((false, eval (.Lambda params body scope lpos) X.env) :: backTo pos (starEach [] X.env))) _ _ s
  refine Calls.spliced_cons (lam_new I tab code mem one w.tb nodef (lam.has I.ok) ?_)
  intro f c' pm ctv H1 s1 I1 hH T1 atf free nofr hco
  refine Calls.spliced_nil ⟨I1.kIn, ?_⟩
  obtain ⟨st1, w1⟩ := w.lam hH T1
  have rc : codeAny (model X.prog X.w) X.A (.call (.ref g) ⟨[.ref f], []⟩) (CR C8.CX0 X.stack X.prog X.w H1 s1 Q C8.E0) s1 := by
    refine LamX.run_ofS (N := saidN) (ps := ["_law_call"]) (us := [.ref f]) (vs := [.ref f]) lk hcd SS rm I1.env0 (BS s1 [.ref f] I1.kIn rfl) (.cons rfl .nil) rfl fun hr' => ?_
    generalize defBody st = bd at body'
    cases body'
    refine ⟨_, pss_one (ps_try_as (X := cxOf C8.CX0 X.prog X.w X.K X.mg X.base saidN "_law_said" (defScope st) g cdv X.A X.stack s1 H1 C8.E0) (i := 1) (c := .ref CS) (Wout := W0)
      (tb := fun Wt => tSeq (tRet (tCB (rCD X.K (Mi.one bRepr)) (tCons (fun σZ HZ Q => σZ[0]? = some (some (.ref f)) ∧ HZ c' = some (LamX.CodeO c' (X.env.qual ++ "<lambda>")) ∧ tE X.K ex (fun cls d _ H' => Wt cls d σZ H') fn (.call fi cs) σ HZ Q) tNil))) tNext)
      (ts := fun a cls d D σZ HZ => σZ[1]? = some (some (V.ref a)) ∧ d = none ∧ ∃ c w Dd, exWord c = some w ∧ cls = .ref Dd ∧ HdG X.K X.mg (.ref CS) c Dd ∧ tE X.K ex W0 fn (.cst (.str (Str.ofString "! " ++ w))) σZ HZ D.rt)
      rfl rfl SS.nd rfl l2 ⟨l4, by decide, .inl m2⟩ takes_no (fun Wt pn xe tk _ => ?_) (fun a oe cls d pn hz hf => ⟨fun pins s σ H D I h => ?_⟩)), ?_⟩
    · refine pss_one (ps_ret (pe_callB (b_repr ?_ ?_) l3 m1 (by decide +kernel) (pa_cons (act_of (i := 0) I1 lam atf free nofr (bnd _ _ _ _ _) tk ?_ ?_ (fun E outer s2 H2 => hb _ outer s2 H2 f c' E ?_ ?_) rfl (.inl l1) (by decide) (by decide)) pa_nil rfl)))
      · exact hgd
      · exact hr'.units
      · exact hr'.depth
      · exact hr'.hd
      · exact hgd
      · exact hr'.deeper _
    · obtain ⟨h1, rfl, cc, ww, Dd, hw, rfl, hd, Sz, Mz, ρz, wz, slz, az⟩ := h
      have roomH : L2H.RoomH 1 ((cxOf C8.CX0 X.prog X.w X.K X.mg X.base saidN "_law_said" (defScope st) g cdv X.A X.stack s1 H1 C8.E0).suite a ((a, oe) :: pn)).A := by
        have q := (L2H.roomH_of hr').mono (j := 1) (by omega)
        exact ⟨q.dp, q.un⟩
      refine (pss_one (ps_ret (pe_op (op_bin .add false) pe_str (pe_word (X := (cxOf C8.CX0 X.prog X.w X.K X.mg X.base saidN "_law_said" (defScope st) g cdv X.A X.stack s1 H1 C8.E0).suite a ((a, oe) :: pn)) (ex := ex) (Wx := W0) (fn := fn) (i := 1) WG hd hw List.mem_cons_self hz hf roomH rfl (.inl l2) l5)))).run pins s σ H D I ?_
      simp only [evE] at az
      refine ⟨h1, Sz, Mz, ρz, wz, slz, ?_⟩
      simp only [evE]
      refine fun S' H' t w' v r => ⟨S', Mz, .p (.str (Str.ofString "! ")), .p (.str ww), .p (.str (Str.ofString "! " ++ ww)), Mz, w', .str _, r, ?_, fun S2 H2 v2 t2 w2 r2 => az S2 H2 (t.trans t2) w2 v2 r2⟩
      have hl : (Str.ofString "! ").length + ww.length ≤ 16777216 := by
        have h2 : (Str.ofString "! ").length = 2 := by decide +kernel
        have := ex_len hw
        omega
      show (if (Str.ofString "! ").length + ww.length ≤ 16777216 then _ else _) = _
      rw [if_pos hl]
    · refine ⟨rfl, hco, S, M, ρ, w1, sl.mono st1, ?_⟩
      simp only [evE]
      cases e : ((evEs fn cs ρ M).bind fun ds M => fn fi ds M) with
      | bad => rw [e] at aw; exact aw
      | exc c M1 =>
        rw [e] at aw
        unfold saidR at aw
        try dsimp only at aw
        intro S2 H2 t2 w2
        cases hw : exWord c with
        | none => rw [hw] at aw; exact (show False from aw).elim
        | some ww =>
          rw [hw] at aw
          obtain ⟨Dd, hd⟩ := HG c ww hw
          have hx : ex c = .ref Dd := by rw [hex c, hd.of]
          refine ⟨true, by rw [hx]; exact hd.mt, fun _ a ha => ⟨rfl, rfl, c, ww, Dd, hw, hx, hd, S2, M1, [none, none], w2, ⟨rfl, fun j d h => ?_⟩, ?_⟩, fun z => by cases z⟩
          · match j, h with
            | 0, h => cases h
            | 1, h => cases h
            | j + 2, h => simp at h
          · simp only [evE]
            exact fun S3 H3 t3 w3 v r => aw S3 H3 ((st1.trans t2).trans t3) w3 v r
      | ok d M1 =>
        rw [e] at aw
        intro S2 H2 t2 w2 v rv
        have aw : Aw X.K ex Wx S H σ (Mi.one bRepr [d] M1) (fun d _ S' H' => ∀ v, RD X.K S' H' d v → Q v H') := aw
        obtain ⟨r, M3, h3, af⟩ := aw.ok (one_ne fun x M c M' h => by unfold bRepr at h; split at h <;> cases h)
        exact ⟨S2, M1, [d], r, M3, w2, .cons rv .nil, h3, fun S' H' v t w r => af S' H' ((st1.trans t2).trans t) w v r⟩
  refine wpAny_call (codeAny_mono rc ?_)
  intro r s2 hq
  match r, hq with
  | .error e, hq => exact (show False from hq).elim
  | .ok (.ret u), hq => exact I1.after hq
  | .ok .next, hq => exact False.elim hq
  | .ok .brk, hq => exact False.elim hq
  | .ok .cont, hq => exact False.elim hq
end
end Mi

set_option Elab.async false
set_option linter.all false
set_option maxRecDepth 100000
set_option maxHeartbeats 1000000
/-! Mi: whatever is compiled is so. -/
namespace Mi
open PySem PySem.Spec PyProof.Rows L2
def CsR (K : Kf) (d : PyData) (v : V) : Prop := (∀ S H, RP K S H d v) ∧ ∀ xs H, d = PyData.tuple xs → tyV K "tuple" v H
structure Cok (T : Gt) (N : List Str) (ex : Nat → Value) (fn : Fn) (k : Nat) (sc : Scope) (own : Option Scope) (Wx : WX) (X : Cx) : Prop where
  hN : X.N = N
  hs : X.env.scope = sc
  nd : N.Nodup
  calm : X.calm = true
  tk : Takes X Wx
  po : PassesOwn (model X.prog X.w) X.A X.env X.xe
  rm : Room (3 * k) X.A
  gd : X.A.guards = some []
  fnq : ∀ x, ownB own x = true → X.fn x = true
  kd : sc.kind = .function
  fs : ∀ x f n, T.ids.lookup x = some (f, n) → ∃ a fd ps, X.mg x = some (.ref a) ∧ PySem.W.keepIn X.K (.ref a) = true ∧ Binds X.K fd ps [] ∧ FnG X.prog X.w X.K X.mg X.base (3 * k) a fd ps (spF X.K ex fn f n)
  cs : ∀ x d, T.cs.lookup x = some d → ∃ v u, X.mg x = some u ∧ RelV v u ∧ CsR X.K d v
  fr : ∀ x, x ∈ T.fr → X.mg x = none
  lm : lamOk own = true → T.lam.contains N = true → LamHere (3 * k) X
  xe : ∀ c, ex c = exOf X.mg c
  xg : ∀ c, c ∈ T.exs → ExG X.K X.mg c
  cl : ∀ p ∈ T.cl, Cls X.K (Adr X.K p.c) ∧ ∀ x ∈ p.fl, NoAttr X.K (Adr X.K p.c) x
  ms : ∀ p ∈ T.cl, ∀ m f n, p.ms.lookup m = some (f, n) → ∃ a fd ps, Meth X.K (Adr X.K p.c) m a ∧ Binds X.K fd ps [] ∧ FnG X.prog X.w X.K X.mg X.base (3 * k) a fd ps (spF X.K ex fn f n)
  mks : ∀ p ∈ T.cl, ∀ n a, p.mko = some (n, a) → X.mg (clsNm p.c) = some (.ref (Adr X.K p.c)) ∧ ∃ f fd ps, Mk X.K (Adr X.K p.c) f ∧ Binds X.K fd ps [] ∧ FnG X.prog X.w X.K X.mg X.base 1 f fd ps (spM X.K n p.c)
  rm2 : lamOk own = true → T.cl ≠ [] → Room (3 * k + 2) X.A
/-- a test that is the truth of a value -/
def tstB : Expr → Bool
  | .BoolOp .. => false
  | .UnaryOp .Not _ _ => false
  | .IfExp .. => false
  | _ => true
structure RecOk (T : Gt) (N : List Str) (ex : Nat → Value) (fn : Fn) (k : Nat) (R : Rec) : Prop where
  e : ∀ {sc own Wx X}, Cok T N ex fn k sc own Wx X → ∀ {mt e c}, R.e sc own mt e = some c → okx e = true ∧ PE X e (tE X.K ex Wx fn c) ∧ (tstB e = true → PT X e (tT X.K ex Wx fn c))
  t : ∀ {sc own Wx X}, Cok T N ex fn k sc own Wx X → ∀ {e c}, R.t sc own e = some c → PT X e (tT X.K ex Wx fn c)
theorem okx_last {b c : Expr} (h : okx c = true) (o o' : CmpOp) : lastMarks [o, o'] [b, c] = false := by
  show behindInMarks o' c = false
  exact okx_marks h o'
theorem okx_set {e : Expr} (h : okx e = true) (env : PySem.Env) : ∀ x, foldedSetIterable e env x = pure x := by
  intro x
  cases e <;> first | rfl | cases h
section
variable {T : Gt} {N : List Str} {ex : Nat → Value} {fn : Fn} {k : Nat} {R : Rec} {sc : Scope} {own : Option Scope} {Wx : WX} {X : Cx}
theorem vis_of (C : Cok T N ex fn k sc own Wx X) {x : Str} (h : visB sc x = true) : Vis X.env.scope x := by
  unfold visB at h
  rw [C.hs]
  unfold Vis
  split at h
  · rename_i e; exact .inl e
  · rename_i e; exact .inr (.inl e)
  · rename_i e; exact .inr (.inr e)
  · cases h
theorem glo_of (C : Cok T N ex fn k sc own Wx X) {x : Str} (h : gloB sc x = true) : Gl X x := by
  unfold gloB at h
  show X.env.scope.names.lookup x = some .globalImplicit
  rw [C.hs]
  split at h
  · rename_i e; exact e
  · cases h
theorem sto_of (C : Cok T N ex fn k sc own Wx X) {x : Str} (h : stoB sc own x = true) : Loc X.env.scope x ∧ (X.fn x = true ∨ X.env.scope.names.lookup x = some .local) := by
  unfold stoB at h
  rw [C.hs]
  split at h
  · rename_i e; exact ⟨.inl e, .inr e⟩
  · rename_i e; exact ⟨.inr e, .inl (C.fnq x h)⟩
  · cases h
theorem units_of (C : Cok T N ex fn k sc own Wx X) : X.A.units + 64 < cLine := C.rm.units
theorem cEs_ok (O : RecOk T N ex fn k R) (C : Cok T N ex fn k sc own Wx X) : ∀ {es : List Expr} {cs : CEs}, cEs R sc own es = some cs → PA X es (tEs X.K ex Wx fn cs) ∧ (∀ y ∈ es, NoStar y) ∧ ∀ ρ M ds M', evEs fn cs ρ M = .ok ds M' → ds.length = es.length
  | [], cs, h => by
    cases h
    refine ⟨ca_nil, fun y hy => absurd hy List.not_mem_nil, fun ρ M ds M' e => ?_⟩
    simp only [evEs] at e
    cases e
    rfl
  | e :: es, cs, h => by
    unfold cEs at h
    split at h
    · rename_i c hc
      split at h
      · rename_i cs' hcs
        cases h
        obtain ⟨h1, h2, _⟩ := O.e C hc
        obtain ⟨g1, g2, g3⟩ := cEs_ok O C hcs
        refine ⟨ca_cons h2 g1 (okx_star h1 _ _), fun y hy => ?_, fun ρ M ds M' e => ?_⟩
        · rcases List.mem_cons.mp hy with z | z
          · rw [z]; exact okx_star h1
          · exact g2 y z
        · simp only [evEs] at e
          cases e1 : evE fn c ρ M with
          | bad => rw [e1] at e; cases e
          | exc x M1 => rw [e1] at e; cases e
          | ok d M1 =>
            rw [e1] at e
            simp only [Res.bind] at e
            cases e2 : evEs fn cs' ρ M1 with
            | bad => rw [e2] at e; cases e
            | exc x M2 => rw [e2] at e; cases e
            | ok ds' m2 =>
              rw [e2] at e
              have hl := g3 ρ M1 ds' m2 e2
              cases e
              simp [hl]
      · cases h
    · cases h
theorem cEsM_ok (O : RecOk T N ex fn k R) (C : Cok T N ex fn k sc own Wx X) : ∀ {es : List Expr} {cs : CEs}, cEsM R sc own es = some cs → PA X es (tEs X.K ex Wx fn cs) ∧ (∀ y ∈ es, NoStar y) ∧ ∀ ρ M ds M', evEs fn cs ρ M = .ok ds M' → ds.length = es.length
  | [], cs, h => by
    cases h
    refine ⟨ca_nil, fun y hy => absurd hy List.not_mem_nil, fun ρ M ds M' e => ?_⟩
    simp only [evEs] at e
    cases e
    rfl
  | e :: es, cs, h => by
    unfold cEsM at h
    split at h
    · rename_i c hc
      split at h
      · rename_i cs' hcs
        cases h
        obtain ⟨h1, h2, _⟩ := O.e C hc
        obtain ⟨g1, g2, g3⟩ := cEsM_ok O C hcs
        refine ⟨ca_cons h2 g1 (okx_star h1 _ _), fun y hy => ?_, fun ρ M ds M' e => ?_⟩
        · rcases List.mem_cons.mp hy with z | z
          · rw [z]; exact okx_star h1
          · exact g2 y z
        · simp only [evEs] at e
          cases e1 : evE fn c ρ M with
          | bad => rw [e1] at e; cases e
          | exc x M1 => rw [e1] at e; cases e
          | ok d M1 =>
            rw [e1] at e
            simp only [Res.bind] at e
            cases e2 : evEs fn cs' ρ M1 with
            | bad => rw [e2] at e; cases e
            | exc x M2 => rw [e2] at e; cases e
            | ok ds' m2 =>
              rw [e2] at e
              have hl := g3 ρ M1 ds' m2 e2
              cases e
              simp [hl]
      · cases h
    · cases h
theorem cBool_ok (O : RecOk T N ex fn k R) (C : Cok T N ex fn k sc own Wx X) {op : BoolOp} {pos : Pos} : ∀ {es : List Expr} {c : CE}, cBool R sc own op es = some c → PE X (.BoolOp op es pos) (tE X.K ex Wx fn c)
  | [], c, h => by cases h
  | [a], c, h => ce_one (O.e C h).2.1
  | a :: b :: rest, c, h => by
    unfold cBool at h
    split at h
    · rename_i ca hca
      split at h
      · rename_i cr hcr
        cases h
        cases op with
        | And => exact ce_and (O.e C hca).2.1 (cBool_ok O C hcr)
        | Or => exact ce_or (O.e C hca).2.1 (cBool_ok O C hcr)
      · cases h
    · cases h
theorem cBoolT_ok (O : RecOk T N ex fn k R) (C : Cok T N ex fn k sc own Wx X) {op : BoolOp} {pos : Pos} : ∀ {es : List Expr} {c : CE}, cBoolT R sc own op es = some c → PW X (.BoolOp op es pos) (tT X.K ex Wx fn c)
  | [], c, h => by cases h
  | [a], c, h => cw_one (O.t C h)
  | a :: b :: rest, c, h => by
    unfold cBoolT at h
    split at h
    · rename_i ca hca
      split at h
      · rename_i cr hcr
        cases h
        cases op with
        | And => exact cw_and (O.t C hca) (cBoolT_ok O C hcr)
        | Or => exact cw_or (O.t C hca) (cBoolT_ok O C hcr)
      · cases h
    · cases h
theorem cCmp_ok (O : RecOk T N ex fn k R) (C : Cok T N ex fn k sc own Wx X) {a : Expr} {ops : List CmpOp} {bs : List Expr} {c : CE} {pos : Pos} (h : cCmp R sc own a ops bs = some c) : PE X (.Compare a ops bs pos) (tE X.K ex Wx fn c) ∧ PT X (.Compare a ops bs pos) (tT X.K ex Wx fn c) := by
  unfold cCmp at h
  split at h
  · rename_i o b
    split at h
    · rename_i ca cb h1 h2
      cases h
      obtain ⟨_, p1, _⟩ := O.e C h1
      obtain ⟨k2, p2, _⟩ := O.e C h2
      have e := cpOf_of o
      have r1 := ce_cmp (pos := pos) (units_of C) (o := cpOf o) p1 p2 (okx_marks k2 _)
      have r2 := ct_cmp (pos := pos) (units_of C) (o := cpOf o) p1 p2 (okx_marks k2 _)
      rw [e] at r1 r2
      exact ⟨r1, r2⟩
    · cases h
  · rename_i o o' b c'
    split at h
    · rename_i ca cb cc h1 h2 h3
      cases h
      obtain ⟨_, p1, _⟩ := O.e C h1
      obtain ⟨_, p2, _⟩ := O.e C h2
      obtain ⟨k3, p3, _⟩ := O.e C h3
      have e := cpOf_of o
      have e' := cpOf_of o'
      have r1 := ce_chn (pos := pos) (units_of C) (o := cpOf o) (o' := cpOf o') p1 p2 p3 (okx_last k3 _ _)
      have r2 := ct_chn (pos := pos) (units_of C) (o := cpOf o) (o' := cpOf o') p1 p2 p3 (okx_last k3 _ _)
      rw [e, e'] at r1 r2
      exact ⟨r1, r2⟩
    · cases h
  · cases h
theorem cOpt_ok (O : RecOk T N ex fn k R) (C : Cok T N ex fn k sc own Wx X) {e : Option Expr} {c : CEo} (h : cOpt R sc own e = some c) : PO X e (tO X.K ex Wx fn c) := by
  unfold cOpt at h
  split at h
  · cases h; exact co_none
  · split at h
    · rename_i c' hc
      cases h
      exact co_some (O.e C hc).2.1
    · cases h
theorem isBack_ok {e : Expr} (h : isBack e = true) : ∃ k p1 p2, e = .UnaryOp .USub (.Constant (.int 1) k p1) p2 := by
  unfold isBack at h
  split at h
  · rename_i i k p1 p2
    rw [eq_of_beq h]
    exact ⟨_, _, _, rfl⟩
  · cases h
theorem isNo_ok {e : Option Expr} (h : isNo e = true) : e = none := by
  cases e with
  | none => rfl
  | some _ => cases h
theorem cSub_ok (O : RecOk T N ex fn k R) (C : Cok T N ex fn k sc own Wx X) {mt : Bool} {a i : Expr} {c : CE} {pos : Pos} (h : cSub R sc own mt a i = some c) : PE X (.Subscript a i pos) (tE X.K ex Wx fn c) := by
  unfold cSub at h
  split at h
  · split at h
    · split at h
      · rename_i h1 h2 h3
        cases h
        exact ce_slc (O.e C h1).2.1 (cOpt_ok O C h2) (cOpt_ok O C h3)
      · cases h
    · split at h
      · rename_i hb
        simp only [Bool.and_eq_true] at hb
        obtain ⟨k', p1, p2, e1⟩ := isBack_ok hb.1.1
        have e2 := isNo_ok hb.1.2
        have e3 := isNo_ok hb.2
        subst e1 e2 e3
        split at h
        · rename_i h1
          cases h
          exact ce_rev (O.e C h1).2.1
        · cases h
      · cases h
  · split at h
    · rename_i h1 h2
      cases h
      obtain ⟨k2, p2, _⟩ := O.e C h2
      exact ce_idx (O.e C h1).2.1 p2 (okx_ix k2)
    · cases h
theorem tyOf_ok {x : Str} {t : Ty} (h : tyOf x = some t) : bootBuiltins x = some (.type (tyName t)) ∧ x ≠ "__name__" ∧ (x == ("__debug__" : Str)) = false := by
  unfold tyOf at h
  split at h
  · rename_i e; cases h; rw [e]; exact ⟨by decide +kernel, by decide, by decide⟩
  split at h
  · rename_i e; cases h; rw [e]; exact ⟨by decide +kernel, by decide, by decide⟩
  split at h
  · rename_i e; cases h; rw [e]; exact ⟨by decide +kernel, by decide, by decide⟩
  split at h
  · rename_i e; cases h; rw [e]; exact ⟨by decide +kernel, by decide, by decide⟩
  split at h
  · rename_i e; cases h; rw [e]; exact ⟨by decide +kernel, by decide, by decide⟩
  split at h
  · rename_i e; cases h; rw [e]; exact ⟨by decide +kernel, by decide, by decide⟩
  · cases h
theorem cBlt_ok (C : Cok T N ex fn k sc own Wx X) {mt : Bool} {x : Str} {b : BF} {e : Expr} {es : List Expr} {cs : CEs} {p pos : Pos} (hb : bfOf mt x = some b) (hg : Gl X x) (hm : X.mg x = none) (hdb : (x == ("__debug__" : Str)) = false) (ha : PA X (e :: es) (tEs X.K ex Wx fn cs)) (hst : ∀ y ∈ e :: es, NoStar y) :
    PE X (.Call (.Name x p) (e :: es) [] pos) (tE X.K ex Wx fn (.blt b cs)) := by
  unfold bfOf at hb
  split at hb
  · rename_i e; cases hb; subst e; exact ce_bltB b_len hg hm (by decide +kernel) ha (by decide) hdb hst
  split at hb
  · rename_i e; cases hb; subst e; exact ce_bltB (b_min C.calm) hg hm (by decide +kernel) ha (by decide) hdb hst
  split at hb
  · rename_i e; cases hb; subst e; exact ce_bltB (b_max C.calm) hg hm (by decide +kernel) ha (by decide) hdb hst
  split at hb
  · rename_i e; cases hb; subst e; exact ce_bltB b_abs hg hm (by decide +kernel) ha (by decide) hdb hst
  split at hb
  · rename_i e; cases hb; subst e; exact ce_bltB (b_sum C.calm) hg hm (by decide +kernel) ha (by decide) hdb hst
  split at hb
  · rename_i e; cases hb; subst e; exact ce_bltB (b_all C.calm) hg hm (by decide +kernel) ha (by decide) hdb hst
  split at hb
  · rename_i e; cases hb; subst e; exact ce_bltB (b_any C.calm) hg hm (by decide +kernel) ha (by decide) hdb hst
  split at hb
  · rename_i e; cases hb; subst e; exact ce_bltT b_tuple hg hm (by decide +kernel) ha (by decide) hdb hst
  split at hb
  · rename_i e; cases hb; subst e; exact ce_bltT (b_list mt) hg hm (by decide +kernel) ha (by decide) hdb hst
  split at hb
  · rename_i e; cases hb; subst e; exact ce_bltB (b_repr C.gd (units_of C)) hg hm (by decide +kernel) ha (by decide) hdb hst
  split at hb
  · rename_i e; cases hb; subst e; exact ce_bltT b_str hg hm (by decide +kernel) ha (by decide) hdb hst
  split at hb
  · rename_i e; cases hb; subst e; exact ce_bltB (b_sorted mt) hg hm (by decide +kernel) ha (by decide) hdb hst
  · cases hb
theorem fr_of (C : Cok T N ex fn k sc own Wx X) {x : Str} (h : T.fr.contains x = true) : X.mg x = none := C.fr x (List.contains_iff_mem.mp h)
theorem cLR_ok (O : RecOk T N ex fn k R) (C : Cok T N ex fn k sc own Wx X) {args : List Expr} {c : CE} {p pos : Pos} (hg : Gl X "list") (hm : X.mg "list" = none) (h : cLR T R sc own 5 args = some c) : PE X (.Call (.Name "list" p) args [] pos) (tE X.K ex Wx fn c) := by
  unfold cLR at h
  split at h
  · rename_i y p2 a p3
    split at h
    · rename_i hgt
      simp only [Bool.and_eq_true, decide_eq_true_eq] at hgt
      obtain ⟨⟨g1, g2⟩, rfl⟩ := hgt
      split at h
      · rename_i ca h1
        cases h
        obtain ⟨k1, p1, _⟩ := O.e C h1
        exact ce_lrg C.calm hg hm (glo_of C g1) (fr_of C g2) p1 (okx_star k1)
      · cases h
    · cases h
  · cases h
theorem cTR_ok (O : RecOk T N ex fn k R) (C : Cok T N ex fn k sc own Wx X) {args : List Expr} {c : CE} {p pos : Pos} (hg : Gl X "tuple") (hm : X.mg "tuple" = none) (h : cLR T R sc own 8 args = some c) : PE X (.Call (.Name "tuple" p) args [] pos) (tE X.K ex Wx fn c) := by
  unfold cLR at h
  split at h
  · rename_i y p2 a p3
    split at h
    · rename_i hgt
      simp only [Bool.and_eq_true, decide_eq_true_eq] at hgt
      obtain ⟨⟨g1, g2⟩, rfl⟩ := hgt
      split at h
      · rename_i ca h1
        cases h
        obtain ⟨k1, p1, _⟩ := O.e C h1
        exact ce_trg C.calm hg hm (glo_of C g1) (fr_of C g2) p1 (okx_star k1)
      · cases h
    · cases h
  · cases h
theorem cCall_ok (O : RecOk T N ex fn k R) (C : Cok T N ex fn k sc own Wx X) {mt : Bool} {x : Str} {args : List Expr} {c : CE} {p pos : Pos} (h : cCall T R sc own mt x args = some c) : PE X (.Call (.Name x p) args [] pos) (tE X.K ex Wx fn c) := by
  unfold cCall at h
  split at h
  · rename_i hgd
    simp only [Bool.and_eq_true, Bool.not_eq_true'] at hgd
    have hg := glo_of C hgd.1
    split at h
    · rename_i f n hid
      obtain ⟨a, fd, ps, m1, m2, m3, F⟩ := C.fs x f n hid
      split at h
      · rename_i hn
        split at h
        · rename_i cs hcs
          cases h
          have hcs2 : PA X args (tEs X.K ex Wx fn cs) ∧ (∀ y ∈ args, NoStar y) ∧ ∀ ρ M ds M', evEs fn cs ρ M = .ok ds M' → ds.length = args.length := by
            split at hcs
            · exact cEsM_ok O C hcs
            · exact cEs_ok O C hcs
          obtain ⟨g1, g2, g3⟩ := hcs2
          cases args with
          | nil =>
            have e0 : cs = .nil := by
              split at hcs <;> (cases hcs; rfl)
            subst e0
            subst hn
            exact ce_call0 F C.gd C.rm hg m1 m2 m3 C.tk hgd.2
          | cons e es => exact ce_call F C.gd C.rm hg m1 m2 m3 C.tk g1 hgd.2 g2 (fun ρ M ds M' e => (g3 ρ M ds M' e).trans hn)
        · cases h
      · cases h
    · split at h
      · rename_i hfr
        have hm := fr_of C hfr
        split at h
        · rename_i ex'
          subst ex'
          split at h
          · rename_i a t p2
            split at h
            · rename_i hgt
              simp only [Bool.and_eq_true] at hgt
              split at h
              · rename_i ca ty h1 h2
                cases h
                obtain ⟨k1, p1, _⟩ := O.e C h1
                obtain ⟨t1, t2, t3⟩ := tyOf_ok h2
                exact ce_isi hg hm (glo_of C hgt.1) (fr_of C hgt.2) t1 t2 t3 p1 (okx_star k1)
              · cases h
            · cases h
          · cases h
        · split at h
          · rename_i c' hc'
            cases h
            split at hc'
            · rename_i ex'
              subst ex'
              exact cLR_ok O C hg hm hc'
            · split at hc'
              · rename_i ex'
                subst ex'
                exact cTR_ok O C hg hm hc'
              · cases hc'
          split at h
          · cases h
          · split at h
            · rename_i b cs h1 h2
              cases h
              obtain ⟨g1, g2, _⟩ := cEs_ok O C h2
              cases args with
              | nil => rename_i hne _; exact absurd rfl hne
              | cons e es => exact cBlt_ok C h1 hg hm hgd.2 g1 g2
            · cases h
      · cases h
  · cases h
theorem cMethI_ok (O : RecOk T N ex fn k R) (C : Cok T N ex fn k sc own Wx X) {o e : Expr} {ap cp : Pos} {c : CE} (h1 : isCall o = false) (h2 : (ap.endLine == cp.line) = true) (h : cMethI T R sc own o e = some c) : PE X (.Call (.Attribute o "index" ap) [e] [] cp) (tE X.K ex Wx fn c) := by
  unfold cMethI at h
  split at h
  · split at h
    · cases h
    · rename_i hd
      split at h
      · rename_i hg
        split at h
        · rename_i xs hcs
          split at h
          · rename_i c' hc
            cases h
            obtain ⟨v, u, m, r, rp⟩ := C.cs _ _ hcs
            obtain ⟨k1, p1, _⟩ := O.e C hc
            exact ce_tidx (pe_glob (glo_of C hg) m r (by simpa using hd)) rp.1 (fun H => rp.2 xs H rfl) p1 (attr_of h1 _ _) h2 (okx_star k1)
          · cases h
        · cases h
      · cases h
  · cases h
theorem tmn {m : TM} (h : m ≠ .tidx) : ∀ x, txR m x = true → ∃ a, x = .str a := by
  intro x hx
  cases m <;> first | exact absurd rfl h | skip
  all_goals cases x <;> first | exact ⟨_, rfl⟩ | cases hx
theorem cMethX_ok (O : RecOk T N ex fn k R) (C : Cok T N ex fn k sc own Wx X) {o : Expr} {m : Str} {args : List Expr} {ap cp : Pos} {c : CE} (h1 : isCall o = false) (h2 : (ap.endLine == cp.line) = true) (h : cMethX T R sc own o m args = some c) : PE X (.Call (.Attribute o m ap) args [] cp) (tE X.K ex Wx fn c) := by
  unfold cMethX at h
  split at h
  · rename_i e
    split at h
    · rename_i em
      subst em
      split at h
      · split at h
        · rename_i co ce hc1 hc2
          cases h
          obtain ⟨_, p1, _⟩ := O.e C hc1
          obtain ⟨k2, p2, _⟩ := O.e C hc2
          exact ce_txm (tmn (fun z => by cases z)) PySem.F.slot_str_count PySem.F.type_str_count m_cnt p1 p2 (attr_of h1 _ _) h2 (okx_star k2)
        · cases h
      · cases h
    split at h
    · rename_i em
      subst em
      exact cMethI_ok O C h1 h2 h
    · split at h
      · rename_i co ce hc1 hc2
        obtain ⟨_, p1, _⟩ := O.e C hc1
        obtain ⟨k2, p2, _⟩ := O.e C hc2
        split at h
        · rename_i em
          subst em
          cases h
          exact ce_txm (tmn (fun z => by cases z)) PySem.F.slot_str_join PySem.F.type_str_join m_join p1 p2 (attr_of h1 _ _) h2 (okx_star k2)
        · split at h
          · rename_i em
            subst em
            cases h
            exact ce_txm (tmn (fun z => by cases z)) PySem.F.slot_str_split PySem.F.type_str_split m_split p1 p2 (attr_of h1 _ _) h2 (okx_star k2)
          · split at h
            · rename_i em
              subst em
              cases h
              exact ce_txm (tmn (fun z => by cases z)) PySem.F.slot_str_partition PySem.F.type_str_partition m_part p1 p2 (attr_of h1 _ _) h2 (okx_star k2)
            · cases h
      · cases h
  · rename_i e f
    split at h
    · rename_i em
      subst em
      split at h
      · rename_i d a b hc1 hc2 hc3
        cases h
        obtain ⟨_, p1, _⟩ := O.e C hc1
        obtain ⟨k2, p2, _⟩ := O.e C hc2
        obtain ⟨k3, p3, _⟩ := O.e C hc3
        exact ce_dgt (by have := units_of C; omega) p1 p2 p3 (attr_of h1 _ _) h2 (okx_star k2) (okx_star k3)
      · cases h
    · cases h
  · cases h
theorem cUpp_ok (O : RecOk T N ex fn k R) (C : Cok T N ex fn k sc own Wx X) {o : Expr} {m : Str} {ap cp : Pos} {c : CE} (h : cUpp R sc own o m ap cp = some c) : PE X (.Call (.Attribute o m ap) [] [] cp) (tE X.K ex Wx fn c) := by
  unfold cUpp at h
  split at h
  · rename_i hh
    simp only [Bool.and_eq_true, Bool.not_eq_true', decide_eq_true_eq] at hh
    obtain ⟨⟨h1, h2⟩, h3⟩ := hh
    subst h3
    split at h
    · rename_i co hc
      cases h
      obtain ⟨_, p1, _⟩ := O.e C hc
      exact ce_upp p1 (attr_of h1 _ _) h2
    · cases h
  · cases h
theorem cMeth_ok (O : RecOk T N ex fn k R) (C : Cok T N ex fn k sc own Wx X) {o : Expr} {m : Str} {args : List Expr} {ap cp : Pos} {c : CE} (h : cMeth T R sc own o m args ap cp = some c) : PE X (.Call (.Attribute o m ap) args [] cp) (tE X.K ex Wx fn c) := by
  unfold cMeth at h
  split at h
  · rename_i hh
    simp only [Bool.and_eq_true, Bool.not_eq_true', decide_eq_true_eq] at hh
    obtain ⟨⟨⟨h1, h2⟩, h3⟩, h4⟩ := hh
    split at h
    · rename_i c' hcx
      cases h
      exact cMethX_ok O C h1 h2 hcx
    split at h
    · rename_i co cs hc1 hc2
      obtain ⟨_, p1, _⟩ := O.e C hc1
      obtain ⟨g1, g2, _⟩ := cEs_ok O C hc2
      cases args with
      | nil => cases h3
      | cons e es =>
        split at h
        · rename_i em
          subst em
          cases h
          exact ce_mth (m := .append) PySem.F.slot_list_append PySem.F.type_list_append m_append (fun o ds M c M' => mAppend_ne c M') p1 g1 (attr_of h1 _ _) h2 h4 g2
        · split at h
          · rename_i em
            subst em
            cases h
            exact ce_mth (m := .count) PySem.F.slot_list_count PySem.F.type_list_count (m_two (b_count (units_of C))) (fun o ds M c M' => two_ne (fun x y M c M' h => by unfold bCount at h; split at h <;> (try split at h) <;> cases h) c M') p1 g1 (attr_of h1 _ _) h2 h4 g2
          · split at h
            · rename_i em
              subst em
              cases h
              exact ce_mth (m := .pop) PySem.F.slot_list_pop PySem.F.type_list_pop m_pop (fun o ds M c M' => mPop_ne c M') p1 g1 (attr_of h1 _ _) h2 h4 g2
            · cases h
    · cases h
  · cases h
theorem cNms_ok (C : Cok T N ex fn k sc own Wx X) : ∀ {es : List Expr} {is : List Nat}, cNms N sc own es = some is → NmsOk X es is ∧ NmsD X es is
  | [], is, h => by
    unfold cNms at h
    cases h
    exact ⟨nms_nil, nmd_nil⟩
  | e :: es, is, h => by
    cases e <;> try (simp [cNms] at h; done)
    rename_i x pos
    unfold cNms at h
    split at h
    · rename_i hs
      split at h
      · rename_i i is' h1 h2
        cases h
        obtain ⟨g1, g2⟩ := cNms_ok C h2
        obtain ⟨l1, l2⟩ := sto_of C hs
        have hN : X.N.Nodup := by rw [C.hN]; exact C.nd
        have hi : X.N[i]? = some x := by rw [C.hN]; exact slotOf_get h1
        exact ⟨nms_cons (cg_name hN hi l1 l2) g1, nmd_cons hN hi l1 l2 g2⟩
      · cases h
    · cases h
theorem cTg_ok (C : Cok T N ex fn k sc own Wx X) {e : Expr} {t : Tg} (h : cTg N sc own e = some t) : PG X e (tG X.K t) := by
  unfold cTg at h
  split at h
  · split at h
    · rename_i hs
      split at h
      · rename_i i hi
        cases h
        obtain ⟨l1, l2⟩ := sto_of C hs
        exact cg_name (by rw [C.hN]; exact C.nd) (by rw [C.hN]; exact slotOf_get hi) l1 l2
      · cases h
    · cases h
  · split at h
    · rename_i is hi
      cases h
      exact cg_tup C.calm (cNms_ok C hi).1
    · cases h
  · cases h
theorem cIter_ok (O : RecOk T N ex fn k R) (C : Cok T N ex fn k sc own Wx X) {tg iter : Expr} {ci : CI} (h : cIter T R sc own tg iter = some ci) : PI X tg iter (tI X.K ex Wx fn ci) ∧ ∀ x, foldedSetIterable iter X.env x = pure x := by
  have seq : ∀ {e : Expr} {c : CE}, R.e sc own false e = some c → PI X tg e (tI X.K ex Wx fn (.seq c)) ∧ ∀ x, foldedSetIterable e X.env x = pure x := fun hc => ⟨ci_seq (O.e C hc).2.1, okx_set (O.e C hc).1 _⟩
  unfold cIter at h
  split at h
  · rename_i x p args pos
    refine ⟨?_, fun _ => rfl⟩
    split at h
    · rename_i hh
      simp only [Bool.and_eq_true, decide_eq_true_eq] at hh
      obtain ⟨⟨h1, h2⟩, rfl⟩ := hh
      split at h
      · split at h
        · rename_i a c hc
          cases h
          obtain ⟨k1, p1, _⟩ := O.e C hc
          exact ci_rng (glo_of C h1) (fr_of C h2) p1 (okx_star k1)
        · cases h
      · split at h
        · rename_i a b c d hc hd
          cases h
          obtain ⟨k1, p1, _⟩ := O.e C hc
          obtain ⟨k2, p2, _⟩ := O.e C hd
          exact ci_rng2 (glo_of C h1) (fr_of C h2) p1 p2 (okx_star k1) (okx_star k2)
        · cases h
      · cases h
    · split at h
      · rename_i hh
        simp only [Bool.and_eq_true, decide_eq_true_eq] at hh
        obtain ⟨⟨h1, h2⟩, rfl⟩ := hh
        split at h
        · split at h
          · rename_i ht
            split at h
            · rename_i c hc
              cases h
              obtain ⟨k1, p1, _⟩ := O.e C hc
              cases tg <;> first | cases ht | skip
              exact ci_enum (glo_of C h1) (fr_of C h2) p1 (okx_star k1)
            · cases h
          · cases h
        · cases h
      · split at h
        · rename_i hh
          simp only [Bool.and_eq_true, decide_eq_true_eq] at hh
          obtain ⟨⟨h1, h2⟩, rfl⟩ := hh
          split at h
          · split at h
            · rename_i ht
              split at h
              · rename_i c d hc hd
                cases h
                obtain ⟨k1, p1, _⟩ := O.e C hc
                obtain ⟨k2, p2, _⟩ := O.e C hd
                cases tg <;> first | cases ht | skip
                exact ci_zip (glo_of C h1) (fr_of C h2) p1 p2 (okx_star k1) (okx_star k2)
              · cases h
            · cases h
          · split at h
            · rename_i ht
              split at h
              · rename_i c d f hc hd hf
                cases h
                obtain ⟨k1, p1, _⟩ := O.e C hc
                obtain ⟨k2, p2, _⟩ := O.e C hd
                obtain ⟨k3, p3, _⟩ := O.e C hf
                cases tg <;> first | cases ht | skip
                exact ci_zip3 (glo_of C h1) (fr_of C h2) p1 p2 p3 (okx_star k1) (okx_star k2) (okx_star k3)
              · cases h
            · cases h
          · cases h
        · split at h
          · rename_i c hc
            cases h
            exact (seq hc).1
          · cases h
  · split at h
    · rename_i c hc
      cases h
      exact seq hc
    · cases h
/-- a comprehension's block -/
theorem blk_ok (C : Cok T N ex fn k sc own Wx X) {scope : Scope} (hk : scope.kind = .function) (hlm : lamOk own = true) (s : Shared) (H : Hp) (D : Addr) (cl : List (Str × Addr)) (fp : List Addr) : Cok T N ex fn k (relS scope sc) (some scope) W0 (X.blk s H scope (compEnvC scope cl D X.env) fp) where
  hN := C.hN
  hs := by rw [← C.hs]; rfl
  nd := C.nd
  calm := C.calm
  tk := fun u s' h => by
    obtain ⟨_, _, _, _, _, _, _, _, _, _, _, _, _, _, _, _, z⟩ := h
    exact z.elim
  po := PassesOwn.never
  rm := C.rm
  gd := C.gd
  fnq := fun x h => by
    show (scope.names.lookup x == some .cell) = true
    unfold ownB at h
    try dsimp only at h
    split at h
    · rename_i e; rw [e]; rfl
    · cases h
  kd := hk
  fs := C.fs
  cs := C.cs
  fr := C.fr
  lm := fun _ h => ⟨(C.lm hlm h).said, (C.lm hlm h).tab, (C.lm hlm h).rm⟩
  xe := C.xe
  xg := C.xg
  cl := C.cl
  ms := C.ms
  mks := C.mks
  rm2 := fun _ hc => C.rm2 hlm hc
structure LCok (X : Cx) (ex : Nat → Value) (Wx : WX) (fn : Fn) (elt tg iter : Expr) (ifs : List Expr) (scope : Scope) (c : CE) : Prop where
  ok : ∃ (own : List (Str × Nat)) (wi : TI) (g : TG) (tt : TT) (te : TE), X.calm = true ∧ X.N.Nodup ∧ PI X tg iter wi ∧ BlkOk X.N X.env.scope scope own ∧
    (∀ (s : Shared) (H : Hp) (C : Addr) (cl : List (Str × Addr)) (fp : List Addr), PG (X.blk s H scope (compEnvC scope cl C X.env) fp) tg g) ∧ (∀ (s : Shared) (H : Hp) (C : Addr) (cl : List (Str × Addr)) (fp : List Addr), PTs (X.blk s H scope (compEnvC scope cl C X.env) fp) ifs tt) ∧
    (∀ (s : Shared) (H : Hp) (C : Addr) (cl : List (Str × Addr)) (fp : List Addr), PE (X.blk s H scope (compEnvC scope cl C X.env) fp) elt te) ∧ (∀ x, foldedSetIterable iter X.env x = pure x) ∧
    ∀ σ H Q, tE X.K ex Wx fn c σ H Q → tLc wi g tt te (own.map (·.2)) σ H Q
theorem cLC_ok (O : RecOk T N ex fn k R) (C : Cok T N ex fn k sc own Wx X) {mt : Bool} {elt tg iter : Expr} {ifs : List Expr} {scope : Scope} {c : CE} (h : cLC T N R sc own mt elt tg iter ifs scope = some c) : LCok X ex Wx fn elt tg iter ifs scope c := by
  unfold cLC at h
  split at h
  · rename_i hb
    simp only [Bool.and_eq_true] at hb
    have bk := blkOk_by hb.1
    split at h
    · rename_i ci t cc ce h1 h2 h3 h4
      split at h
      · rename_i hts
        cases h
        obtain ⟨i1, i2⟩ := cIter_ok O C h1
        have bk' : BlkOk X.N X.env.scope scope (ownOf N scope) := by rw [C.hN, C.hs]; exact bk
        have hN : X.N.Nodup := by rw [C.hN]; exact C.nd
        have B := fun s H D cl fp => blk_ok C bk.kind hb.2 s H D cl fp
        have hg : ∀ (s : Shared) (H : Hp) (C : Addr) (cl : List (Str × Addr)) (fp : List Addr), PG (X.blk s H scope (compEnvC scope cl C X.env) fp) tg (tG X.K t) := fun s H D cl fp => cTg_ok (B s H D cl fp) h2
        have ht : ∀ (s : Shared) (H : Hp) (C : Addr) (cl : List (Str × Addr)) (fp : List Addr), PTs (X.blk s H scope (compEnvC scope cl C X.env) fp) ifs (tC1 X.K ex W0 fn cc) := fun s H D cl fp => by
          split at h3
          · cases h3; exact cc_nil
          · split at h3
            · rename_i c' hc'
              cases h3
              exact cc_one (O.t (B s H D cl fp) hc')
            · cases h3
          · cases h3
        have he : ∀ (s : Shared) (H : Hp) (C : Addr) (cl : List (Str × Addr)) (fp : List Addr), PE (X.blk s H scope (compEnvC scope cl C X.env) fp) elt (tE X.K ex W0 fn ce) := fun s H D cl fp => (O.e (B s H D cl fp) h4).2.1
        refine ⟨_, _, _, _, _, C.calm, hN, i1, bk', hg, ht, he, i2, fun σ H Q hq => ce_comp C.calm hN i1 bk' rfl (fun i hi => ?_) hg ht he hq⟩
        exact of_decide_eq_true (List.all_eq_true.mp hts i hi)
      · cases h
    · cases h
  · cases h
theorem LCok.pe {elt tg iter : Expr} {ifs : List Expr} {scope : Scope} {c : CE} {pos : Pos} (h : LCok X ex Wx fn elt tg iter ifs scope c) : PE X (.ListComp elt [⟨tg, iter, ifs, 0⟩] scope pos) (tE X.K ex Wx fn c) := by
  obtain ⟨own, wi, g, tt, te, h1, h2, h3, h4, h5, h6, h7, h8, h9⟩ := h.ok
  exact (pe_lc h1 h2 h3 h4 h5 h6 h7 h8).weak h9
theorem LCok.ps {elt tg iter : Expr} {ifs : List Expr} {scope : Scope} {c : CE} {pos spos py : Pos} {i fuel : Nat} {y : Str} (h : LCok X ex Wx fn elt tg iter ifs scope c) (hy : X.N[i]? = some y) (hyl : X.env.scope.names.lookup y = some .local)
    (hsw : swapsWith (.ListComp elt [⟨tg, iter, ifs, 0⟩] scope pos) (some (.Name y py)) spos.line X.env = pure true) : PS X (.Assign [.Name y py] (.ListComp elt [⟨tg, iter, ifs, 0⟩] scope pos) spos) (tS X.K ex Wx fn fuel (.asg (.nm i) c)) := by
  obtain ⟨own, wi, g, tt, te, h1, h2, h3, h4, h5, h6, h7, h8, h9⟩ := h.ok
  refine (ps_setLc h1 h2 hy hyl hsw h3 h4 h5 h6 h7 h8).weak fun D σ H ⟨S, M, ρ, w, sl, aw⟩ => h9 _ _ _ ?_
  simp only [evS] at aw
  exact ⟨S, M, ρ, w, sl, (aw.onto sl).imp fun d M1 S1 H1 t1 w1 q v r => q.of_ok w1 _ ((sl.mono t1).set i r)⟩
theorem const_ok {c : Const} {d : PyData} {j : Nat} {pos : Pos} (h : constP c = some d) : ∃ v, PE X (.Constant c j pos) (tC v) ∧ ∀ S H, RP X.K S H d v := by
  cases c <;> try (simp [constP] at h; done)
  · cases h; exact ⟨.non, pe_non, fun _ _ => .non⟩
  · cases h; exact ⟨_, pe_bl, fun _ _ => .bl _⟩
  · cases h; exact ⟨_, pe_int, fun _ _ => .int _⟩
  · cases h; exact ⟨_, pe_str, fun _ _ => .str _⟩
theorem lam_ok (C : Cok T N ex fn k sc own Wx X) {scope : Scope} (L : LamX.LamS X.env.scope scope) {A : Around} {outer : List PySem.Env} {s : Shared} {H : Hp} {f c' : Addr} {E : XK} (gd : A.guards = some []) (rm : Room (3 * k) (A.deeper (LamX.lamEnv X scope s.heap.objs.size f c'))) :
    Cok T N ex fn k scope (some mkS) (fun cls d _ H' => E cls d H') (LamX.lamCx X A outer s H E scope f c') where
  hN := C.hN
  hs := rfl
  nd := C.nd
  calm := rfl
  tk := takes_of rfl rfl rfl rfl
  po := passes_of rfl
  rm := rm
  gd := gd
  fnq := fun x h => by cases h
  kd := L.kind
  fs := C.fs
  cs := C.cs
  fr := C.fr
  lm := fun h _ => by cases h
  xe := C.xe
  xg := C.xg
  cl := C.cl
  ms := C.ms
  mks := C.mks
  rm2 := fun h => by cases h
theorem noPar_eq {p : Arguments} (h : noPar p = true) : p = ⟨[], [], none, [], [], none, []⟩ := by
  unfold noPar at h
  split at h
  · rfl
  · cases h
theorem cSaid_ok (O : RecOk T N ex fn k R) (C : Cok T N ex fn k sc own Wx X) {x : Str} {args : List Expr} {c : CE} {p pos : Pos} (h : cSaid T N R sc own x args = some c) : PE X (.Call (.Name x p) args [] pos) (tE X.K ex Wx fn c) := by
  unfold cSaid at h
  split at h
  · rename_i hh
    simp only [Bool.and_eq_true, decide_eq_true_eq] at hh
    obtain ⟨⟨⟨rfl, h1⟩, h2⟩, h3⟩ := hh
    split at h
    · rename_i params g p1 es p2 scope p3
      split at h
      · rename_i hb
        simp only [Bool.and_eq_true, Bool.not_eq_true'] at hb
        obtain ⟨⟨⟨⟨b1, b2⟩, b3⟩, b4⟩, b5⟩ := hb
        have hp := noPar_eq b1
        subst hp
        have L : LamX.LamS X.env.scope scope := by rw [C.hs]; exact LamX.lamS_by b2
        split at h
        · rename_i f n hid
          split at h
          · rename_i hn
            split at h
            · rename_i cs hcs
              cases h
              refine pe_said C.xe (C.lm h1 h2) (glo_of C h3) C.gd L rfl (fun _ _ _ _ _ => rfl) fun A outer s H f2 c2 E gd rm => ?_
              have C2 := lam_ok C (outer := outer) (s := s) (H := H) (f := f2) (c' := c2) (E := E) L gd rm
              obtain ⟨a, fd, ps, m1, m2, m3, F⟩ := C2.fs g f n hid
              obtain ⟨g1, g2, g3⟩ := cEs_ok O C2 hcs
              cases es with
              | nil => cases b5
              | cons e es => exact ce_call F C2.gd C2.rm (glo_of C2 b3) m1 m2 m3 C2.tk g1 b4 g2 (fun ρ M ds M' e => (g3 ρ M ds M' e).trans hn)
            · cases h
          · cases h
        · cases h
      · cases h
    · cases h
  · cases h
theorem cDict_ok {ks : List (Option Expr)} {vs : List Expr} {c : CE} {pos : Pos} (h : cDict ks vs = some c) : PE X (.Dict ks vs pos) (tE X.K ex Wx fn c) := by
  unfold cDict at h
  split at h
  · cases h
    refine pe_dnewK.weak fun σ H Q hq p np => ?_
    obtain ⟨S, M, ρ, w, sl, aw⟩ := hq
    simp only [evE, evEs, Res.bind, dctop, frzPs] at aw
    rw [if_pos (by simp [keysOk])] at aw
    have st : Stp S H S (upd H p (.dK [])) := .fresh np
    exact aw S _ st (w.fresh np) _ (.dct upd_same ⟨fun z => w.al p z np, fun z => w.zl p z np⟩ .nil)
  · rename_i a _ _ b _ _ v _ _ u _ _
    split at h
    · cases h
    · rename_i hab
      split at h
      · rename_i vd ud h1 h2
        cases h
        obtain ⟨vv, pv, rv⟩ := const_ok (X := X) h1
        obtain ⟨uu, pu, ru⟩ := const_ok (X := X) h2
        refine (pe_disp (pps_cons pe_str pv (pps_cons pe_str pu pps_nil)) rfl rfl (fun z => by cases z) (by show 2 ≤ 15; decide)).weak fun σ H Q hq p np => ?_
        obtain ⟨S, M, ρ, w, sl, aw⟩ := hq
        simp only [evE, evEs, Res.bind, dctop, frzPs, frzP] at aw
        rw [if_pos (by simp [keysOk, hab])] at aw
        refine ⟨upd_same, [(.inr a, vv), (.inr b, uu)], rfl, by show 2 ≤ 15; decide, ?_⟩
        have e1 : mergeK [] [((.inr a : Key), vv), (.inr b, uu)] = [(.inr a, vv), (.inr b, uu)] := by
          unfold mergeK
          simp [putK, hab]
        rw [e1, upd_upd]
        have st : Stp S H S (upd H p (.dK [(.inr a, vv), (.inr b, uu)])) := .fresh np
        exact aw S _ st (w.fresh np) _ (.dct upd_same ⟨fun z => w.al p z np, fun z => w.zl p z np⟩ (.str (rv _ _) (.str (ru _ _) .nil)))
      · cases h
  · split at h
    · rename_i kd vd h1 h2
      split at h
      · rename_i hk
        cases h
        obtain ⟨kv, pk, rk⟩ := const_ok (X := X) h1
        obtain ⟨vv, pv, rv⟩ := const_ok (X := X) h2
        refine (pe_disp (pps_cons pk pv pps_nil) rfl rfl (fun z => by cases z) (by show 1 ≤ 15; decide)).weak fun σ H Q hq p np => ?_
        obtain ⟨S, M, ρ, w, sl, aw⟩ := hq
        simp only [evE, evEs, Res.bind, dctop, frzPs, frzP] at aw
        rw [if_pos (by simp [keysOk, hk])] at aw
        have kq : ∃ kk : Key, kv = kV kk ∧ RKs X.K S (upd H p (.dK [(kk, vv)])) [(kd, vd)] [(kk, vv)] := by
          have rk' := rk S H
          cases kd <;> try (cases hk; done)
          · cases rk'; exact ⟨.inl _, rfl, .int (rv _ _) .nil⟩
          · cases rk'; exact ⟨.inr _, rfl, .str (rv _ _) .nil⟩
        obtain ⟨kk, rfl, kr⟩ := kq
        refine ⟨upd_same, [(kk, vv)], rfl, by show 1 ≤ 15; decide, ?_⟩
        have e1 : mergeK [] [(kk, vv)] = [(kk, vv)] := by
          unfold mergeK
          simp [putK]
        rw [e1, upd_upd]
        have st : Stp S H S (upd H p (.dK [(kk, vv)])) := .fresh np
        exact aw S _ st (w.fresh np) _ (.dct upd_same ⟨fun z => w.al p z np, fun z => w.zl p z np⟩ kr)
      · cases h
    · cases h
  · cases h
theorem fldOf_ok {x : Str} {c : Nat} : ∀ {l : List ClI}, fldOf l x = some c → ∃ p ∈ l, p.c = c ∧ x ∈ p.fl
  | [], h => by cases h
  | p :: r, h => by
    unfold fldOf at h
    split at h
    · rename_i e
      cases h
      exact ⟨p, List.mem_cons_self, rfl, List.contains_iff_mem.mp e⟩
    · obtain ⟨q, h1, h2⟩ := fldOf_ok h
      exact ⟨q, List.mem_cons_of_mem _ h1, h2⟩
theorem metOf_ok {x : Str} {c : Nat} {z : Nat × Nat} : ∀ {l : List ClI}, metOf l x = some (c, z) → ∃ p ∈ l, p.c = c ∧ p.ms.lookup x = some z
  | [], h => by cases h
  | p :: r, h => by
    unfold metOf at h
    split at h
    · rename_i q e
      cases h
      exact ⟨p, List.mem_cons_self, rfl, e⟩
    · obtain ⟨q, h1, h2⟩ := metOf_ok h
      exact ⟨q, List.mem_cons_of_mem _ h1, h2⟩
theorem mkOf_ok {x : Str} {c : Nat} {z : Nat × Nat} : ∀ {l : List ClI}, mkOf l x = some (c, z) → ∃ p ∈ l, p.c = c ∧ p.mko = some z ∧ clsNm c = x
  | [], h => by cases h
  | p :: r, h => by
    unfold mkOf at h
    split at h
    · rename_i q e
      split at h
      · rename_i e2
        cases h
        exact ⟨p, List.mem_cons_self, rfl, e, e2⟩
      · obtain ⟨q, h1, h2⟩ := mkOf_ok h
        exact ⟨q, List.mem_cons_of_mem _ h1, h2⟩
    · obtain ⟨q, h1, h2⟩ := mkOf_ok h
      exact ⟨q, List.mem_cons_of_mem _ h1, h2⟩
theorem cFld_ok (O : RecOk T N ex fn k R) (C : Cok T N ex fn k sc own Wx X) {o : Expr} {x : Str} {c : CE} {pos : Pos} (h : cFld T R sc own o x = some c) : PE X (.Attribute o x pos) (tE X.K ex Wx fn c) := by
  unfold cFld at h
  split at h
  · cases h
  · rename_i h1
    split at h
    · rename_i c' co hc ho
      cases h
      obtain ⟨p, hp, rfl, hx⟩ := fldOf_ok hc
      obtain ⟨k1, k2⟩ := C.cl p hp
      exact ce_fld (O.e C ho).2.1 k1 (k2 x hx) (attr_of (by simpa using h1) _ _)
    · cases h
theorem cMcl_ok (O : RecOk T N ex fn k R) (C : Cok T N ex fn k sc own Wx X) {o : Expr} {m : Str} {args : List Expr} {ap cp : Pos} {c : CE} (h : cMcl T R sc own o m args ap cp = some c) : PE X (.Call (.Attribute o m ap) args [] cp) (tE X.K ex Wx fn c) := by
  unfold cMcl at h
  split at h
  · rename_i hh
    simp only [Bool.and_eq_true, Bool.not_eq_true', decide_eq_true_eq] at hh
    obtain ⟨⟨h1, h2⟩, h4⟩ := hh
    split at h
    · rename_i c' f n hm
      split at h
      · rename_i hn
        split at h
        · rename_i co cs ho hcs
          cases h
          obtain ⟨p, hp, rfl, hx⟩ := metOf_ok hm
          obtain ⟨k1, _⟩ := C.cl p hp
          obtain ⟨a, fd, ps, m1, m2, m3⟩ := C.ms p hp _ _ _ hx
          obtain ⟨g1, g2, g3⟩ := cEs_ok O C hcs
          cases args with
          | nil =>
            simp only [cEs] at hcs
            cases hcs
            subst hn
            exact ce_mcl0 (O.e C ho).2.1 k1 m1 m3 C.gd C.rm m2 C.tk (attr_of h1 _ _) h2
          | cons e es => exact ce_mcl (O.e C ho).2.1 k1 m1 m3 C.gd C.rm m2 C.tk g1 (fun ρ M ds M' e => by rw [g3 ρ M ds M' e]; exact hn) (attr_of h1 _ _) h4 h2 g2
        · cases h
      · cases h
    · cases h
  · cases h
theorem cMk_ok (O : RecOk T N ex fn k R) (C : Cok T N ex fn k sc own Wx X) {x : Str} {args : List Expr} {c : CE} {p pos : Pos} (h : cMk T R sc own x args = some c) : PE X (.Call (.Name x p) args [] pos) (tE X.K ex Wx fn c) := by
  unfold cMk at h
  split at h
  · rename_i hh
    simp only [Bool.and_eq_true, Bool.not_eq_true'] at hh
    obtain ⟨⟨⟨h1, h2⟩, h3⟩, h4⟩ := hh
    split at h
    · rename_i c' n a hm
      split at h
      · rename_i hn
        split at h
        · rename_i cs hcs
          cases h
          obtain ⟨q, hq, rfl, hx, rfl⟩ := mkOf_ok hm
          obtain ⟨m0, f, fd, ps, m1, m2, m3⟩ := C.mks q hq _ _ hx
          obtain ⟨g1, g2, g3⟩ := cEs_ok O C hcs
          cases args with
          | nil => cases h4
          | cons e es => exact ce_mk m1 m3 C.gd ((C.rm2 h1 (List.ne_nil_of_mem hq)).mono (by omega)) (glo_of C h2) m0 m2 C.tk g1 h3 g2
        · cases h
      · cases h
    · cases h
  · cases h
theorem cBox_ok (O : RecOk T N ex fn k R) (C : Cok T N ex fn k sc own Wx X) {es : List Expr} {c : CE} {pos : Pos} (h : cBox R sc own es = some c) : PE X (.List es pos) (tE X.K ex Wx fn c) := by
  unfold cBox at h
  split at h
  · rename_i e r
    split at h
    · rename_i hh
      simp only [Bool.and_eq_true] at hh
      split at h
      · rename_i c' hc
        cases h
        obtain ⟨k1, p1, _⟩ := O.e C hc
        refine ce_box p1 (okx_star k1) fun y hy => ?_
        have := List.all_eq_true.mp hh.2 y hy
        unfold isEmp at this
        split at this
        · exact ⟨_, rfl⟩
        · cases this
      · cases h
    · cases h
  · cases h
theorem plainTest {e : Expr} (h : tstB e = true) (hc : ∀ a o b p, e ≠ .Compare a o b p) (env : PySem.Env) : ∀ whole, isTrue e env whole = (do let v ← whole; standAt e.pos; holding [v] (truthy v)) := by
  intro whole
  cases e
  case UnaryOp op a p => cases op <;> first | rfl | cases h
  case Compare a o b p => exact absurd rfl (hc a o b p)
  all_goals first | rfl | cases h
theorem stepE_ok (O : RecOk T N ex fn k R) (C : Cok T N ex fn k sc own Wx X) {mt : Bool} {e : Expr} {c : CE} (h : stepE T N R sc own mt e = some c) : okx e = true ∧ PE X e (tE X.K ex Wx fn c) ∧ (tstB e = true → PT X e (tT X.K ex Wx fn c)) := by
  have go : ∀ (okk : okx e = true) (p : PE X e (tE X.K ex Wx fn c)) (hc : ∀ a o b p, e ≠ .Compare a o b p), okx e = true ∧ PE X e (tE X.K ex Wx fn c) ∧ (tstB e = true → PT X e (tT X.K ex Wx fn c)) := fun okk p hc => ⟨okk, p, fun ht => ct_any p (plainTest ht hc _)⟩
  cases e <;> try (simp [stepE] at h; done)
  case BoolOp op vs pos => exact go rfl (cBool_ok O C h) (fun _ _ _ _ z => by cases z)
  case BinOp a op b pos =>
    simp only [stepE] at h
    split at h
    · rename_i o ca cb h1 h2 h3
      cases h
      have e := bopOf_of h1
      have r := ce_bin (pos := pos) (o := o) (mt := mt) (O.e C h2).2.1 (O.e C h3).2.1
      rw [e] at r
      exact go rfl r (fun _ _ _ _ z => by cases z)
    · cases h
  case UnaryOp op a pos =>
    simp only [stepE] at h
    split at h
    · split at h
      · rename_i c' hc'
        cases h
        exact go rfl (ce_neg (O.e C hc').2.1) (fun _ _ _ _ z => by cases z)
      · cases h
    · split at h
      · rename_i c' hc'
        cases h
        exact go rfl (ce_not (O.e C hc').2.1) (fun _ _ _ _ z => by cases z)
      · cases h
    · cases h
  case IfExp t a b pos =>
    simp only [stepE] at h
    split at h
    · rename_i h1 h2 h3
      cases h
      exact go rfl (ce_ife (O.t C h1) (O.e C h2).2.1 (O.e C h3).2.1) (fun _ _ _ _ z => by cases z)
    · cases h
  case Dict ks vs pos => exact go rfl (cDict_ok h) (fun _ _ _ _ z => by cases z)
  case ListComp elt gs scope pos =>
    simp only [stepE] at h
    split at h
    · exact go rfl (cLC_ok O C h).pe (fun _ _ _ _ z => by cases z)
    · cases h
  case Compare a ops bs pos =>
    obtain ⟨r1, r2⟩ := cCmp_ok O C (pos := pos) h
    exact ⟨rfl, r1, fun _ => r2⟩
  case Call f args kws pos =>
    simp only [stepE] at h
    split at h
    · split at h
      · rename_i hc
        cases h
        exact go rfl (cSaid_ok O C hc) (fun _ _ _ _ z => by cases z)
      · split at h
        · rename_i hc
          cases h
          exact go rfl (cMk_ok O C hc) (fun _ _ _ _ z => by cases z)
        · exact go rfl (cCall_ok O C h) (fun _ _ _ _ z => by cases z)
    · split at h
      · rename_i hc
        cases h
        exact go rfl (cMcl_ok O C hc) (fun _ _ _ _ z => by cases z)
      · split at h
        · exact go rfl (cUpp_ok O C h) (fun _ _ _ _ z => by cases z)
        · exact go rfl (cMeth_ok O C h) (fun _ _ _ _ z => by cases z)
    · cases h
  case Constant c' j pos =>
    simp only [stepE] at h
    split at h
    · rename_i d hd
      cases h
      obtain ⟨v, p, r⟩ := const_ok (X := X) hd
      exact go rfl (ce_cst p r) (fun _ _ _ _ z => by cases z)
    · cases h
  case Subscript a i pos => exact go rfl (cSub_ok O C h) (fun _ _ _ _ z => by cases z)
  case Name x pos =>
    simp only [stepE, cName] at h
    split at h
    · cases h
    · rename_i hd
      have hd : (x == ("__debug__" : Str)) = false := by simpa using hd
      split at h
      · rename_i hv
        split at h
        · cases h
        · rename_i hcd
          split at h
          · rename_i i hi
            cases h
            exact go rfl (ce_var (by rw [C.hN]; exact slotOf_get hi) (vis_of C hv) hd (by simpa using hcd)) (fun _ _ _ _ z => by cases z)
          · cases h
      · split at h
        · rename_i hg
          split at h
          · rename_i d hcs
            cases h
            obtain ⟨v, u, m, r, rp⟩ := C.cs x d hcs
            exact go rfl (ce_cst (pe_glob (glo_of C hg) m r hd) rp.1) (fun _ _ _ _ z => by cases z)
          · cases h
        · cases h
  case List es pos =>
    simp only [stepE] at h
    split at h
    · rename_i hb
      cases h
      split at hb
      · exact go rfl (cBox_ok O C hb) (fun _ _ _ _ z => by cases z)
      · cases hb
    · split at h
      · rename_i hcs
        cases h
        exact go rfl (ce_lst (cEs_ok O C hcs).1) (fun _ _ _ _ z => by cases z)
      · cases h
  case Attribute o x pos => exact go rfl (cFld_ok O C h) (fun _ _ _ _ z => by cases z)
  case Tuple es x1 pos =>
    have hplain : (match cEs R sc own es with | some cs => some (CE.tup cs) | none => none) = some c → (okx (.Tuple es x1 pos) = true ∧ PE X (.Tuple es x1 pos) (tE X.K ex Wx fn c) ∧ (tstB (.Tuple es x1 pos) = true → PT X (.Tuple es x1 pos) (tT X.K ex Wx fn c))) := fun h => by
      split at h
      · rename_i hcs
        cases h
        exact go rfl (ce_tup (cEs_ok O C hcs).1) (fun _ _ _ _ z => by cases z)
      · cases h
    cases es with
    | nil => simp only [stepE] at h; exact hplain h
    | cons a es =>
      cases a <;> try (simp only [stepE] at h; exact hplain h)
      rename_i e p
      simp only [stepE] at h
      split at h
      · rename_i hce hcs
        cases h
        exact go rfl (ce_tst (O.e C hce).2.1 (cEs_ok O C hcs).1 rfl) (fun _ _ _ _ z => by cases z)
      · cases h
theorem stepT_ok (O : RecOk T N ex fn k R) (C : Cok T N ex fn k sc own Wx X) {e : Expr} {c : CE} (h : stepT R sc own e = some c) : PT X e (tT X.K ex Wx fn c) := by
  have gen : tstB e = true → R.e sc own false e = some c → PT X e (tT X.K ex Wx fn c) := fun ht hc => (O.e C hc).2.2 ht
  cases e <;> try exact gen rfl h
  case BoolOp op vs pos => exact (cBoolT_ok O C h).pt
  case UnaryOp op a pos =>
    cases op <;> try exact gen rfl h
    simp only [stepT] at h
    split at h
    · rename_i c' hc'
      cases h
      exact ct_not (O.t C hc')
    · cases h
  case IfExp t a b pos => cases h
theorem recs_ok : ∀ n, RecOk T N ex fn k (recs T N n) := by
  intro n
  induction n with
  | zero =>
    constructor
    · intro sc own Wx X C mt e c h; cases h
    · intro sc own Wx X C e c h; cases h
  | succ n ih =>
    constructor
    · intro sc own Wx X C mt e c h; exact stepE_ok ih C h
    · intro sc own Wx X C e c h; exact stepT_ok ih C h
end
end Mi

set_option Elab.async false
set_option linter.all false
set_option maxRecDepth 100000
set_option maxHeartbeats 1000000
/-! Mi: statements compiled; a def's promise; a law's end. -/
namespace Mi
open PySem PySem.Spec PyProof.Rows L2
/-! ### which way a, b = x, y goes -/
def swq (sc : Scope) (ts vs : List Expr) : Option (Option (List Str)) := semOf (swappedStores [.Tuple ts 0 pos0] (.Tuple vs 0 pos0) (env0 sc))
theorem swq_ok {sc : Scope} {ts vs : List Expr} {r : Option (List Str)} {env : PySem.Env} {k k2 : Nat} {tp vp : Pos} (hs : env.scope = sc) (h : swq sc ts vs = some r) : swappedStores [.Tuple ts k tp] (.Tuple vs k2 vp) env = pure r := by
  subst hs
  exact semOf_ok h
def locNm (sc : Scope) : List Expr → Option (List Str)
  | [] => some []
  | .Name x _ :: r => (match sc.names.lookup x, locNm sc r with
    | some .local, some xs => some (x :: xs)
    | _, _ => none)
  | _ => none
def isLC : Expr → Bool
  | .ListComp .. => true
  | _ => false
/-! ### statements -/
structure Fs where
  muts : List Str
  retm : Bool
  adds : List Str
section
variable (T : Gt) (N : List Str) (sc : Scope) (F : Fs) (R : Rec)
def noComp : Expr → Bool
  | .ListComp .. => false
  | .SetComp .. => false
  | .DictComp .. => false
  | _ => true
/-- x + .. -/
def lmost : Nat → Expr → Expr
  | 0, e => e
  | n + 1, e => (match e with
    | .BinOp a .Add _ _ => lmost n a
    | e => e)
def selfAdd (x : Str) : Expr → Bool
  | .BinOp a .Add _ _ => (match lmost 20 a with
    | .Name y _ => decide (x = y)
    | _ => false)
  | _ => false
def mutB (x : Str) (e : Expr) : Bool := F.muts.contains x && !(F.adds.contains x && selfAdd x e)
/-- the values of a parallel assignment: those that go to mutable names are made mutable -/
def cPar : List Expr → List Expr → Option CEs
  | .Name x _ :: ts, e :: es => match R.e sc none (F.muts.contains x) e, cPar ts es with
    | some c, some cs => some (.cons c cs)
    | _, _ => none
  | [], [] => some .nil
  | _, _ => none
/-- x[i], x[j] = v, w -/
def cSb2 (ts vs : List Expr) : Option CS := match ts with
  | [.Subscript (.Name x _) (.Constant (.int i) _ _) _, .Subscript (.Name y _) (.Constant (.int j) _ _) _] =>
    if x = y ∧ vs.length = 2 ∧ (x == ("__debug__" : Str)) = false ∧ (x == ("__classdict__" : Str)) = false ∧ visB sc x = true then (match slotOf N x, cEs R sc none vs with
      | some n, some cs => some (.sb2 n i j cs)
      | _, _ => none)
    else none
  | _ => none
def cAsg (t e : Expr) : Option CS := match t with
  | .Name x px => if stoB sc none x then match slotOf N x, swB sc x px e, R.e sc none (mutB F x e) e with
      | some i, some sw, some c => if !sw || (isLC e && isLoc sc x) then some (.asg (.nm i) c) else none
      | _, _, _ => none
    else none
  | .Tuple ts _ _ => (match e with
    | .Tuple vs _ _ => (match swq sc ts vs, cNms N sc none ts, cPar sc F R ts vs with
      | some none, some is, some cs => if is.length ≤ 16777216 then some (.par is cs) else none
      | some (some nm), some is, some cs => if decide (is.Nodup) && decide (locNm sc ts = some nm) && (decide (ts.length = 2) || decide (ts.length = 3)) && decide (vs.length = ts.length) then some (.par is cs) else none
      | some none, none, _ => cSb2 N sc R ts vs
      | _, _, _ => none)
    | e => if noComp e then (match cNms N sc none ts, R.e sc none false e with
      | some is, some c => some (.asg (.tp is) c)
      | _, _ => none) else none)
  | .Subscript o i _ => if noComp e && okx i then (match R.e sc none false o, R.e sc none false i, R.e sc none false e with
    | some co, some ci, some cv => some (.sub co ci cv)
    | _, _, _ => none) else none
  | .Attribute o x _ => if noComp e then (match fldOf T.cl x, R.e sc none false o, R.e sc none false e with
    | some c, some co, some cv => some (.sfl c x co cv)
    | _, _, _ => none) else none
  | _ => none
end
/-- raise C('text'), C one of the classes that T names -/
def cRaise (T : Gt) (sc : Scope) : Expr → Option Nat
  | .Call f args kws _ => (match f, args, kws with
    | .Name x _, [.Constant (.str _) _ _], [] => if gloB sc x = true ∧ (x == ("__debug__" : Str)) = false then (match exIx x with
      | some c => if T.exs.contains c = true ∧ exNm c = some x then some c else none
      | none => none) else none
    | _, _, _ => none)
  | _ => none
mutual
def cS (T : Gt) (N : List Str) (sc : Scope) (F : Fs) : Nat → Stmt → CS
  | 0, _ => .never
  | n + 1, st => match st with
    | .Expr e _ => if noComp e then (match (recs T N n).e sc none false e with
      | some c => .expr c
      | none => .never) else .never
    | .Assign ts e _ => (match ts with
      | [t] => (match cAsg T N sc F (recs T N n) t e with
        | some c => c
        | none => .never)
      | _ => .never)
    | .Return e _ => (match e with
      | none => .retN
      | some e => (match (recs T N n).e sc none F.retm e with
        | some c => .ret c
        | none => .never))
    | .If c a b _ => (match (recs T N n).t sc none c with
      | some cc => .ife cc (cSs T N sc F n a) (cSs T N sc F n b)
      | none => .never)
    | .For tg it body orelse _ => (match orelse with
      | [] => (match cIter T (recs T N n) sc none tg it, cTg N sc none tg with
        | some ci, some t => .loop t ci (cSs T N sc F n body)
        | _, _ => .never)
      | _ => .never)
    | .While c body orelse _ => (match orelse with
      | [] => (match (recs T N n).t sc none c with
        | some cc => .whl cc (cSs T N sc F n body)
        | none => .never)
      | _ => .never)
    | .Pass _ => .pass
    | .Break _ => .brk
    | .Continue _ => .cont
    | .Raise e k _ => (match e, k with
      | some e, none => (match cRaise T sc e with
        | some c => .rais c
        | none => .never)
      | _, _ => .never)
    | _ => .never
def cSs (T : Gt) (N : List Str) (sc : Scope) (F : Fs) : Nat → List Stmt → CSs
  | 0, _ => .cons .never .nil
  | n + 1, sts => match sts with
    | [] => .nil
    | st :: rest => .cons (cS T N sc F n st) (cSs T N sc F n rest)
end
section
variable {T : Gt} {N : List Str} {ex : Nat → Value} {fn : Fn} {fuel k : Nat} {R : Rec} {sc : Scope} {Wx : WX} {X : Cx} {F : Fs}
theorem noComp_sw {e : Expr} (h : noComp e = true) {t : Option Expr} {l : Nat} {env : PySem.Env} : swapsWith e t l env = pure false := by
  cases e <;> first | rfl | cases h
theorem cPar_ok (O : RecOk T N ex fn k R) (C : Cok T N ex fn k sc none Wx X) : ∀ {ts es : List Expr} {cs : CEs}, cPar sc F R ts es = some cs → PA X es (tEs X.K ex Wx fn cs)
  | [], [], cs, h => by unfold cPar at h; cases h; exact ca_nil
  | [], e :: es, cs, h => by unfold cPar at h; cases h
  | t :: ts, [], cs, h => by cases t <;> (unfold cPar at h; cases h)
  | t :: ts, e :: es, cs, h => by
    cases t <;> try (unfold cPar at h; cases h; done)
    rename_i x p
    unfold cPar at h
    split at h
    · rename_i c cs' h1 h2
      cases h
      obtain ⟨k1, p1, _⟩ := O.e C h1
      exact ca_cons p1 (cPar_ok O C h2) (okx_star k1 _ _)
    · cases h
theorem cAsg_ok (O : RecOk T N ex fn k R) (hR : ∀ sc own mt elt gs scope pos c, R.e sc own mt (.ListComp elt gs scope pos) = some c → ∃ R' tg iter ifs, gs = [⟨tg, iter, ifs, 0⟩] ∧ RecOk T N ex fn k R' ∧ cLC T N R' sc own mt elt tg iter ifs scope = some c) (C : Cok T N ex fn k sc none Wx X) {t e : Expr} {c : CS} {pos : Pos} (h : cAsg T N sc F R t e = some c) :
    PS X (.Assign [t] e pos) (tS X.K ex Wx fn fuel c) := by
  have hN : X.N.Nodup := by rw [C.hN]; exact C.nd
  unfold cAsg at h
  split at h
  · rename_i x px
    split at h
    · rename_i hs
      split at h
      · rename_i i sw c' hi hsw hc
        have hX : X.N[i]? = some x := by rw [C.hN]; exact slotOf_get hi
        obtain ⟨l1, l2⟩ := sto_of C hs
        have sws := swB_ok (l := pos.line) C.hs hsw
        split at h
        · rename_i hlc0
          cases h
          cases sw with
          | false => exact cs_set hN hX l1 (O.e C hc).2.1 sws l2
          | true =>
            simp only [Bool.not_true, Bool.false_or, Bool.and_eq_true] at hlc0
            cases e <;> try (cases hlc0.1; done)
            rename_i elt gs scope p2
            obtain ⟨R', tg, iter, ifs, rfl, O', hlc⟩ := hR _ _ _ _ _ _ _ _ hc
            have hl : X.env.scope.names.lookup x = some .local := by
              rw [C.hs]
              have := hlc0.2
              unfold isLoc at this
              split at this
              · rename_i q; exact q
              · cases this
            exact (cLC_ok O' C hlc).ps hX hl sws
        · cases h
      · cases h
    · cases h
  · rename_i ts kt tp
    split at h
    · rename_i vs k2 vp
      split at h
      · rename_i is cs h1 h2 h3
        split at h
        · rename_i hz
          cases h
          exact cs_parT C.calm (cNms_ok C h2).2 (cPar_ok O C h3) hz (swq_ok C.hs h1)
        · cases h
      · rename_i nm is cs h1 h2 h3
        split at h
        · rename_i hnd
          cases h
          simp only [Bool.and_eq_true, Bool.or_eq_true, decide_eq_true_eq] at hnd
          obtain ⟨⟨⟨hnd, hln⟩, lens⟩, vl⟩ := hnd
          have hw := fun (k k2 : Nat) (tp vp : Pos) => swq_ok (k := k) (k2 := k2) (tp := tp) (vp := vp) C.hs h1
          have ha := cPar_ok O C h3
          have one : ∀ {t : Expr} {r : List Expr} {nm : List Str} {is : List Nat}, locNm sc (t :: r) = some nm → cNms N sc none (t :: r) = some is → ∃ x p nm' i is', t = .Name x p ∧ nm = x :: nm' ∧ is = i :: is' ∧ X.env.scope.names.lookup x = some .local ∧ X.N[i]? = some x ∧ locNm sc r = some nm' ∧ cNms N sc none r = some is' := fun {t r nm is} g1 g2 => by
            cases t <;> try (unfold locNm at g1; cases g1; done)
            rename_i x p
            unfold locNm at g1
            unfold cNms at g2
            split at g1
            · rename_i xs q1 q2
              cases g1
              split at g2
              · split at g2
                · rename_i i is' q3 q4
                  cases g2
                  exact ⟨x, p, _, i, is', rfl, rfl, rfl, by rw [C.hs]; exact q1, by rw [C.hN]; exact slotOf_get q3, q2, q4⟩
                · cases g2
              · cases g2
            · cases g1
          have nil1 : ∀ {nm : List Str}, locNm sc [] = some nm → nm = [] := fun g => by unfold locNm at g; cases g; rfl
          have nil2 : ∀ {is : List Nat}, cNms N sc none [] = some is → is = [] := fun g => by unfold cNms at g; cases g; rfl
          rcases lens with l2 | l3
          · match ts, l2, vs, vl with
            | [t1, t2], _, [v1, v2], _ =>
              obtain ⟨x1, p1, n1, i1, is1, rfl, rfl, rfl, e1, s1, g1, f1⟩ := one hln h2
              obtain ⟨x2, p2, n2, i2, is2, rfl, rfl, rfl, e2, s2, g2, f2⟩ := one g1 f1
              cases nil1 g2
              cases nil2 f2
              have n12 : i1 ≠ i2 := by simp at hnd; exact hnd
              exact cs_par2 C.calm hN s1 s2 n12 e1 e2 ha (hw _ _ _ _)
          · match ts, l3, vs, vl with
            | [t1, t2, t3], _, [v1, v2, v3], _ =>
              obtain ⟨x1, p1, n1, i1, is1, rfl, rfl, rfl, e1, s1, g1, f1⟩ := one hln h2
              obtain ⟨x2, p2, n2, i2, is2, rfl, rfl, rfl, e2, s2, g2, f2⟩ := one g1 f1
              obtain ⟨x3, p3, n3, i3, is3, rfl, rfl, rfl, e3, s3, g3, f3⟩ := one g2 f2
              cases nil1 g3
              cases nil2 f3
              simp at hnd
              exact cs_par3 C.calm hN s1 s2 s3 hnd.1.1 hnd.1.2 hnd.2 e1 e2 e3 ha (hw _ _ _ _)
        · cases h
      · rename_i h1 h2
        unfold cSb2 at h
        split at h
        · rename_i x p1 i k1 p2 p3 y p4 j k2 p5 p6
          split at h
          · rename_i hh
            obtain ⟨rfl, hl, n1, n2, hv⟩ := hh
            split at h
            · rename_i n cs hs hc
              cases h
              exact cs_sb2 (by have := units_of C; omega) C.calm (fun p => pe_var (by rw [C.hN]; exact slotOf_get hs) (vis_of C hv) n1 n2) (cEs_ok O C hc).1 hl (swq_ok C.hs h1)
            · cases h
          · cases h
        · cases h
      · cases h
    · rename_i hnt
      split at h
      · rename_i hnc
        split at h
        · rename_i is c' h1 h2
          cases h
          refine cs_asgT C.calm (cNms_ok C h1).1 (O.e C h2).2.1 (noComp_sw hnc) ?_
          cases e <;> first | rfl | exact absurd rfl (hnt _ _ _)
        · cases h
      · cases h
  · split at h
    · rename_i hh
      simp only [Bool.and_eq_true] at hh
      split at h
      · rename_i co ci cv h1 h2 h3
        cases h
        refine cs_sub (by have := units_of C; omega) (O.e C h3).2.1 (O.e C h1).2.1 (O.e C h2).2.1 (noComp_sw hh.1) ?_
        intro v
        rename_i o i tp _ _ _
        have := hh.2
        cases i <;> first | rfl | cases this
      · cases h
    · cases h
  · split at h
    · rename_i hnc
      split at h
      · rename_i cc co cv h1 h2 h3
        cases h
        obtain ⟨p, hp, rfl, hx⟩ := fldOf_ok h1
        obtain ⟨k1, k2⟩ := C.cl p hp
        exact cs_sfl (O.e C h2).2.1 (O.e C h3).2.1 k1 (k2 _ hx) (noComp_sw hnc)
      · cases h
    · cases h
  · cases h
theorem recs_lc {n : Nat} : ∀ sc own mt elt gs scope pos c, (recs T N n).e sc own mt (.ListComp elt gs scope pos) = some c → ∃ R' tg iter ifs, gs = [⟨tg, iter, ifs, 0⟩] ∧ RecOk T N ex fn k R' ∧ cLC T N R' sc own mt elt tg iter ifs scope = some c := by
  intro sc own mt elt gs scope pos c h
  cases n with
  | zero => cases h
  | succ n =>
    have h : stepE T N (recs T N n) sc own mt (.ListComp elt gs scope pos) = some c := h
    simp only [stepE] at h
    split at h
    · exact ⟨_, _, _, _, rfl, recs_ok n, h⟩
    · cases h
theorem cRaise_ok (C : Cok T N ex fn k sc none Wx X) {e : Expr} {c : Nat} {pos : Pos} (h : cRaise T sc e = some c) : PS X (.Raise (some e) none pos) (tS X.K ex Wx fn fuel (.rais c)) := by
  unfold cRaise at h
  split at h
  · split at h
    · rename_i x p1 y j p2
      split at h
      · rename_i h1
        split at h
        · split at h
          · rename_i h2
            cases h
            obtain ⟨x', D, n1, m1, k1, k2, k3, k4⟩ := (C.xg c (by simpa using h2.1)).ok
            rw [h2.2] at n1
            cases n1
            refine cs_rais C.calm C.tk (pmk_own PySem.F.excBase_ValueError k1 m1 k2 (raises_own k3 k4) (glo_of C h1.1) h1.2) ?_
            rw [C.xe c]
            unfold exOf
            rw [h2.2]
            show (X.mg x).getD .none = _
            rw [m1]
            rfl
          · cases h
        · cases h
      · cases h
    · cases h
  · cases h
theorem cS_ok (C : Cok T N ex fn k sc none Wx X) : ∀ n, (∀ st, PS X st (tS X.K ex Wx fn fuel (cS T N sc F n st))) ∧ ∀ sts, PSs X sts (tSs X.K ex Wx fn fuel (cSs T N sc F n sts)) := by
  intro n
  induction n with
  | zero =>
    refine ⟨fun st => cs_never, fun sts => ?_⟩
    refine ⟨fun pins s σ H D I h => ?_⟩
    obtain ⟨S, M, ρ, w, sl, aw⟩ := h
    simp only [cSs, evSs, evS] at aw
    exact aw.elim
  | succ n ih =>
    obtain ⟨ih1, ih2⟩ := ih
    have O := recs_ok (T := T) (N := N) (ex := ex) (fn := fn) (k := k) n
    refine ⟨fun st => ?_, fun sts => ?_⟩
    · cases st <;> try exact cs_never
      case Raise e k pos =>
        simp only [cS]
        split
        · split
          · rename_i c hc
            exact cRaise_ok C hc
          · exact cs_never
        · exact cs_never
      case Return e pos =>
        cases e with
        | none => exact cs_retN
        | some e =>
          simp only [cS]
          split
          · rename_i c hc
            exact cs_ret (O.e C hc).2.1
          · exact cs_never
      case Assign ts e pos =>
        simp only [cS]
        split
        · split
          · rename_i c hc
            exact cAsg_ok O recs_lc C hc
          · exact cs_never
        · exact cs_never
      case For tg it body orelse pos =>
        simp only [cS]
        split
        · split
          · rename_i ci t h1 h2
            obtain ⟨i1, i2⟩ := cIter_ok O C h1
            exact cs_for C.po C.calm i1 (cTg_ok C h2) (ih2 body) i2
          · exact cs_never
        · exact cs_never
      case While c body orelse pos =>
        simp only [cS]
        split
        · split
          · rename_i cc hc
            exact cs_while C.po (O.t C hc) (ih2 body)
          · exact cs_never
        · exact cs_never
      case If c a b pos =>
        simp only [cS]
        split
        · rename_i cc hc
          exact cs_if (O.t C hc) (ih2 a) (ih2 b)
        · exact cs_never
      case Expr e pos =>
        simp only [cS]
        split
        · rename_i hnc
          split
          · rename_i c hc
            exact cs_expr (O.e C hc).2.1 (noComp_sw hnc)
          · exact cs_never
        · exact cs_never
      case Pass pos => exact cs_pass
      case Break pos => exact cs_brk
      case Continue pos => exact cs_cont
    · cases sts with
      | nil => exact css_nil
      | cons st rest => exact css_cons (ih1 st) (ih2 rest)
end
/-! ### defs and laws -/
structure DefI where
  name : Str
  st : Stmt
  N : List Str
  ps : List Str
  id : Nat
  F : Fs
  frz : Bool
  body : CSs
  own : Option Nat := none
  q : Str := name
def DefI.fd (d : DefI) : FD := ⟨d.ps.length, d.N.length, d.frz, d.body⟩
/-- a method stands in its class -/
def MsOk (T : Gt) (defs : List DefI) : Prop := ∀ p ∈ T.cl, ∀ m f n, p.ms.lookup m = some (f, n) → ∃ d ∈ defs, d.name = m ∧ d.own = some p.c ∧ d.id = f ∧ d.ps.length = n
structure LawI (T : Gt) (Tb : Nat → Option FD) (defs : List DefI) : Prop where
  ids : ∀ x f n, T.ids.lookup x = some (f, n) → ∃ d ∈ defs, d.name = x ∧ d.own = none ∧ d.id = f ∧ d.ps.length = n
  tb : ∀ d ∈ defs, Tb d.id = some d.fd
  sc : ∀ d ∈ defs, FnScope d.N d.ps (defScope d.st)
  cp : ∀ d ∈ defs, cSs T d.N (defScope d.st) d.F 60 (defBody d.st) = d.body
  ms : MsOk T defs
/-- a def whose end is shown by itself -/
def Cust (T : Gt) (d : DefI) : Prop := ∀ {P : Program} {w : World} {K : Kf} {mg : Str → Option Value} {base : Heap} {ex : Nat → Value} {fn : Fn} {fuel k : Nat} {f : Addr} {cdv : Value} {A : Around} {outer : List PySem.Env} {s : Shared} {H : Hp} {E : XK} {vs : List V} {Q : VK},
  Cok T d.N ex fn k (defScope d.st) none (fun cls dd _ H => E cls dd H) (cxOf (CXm P w) P w K mg base d.N d.q (defScope d.st) f cdv A outer s H E) →
  ∀ {S : Sk} {M : Mem} {ds : List D}, W K S M H → RDs K S H ds vs → ds.length = d.ps.length → ∀ {r : D} {M' : Mem}, callF fn fuel d.fd ds M = .ok r M' → Aft K S H r M' Q →
  ∃ t, PSs (cxOf (CXm P w) P w K mg base d.N d.q (defScope d.st) f cdv A outer s H E) (defBody d.st) t ∧ t { nx := fun _ H' => Q .non H', rt := Q } (L2.start d.N vs) H
/-- the same, whatever the end -/
def CustF (T : Gt) (d : DefI) : Prop := ∀ {P : Program} {w : World} {K : Kf} {mg : Str → Option Value} {base : Heap} {ex : Nat → Value} {fn : Fn} {fuel k : Nat} {f : Addr} {cdv : Value} {A : Around} {outer : List PySem.Env} {s : Shared} {H : Hp} {E : XK} {vs : List V} {Q : VK},
  Cok T d.N ex fn k (defScope d.st) none (fun cls dd _ H => E cls dd H) (cxOf (CXm P w) P w K mg base d.N d.q (defScope d.st) f cdv A outer s H E) →
  ∀ {S : Sk} {M : Mem} {ds : List D}, W K S M H → RDs K S H ds vs → ds.length = d.ps.length → AwF K ex (fun cls dd _ H => E cls dd H) S H (evSs fn fuel d.body (enter d.fd ds) M) { nx := fun _ H' => Q .non H', rt := Q } →
  ∃ t, PSs (cxOf (CXm P w) P w K mg base d.N d.q (defScope d.st) f cdv A outer s H E) (defBody d.st) t ∧ t { nx := fun _ H' => Q .non H', rt := Q } (L2.start d.N vs) H
def NoExc (d : DefI) : Prop := ∀ (fn : Fn) (fuel : Nat) (ds : List D) (M : Mem) (c : Nat) (M' : Mem), callF fn fuel d.fd ds M ≠ .exc c M'
structure LawJ (T : Gt) (Tb : Nat → Option FD) (defs : List DefI) : Prop where
  ids : ∀ x f n, T.ids.lookup x = some (f, n) → ∃ d ∈ defs, d.name = x ∧ d.own = none ∧ d.id = f ∧ d.ps.length = n
  tb : ∀ d ∈ defs, Tb d.id = some d.fd
  sc : ∀ d ∈ defs, FnScope d.N d.ps (defScope d.st)
  cp : ∀ d ∈ defs, cSs T d.N (defScope d.st) d.F 60 (defBody d.st) = d.body ∨ (Cust T d ∧ NoExc d) ∨ CustF T d
  ms : MsOk T defs
theorem LawI.j {T : Gt} {Tb : Nat → Option FD} {defs : List DefI} (L : LawI T Tb defs) : LawJ T Tb defs := ⟨L.ids, L.tb, L.sc, fun d hd => .inl (L.cp d hd), L.ms⟩
/-- where a def is found -/
def LocD (K : Kf) (mg : Str → Option Value) (d : DefI) (f : Addr) : Prop := match d.own with
  | none => mg d.name = some (.ref f)
  | some c => Meth K (Adr K c) d.name f
structure GlobI (K : Kf) (mg : Str → Option Value) (T : Gt) (defs : List DefI) : Prop where
  fn : ∀ d ∈ defs, ∃ f fd, LocD K mg d f ∧ Fun K d.name d.q d.st f fd ∧ Binds K fd d.ps []
  cs : ∀ x d, T.cs.lookup x = some d → ∃ v u, mg x = some u ∧ RelV v u ∧ CsR K d v
  fr : ∀ x, x ∈ T.fr → mg x = none
  lm : ∀ d ∈ defs, T.lam.contains d.N = true → SaidG K mg ∧ ∀ f fd, LocD K mg d f → Fun K d.name d.q d.st f fd → ∃ c P, fd.code = .ref c ∧ (c, P, d.q) ∈ tabP K
  un : ∀ p ∈ tabP K, ∀ q ∈ tabP K, p.2.1 = q.2.1 → p.2.2 = q.2.2
  xg : ∀ c, c ∈ T.exs → ExG K mg c
  cl : ∀ p ∈ T.cl, Cls K (Adr K p.c) ∧ ∀ x ∈ p.fl, NoAttr K (Adr K p.c) x
  mks : ∀ p ∈ T.cl, ∀ n a, p.mko = some (n, a) → mg (clsNm p.c) = some (.ref (Adr K p.c)) ∧ ∃ f fd ps, Mk K (Adr K p.c) f ∧ Binds K fd ps [] ∧ ∀ P w base, FnG P w K mg base 1 f fd ps (spM K n p.c)
theorem sl_enter {K : Kf} {S : Sk} {H : Hp} {ds : List D} {vs : List V} {fd : FD} {N : List Str} (r : RDs K S H ds vs) (hs : fd.slots = N.length) (hn : ds.length = fd.n) : Sl K S H (enter fd ds) (L2.start N vs) := by
  have hl := rds_len r
  refine ⟨by unfold enter L2.start; simp [hs, hl, ← hn], fun i d h => ?_⟩
  unfold enter at h
  unfold L2.start
  by_cases hi : i < ds.length
  · rw [List.getElem?_append_left (by simpa using hi), List.getElem?_map] at h
    have : ∀ {ds : List D} {vs : List V} {i : Nat} {d : D}, RDs K S H ds vs → ds[i]? = some d → ∃ v, vs[i]? = some v ∧ RD K S H d v := by
      intro ds vs i d r
      induction r generalizing i with
      | nil => intro h; simp at h
      | cons a b ih =>
        intro h
        cases i with
        | zero => simp at h; subst h; exact ⟨_, rfl, a⟩
        | succ i =>
          obtain ⟨v, h1, h2⟩ := ih (by simpa using h)
          exact ⟨v, by simpa using h1, h2⟩
    cases e : ds[i]? with
    | none => rw [e] at h; cases h
    | some d' =>
      rw [e] at h
      cases h
      obtain ⟨v, h1, h2⟩ := this r e
      exact ⟨v, by rw [List.getElem?_append_left (by simp; omega), List.getElem?_map, h1]; rfl, h2⟩
  · rw [List.getElem?_append_right (by simpa using hi), List.getElem?_replicate] at h
    split at h <;> cases h
theorem levels {P : Program} {w : World} {K : Kf} {mg : Str → Option Value} {base : Heap} {T : Gt} {Tb : Nat → Option FD} {defs : List DefI} {fuel : Nat} (L : LawJ T Tb defs) (G : GlobI K mg T defs) (TB : ∀ p ∈ tabP K, LamX.TabB base mg p.1 p.2.1) :
    ∀ k, ∀ d ∈ defs, ∀ f fd, LocD K mg d f → Fun K d.name d.q d.st f fd → FnG P w K mg base (3 * k) f fd d.ps (spF K (exOf mg) (run Tb fuel k) d.id d.ps.length) := by
  intro k
  induction k with
  | zero =>
    intro d hd f fd hm F
    have no : ∀ vs H Q E, ¬ spF K (exOf mg) (run Tb fuel 0) d.id d.ps.length vs H Q E := fun vs H Q E h => by
      obtain ⟨S, M, ds, _, _, _, aw⟩ := h
      exact aw
    exact ⟨fun vs H Q E h => (no vs H Q E h).elim, fun A outer s H args us vs Q E _ _ _ _ _ h => (no vs H Q E h).elim⟩
  | succ k ih =>
    intro d hd f fd hm F
    refine fnG_of (k := 3 * k + 2) F (L.sc d hd) (fun vs H Q E h => ?_) (fun cdv hcdv A outer s H vs Q E hg hr h => ?_)
    · obtain ⟨S, M, ds, _, r, hl, _⟩ := h
      rw [← rds_len r, hl]
    · obtain ⟨S, M, ds, wS, r, hl, aw⟩ := h
      have C : Cok T d.N (exOf mg) (run Tb fuel k) k (defScope d.st) none (fun cls dd _ H => E cls dd H) (cxOf (CXm P w) P w K mg base d.N d.q (defScope d.st) f cdv A outer s H E) := by
        refine ⟨rfl, rfl, (L.sc d hd).nd, rfl, takes_of rfl rfl rfl rfl, passes_of rfl, hr.mono (by omega), hg, fun x _ => rfl, (L.sc d hd).kind, fun x i n hx => ?_, G.cs, G.fr, fun _ hlm => ?_, fun _ => rfl, G.xg, G.cl, fun p hp m i n hx => ?_, fun p hp n a hx => ?_, fun _ _ => hr⟩
        · obtain ⟨d', hd', e1, e0, e2, e3⟩ := L.ids x i n hx
          obtain ⟨f', fd', m1, F', B'⟩ := G.fn d' hd'
          subst e1 e2 e3
          have m2 := m1
          unfold LocD at m2
          rw [e0] at m2
          exact ⟨f', fd', d'.ps, m2, F'.kp, B', ih d' hd' f' fd' m1 F'⟩
        · obtain ⟨sd, hc⟩ := G.lm d hd hlm
          obtain ⟨c, P, e1, e2⟩ := hc f fd hm F
          refine ⟨sd, ⟨c, P, hcdv.symm.trans e1, TB _ e2, List.mem_map.2 ⟨_, e2, rfl⟩, fun p hp e => ?_⟩, hr⟩
          obtain ⟨q, hq, rfl⟩ := List.mem_map.1 hp
          show q.2.2 ++ ".<locals>." ++ "<lambda>" = _
          rw [G.un q hq _ e2 e]
          rfl
        · obtain ⟨d', hd', e1, e0, e2, e3⟩ := L.ms p hp m i n hx
          obtain ⟨f', fd', m1, F', B'⟩ := G.fn d' hd'
          subst e1 e2 e3
          have m2 := m1
          unfold LocD at m2
          rw [e0] at m2
          exact ⟨f', fd', d'.ps, m2, B', ih d' hd' f' fd' m1 F'⟩
        · obtain ⟨h1, f', fd', ps', h2, h3, h4⟩ := G.mks p hp n a hx
          exact ⟨h1, f', fd', ps', h2, h3, h4 P w base⟩
      have awf : AwF K (exOf mg) (fun cls dd _ H => E cls dd H) S H (evSs (run Tb fuel k) fuel d.body (enter d.fd ds) M) { nx := fun _ H' => Q .non H', rt := Q } := by
        have hrun : run Tb fuel (k + 1) d.id ds M = callF (run Tb fuel k) fuel d.fd ds M := by
          show (match Tb d.id with | some fd => callF (run Tb fuel k) fuel fd ds M | none => .bad) = _
          rw [L.tb d hd]
        rw [hrun] at aw
        unfold callF at aw
        rw [if_pos (show ds.length = d.fd.n from hl)] at aw
        have eb : d.fd.body = d.body := rfl
        rw [eb] at aw
        cases e : evSs (run Tb fuel k) fuel d.body (enter d.fd ds) M with
        | bad => rw [e] at aw; exact aw
        | exc c M1 => rw [e] at aw; exact aw
        | ok fl M1 =>
          rw [e] at aw
          intro S1 H1 t1 w1
          have hn : M.length = S.L.length := wS.len.symm
          cases fl with
          | nx ρ =>
            intro σ1 sl1
            try dsimp only at aw
            cases ef : fin d.fd.frz M.length (.p .none) M1 with
            | bad => rw [ef] at aw; exact aw.elim
            | exc c M2 => unfold fin at ef; split at ef <;> cases ef
            | ok d2 M2 =>
              rw [ef] at aw
              obtain ⟨S2, t2, w2, r2⟩ := fin_ok (d := .p .none) (v := .non) w1 t1 hn RP.non ef
              exact aw S2 H1 t2 w2 _ r2
          | rt dv =>
            intro v rv
            try dsimp only at aw
            cases ef : fin d.fd.frz M.length dv M1 with
            | bad => rw [ef] at aw; exact aw.elim
            | exc c M2 => unfold fin at ef; split at ef <;> (try split at ef) <;> (try split at ef) <;> (try split at ef) <;> cases ef
            | ok d2 M2 =>
              rw [ef] at aw
              obtain ⟨S2, t2, w2, r2⟩ := fin_ok w1 t1 hn rv ef
              exact aw S2 H1 t2 w2 _ r2
          | bk ρ => exact aw.elim
          | ct ρ => exact aw.elim
          | ex c ρ =>
            intro σ1 sl1
            try dsimp only at aw
            cases hz : d.fd.frz with
            | false => rw [hz] at aw; exact aw S1 H1 t1 w1
            | true =>
              rw [hz] at aw
              have := t1.len
              exact aw _ H1 t1.cutBack (by rw [hn]; exact w1.cutBack this)
      rcases L.cp d hd with hcp | ⟨cu, nx⟩ | cf
      · refine ⟨_, (cS_ok (fuel := fuel) (F := d.F) C 60).2 (defBody d.st), S, M, enter d.fd ds, wS, sl_enter r rfl hl, ?_⟩
        rw [hcp]
        exact awf
      · have hrun : run Tb fuel (k + 1) d.id ds M = callF (run Tb fuel k) fuel d.fd ds M := by
          show (match Tb d.id with | some fd => callF (run Tb fuel k) fuel fd ds M | none => .bad) = _
          rw [L.tb d hd]
        rw [hrun] at aw
        cases e : callF (run Tb fuel k) fuel d.fd ds M with
        | bad => rw [e] at aw; exact aw.elim
        | exc c M1 => exact absurd e (nx _ _ _ _ _ _)
        | ok r1 M1 =>
          rw [e] at aw
          exact cu C wS r hl e (fun S' H' v t w rv => aw S' H' t w v rv)
      · exact cf C wS r hl awf
end Mi

set_option Elab.async false
set_option linter.all false
set_option maxRecDepth 100000
set_option maxHeartbeats 2000000
/-! Mi: the law's own call, where tables of code objects are known. -/
namespace Mi
open PySem PySem.Spec PyProof.Rows L2
abbrev tab0 : Obj := { cls := .none, data := .fields #[] }
theorem law_callT {P : Program} {w : World} {K : Kf} {mg mb : Str → Option Value} {k : Nat} {fa a : Addr} {fd : FuncData} {x : Str} {sp : Sp} {s₁ : Shared} {vs : List Value} {ns : List Int} {cs : List (Addr × Addr)}
    (KX : K.In s₁.heap) (hns : s₁.heap.Ns mainGlobals mg) (hb : s₁.heap.Ns builtinsNs mb) (hbb : ∀ x : Str, x ≠ "__name__" → mb x = bootBuiltins x) (hlim : s₁.heap.NoLimit) (hg : s₁.gens = #[])
    (tabs : ∀ p ∈ cs, s₁.heap.get? p.2 = some tab0 ∧ K.lookup p.2 = none ∧ PySem.W.CodeHd s₁.heap p.1 p.2)
    (bmod : ∃ (bm : Addr) (ob : Obj), mg "__builtins__" = some (.ref bm) ∧ bm ≠ builtinsNs ∧ s₁.heap.get? bm = some ob ∧ ob.cls = .type "module" ∧ ob.dict = some builtinsNs ∧ ob.data = .plain)
    (ha : s₁.heap.get? a = some { cls := .type "list", data := .seq vs.toArray }) (hi : IntsAre vs ns) (hl : ns.length ≤ sizeLine) (hr : Room k callerA)
    (F : ∀ base : Heap, K.In base → base.Ns mainGlobals mg → (∀ p ∈ cs, LamX.TabB base mg p.1 p.2) → FnG P w K mg base k fa fd [x] sp) (hbind : ∀ (s : Shared) (u : Value), BindsTo s fd ⟨[u], []⟩ [(x, u)])
    (hsp : ∀ H : Hp, (∀ p ∈ cs, H p.2 = some (.tbl #[])) → SqL K H a (ns.map V.int) → sp [.ref a] H (fun v _ => v = .bl true) fun _ _ _ => False) :
    codeAny (model P w) callerA (.call (.ref fa) ⟨[.ref a], []⟩) (fun r s' => r = .ok (.ret (.bool true)) ∧ OldK s₁.heap s'.heap ∧ s'.os = s₁.os ∧ AllBare s'.gens) s₁ := by
  have lenV := hi.length
  let isT : Addr → Prop := fun b => ∃ p ∈ cs, p.2 = b
  have tget : ∀ b, isT b → s₁.heap.get? b = some tab0 := fun b ⟨p, hp, e⟩ => by rw [← e]; exact (tabs p hp).1
  have core : ∀ H : Hp, (∀ p ∈ cs, H p.2 = some (.tbl #[])) → (∀ b, H b = none ∨ isT b ∨ ∃ o xs, H b = some (.frz o (.lst xs))) → SqL K H a (ns.map V.int) → HOk P w H s₁.heap → (∀ b, H b ≠ none → b = a ∨ isT b) → (H a ≠ none → K.lookup a = none) →
      codeAny (model P w) callerA (.call (.ref fa) ⟨[.ref a], []⟩) (fun r s' => r = .ok (.ret (.bool true)) ∧ OldK s₁.heap s'.heap ∧ s'.os = s₁.os ∧ AllBare s'.gens) s₁ := by
    intro H atT only seq hok onlyA notK
    -- what is neither a row of things nor an empty record is not tracked
    have free : ∀ {b : Addr} {o : Obj}, s₁.heap.get? b = some o → (∀ us n, o.data ≠ .seq us n) → o.data ≠ .fields #[] → H b = none := by
      intro b o e d1 d2
      cases q : H b with
      | none => rfl
      | some u =>
        exfalso
        rcases onlyA b (by rw [q]; simp) with rfl | t
        · rw [ha] at e
          cases e
          exact d1 _ _ rfl
        · rw [tget b t] at e
          cases e
          exact d2 rfl
    have freeD : ∀ {b : Addr} {o : Obj} {es : Array DictEntry} {ep : Nat}, s₁.heap.get? b = some o → o.data = .dict es ep → H b = none := fun e d => free e (fun us n z => by rw [d] at z; cases z) (fun z => by rw [d] at z; cases z)
    have keepNs : ∀ {b : Addr} {m : Str → Option Value}, s₁.heap.Ns b m → (hidT s₁.heap H).Ns b m := fun ⟨o, es, ep, e, d, r⟩ => ⟨o, es, ep, hidT_get e (freeD e d), d, r⟩
    have kb : K.In (hidT s₁.heap H) := by
      intro b o e
      refine hidT_get (KX b o e) ?_
      cases q : H b with
      | none => rfl
      | some u =>
        exfalso
        rcases onlyA b (by rw [q]; simp) with rfl | ⟨p, hp, rfl⟩
        · rw [notK (by rw [q]; simp)] at e
          cases e
        · rw [(tabs p hp).2.1] at e
          cases e
    have tb : ∀ p ∈ cs, LamX.TabB (hidT s₁.heap H) mg p.1 p.2 := by
      intro p hp
      have ⟨g1, _, o, us, file, tf, flags, tg, inF, text, tt, e1, r1, r2, r3, r⟩ := tabs p hp
      constructor
      · exact ⟨o, us, file, tf, flags, tg, inF, text, tt, hidT_get e1 (free e1 (fun _ _ z => by rw [r2] at z; cases z) fun z => by rw [r2] at z; cases z; simp at r3), r1, r2, r3, r⟩
      · have ⟨bm, ob, b1, b2, b3, b4, b5, b6⟩ := bmod
        refine ⟨bm, ob, b1, b2, fun q => ?_, fun q => ?_, hidT_get b3 (free b3 (fun _ _ z => by rw [b6] at z; cases z) fun z => by rw [b6] at z; cases z), b4, b5, b6⟩
        · have ⟨o, es, ep, e, d, _⟩ := hns
          rw [q, e] at b3
          cases b3
          rw [d] at b6
          cases b6
        · rw [q, g1] at b3
          cases b3
          cases b6
      · intro z
        have ⟨o, es, ep, e, d, _⟩ := hns
        rw [z, g1] at e
        cases e
        cases d
    have md : Mod K mg (hidT s₁.heap H) := ⟨kb, keepNs hns, ⟨mb, keepNs hb, hbb⟩, let ⟨mc, h1, h2⟩ := hlim; ⟨mc, keepNs h1, h2⟩⟩
    have e0 : Env0 P w K mg (hidT s₁.heap H) callerA [] s₁ H :=
      ⟨rfl, md, fun b o e => of_hidT e, Nat.le_of_eq (hidT_size _ _), trivial, fun b hb => absurd (show b ∈ ([] : List Addr) from hb) List.not_mem_nil, hok, .of_eq hg⟩
    refine codeAny_mono ((F _ kb (keepNs hns) tb).run callerA [] s₁ H ⟨[.ref a], []⟩ [.ref a] [.ref a] _ _ rfl hr e0 (hbind s₁ (.ref a)) (.cons rfl .nil) (hsp H atT seq)) fun r s' h => ?_
    cases r with
    | error e =>
      obtain ⟨_, _, _, _, _, _, _, _, _, _, _, _, z⟩ := h
      exact z.elim
    | ok fl =>
      cases fl with
      | next => exact False.elim h
      | brk => exact False.elim h
      | cont => exact False.elim h
      | ret u =>
        obtain ⟨v, H', os, bare, un, hok', r', q⟩ := h
        obtain rfl : v = .bl true := q
        obtain rfl : u = Value.bool true := r'
        have more : ∀ p ∈ cs, ∃ us : Array Value, s'.heap.get? p.2 = some { cls := .none, data := .fields us } := by
          intro p hp
          have ⟨us, z⟩ := un.tbls p.2 #[] (atT p hp)
          exact ⟨_, hok' p.2 _ z⟩
        have same : ∀ b o, ¬ isT b → s₁.heap.get? b = some o → s'.heap.get? b = some o := by
          intro b o nt e
          rcases only b with q | t | ⟨ob, xs, q⟩
          · exact un.keep b o e q (fun z => absurd (show b ∈ ([] : List Addr) from z) List.not_mem_nil) (by simp)
          · exact absurd t nt
          · obtain ⟨e1, _⟩ := hok b _ q
            obtain ⟨e2, _⟩ := hok' b _ (un.frzs b ob _ q)
            rw [e] at e1
            cases e1
            exact e2
        refine ⟨rfl, ⟨fun b o e => ?_, fun b o e => ?_⟩, os, bare⟩
        · by_cases t : isT b
          · obtain ⟨p, hp, rfl⟩ := t
            have ⟨us, hm⟩ := more p hp
            have ⟨g1, _, g3⟩ := tabs p hp
            rw [g1] at e
            cases e
            refine .inr (.inl ⟨(g3.tab g1).isCodeTable, rfl, #[], us, rfl, ?_⟩)
            rw [Array.empty_append]
            exact hm
          · exact .inl (same b o t e)
        · by_cases t : isT b
          · obtain ⟨p, hp, rfl⟩ := t
            have ⟨us, hm⟩ := more p hp
            exact ⟨_, hm⟩
          · exact ⟨o, same b o t e⟩
  have aT : ¬ isT a := fun t => by
    have q := tget a t
    rw [ha] at q
    have z : Data.seq vs.toArray _ = Data.fields #[] := congrArg Obj.data (Option.some.inj q)
    cases z
  have dT : ∀ b, Decidable (isT b) := fun b => Classical.propDecidable _
  cases hk : K.lookup a with
  | some o =>
    have e := KX a o hk
    rw [ha] at e
    cases e
    refine core (fun b => if isT b then some (.tbl #[]) else none) (fun p hp => if_pos ⟨p, hp, rfl⟩) (fun b => ?_) (.inr ⟨_, vs.toArray, _, hk, rfl, rfl, rfl, by rw [List.size_toArray, lenV]; exact hl, by simpa using vals_ints hi⟩) (fun b u z => ?_) (fun b z => ?_) fun z => absurd (if_neg aT) z
    · by_cases t : isT b
      · exact .inr (.inl t)
      · exact .inl (if_neg t)
    · by_cases t : isT b
      · have z' := (if_pos t).symm.trans z
        cases z'
        exact tget b t
      · have z' := (if_neg t).symm.trans z
        cases z'
    · by_cases t : isT b
      · exact .inr t
      · exact absurd (if_neg t) z
  | none =>
    refine core (fun b => if b = a then some (.frz { cls := .type "list", data := .seq vs.toArray } (.lst (ns.map V.int))) else if isT b then some (.tbl #[]) else none) (fun p hp => ?_) (fun b => ?_) (.inl (.inr ⟨{ cls := .type "list", data := .seq vs.toArray }, if_pos rfl⟩)) (fun b u z => ?_) (fun b z => ?_) fun _ => hk
    · show (if p.2 = a then _ else if isT p.2 then _ else none) = _
      rw [if_neg (fun z => aT ⟨p, hp, z⟩), if_pos ⟨p, hp, rfl⟩]
    · by_cases h : b = a
      · exact .inr (.inr ⟨_, _, if_pos h⟩)
      · by_cases t : isT b
        · exact .inr (.inl t)
        · exact .inl ((if_neg h).trans (if_neg t))
    · by_cases h : b = a
      · have z' := (if_pos h).symm.trans z
        cases z'
        subst h
        exact ⟨ha, by rw [List.length_map]; exact hl, vs, _, vals_ints hi, ha⟩
      · have z1 := (if_neg h).symm.trans z
        by_cases t : isT b
        · have z' := (if_pos t).symm.trans z1
          cases z'
          exact tget b t
        · have z' := (if_neg t).symm.trans z1
          cases z'
    · by_cases h : b = a
      · exact .inl h
      · by_cases t : isT b
        · exact .inr t
        · exact absurd ((if_neg h).trans (if_neg t)) z
/-! ### the defs that make lambdas, put ahead -/
def fnCode (K : Kf) (x : Str) : Option Addr := match K.lookup mainGlobals with
  | some ⟨_, _, .dict es _, _⟩ => (match es.toList.find? (fun e => match e.key with
      | .str y _ => y == x
      | _ => false) with
    | some ⟨_, _, .ref f⟩ => (match K.lookup f with
      | some ⟨_, _, .func fd, _⟩ => (match fd.code with
        | .ref c => some c
        | _ => none)
      | _ => none)
    | _ => none)
  | _ => none
def preD (xs : List Str) (K : Kf) : Kf := xs.filterMap fun x => (fnCode K x).bind fun c => (K.lookup c).map fun o => (c, o)
def pre (xs : List Str) (K : Kf) : Kf := preD xs K ++ K
theorem lookup_app {D K : Kf} (h : ∀ p ∈ D, K.lookup p.1 = some p.2) : ∀ a, (D ++ K).lookup a = K.lookup a := by
  induction D with
  | nil => intro a; rfl
  | cons p D ih =>
    intro a
    obtain ⟨b, o⟩ := p
    rw [List.cons_append, List.lookup_cons]
    split
    · rename_i e
      have e := beq_iff_eq.mp e
      rw [e]
      exact (h (b, o) List.mem_cons_self).symm
    · exact ih (fun p hp => h p (List.mem_cons_of_mem _ hp)) a
theorem lookup_pre (xs : List Str) (K : Kf) (a : Addr) : (pre xs K).lookup a = K.lookup a := by
  refine lookup_app (fun p hp => ?_) a
  obtain ⟨x, _, hx⟩ := List.mem_filterMap.1 hp
  cases hc : fnCode K x with
  | none => rw [hc] at hx; cases hx
  | some c =>
    rw [hc] at hx
    cases ho : K.lookup c with
    | none => simp [ho] at hx
    | some o =>
      simp [ho] at hx
      rw [← hx]; exact ho
theorem pre_in {xs : List Str} {K : Kf} {h : Heap} (X : K.In h) : (pre xs K).In h := fun a o e => X a o (by rw [lookup_pre] at e; exact e)
/-- one of them is as it should be -/
def chk1 (ts : List Addr) (K : Kf) (x : Str) : Bool := match fnCode K x with
  | some c => (match K.lookup c with
    | some o => (match codeTab o with
      | some (P, n) => (n == x) && ts.contains P && PySem.W.codeHdIn K c P && (K.lookup P).isNone
      | none => false)
    | none => false)
  | none => false
def tabOf1 (K : Kf) (x : Str) : Addr := match fnCode K x with
  | some c => (match K.lookup c with
    | some o => (match codeTab o with
      | some (P, _) => P
      | none => 0)
    | none => 0)
  | none => 0
def chkB (xs : List Str) (ts : List Addr) (K : Kf) : Bool := (match K with
    | (_, o) :: _ => (codeTab o).isNone
    | [] => true) && xs.all (chk1 ts K) && decide ((xs.map (tabOf1 K)).Nodup)
theorem chk1_is {ts : List Addr} {K : Kf} {x : Str} (h : chk1 ts K x = true) : ∃ c o, fnCode K x = some c ∧ K.lookup c = some o ∧ codeTab o = some (tabOf1 K x, x) ∧ tabOf1 K x ∈ ts ∧ PySem.W.codeHdIn K c (tabOf1 K x) = true ∧ K.lookup (tabOf1 K x) = none := by
  unfold chk1 at h
  unfold tabOf1
  split at h
  · rename_i c hc
    split at h
    · rename_i o ho
      split at h
      · rename_i P n hP
        simp only [Bool.and_eq_true, Option.isNone_iff_eq_none] at h
        obtain ⟨⟨⟨h1, h2⟩, h3⟩, h4⟩ := h
        have h1 := beq_iff_eq.mp h1
        subst h1
        refine ⟨c, o, hc, ho, ?_⟩
        exact ⟨hP, List.contains_iff_mem.mp h2, h3, h4⟩
      · cases h
    · cases h
  · cases h
theorem takeW_app {α : Type} {p : α → Bool} : ∀ {xs ys : List α}, (∀ x ∈ xs, p x = true) → (∀ y ys', ys = y :: ys' → p y = false) → (xs ++ ys).takeWhile p = xs
  | [], [], _, _ => rfl
  | [], y :: ys, _, h => by rw [List.nil_append, List.takeWhile_cons, if_neg (by rw [h y ys rfl]; decide)]
  | x :: xs, ys, h1, h2 => by rw [List.cons_append, List.takeWhile_cons, if_pos (h1 x List.mem_cons_self), takeW_app (fun z hz => h1 z (List.mem_cons_of_mem _ hz)) h2]
theorem tabP_pre {xs : List Str} {ts : List Addr} {K : Kf} (h : chkB xs ts K = true) : (∀ p ∈ tabP (pre xs K), ∃ x ∈ xs, fnCode K x = some p.1 ∧ p.2.1 = tabOf1 K x ∧ p.2.2 = x) ∧ ∀ x ∈ xs, ∃ c, fnCode K x = some c ∧ (c, tabOf1 K x, x) ∈ tabP (pre xs K) := by
  unfold chkB at h
  simp only [Bool.and_eq_true, List.all_eq_true] at h
  obtain ⟨⟨h0, h1⟩, h2⟩ := h
  have hD : ∀ q ∈ preD xs K, ∃ x ∈ xs, fnCode K x = some q.1 ∧ codeTab q.2 = some (tabOf1 K x, x) := fun q hq => by
    obtain ⟨x, hx, e⟩ := List.mem_filterMap.1 hq
    obtain ⟨c, o, e1, e2, e3, _⟩ := chk1_is (h1 x hx)
    rw [e1] at e
    simp [e2] at e
    rw [← e]
    exact ⟨x, hx, e1, e3⟩
  have tw : (pre xs K).takeWhile (fun q => (codeTab q.2).isSome) = preD xs K := by
    refine takeW_app (fun q hq => ?_) (fun y ys' e => ?_)
    · obtain ⟨x, _, _, e⟩ := hD q hq
      rw [e]; rfl
    · subst e
      try dsimp only at h0
      rw [Option.isNone_iff_eq_none.mp h0]; rfl
  unfold tabP
  rw [tw]
  refine ⟨fun p hp => ?_, fun x hx => ?_⟩
  · obtain ⟨q, hq, e⟩ := List.mem_filterMap.1 hp
    obtain ⟨x, hx, e1, e2⟩ := hD q hq
    rw [e2] at e
    cases e
    exact ⟨x, hx, e1, rfl, rfl⟩
  · obtain ⟨c, o, e1, e2, e3, _⟩ := chk1_is (h1 x hx)
    refine ⟨c, e1, List.mem_filterMap.2 ⟨(c, o), List.mem_filterMap.2 ⟨x, hx, by rw [e1]; simp [e2]⟩, by rw [e3]; rfl⟩⟩
theorem nodup_of {α β : Type} {f : α → β} : ∀ {xs : List α}, (xs.map f).Nodup → ∀ x ∈ xs, ∀ y ∈ xs, f x = f y → x = y
  | [], _, x, hx, _, _, _ => absurd hx List.not_mem_nil
  | a :: xs, h, x, hx, y, hy, e => by
    rw [List.map_cons, List.nodup_cons] at h
    rcases List.mem_cons.1 hx with h1 | h1 <;> rcases List.mem_cons.1 hy with h2 | h2
    · rw [h1, h2]
    · rw [h1] at e; exact absurd (List.mem_map.2 ⟨y, h2, e.symm⟩) h.1
    · rw [h2] at e; exact absurd (List.mem_map.2 ⟨x, h1, e⟩) h.1
    · exact nodup_of h.2 x h1 y h2 e
theorem tabP_un {xs : List Str} {ts : List Addr} {K : Kf} (h : chkB xs ts K = true) : ∀ p ∈ tabP (pre xs K), ∀ q ∈ tabP (pre xs K), p.2.1 = q.2.1 → p.2.2 = q.2.2 := fun p hp q hq e => by
  obtain ⟨x, hx, _, e1, e2⟩ := (tabP_pre h).1 p hp
  obtain ⟨y, hy, _, e3, e4⟩ := (tabP_pre h).1 q hq
  unfold chkB at h
  simp only [Bool.and_eq_true, decide_eq_true_eq] at h
  rw [e2, e4]
  exact nodup_of h.2 x hx y hy (by rw [← e1, ← e3, e])
theorem tabs_at {xs : List Str} {ts : List Addr} {K : Kf} {h : Heap} (c : chkB xs ts K = true) (X : K.In h) (hT : ∀ P ∈ ts, h.get? P = some tab0) : ∀ p ∈ tabP (pre xs K), h.get? p.2.1 = some tab0 ∧ (pre xs K).lookup p.2.1 = none ∧ PySem.W.CodeHd h p.1 p.2.1 := fun p hp => by
  obtain ⟨x, hx, e1, e2, e3⟩ := (tabP_pre c).1 p hp
  unfold chkB at c
  simp only [Bool.and_eq_true, List.all_eq_true] at c
  obtain ⟨c0, o, g1, g2, g3, g4, g5, g6⟩ := chk1_is (c.1.2 x hx)
  rw [e1] at g1
  cases g1
  rw [e2]
  exact ⟨hT _ g4, by rw [lookup_pre]; exact g6, PySem.W.codeHd_of_K X g5⟩
/-- the law's end, whatever its defs: the interpreter says True of every script -/
theorem law_ofT {l : PySem.W.OpenLaw} {q : Program} {loose : List Str} {XP : (Str → Option Value) → Heap → Prop} {YP : World → Heap → Prop} {dr : DefRec} {K : Params → Kf} {T : Gt} {Tb : Nat → Option FD} {defs : List DefI} {fuel k : Nat} {d : DefI} {x : Str} {xs : List Str} {ts : List Addr}
    (hn : l.most = some 63) (hdf : dr.params.defaults = []) (hr : Room (3 * k) callerA) (hY : ∀ (w : World) (h : Heap), YP w h → (K w.params).In h) (hT : ∀ (w : World) (h : Heap), YP w h → ∀ P ∈ ts, h.get? P = some tab0) (chk : ∀ w : World, chkB xs ts (K w.params) = true) (L : LawJ T Tb defs) (hd : d ∈ defs) (hname : dr.name = d.name) (hps : d.ps = [x])
    (hbd : ∀ (kV doc pm : Value) (an : Option Addr) (cdv ct u : Value), bindArgs (PySem.W.fnOf d.name d.q (defArgs d.st) (defBody d.st) (defScope d.st) .none kV doc pm an cdv ct) ⟨[u], []⟩ = pure [(x, u)])
    (G : ∀ (w : World) (mg : Str → Option Value) (h : Heap), (K w.params).In h → h.Ns mainGlobals mg → chkB xs ts (K w.params) = true → GlobI (pre xs (K w.params)) mg T defs)
    (main : ∀ ns : List Int, ns.length ≤ 63 → ∃ M, run Tb fuel k d.id [.scr ns] [] = .ok (.p (.bool true)) M) (hown : d.own = none := by rfl) :
    PySem.W.WalkO q loose XP YP l.row.toRowW dr [] (fun f vs => PySem.call f vs) := by
  refine Att.attach_callB hn hdf fun w s₀ s₁ mg mb fa o pm cd doc a vs ns Gt Y ho hd' hcd hmg hobj hints hlen hbits hg => ?_
  have KX := hY w _ Y
  have g := G w mg _ KX Gt.T.g (chk w)
  obtain ⟨f, fd, m1, Ff, Bf⟩ := g.fn d hd
  have ef : f = fa := by
    have m2 := m1
    unfold LocD at m2
    rw [hown] at m2
    rw [hname, m2] at hmg
    cases hmg
    rfl
  subst ef
  refine law_callT (K := pre xs (K w.params)) (sp := spF (pre xs (K w.params)) (exOf mg) (run Tb fuel k) d.id 1) (k := 3 * k) (x := x) (fd := fd) (cs := (tabP (pre xs (K w.params))).map fun p => (p.1, p.2.1)) (pre_in KX) Gt.T.g Gt.T.b Gt.T.builtins Gt.T.nolimit hg (fun p hp => ?_) Gt.T.bmain hobj hints (Nat.le_trans hlen (by decide)) hr (fun base kb gb tb => ?_) (fun s u => ?_) (fun H atT hS => ?_)
  · obtain ⟨z, hz, rfl⟩ := List.mem_map.1 hp
    exact tabs_at (chk w) KX (hT w _ Y) z hz
  · have lv := levels (P := l.prog) (w := w) (base := base) (fuel := fuel) L (G w mg base (fun a o e => kb a o (by rw [lookup_pre]; exact e)) gb (chk w)) (fun p hp => tb (p.1, p.2.1) (List.mem_map.2 ⟨p, hp, rfl⟩)) k d hd f fd m1 Ff
    rw [hps] at lv
    exact lv
  · obtain ⟨oc, od, kV, doc, pm, an, cdv, ct, osl, rfl, _, _⟩ := Ff.ex
    exact .of_eq (hbd kV doc pm an cdv ct u)
  · obtain ⟨M, hm⟩ := main ns hlen
    refine ⟨S0, [], [.scr ns], ⟨rfl, fun i j a h => by simp at h, fun i a xs h => by simp at h, fun a h => by simp at h, fun a h => by simp at h, fun a h => by simp at h, fun i xs h => by simp at h, fun p hp => ?_⟩, .cons ⟨a, rfl, ?_⟩ .nil, rfl, ?_⟩
    · obtain ⟨z, hz, rfl⟩ := List.mem_map.1 hp
      exact LamX.TabS.nil (atT (z.1, z.2.1) (List.mem_map.2 ⟨z, hz, rfl⟩))
    · rcases hS with hS | hS
      · exact .inl ⟨hS, no0 a⟩
      · exact .inr hS
    · rw [hm]
      intro S' H' t w v r
      cases (show RP _ S' H' (.bool true) v from r)
      rfl
end Mi

set_option Elab.async false
set_option linter.all false
set_option maxRecDepth 100000
set_option maxHeartbeats 1000000
/-! Mi: words for a law's own text. -/
namespace Mi
open PySem PySem.Spec PyProof.Rows L2
theorem all_nil {α : Type} {P : α → Prop} : ∀ d ∈ ([] : List α), P d := fun _ h => absurd h List.not_mem_nil
theorem all_cons {α : Type} {P : α → Prop} {a : α} {l : List α} (h : P a) (t : ∀ d ∈ l, P d) : ∀ d ∈ a :: l, P d := fun d hd => by
  rcases List.mem_cons.mp hd with z | z
  · rw [z]; exact h
  · exact t d z
def idRows (own : Option Nat) : List DefI → List (Str × (Nat × Nat))
  | [] => []
  | d :: r => if d.own = own then (d.name, (d.id, d.ps.length)) :: idRows own r else idRows own r
theorem ids_own {own : Option Nat} : ∀ {defs : List DefI} {x : Str} {f n : Nat}, (idRows own defs).lookup x = some (f, n) → ∃ d ∈ defs, d.name = x ∧ d.own = own ∧ d.id = f ∧ d.ps.length = n
  | [], x, f, n, h => by cases h
  | d :: r, x, f, n, h => by
    unfold idRows at h
    split at h
    · rename_i ho
      rw [List.lookup_cons] at h
      split at h
      · rename_i e
        have e := beq_iff_eq.mp e
        cases h
        exact ⟨d, List.mem_cons_self, e.symm, ho, rfl, rfl⟩
      · obtain ⟨d', h1, h2⟩ := ids_own h
        exact ⟨d', List.mem_cons_of_mem _ h1, h2⟩
    · obtain ⟨d', h1, h2⟩ := ids_own h
      exact ⟨d', List.mem_cons_of_mem _ h1, h2⟩
theorem ids_of {defs : List DefI} {l : List (Str × (Nat × Nat))} (e : idRows none defs = l) : ∀ x f n, l.lookup x = some (f, n) → ∃ d ∈ defs, d.name = x ∧ d.own = none ∧ d.id = f ∧ d.ps.length = n := by
  subst e
  intro x f n h
  exact ids_own h
/-- the methods of the classes, in the order of the defs -/
theorem ms_of {T : Gt} {defs : List DefI} (e : T.cl.all (fun p => decide (p.ms = idRows (some p.c) defs)) = true) : MsOk T defs := by
  intro p hp m f n h
  have := of_decide_eq_true (List.all_eq_true.mp e p hp)
  rw [this] at h
  exact ids_own h
def scopeC (N P : List Str) (sc : Scope) : Bool :=
  (match sc.kind with | .function => true | _ => false) && !sc.isCoroutine && !sc.isGenerator && decide (N.Nodup) && decide (N.take P.length = P) && (P.all fun x => match sc.names.lookup x with | some .local => true | some .cell => true | _ => false) && (sc.names.all fun y => match y.2 with | .free => false | _ => true)
theorem scope_of {N P : List Str} {sc : Scope} (h : scopeC N P sc = true) : FnScope N P sc := by
  unfold scopeC at h
  simp only [Bool.and_eq_true, Bool.not_eq_true', decide_eq_true_eq, List.all_eq_true] at h
  obtain ⟨⟨⟨⟨⟨⟨h1, h2⟩, h3⟩, h4⟩, h5⟩, h6⟩, h7⟩ := h
  refine ⟨?_, h2, h3, h4, h5, fun x hx => ?_, fun y hy e => ?_⟩
  · split at h1
    · assumption
    · cases h1
  · have := h6 x hx
    split at this
    · rename_i e; exact .inl e
    · rename_i e; exact .inr e
    · cases this
  · have := h7 y hy
    rw [e] at this
    cases this
section
variable {K : Kf} {mg : Str → Option Value} {h : Heap}
theorem codeIn_pre (xs : List Str) (K : Kf) (cd : Value) (q : Str) : PySem.W.codeIn (pre xs K) cd q = PySem.W.codeIn K cd q := by
  unfold PySem.W.codeIn
  cases cd <;> try rfl
  simp only [lookup_pre]
theorem keepIn_fn {K : Kf} {f : Addr} {oc : Value} {od : Option Addr} {fd : FuncData} {sl : Array (Option Value)} (l : K.lookup f = some ⟨oc, od, .func fd, sl⟩) : PySem.W.keepIn K (.ref f) = true := by
  unfold PySem.W.keepIn
  simp only [l]
theorem fn_of1 {d : DefI} {f : Addr} {od an : Option Addr} {sl : Array (Option Value)} {oc kV dc pm cd ct : Value} (X : K.In h) (G : h.Ns mainGlobals mg) (a : PySem.W.nsIn K mainGlobals d.name = some (some (.ref f)))
    (l : K.lookup f = some ⟨oc, od, .func (PySem.W.fnOf d.name d.name (defArgs d.st) (defBody d.st) (defScope d.st) .none kV dc pm an cd ct), sl⟩) (c : PySem.W.codeIn K cd d.name = true) (k : PySem.W.keepIn K (.ref f) = true)
    {xs : List Str} (b : ∀ (kV doc pm : Value) (an : Option Addr) (cdv ct : Value) (us : List Value), us.length = d.ps.length → bindArgs (PySem.W.fnOf d.name d.name (defArgs d.st) (defBody d.st) (defScope d.st) .none kV doc pm an cdv ct) ⟨us, []⟩ = pure (d.ps.zip us))
    (ho : d.own = none := by rfl) (hq : d.q = d.name := by rfl) : ∃ f fd, LocD (pre xs K) mg d f ∧ Fun (pre xs K) d.name d.q d.st f fd ∧ Binds (pre xs K) fd d.ps [] := by
  have F := fun_mk (K := pre xs K) (st := d.st) ((lookup_pre _ _ _).trans l) ((codeIn_pre _ _ _ _).trans c) (keepIn_fn ((lookup_pre _ _ _).trans l))
  refine ⟨f, _, ?_, by rw [hq]; exact F, F.binds b⟩
  unfold LocD
  rw [ho]
  exact PySem.W.mg_of X G a
/-- a def makes no lambda -/
theorem no_lam {T : Gt} {d : DefI} {A : Prop} (h : T.lam.contains d.N = false) : T.lam.contains d.N = true → A := fun z => by rw [h] at z; cases z
/-! exceptions -/
def exD (Ds : List Addr) (c : Nat) : Addr := Ds.getD c 0
def hdRow (K : Kf) (CS : Addr) (Ds : List Addr) (c : Nat) :=
  ((PySem.W.findIn K (.ref (exD Ds c)) "__getattribute__", PySem.W.findIn K (.ref (exD Ds c)) "__getattr__", PySem.W.subIn K (.ref (exD Ds c)) (.type "BaseException"), PySem.W.hasDictIn K (exD Ds c), PySem.W.findIn K (.ref (exD Ds c)) "__class__"),
    (PySem.W.specialIn K (.builtin "object.__class__") "__get__", PySem.W.takesIn K (.builtin "object.__class__"), PySem.W.mroIn K (exD Ds c) (.type "object"), PySem.W.exmOne K (.ref (exD Ds c)) (.ref CS)),
    (List.range 16).map (fun j => PySem.W.kitOne K (.ref (exD Ds c)) (.ref (exD Ds j))), PySem.W.kitOne K (.ref (exD Ds c)) (.type "ValueError"))
def hdDue (c : Nat) : (Option (Option Value) × Option (Option Value) × Option Bool × Bool × Option (Option Value)) × (Option (Option Value) × Option Bool × Option Bool × Option Bool) × List (Option Bool) × Option Bool :=
  ((some (some (.builtin "BaseException.__getattribute__")), some none, some true, true, some (some (.builtin "object.__class__"))),
    (some (some (.builtin "getset_descriptor.__get__")), some true, some true, some true),
    (List.range 16).map (fun j => some (j == c)), some true)
def exRow (K : Kf) (Ds : List Addr) (c : Nat) := (PySem.W.excIn K (exD Ds c) [.type "ValueError", .type "Exception", .type "BaseException", .type "object"] "ValueError.__new__", PySem.W.keepIn K (.ref (exD Ds c)), PySem.W.subIn K (.ref (exD Ds c)) (.type "BaseException"), PySem.W.typeIn K (.ref (exD Ds c)))
theorem cs_int {K' : Kf} {x : Str} {i : Int} {t : Tok} (X : K.In h) (G : h.Ns mainGlobals mg) (a : PySem.W.nsIn K mainGlobals x = some (some (.int i t))) : ∃ v u, mg x = some u ∧ RelV v u ∧ CsR K' (.int i) v :=
  ⟨.int i, _, PySem.W.mg_of X G a, ⟨t, rfl⟩, fun _ _ => .int i, fun _ _ h => by cases h⟩
theorem cs_str {K' : Kf} {x : Str} {i : Str} {t : Tok} (X : K.In h) (G : h.Ns mainGlobals mg) (a : PySem.W.nsIn K mainGlobals x = some (some (.str i t))) : ∃ v u, mg x = some u ∧ RelV v u ∧ CsR K' (.str i) v :=
  ⟨.str i, _, PySem.W.mg_of X G a, ⟨t, rfl⟩, fun _ _ => .str i, fun _ _ h => by cases h⟩
theorem fr_nil : ∀ x : Str, x ∈ ([] : List Str) → mg x = none := fun _ h => absurd h List.not_mem_nil
theorem fr_cons {y : Str} {l : List Str} (X : K.In h) (G : h.Ns mainGlobals mg) (a : PySem.W.nsIn K mainGlobals y = some none) (t : ∀ x, x ∈ l → mg x = none) : ∀ x, x ∈ y :: l → mg x = none := fun x hx => by
  rcases List.mem_cons.mp hx with z | z
  · rw [z]; exact PySem.W.mg_none_of X G a
  · exact t x z
theorem cs_nil {K' : Kf} : ∀ x d, ([] : List (Str × PyData)).lookup x = some d → ∃ v u, mg x = some u ∧ RelV v u ∧ CsR K' d v := fun _ _ h => by cases h
theorem cs_cons {y : Str} {e : PyData} {l : List (Str × PyData)} (a : ∃ v u, mg y = some u ∧ RelV v u ∧ CsR K e v) (t : ∀ x d, l.lookup x = some d → ∃ v u, mg x = some u ∧ RelV v u ∧ CsR K d v) :
    ∀ x d, ((y, e) :: l).lookup x = some d → ∃ v u, mg x = some u ∧ RelV v u ∧ CsR K d v := fun x d hx => by
  rw [List.lookup_cons] at hx
  split at hx
  · rename_i q
    have q := beq_iff_eq.mp q
    cases hx
    rw [q]; exact a
  · exact t x d hx
end
end Mi

set_option Elab.async false
set_option linter.all false
set_option maxRecDepth 100000
set_option maxHeartbeats 1000000
/-! Mi: Run.__init__ by itself. -/
namespace Mi
open PySem PySem.Spec PyProof.Rows L2
abbrev initN : List Str := [Str.ofString "self", Str.ofString "plan", Str.ofString "fails", Str.ofString "number"]
abbrev initP : List Str := [Str.ofString "self", Str.ofString "plan", Str.ofString "fails"]
def T0 : Gt := ⟨[], [], [], [], [], [], false, []⟩
/-- the reading of the body -/
def tInit (K : Kf) (own : List Nat) : TS :=
  tSeq (tAsg (tVar 1) (gTup K 2 (gCons (gFld K (tVar 0) "left") (gCons (gFld K (tVar 0) "keeps") gNil))))
  (tSeq (sFld K (tVar 0) (tDc (iTup K (tVar 2)) (gName 3) tYes (tVar 3) (tC (.bl true)) own) "fails")
  (tSeq (sFld K (tVar 0) tDNewK "kept") (tSeq (sFld K (tVar 0) (tLst tNil) "asks") (tSeq (sFld K (tVar 0) (tLst tNil) "deciders") tNext))))
theorem incB_get : ∀ {is : List Int}, incB is = true → ∀ (i j : Nat) (a b : Int), i < j → is[i]? = some a → is[j]? = some b → a < b
  | [], _, i, j, a, b, _, h, _ => by simp at h
  | [x], _, i, j, a, b, hij, h1, h2 => by
    cases j with
    | zero => omega
    | succ j => simp at h2
  | x :: y :: r, h, i, j, a, b, hij, h1, h2 => by
    have h' : x < y ∧ incB (y :: r) = true := by simpa [incB] using h
    cases j with
    | zero => omega
    | succ j =>
      have h2 : (y :: r)[j]? = some b := by simpa using h2
      cases i with
      | zero =>
        simp at h1
        subst h1
        cases j with
        | zero => simp at h2; rw [← h2]; exact h'.1
        | succ j => exact Int.lt_trans h'.1 (incB_get h'.2 0 (j + 1) y b (by omega) rfl h2)
      | succ i => exact incB_get h'.2 i j a b (by omega) (by simpa using h1) h2
abbrev kvI (is : List Int) : List (Key × V) := is.map fun i => (.inl i, .bl true)
theorem valV_take {is : List Int} (h : incB is = true) {i : Nat} {a : Int} (hi : is[i]? = some a) : valV (kvI (is.take i)) (.inl a : Key) = none := by
  have := valV_any (.inl a : Key) (kvI (is.take i))
  cases e : valV (kvI (is.take i)) (.inl a : Key) with
  | none => rfl
  | some v =>
    rw [e] at this
    obtain ⟨p, hp, e1⟩ := List.any_eq_true.mp this
    obtain ⟨b, hb, rfl⟩ := List.mem_map.1 hp
    have e1 : (.inl b : Key) = .inl a := of_decide_eq_true e1
    cases e1
    obtain ⟨j, hj, e2⟩ := List.mem_iff_getElem.1 hb
    have hj2 : j < i := by
      have := List.length_take_le i is
      omega
    have := incB_get h j i a a hj2 (by rw [← e2]; simp) hi
    omega
theorem asInts_rps {K : Kf} {S : Sk} {H : Hp} : ∀ {xs : List PyData} {vs : List V} {is : List Int}, RPs K S H xs vs → asInts xs = some is → vs = is.map V.int
  | [], _, is, .nil, e => by cases e; rfl
  | x :: xs, _, is, .cons r rs, e => by
    cases r <;> try (simp only [asInts] at e; cases e; done)
    rename_i i
    simp only [asInts] at e
    cases e2 : asInts xs with
    | none => rw [e2] at e; cases e
    | some js =>
      rw [e2] at e
      cases e
      rw [asInts_rps rs e2]
      rfl
section
variable {K : Kf} {S : Sk} {M : Mem} {H : Hp}
theorem rk_is : ∀ is : List Int, RKs K S H (is.map fun i => (PyData.int i, PyData.bool true)) (kvI is)
  | [] => .nil
  | i :: is => .int (.bl true) (rk_is is)
end
theorem init_run {K : Kf} {c : Nat} {S : Sk} {M : Mem} {H1 : Hp} {x dx : Addr} {v1 v2 : V} {xs : List PyData} {r : D} {M' : Mem} {Q : VK} (cl : Cls K (Adr K c)) (nl : NoAttr K (Adr K c) "left") (nk : NoAttr K (Adr K c) "keeps") (nf : NoAttr K (Adr K c) "fails")
    (np : NoAttr K (Adr K c) "kept") (na : NoAttr K (Adr K c) "asks") (nd : NoAttr K (Adr K c) "deciders") (hx : H1 x = none) (hdx : H1 dx = none) (hne : dx ≠ x) (w : W K S M H1) (rs : RPs K S H1 xs [v1, v2]) (hm : mkop 0 c xs M = .ok r M')
    (q : ∀ S' H', Stp S H1 S' H' → W K S' M' H' → RD K S' H' r (.ref x) → Q .non H') :
    tInit K [3] { nx := fun _ H' => Q .non H', rt := Q } [some (.ref x), some v1, some v2, none] (upd (upd H1 dx (.own x)) x (.ins (Adr K c) dx [])) := by
  have t0 : Stp S H1 S (upd H1 dx (.own x)) := .fresh hdx
  have hx0 : (upd H1 dx (.own x)) x = none := by rw [upd_ne (Ne.symm hne)]; exact hx
  have t1 : Stp S H1 S (upd (upd H1 dx (.own x)) x (.ins (Adr K c) dx [])) := t0.trans (.fresh hx0)
  unfold mkop at hm
  split at hm
  case h_2 => cases hm
  rename_i l k ns _
  split at hm
  case h_2 => cases hm
  rename_i is his
  split at hm
  case isFalse => cases hm
  rename_i hinc
  simp only [Bool.and_eq_true, decide_eq_true_eq] at hinc
  obtain ⟨hinc, hlen⟩ := hinc
  unfold allocB at hm
  cases hm
  cases rs with
  | cons r1 rs =>
  cases rs with
  | cons r2 rs =>
  cases rs
  cases r1 with
  | tup sq1 q1 =>
  rename_i a1 us1
  cases q1 with
  | cons rl q1 =>
  cases q1 with
  | cons rk q1 =>
  cases q1
  rename_i vl vk
  cases r2 with
  | tup sq2 q2 =>
  rename_i a2 us2
  obtain rfl := asInts_rps q2 his
  have sqk : ∀ {H' : Hp} {a : Addr} {ys : List V}, Stp S H1 S H' → SqT' K S H1 a ys → SqT K H' a ys := fun {H' a ys} t h => by
    rcases h with ⟨h, n⟩ | h
    · exact .inl (t.kp.rd h n)
    · exact .inr h
  refine ⟨_, rfl, a1, _, rfl, sqk t1 sq1, rfl, _, _, rfl, ?_⟩
  refine ⟨_, rfl, x, _, dx, _, rfl, upd_same, cl, nl, by decide, ?_⟩
  refine ⟨_, _, rfl, _, rfl, x, _, dx, _, rfl, upd_same, cl, nk, by simp [putF], rfl, ?_⟩
  rw [upd_upd, upd_upd]
  have e2 : putF "keeps" vk (putF "left" vl []) = [(Str.ofString "left", vl), (Str.ofString "keeps", vk)] := rfl
  rw [e2]
  have t2 : ∀ o, Stp S H1 S (upd (upd H1 dx (.own x)) x o) := fun o => t0.trans (.fresh hx0)
  generalize ho2 : (HO.ins (Adr K c) dx [(Str.ofString "left", vl), (Str.ofString "keeps", vk)]) = o2
  refine ⟨_, rfl, a2, rfl, ⟨_, sqk (t2 o2) sq2⟩, fun D nD => ?_⟩
  have nDx : D ≠ x := fun e => by rw [e, upd_same] at nD; cases nD
  have nDdx : D ≠ dx := fun e => by rw [upd_ne nDx, e, upd_same] at nD; cases nD
  have nD1 : H1 D = none := by rw [upd_ne nDx, upd_ne nDdx] at nD; exact nD
  refine dc_tup (xs := is.map V.int) (fun i H' => H' = upd (upd (upd H1 dx (.own x)) x o2) D (.dK (kvI (is.take i)))) rfl (fun i H' hi e => ?_) (fun i y H' hy e => ?_) (fun H' e => ?_)
  · subst e
    exact sqk ((t2 o2).trans (.fresh nD)) sq2
  · subst e
    have hy' : ∃ b, is[i]? = some b ∧ y = .int b := by
      rw [List.getElem?_map] at hy
      cases eb : is[i]? with
      | none => rw [eb] at hy; cases hy
      | some b => rw [eb] at hy; cases hy; exact ⟨b, rfl, rfl⟩
    obtain ⟨b, hb, rfl⟩ := hy'
    refine ⟨rfl, ?_⟩
    simp only [tYes, if_true]
    refine ⟨_, rfl, kvI (is.take i), .inl b, rfl, upd_same, ?_, ?_⟩
    · have : (kvI (is.take i)).length ≤ is.length := by
        rw [List.length_map]; exact List.length_take_le' i is
      rw [sizeLine_eq]
      omega
    · rw [upd_upd, putK_new _ (valV_take hinc hb)]
      congr 2
      have hi : i < is.length := (List.getElem?_eq_some_iff.1 hb).1
      rw [List.take_succ, hb]
      simp
  · subst e
    rw [List.length_map, List.take_length]
    refine ⟨_, rfl, x, _, dx, _, rfl, by rw [upd_ne (Ne.symm nDx), upd_same, ← ho2], cl, nf, by simp, ?_⟩
    rw [show putF "fails" (V.ref D) [(Str.ofString "left", vl), (Str.ofString "keeps", vk)] = [(Str.ofString "left", vl), (Str.ofString "keeps", vk), (Str.ofString "fails", V.ref D)] from rfl]
    intro A nA
    have nAx : A ≠ x := fun e => by rw [e, upd_same] at nA; cases nA
    have nAD : A ≠ D := fun e => by rw [upd_ne nAx, e, upd_same] at nA; cases nA
    have nAdx : A ≠ dx := fun e => by rw [upd_ne nAx, upd_ne nAD, upd_ne nAx, e, upd_same] at nA; cases nA
    have nA1 : H1 A = none := by rw [upd_ne nAx, upd_ne nAD, upd_ne nAx, upd_ne nAdx] at nA; exact nA
    refine ⟨_, rfl, x, _, dx, _, rfl, by rw [upd_ne (Ne.symm nAx), upd_same], cl, np, by simp, ?_⟩
    rw [show putF "kept" (V.ref A) [(Str.ofString "left", vl), (Str.ofString "keeps", vk), (Str.ofString "fails", V.ref D)] = [(Str.ofString "left", vl), (Str.ofString "keeps", vk), (Str.ofString "fails", V.ref D), (Str.ofString "kept", V.ref A)] from rfl]
    refine ⟨Nat.zero_le _, fun B nB => ?_⟩
    have nBx : B ≠ x := fun e => by rw [e, upd_same] at nB; cases nB
    have nBA : B ≠ A := fun e => by rw [upd_ne nBx, e, upd_same] at nB; cases nB
    have nBD : B ≠ D := fun e => by rw [upd_ne nBx, upd_ne nBA, upd_ne nBx, e, upd_same] at nB; cases nB
    have nBdx : B ≠ dx := fun e => by rw [upd_ne nBx, upd_ne nBA, upd_ne nBx, upd_ne nBD, upd_ne nBx, e, upd_same] at nB; cases nB
    have nB1 : H1 B = none := by rw [upd_ne nBx, upd_ne nBA, upd_ne nBx, upd_ne nBD, upd_ne nBx, upd_ne nBdx] at nB; exact nB
    refine ⟨_, rfl, x, _, dx, _, rfl, by rw [upd_ne (Ne.symm nBx), upd_same], cl, na, by simp, ?_⟩
    rw [show putF "asks" (V.ref B) [(Str.ofString "left", vl), (Str.ofString "keeps", vk), (Str.ofString "fails", V.ref D), (Str.ofString "kept", V.ref A)] = [(Str.ofString "left", vl), (Str.ofString "keeps", vk), (Str.ofString "fails", V.ref D), (Str.ofString "kept", V.ref A), (Str.ofString "asks", V.ref B)] from rfl]
    refine ⟨Nat.zero_le _, fun E nE => ?_⟩
    have nEx : E ≠ x := fun e => by rw [e, upd_same] at nE; cases nE
    have nEB : E ≠ B := fun e => by rw [upd_ne nEx, e, upd_same] at nE; cases nE
    have nEA : E ≠ A := fun e => by rw [upd_ne nEx, upd_ne nEB, upd_ne nEx, e, upd_same] at nE; cases nE
    have nED : E ≠ D := fun e => by rw [upd_ne nEx, upd_ne nEB, upd_ne nEx, upd_ne nEA, upd_ne nEx, e, upd_same] at nE; cases nE
    have nEdx : E ≠ dx := fun e => by rw [upd_ne nEx, upd_ne nEB, upd_ne nEx, upd_ne nEA, upd_ne nEx, upd_ne nED, upd_ne nEx, e, upd_same] at nE; cases nE
    have nE1 : H1 E = none := by rw [upd_ne nEx, upd_ne nEB, upd_ne nEx, upd_ne nEA, upd_ne nEx, upd_ne nED, upd_ne nEx, upd_ne nEdx] at nE; exact nE
    refine ⟨_, rfl, x, _, dx, _, rfl, by rw [upd_ne (Ne.symm nEx), upd_same], cl, nd, by simp, ?_⟩
    rw [show putF "deciders" (V.ref E) [(Str.ofString "left", vl), (Str.ofString "keeps", vk), (Str.ofString "fails", V.ref D), (Str.ofString "kept", V.ref A), (Str.ofString "asks", V.ref B)] = [(Str.ofString "left", vl), (Str.ofString "keeps", vk), (Str.ofString "fails", V.ref D), (Str.ofString "kept", V.ref A), (Str.ofString "asks", V.ref B), (Str.ofString "deciders", V.ref E)] from rfl]
    generalize ho7 : (HO.ins (Adr K c) dx [(Str.ofString "left", vl), (Str.ofString "keeps", vk), (Str.ofString "fails", V.ref D), (Str.ofString "kept", V.ref A), (Str.ofString "asks", V.ref B), (Str.ofString "deciders", V.ref E)]) = o7
    -- the cells, one after another
    have w0 : W K S M (upd H1 dx (.own x)) := w.fresh hdx
    have n1 : upd H1 dx (.own x) D = none := by rw [upd_ne nDdx]; exact nD1
    obtain ⟨s1, w1, r1⟩ := w0.push (o := .dK (kvI is)) (c := .dct (is.map fun i => (.int i, .bool true))) n1 ⟨_, upd_same, rk_is is⟩
    have n2 : upd (upd H1 dx (.own x)) D (.dK (kvI is)) A = none := by rw [upd_ne nAD, upd_ne nAdx]; exact nA1
    obtain ⟨s2, w2, r2⟩ := w1.push (o := .dK []) (c := .dct []) n2 ⟨_, upd_same, .nil⟩
    have n3 : upd (upd (upd H1 dx (.own x)) D (.dK (kvI is))) A (.dK []) B = none := by rw [upd_ne nBA, upd_ne nBD, upd_ne nBdx]; exact nB1
    obtain ⟨s3, w3, r3⟩ := w2.push (o := .lst []) (c := .lst []) n3 ⟨_, upd_same, .nil⟩
    have n4 : upd (upd (upd (upd H1 dx (.own x)) D (.dK (kvI is))) A (.dK [])) B (.lst []) E = none := by rw [upd_ne nEB, upd_ne nEA, upd_ne nED, upd_ne nEdx]; exact nE1
    obtain ⟨s4, w4, r4⟩ := w3.push (o := .lst []) (c := .lst []) n4 ⟨_, upd_same, .nil⟩
    have n5 : upd (upd (upd (upd (upd H1 dx (.own x)) D (.dK (kvI is))) A (.dK [])) B (.lst [])) E (.lst []) x = none := by rw [upd_ne (Ne.symm nEx), upd_ne (Ne.symm nBx), upd_ne (Ne.symm nAx), upd_ne (Ne.symm nDx), upd_ne (Ne.symm hne)]; exact hx
    have st := t0.trans (s1.trans (s2.trans (s3.trans s4)))
    obtain ⟨s5, w5, r5⟩ := w4.push (o := o7) (c := .hdr (c + 1) [(("left" : String), .d l), (("keeps" : String), .d k), (("fails" : String), .s 3), (("kept" : String), .s 2), (("asks" : String), .s 1), (("deciders" : String), .s 0)]) n5 ⟨[vl, vk, .ref D, .ref A, .ref B, .ref E], by
      have hL : (S.L ++ [some D] ++ [some A] ++ [some B] ++ [some E]).length = S.L.length + 4 := by simp
      have st5 : Stp S H1 ⟨S.L ++ [some D] ++ [some A] ++ [some B] ++ [some E] ++ [some x], S.Z⟩ (upd (upd (upd (upd (upd (upd H1 dx (.own x)) D (.dK (kvI is))) A (.dK [])) B (.lst [])) E (.lst [])) x o7) := by
        refine st.trans ?_
        have st0 : Stp ⟨S.L ++ [some D] ++ [some A] ++ [some B] ++ [some E], S.Z⟩ (upd (upd (upd (upd (upd H1 dx (.own x)) D (.dK (kvI is))) A (.dK [])) B (.lst [])) E (.lst [])) ⟨S.L ++ [some D] ++ [some A] ++ [some B] ++ [some E], S.Z⟩ (upd (upd (upd (upd (upd (upd H1 dx (.own x)) D (.dK (kvI is))) A (.dK [])) B (.lst [])) E (.lst [])) x o7) := Stp.fresh n5
        refine ⟨by simp, fun i a hi h => ?_, fun a h => ?_, ⟨fun _ h => h, fun _ h => .inl h⟩, st0.keep, st0.live⟩
        · simp only [] at h; rw [List.getElem?_append_left hi] at h; exact h
        · rcases List.mem_append.mp h with h | h
          · exact .inl h
          · have : a = x := by simpa using h
            subst this; exact .inr n5
      refine .cons (.d (rl.mono st5)) (.cons (.d (rk.mono st5)) (.cons (.s (by simp) fun b e => ?_) (.cons (.s (by simp) fun b e => ?_) (.cons (.s (by simp) fun b e => ?_) (.cons (.s (by simp) fun b e => ?_) .nil)))))
      all_goals
        simp at e
        rw [e], by rw [upd_same, ← ho7]; exact ⟨dx, rfl⟩⟩
    have eM : M ++ [MO.dct (is.map fun i => (PyData.int i, PyData.bool true))] ++ [MO.dct []] ++ [MO.lst []] ++ [MO.lst []] = M ++ [MO.dct (is.map fun i => (PyData.int i, PyData.bool true)), MO.dct [], MO.lst [], MO.lst []] := by simp
    rw [eM] at w5 r5
    rw [List.length_append] at r5
    have hq := q _ _ (st.trans s5) w5 r5
    refine (congrArg (fun h => Q V.non h) (funext fun b => ?_)).mp hq
    unfold upd
    by_cases e1 : b = x
    · rw [if_pos e1, if_pos e1]
    · rw [if_neg e1, if_neg e1]
      by_cases e2 : b = E
      · rw [if_pos e2, if_pos e2]
      · rw [if_neg e2, if_neg e2, if_neg e1]
        by_cases e3 : b = B
        · rw [if_pos e3, if_pos e3]
        · rw [if_neg e3, if_neg e3, if_neg e1]
          by_cases e4 : b = A
          · rw [if_pos e4, if_pos e4]
          · rw [if_neg e4, if_neg e4, if_neg e1]
            by_cases e5 : b = D
            · rw [if_pos e5, if_pos e5]
            · rw [if_neg e5, if_neg e5, if_neg e1]
/-! the body, in HandS's rules -/
section
variable {N : List Str} {ex : Nat → Value} {fn : Fn} {sc : Scope} {Wx : WX} {X : Cx}
theorem init_ps (C : Cok T0 initN ex fn 0 sc none Wx X) {scope : Scope} {k1 j1 : Nat} {p1 p2 p3 p4 p5 p6 p7 p8 p9 p10 p11 p12 p13 p14 p15 p16 p17 p18 p19 p20 p21 p22 p23 p24 p25 p26 p27 : Pos}
    (v0 : visB sc "self" = true) (v1 : visB sc "plan" = true) (v2 : visB sc "fails" = true) (bk : blkC initN sc scope (ownOf initN scope) = true) (ho : ownOf initN scope = [(Str.ofString "number", 3)]) (s3 : stoB (relS scope sc) (some scope) "number" = true) (v3 : visB (relS scope sc) "number" = true) :
    PSs X [.Assign [.Tuple [.Attribute (.Name "self" p1) "left" p2, .Attribute (.Name "self" p3) "keeps" p4] k1 p5] (.Name "plan" p6) p7,
      .Assign [.Attribute (.Name "self" p8) "fails" p9] (.DictComp (.Name "number" p10) (.Constant (.bool true) j1 p11) [⟨.Name "number" p12, .Name "fails" p13, [], 0⟩] scope p14) p15,
      .Assign [.Attribute (.Name "self" p16) "kept" p17] (.Dict [] [] p18) p19,
      .Assign [.Attribute (.Name "self" p20) "asks" p21] (.List [] p22) p23,
      .Assign [.Attribute (.Name "self" p24) "deciders" p25] (.List [] p26) p27] (tInit X.K [3]) := by
  have hNX : X.N.Nodup := by rw [C.hN]; exact C.nd
  have e0 : ∀ p, PE X (.Name "self" p) (tVar 0) := fun p => pe_var (by rw [C.hN]; rfl) (vis_of C v0) (by decide) (by decide)
  have e1 : ∀ p, PE X (.Name "plan" p) (tVar 1) := fun p => pe_var (by rw [C.hN]; rfl) (vis_of C v1) (by decide) (by decide)
  have e2 : ∀ p, PE X (.Name "fails" p) (tVar 2) := fun p => pe_var (by rw [C.hN]; rfl) (vis_of C v2) (by decide) (by decide)
  have bk' : BlkOk X.N X.env.scope scope [(Str.ofString "number", 3)] := by rw [C.hN, C.hs, ← ho]; exact blkOk_by bk
  have B := fun s H D cl fp => blk_ok C bk'.kind rfl s H D cl fp
  refine pss_cons (ps_asg (e1 _) (pg_tup C.calm (pgs_cons (pg_fld (e0 _)) (pgs_cons (pg_fld (e0 _)) pgs_nil)))) (pss_cons (ps_fld (e0 _) ?_ rfl) (pss_cons (ps_fld (e0 _) pe_dnewK rfl) (pss_cons (ps_fld (e0 _) (pe_lst pa_nil) rfl) (pss_cons (ps_fld (e0 _) (pe_lst pa_nil) rfl) pss_nil))))
  refine pe_dc (own := [(Str.ofString "number", 3)]) C.calm hNX (pi_tup (e2 _)) bk' (fun s H D cl fp => ?_) (fun s H D cl fp => pts_nil) (fun s H D cl fp => ?_) (fun s H D cl fp => pe_bl)
  · obtain ⟨l1, l2⟩ := sto_of (B s H D cl fp) s3
    exact pg_name hNX (by show X.N[3]? = _; rw [C.hN]; rfl) l1 l2
  · exact pe_var (by show X.N[3]? = _; rw [C.hN]; rfl) (vis_of (B s H D cl fp) v3) (by decide) (by decide)
end

inductive InitBody (sc : Scope) : List Stmt → Prop
  | mk {scope : Scope} {k1 j1 : Nat} {p1 p2 p3 p4 p5 p6 p7 p8 p9 p10 p11 p12 p13 p14 p15 p16 p17 p18 p19 p20 p21 p22 p23 p24 p25 p26 p27 : Pos}
    (v0 : visB sc "self" = true) (v1 : visB sc "plan" = true) (v2 : visB sc "fails" = true) (bk : blkC initN sc scope (ownOf initN scope) = true) (ho : ownOf initN scope = [(Str.ofString "number", 3)]) (s3 : stoB (relS scope sc) (some scope) "number" = true) (v3 : visB (relS scope sc) "number" = true) :
    InitBody sc [.Assign [.Tuple [.Attribute (.Name "self" p1) "left" p2, .Attribute (.Name "self" p3) "keeps" p4] k1 p5] (.Name "plan" p6) p7,
      .Assign [.Attribute (.Name "self" p8) "fails" p9] (.DictComp (.Name "number" p10) (.Constant (.bool true) j1 p11) [⟨.Name "number" p12, .Name "fails" p13, [], 0⟩] scope p14) p15,
      .Assign [.Attribute (.Name "self" p16) "kept" p17] (.Dict [] [] p18) p19,
      .Assign [.Attribute (.Name "self" p20) "asks" p21] (.List [] p22) p23,
      .Assign [.Attribute (.Name "self" p24) "deciders" p25] (.List [] p26) p27]
abbrev runF : List Str := [Str.ofString "left", Str.ofString "keeps", Str.ofString "fails", Str.ofString "kept", Str.ofString "asks", Str.ofString "deciders"]
theorem init_ok {P : Program} {w : World} {K : Kf} {mg : Str → Option Value} {base : Heap} {qual : Str} {st : Stmt} {f : Addr} {fd : FuncData} {c : Nat} (F : Fun K "__init__" qual st f fd) (sh : InitBody (defScope st) (defBody st)) (fs : FnScope initN initP (defScope st))
    (cl : Cls K (Adr K c)) (na : ∀ x ∈ runF, NoAttr K (Adr K c) x) : FnG P w K mg base 1 f fd initP (spM K 0 c) := by
  have two : ∀ {xs : List PyData} {M M' : Mem} {r : D}, mkop 0 c xs M = .ok r M' → xs.length = 2 := fun {xs M M' r} h => by
    unfold mkop at h
    split at h
    · rfl
    · cases h
  refine fnG_of (k := 0) F fs (fun vs H Q E h => ?_) (fun cdv hcdv A outer s H vs Q E hg hr h => ?_)
  · obtain ⟨S, M, H1, x, dx, us, xs, r, M', rfl, _, _, _, _, _, rs, hm, _⟩ := h
    have := rs.length
    rw [two hm] at this
    simp [← this]
  · obtain ⟨S, M, H1, x, dx, us, xs, r, M', rfl, n1, n2, n3, rfl, wS, rs, hm, hq⟩ := h
    have := rs.length
    rw [two hm] at this
    obtain ⟨v1, v2, rfl⟩ : ∃ v1 v2, us = [v1, v2] := by
      match us, this with
      | [a, b], _ => exact ⟨a, b, rfl⟩
    have C : Cok T0 initN (exOf mg) (fun _ _ _ => .bad) 0 (defScope st) none (fun cls dd _ H => E cls dd H) (cxOf (CXm P w) P w K mg base initN qual (defScope st) f cdv A outer s (upd (upd H1 dx (.own x)) x (.ins (Adr K c) dx [])) E) := by
      refine ⟨rfl, rfl, fs.nd, rfl, takes_of rfl rfl rfl rfl, passes_of rfl, hr, hg, fun x _ => rfl, fs.kind, fun x i n hx => (by cases hx), fun x d hx => (by cases hx), fun x hx => (by cases hx), fun _ hlm => (by cases hlm), fun _ => rfl, fun c hc => (by cases hc), fun p hp => (by cases hp), fun p hp => (by cases hp), fun p hp => (by cases hp), fun _ h => absurd rfl h⟩
    generalize hb : defBody st = body at sh
    cases sh with
    | mk v0 v1' v2' bk ho s3 v3 =>
      exact ⟨_, init_ps C v0 v1' v2' bk ho s3 v3, init_run cl (na _ (by decide)) (na _ (by decide)) (na _ (by decide)) (na _ (by decide)) (na _ (by decide)) (na _ (by decide)) n1 n2 n3 wS rs hm hq⟩

/-! what is asked of a law's heap -/
section
variable {K : Kf} {mg : Str → Option Value} {h : Heap}
theorem adr_of {c : Nat} {C : Addr} (a : PySem.W.nsIn K mainGlobals (clsNm c) = some (some (.ref C))) : Adr K c = C := by unfold Adr; rw [a]
theorem cls_of {c : Nat} {C : Addr} (a : PySem.W.nsIn K mainGlobals (clsNm c) = some (some (.ref C))) (q1 : PySem.W.plainGet K C Str.empty = true) (q2 : PySem.W.hasDictIn K C = true) (q3 : PySem.W.plainOver K C = true)
    (q4 : PySem.W.findIn K (.ref C) "__setattr__" = some (some (.builtin "object.__setattr__"))) : Cls K (Adr K c) := by rw [adr_of a]; exact ⟨q1, q2, q3, q4⟩
theorem noat_of {c : Nat} {C : Addr} {x : Str} (a : PySem.W.nsIn K mainGlobals (clsNm c) = some (some (.ref C))) (q : PySem.W.findIn K (.ref C) x = some none) : NoAttr K (Adr K c) x := by rw [adr_of a]; exact q
theorem fn_ofM {d : DefI} {c : Nat} {C f : Addr} {od an : Option Addr} {sl : Array (Option Value)} {oc kV dc pm cd ct : Value} (hC : PySem.W.nsIn K mainGlobals (clsNm c) = some (some (.ref C))) (a : PySem.W.findIn K (.ref C) d.name = some (some (.ref f))) (i : PySem.W.isFn K (.ref f) = true) (k : PySem.W.keepIn K (.ref f) = true)
    (l : K.lookup f = some ⟨oc, od, .func (PySem.W.fnOf d.name d.q (defArgs d.st) (defBody d.st) (defScope d.st) .none kV dc pm an cd ct), sl⟩) (cd' : PySem.W.codeIn K cd d.q = true)
    (b : ∀ (kV doc pm : Value) (an : Option Addr) (cdv ct : Value) (us : List Value), us.length = d.ps.length → bindArgs (PySem.W.fnOf d.name d.q (defArgs d.st) (defBody d.st) (defScope d.st) .none kV doc pm an cdv ct) ⟨us, []⟩ = pure (d.ps.zip us))
    (ho : d.own = some c := by rfl) : ∃ f fd, LocD K mg d f ∧ Fun K d.name d.q d.st f fd ∧ Binds K fd d.ps [] := by
  have F := fun_mk (K := K) (st := d.st) l cd' k
  refine ⟨f, _, ?_, F, F.binds b⟩
  unfold LocD
  rw [ho]
  try dsimp only
  rw [adr_of hC]
  exact ⟨a, i, k⟩
theorem mk_ofM {c : Nat} {C f : Addr} {st : Stmt} {qual : Str} {od an : Option Addr} {sl : Array (Option Value)} {oc kV dc pm cd ct : Value} (X : K.In h) (G : h.Ns mainGlobals mg) (hC : PySem.W.nsIn K mainGlobals (clsNm c) = some (some (.ref C)))
    (m1 : PySem.W.makesIn K C = true) (m2 : PySem.W.findIn K (.ref C) "__init__" = some (some (.ref f))) (m3 : PySem.W.isFn K (.ref f) = true) (m4 : PySem.W.keepIn K (.ref C) = true) (k : PySem.W.keepIn K (.ref f) = true)
    (l : K.lookup f = some ⟨oc, od, .func (PySem.W.fnOf "__init__" qual (defArgs st) (defBody st) (defScope st) .none kV dc pm an cd ct), sl⟩) (cd' : PySem.W.codeIn K cd qual = true)
    (b : ∀ (kV doc pm : Value) (an : Option Addr) (cdv ct : Value) (us : List Value), us.length = initP.length → bindArgs (PySem.W.fnOf "__init__" qual (defArgs st) (defBody st) (defScope st) .none kV doc pm an cdv ct) ⟨us, []⟩ = pure (initP.zip us))
    (sh : InitBody (defScope st) (defBody st)) (fs : FnScope initN initP (defScope st)) (cl : Cls K (Adr K c)) (na : ∀ x ∈ runF, NoAttr K (Adr K c) x) :
    mg (clsNm c) = some (.ref (Adr K c)) ∧ ∃ f fd ps, Mk K (Adr K c) f ∧ Binds K fd ps [] ∧ ∀ P w base, FnG P w K mg base 1 f fd ps (spM K 0 c) := by
  have F := fun_mk (K := K) (st := st) l cd' k
  refine ⟨by rw [adr_of hC]; exact PySem.W.mg_of X G hC, f, _, _, by rw [adr_of hC]; exact ⟨m1, m2, m3, m4⟩, F.binds b, fun P w base => init_ok F sh fs cl na⟩
end
end Mi

set_option Elab.async false
set_option linter.all false
set_option maxRecDepth 100000
set_option maxHeartbeats 4000000
namespace K52
open PySem PySem.Spec PyProof.Rows L2 Mi
def topS (i : Nat) : Stmt := PySem.Challenge.pw_comesback_k52_what_is_asked.main.body.getD i (.Pass ⟨0, 0, 0, 0⟩)
def clsS (i j : Nat) : Stmt := match topS i with
  | .ClassDef _ _ _ body _ _ _ _ _ _ _ => body.getD j (.Pass ⟨0, 0, 0, 0⟩)
  | s => s
def b160 : CSs :=
  (.cons (.ret (.and (.blt (.isi .int) (.cons (.var 0) .nil)) (.and (.not (.blt (.isi .bool) (.cons (.var 0) .nil))) (.chn .le .le (.var 1) (.var 0) (.var 2))))) .nil)
def d160 : DefI := ⟨"is_number", (topS 14), ["thing", "low", "high"], ["thing", "low", "high"], 160, ⟨[], false, []⟩, true, b160, none, "is_number"⟩
def b161 : CSs :=
  (.cons (.ife (.or (.cmp .eq (.var 1) (.cst (.int 0))) (.or (.not (.blt (.isi .tuple) (.cons (.var 0) .nil))) (.cmp .ne (.blt .len (.cons (.var 0) .nil)) (.cst (.int 4))))) (.cons (.ret (.cst (.bool false))) .nil) .nil) (.cons (.asg (.tp [2, 3, 4, 5]) (.var 0)) (.cons (.ife (.or (.not (.call 160 (.cons (.var 2) (.cons (.cst (.int 0)) (.cons (.cst (.int 3)) .nil))))) (.not (.call 160 (.cons (.var 3) (.cons (.cst (.int 1)) (.cons (.cst (.int 3)) .nil)))))) (.cons (.ret (.cst (.bool false))) .nil) .nil) (.cons (.ife (.or (.not (.blt (.isi .str) (.cons (.var 4) .nil))) (.cmp .notin (.var 4) (.tup (.cons (.cst (.str (Str.ofString "all"))) (.cons (.cst (.str (Str.ofString "any"))) .nil))))) (.cons (.ret (.cst (.bool false))) .nil) .nil) (.cons (.ife (.or (.not (.blt (.isi .tuple) (.cons (.var 5) .nil))) (.cmp .gt (.blt .len (.cons (.var 5) .nil)) (.cst (.int 3)))) (.cons (.ret (.cst (.bool false))) .nil) .nil) (.cons (.ret (.blt .all (.cons (.comp false [6] (.nm 6) (.seq (.var 5)) .no (.call 161 (.cons (.var 6) (.cons (.bin .sub false (.var 1) (.cst (.int 1))) .nil)))) .nil))) .nil))))))
def d161 : DefI := ⟨"is_call", (topS 15), ["thing", "deep", "service", "tries", "mode", "parts", "part"], ["thing", "deep"], 161, ⟨[], false, []⟩, true, b161, none, "is_call"⟩
def b162 : CSs :=
  (.cons (.ret (.bin .add false (.cst (.int 1)) (.blt .sum (.cons (.comp false [1] (.nm 1) (.seq (.idx (.var 0) (.cst (.int 3)))) .no (.call 162 (.cons (.var 1) .nil))) .nil)))) .nil)
def d162 : DefI := ⟨"count_calls", (topS 16), ["call", "part"], ["call"], 162, ⟨[], false, []⟩, true, b162, none, "count_calls"⟩
def b163 : CSs :=
  (.cons (.ret (.and (.call 161 (.cons (.var 0) (.cons (.cst (.int 4)) .nil))) (.cmp .le (.call 162 (.cons (.var 0) .nil)) (.cst (.int 12))))) .nil)
def d163 : DefI := ⟨"is_tree", (topS 17), ["thing"], ["thing"], 163, ⟨[], false, []⟩, true, b163, none, "is_tree"⟩
def b164 : CSs :=
  (.cons (.ife (.not (.call 163 (.cons (.var 0) .nil))) (.cons .never .nil) .nil) .nil)
def d164 : DefI := ⟨"need_tree", (topS 18), ["tree"], ["tree"], 164, ⟨[], false, []⟩, true, b164, none, "need_tree"⟩
def b165 : CSs :=
  (.cons (.ife (.or (.not (.blt (.isi .tuple) (.cons (.var 0) .nil))) (.cmp .ne (.blt .len (.cons (.var 0) .nil)) (.cst (.int 2)))) (.cons (.ret (.cst (.bool false))) .nil) .nil) (.cons (.ret (.and (.or (.cmp .is (.idx (.var 0) (.cst (.int 0))) (.cst .none)) (.call 160 (.cons (.idx (.var 0) (.cst (.int 0))) (.cons (.cst (.int 0)) (.cons (.cst (.int 4)) .nil))))) (.blt (.isi .bool) (.cons (.idx (.var 0) (.cst (.int 1))) .nil)))) .nil))
def d165 : DefI := ⟨"is_plan", (topS 19), ["thing"], ["thing"], 165, ⟨[], false, []⟩, true, b165, none, "is_plan"⟩
def b166 : CSs :=
  (.cons (.ife (.not (.call 165 (.cons (.var 0) .nil))) (.cons .never .nil) .nil) .nil)
def d166 : DefI := ⟨"need_plan", (topS 20), ["plan"], ["plan"], 166, ⟨[], false, []⟩, true, b166, none, "need_plan"⟩
def b167 : CSs :=
  (.cons (.ife (.not (.blt (.isi .tuple) (.cons (.var 0) .nil))) (.cons (.ret (.cst (.bool false))) .nil) .nil) (.cons (.ife (.not (.blt .all (.cons (.comp false [1] (.nm 1) (.seq (.var 0)) .no (.and (.blt (.isi .int) (.cons (.var 1) .nil)) (.and (.not (.blt (.isi .bool) (.cons (.var 1) .nil))) (.cmp .ge (.var 1) (.cst (.int 0)))))) .nil))) (.cons (.ret (.cst (.bool false))) .nil) .nil) (.cons (.ret (.blt .all (.cons (.comp false [1, 2] (.tp [1, 2]) (.zip (.var 0) (.slc false (.var 0) (.yes (.cst (.int 1))) .no)) .no (.cmp .lt (.var 1) (.var 2))) .nil))) .nil)))
def d167 : DefI := ⟨"is_fails", (topS 21), ["thing", "one", "other"], ["thing"], 167, ⟨[], false, []⟩, true, b167, none, "is_fails"⟩
def b210 : CSs :=
  (.cons (.asg (.tp [2, 3, 4, 5]) (.var 1)) (.cons (.ife (.and (.fld 0 "keeps" (.var 0)) (.cmp .isin (.var 2) (.fld 0 "kept" (.var 0)))) (.cons (.ret (.cst (.bool true))) .nil) .nil) (.cons (.loop (.nm 6) (.rng (.var 3)) (.cons (.ife (.and (.cmp .gt (.var 6) (.cst (.int 0))) (.not (.mcl 0 "take" 211 (.var 0) .nil))) (.cons (.ret (.cst (.bool false))) .nil) .nil) (.cons (.ife (.mcl 0 "attempt" 212 (.var 0) (.cons (.var 1) .nil)) (.cons (.sub (.fld 0 "kept" (.var 0)) (.var 2) (.cst (.bool true))) (.cons (.ret (.cst (.bool true))) .nil)) .nil) .nil))) (.cons (.ret (.cst (.bool false))) .nil))))
def d210 : DefI := ⟨"call", (clsS 22 1), ["self", "call", "service", "tries", "mode", "parts", "number"], ["self", "call"], 210, ⟨[], false, []⟩, true, b210, some 0, "Run.call"⟩
def b211 : CSs :=
  (.cons (.ife (.cmp .is (.fld 0 "left" (.var 0)) (.cst .none)) (.cons (.ret (.cst (.bool true))) .nil) .nil) (.cons (.ife (.cmp .eq (.fld 0 "left" (.var 0)) (.cst (.int 0))) (.cons (.ret (.cst (.bool false))) .nil) .nil) (.cons (.sfl 0 "left" (.var 0) (.bin .sub false (.fld 0 "left" (.var 0)) (.cst (.int 1)))) (.cons (.ret (.cst (.bool true))) .nil))))
def d211 : DefI := ⟨"take", (clsS 22 2), ["self"], ["self"], 211, ⟨[], false, []⟩, true, b211, some 0, "Run.take"⟩
def b212 : CSs :=
  (.cons (.expr (.mth .append (.fld 0 "asks" (.var 0)) (.cons (.idx (.var 1) (.cst (.int 0))) .nil))) (.cons (.ret (.and (.mcl 0 "parts_let" 213 (.var 0) (.cons (.var 1) .nil)) (.mcl 0 "decide" 214 (.var 0) (.cons (.idx (.var 1) (.cst (.int 0))) .nil)))) .nil))
def d212 : DefI := ⟨"attempt", (clsS 22 3), ["self", "call"], ["self", "call"], 212, ⟨[], false, []⟩, true, b212, some 0, "Run.attempt"⟩
def b213 : CSs :=
  (.cons (.asg (.nm 2) (.cmp .eq (.idx (.var 1) (.cst (.int 2))) (.cst (.str (Str.ofString "any"))))) (.cons (.loop (.nm 3) (.seq (.idx (.var 1) (.cst (.int 3)))) (.cons (.ife (.cmp .eq (.mcl 0 "call" 210 (.var 0) (.cons (.var 3) .nil)) (.var 2)) (.cons (.ret (.var 2)) .nil) .nil) .nil)) (.cons (.ret (.or (.not (.var 2)) (.cmp .eq (.idx (.var 1) (.cst (.int 3))) (.tup .nil)))) .nil)))
def d213 : DefI := ⟨"parts_let", (clsS 22 4), ["self", "call", "wanted", "part"], ["self", "call"], 213, ⟨[], false, []⟩, true, b213, some 0, "Run.parts_let"⟩
def b214 : CSs :=
  (.cons (.expr (.mth .append (.fld 0 "deciders" (.var 0)) (.cons (.var 1) .nil))) (.cons (.ret (.cmp .notin (.bin .sub false (.blt .len (.cons (.fld 0 "deciders" (.var 0)) .nil)) (.cst (.int 1))) (.fld 0 "fails" (.var 0)))) .nil))
def d214 : DefI := ⟨"decide", (clsS 22 5), ["self", "service"], ["self", "service"], 214, ⟨[], false, []⟩, true, b214, some 0, "Run.decide"⟩
def b171 : CSs :=
  (.cons (.expr (.call 164 (.cons (.var 0) .nil))) (.cons (.expr (.call 166 (.cons (.var 1) .nil))) (.cons (.ife (.not (.call 167 (.cons (.var 2) .nil))) (.cons .never .nil) .nil) (.cons (.asg (.nm 3) (.mk 0 0 (.cons (.var 1) (.cons (.var 2) .nil)))) (.cons (.asg (.nm 4) (.mcl 0 "call" 210 (.var 3) (.cons (.var 0) .nil))) (.cons (.ret (.tup (.cons (.var 4) (.cons (.blt .tuple (.cons (.fld 0 "asks" (.var 3)) .nil)) .nil)))) .nil))))))
def d171 : DefI := ⟨"ran", (topS 23), ["tree", "plan", "fails", "run", "answered"], ["tree", "plan", "fails"], 171, ⟨[], false, []⟩, true, b171, none, "ran"⟩
def b3 : CSs :=
  (.cons (.ife (.cmp .lt (.var 1) (.blt .len (.cons (.var 0) .nil))) (.cons (.ret (.idx (.var 0) (.var 1))) .nil) .nil) (.cons (.ret (.cst (.int 0))) .nil))
def d3 : DefI := ⟨"_law_cell_at", (topS 25), ["_law_script", "_law_k"], ["_law_script", "_law_k"], 3, ⟨[], false, []⟩, true, b3, none, "_law_cell_at"⟩
def b4 : CSs :=
  (.cons (.ret (.lst true (.cons (.blt .max (.cons (.cst (.int 0)) (.cons (.bin .sub false (.var 0) (.bin .pow false (.cst (.int 10)) (.cst (.int 18)))) .nil))) (.cons (.bin .mod false (.var 0) (.cst (.int 1000000007))) (.cons (.cst (.int 0)) .nil))))) .nil)
def d4 : DefI := ⟨"_law_pen", (topS 26), ["_law_cell"], ["_law_cell"], 4, ⟨[], true, []⟩, false, b4, none, "_law_pen"⟩
def b5 : CSs :=
  (.cons (.ife (.cmp .gt (.idx (.var 0) (.cst (.int 0))) (.cst (.int 0))) (.cons (.asg (.nm 2) (.bin .mod false (.idx (.var 0) (.cst (.int 0))) (.var 1))) (.cons (.sub (.var 0) (.cst (.int 0)) (.bin .fdiv false (.idx (.var 0) (.cst (.int 0))) (.var 1))) (.cons (.ret (.var 2)) .nil))) .nil) (.cons (.sub (.var 0) (.cst (.int 2)) (.bin .add false (.idx (.var 0) (.cst (.int 2))) (.cst (.int 1)))) (.cons (.asg (.nm 3) (.bin .mod false (.bin .mul false (.bin .add false (.idx (.var 0) (.cst (.int 1))) (.bin .mul false (.cst (.int 17)) (.idx (.var 0) (.cst (.int 2))))) (.bin .add false (.cst (.int 69621)) (.bin .mul false (.cst (.int 2)) (.idx (.var 0) (.cst (.int 2)))))) (.cst (.int 2147483647)))) (.cons (.asg (.nm 3) (.bin .mod false (.bin .add false (.bin .add false (.bin .mul false (.var 3) (.var 3)) (.bin .mul false (.cst (.int 40503)) (.idx (.var 0) (.cst (.int 2))))) (.cst (.int 5))) (.cst (.int 2147483629)))) (.cons (.ret (.bin .mod false (.bin .fdiv false (.bin .mod false (.bin .mul false (.var 3) (.cst (.int 48271))) (.cst (.int 2147483647))) (.cst (.int 32))) (.var 1))) .nil)))))
def d5 : DefI := ⟨"_law_draw", (topS 27), ["_law_pen_here", "_law_many", "_law_digit", "_law_stir"], ["_law_pen_here", "_law_many"], 5, ⟨[], false, []⟩, true, b5, none, "_law_draw"⟩
def b6 : CSs :=
  (.cons (.ret (.idx (.var 1) (.call 5 (.cons (.var 0) (.cons (.blt .len (.cons (.var 1) .nil)) .nil))))) .nil)
def d6 : DefI := ⟨"_law_pick", (topS 28), ["_law_pen_here", "_law_things"], ["_law_pen_here", "_law_things"], 6, ⟨[], false, []⟩, true, b6, none, "_law_pick"⟩
def b7 : CSs :=
  (.cons (.ret (.cmp .eq (.blt .repr (.cons (.var 0) .nil)) (.blt .repr (.cons (.var 1) .nil)))) .nil)
def d7 : DefI := ⟨"_law_same", (topS 29), ["_law_found", "_law_due"], ["_law_found", "_law_due"], 7, ⟨[], false, []⟩, true, b7, none, "_law_same"⟩
def b203 : CSs :=
  (.cons (.sub (.var 2) (.cst (.int 0)) (.bin .sub false (.idx (.var 2) (.cst (.int 0))) (.cst (.int 1)))) (.cons (.par [3, 4, 5] (.cons (.call 5 (.cons (.var 0) (.cons (.cst (.int 4)) .nil))) (.cons (.bin .add false (.cst (.int 1)) (.call 5 (.cons (.var 0) (.cons (.cst (.int 3)) .nil)))) (.cons (.call 6 (.cons (.var 0) (.cons (.lst false (.cons (.cst (.str (Str.ofString "all"))) (.cons (.cst (.str (Str.ofString "all"))) (.cons (.cst (.str (Str.ofString "any"))) .nil)))) .nil))) .nil)))) (.cons (.par [6, 7] (.cons (.cst (.int 0)) (.cons (.tup .nil) .nil))) (.cons (.ife (.cmp .gt (.var 1) (.cst (.int 1))) (.cons (.asg (.nm 6) (.call 5 (.cons (.var 0) (.cons (.cst (.int 4)) .nil)))) .nil) .nil) (.cons (.loop (.nm 8) (.rng (.var 6)) (.cons (.ife (.cmp .gt (.idx (.var 2) (.cst (.int 0))) (.cst (.int 0))) (.cons (.asg (.nm 7) (.bin .add false (.var 7) (.tup (.cons (.call 203 (.cons (.var 0) (.cons (.bin .sub true (.var 1) (.cst (.int 1))) (.cons (.var 2) .nil)))) .nil)))) .nil) .nil) .nil)) (.cons (.ret (.tup (.cons (.var 3) (.cons (.var 4) (.cons (.var 5) (.cons (.var 7) .nil)))))) .nil))))))
def d203 : DefI := ⟨"_law_call", (topS 30), ["_law_pen_here", "_law_deep", "_law_room", "_law_service", "_law_tries", "_law_mode", "_law_many", "_law_parts", "_law_turn"], ["_law_pen_here", "_law_deep", "_law_room"], 203, ⟨[], false, []⟩, true, b203, none, "_law_call"⟩
def b204 : CSs :=
  (.cons (.ret (.call 203 (.cons (.var 0) (.cons (.var 1) (.cons (.lst true (.cons (.var 2) .nil)) .nil))))) .nil)
def d204 : DefI := ⟨"_law_tree", (topS 31), ["_law_pen_here", "_law_deep", "_law_most"], ["_law_pen_here", "_law_deep", "_law_most"], 204, ⟨[], false, []⟩, true, b204, none, "_law_tree"⟩
def b205 : CSs :=
  (.cons (.ife (.and (.idx (.var 1) (.cst (.int 1))) (.cmp .isin (.idx (.var 0) (.cst (.int 0))) (.idx (.var 3) (.cst (.int 1))))) (.cons (.ret (.cst (.bool true))) .nil) .nil) (.cons (.loop (.nm 4) (.rng (.idx (.var 0) (.cst (.int 1)))) (.cons (.ife (.and (.cmp .gt (.var 4) (.cst (.int 0))) (.cmp .eq (.idx (.var 3) (.cst (.int 0))) (.cst (.int 0)))) (.cons (.ret (.cst (.bool false))) .nil) .nil) (.cons (.ife (.and (.cmp .gt (.var 4) (.cst (.int 0))) (.cmp .isnot (.idx (.var 3) (.cst (.int 0))) (.cst .none))) (.cons (.sub (.var 3) (.cst (.int 0)) (.bin .sub false (.idx (.var 3) (.cst (.int 0))) (.cst (.int 1)))) .nil) .nil) (.cons (.ife (.call 206 (.cons (.var 0) (.cons (.var 1) (.cons (.var 2) (.cons (.var 3) .nil))))) (.cons (.expr (.mth .append (.idx (.var 3) (.cst (.int 1))) (.cons (.idx (.var 0) (.cst (.int 0))) .nil))) (.cons (.ret (.cst (.bool true))) .nil)) .nil) .nil)))) (.cons (.ret (.cst (.bool false))) .nil)))
def d205 : DefI := ⟨"_law_asked", (topS 32), ["_law_call_here", "_law_plan_here", "_law_fails_here", "_law_hand", "_law_turn"], ["_law_call_here", "_law_plan_here", "_law_fails_here", "_law_hand"], 205, ⟨[], false, []⟩, true, b205, none, "_law_asked"⟩
def b206 : CSs :=
  (.cons (.expr (.mth .append (.idx (.var 3) (.cst (.int 2))) (.cons (.idx (.var 0) (.cst (.int 0))) .nil))) (.cons (.par [4, 5] (.cons (.lst true .nil) (.cons (.cst (.int 0)) .nil))) (.cons (.whl (.and (.cmp .lt (.var 5) (.blt .len (.cons (.idx (.var 0) (.cst (.int 3))) .nil))) (.or (.cmp .eq (.var 4) (.lst false .nil)) (.cmp .ne (.idx (.var 4) (.neg (.cst (.int 1)))) (.cmp .eq (.idx (.var 0) (.cst (.int 2))) (.cst (.str (Str.ofString "any"))))))) (.cons (.expr (.mth .append (.var 4) (.cons (.call 205 (.cons (.idx (.idx (.var 0) (.cst (.int 3))) (.var 5)) (.cons (.var 1) (.cons (.var 2) (.cons (.var 3) .nil))))) .nil))) (.cons (.asg (.nm 5) (.bin .add false (.var 5) (.cst (.int 1)))) .nil))) (.cons (.ife (.and (.cmp .ne (.var 4) (.lst false .nil)) (.not (.idx (.var 4) (.neg (.cst (.int 1)))))) (.cons (.ret (.cst (.bool false))) .nil) .nil) (.cons (.expr (.mth .append (.idx (.var 3) (.cst (.int 3))) (.cons (.idx (.var 0) (.cst (.int 0))) .nil))) (.cons (.ret (.cmp .notin (.bin .sub false (.blt .len (.cons (.idx (.var 3) (.cst (.int 3))) .nil)) (.cst (.int 1))) (.var 2))) .nil))))))
def d206 : DefI := ⟨"_law_tried", (topS 33), ["_law_call_here", "_law_plan_here", "_law_fails_here", "_law_hand", "_law_told", "_law_at"], ["_law_call_here", "_law_plan_here", "_law_fails_here", "_law_hand"], 206, ⟨["_law_told"], false, []⟩, true, b206, none, "_law_tried"⟩
def b207 : CSs :=
  (.cons (.asg (.nm 3) (.box (.idx (.var 1) (.cst (.int 0))) 3)) (.cons (.asg (.nm 4) (.call 205 (.cons (.var 0) (.cons (.var 1) (.cons (.var 2) (.cons (.var 3) .nil)))))) (.cons (.ret (.tup (.cons (.var 4) (.cons (.blt .tuple (.cons (.idx (.var 3) (.cst (.int 2))) .nil)) (.cons (.blt .tuple (.cons (.idx (.var 3) (.cst (.int 3))) .nil)) .nil))))) .nil)))
def d207 : DefI := ⟨"_law_played", (topS 34), ["_law_tree_here", "_law_plan_here", "_law_fails_here", "_law_hand", "_law_is_good"], ["_law_tree_here", "_law_plan_here", "_law_fails_here"], 207, ⟨[], false, []⟩, true, b207, none, "_law_played"⟩
def b208 : CSs :=
  (.cons (.ret (.tup (.cons (.call 6 (.cons (.var 0) (.cons (.lst false (.cons (.cst .none) (.cons (.cst .none) (.cons (.cst (.int 0)) (.cons (.cst (.int 1)) (.cons (.cst (.int 2)) (.cons (.cst (.int 3)) (.cons (.cst (.int 4)) .nil)))))))) .nil))) (.cons (.cmp .eq (.call 5 (.cons (.var 0) (.cons (.cst (.int 2)) .nil))) (.cst (.int 0))) .nil)))) .nil)
def d208 : DefI := ⟨"_law_plan", (topS 35), ["_law_pen_here"], ["_law_pen_here"], 208, ⟨[], false, []⟩, true, b208, none, "_law_plan"⟩
def b209 : CSs :=
  (.cons (.asg (.nm 2) (.bin .add false (.cst (.int 1)) (.call 5 (.cons (.var 0) (.cons (.cst (.int 5)) .nil))))) (.cons (.ret (.blt .tuple (.cons (.comp false [3] (.nm 3) (.rng (.var 1)) (.yes (.cmp .eq (.call 5 (.cons (.var 0) (.cons (.var 2) .nil))) (.cst (.int 0)))) (.var 3)) .nil))) .nil))
def d209 : DefI := ⟨"_law_fails", (topS 36), ["_law_pen_here", "_law_most", "_law_often", "_law_number"], ["_law_pen_here", "_law_most"], 209, ⟨[], false, []⟩, true, b209, none, "_law_fails"⟩
def b11 : CSs :=
  (.cons (.par [3, 4] (.cons (.blt .repr (.cons (.tup (.cons (.var 0) (.cons (.var 1) (.cons (.var 2) .nil)))) .nil)) (.cons (.slc false (.call 207 (.cons (.var 0) (.cons (.var 1) (.cons (.var 2) .nil)))) .no (.yes (.cst (.int 2)))) .nil))) (.cons (.asg (.nm 5) (.lst false (.cons (.call 171 (.cons (.var 0) (.cons (.var 1) (.cons (.var 2) .nil)))) (.cons (.call 171 (.cons (.var 0) (.cons (.var 1) (.cons (.var 2) .nil)))) .nil)))) (.cons (.ret (.and (.call 7 (.cons (.var 5) (.cons (.lst false (.cons (.var 4) (.cons (.var 4) .nil))) .nil))) (.cmp .eq (.blt .repr (.cons (.tup (.cons (.var 0) (.cons (.var 1) (.cons (.var 2) .nil)))) .nil)) (.var 3)))) .nil)))
def d11 : DefI := ⟨"_law_right", (topS 37), ["_law_tree_here", "_law_plan_here", "_law_fails_here", "_law_held", "_law_due", "_law_told"], ["_law_tree_here", "_law_plan_here", "_law_fails_here"], 11, ⟨[], false, []⟩, true, b11, none, "_law_right"⟩
def b12 : CSs :=
  (.cons (.loop (.nm 1) (.rng (.blt .max (.cons (.cst (.int 1)) (.cons (.blt .min (.cons (.blt .len (.cons (.var 0) .nil)) (.cons (.cst (.int 4)) .nil))) .nil)))) (.cons (.asg (.nm 2) (.call 4 (.cons (.call 3 (.cons (.var 0) (.cons (.var 1) .nil))) .nil))) (.cons (.loop (.nm 3) (.rng (.cst (.int 5))) (.cons (.asg (.nm 4) (.call 204 (.cons (.var 2) (.cons (.bin .add false (.cst (.int 1)) (.call 5 (.cons (.var 2) (.cons (.cst (.int 4)) .nil)))) (.cons (.cst (.int 12)) .nil))))) (.cons (.loop (.nm 5) (.rng (.cst (.int 5))) (.cons (.par [6, 7] (.cons (.call 208 (.cons (.var 2) .nil)) (.cons (.call 209 (.cons (.var 2) (.cons (.idx (.lst false (.cons (.cst (.int 6)) (.cons (.cst (.int 20)) (.cons (.cst (.int 60)) (.cons (.cst (.int 300)) (.cons (.cst (.int 3)) .nil)))))) (.var 5)) .nil))) .nil))) (.cons (.ife (.or (.not (.call 11 (.cons (.var 4) (.cons (.var 6) (.cons (.var 7) .nil))))) (.not (.call 11 (.cons (.var 4) (.cons (.var 6) (.cons (.bin .add false (.var 7) (.tup (.cons (.cst (.int 1000)) (.cons (.bin .pow false (.cst (.int 10)) (.cst (.int 11))) .nil)))) .nil)))))) (.cons (.ret (.cst (.bool false))) .nil) .nil) .nil))) (.cons (.ife (.or (.not (.call 11 (.cons (.var 4) (.cons (.tup (.cons (.cst .none) (.cons (.cst (.bool false)) .nil))) (.cons (.nat 8 (.cons (.cst (.int 700)) .nil)) .nil))))) (.not (.call 11 (.cons (.var 4) (.cons (.call 208 (.cons (.var 2) .nil)) (.cons (.tup .nil) .nil)))))) (.cons (.ret (.cst (.bool false))) .nil) .nil) .nil)))) .nil))) (.cons (.ret (.cst (.bool true))) .nil))
def d12 : DefI := ⟨"law", (topS 38), ["_law_script", "_law_k", "_law_pen_here", "_law_lap", "_law_tree_here", "_law_turn", "_law_plan_here", "_law_fails_here"], ["_law_script"], 12, ⟨[], false, []⟩, true, b12, none, "law"⟩
def defs : List DefI := [d160, d161, d162, d163, d164, d165, d166, d167, d210, d211, d212, d213, d214, d171, d3, d4, d5, d6, d7, d203, d204, d205, d206, d207, d208, d209, d11, d12]
def T : Gt := ⟨[(Str.ofString "is_number", (160, 3)), (Str.ofString "is_call", (161, 2)), (Str.ofString "count_calls", (162, 1)), (Str.ofString "is_tree", (163, 1)), (Str.ofString "need_tree", (164, 1)), (Str.ofString "is_plan", (165, 1)), (Str.ofString "need_plan", (166, 1)), (Str.ofString "is_fails", (167, 1)), (Str.ofString "ran", (171, 3)), (Str.ofString "_law_cell_at", (3, 2)), (Str.ofString "_law_pen", (4, 1)), (Str.ofString "_law_draw", (5, 2)), (Str.ofString "_law_pick", (6, 2)), (Str.ofString "_law_same", (7, 2)), (Str.ofString "_law_call", (203, 3)), (Str.ofString "_law_tree", (204, 3)), (Str.ofString "_law_asked", (205, 4)), (Str.ofString "_law_tried", (206, 4)), (Str.ofString "_law_played", (207, 3)), (Str.ofString "_law_plan", (208, 1)), (Str.ofString "_law_fails", (209, 2)), (Str.ofString "_law_right", (11, 3)), (Str.ofString "law", (12, 1))], [("MOST_SERVICE", (.int 3)), ("MOST_TRIES", (.int 3)), ("MOST_PARTS", (.int 3)), ("MOST_CALLS", (.int 12)), ("MOST_DEEP", (.int 4)), ("MOST_BUDGET", (.int 4)), ("ALL", (.str (Str.ofString "all"))), ("ANY", (.str (Str.ofString "any")))], ["isinstance", "len", "min", "max", "sum", "all", "tuple", "repr", "str", "range", "zip", "int", "bool"], [], [], [⟨0, ["left", "keeps", "fails", "kept", "asks", "deciders"], [("call", (210, 2)), ("take", (211, 1)), ("attempt", (212, 2)), ("parts_let", (213, 2)), ("decide", (214, 2))], some (0, 2)⟩], true, ["_law_call"]⟩
def Tb : Nat → Option FD
  | 3 => some ⟨2, 2, true, b3⟩
  | 4 => some ⟨1, 1, false, b4⟩
  | 5 => some ⟨2, 4, true, b5⟩
  | 6 => some ⟨2, 2, true, b6⟩
  | 7 => some ⟨2, 2, true, b7⟩
  | 11 => some ⟨3, 6, true, b11⟩
  | 12 => some ⟨1, 8, true, b12⟩
  | 160 => some ⟨3, 3, true, b160⟩
  | 161 => some ⟨2, 7, true, b161⟩
  | 162 => some ⟨1, 2, true, b162⟩
  | 163 => some ⟨1, 1, true, b163⟩
  | 164 => some ⟨1, 1, true, b164⟩
  | 165 => some ⟨1, 1, true, b165⟩
  | 166 => some ⟨1, 1, true, b166⟩
  | 167 => some ⟨1, 3, true, b167⟩
  | 171 => some ⟨3, 5, true, b171⟩
  | 203 => some ⟨3, 9, true, b203⟩
  | 204 => some ⟨3, 3, true, b204⟩
  | 205 => some ⟨4, 5, true, b205⟩
  | 206 => some ⟨4, 6, true, b206⟩
  | 207 => some ⟨3, 5, true, b207⟩
  | 208 => some ⟨1, 1, true, b208⟩
  | 209 => some ⟨2, 4, true, b209⟩
  | 210 => some ⟨2, 7, true, b210⟩
  | 211 => some ⟨1, 1, true, b211⟩
  | 212 => some ⟨2, 2, true, b212⟩
  | 213 => some ⟨2, 4, true, b213⟩
  | 214 => some ⟨2, 2, true, b214⟩
  | _ => none
-- never: need_tree:38 Raise
-- never: need_plan:45 Raise
-- never: ran:99 Raise
end K52

set_option Elab.async false
set_option linter.all false
set_option maxRecDepth 100000
set_option maxHeartbeats 4000000
namespace K52
open PySem PySem.Spec PyProof.Rows L2 Mi
theorem lawI : LawI T Tb defs where
  ids := ids_of (defs := defs) rfl
  ms := ms_of (by decide +kernel)
  tb := (all_cons rfl (all_cons rfl (all_cons rfl (all_cons rfl (all_cons rfl (all_cons rfl (all_cons rfl (all_cons rfl (all_cons rfl (all_cons rfl (all_cons rfl (all_cons rfl (all_cons rfl (all_cons rfl (all_cons rfl (all_cons rfl (all_cons rfl (all_cons rfl (all_cons rfl (all_cons rfl (all_cons rfl (all_cons rfl (all_cons rfl (all_cons rfl (all_cons rfl (all_cons rfl (all_cons rfl (all_cons rfl all_nil))))))))))))))))))))))))))))
  sc := (all_cons (scope_of (by decide +kernel)) (all_cons (scope_of (by decide +kernel)) (all_cons (scope_of (by decide +kernel)) (all_cons (scope_of (by decide +kernel)) (all_cons (scope_of (by decide +kernel)) (all_cons (scope_of (by decide +kernel)) (all_cons (scope_of (by decide +kernel)) (all_cons (scope_of (by decide +kernel)) (all_cons (scope_of (by decide +kernel)) (all_cons (scope_of (by decide +kernel)) (all_cons (scope_of (by decide +kernel)) (all_cons (scope_of (by decide +kernel)) (all_cons (scope_of (by decide +kernel)) (all_cons (scope_of (by decide +kernel)) (all_cons (scope_of (by decide +kernel)) (all_cons (scope_of (by decide +kernel)) (all_cons (scope_of (by decide +kernel)) (all_cons (scope_of (by decide +kernel)) (all_cons (scope_of (by decide +kernel)) (all_cons (scope_of (by decide +kernel)) (all_cons (scope_of (by decide +kernel)) (all_cons (scope_of (by decide +kernel)) (all_cons (scope_of (by decide +kernel)) (all_cons (scope_of (by decide +kernel)) (all_cons (scope_of (by decide +kernel)) (all_cons (scope_of (by decide +kernel)) (all_cons (scope_of (by decide +kernel)) (all_cons (scope_of (by decide +kernel)) all_nil))))))))))))))))))))))))))))
  cp := (all_cons (by kernel_rfl) (all_cons (by kernel_rfl) (all_cons (by kernel_rfl) (all_cons (by kernel_rfl) (all_cons (by kernel_rfl) (all_cons (by kernel_rfl) (all_cons (by kernel_rfl) (all_cons (by kernel_rfl) (all_cons (by kernel_rfl) (all_cons (by kernel_rfl) (all_cons (by kernel_rfl) (all_cons (by kernel_rfl) (all_cons (by kernel_rfl) (all_cons (by kernel_rfl) (all_cons (by kernel_rfl) (all_cons (by kernel_rfl) (all_cons (by kernel_rfl) (all_cons (by kernel_rfl) (all_cons (by kernel_rfl) (all_cons (by kernel_rfl) (all_cons (by kernel_rfl) (all_cons (by kernel_rfl) (all_cons (by kernel_rfl) (all_cons (by kernel_rfl) (all_cons (by kernel_rfl) (all_cons (by kernel_rfl) (all_cons (by kernel_rfl) (all_cons (by kernel_rfl) all_nil))))))))))))))))))))))))))))
theorem initB0 : InitBody (defScope (clsS 22 0)) (defBody (clsS 22 0)) := .mk (by decide +kernel) (by decide +kernel) (by decide +kernel) (by decide +kernel) (by decide +kernel) (by decide +kernel) (by decide +kernel)
theorem globs {K : Kf} {h : Heap} {mg : Str → Option Value} (X : K.In h) (G : h.Ns mainGlobals mg)
    {ts : List Addr} (chk : chkB ([] : List Str) ts K = true)
    {f0 : Addr} {od0 an0 : Option Addr} {sl0 : Array (Option Value)} {oc0 kV0 dc0 pm0 cd0 ct0 : Value}
    (a0 : PySem.W.nsIn K mainGlobals "is_number" = some (some (.ref f0))) (l0 : K.lookup f0 = some ⟨oc0, od0, .func (PySem.W.fnOf "is_number" "is_number" (defArgs (topS 14)) (defBody (topS 14)) (defScope (topS 14)) .none kV0 dc0 pm0 an0 cd0 ct0), sl0⟩) (c0 : PySem.W.codeIn K cd0 "is_number" = true) (k0 : PySem.W.keepIn K (.ref f0) = true)
    {f1 : Addr} {od1 an1 : Option Addr} {sl1 : Array (Option Value)} {oc1 kV1 dc1 pm1 cd1 ct1 : Value}
    (a1 : PySem.W.nsIn K mainGlobals "is_call" = some (some (.ref f1))) (l1 : K.lookup f1 = some ⟨oc1, od1, .func (PySem.W.fnOf "is_call" "is_call" (defArgs (topS 15)) (defBody (topS 15)) (defScope (topS 15)) .none kV1 dc1 pm1 an1 cd1 ct1), sl1⟩) (c1 : PySem.W.codeIn K cd1 "is_call" = true) (k1 : PySem.W.keepIn K (.ref f1) = true)
    {f2 : Addr} {od2 an2 : Option Addr} {sl2 : Array (Option Value)} {oc2 kV2 dc2 pm2 cd2 ct2 : Value}
    (a2 : PySem.W.nsIn K mainGlobals "count_calls" = some (some (.ref f2))) (l2 : K.lookup f2 = some ⟨oc2, od2, .func (PySem.W.fnOf "count_calls" "count_calls" (defArgs (topS 16)) (defBody (topS 16)) (defScope (topS 16)) .none kV2 dc2 pm2 an2 cd2 ct2), sl2⟩) (c2 : PySem.W.codeIn K cd2 "count_calls" = true) (k2 : PySem.W.keepIn K (.ref f2) = true)
    {f3 : Addr} {od3 an3 : Option Addr} {sl3 : Array (Option Value)} {oc3 kV3 dc3 pm3 cd3 ct3 : Value}
    (a3 : PySem.W.nsIn K mainGlobals "is_tree" = some (some (.ref f3))) (l3 : K.lookup f3 = some ⟨oc3, od3, .func (PySem.W.fnOf "is_tree" "is_tree" (defArgs (topS 17)) (defBody (topS 17)) (defScope (topS 17)) .none kV3 dc3 pm3 an3 cd3 ct3), sl3⟩) (c3 : PySem.W.codeIn K cd3 "is_tree" = true) (k3 : PySem.W.keepIn K (.ref f3) = true)
    {f4 : Addr} {od4 an4 : Option Addr} {sl4 : Array (Option Value)} {oc4 kV4 dc4 pm4 cd4 ct4 : Value}
    (a4 : PySem.W.nsIn K mainGlobals "need_tree" = some (some (.ref f4))) (l4 : K.lookup f4 = some ⟨oc4, od4, .func (PySem.W.fnOf "need_tree" "need_tree" (defArgs (topS 18)) (defBody (topS 18)) (defScope (topS 18)) .none kV4 dc4 pm4 an4 cd4 ct4), sl4⟩) (c4 : PySem.W.codeIn K cd4 "need_tree" = true) (k4 : PySem.W.keepIn K (.ref f4) = true)
    {f5 : Addr} {od5 an5 : Option Addr} {sl5 : Array (Option Value)} {oc5 kV5 dc5 pm5 cd5 ct5 : Value}
    (a5 : PySem.W.nsIn K mainGlobals "is_plan" = some (some (.ref f5))) (l5 : K.lookup f5 = some ⟨oc5, od5, .func (PySem.W.fnOf "is_plan" "is_plan" (defArgs (topS 19)) (defBody (topS 19)) (defScope (topS 19)) .none kV5 dc5 pm5 an5 cd5 ct5), sl5⟩) (c5 : PySem.W.codeIn K cd5 "is_plan" = true) (k5 : PySem.W.keepIn K (.ref f5) = true)
    {f6 : Addr} {od6 an6 : Option Addr} {sl6 : Array (Option Value)} {oc6 kV6 dc6 pm6 cd6 ct6 : Value}
    (a6 : PySem.W.nsIn K mainGlobals "need_plan" = some (some (.ref f6))) (l6 : K.lookup f6 = some ⟨oc6, od6, .func (PySem.W.fnOf "need_plan" "need_plan" (defArgs (topS 20)) (defBody (topS 20)) (defScope (topS 20)) .none kV6 dc6 pm6 an6 cd6 ct6), sl6⟩) (c6 : PySem.W.codeIn K cd6 "need_plan" = true) (k6 : PySem.W.keepIn K (.ref f6) = true)
    {f7 : Addr} {od7 an7 : Option Addr} {sl7 : Array (Option Value)} {oc7 kV7 dc7 pm7 cd7 ct7 : Value}
    (a7 : PySem.W.nsIn K mainGlobals "is_fails" = some (some (.ref f7))) (l7 : K.lookup f7 = some ⟨oc7, od7, .func (PySem.W.fnOf "is_fails" "is_fails" (defArgs (topS 21)) (defBody (topS 21)) (defScope (topS 21)) .none kV7 dc7 pm7 an7 cd7 ct7), sl7⟩) (c7 : PySem.W.codeIn K cd7 "is_fails" = true) (k7 : PySem.W.keepIn K (.ref f7) = true)
    {f8 : Addr} {od8 an8 : Option Addr} {sl8 : Array (Option Value)} {oc8 kV8 dc8 pm8 cd8 ct8 : Value}
    {C0 : Addr} (aC0 : PySem.W.nsIn K mainGlobals "Run" = some (some (.ref C0))) (qa0 : PySem.W.plainGet K C0 Str.empty = true) (qb0 : PySem.W.hasDictIn K C0 = true) (qc0 : PySem.W.plainOver K C0 = true) (qd0 : PySem.W.findIn K (.ref C0) "__setattr__" = some (some (.builtin "object.__setattr__")))
    (nf0x0 : PySem.W.findIn K (.ref C0) "left" = some none)
    (nf0x1 : PySem.W.findIn K (.ref C0) "keeps" = some none)
    (nf0x2 : PySem.W.findIn K (.ref C0) "fails" = some none)
    (nf0x3 : PySem.W.findIn K (.ref C0) "kept" = some none)
    (nf0x4 : PySem.W.findIn K (.ref C0) "asks" = some none)
    (nf0x5 : PySem.W.findIn K (.ref C0) "deciders" = some none)
    {fI0 : Addr} {odI0 anI0 : Option Addr} {slI0 : Array (Option Value)} {ocI0 kVI0 dcI0 pmI0 cdI0 ctI0 : Value} (maI0 : PySem.W.makesIn K C0 = true) (mbI0 : PySem.W.findIn K (.ref C0) "__init__" = some (some (.ref fI0))) (mcI0 : PySem.W.isFn K (.ref fI0) = true) (mdI0 : PySem.W.keepIn K (.ref C0) = true) (lI0 : K.lookup fI0 = some ⟨ocI0, odI0, .func (PySem.W.fnOf "__init__" "Run.__init__" (defArgs (clsS 22 0)) (defBody (clsS 22 0)) (defScope (clsS 22 0)) .none kVI0 dcI0 pmI0 anI0 cdI0 ctI0), slI0⟩) (cI0 : PySem.W.codeIn K cdI0 "Run.__init__" = true) (kI0 : PySem.W.keepIn K (.ref fI0) = true)
    (a8 : PySem.W.findIn K (.ref C0) "call" = some (some (.ref f8))) (i8 : PySem.W.isFn K (.ref f8) = true) (l8 : K.lookup f8 = some ⟨oc8, od8, .func (PySem.W.fnOf "call" "Run.call" (defArgs (clsS 22 1)) (defBody (clsS 22 1)) (defScope (clsS 22 1)) .none kV8 dc8 pm8 an8 cd8 ct8), sl8⟩) (c8 : PySem.W.codeIn K cd8 "Run.call" = true) (k8 : PySem.W.keepIn K (.ref f8) = true)
    {f9 : Addr} {od9 an9 : Option Addr} {sl9 : Array (Option Value)} {oc9 kV9 dc9 pm9 cd9 ct9 : Value}
    (a9 : PySem.W.findIn K (.ref C0) "take" = some (some (.ref f9))) (i9 : PySem.W.isFn K (.ref f9) = true) (l9 : K.lookup f9 = some ⟨oc9, od9, .func (PySem.W.fnOf "take" "Run.take" (defArgs (clsS 22 2)) (defBody (clsS 22 2)) (defScope (clsS 22 2)) .none kV9 dc9 pm9 an9 cd9 ct9), sl9⟩) (c9 : PySem.W.codeIn K cd9 "Run.take" = true) (k9 : PySem.W.keepIn K (.ref f9) = true)
    {f10 : Addr} {od10 an10 : Option Addr} {sl10 : Array (Option Value)} {oc10 kV10 dc10 pm10 cd10 ct10 : Value}
    (a10 : PySem.W.findIn K (.ref C0) "attempt" = some (some (.ref f10))) (i10 : PySem.W.isFn K (.ref f10) = true) (l10 : K.lookup f10 = some ⟨oc10, od10, .func (PySem.W.fnOf "attempt" "Run.attempt" (defArgs (clsS 22 3)) (defBody (clsS 22 3)) (defScope (clsS 22 3)) .none kV10 dc10 pm10 an10 cd10 ct10), sl10⟩) (c10 : PySem.W.codeIn K cd10 "Run.attempt" = true) (k10 : PySem.W.keepIn K (.ref f10) = true)
    {f11 : Addr} {od11 an11 : Option Addr} {sl11 : Array (Option Value)} {oc11 kV11 dc11 pm11 cd11 ct11 : Value}
    (a11 : PySem.W.findIn K (.ref C0) "parts_let" = some (some (.ref f11))) (i11 : PySem.W.isFn K (.ref f11) = true) (l11 : K.lookup f11 = some ⟨oc11, od11, .func (PySem.W.fnOf "parts_let" "Run.parts_let" (defArgs (clsS 22 4)) (defBody (clsS 22 4)) (defScope (clsS 22 4)) .none kV11 dc11 pm11 an11 cd11 ct11), sl11⟩) (c11 : PySem.W.codeIn K cd11 "Run.parts_let" = true) (k11 : PySem.W.keepIn K (.ref f11) = true)
    {f12 : Addr} {od12 an12 : Option Addr} {sl12 : Array (Option Value)} {oc12 kV12 dc12 pm12 cd12 ct12 : Value}
    (a12 : PySem.W.findIn K (.ref C0) "decide" = some (some (.ref f12))) (i12 : PySem.W.isFn K (.ref f12) = true) (l12 : K.lookup f12 = some ⟨oc12, od12, .func (PySem.W.fnOf "decide" "Run.decide" (defArgs (clsS 22 5)) (defBody (clsS 22 5)) (defScope (clsS 22 5)) .none kV12 dc12 pm12 an12 cd12 ct12), sl12⟩) (c12 : PySem.W.codeIn K cd12 "Run.decide" = true) (k12 : PySem.W.keepIn K (.ref f12) = true)
    {f13 : Addr} {od13 an13 : Option Addr} {sl13 : Array (Option Value)} {oc13 kV13 dc13 pm13 cd13 ct13 : Value}
    (a13 : PySem.W.nsIn K mainGlobals "ran" = some (some (.ref f13))) (l13 : K.lookup f13 = some ⟨oc13, od13, .func (PySem.W.fnOf "ran" "ran" (defArgs (topS 23)) (defBody (topS 23)) (defScope (topS 23)) .none kV13 dc13 pm13 an13 cd13 ct13), sl13⟩) (c13 : PySem.W.codeIn K cd13 "ran" = true) (k13 : PySem.W.keepIn K (.ref f13) = true)
    {f14 : Addr} {od14 an14 : Option Addr} {sl14 : Array (Option Value)} {oc14 kV14 dc14 pm14 cd14 ct14 : Value}
    (a14 : PySem.W.nsIn K mainGlobals "_law_cell_at" = some (some (.ref f14))) (l14 : K.lookup f14 = some ⟨oc14, od14, .func (PySem.W.fnOf "_law_cell_at" "_law_cell_at" (defArgs (topS 25)) (defBody (topS 25)) (defScope (topS 25)) .none kV14 dc14 pm14 an14 cd14 ct14), sl14⟩) (c14 : PySem.W.codeIn K cd14 "_law_cell_at" = true) (k14 : PySem.W.keepIn K (.ref f14) = true)
    {f15 : Addr} {od15 an15 : Option Addr} {sl15 : Array (Option Value)} {oc15 kV15 dc15 pm15 cd15 ct15 : Value}
    (a15 : PySem.W.nsIn K mainGlobals "_law_pen" = some (some (.ref f15))) (l15 : K.lookup f15 = some ⟨oc15, od15, .func (PySem.W.fnOf "_law_pen" "_law_pen" (defArgs (topS 26)) (defBody (topS 26)) (defScope (topS 26)) .none kV15 dc15 pm15 an15 cd15 ct15), sl15⟩) (c15 : PySem.W.codeIn K cd15 "_law_pen" = true) (k15 : PySem.W.keepIn K (.ref f15) = true)
    {f16 : Addr} {od16 an16 : Option Addr} {sl16 : Array (Option Value)} {oc16 kV16 dc16 pm16 cd16 ct16 : Value}
    (a16 : PySem.W.nsIn K mainGlobals "_law_draw" = some (some (.ref f16))) (l16 : K.lookup f16 = some ⟨oc16, od16, .func (PySem.W.fnOf "_law_draw" "_law_draw" (defArgs (topS 27)) (defBody (topS 27)) (defScope (topS 27)) .none kV16 dc16 pm16 an16 cd16 ct16), sl16⟩) (c16 : PySem.W.codeIn K cd16 "_law_draw" = true) (k16 : PySem.W.keepIn K (.ref f16) = true)
    {f17 : Addr} {od17 an17 : Option Addr} {sl17 : Array (Option Value)} {oc17 kV17 dc17 pm17 cd17 ct17 : Value}
    (a17 : PySem.W.nsIn K mainGlobals "_law_pick" = some (some (.ref f17))) (l17 : K.lookup f17 = some ⟨oc17, od17, .func (PySem.W.fnOf "_law_pick" "_law_pick" (defArgs (topS 28)) (defBody (topS 28)) (defScope (topS 28)) .none kV17 dc17 pm17 an17 cd17 ct17), sl17⟩) (c17 : PySem.W.codeIn K cd17 "_law_pick" = true) (k17 : PySem.W.keepIn K (.ref f17) = true)
    {f18 : Addr} {od18 an18 : Option Addr} {sl18 : Array (Option Value)} {oc18 kV18 dc18 pm18 cd18 ct18 : Value}
    (a18 : PySem.W.nsIn K mainGlobals "_law_same" = some (some (.ref f18))) (l18 : K.lookup f18 = some ⟨oc18, od18, .func (PySem.W.fnOf "_law_same" "_law_same" (defArgs (topS 29)) (defBody (topS 29)) (defScope (topS 29)) .none kV18 dc18 pm18 an18 cd18 ct18), sl18⟩) (c18 : PySem.W.codeIn K cd18 "_law_same" = true) (k18 : PySem.W.keepIn K (.ref f18) = true)
    {f19 : Addr} {od19 an19 : Option Addr} {sl19 : Array (Option Value)} {oc19 kV19 dc19 pm19 cd19 ct19 : Value}
    (a19 : PySem.W.nsIn K mainGlobals "_law_call" = some (some (.ref f19))) (l19 : K.lookup f19 = some ⟨oc19, od19, .func (PySem.W.fnOf "_law_call" "_law_call" (defArgs (topS 30)) (defBody (topS 30)) (defScope (topS 30)) .none kV19 dc19 pm19 an19 cd19 ct19), sl19⟩) (c19 : PySem.W.codeIn K cd19 "_law_call" = true) (k19 : PySem.W.keepIn K (.ref f19) = true)
    {f20 : Addr} {od20 an20 : Option Addr} {sl20 : Array (Option Value)} {oc20 kV20 dc20 pm20 cd20 ct20 : Value}
    (a20 : PySem.W.nsIn K mainGlobals "_law_tree" = some (some (.ref f20))) (l20 : K.lookup f20 = some ⟨oc20, od20, .func (PySem.W.fnOf "_law_tree" "_law_tree" (defArgs (topS 31)) (defBody (topS 31)) (defScope (topS 31)) .none kV20 dc20 pm20 an20 cd20 ct20), sl20⟩) (c20 : PySem.W.codeIn K cd20 "_law_tree" = true) (k20 : PySem.W.keepIn K (.ref f20) = true)
    {f21 : Addr} {od21 an21 : Option Addr} {sl21 : Array (Option Value)} {oc21 kV21 dc21 pm21 cd21 ct21 : Value}
    (a21 : PySem.W.nsIn K mainGlobals "_law_asked" = some (some (.ref f21))) (l21 : K.lookup f21 = some ⟨oc21, od21, .func (PySem.W.fnOf "_law_asked" "_law_asked" (defArgs (topS 32)) (defBody (topS 32)) (defScope (topS 32)) .none kV21 dc21 pm21 an21 cd21 ct21), sl21⟩) (c21 : PySem.W.codeIn K cd21 "_law_asked" = true) (k21 : PySem.W.keepIn K (.ref f21) = true)
    {f22 : Addr} {od22 an22 : Option Addr} {sl22 : Array (Option Value)} {oc22 kV22 dc22 pm22 cd22 ct22 : Value}
    (a22 : PySem.W.nsIn K mainGlobals "_law_tried" = some (some (.ref f22))) (l22 : K.lookup f22 = some ⟨oc22, od22, .func (PySem.W.fnOf "_law_tried" "_law_tried" (defArgs (topS 33)) (defBody (topS 33)) (defScope (topS 33)) .none kV22 dc22 pm22 an22 cd22 ct22), sl22⟩) (c22 : PySem.W.codeIn K cd22 "_law_tried" = true) (k22 : PySem.W.keepIn K (.ref f22) = true)
    {f23 : Addr} {od23 an23 : Option Addr} {sl23 : Array (Option Value)} {oc23 kV23 dc23 pm23 cd23 ct23 : Value}
    (a23 : PySem.W.nsIn K mainGlobals "_law_played" = some (some (.ref f23))) (l23 : K.lookup f23 = some ⟨oc23, od23, .func (PySem.W.fnOf "_law_played" "_law_played" (defArgs (topS 34)) (defBody (topS 34)) (defScope (topS 34)) .none kV23 dc23 pm23 an23 cd23 ct23), sl23⟩) (c23 : PySem.W.codeIn K cd23 "_law_played" = true) (k23 : PySem.W.keepIn K (.ref f23) = true)
    {f24 : Addr} {od24 an24 : Option Addr} {sl24 : Array (Option Value)} {oc24 kV24 dc24 pm24 cd24 ct24 : Value}
    (a24 : PySem.W.nsIn K mainGlobals "_law_plan" = some (some (.ref f24))) (l24 : K.lookup f24 = some ⟨oc24, od24, .func (PySem.W.fnOf "_law_plan" "_law_plan" (defArgs (topS 35)) (defBody (topS 35)) (defScope (topS 35)) .none kV24 dc24 pm24 an24 cd24 ct24), sl24⟩) (c24 : PySem.W.codeIn K cd24 "_law_plan" = true) (k24 : PySem.W.keepIn K (.ref f24) = true)
    {f25 : Addr} {od25 an25 : Option Addr} {sl25 : Array (Option Value)} {oc25 kV25 dc25 pm25 cd25 ct25 : Value}
    (a25 : PySem.W.nsIn K mainGlobals "_law_fails" = some (some (.ref f25))) (l25 : K.lookup f25 = some ⟨oc25, od25, .func (PySem.W.fnOf "_law_fails" "_law_fails" (defArgs (topS 36)) (defBody (topS 36)) (defScope (topS 36)) .none kV25 dc25 pm25 an25 cd25 ct25), sl25⟩) (c25 : PySem.W.codeIn K cd25 "_law_fails" = true) (k25 : PySem.W.keepIn K (.ref f25) = true)
    {f26 : Addr} {od26 an26 : Option Addr} {sl26 : Array (Option Value)} {oc26 kV26 dc26 pm26 cd26 ct26 : Value}
    (a26 : PySem.W.nsIn K mainGlobals "_law_right" = some (some (.ref f26))) (l26 : K.lookup f26 = some ⟨oc26, od26, .func (PySem.W.fnOf "_law_right" "_law_right" (defArgs (topS 37)) (defBody (topS 37)) (defScope (topS 37)) .none kV26 dc26 pm26 an26 cd26 ct26), sl26⟩) (c26 : PySem.W.codeIn K cd26 "_law_right" = true) (k26 : PySem.W.keepIn K (.ref f26) = true)
    {f27 : Addr} {od27 an27 : Option Addr} {sl27 : Array (Option Value)} {oc27 kV27 dc27 pm27 cd27 ct27 : Value}
    (a27 : PySem.W.nsIn K mainGlobals "law" = some (some (.ref f27))) (l27 : K.lookup f27 = some ⟨oc27, od27, .func (PySem.W.fnOf "law" "law" (defArgs (topS 38)) (defBody (topS 38)) (defScope (topS 38)) .none kV27 dc27 pm27 an27 cd27 ct27), sl27⟩) (c27 : PySem.W.codeIn K cd27 "law" = true) (k27 : PySem.W.keepIn K (.ref f27) = true)
    {g7 : Tok}
    (g7_ : PySem.W.nsIn K mainGlobals "ANY" = some (some (.str (Str.ofString "any") g7)))
    {g6 : Tok}
    (g6_ : PySem.W.nsIn K mainGlobals "ALL" = some (some (.str (Str.ofString "all") g6)))
    {g5 : Tok}
    (g5_ : PySem.W.nsIn K mainGlobals "MOST_BUDGET" = some (some (.int 4 g5)))
    {g4 : Tok}
    (g4_ : PySem.W.nsIn K mainGlobals "MOST_DEEP" = some (some (.int 4 g4)))
    {g3 : Tok}
    (g3_ : PySem.W.nsIn K mainGlobals "MOST_CALLS" = some (some (.int 12 g3)))
    {g2 : Tok}
    (g2_ : PySem.W.nsIn K mainGlobals "MOST_PARTS" = some (some (.int 3 g2)))
    {g1 : Tok}
    (g1_ : PySem.W.nsIn K mainGlobals "MOST_TRIES" = some (some (.int 3 g1)))
    {g0 : Tok}
    (g0_ : PySem.W.nsIn K mainGlobals "MOST_SERVICE" = some (some (.int 3 g0)))
    (z0 : PySem.W.nsIn K mainGlobals "isinstance" = some none)
    (z1 : PySem.W.nsIn K mainGlobals "len" = some none)
    (z2 : PySem.W.nsIn K mainGlobals "min" = some none)
    (z3 : PySem.W.nsIn K mainGlobals "max" = some none)
    (z4 : PySem.W.nsIn K mainGlobals "sum" = some none)
    (z5 : PySem.W.nsIn K mainGlobals "all" = some none)
    (z6 : PySem.W.nsIn K mainGlobals "tuple" = some none)
    (z7 : PySem.W.nsIn K mainGlobals "repr" = some none)
    (z8 : PySem.W.nsIn K mainGlobals "str" = some none)
    (z9 : PySem.W.nsIn K mainGlobals "range" = some none)
    (z10 : PySem.W.nsIn K mainGlobals "zip" = some none)
    (z11 : PySem.W.nsIn K mainGlobals "int" = some none)
    (z12 : PySem.W.nsIn K mainGlobals "bool" = some none) :
    GlobI (pre ([] : List Str) K) mg T defs where
  fn := (all_cons (fn_of1 (d := d160) (xs := []) X G a0 l0 c0 k0 (fun _ _ _ _ _ _ us hl => match us, hl with | [_, _, _], _ => rfl)) (all_cons (fn_of1 (d := d161) (xs := []) X G a1 l1 c1 k1 (fun _ _ _ _ _ _ us hl => match us, hl with | [_, _], _ => rfl)) (all_cons (fn_of1 (d := d162) (xs := []) X G a2 l2 c2 k2 (fun _ _ _ _ _ _ us hl => match us, hl with | [_], _ => rfl)) (all_cons (fn_of1 (d := d163) (xs := []) X G a3 l3 c3 k3 (fun _ _ _ _ _ _ us hl => match us, hl with | [_], _ => rfl)) (all_cons (fn_of1 (d := d164) (xs := []) X G a4 l4 c4 k4 (fun _ _ _ _ _ _ us hl => match us, hl with | [_], _ => rfl)) (all_cons (fn_of1 (d := d165) (xs := []) X G a5 l5 c5 k5 (fun _ _ _ _ _ _ us hl => match us, hl with | [_], _ => rfl)) (all_cons (fn_of1 (d := d166) (xs := []) X G a6 l6 c6 k6 (fun _ _ _ _ _ _ us hl => match us, hl with | [_], _ => rfl)) (all_cons (fn_of1 (d := d167) (xs := []) X G a7 l7 c7 k7 (fun _ _ _ _ _ _ us hl => match us, hl with | [_], _ => rfl)) (all_cons (fn_ofM (K := pre ([] : List Str) K) (mg := mg) (d := d210) (c := 0) aC0 a8 i8 k8 l8 c8 (fun _ _ _ _ _ _ us hl => match us, hl with | [_, _], _ => rfl)) (all_cons (fn_ofM (K := pre ([] : List Str) K) (mg := mg) (d := d211) (c := 0) aC0 a9 i9 k9 l9 c9 (fun _ _ _ _ _ _ us hl => match us, hl with | [_], _ => rfl)) (all_cons (fn_ofM (K := pre ([] : List Str) K) (mg := mg) (d := d212) (c := 0) aC0 a10 i10 k10 l10 c10 (fun _ _ _ _ _ _ us hl => match us, hl with | [_, _], _ => rfl)) (all_cons (fn_ofM (K := pre ([] : List Str) K) (mg := mg) (d := d213) (c := 0) aC0 a11 i11 k11 l11 c11 (fun _ _ _ _ _ _ us hl => match us, hl with | [_, _], _ => rfl)) (all_cons (fn_ofM (K := pre ([] : List Str) K) (mg := mg) (d := d214) (c := 0) aC0 a12 i12 k12 l12 c12 (fun _ _ _ _ _ _ us hl => match us, hl with | [_, _], _ => rfl)) (all_cons (fn_of1 (d := d171) (xs := []) X G a13 l13 c13 k13 (fun _ _ _ _ _ _ us hl => match us, hl with | [_, _, _], _ => rfl)) (all_cons (fn_of1 (d := d3) (xs := []) X G a14 l14 c14 k14 (fun _ _ _ _ _ _ us hl => match us, hl with | [_, _], _ => rfl)) (all_cons (fn_of1 (d := d4) (xs := []) X G a15 l15 c15 k15 (fun _ _ _ _ _ _ us hl => match us, hl with | [_], _ => rfl)) (all_cons (fn_of1 (d := d5) (xs := []) X G a16 l16 c16 k16 (fun _ _ _ _ _ _ us hl => match us, hl with | [_, _], _ => rfl)) (all_cons (fn_of1 (d := d6) (xs := []) X G a17 l17 c17 k17 (fun _ _ _ _ _ _ us hl => match us, hl with | [_, _], _ => rfl)) (all_cons (fn_of1 (d := d7) (xs := []) X G a18 l18 c18 k18 (fun _ _ _ _ _ _ us hl => match us, hl with | [_, _], _ => rfl)) (all_cons (fn_of1 (d := d203) (xs := []) X G a19 l19 c19 k19 (fun _ _ _ _ _ _ us hl => match us, hl with | [_, _, _], _ => rfl)) (all_cons (fn_of1 (d := d204) (xs := []) X G a20 l20 c20 k20 (fun _ _ _ _ _ _ us hl => match us, hl with | [_, _, _], _ => rfl)) (all_cons (fn_of1 (d := d205) (xs := []) X G a21 l21 c21 k21 (fun _ _ _ _ _ _ us hl => match us, hl with | [_, _, _, _], _ => rfl)) (all_cons (fn_of1 (d := d206) (xs := []) X G a22 l22 c22 k22 (fun _ _ _ _ _ _ us hl => match us, hl with | [_, _, _, _], _ => rfl)) (all_cons (fn_of1 (d := d207) (xs := []) X G a23 l23 c23 k23 (fun _ _ _ _ _ _ us hl => match us, hl with | [_, _, _], _ => rfl)) (all_cons (fn_of1 (d := d208) (xs := []) X G a24 l24 c24 k24 (fun _ _ _ _ _ _ us hl => match us, hl with | [_], _ => rfl)) (all_cons (fn_of1 (d := d209) (xs := []) X G a25 l25 c25 k25 (fun _ _ _ _ _ _ us hl => match us, hl with | [_, _], _ => rfl)) (all_cons (fn_of1 (d := d11) (xs := []) X G a26 l26 c26 k26 (fun _ _ _ _ _ _ us hl => match us, hl with | [_, _, _], _ => rfl)) (all_cons (fn_of1 (d := d12) (xs := []) X G a27 l27 c27 k27 (fun _ _ _ _ _ _ us hl => match us, hl with | [_], _ => rfl)) all_nil))))))))))))))))))))))))))))
  cs := (cs_cons (cs_int X G g0_) (cs_cons (cs_int X G g1_) (cs_cons (cs_int X G g2_) (cs_cons (cs_int X G g3_) (cs_cons (cs_int X G g4_) (cs_cons (cs_int X G g5_) (cs_cons (cs_str X G g6_) (cs_cons (cs_str X G g7_) cs_nil))))))))
  fr := (fr_cons X G z0 (fr_cons X G z1 (fr_cons X G z2 (fr_cons X G z3 (fr_cons X G z4 (fr_cons X G z5 (fr_cons X G z6 (fr_cons X G z7 (fr_cons X G z8 (fr_cons X G z9 (fr_cons X G z10 (fr_cons X G z11 (fr_cons X G z12 fr_nil)))))))))))))
  lm := (all_cons (no_lam (by decide +kernel)) (all_cons (no_lam (by decide +kernel)) (all_cons (no_lam (by decide +kernel)) (all_cons (no_lam (by decide +kernel)) (all_cons (no_lam (by decide +kernel)) (all_cons (no_lam (by decide +kernel)) (all_cons (no_lam (by decide +kernel)) (all_cons (no_lam (by decide +kernel)) (all_cons (no_lam (by decide +kernel)) (all_cons (no_lam (by decide +kernel)) (all_cons (no_lam (by decide +kernel)) (all_cons (no_lam (by decide +kernel)) (all_cons (no_lam (by decide +kernel)) (all_cons (no_lam (by decide +kernel)) (all_cons (no_lam (by decide +kernel)) (all_cons (no_lam (by decide +kernel)) (all_cons (no_lam (by decide +kernel)) (all_cons (no_lam (by decide +kernel)) (all_cons (no_lam (by decide +kernel)) (all_cons (no_lam (by decide +kernel)) (all_cons (no_lam (by decide +kernel)) (all_cons (no_lam (by decide +kernel)) (all_cons (no_lam (by decide +kernel)) (all_cons (no_lam (by decide +kernel)) (all_cons (no_lam (by decide +kernel)) (all_cons (no_lam (by decide +kernel)) (all_cons (no_lam (by decide +kernel)) (all_cons (no_lam (by decide +kernel)) all_nil))))))))))))))))))))))))))))
  un := tabP_un chk
  cl := (all_cons ⟨(cls_of (c := 0) aC0 qa0 qb0 qc0 qd0), (all_cons (noat_of (c := 0) aC0 nf0x0) (all_cons (noat_of (c := 0) aC0 nf0x1) (all_cons (noat_of (c := 0) aC0 nf0x2) (all_cons (noat_of (c := 0) aC0 nf0x3) (all_cons (noat_of (c := 0) aC0 nf0x4) (all_cons (noat_of (c := 0) aC0 nf0x5) all_nil))))))⟩ all_nil)
  mks := (all_cons (fun n a e => by cases e; exact mk_ofM (K := pre ([] : List Str) K) (c := 0) (st := (clsS 22 0)) (qual := "Run.__init__") X G aC0 maI0 mbI0 mcI0 mdI0 kI0 lI0 cI0 (fun _ _ _ _ _ _ us hl => match us, hl with | [_, _, _], _ => rfl) initB0 (scope_of (by decide +kernel)) (cls_of (c := 0) aC0 qa0 qb0 qc0 qd0) (all_cons (noat_of (c := 0) aC0 nf0x0) (all_cons (noat_of (c := 0) aC0 nf0x1) (all_cons (noat_of (c := 0) aC0 nf0x2) (all_cons (noat_of (c := 0) aC0 nf0x3) (all_cons (noat_of (c := 0) aC0 nf0x4) (all_cons (noat_of (c := 0) aC0 nf0x5) all_nil))))))) all_nil)
  xg := (fun _ h => absurd h List.not_mem_nil)
end K52

set_option Elab.async false
set_option linter.all false
/-! Mi: what a run ends with, reckoned by unfolding alone (whnf): no search for rules. -/
namespace Mi
open PySem

inductive Wr {α : Type} (r : Res α) (Q : α → Mem → Prop) (X : Nat → Mem → Prop) : Prop where
  | ok (a : α) (M : Mem) (h : r = .ok a M) (q : Q a M) : Wr r Q X
  | exc (c : Nat) (M : Mem) (h : r = .exc c M) (x : X c M) : Wr r Q X
/-- a side condition, then the rest -/
structure SC (c P : Prop) : Prop where
  c : c
  p : P
structure WIf (c : Bool) (A B : Prop) : Prop where
  t : c = true → A
  f : c = false → B
def NoX : Nat → Mem → Prop := fun _ _ => False
section
variable {α β : Type} {r : Res α} {Q P : α → Mem → Prop} {X Y : Nat → Mem → Prop}
theorem Wr.mono (h : Wr r P Y) (f : ∀ a M, P a M → Q a M) (g : ∀ c M, Y c M → X c M) : Wr r Q X := by
  cases h with
  | ok a M h q => exact .ok a M h (f a M q)
  | exc c M h x => exact .exc c M h (g c M x)
theorem Wr.eq {a : α} {M : Mem} (h : r = .ok a M) (q : Q a M) : Wr r Q X := .ok a M h q
theorem Wr.out {a : α} {M : Mem} (h : Wr r (fun b N => b = a ∧ N = M) NoX) : r = .ok a M := by
  cases h with
  | ok a M h q => rw [h, q.1, q.2]
  | exc c M h x => exact x.elim
theorem Wr.bind {f : α → Mem → Res β} {Q : β → Mem → Prop} (h : Wr r (fun a M => Wr (f a M) Q X) X) : Wr (r.bind f) Q X := by
  cases h with
  | ok a M h q => subst h; exact q
  | exc c M h x => subst h; exact .exc c M rfl x
theorem Wr.get (h : Wr r Q NoX) : ∃ a M, r = .ok a M ∧ Q a M := by
  cases h with
  | ok a M h q => exact ⟨a, M, h, q⟩
  | exc c M h x => exact x.elim
theorem WIf.ite {c : Bool} {a b : Res α} (h : WIf c (Wr a Q X) (Wr b Q X)) : Wr (if c = true then a else b) Q X := by
  cases c
  · exact h.f rfl
  · exact h.t rfl
theorem WIf.imp {c : Bool} {A B A' B' : Prop} (h : WIf c A B) (f : A → A') (g : B → B') : WIf c A' B' := ⟨fun e => f (h.t e), fun e => g (h.f e)⟩
theorem WIf.tt {c : Bool} {A B : Prop} (h : c = true) (a : A) : WIf c A B := ⟨fun _ => a, fun e => (by rw [h] at e; cases e)⟩
theorem WIf.ff {c : Bool} {A B : Prop} (h : c = false) (b : B) : WIf c A B := ⟨fun e => (by rw [h] at e; cases e), fun _ => b⟩
end

/-! ### operations -/
def wVar (o : Option (Option D)) (Q : D → Prop) : Prop := match o with
  | some (some d) => Q d
  | _ => False
def wOpt {α : Type} (o : Option α) (Q : α → Prop) : Prop := match o with
  | some d => Q d
  | none => False
def wAlloc (mt : Bool) (xs : List PyData) (M : Mem) (Q : D → Mem → Prop) : Prop := match mt with
  | true => Q (.ref M.length) (M ++ [.lst xs])
  | false => Q (.p (.list xs)) M
def wBinP (op : BOp) (mt : Bool) (x y : PyData) (M : Mem) (Q : D → Mem → Prop) : Prop := match op with
  | .add => match x, y with
    | .int i, .int j => Q (.p (.int (i + j))) M
    | .str x, .str y => SC (x.length + y.length ≤ 16777216) (Q (.p (.str (x ++ y))) M)
    | .tuple xs, .tuple ys => SC (xs.length + ys.length ≤ 16777216) (Q (.p (.tuple (xs ++ ys))) M)
    | .list xs, .list ys => SC (xs.length + ys.length ≤ 16777216) (wAlloc mt (xs ++ ys) M Q)
    | _, _ => False
  | .sub => match x, y with
    | .int i, .int j => Q (.p (.int (i - j))) M
    | _, _ => False
  | .mul => match x, y with
    | .int i, .int j => SC ((-(2 ^ 64) < i ∧ i < 2 ^ 64) ∨ (-(2 ^ 64) < j ∧ j < 2 ^ 64)) (Q (.p (.int (i * j))) M)
    | .str z, .int k => SC (-(2 ^ 63) ≤ k ∧ k < 2 ^ 63 ∧ z.length * k.toNat ≤ 16777216) (Q (.p (.str (Txt.mul z k))) M)
    | .tuple xs, .int k => SC (-(2 ^ 63) ≤ k ∧ k < 2 ^ 63 ∧ xs.length * k.toNat ≤ 16777216) (Q (.p (.tuple (List.replicate k.toNat xs).flatten)) M)
    | .list xs, .int k => SC (-(2 ^ 63) ≤ k ∧ k < 2 ^ 63 ∧ xs.length * k.toNat ≤ 16777216) (wAlloc mt (List.replicate k.toNat xs).flatten M Q)
    | _, _ => False
  | .fdiv => match x, y with
    | .int i, .int j => SC (0 < j ∧ j < 1073741824) (Q (.p (.int (i / j))) M)
    | _, _ => False
  | .mod => match x, y with
    | .int i, .int j => SC (0 < j) (Q (.p (.int (i % j))) M)
    | _, _ => False
  | .pow => match x, y with
    | .int i, .int j => SC (0 ≤ j ∧ j ≤ 1000000 ∧ i.natAbs < 2 ^ 64) (Q (.p (.int (i ^ j.toNat))) M)
    | _, _ => False
def wBin (op : BOp) (mt : Bool) (a b : D) (M : Mem) (Q : D → Mem → Prop) : Prop :=
  wOpt (dat M a) fun x => wOpt (dat M b) fun y => wBinP op mt x y M Q
def eqIt (x y : PyData) (neg : Bool) (Q : Bool → Prop) : Prop := match x, y with
  | .int i, .int j => Q (if neg then !(decide (i = j)) else decide (i = j))
  | x, y => SC (x.plain = true ∧ y.plain = true ∧ x.depth ≤ 60) (Q (if neg then !(PyData.eqv x y) else PyData.eqv x y))
def wCmpP (op : COp) (x y : PyData) (Q : Bool → Prop) : Prop := match op with
  | .eq => eqIt x y false Q
  | .ne => eqIt x y true Q
  | .lt => match x, y with
    | .int i, .int j => Q (decide (i < j))
    | _, _ => False
  | .le => match x, y with
    | .int i, .int j => Q (decide (i ≤ j))
    | _, _ => False
  | .gt => match x, y with
    | .int i, .int j => Q (decide (j < i))
    | _, _ => False
  | .ge => match x, y with
    | .int i, .int j => Q (decide (j ≤ i))
    | _, _ => False
  | .is => match y with
    | .none => Q (isNone x)
    | .bool j => (match x with
      | .bool i => Q (i == j)
      | _ => False)
    | _ => False
  | .isnot => match y with
    | .none => Q (!isNone x)
    | .bool j => (match x with
      | .bool i => Q (!(i == j))
      | _ => False)
    | _ => False
  | .isin => match y with
    | .list xs => SC ((PyData.plainAll xs && x.plain && decide (x.depth ≤ 60)) = true) (Q (xs.any fun y => PyData.eqv y x))
    | .tuple xs => SC ((PyData.plainAll xs && x.plain && decide (x.depth ≤ 60)) = true) (Q (xs.any fun y => PyData.eqv y x))
    | .str z => (match x with
      | .str y => Q (!(Builtin.Str.occurrences z y 0 z.length 1).isEmpty)
      | _ => False)
    | .dict kvs => (match x with
      | .int k => Q (dHas kvs k)
      | _ => False)
    | _ => False
  | .notin => match y with
    | .list xs => SC ((PyData.plainAll xs && x.plain && decide (x.depth ≤ 60)) = true) (Q (!xs.any fun y => PyData.eqv y x))
    | .tuple xs => SC ((PyData.plainAll xs && x.plain && decide (x.depth ≤ 60)) = true) (Q (!xs.any fun y => PyData.eqv y x))
    | .dict kvs => (match x with
      | .int k => Q (!dHas kvs k)
      | _ => False)
    | _ => False
def wCmp (op : COp) (a b : D) (M : Mem) (Q : D → Mem → Prop) : Prop :=
  wOpt (dat M a) fun x => wOpt (dat M b) fun y => wCmpP op x y fun k => Q (.p (.bool k)) M
def wTruth (M : Mem) (d : D) (Q : Bool → Prop) : Prop := wOpt (dat M d) fun x => match x with
  | .none => Q false
  | .bool b => Q b
  | .int i => Q (i != 0)
  | .str x => SC (x.length ≤ 16777216) (Q ((x.length : Int) != 0))
  | .list xs => Q (!xs.isEmpty)
  | .tuple xs => Q (!xs.isEmpty)
  | _ => False
def wIsB (d : D) (Q : Bool → Prop) : Prop := match d with
  | .p (.bool b) => Q b
  | _ => False
def wInt (d : D) (Q : Int → Prop) : Prop := match d with
  | .p (.int i) => Q i
  | _ => False
def wAt {α : Type} (xs : List α) (k : Int) (Q : α → Prop) : Prop := wOpt (L2.atI xs k) Q
def wBoxAt (M : Mem) (a : D) (k : Int) (Q : D → Mem → Prop) : Prop := match a with
  | .ref j => (match M[j]? with
    | some (.hdr 0 ks) => wOpt (L2.atI ks k) fun p => wOpt (fkD j p.2) fun d => Q d M
    | _ => False)
  | _ => False
def wIdx (a i : D) (M : Mem) (Q : D → Mem → Prop) : Prop := match i with
  | .p (.int k) => match a with
    | .scr ns => wAt ns k fun x => Q (.p (.int x)) M
    | .ref j => (match dat M (.ref j) with
      | some (.list xs) => wAt xs k fun x => Q (.p x) M
      | none => wBoxAt M (.ref j) k Q
      | _ => False)
    | a => wOpt (dat M a) fun x => match x with
      | .list xs => wAt xs k fun x => Q (.p x) M
      | .tuple xs => wAt xs k fun x => Q (.p x) M
      | .str z => SC (z.length ≤ 16777216) (wAt z.cps.toList k fun c => Q (.p (.str ⟨#[c]⟩)) M)
      | _ => False
  | _ => False
def wSlc (mt : Bool) (a : D) (lo hi : Option Int) (M : Mem) (Q : D → Mem → Prop) : Prop := wOpt (dat M a) fun x => match x with
  | .list xs => wAlloc mt (cut xs lo hi) M Q
  | .tuple xs => Q (.p (.tuple (cut xs lo hi))) M
  | .str x => SC (x.length ≤ 16777216) (Q (.p (.str (L2.cutS x lo hi))) M)
  | _ => False
def wRev (mt : Bool) (a : D) (M : Mem) (Q : D → Mem → Prop) : Prop := wOpt (dat M a) fun x => match x with
  | .list xs => wAlloc mt xs.reverse M Q
  | .tuple xs => Q (.p (.tuple xs.reverse)) M
  | _ => False
def wOne (ds : List D) (M : Mem) (Q : PyData → Prop) : Prop := match ds with
  | [d] => wOpt (dat M d) Q
  | _ => False
def wTwo (ds : List D) (M : Mem) (Q : PyData → PyData → Prop) : Prop := match ds with
  | [d, e] => wOpt (dat M d) fun x => wOpt (dat M e) fun y => Q x y
  | _ => False
def wLst (x : PyData) (Q : List PyData → Prop) : Prop := match x with
  | .list xs => Q xs
  | _ => False
def wSeqP (x : PyData) (Q : List PyData → Prop) : Prop := match x with
  | .list xs => Q xs
  | .tuple xs => Q xs
  | _ => False
def wBlt (b : BF) (ds : List D) (M : Mem) (Q : D → Mem → Prop) : Prop := match b with
  | .len => (match ds with
    | [.scr ns] => Q (.p (.int ns.length)) M
    | ds => wOne ds M fun x => match x with
      | .list xs => Q (.p (.int xs.length)) M
      | .tuple xs => Q (.p (.int xs.length)) M
      | .str x => SC (x.length ≤ 16777216) (Q (.p (.int x.length)) M)
      | _ => False)
  | .min => wTwo ds M fun x y => match x, y with
    | .int i, .int j => Q (.p (.int (if j < i then j else i))) M
    | _, _ => False
  | .max => wTwo ds M fun x y => match x, y with
    | .int i, .int j => Q (.p (.int (if j > i then j else i))) M
    | _, _ => False
  | .abs => wOne ds M fun x => match x with
    | .int i => Q (.p (.int (if i < 0 then -i else i))) M
    | _ => False
  | .sum => wOne ds M fun x => wSeqP x fun xs => wOpt (asInts xs) fun ns => Q (.p (.int ns.sum)) M
  | .all => wOne ds M fun x => wLst x fun xs => wOpt (asBools xs) fun ns => Q (.p (.bool (ns.all id))) M
  | .any => wOne ds M fun x => wLst x fun xs => wOpt (asBools xs) fun ns => Q (.p (.bool (ns.any id))) M
  | .tuple => wOne ds M fun x => wSeqP x fun xs => Q (.p (.tuple xs)) M
  | .list mt => wOne ds M fun x => wSeqP x fun xs => wAlloc mt xs M Q
  | .repr => wOne ds M fun x => SC ((x.showable && decide (x.depth ≤ 60) && decide (x.shown.length ≤ 16777216) && (!x.hasDict || noLst x)) = true) (Q (.p (.str x.shown)) M)
  | .str => wOne ds M fun x => match x with
    | .int i => SC (i.natAbs.log2 < 1920) (Q (.p (.str (toString i))) M)
    | .str x => Q (.p (.str x)) M
    | _ => False
  | .isi t => wOne ds M fun x => Q (.p (.bool (isTy t x))) M
  | .sorted mt => wOne ds M fun x => wLst x fun xs => wOpt (asInts xs) fun ns => wAlloc mt ((sortI ns).map PyData.int) M Q
def wFrz (d : D) (M : Mem) (Q : PyData → Mem → Prop) : Prop := match d with
  | .p x => Q x M
  | .ref i => (match M[i]? with
    | some (.lst xs) => Q (.list xs) (M.set i .dead)
    | _ => False)
  | .scr _ => False
def wFrzs : List D → Mem → (List PyData → Mem → Prop) → Prop
  | [], M, Q => Q [] M
  | d :: ds, M, Q => wFrz d M fun x M => wFrzs ds M fun xs M => Q (x :: xs) M
def wRef (o : D) (M : Mem) (Q : Nat → List PyData → Prop) : Prop := match o with
  | .ref i => (match M[i]? with
    | some (.lst xs) => Q i xs
    | _ => False)
  | _ => False
def wMth (m : MF) (o : D) (ds : List D) (M : Mem) (Q : D → Mem → Prop) : Prop := match m with
  | .append => (match ds with
    | [d] => wFrz d M fun x M => wRef o M fun i xs => SC (xs.length < 16777216) (Q (.p .none) (M.set i (.lst (xs ++ [x]))))
    | _ => False)
  | .count => wTwo (o :: ds) M fun c x => wLst c fun xs => SC (inOk xs x = true) (Q (.p (.int ((xs.countP fun y => PyData.eqv y x : Nat) : Int))) M)
  | .index => Wr (mthop .index o ds M) Q NoX
  | .pop => (match ds with
    | [d] => wRef o M fun i xs => wInt d fun k => SC (-(2 ^ 63) ≤ k ∧ k < 2 ^ 63) (wOpt (L2.ixN xs.length k) fun n => wOpt xs[n]? fun x => Q (.p x) (M.set i (.lst (xs.eraseIdx n))))
    | _ => False)
def wIns (M : Mem) (d : D) (c : Nat) (Q : Nat → List (Str × FK) → Prop) : Prop := match d with
  | .ref i => (match M[i]? with
    | some (.hdr c' ks) => SC (c' = c + 1) (Q i ks)
    | _ => False)
  | _ => False
def wCel (o : D) (M : Mem) (Q : Nat → MO → Prop) : Prop := match o with
  | .ref i => wOpt M[i]? fun c => Q i c
  | _ => False
def wSub (o i v : D) (M : Mem) (Q : Mem → Prop) : Prop := wFrz v M fun x M => wCel o M fun j c => match c with
  | .lst xs => wInt i fun k => wOpt (L2.ixN xs.length k) fun n => Q (M.set j (.lst (xs.set n x)))
  | .hdr 0 ks => wInt i fun k => wOpt (L2.ixN ks.length k) fun n => wOpt ks[n]? fun p => (match p.2 with
    | .d _ => Q (M.set j (.hdr 0 (ks.set n (p.1, .d x))))
    | _ => False)
  | .dct kvs => wInt i fun k => SC (kvs.length < 16777216) (Q (M.set j (.dct (dPut kvs k x))))
  | _ => False
def wItems (J : It) (Q : List PyData → Prop) : Prop := match J with
  | .items xs => Q xs
  | .live _ => False
def wSeqD (d : D) (Q : List PyData → Prop) : Prop := match d with
  | .p (.tuple xs) => Q xs
  | .p (.list xs) => Q xs
  | _ => False
def wSeqI (d : D) (M : Mem) (Q : It → Prop) : Prop := match d with
  | .p (.list xs) => Q (.items xs)
  | .p (.tuple xs) => Q (.items xs)
  | .ref i => (match M[i]? with
    | some (.lst _) => Q (.live i)
    | _ => False)
  | _ => False
section
variable {α : Type} {X : Nat → Mem → Prop}
theorem wVar.s {o : Option (Option D)} {Q : D → Prop} (h : wVar o Q) : ∃ d, o = some (some d) ∧ Q d := by
  unfold wVar at h
  split at h
  · exact ⟨_, rfl, h⟩
  · exact h.elim
theorem wOpt.s {o : Option α} {Q : α → Prop} (h : wOpt o Q) : ∃ d, o = some d ∧ Q d := by
  unfold wOpt at h
  split at h
  · exact ⟨_, rfl, h⟩
  · exact h.elim
theorem wOpt.i {o : Option α} {Q : α → Prop} {a : α} (h : o = some a) (q : Q a) : wOpt o Q := by subst h; exact q
theorem wAlloc.s {mt : Bool} {xs : List PyData} {M : Mem} {Q : D → Mem → Prop} (h : wAlloc mt xs M Q) : Wr (alloc mt xs M) Q X := by
  cases mt
  · exact .ok _ _ rfl h
  · exact .ok _ _ rfl h
theorem wBin.s {op : BOp} {mt : Bool} {a b : D} {M : Mem} {Q : D → Mem → Prop} (h : wBin op mt a b M Q) : Wr (binop op mt a b M) Q X := by
  obtain ⟨x, hx, y, hy, h⟩ : ∃ x, dat M a = some x ∧ ∃ y, dat M b = some y ∧ wBinP op mt x y M Q := by
    obtain ⟨x, hx, h⟩ := wOpt.s h
    obtain ⟨y, hy, h⟩ := wOpt.s h
    exact ⟨x, hx, y, hy, h⟩
  unfold wBinP at h
  split at h <;> split at h <;> first
    | exact h.elim
    | (refine .ok _ _ ?_ h; simp only [binop, hx, hy]; done)
    | (refine .ok _ _ ?_ h.p; simp only [binop, hx, hy]; rw [if_pos h.c]; done)
    | (simp only [binop, hx, hy]; rw [if_pos h.c]; exact h.p.s)
theorem eqIt.s {x y : PyData} {neg : Bool} {Q : Bool → Prop} (h : eqIt x y neg Q) : (x.plain = true ∧ y.plain = true ∧ x.depth ≤ 60) ∧ Q (if neg then !(PyData.eqv x y) else PyData.eqv x y) := by
  unfold eqIt at h
  split at h
  · rename_i i j
    refine ⟨⟨rfl, rfl, Nat.zero_le _⟩, ?_⟩
    have e : PyData.eqv (.int i) (.int j) = decide (i = j) := by simp only [PyData.eqv]; by_cases h : i = j <;> simp [h]
    rw [e]; exact h
  · exact ⟨h.c, h.p⟩
theorem wCmpP.s {op : COp} {x y : PyData} {Q : Bool → Prop} (h : wCmpP op x y Q) : ∃ k, cmpB op x y = some k ∧ Q k := by
  unfold wCmpP at h
  split at h
  · obtain ⟨⟨h1, h2, h3⟩, q⟩ := eqIt.s h
    exact ⟨_, (by simp only [cmpB, h1, h2, h3, decide_true, Bool.and_self, if_true] <;> rfl), q⟩
  · obtain ⟨⟨h1, h2, h3⟩, q⟩ := eqIt.s h
    exact ⟨_, (by simp only [cmpB, h1, h2, h3, decide_true, Bool.and_self, if_true] <;> rfl), q⟩
  all_goals split at h <;> first
    | exact h.elim
    | exact ⟨_, rfl, h⟩
    | exact ⟨_, by simp only [cmpB]; rw [if_pos h.c], h.p⟩
    | (refine ⟨_, ?_, h⟩; cases x <;> rfl)
    | (split at h <;> first | exact h.elim | exact ⟨_, rfl, h⟩)
theorem wCmp.s {op : COp} {a b : D} {M : Mem} {Q : D → Mem → Prop} (h : wCmp op a b M Q) : Wr (cmpop op a b M) Q X := by
  obtain ⟨x, hx, h⟩ := wOpt.s h
  obtain ⟨y, hy, h⟩ := wOpt.s h
  obtain ⟨k, hk, h⟩ := wCmpP.s h
  exact .ok _ _ (by simp only [cmpop, hx, hy, hk]) h
theorem wTruth.s {M : Mem} {d : D} {Q : Bool → Prop} (h : wTruth M d Q) : ∃ b, truth M d = some b ∧ Q b := by
  obtain ⟨x, hx, h⟩ := wOpt.s h
  split at h <;> first
    | exact h.elim
    | exact ⟨_, by simp only [truth, hx], h⟩
    | exact ⟨_, by simp only [truth, hx]; rw [if_pos h.c], h.p⟩
theorem wTruth.b {M : Mem} {d : D} {Q : Bool → Mem → Prop} (h : wTruth M d fun b => Q b M) : Wr (toB M d) Q X := by
  obtain ⟨b, e, q⟩ := wTruth.s h
  exact .ok _ _ (by rw [toB, e]) q
theorem wIsB.s {d : D} {Q : Bool → Prop} (h : wIsB d Q) : ∃ b, d = .p (.bool b) ∧ Q b := by
  unfold wIsB at h
  split at h
  · exact ⟨_, rfl, h⟩
  · exact h.elim
theorem wInt.s {d : D} {Q : Int → Prop} (h : wInt d Q) : ∃ b, d = .p (.int b) ∧ Q b := by
  unfold wInt at h
  split at h
  · exact ⟨_, rfl, h⟩
  · exact h.elim
theorem wBoxAt.s {M : Mem} {a : D} {k : Int} {Q : D → Mem → Prop} (h : wBoxAt M a k Q) : Wr (boxAt M a k) Q X := by
  unfold wBoxAt at h
  split at h
  · split at h
    · rename_i e
      obtain ⟨p, e2, h⟩ := wOpt.s h
      obtain ⟨d, e3, h⟩ := wOpt.s h
      exact .ok _ _ (by simp only [boxAt, e, e2, e3]) h
    · exact h.elim
  · exact h.elim
theorem wIdx.s {a i : D} {M : Mem} {Q : D → Mem → Prop} (h : wIdx a i M Q) : Wr (idxop a i M) Q X := by
  unfold wIdx at h
  split at h
  · rename_i k
    cases a with
    | scr ns =>
      obtain ⟨x, e, q⟩ := wOpt.s h
      exact .ok _ _ (by simp only [idxop, e]) q
    | p z =>
      obtain ⟨x, hx, h⟩ := wOpt.s h
      split at h
      · obtain ⟨z, e, q⟩ := wOpt.s h
        exact .ok _ _ (by simp only [idxop, hx, e]) q
      · obtain ⟨z, e, q⟩ := wOpt.s h
        exact .ok _ _ (by simp only [idxop, hx, e]) q
      · obtain ⟨z, e, q⟩ := wOpt.s h.p
        exact .ok _ _ (by simp only [idxop, hx]; rw [if_pos h.c]; simp only [e]) q
      · exact h.elim
    | ref z =>
      try dsimp only at h
      split at h
      · rename_i hx
        obtain ⟨z, e, q⟩ := wOpt.s h
        exact .ok _ _ (by simp only [idxop, hx, e]) q
      · rename_i hx
        have e : idxop (.ref z) (.p (.int k)) M = boxAt M (.ref z) k := by simp only [idxop, hx]
        rw [e]
        exact wBoxAt.s h
      · exact h.elim
  · exact h.elim
theorem wSlc.s {mt : Bool} {a : D} {lo hi : Option Int} {M : Mem} {Q : D → Mem → Prop} (h : wSlc mt a lo hi M Q) : Wr (slcop mt a lo hi M) Q X := by
  obtain ⟨x, hx, h⟩ := wOpt.s h
  split at h
  · simp only [slcop, hx]; exact h.s
  · exact .ok _ _ (by simp only [slcop, hx]) h
  · exact .ok _ _ (by simp only [slcop, hx]; rw [if_pos h.c]) h.p
  · exact h.elim
theorem wRev.s {mt : Bool} {a : D} {M : Mem} {Q : D → Mem → Prop} (h : wRev mt a M Q) : Wr (revop mt a M) Q X := by
  obtain ⟨x, hx, h⟩ := wOpt.s h
  split at h
  · simp only [revop, hx]; exact h.s
  · exact .ok _ _ (by simp only [revop, hx]) h
  · exact h.elim
theorem wOne.s {ds : List D} {M : Mem} {Q : PyData → Prop} (h : wOne ds M Q) : ∃ d x, ds = [d] ∧ dat M d = some x ∧ Q x := by
  unfold wOne at h
  split at h
  · obtain ⟨x, hx, q⟩ := wOpt.s h
    exact ⟨_, x, rfl, hx, q⟩
  · exact h.elim
theorem wTwo.s {ds : List D} {M : Mem} {Q : PyData → PyData → Prop} (h : wTwo ds M Q) : ∃ d e x y, ds = [d, e] ∧ dat M d = some x ∧ dat M e = some y ∧ Q x y := by
  unfold wTwo at h
  split at h
  · obtain ⟨x, hx, q⟩ := wOpt.s h
    obtain ⟨y, hy, q⟩ := wOpt.s q
    exact ⟨_, _, x, y, rfl, hx, hy, q⟩
  · exact h.elim
theorem wLst.s {x : PyData} {Q : List PyData → Prop} (h : wLst x Q) : ∃ xs, x = .list xs ∧ Q xs := by
  unfold wLst at h
  split at h
  · exact ⟨_, rfl, h⟩
  · exact h.elim
theorem wSeqP.s {x : PyData} {Q : List PyData → Prop} (h : wSeqP x Q) : ∃ xs, (x = .list xs ∨ x = .tuple xs) ∧ Q xs := by
  unfold wSeqP at h
  split at h
  · exact ⟨_, .inl rfl, h⟩
  · exact ⟨_, .inr rfl, h⟩
  · exact h.elim
theorem bltop_len {ds : List D} {M : Mem} (h : ∀ ns, ds ≠ [.scr ns]) : bltop .len ds M = one bLen ds M := by
  unfold bltop
  try dsimp only
  split
  · exact absurd rfl (h _)
  · rfl
theorem wBlt.s {b : BF} {ds : List D} {M : Mem} {Q : D → Mem → Prop} (h : wBlt b ds M Q) : Wr (bltop b ds M) Q X := by
  cases b with
  | len =>
    simp only [wBlt] at h
    split at h
    · exact .ok _ _ rfl h
    · rename_i hn
      rw [bltop_len fun ns e => hn ns e]
      obtain ⟨d, x, rfl, hx, h⟩ := wOne.s h
      split at h <;> first
        | exact h.elim
        | exact .ok _ _ (by simp only [one, hx, bLen]) h
        | exact .ok _ _ (by simp only [one, hx, bLen]; rw [if_pos h.c]) h.p
  | min =>
    obtain ⟨d, e, x, y, rfl, hx, hy, h⟩ := wTwo.s h
    split at h <;> first
      | exact h.elim
      | exact .ok _ _ (by simp only [bltop, two, hx, hy, bMin]) h
  | max =>
    obtain ⟨d, e, x, y, rfl, hx, hy, h⟩ := wTwo.s h
    split at h <;> first
      | exact h.elim
      | exact .ok _ _ (by simp only [bltop, two, hx, hy, bMax]) h
  | abs =>
    obtain ⟨d, x, rfl, hx, h⟩ := wOne.s h
    split at h <;> first
      | exact h.elim
      | exact .ok _ _ (by simp only [bltop, one, hx, bAbs]) h
  | sum =>
    obtain ⟨d, x, rfl, hx, h⟩ := wOne.s h
    obtain ⟨xs, hxs, h1⟩ := wSeqP.s h
    obtain ⟨ns, e, h2⟩ := wOpt.s h1
    rcases hxs with rfl | rfl
    · exact .ok _ _ (by simp only [bltop, one, hx, bSum, e]) h2
    · exact .ok _ _ (by simp only [bltop, one, hx, bSum, e]) h2
  | all =>
    obtain ⟨d, x, rfl, hx, h⟩ := wOne.s h
    obtain ⟨xs, rfl, h⟩ := wLst.s h
    obtain ⟨ns, e, h⟩ := wOpt.s h
    exact .ok _ _ (by simp only [bltop, one, hx, bAll, e]) h
  | any =>
    obtain ⟨d, x, rfl, hx, h⟩ := wOne.s h
    obtain ⟨xs, rfl, h⟩ := wLst.s h
    obtain ⟨ns, e, h⟩ := wOpt.s h
    exact .ok _ _ (by simp only [bltop, one, hx, bAny, e]) h
  | tuple =>
    obtain ⟨d, x, rfl, hx, h⟩ := wOne.s h
    obtain ⟨xs, rfl | rfl, h⟩ := wSeqP.s h
    · exact .ok _ _ (by simp only [bltop, one, hx, bTuple]) h
    · exact .ok _ _ (by simp only [bltop, one, hx, bTuple]) h
  | list mt =>
    obtain ⟨d, x, rfl, hx, h⟩ := wOne.s h
    obtain ⟨xs, rfl | rfl, h⟩ := wSeqP.s h
    · simp only [bltop, one, hx, bList]; exact wAlloc.s h
    · simp only [bltop, one, hx, bList]; exact wAlloc.s h
  | repr =>
    obtain ⟨d, x, rfl, hx, h⟩ := wOne.s h
    exact .ok _ _ (by simp only [bltop, one, hx, bRepr]; rw [if_pos h.c]) h.p
  | str =>
    obtain ⟨d, x, rfl, hx, h⟩ := wOne.s h
    split at h
    · exact .ok _ _ (by simp only [bltop, one, hx, bStr]; rw [if_pos h.c]) h.p
    · exact .ok _ _ (by simp only [bltop, one, hx, bStr]) h
    · exact h.elim
  | isi t =>
    obtain ⟨d, x, rfl, hx, h⟩ := wOne.s h
    exact .ok _ _ (by simp only [bltop, one, hx, bIsi]) h
  | sorted mt =>
    obtain ⟨d, x, rfl, hx, h⟩ := wOne.s h
    obtain ⟨xs, rfl, h⟩ := wLst.s h
    obtain ⟨ns, e, h⟩ := wOpt.s h
    simp only [bltop, one, hx, bSorted, e]; exact h.s
theorem wFrz.s {d : D} {M : Mem} {Q : PyData → Mem → Prop} (h : wFrz d M Q) : ∃ x N, frzP d M = some (x, N) ∧ Q x N := by
  unfold wFrz at h
  split at h
  · exact ⟨_, _, rfl, h⟩
  · split at h
    · rename_i e; exact ⟨_, _, by simp only [frzP, e], h⟩
    · exact h.elim
  · exact h.elim
theorem wFrzs.s : ∀ {ds : List D} {M : Mem} {Q : List PyData → Mem → Prop}, wFrzs ds M Q → ∃ xs N, frzPs ds M = some (xs, N) ∧ Q xs N
  | [], M, Q, h => ⟨_, _, rfl, h⟩
  | d :: ds, M, Q, h => by
    rw [wFrzs] at h
    obtain ⟨x, N, e, h⟩ := wFrz.s h
    obtain ⟨xs, K, e', h⟩ := wFrzs.s h
    exact ⟨_, _, by rw [frzPs, e]; simp only [e'], h⟩
theorem wRef.s {o : D} {M : Mem} {Q : Nat → List PyData → Prop} (h : wRef o M Q) : ∃ i xs, o = .ref i ∧ M[i]? = some (.lst xs) ∧ Q i xs := by
  unfold wRef at h
  split at h
  · split at h
    · rename_i e; exact ⟨_, _, rfl, e, h⟩
    · exact h.elim
  · exact h.elim
theorem wMth.s {m : MF} {o : D} {ds : List D} {M : Mem} {Q : D → Mem → Prop} (h : wMth m o ds M Q) : Wr (mthop m o ds M) Q NoX := by
  cases m with
  | append =>
    simp only [wMth] at h
    split at h
    · obtain ⟨x, N, e, h⟩ := wFrz.s h
      obtain ⟨i, xs, rfl, e', h⟩ := wRef.s h
      exact .ok _ _ (by simp only [mthop, mAppend, e, e']; rw [if_pos h.c]) h.p
    · exact h.elim
  | count =>
    obtain ⟨d, e, x, y, hds, hx, hy, h1⟩ := wTwo.s h
    cases hds
    obtain ⟨xs, rfl, h⟩ := wLst.s h1
    exact .ok _ _ (by simp only [mthop, two, hx, hy, bCount]; rw [if_pos h.c]) h.p
  | index => exact h
  | pop =>
    simp only [wMth] at h
    split at h
    · obtain ⟨i, xs, rfl, e', h⟩ := wRef.s h
      obtain ⟨k, rfl, h⟩ := wInt.s h
      obtain ⟨n, e1, h1⟩ := wOpt.s h.p
      obtain ⟨x, e2, h2⟩ := wOpt.s h1
      exact .ok _ _ (by simp only [mthop, mPop, e']; rw [if_pos h.c]; simp only [e1, e2]) h2
    · exact h.elim
theorem wIns.s {M : Mem} {d : D} {c : Nat} {Q : Nat → List (Str × FK) → Prop} (h : wIns M d c Q) : ∃ i ks, insAt M d c = some (i, ks) ∧ Q i ks := by
  unfold wIns at h
  split at h
  · split at h
    · rename_i e
      exact ⟨_, _, by simp only [insAt, e]; rw [if_pos h.c], h.p⟩
    · exact h.elim
  · exact h.elim
theorem wCel.s {o : D} {M : Mem} {Q : Nat → MO → Prop} (h : wCel o M Q) : ∃ i c, o = .ref i ∧ M[i]? = some c ∧ Q i c := by
  unfold wCel at h
  split at h
  · obtain ⟨c, e, h⟩ := wOpt.s h
    exact ⟨_, c, rfl, e, h⟩
  · exact h.elim
theorem wSub.s {o i v : D} {M : Mem} {Q : Mem → Prop} (h : wSub o i v M Q) : Wr (subop o i v M) (fun _ N => Q N) X := by
  obtain ⟨x, N, e, h⟩ := wFrz.s h
  obtain ⟨j, c, rfl, e', h⟩ := wCel.s h
  split at h
  · obtain ⟨k, rfl, h⟩ := wInt.s h
    obtain ⟨n, e'', h⟩ := wOpt.s h
    exact .ok () _ (by simp only [subop, e, e', e'']) h
  · obtain ⟨k, rfl, h⟩ := wInt.s h
    obtain ⟨n, e'', h⟩ := wOpt.s h
    obtain ⟨p, e3, h⟩ := wOpt.s h
    obtain ⟨y, u⟩ := p
    cases u with
    | d z => exact .ok () _ (by simp only [subop, e, e', e'', e3]) h
    | s z => exact h.elim
  · obtain ⟨k, rfl, h⟩ := wInt.s h
    exact .ok () _ (by simp only [subop, e, e']; rw [if_pos h.c]) h.p
  · exact h.elim
theorem wItems.s {J : It} {Q : List PyData → Prop} (h : wItems J Q) : ∃ xs, J = .items xs ∧ Q xs := by
  unfold wItems at h
  split at h
  · exact ⟨_, rfl, h⟩
  · exact h.elim
theorem wSeqI.s {d : D} {M : Mem} {Q : It → Prop} (h : wSeqI d M Q) : ∃ J, seqOf d M = some J ∧ Q J := by
  unfold wSeqI at h
  split at h
  · exact ⟨_, rfl, h⟩
  · exact ⟨_, rfl, h⟩
  · split at h
    · rename_i e; exact ⟨_, by simp only [seqOf, e], h⟩
    · exact h.elim
  · exact h.elim
end
end Mi

set_option Elab.async false
set_option linter.all false
/-! Mi: the wishes of expressions and statements. -/
namespace Mi
open PySem
def cmpBody (fn : Fn) (ws : List Nat) (t : Tg) (c : CEo) (e : CE) (ρ : Env) (x : PyData) (M : Mem) : Res (Option PyData) := match bindT t x (wipeE ρ ws) with
  | some ρ' => (evC fn c ρ' M).bind fun k M => if k then (evE fn e ρ' M).bind fun d M => match frzP d M with
      | some (y, M) => .ok (some y) M
      | none => .bad
    else .ok none M
  | none => .bad
def forBody (fn : Fn) (fuel : Nat) (t : Tg) (b : CSs) (x : PyData) (ρ : Env) (M : Mem) : Res Fl := match bindT t x ρ with
  | some ρ => evSs fn fuel b ρ M
  | none => .bad
def whlTest (fn : Fn) (c : CE) (ρ : Env) (M : Mem) : Res Bool := (evE fn c ρ M).bind fun d M => toB M d
def wRng (d : D) (Q : Int → Prop) : Prop := wInt d fun j => SC (rngOk j = true) (Q j)
def wEnum (d : D) (Q : List PyData → Prop) : Prop := match d with
  | .p (.list xs) => Q (enumP 0 xs)
  | .p (.tuple xs) => Q (enumP 0 xs)
  | _ => False
def wZip (d e : D) (Q : List PyData → Prop) : Prop := match d, e with
  | .p (.list xs), .p (.list ys) => Q (zipP xs ys)
  | .p (.tuple xs), .p (.tuple ys) => Q (zipP xs ys)
  | .p (.list xs), .p (.tuple ys) => Q (zipP xs ys)
  | .p (.tuple xs), .p (.list ys) => Q (zipP xs ys)
  | _, _ => False
theorem wSeqD.q {d : D} {Q : List PyData → Prop} (h : wSeqD d Q) : ∃ xs, seqP d = some xs ∧ Q xs := by
  unfold wSeqD at h
  split at h
  · exact ⟨_, rfl, h⟩
  · exact ⟨_, rfl, h⟩
  · exact h.elim
def wStr (x : PyData) (Q : Str → Prop) : Prop := match x with
  | .str a => Q a
  | _ => False
theorem wStr.s {x : PyData} {Q : Str → Prop} (h : wStr x Q) : ∃ a, x = .str a ∧ Q a := by
  unfold wStr at h; split at h
  · exact ⟨_, rfl, h⟩
  · exact h.elim
def wDat (M : Mem) (d : D) (Q : PyData → Prop) : Prop := match d with
  | .p x => Q x
  | .ref i => (match M[i]? with
    | some (.lst xs) => Q (.list xs)
    | _ => False)
  | .scr _ => False
theorem wDat.s {M : Mem} {d : D} {Q : PyData → Prop} (h : wDat M d Q) : ∃ x, dat M d = some x ∧ Q x := by
  unfold wDat at h; split at h
  · exact ⟨_, rfl, h⟩
  · split at h
    · rename_i e; exact ⟨_, by simp only [dat, e], h⟩
    · exact h.elim
  · exact h.elim
def wTxR (m : TM) (d : D) (Q : PyData → Prop) : Prop := match d with
  | .p x => (match m with
    | .tidx => (match x with
      | .tuple xs => Q (.tuple xs)
      | _ => False)
    | _ => (match x with
      | .str a => Q (.str a)
      | _ => False))
  | _ => False
theorem wTxR.s {m : TM} {d : D} {Q : PyData → Prop} (h : wTxR m d Q) : ∃ x, d = .p x ∧ txR m x = true ∧ Q x := by
  cases d with
  | ref i => exact h.elim
  | scr i => exact h.elim
  | p x =>
    refine ⟨x, rfl, ?_⟩
    cases m <;> cases x <;> first | exact h.elim | exact ⟨rfl, h⟩
def wTx (m : TM) (x y : PyData) (Q : PyData → Prop) : Prop := match m with
  | .join => wStr x fun a => (match y with
    | .list xs => wOpt (asStrs xs) fun ys => SC ((ys.map (·.length)).sum + ys.length * a.length ≤ 16777216) (Q (.str (Txt.join a ys)))
    | _ => False)
  | .split => wStr x fun a => wStr y fun b => SC ((b.length == 0) = false ∧ a.length + 2 ≤ 16777216) (Q (.list ((Txt.split a b).map PyData.str)))
  | .part => wStr x fun a => wStr y fun b => SC ((b.length == 0) = false ∧ a.length ≤ 16777216) (Q (.tuple [.str (Txt.partition a b).1, .str (Txt.partition a b).2.1, .str (Txt.partition a b).2.2]))
  | .cnt => wStr x fun a => wStr y fun b => Q (.int (Txt.count a b))
  | .upp => wStr x fun a => SC (a.length ≤ 5592405) (Q (.str (Txt.upper a)))
  | .tidx => (match x with
    | .tuple xs => wStr y fun z => wOpt (asStrs xs) fun ys => wOpt (idxS z 0 ys) fun j => Q (.int (j : Nat))
    | _ => False)
theorem wTx.s {m : TM} {x y : PyData} {Q : PyData → Prop} (h : wTx m x y Q) : ∃ r, txop m x y = some r ∧ Q r := by
  cases m with
  | join =>
    obtain ⟨a, rfl, h⟩ := wStr.s h
    cases y <;> try exact h.elim
    obtain ⟨ys, e, h⟩ := wOpt.s h
    exact ⟨_, by simp only [txop, e]; rw [if_pos h.c], h.p⟩
  | split =>
    obtain ⟨a, rfl, h⟩ := wStr.s h
    obtain ⟨b, rfl, h⟩ := wStr.s h
    exact ⟨_, by simp only [txop]; rw [if_pos h.c], h.p⟩
  | part =>
    obtain ⟨a, rfl, h⟩ := wStr.s h
    obtain ⟨b, rfl, h⟩ := wStr.s h
    exact ⟨_, by simp only [txop]; rw [if_pos h.c], h.p⟩
  | cnt =>
    obtain ⟨a, rfl, h⟩ := wStr.s h
    obtain ⟨b, rfl, h⟩ := wStr.s h
    exact ⟨_, rfl, h⟩
  | upp =>
    obtain ⟨a, rfl, h⟩ := wStr.s h
    exact ⟨_, by simp only [txop]; rw [if_pos h.c], h.p⟩
  | tidx =>
    cases x <;> try exact h.elim
    obtain ⟨b, rfl, h⟩ := wStr.s h
    obtain ⟨ys, e, h⟩ := wOpt.s h
    obtain ⟨j, e2, h⟩ := wOpt.s h
    exact ⟨_, by simp only [txop, e, e2], h⟩
def wDct (d : D) (Q : List (PyData × PyData) → Prop) : Prop := match d with
  | .p (.dict kvs) => Q kvs
  | _ => False
def wGet (kvs : List (PyData × PyData)) (y z : D) (Q : PyData → Prop) : Prop := match y, z with
  | .p (.str s), .p z => Q ((dLook kvs s).getD z)
  | _, _ => False
def wSeqLs (d : D) (Q : List PyData → Prop) : Prop := match d with
  | .p (.list xs) => Q xs
  | _ => False
theorem wSeqLs.s {d : D} {Q : List PyData → Prop} (h : wSeqLs d Q) : ∃ xs, d = .p (.list xs) ∧ Q xs := by
  unfold wSeqLs at h; split at h
  · exact ⟨_, rfl, h⟩
  · exact h.elim
def wRecv (x : D) (M : Mem) (P : Prop) : Prop := match dat M x with
  | some (.list _) => P
  | _ => False
mutual
def wpE (fn : Fn) : CE → Env → Mem → (D → Mem → Prop) → (Nat → Mem → Prop) → Prop
  | .var i, ρ, M, Q, _ => wVar ρ[i]? fun d => Q d M
  | .cst x, _, M, Q, _ => Q (.p x) M
  | .bin op mt a b, ρ, M, Q, X => wpE fn a ρ M (fun x M => wpE fn b ρ M (fun y M => wBin op mt x y M Q) X) X
  | .neg a, ρ, M, Q, X => wpE fn a ρ M (fun x M => wInt x fun i => Q (.p (.int (-i))) M) X
  | .not a, ρ, M, Q, X => wpE fn a ρ M (fun x M => wTruth M x fun b => Q (.p (.bool (!b))) M) X
  | .cmp op a b, ρ, M, Q, X => wpE fn a ρ M (fun x M => wpE fn b ρ M (fun y M => wCmp op x y M Q) X) X
  | .chn op op' a b c, ρ, M, Q, X => wpE fn a ρ M (fun x M => wpE fn b ρ M (fun y M => wCmp op x y M fun k M => wIsB k fun k => WIf k (wpE fn c ρ M (fun z M => wCmp op' y z M Q) X) (Q (.p (.bool false)) M)) X) X
  | .and a b, ρ, M, Q, X => wpE fn a ρ M (fun x M => wIsB x fun k => WIf k (wpE fn b ρ M Q X) (Q (.p (.bool false)) M)) X
  | .or a b, ρ, M, Q, X => wpE fn a ρ M (fun x M => wIsB x fun k => WIf k (Q (.p (.bool true)) M) (wpE fn b ρ M Q X)) X
  | .ife c a b, ρ, M, Q, X => wpE fn c ρ M (fun x M => wTruth M x fun k => WIf k (wpE fn a ρ M Q X) (wpE fn b ρ M Q X)) X
  | .tup es, ρ, M, Q, X => wpEs fn es ρ M (fun ds M => wFrzs ds M fun xs M => SC (xs.length ≤ 16777216) (Q (.p (.tuple xs)) M)) X
  | .tst a es, ρ, M, Q, X => wpE fn a ρ M (fun x M => wSeqLs x fun xs => wpEs fn es ρ M (fun ds M => wFrzs ds M fun ys M => SC ((xs ++ ys).length ≤ 16777216) (Q (.p (.tuple (xs ++ ys))) M)) X) X
  | .txm m o e, ρ, M, Q, X => wpE fn o ρ M (fun x M => wTxR m x fun x => wpE fn e ρ M (fun y M => wDat M y fun y => wTx m x y fun r => Q (.p r) M) X) X
  | .dgt d a b, ρ, M, Q, X => wpE fn d ρ M (fun x M => wDct x fun kvs => wpE fn a ρ M (fun y M => wpE fn b ρ M (fun z M => wGet kvs y z fun r => Q (.p r) M) X) X) X
  | .nat n es, ρ, M, Q, X => wpEs fn es ρ M (fun ds M => wOpt (asPs ds) fun xs => wOpt (natop n xs) fun r => Q (.p r) M) NoX
  | .lst mt es, ρ, M, Q, X => wpEs fn es ρ M (fun ds M => wFrzs ds M fun xs M => SC (xs.length ≤ 16777216) (wAlloc mt xs M Q)) X
  | .dct ks vs, ρ, M, Q, X => wpEs fn ks ρ M (fun ks M => wpEs fn vs ρ M (fun vs M => Wr (dctop ks vs M) Q X) X) X
  | .idx a i, ρ, M, Q, X => wpE fn a ρ M (fun x M => wpE fn i ρ M (fun y M => wIdx x y M Q) X) X
  | .slc mt a lo hi, ρ, M, Q, X => wpE fn a ρ M (fun x M => wpO fn lo ρ M (fun l M => wpO fn hi ρ M (fun h M => wSlc mt x l h M Q) X) X) X
  | .rev mt a, ρ, M, Q, X => wpE fn a ρ M (fun x M => wRev mt x M Q) X
  | .call f es, ρ, M, Q, X => wpEs fn es ρ M (fun ds M => Wr (fn f ds M) Q X) X
  | .said f es, ρ, M, Q, _ => wpEs fn es ρ M (fun ds M => Wr (fn f ds M) (fun d M => wBlt .repr [d] M Q) fun c M => ∃ w, exWord c = some w ∧ Q (.p (.str (Str.ofString "! " ++ w))) M) fun c M => ∃ w, exWord c = some w ∧ Q (.p (.str (Str.ofString "! " ++ w))) M
  | .blt b es, ρ, M, Q, X => wpEs fn es ρ M (fun ds M => wBlt b ds M Q) X
  | .mth m o es, ρ, M, Q, X => wpE fn o ρ M (fun x M => wRecv x M (wpEs fn es ρ M (fun ds M => wMth m x ds M Q) X)) X
  | .comp mt ws t it c e, ρ, M, Q, X => wpI fn it ρ M (fun J M => wItems J fun xs => Wr (compLoop (cmpBody fn ws t c e ρ) xs [] M) (fun ys M => wAlloc mt ys M Q) X) X
  | .box e m, ρ, M, Q, X => wpE fn e ρ M (fun d M => wFrz d M fun x M => SC (m ≤ 100) (Q (.ref (M.length + (List.replicate m (MO.lst [])).length)) (M ++ List.replicate m (MO.lst []) ++ [.hdr 0 (boxF x m)]))) X
  | .fld c x o, ρ, M, Q, X => wpE fn o ρ M (fun d M => wIns M d c fun i ks => wOpt (ks.lookup x) fun k => wOpt (fkD i k) fun d => Q d M) X
  | .mcl c x f o es, ρ, M, Q, X => wpE fn o ρ M (fun d M => wIns M d c fun i ks => SC ((ks.lookup x).isNone = true) (wpEs fn es ρ M (fun ds M => Wr (fn f (.ref i :: ds) M) Q X) X)) X
  | .mk n c es, ρ, M, Q, X => wpEs fn es ρ M (fun ds M => wOpt (asPs ds) fun xs => Wr (mkop n c xs M) Q X) X
def wpEs (fn : Fn) : CEs → Env → Mem → (List D → Mem → Prop) → (Nat → Mem → Prop) → Prop
  | .nil, _, M, Q, _ => Q [] M
  | .cons e es, ρ, M, Q, X => wpE fn e ρ M (fun d M => wpEs fn es ρ M (fun ds M => Q (d :: ds) M) X) X
def wpO (fn : Fn) : CEo → Env → Mem → (Option Int → Mem → Prop) → (Nat → Mem → Prop) → Prop
  | .no, _, M, Q, _ => Q none M
  | .yes e, ρ, M, Q, X => wpE fn e ρ M (fun d M => wInt d fun i => Q (some i) M) X
def wpI (fn : Fn) : CI → Env → Mem → (It → Mem → Prop) → (Nat → Mem → Prop) → Prop
  | .seq e, ρ, M, Q, X => wpE fn e ρ M (fun d M => wSeqI d M fun J => Q J M) X
  | .rng a, ρ, M, Q, X => wpE fn a ρ M (fun x M => wRng x fun j => Q (.items (rngP 0 j)) M) X
  | .rng2 a b, ρ, M, Q, X => wpE fn a ρ M (fun x M => wpE fn b ρ M (fun y M => wRng x fun i => wRng y fun j => Q (.items (rngP i j)) M) X) X
  | .enum e, ρ, M, Q, X => wpE fn e ρ M (fun x M => wEnum x fun xs => Q (.items xs) M) X
  | .zip3 a b c, ρ, M, Q, X => wpE fn a ρ M (fun x M => wpE fn b ρ M (fun y M => wpE fn c ρ M (fun z M => wSeqD x fun xs => wSeqD y fun ys => wSeqD z fun zs => Q (.items (zipP3 xs ys zs)) M) X) X) X
  | .zip a b, ρ, M, Q, X => wpE fn a ρ M (fun x M => wpE fn b ρ M (fun y M => wZip x y fun xs => Q (.items xs) M) X) X
end
def wpC (fn : Fn) : CEo → Env → Mem → (Bool → Mem → Prop) → (Nat → Mem → Prop) → Prop
  | .no, _, M, Q, _ => Q true M
  | .yes e, ρ, M, Q, X => wpE fn e ρ M (fun d M => wTruth M d fun k => Q k M) X
section
variable {fn : Fn}
mutual
theorem wpE.s : ∀ {e : CE} {ρ : Env} {M : Mem} {Q : D → Mem → Prop} {X : Nat → Mem → Prop}, wpE fn e ρ M Q X → Wr (evE fn e ρ M) Q X
  | .var i, ρ, M, Q, X, h => by
    rw [wpE] at h
    obtain ⟨d, e, q⟩ := wVar.s h
    exact .ok _ _ (by rw [evE, e]) q
  | .cst x, ρ, M, Q, X, h => by rw [wpE] at h; exact .ok _ _ (by rw [evE]) h
  | .bin op mt a b, ρ, M, Q, X, h => by
    rw [wpE] at h; rw [evE]
    exact ((wpE.s h).mono (fun x M h => ((wpE.s h).mono (fun y M h => wBin.s h) fun _ _ h => h).bind) fun _ _ h => h).bind
  | .neg a, ρ, M, Q, X, h => by
    rw [wpE] at h; rw [evE]
    refine ((wpE.s h).mono (fun x M h => ?_) fun _ _ h => h).bind
    obtain ⟨i, rfl, q⟩ := wInt.s h
    exact .ok _ _ rfl q
  | .not a, ρ, M, Q, X, h => by
    rw [wpE] at h; rw [evE]
    refine ((wpE.s h).mono (fun x M h => ?_) fun _ _ h => h).bind
    obtain ⟨b, e, q⟩ := wTruth.s h
    exact .ok _ _ (by simp only [toB, e, Res.bind]) q
  | .cmp op a b, ρ, M, Q, X, h => by
    rw [wpE] at h; rw [evE]
    exact ((wpE.s h).mono (fun x M h => ((wpE.s h).mono (fun y M h => wCmp.s h) fun _ _ h => h).bind) fun _ _ h => h).bind
  | .chn op op' a b c, ρ, M, Q, X, h => by
    rw [wpE] at h; rw [evE]
    refine ((wpE.s h).mono (fun x M h => ((wpE.s h).mono (fun y M h => ?_) fun _ _ h => h).bind) fun _ _ h => h).bind
    refine ((wCmp.s (X := X) h).mono (fun k M h => ?_) fun _ _ h => h).bind
    obtain ⟨b, rfl, q⟩ := wIsB.s h
    refine (Wr.bind (.ok b M rfl ?_))
    exact WIf.ite (q.imp (fun h => ((wpE.s h).mono (fun z M h => wCmp.s h) fun _ _ h => h).bind) fun h => .ok _ _ rfl h)
  | .and a b, ρ, M, Q, X, h => by
    rw [wpE] at h; rw [evE]
    refine ((wpE.s h).mono (fun x M h => ?_) fun _ _ h => h).bind
    obtain ⟨b, rfl, q⟩ := wIsB.s h
    refine (Wr.bind (.ok b M rfl ?_))
    exact WIf.ite (q.imp (fun h => wpE.s h) fun h => .ok _ _ rfl h)
  | .or a b, ρ, M, Q, X, h => by
    rw [wpE] at h; rw [evE]
    refine ((wpE.s h).mono (fun x M h => ?_) fun _ _ h => h).bind
    obtain ⟨b, rfl, q⟩ := wIsB.s h
    refine (Wr.bind (.ok b M rfl ?_))
    exact WIf.ite (q.imp (fun h => .ok _ _ rfl h) fun h => wpE.s h)
  | .ife c a b, ρ, M, Q, X, h => by
    rw [wpE] at h; rw [evE]
    refine ((wpE.s h).mono (fun x M h => ?_) fun _ _ h => h).bind
    obtain ⟨k, e, q⟩ := wTruth.s h
    refine (Wr.bind (.ok k M (by rw [toB, e]) ?_))
    exact WIf.ite (q.imp (fun h => wpE.s h) fun h => wpE.s h)
  | .tup es, ρ, M, Q, X, h => by
    rw [wpE] at h; rw [evE]
    refine ((wpEs.s h).mono (fun ds M h => ?_) fun _ _ h => h).bind
    obtain ⟨xs, N, e, q⟩ := wFrzs.s h
    exact .ok _ _ (by simp only [e]; rw [if_pos q.c]) q.p
  | .tst a es, ρ, M, Q, X, h => by
    rw [wpE] at h; rw [evE]
    refine ((wpE.s h).mono (fun x M h => ?_) fun _ _ h => h).bind
    obtain ⟨xs, rfl, h⟩ := wSeqLs.s h
    try dsimp only
    refine ((wpEs.s h).mono (fun ds M h => ?_) fun _ _ h => h).bind
    obtain ⟨ys, N, e, q⟩ := wFrzs.s h
    exact .ok _ _ (by simp only [e]; rw [if_pos q.c]) q.p
  | .txm m o e, ρ, M, Q, X, h => by
    rw [wpE] at h; rw [evE]
    refine ((wpE.s h).mono (fun x M h => ?_) fun _ _ h => h).bind
    obtain ⟨x, rfl, hr, h⟩ := wTxR.s h
    try dsimp only
    rw [if_pos hr]
    refine ((wpE.s h).mono (fun y M h => ?_) fun _ _ h => h).bind
    obtain ⟨y, e, h⟩ := wDat.s h
    obtain ⟨r, e2, h⟩ := wTx.s h
    exact .ok _ _ (by simp only [e, e2]) h
  | .dgt d a b, ρ, M, Q, X, h => by
    rw [wpE] at h; rw [evE]
    refine ((wpE.s h).mono (fun x M h => ?_) fun _ _ h => h).bind
    unfold wDct at h
    split at h
    · try dsimp only
      refine ((wpE.s h).mono (fun y M h => ((wpE.s h).mono (fun z M h => ?_) fun _ _ h => h).bind) fun _ _ h => h).bind
      unfold wGet at h
      split at h
      · exact .ok _ _ rfl h
      · exact h.elim
    · exact h.elim
  | .nat n es, ρ, M, Q, X, h => by
    rw [wpE] at h; rw [evE]
    obtain ⟨ds, M1, e0, h⟩ := (wpEs.s h).get
    rw [e0]
    show Wr (match asPs ds with
      | some xs => (match natop n xs with
        | some r => Res.ok (D.p r) M1
        | none => .bad)
      | none => .bad) Q X
    obtain ⟨xs, e, h⟩ := wOpt.s h
    obtain ⟨r, e2, h⟩ := wOpt.s h
    exact .ok _ _ (by simp only [e, e2]) h
  | .lst mt es, ρ, M, Q, X, h => by
    rw [wpE] at h; rw [evE]
    refine ((wpEs.s h).mono (fun ds M h => ?_) fun _ _ h => h).bind
    obtain ⟨xs, N, e, q⟩ := wFrzs.s h
    simp only [e]; rw [if_pos q.c]; exact q.p.s
  | .dct ks vs, ρ, M, Q, X, h => by
    rw [wpE] at h; rw [evE]
    exact ((wpEs.s h).mono (fun x M h => ((wpEs.s h).mono (fun y M h => h) fun _ _ h => h).bind) fun _ _ h => h).bind
  | .idx a i, ρ, M, Q, X, h => by
    rw [wpE] at h; rw [evE]
    exact ((wpE.s h).mono (fun x M h => ((wpE.s h).mono (fun y M h => wIdx.s h) fun _ _ h => h).bind) fun _ _ h => h).bind
  | .slc mt a lo hi, ρ, M, Q, X, h => by
    rw [wpE] at h; rw [evE]
    exact ((wpE.s h).mono (fun x M h => ((wpO.s h).mono (fun y M h => ((wpO.s h).mono (fun y M h => wSlc.s h) fun _ _ h => h).bind) fun _ _ h => h).bind) fun _ _ h => h).bind
  | .rev mt a, ρ, M, Q, X, h => by
    rw [wpE] at h; rw [evE]
    exact ((wpE.s h).mono (fun x M h => wRev.s h) fun _ _ h => h).bind
  | .call f es, ρ, M, Q, X, h => by
    rw [wpE] at h; rw [evE]
    exact (wpEs.s h).bind
  | .said f es, ρ, M, Q, X, h => by
    rw [wpE] at h; rw [evE]
    cases ((wpEs.s h).bind (f := fun ds M => fn f ds M)) with
    | ok a N e q =>
      rw [e]
      exact wBlt.s q
    | exc c N e q =>
      obtain ⟨w, hw, q⟩ := q
      rw [e]
      refine .ok _ _ ?_ q
      unfold saidR
      simp only [hw]
  | .blt b es, ρ, M, Q, X, h => by
    rw [wpE] at h; rw [evE]
    exact ((wpEs.s h).mono (fun x M h => wBlt.s h) fun _ _ h => h).bind
  | .mth m o es, ρ, M, Q, X, h => by
    rw [wpE] at h; rw [evE]
    refine ((wpE.s h).mono (fun x M h => ?_) fun _ _ h => h).bind
    unfold wRecv at h
    split at h
    · rename_i e
      rw [if_pos (by simp only [recv, e])]
      exact ((wpEs.s h).mono (fun x M h => (wMth.s h).mono (fun _ _ h => h) fun _ _ h => h.elim) fun _ _ h => h).bind
    · exact h.elim
  | .comp mt ws t it c e, ρ, M, Q, X, h => by
    rw [wpE] at h; rw [evE]
    refine ((wpI.s h).mono (fun J M h => ?_) fun _ _ h => h).bind
    obtain ⟨xs, rfl, h⟩ := wItems.s h
    exact (h.mono (fun ys M h => wAlloc.s h) fun _ _ h => h).bind
  | .box e m, ρ, M, Q, X, h => by
    rw [wpE] at h; rw [evE]
    refine ((wpE.s h).mono (fun d M h => ?_) fun _ _ h => h).bind
    obtain ⟨x, N, e, h⟩ := wFrz.s h
    exact .ok _ _ (by simp only [e]; rw [if_pos h.c]; rfl) h.p
  | .fld c x o, ρ, M, Q, X, h => by
    rw [wpE] at h; rw [evE]
    refine ((wpE.s h).mono (fun d M h => ?_) fun _ _ h => h).bind
    obtain ⟨i, ks, e, h⟩ := wIns.s h
    obtain ⟨k, e2, h⟩ := wOpt.s h
    obtain ⟨d, e3, h⟩ := wOpt.s h
    exact .ok _ _ (by simp only [e, e2, e3]) h
  | .mcl c x f o es, ρ, M, Q, X, h => by
    rw [wpE] at h; rw [evE]
    refine ((wpE.s h).mono (fun d M h => ?_) fun _ _ h => h).bind
    obtain ⟨i, ks, e, h⟩ := wIns.s h
    simp only [e]
    rw [if_pos h.c]
    exact (wpEs.s h.p).bind
  | .mk n c es, ρ, M, Q, X, h => by
    rw [wpE] at h; rw [evE]
    refine ((wpEs.s h).mono (fun ds M h => ?_) fun _ _ h => h).bind
    obtain ⟨xs, e, h⟩ := wOpt.s h
    simp only [e]
    exact h
theorem wpEs.s : ∀ {e : CEs} {ρ : Env} {M : Mem} {Q : List D → Mem → Prop} {X : Nat → Mem → Prop}, wpEs fn e ρ M Q X → Wr (evEs fn e ρ M) Q X
  | .nil, ρ, M, Q, X, h => by rw [wpEs] at h; exact .ok _ _ (by rw [evEs]) h
  | .cons e es, ρ, M, Q, X, h => by
    rw [wpEs] at h; rw [evEs]
    exact ((wpE.s h).mono (fun x M h => ((wpEs.s h).mono (fun y M h => .ok _ _ rfl h) fun _ _ h => h).bind) fun _ _ h => h).bind
theorem wpO.s : ∀ {e : CEo} {ρ : Env} {M : Mem} {Q : Option Int → Mem → Prop} {X : Nat → Mem → Prop}, wpO fn e ρ M Q X → Wr (evO fn e ρ M) Q X
  | .no, ρ, M, Q, X, h => by rw [wpO] at h; exact .ok _ _ (by rw [evO]) h
  | .yes e, ρ, M, Q, X, h => by
    rw [wpO] at h; rw [evO]
    refine ((wpE.s h).mono (fun x M h => ?_) fun _ _ h => h).bind
    obtain ⟨i, rfl, q⟩ := wInt.s h
    exact .ok _ _ rfl q
theorem wpI.s : ∀ {e : CI} {ρ : Env} {M : Mem} {Q : It → Mem → Prop} {X : Nat → Mem → Prop}, wpI fn e ρ M Q X → Wr (evI fn e ρ M) Q X
  | .seq e, ρ, M, Q, X, h => by
    rw [wpI] at h; rw [evI]
    refine ((wpE.s h).mono (fun x M h => ?_) fun _ _ h => h).bind
    obtain ⟨J, e, q⟩ := wSeqI.s h
    exact .ok _ _ (by simp only [e]) q
  | .rng e, ρ, M, Q, X, h => by
    rw [wpI] at h; rw [evI]
    refine ((wpE.s h).mono (fun x M h => ?_) fun _ _ h => h).bind
    obtain ⟨i, rfl, q⟩ := wInt.s h
    exact .ok _ _ (by simp only; rw [if_pos q.c]) q.p
  | .rng2 a b, ρ, M, Q, X, h => by
    rw [wpI] at h; rw [evI]
    refine ((wpE.s h).mono (fun x M h => ((wpE.s h).mono (fun y M h => ?_) fun _ _ h => h).bind) fun _ _ h => h).bind
    obtain ⟨i, rfl, q⟩ := wInt.s h
    obtain ⟨j, rfl, q'⟩ := wInt.s q.p
    exact .ok _ _ (by simp only; rw [if_pos (by rw [q.c, q'.c]; rfl)]) q'.p
  | .enum e, ρ, M, Q, X, h => by
    rw [wpI] at h; rw [evI]
    refine ((wpE.s h).mono (fun x M h => ?_) fun _ _ h => h).bind
    unfold wEnum at h
    split at h
    · exact .ok _ _ rfl h
    · exact .ok _ _ rfl h
    · exact h.elim
  | .zip3 a b c, ρ, M, Q, X, h => by
    rw [wpI] at h; rw [evI]
    refine ((wpE.s h).mono (fun x M h => ((wpE.s h).mono (fun y M h => ((wpE.s h).mono (fun z M h => ?_) fun _ _ h => h).bind) fun _ _ h => h).bind) fun _ _ h => h).bind
    obtain ⟨xs, e1, h⟩ := wSeqD.q h
    obtain ⟨ys, e2, h⟩ := wSeqD.q h
    obtain ⟨zs, e3, h⟩ := wSeqD.q h
    exact .ok _ _ (by simp only [e1, e2, e3]) h
  | .zip a b, ρ, M, Q, X, h => by
    rw [wpI] at h; rw [evI]
    refine ((wpE.s h).mono (fun x M h => ((wpE.s h).mono (fun y M h => ?_) fun _ _ h => h).bind) fun _ _ h => h).bind
    unfold wZip at h
    split at h
    · exact .ok _ _ rfl h
    · exact .ok _ _ rfl h
    · exact .ok _ _ rfl h
    · exact .ok _ _ rfl h
    · exact h.elim
end
theorem wpC.s {c : CEo} {ρ : Env} {M : Mem} {Q : Bool → Mem → Prop} {X : Nat → Mem → Prop} (h : wpC fn c ρ M Q X) : Wr (evC fn c ρ M) Q X := by
  cases c with
  | no => exact .ok _ _ (by rw [evC]) h
  | yes e =>
    rw [evC]
    exact ((wpE.s h).mono (fun x M h => wTruth.b h) fun _ _ h => h).bind
end

/-! ### statements -/
/-- the names' values one by one, so that no row of changes is carried on -/
def wNorm : Env → (Env → Prop) → Prop
  | [], Q => Q []
  | x :: r, Q => wNorm r fun r' => Q (x :: r')
theorem wNorm.s : ∀ {ρ : Env} {Q : Env → Prop}, wNorm ρ Q → Q ρ
  | [], _, h => h
  | _ :: r, Q, h => wNorm.s (ρ := r) (Q := fun r' => Q (_ :: r')) h
def wSet (o : Option Env) (Q : Env → Prop) : Prop := wOpt o fun ρ => wNorm ρ Q
theorem wSet.s {o : Option Env} {Q : Env → Prop} (h : wSet o Q) : ∃ ρ, o = some ρ ∧ Q ρ := by
  obtain ⟨ρ, e, h⟩ := wOpt.s h
  exact ⟨ρ, e, h.s⟩
def wSb2 (o : Option (Option D)) (i j : Int) (ds : List D) (M : Mem) (Q : Mem → Prop) : Prop := match o, ds with
  | some (some o), [v, w] => wSub o (.p (.int i)) v M fun N => wSub o (.p (.int j)) w N Q
  | _, _ => False
def wpS (fn : Fn) (fuel : Nat) (s : CS) (ρ : Env) (M : Mem) (Q : Fl → Mem → Prop) : Prop := match s with
  | .expr e => wpE fn e ρ M (fun _ M => Q (.nx ρ) M) (fun c M => Q (.ex c ρ) M)
  | .asg t e => wpE fn e ρ M (fun d M => match t with
    | .nm i => wNorm (ρ.set i (some d)) fun ρ' => Q (.nx ρ') M
    | .tp is => wSeqD d fun xs => wSet (setAll is xs ρ) fun ρ' => Q (.nx ρ') M) (fun c M => Q (.ex c ρ) M)
  | .par is es => wpEs fn es ρ M (fun ds M => wSet (setDs is ds ρ) fun ρ' => Q (.nx ρ') M) (fun c M => Q (.ex c ρ) M)
  | .sub o i v => wpE fn v ρ M (fun v M => wpE fn o ρ M (fun o M => wpE fn i ρ M (fun i M => wSub o i v M fun N => Q (.nx ρ) N) (fun c M => Q (.ex c ρ) M)) (fun c M => Q (.ex c ρ) M)) (fun c M => Q (.ex c ρ) M)
  | .sb2 n i j es => wpEs fn es ρ M (fun ds M => wSb2 ρ[n]? i j ds M fun N => Q (.nx ρ) N) (fun c M => Q (.ex c ρ) M)
  | .ret e => wpE fn e ρ M (fun d M => Q (.rt d) M) (fun c M => Q (.ex c ρ) M)
  | .retN => Q (.rt (.p .none)) M
  | .ife c a b => wpE fn c ρ M (fun d M => wTruth M d fun k => WIf k (Wr (evSs fn fuel a ρ M) Q NoX) (Wr (evSs fn fuel b ρ M) Q NoX)) (fun c M => Q (.ex c ρ) M)
  | .loop t it b => wpI fn it ρ M (fun J M => match J with
    | .items xs => Wr (forLoop (forBody fn fuel t b) xs ρ M) Q NoX
    | .live j => Wr (liveLoop (forBody fn fuel t b) j fuel 0 ρ M) Q NoX) (fun c M => Q (.ex c ρ) M)
  | .whl c b => Wr (whileLoop (whlTest fn c) (fun ρ M => evSs fn fuel b ρ M) fuel ρ M) Q NoX
  | .pass => Q (.nx ρ) M
  | .brk => Q (.bk ρ) M
  | .cont => Q (.ct ρ) M
  | .never => False
  | .rais c => Q (.ex c ρ) M
  | .sfl c x o v => wpE fn v ρ M (fun v M => wFrz v M fun y M => wpE fn o ρ M (fun d M => wIns M d c fun i ks => wOpt (ks.lookup x) fun u => (match u with
    | .d _ => SC (ks.length < 1000) (Q (.nx ρ) (M.set i (.hdr (c + 1) (setF x (.d y) ks))))
    | _ => False)) (fun c M => Q (.ex c ρ) M)) (fun c M => Q (.ex c ρ) M)
def wpSs (fn : Fn) (fuel : Nat) (s : CSs) (ρ : Env) (M : Mem) (Q : Fl → Mem → Prop) : Prop := match s with
  | .nil => Q (.nx ρ) M
  | .cons s ss => wpS fn fuel s ρ M fun o M => match o with
    | .nx ρ' => Wr (evSs fn fuel ss ρ' M) Q NoX
    | o => Q o M
theorem Wr.onto {α : Type} {r : Res α} {f : α → Mem → Res Fl} {ρ : Env} {Q : Fl → Mem → Prop} (h : Wr r (fun a M => Wr (f a M) Q NoX) (fun c M => Q (.ex c ρ) M)) : Wr (r.onto f (evX ρ)) Q NoX := by
  cases h with
  | ok a M h q => subst h; exact q
  | exc c M h x => subst h; exact .ok _ _ rfl x
theorem wSeqD.s {d : D} {Q : List PyData → Prop} (h : wSeqD d Q) : ∃ xs, (d = .p (.tuple xs) ∨ d = .p (.list xs)) ∧ Q xs := by
  unfold wSeqD at h
  split at h
  · exact ⟨_, .inl rfl, h⟩
  · exact ⟨_, .inr rfl, h⟩
  · exact h.elim
section
variable {fn : Fn} {fuel : Nat}
theorem wpS.s {s : CS} {ρ : Env} {M : Mem} {Q : Fl → Mem → Prop} (h : wpS fn fuel s ρ M Q) : Wr (evS fn fuel s ρ M) Q NoX := by
  cases s with
  | expr e =>
    rw [evS]
    exact ((wpE.s h).mono (fun _ M h => .ok _ _ rfl h) fun _ _ h => h).onto
  | asg t e =>
    rw [evS]
    refine ((wpE.s h).mono (fun d M h => ?_) fun _ _ h => h).onto
    cases t with
    | nm i => exact .ok _ _ rfl (wNorm.s h)
    | tp is =>
      obtain ⟨xs, hd, h1⟩ := wSeqD.s h
      obtain ⟨ρ', e, h2⟩ := wSet.s h1
      rcases hd with rfl | rfl
      · exact .ok _ _ (by simp only [asgT, e]) h2
      · exact .ok _ _ (by simp only [asgT, e]) h2
  | par is es =>
    rw [evS]
    refine ((wpEs.s h).mono (fun ds M h => ?_) fun _ _ h => h).onto
    obtain ⟨ρ', e, h⟩ := wSet.s h
    exact .ok _ _ (by simp only [e]) h
  | sub o i v =>
    rw [evS]
    refine ((wpE.s h).mono (fun v M h => ?_) fun _ _ h => h).onto
    refine ((wpE.s h).mono (fun o M h => ?_) fun _ _ h => h).onto
    refine ((wpE.s h).mono (fun i M h => ?_) fun _ _ h => h).onto
    exact ((wSub.s h).mono (fun _ M h => .ok _ _ rfl h) fun _ _ h => h).onto
  | sb2 n i j es =>
    rw [evS]
    refine ((wpEs.s h).mono (fun ds M h => ?_) fun _ _ h => h).onto
    unfold wSb2 at h
    split at h
    · rename_i o v w ho
      have h : wSub o (.p (.int i)) v M fun N => wSub o (.p (.int j)) w N fun N => Q (.nx ρ) N := h
      have hb : sb2op ρ[n]? i j [v, w] M = (subop o (.p (.int i)) v M).bind fun _ M => subop o (.p (.int j)) w M := by
        unfold sb2op
        rw [ho]
      rw [hb]
      refine Wr.onto ?_
      refine Wr.bind ((wSub.s h).mono (fun _ M h => ?_) fun _ _ h => h)
      exact (wSub.s h).mono (fun _ M h => .ok _ _ rfl h) fun _ _ h => h
    · exact h.elim
  | ret e =>
    rw [evS]
    exact ((wpE.s h).mono (fun _ M h => .ok _ _ rfl h) fun _ _ h => h).onto
  | retN => exact .ok _ _ (by rw [evS]) h
  | ife c a b =>
    rw [evS]
    refine ((wpE.s h).mono (fun d M h => ?_) fun _ _ h => h).onto
    obtain ⟨k, e, q⟩ := wTruth.s h
    refine Wr.onto (.ok k M (by rw [toB, e]) ?_)
    exact WIf.ite q
  | loop t it b =>
    rw [evS]
    refine ((wpI.s h).mono (fun J M h => ?_) fun _ _ h => h).onto
    cases J with
    | items xs => exact h
    | live j => exact h
  | whl c b => rw [evS]; exact h
  | pass => exact .ok _ _ (by rw [evS]) h
  | brk => exact .ok _ _ (by rw [evS]) h
  | cont => exact .ok _ _ (by rw [evS]) h
  | never => exact h.elim
  | rais c => exact .ok _ _ (by rw [evS]) h
  | sfl c x o v =>
    rw [evS]
    refine ((wpE.s h).mono (fun v M h => ?_) fun _ _ h => h).onto
    obtain ⟨y, N, e, h⟩ := wFrz.s h
    simp only [e]
    refine ((wpE.s h).mono (fun d M h => ?_) fun _ _ h => h).onto
    obtain ⟨i, ks, e1, h⟩ := wIns.s h
    obtain ⟨u, e2, h⟩ := wOpt.s h
    cases u with
    | d z => exact .ok _ _ (by simp only [e1, e2]; rw [if_pos h.c]) h.p
    | s z => exact h.elim
theorem wpSs.s {s : CSs} {ρ : Env} {M : Mem} {Q : Fl → Mem → Prop} (h : wpSs fn fuel s ρ M Q) : Wr (evSs fn fuel s ρ M) Q NoX := by
  cases s with
  | nil => exact .ok _ _ (by rw [evSs]) h
  | cons s ss =>
    rw [evSs]
    obtain ⟨o, N, e, q⟩ := (wpS.s (Q := fun o M => match o with
      | .nx ρ' => Wr (evSs fn fuel ss ρ' M) Q NoX
      | o => Q o M) h).get
    rw [e]
    cases o with
    | nx ρ' => exact q
    | rt d => exact .ok _ _ rfl q
    | bk d => exact .ok _ _ rfl q
    | ct d => exact .ok _ _ rfl q
    | ex c d => exact .ok _ _ rfl q
/-- a stop behind a statement -/
theorem W_cutS {s : CS} {ss : CSs} {ρ : Env} {M : Mem} {Q : Fl → Mem → Prop} (P : Env → Mem → Prop) (h : wpS fn fuel s ρ M (fun o N => match o with
    | .nx ρ' => P ρ' N
    | o => Q o N)) (k : ∀ ρ' N, P ρ' N → Wr (evSs fn fuel ss ρ' N) Q NoX) : Wr (evSs fn fuel (.cons s ss) ρ M) Q NoX := by
  obtain ⟨o, N, e1, p⟩ := (wpS.s h).get
  rw [evSs, e1]
  cases o with
  | nx ρ' => exact k ρ' N p
  | rt d => exact .ok _ _ rfl p
  | bk d => exact .ok _ _ rfl p
  | ct d => exact .ok _ _ rfl p
  | ex c d => exact .ok _ _ rfl p
end
/-! ### calls -/
def wFin (frz : Bool) (n : Nat) (d : D) (N : Mem) (Q : D → Mem → Prop) : Prop := match frz with
  | false => Q d N
  | true => match d with
    | .p x => Q (.p x) (N.take n)
    | .ref i => (match N[i]? with
      | some (.lst xs) => if i < n then Q (.ref i) (N.take n) else Q (.p (.list xs)) (N.take n)
      | _ => False)
    | .scr _ => False
def wEnd (frz : Bool) (n : Nat) (o : Fl) (N : Mem) (Q : D → Mem → Prop) (X : Nat → Mem → Prop) : Prop := match o with
  | .rt d => wFin frz n d N Q
  | .nx _ => wFin frz n (.p .none) N Q
  | .ex c _ => X c (if frz then N.take n else N)
  | _ => False
theorem wFin.s {frz : Bool} {n : Nat} {d : D} {N : Mem} {Q : D → Mem → Prop} {X : Nat → Mem → Prop} (h : wFin frz n d N Q) : Wr (fin frz n d N) Q X := by
  cases frz with
  | false => exact .ok _ _ rfl h
  | true =>
    cases d with
    | p x => exact .ok _ _ rfl h
    | scr ns => exact h.elim
    | ref i =>
      unfold wFin at h
      try dsimp only at h
      split at h
      · rename_i xs e
        split at h
        · rename_i hi; exact .ok _ _ (by simp only [fin, if_true, hi]) h
        · rename_i hi; exact .ok _ _ (by simp only [fin, if_true, hi, if_false, e]) h
      · exact h.elim
theorem wp_call {T : Nat → Option FD} {fuel k f : Nat} {fd : FD} {ds : List D} {M : Mem} {Q : D → Mem → Prop} {X : Nat → Mem → Prop} (hT : T f = some fd) (hn : ds.length = fd.n)
    (h : wNorm (enter fd ds) fun ρ => Wr (evSs (run T fuel k) fuel fd.body ρ M) (fun o N => wEnd fd.frz M.length o N Q X) NoX) : Wr (run T fuel (k + 1) f ds M) Q X := by
  obtain ⟨o, N, e, q⟩ := (wNorm.s h).get
  rw [run, hT]
  simp only [callF]
  rw [if_pos hn, e]
  cases o with
  | nx ρ => exact wFin.s q
  | rt d => exact wFin.s q
  | bk ρ => exact q.elim
  | ct ρ => exact q.elim
  | ex c ρ => exact .exc _ _ rfl q
end Mi

set_option Elab.async false
set_option linter.all false
set_option maxHeartbeats 2000000
/-! Mi: a run over a small memory is a run over any memory that holds it. -/
namespace Mi
open PySem
def De (A : List Nat) (d d' : D) : Prop := match d with
  | .p x => d' = .p x
  | .scr ns => d' = .scr ns
  | .ref j => ∃ a, A[j]? = some a ∧ d' = .ref a
inductive Des (A : List Nat) : List D → List D → Prop where
  | nil : Des A [] []
  | cons {d d' : D} {ds ds' : List D} (h : De A d d') (t : Des A ds ds') : Des A (d :: ds) (d' :: ds')
/-- the cells that a header names stand as far below it -/
def Hd (A : List Nat) (j a : Nat) (o : MO) : Prop := ∀ c ks, o = .hdr c ks → ∀ p ∈ ks, ∀ k, p.2 = .s k → k < j → k < a ∧ A[j - 1 - k]? = some (a - 1 - k)
structure Em (A : List Nat) (h M : Mem) : Prop where
  len : A.length = h.length
  nd : A.Nodup
  el : ∀ j a : Nat, A[j]? = some a → M[a]? = h[j]?
  hd : ∀ (j a : Nat) o, A[j]? = some a → h[j]? = some o → Hd A j a o
structure Xt (A : List Nat) (M : Mem) (B : List Nat) (M' : Mem) : Prop where
  ln : M'.length = M.length + B.length
  nw : ∀ b ∈ B, M.length ≤ b
  fr : ∀ a : Nat, a < M.length → a ∉ A → M'[a]? = M[a]?
structure Ev (A : List Nat) (ρ ρ' : Env) : Prop where
  len : ρ.length = ρ'.length
  el : ∀ (i : Nat) (d : D), ρ[i]? = some (some d) → ∃ d', ρ'[i]? = some (some d') ∧ De A d d'
def Rr {α : Type} (V : List Nat → α → α → Prop) (A : List Nat) (M : Mem) (r r' : Res α) : Prop := match r with
  | .ok a h => ∃ B M' a', r' = .ok a' M' ∧ Em (A ++ B) h M' ∧ V (A ++ B) a a' ∧ Xt A M B M'
  | .exc c h => ∃ B M', r' = .exc c M' ∧ Em (A ++ B) h M' ∧ Xt A M B M'
  | .bad => True
theorem De.mono {A : List Nat} {d d' : D} (h : De A d d') (B : List Nat) : De (A ++ B) d d' := by
  cases d with
  | p x => exact h
  | scr x => exact h
  | ref j =>
    obtain ⟨a, e, r⟩ := h
    exact ⟨a, by rw [List.getElem?_append_left (List.getElem?_eq_some_iff.1 e).1]; exact e, r⟩
theorem Ev.mono {A : List Nat} {ρ ρ' : Env} (h : Ev A ρ ρ') (B : List Nat) : Ev (A ++ B) ρ ρ' :=
  ⟨h.len, fun i d e => by obtain ⟨d', e', r⟩ := h.el i d e; exact ⟨d', e', r.mono B⟩⟩
theorem Des.mono {A : List Nat} {ds ds' : List D} (h : Des A ds ds') (B : List Nat) : Des (A ++ B) ds ds' := by
  induction h with
  | nil => exact .nil
  | cons h t ih => exact .cons (h.mono B) ih
theorem Des.len {A : List Nat} {ds ds' : List D} (h : Des A ds ds') : ds.length = ds'.length := by
  induction h with
  | nil => rfl
  | cons h t ih => simp [ih]
theorem Ev.set {A : List Nat} {ρ ρ' : Env} (h : Ev A ρ ρ') (i : Nat) {d d' : D} (r : De A d d') : Ev A (ρ.set i (some d)) (ρ'.set i (some d')) := by
  refine ⟨by simp [h.len], fun j e hj => ?_⟩
  rw [List.getElem?_set] at hj ⊢
  by_cases hij : i = j
  · subst hij
    rw [if_pos rfl] at hj ⊢
    split at hj
    · rename_i hl
      cases hj
      exact ⟨d', by rw [if_pos (by rw [← h.len]; exact hl)], r⟩
    · cases hj
  · rw [if_neg hij] at hj ⊢
    exact h.el j e hj
theorem Ev.wipe {A : List Nat} {ρ ρ' : Env} (h : Ev A ρ ρ') : ∀ ws : List Nat, Ev A (wipeE ρ ws) (wipeE ρ' ws)
  | [] => h
  | w :: ws => by
    have ih := Ev.wipe h ws
    refine ⟨by simp only [wipeE, List.length_set]; exact ih.len, fun j e hj => ?_⟩
    simp only [wipeE] at hj ⊢
    rw [List.getElem?_set] at hj ⊢
    by_cases hij : w = j
    · subst hij
      rw [if_pos rfl] at hj
      split at hj <;> cases hj
    · rw [if_neg hij] at hj ⊢
      exact ih.el j e hj
theorem Ev.setAll {A : List Nat} : ∀ {is : List Nat} {xs : List PyData} {ρ ρ' σ : Env}, Ev A ρ ρ' → Mi.setAll is xs ρ = some σ → ∃ σ', Mi.setAll is xs ρ' = some σ' ∧ Ev A σ σ'
  | [], [], ρ, ρ', σ, h, e => by cases e; exact ⟨ρ', rfl, h⟩
  | i :: is, x :: xs, ρ, ρ', σ, h, e => by
    rw [Mi.setAll] at e ⊢
    exact Ev.setAll (h.set i (show De A (.p x) (.p x) from rfl)) e
  | [], _ :: _, ρ, ρ', σ, h, e => by cases e
  | _ :: _, [], ρ, ρ', σ, h, e => by cases e
theorem Ev.setDs {A : List Nat} : ∀ {is : List Nat} {xs xs' : List D} {ρ ρ' σ : Env}, Ev A ρ ρ' → Des A xs xs' → Mi.setDs is xs ρ = some σ → ∃ σ', Mi.setDs is xs' ρ' = some σ' ∧ Ev A σ σ'
  | [], _, _, ρ, ρ', σ, h, .nil, e => by cases e; exact ⟨ρ', rfl, h⟩
  | i :: is, _, _, ρ, ρ', σ, h, .cons a b, e => by
    rw [Mi.setDs] at e ⊢
    exact Ev.setDs (h.set i a) b e
  | [], _, _, ρ, ρ', σ, h, .cons a b, e => by cases e
  | _ :: _, _, _, ρ, ρ', σ, h, .nil, e => by cases e
theorem Ev.bindT {A : List Nat} {t : Tg} {x : PyData} {ρ ρ' σ : Env} (h : Ev A ρ ρ') (e : Mi.bindT t x ρ = some σ) : ∃ σ', Mi.bindT t x ρ' = some σ' ∧ Ev A σ σ' := by
  cases t with
  | nm i => cases e; exact ⟨_, rfl, h.set i rfl⟩
  | tp is =>
    unfold Mi.bindT at e ⊢
    try dsimp only at e ⊢
    split at e
    · exact h.setAll e
    · exact h.setAll e
    · cases e
theorem Xt.le {A B : List Nat} {M M' : Mem} (x : Xt A M B M') : M.length ≤ M'.length := by rw [x.ln]; exact Nat.le_add_right _ _
theorem Xt.refl (A : List Nat) (M : Mem) : Xt A M [] M := ⟨rfl, fun _ h => absurd h List.not_mem_nil, fun _ _ _ => rfl⟩
theorem Xt.trans {A B C : List Nat} {M M1 M2 : Mem} (h : Xt A M B M1) (h' : Xt (A ++ B) M1 C M2) : Xt A M (B ++ C) M2 := by
  refine ⟨by rw [h'.ln, h.ln, List.length_append]; omega, fun b hb => ?_, fun a ha hA => ?_⟩
  · rcases List.mem_append.1 hb with hb | hb
    · exact h.nw b hb
    · exact Nat.le_trans h.le (h'.nw b hb)
  · rw [h'.fr a (Nat.lt_of_lt_of_le ha h.le) (fun hb => ?_), h.fr a ha hA]
    rcases List.mem_append.1 hb with hb | hb
    · exact hA hb
    · exact absurd (h.nw a hb) (by omega)
section
variable {α β : Type} {V : List Nat → α → α → Prop} {U : List Nat → β → β → Prop} {A : List Nat} {h M : Mem} {r r' : Res α}
theorem Rr.pure (E : Em A h M) {a a' : α} (v : V A a a') : Rr V A M (.ok a h) (.ok a' M) :=
  ⟨[], M, a', rfl, by rw [List.append_nil]; exact E, by rw [List.append_nil]; exact v, Xt.refl A M⟩
theorem Rr.tame (R : Rr V A M r r') : Rr V A M r.tame r'.tame := by
  cases r with
  | bad => trivial
  | exc c h => trivial
  | ok a h => obtain ⟨B, M', a', rfl, E, v, x⟩ := R; exact ⟨B, M', a', rfl, E, v, x⟩
theorem Rr.bind {f f' : α → Mem → Res β} (R : Rr V A M r r') (k : ∀ B h M' a a', Em (A ++ B) h M' → V (A ++ B) a a' → Rr U (A ++ B) M' (f a h) (f' a' M')) : Rr U A M (r.bind f) (r'.bind f') := by
  cases r with
  | bad => trivial
  | exc c h => obtain ⟨B, M', rfl, e⟩ := R; exact ⟨B, M', rfl, e⟩
  | ok a h =>
    obtain ⟨B, M', a', rfl, E, v, x⟩ := R
    have R2 := k B h M' a a' E v
    show Rr U A M (f a h) (f' a' M')
    revert R2
    generalize f a h = q
    generalize f' a' M' = q'
    intro R2
    cases q with
    | bad => trivial
    | exc c h => obtain ⟨C, M2, rfl, E2, x2⟩ := R2; exact ⟨B ++ C, M2, rfl, by rw [← List.append_assoc]; exact E2, x.trans x2⟩
    | ok b h => obtain ⟨C, M2, b', rfl, E2, v2, x2⟩ := R2; exact ⟨B ++ C, M2, b', rfl, by rw [← List.append_assoc]; exact E2, by rw [← List.append_assoc]; exact v2, x.trans x2⟩
theorem Rr.after {A B : List Nat} {M M1 : Mem} {r r' : Res α} (x : Xt A M B M1) (R : Rr V (A ++ B) M1 r r') : Rr V A M r r' := by
  cases r with
  | bad => trivial
  | exc c h => obtain ⟨C, M2, rfl, E2, x2⟩ := R; exact ⟨B ++ C, M2, rfl, by rw [← List.append_assoc]; exact E2, x.trans x2⟩
  | ok b h => obtain ⟨C, M2, b', rfl, E2, v2, x2⟩ := R; exact ⟨B ++ C, M2, b', rfl, by rw [← List.append_assoc]; exact E2, by rw [← List.append_assoc]; exact v2, x.trans x2⟩
end
section
variable {A : List Nat} {h M : Mem}
theorem Em.lt (E : Em A h M) {j a : Nat} (e : A[j]? = some a) : a < M.length ∧ j < h.length := by
  have hj := (List.getElem?_eq_some_iff.1 e).1
  have hj' : j < h.length := by rw [← E.len]; exact hj
  have := E.el j a e
  rw [List.getElem?_eq_getElem hj'] at this
  exact ⟨(List.getElem?_eq_some_iff.1 this).1, by rw [← E.len]; exact hj⟩
theorem Em.mem_lt (E : Em A h M) {a : Nat} (m : a ∈ A) : a < M.length := by
  obtain ⟨j, e⟩ := List.getElem?_of_mem m
  exact (E.lt e).1
theorem dat_em (E : Em A h M) {d d' : D} {x : PyData} (R : De A d d') (e : dat h d = some x) : dat M d' = some x := by
  cases d with
  | p y => cases R; exact e
  | scr y => cases e
  | ref j =>
    obtain ⟨a, ha, rfl⟩ := R
    simp only [dat] at e ⊢
    rw [E.el j a ha]; exact e
theorem Hd.app {A : List Nat} {j a : Nat} {o : MO} (h : Hd A j a o) (B : List Nat) : Hd (A ++ B) j a o := fun c ks e p hp k hk hj => by
  obtain ⟨h1, h2⟩ := h c ks e p hp k hk hj
  exact ⟨h1, by rw [List.getElem?_append_left (List.getElem?_eq_some_iff.1 h2).1]; exact h2⟩
theorem Hd.no {A : List Nat} {j a : Nat} {o : MO} (h : ∀ c ks, o ≠ .hdr c ks) : Hd A j a o := fun c ks e => absurd e (h c ks)
theorem Em.push (E : Em A h M) (o : MO) (ho : Hd (A ++ [M.length]) h.length M.length o) : Em (A ++ [M.length]) (h ++ [o]) (M ++ [o]) := by
  refine ⟨by simp [E.len], ?_, fun j a e => ?_, fun j a o' e e' => ?_⟩
  · rw [List.nodup_append]
    refine ⟨E.nd, by simp, fun a ha b hb => ?_⟩
    rw [List.mem_singleton.1 hb]
    exact Nat.ne_of_lt (E.mem_lt ha)
  · by_cases hj : j < A.length
    · rw [List.getElem?_append_left hj] at e
      have hl := E.lt e
      rw [List.getElem?_append_left hl.1, List.getElem?_append_left hl.2]
      exact E.el j a e
    · rw [List.getElem?_append_right (by omega)] at e
      have : j - A.length = 0 := by
        have := (List.getElem?_eq_some_iff.1 e).1
        simp at this; omega
      rw [this] at e
      cases e
      rw [List.getElem?_append_right (Nat.le_refl _), List.getElem?_append_right (by rw [← E.len]; omega), Nat.sub_self, ← E.len, this]
  · by_cases hj : j < A.length
    · rw [List.getElem?_append_left hj] at e
      rw [List.getElem?_append_left (by rw [← E.len]; exact hj)] at e'
      exact (E.hd j a o' e e').app _
    · rw [List.getElem?_append_right (by omega)] at e
      have : j - A.length = 0 := by
        have := (List.getElem?_eq_some_iff.1 e).1
        simp at this; omega
      rw [this] at e
      cases e
      rw [List.getElem?_append_right (by rw [← E.len]; omega), ← E.len, this] at e'
      cases e'
      have hjl : j = h.length := by rw [← E.len]; omega
      rw [hjl]
      exact ho
theorem Em.setH (E : Em A h M) {j a : Nat} (e : A[j]? = some a) (o : MO) (ho : Hd A j a o) : Em A (h.set j o) (M.set a o) := by
  refine ⟨by simp [E.len], E.nd, fun i b e' => ?_, fun i b o' e' e2 => ?_⟩
  rotate_left
  · rw [List.getElem?_set] at e2
    by_cases hij : j = i
    · subst hij
      rw [if_pos rfl] at e2
      split at e2
      · cases e2
        rw [e] at e'
        cases e'
        exact ho
      · cases e2
    · rw [if_neg hij] at e2
      exact E.hd i b o' e' e2
  have hl := E.lt e
  rw [List.getElem?_set, List.getElem?_set]
  by_cases hij : j = i
  · subst hij
    rw [e] at e'
    cases e'
    rw [if_pos rfl, if_pos rfl, if_pos hl.1, if_pos hl.2]
  · rw [if_neg hij, if_neg, E.el i b e']
    rintro rfl
    exact hij ((List.getElem?_inj (List.getElem?_eq_some_iff.1 e).1 E.nd).1 (e.trans e'.symm))
theorem Em.set (E : Em A h M) {j a : Nat} (e : A[j]? = some a) (o : MO) (ho : ∀ c ks, o ≠ .hdr c ks := by intro _ _ z; cases z) : Em A (h.set j o) (M.set a o) := E.setH e o (.no ho)
theorem Xt.set (E : Em A h M) {j a : Nat} (e : A[j]? = some a) (o : MO) : Xt A M [] (M.set a o) := by
  refine ⟨by simp, fun _ h => absurd h List.not_mem_nil, fun b hb hA => ?_⟩
  rw [List.getElem?_set, if_neg]
  rintro rfl
  exact hA (List.mem_of_getElem? e)
/-- what an operation does that only reads -/
def Sh (F : Mem → Res D) : Prop := (F = fun _ => .bad) ∨ (∃ v, F = fun M => .ok (.p v) M) ∨ ∃ mt xs, F = alloc mt xs
theorem Rr.sh (E : Em A h M) {F : Mem → Res D} (s : Sh F) : Rr De A M (F h) (F M) := by
  rcases s with rfl | ⟨v, rfl⟩ | ⟨mt, xs, rfl⟩
  · trivial
  · exact Rr.pure E rfl
  · cases mt with
    | false => exact Rr.pure E rfl
    | true =>
      refine ⟨[M.length], M ++ [.lst xs], .ref M.length, rfl, E.push _ (.no fun _ _ z => by cases z), ⟨M.length, ?_, rfl⟩, by simp, fun b hb => by rw [List.mem_singleton.1 hb]; exact Nat.le_refl _, fun a ha _ => List.getElem?_append_left ha⟩
      rw [← E.len, List.getElem?_append_right (Nat.le_refl _), Nat.sub_self]; rfl
theorem Sh.bad : Sh (fun _ => .bad) := .inl rfl
theorem Sh.val (v : PyData) : Sh (fun M => .ok (.p v) M) := .inr (.inl ⟨v, rfl⟩)
theorem Sh.alc (mt : Bool) (xs : List PyData) : Sh (alloc mt xs) := .inr (.inr ⟨mt, xs, rfl⟩)
theorem Sh.ite {c : Prop} [Decidable c] {F : Mem → Res D} (s : Sh F) : Sh (fun M => if c then F M else .bad) := by
  by_cases h : c
  · simp only [h, if_true]; exact s
  · simp only [h, if_false]; exact .bad
def binopP (op : BOp) (mt : Bool) (x y : PyData) (M : Mem) : Res D := binop op mt (.p x) (.p y) M
theorem binop_P {op : BOp} {mt : Bool} {a b : D} {x y : PyData} (hx : dat M a = some x) (hy : dat M b = some y) : binop op mt a b M = binopP op mt x y M := by
  simp only [binop, binopP, hx, hy] <;> rfl
theorem binopP_sh (op : BOp) (mt : Bool) (x y : PyData) : Sh (binopP op mt x y) := by
  have : binopP op mt x y = fun M => binop op mt (.p x) (.p y) M := rfl
  rw [this]
  cases op <;> cases x <;> cases y <;> simp only [binop, dat] <;> first | exact .bad | exact .val _ | exact .ite (.val _) | exact .ite (.alc _ _)
theorem binop_none {op : BOp} {mt : Bool} {a b : D} (hx : dat M a = none ∨ dat M b = none) : binop op mt a b M = .bad := by
  rcases hx with hx | hx
  · cases op <;> simp only [binop, hx]
  · cases op <;> simp only [binop, hx] <;> split <;> simp_all
theorem binop_em (E : Em A h M) {op : BOp} {mt : Bool} {a a' b b' : D} (ra : De A a a') (rb : De A b b') : Rr De A M (binop op mt a b h) (binop op mt a' b' M) := by
  cases hx : dat h a with
  | none => rw [binop_none (.inl hx)]; trivial
  | some x =>
    cases hy : dat h b with
    | none => rw [binop_none (.inr hy)]; trivial
    | some y =>
      rw [binop_P hx hy, binop_P (dat_em E ra hx) (dat_em E rb hy)]
      exact Rr.sh E (binopP_sh op mt x y)
theorem cmpop_em (E : Em A h M) {op : COp} {a a' b b' : D} (ra : De A a a') (rb : De A b b') : Rr De A M (cmpop op a b h) (cmpop op a' b' M) := by
  unfold cmpop
  cases hx : dat h a with
  | none => trivial
  | some x =>
    cases hy : dat h b with
    | none => trivial
    | some y =>
      rw [dat_em E ra hx, dat_em E rb hy]
      try dsimp only
      cases cmpB op x y with
      | none => trivial
      | some k => exact Rr.pure E rfl
theorem truth_em (E : Em A h M) {d d' : D} {b : Bool} (r : De A d d') (e : truth h d = some b) : truth M d' = some b := by
  unfold truth at e ⊢
  cases hx : dat h d with
  | none => rw [hx] at e; cases e
  | some x => rw [dat_em E r hx]; rw [hx] at e; exact e
def EqV {α : Type} (_ : List Nat) (a b : α) : Prop := a = b
theorem toB_em (E : Em A h M) {d d' : D} (r : De A d d') : Rr EqV A M (toB h d) (toB M d') := by
  unfold toB
  cases e : truth h d with
  | none => trivial
  | some b => rw [truth_em E r e]; exact Rr.pure E rfl
theorem isB_em (E : Em A h M) {d d' : D} (r : De A d d') : Rr EqV A M (isB h d) (isB M d') := by
  cases d with
  | ref j => trivial
  | scr j => trivial
  | p x =>
    cases r
    cases x <;> first | trivial | exact Rr.pure E rfl
theorem Hd.setD {j a c c' n : Nat} {ks : List (Str × FK)} {y : Str} {x : PyData} (H : Hd A j a (.hdr c ks)) : Hd A j a (.hdr c' (ks.set n (y, .d x))) := fun c2 ks' e p hp k hk hj => by
  cases e
  rcases List.mem_or_eq_of_mem_set hp with h | h
  · exact H _ _ rfl p h k hk hj
  · subst h; cases hk
theorem setF_mem {x : Str} {y : PyData} : ∀ {ks : List (Str × FK)} {p : Str × FK}, p ∈ setF x (.d y) ks → p ∈ ks ∨ p.2 = .d y
  | [], p, h => by simp [setF] at h
  | (z, u) :: r, p, h => by
    unfold setF at h
    split at h
    · rcases List.mem_cons.1 h with e | h
      · exact .inr (by rw [e])
      · exact .inl (List.mem_cons_of_mem _ h)
    · rcases List.mem_cons.1 h with e | h
      · exact .inl (by rw [e]; exact List.mem_cons_self)
      · exact (setF_mem h).imp (List.mem_cons_of_mem _) id
theorem Hd.setF {j a c c' : Nat} {ks : List (Str × FK)} {x : Str} {y : PyData} (H : Hd A j a (.hdr c ks)) : Hd A j a (.hdr c' (Mi.setF x (.d y) ks)) := fun c2 ks' e p hp k hk hj => by
  cases e
  rcases setF_mem hp with h | h
  · exact H _ _ rfl p h k hk hj
  · rw [h] at hk; cases hk
theorem fk_em {j a c : Nat} {ks : List (Str × FK)} {p : Str × FK} {d : D} (H : Hd A j a (.hdr c ks)) (hp : p ∈ ks) (hf : fkD j p.2 = some d) : ∃ d', fkD a p.2 = some d' ∧ De A d d' := by
  cases hk : p.2 with
  | d x =>
    rw [hk] at hf
    cases hf
    exact ⟨_, rfl, rfl⟩
  | s k =>
    rw [hk] at hf
    simp only [fkD] at hf
    split at hf
    · rename_i hj
      cases hf
      obtain ⟨h1, h2⟩ := H _ _ rfl p hp k hk hj
      exact ⟨_, by simp only [fkD]; rw [if_pos h1], _, h2, rfl⟩
    · cases hf
theorem look_mem {x : Str} : ∀ {ks : List (Str × FK)} {k : FK}, ks.lookup x = some k → ∃ y, (y, k) ∈ ks
  | [], k, h => by cases h
  | (z, u) :: r, k, h => by
    rw [List.lookup_cons] at h
    split at h
    · cases h; exact ⟨z, List.mem_cons_self⟩
    · obtain ⟨y, hy⟩ := look_mem h; exact ⟨y, List.mem_cons_of_mem _ hy⟩
theorem atI_mem' {α : Type} {xs : List α} {k : Int} {x : α} (h : L2.atI xs k = some x) : x ∈ xs := by
  unfold L2.atI at h
  cases e : L2.ixN xs.length k with
  | none => rw [e] at h; cases h
  | some j => rw [e] at h; exact List.mem_of_getElem? h
theorem boxAt_em (E : Em A h M) {j a : Nat} (ha : A[j]? = some a) {k : Int} : Rr De A M (boxAt h (.ref j) k) (boxAt M (.ref a) k) := by
  unfold boxAt
  try dsimp only
  rw [E.el j a ha]
  cases hj : h[j]? with
  | none => trivial
  | some c =>
    cases c with
    | lst _ => trivial
    | dead => trivial
    | dct _ => trivial
    | hdr c0 ks =>
      cases c0 with
      | succ _ => trivial
      | zero =>
        show Rr De A M (match L2.atI ks k with
          | some p => (match fkD j p.2 with
            | some d => Res.ok d h
            | none => .bad)
          | none => .bad) (match L2.atI ks k with
          | some p => (match fkD a p.2 with
            | some d => Res.ok d M
            | none => .bad)
          | none => .bad)
        cases hat : L2.atI ks k with
        | none => trivial
        | some p =>
          try dsimp only
          cases hf : fkD j p.2 with
          | none => trivial
          | some d =>
            obtain ⟨d', e', r⟩ := fk_em (E.hd j a _ ha hj) (atI_mem' hat) hf
            rw [e']
            exact Rr.pure E r
theorem insAt_em (E : Em A h M) {d d' : D} (R : De A d d') {c i : Nat} {ks : List (Str × FK)} (e : insAt h d c = some (i, ks)) : ∃ a, d = .ref i ∧ d' = .ref a ∧ A[i]? = some a ∧ insAt M d' c = some (a, ks) ∧ Hd A i a (.hdr (c + 1) ks) := by
  cases d with
  | p x => cases e
  | scr x => cases e
  | ref j =>
    obtain ⟨a, ha, rfl⟩ := R
    simp only [insAt] at e ⊢
    rw [E.el j a ha]
    cases hj : h[j]? with
    | none => rw [hj] at e; cases e
    | some o =>
      rw [hj] at e
      cases o with
      | lst _ => cases e
      | dead => cases e
      | dct _ => cases e
      | hdr c' ks' =>
        try dsimp only at e ⊢
        split at e
        · rename_i hc
          cases e
          subst hc
          exact ⟨a, rfl, rfl, ha, by rw [if_pos rfl], E.hd _ a _ ha hj⟩
        · cases e
theorem idxop_em (E : Em A h M) {a a' b b' : D} (ra : De A a a') (rb : De A b b') : Rr De A M (idxop a b h) (idxop a' b' M) := by
  cases b with
  | scr _ => cases a <;> (unfold idxop; dsimp only; split <;> first | trivial | (rename_i e; cases e))
  | ref _ => cases a <;> (unfold idxop; dsimp only; split <;> first | trivial | (rename_i e; cases e))
  | p y =>
    cases rb
    cases y with
    | int k =>
      cases a with
      | scr ns =>
        cases ra
        unfold idxop
        try dsimp only
        cases L2.atI ns k with
        | none => trivial
        | some x => exact Rr.pure E rfl
      | p x =>
        cases ra
        unfold idxop
        try dsimp only [dat]
        split
        · split
          · exact Rr.pure E rfl
          · trivial
        · split
          · exact Rr.pure E rfl
          · trivial
        · split
          · split
            · exact Rr.pure E rfl
            · trivial
          · trivial
        · trivial
        · trivial
      | ref j =>
        obtain ⟨a, ha, rfl⟩ := ra
        unfold idxop
        try dsimp only
        cases hx : dat h (.ref j) with
        | none =>
          have hM : dat M (.ref a) = none := by
            rw [← hx]
            simp only [dat]
            rw [E.el j a ha]
          rw [hM]
          exact boxAt_em E ha
        | some x =>
          rw [dat_em E (show De A (.ref j) (.ref a) from ⟨a, ha, rfl⟩) hx]
          cases x <;> dsimp only <;> first
            | trivial
            | (split <;> first | trivial | exact Rr.pure E rfl)
            | (split <;> (try split) <;> first | trivial | exact Rr.pure E rfl)
    | _ => cases a <;> (unfold idxop; dsimp only; split <;> first | trivial | (rename_i e; cases e))
theorem slcop_em (E : Em A h M) {mt : Bool} {a a' : D} {lo hi : Option Int} (ra : De A a a') : Rr De A M (slcop mt a lo hi h) (slcop mt a' lo hi M) := by
  unfold slcop
  cases hx : dat h a with
  | none => trivial
  | some x =>
    rw [dat_em E ra hx]
    cases x <;> first | trivial | exact Rr.sh E (.alc _ _) | exact Rr.pure E rfl | (dsimp only; split <;> first | trivial | exact Rr.pure E rfl)
theorem revop_em (E : Em A h M) {mt : Bool} {a a' : D} (ra : De A a a') : Rr De A M (revop mt a h) (revop mt a' M) := by
  unfold revop
  cases hx : dat h a with
  | none => trivial
  | some x =>
    rw [dat_em E ra hx]
    cases x <;> first | trivial | exact Rr.sh E (.alc _ _) | exact Rr.pure E rfl
theorem one_em (E : Em A h M) {f : PyData → Mem → Res D} (s : ∀ x, Sh (f x)) {ds ds' : List D} (R : Des A ds ds') : Rr De A M (one f ds h) (one f ds' M) := by
  cases R with
  | nil => trivial
  | cons r t =>
    cases t with
    | cons _ _ => trivial
    | nil =>
      rename_i d d'
      unfold one
      try dsimp only
      cases hx : dat h d with
      | none => trivial
      | some x => rw [dat_em E r hx]; exact Rr.sh E (s x)
theorem two_em (E : Em A h M) {f : PyData → PyData → Mem → Res D} (s : ∀ x y, Sh (f x y)) {ds ds' : List D} (R : Des A ds ds') : Rr De A M (two f ds h) (two f ds' M) := by
  cases R with
  | nil => trivial
  | cons r t =>
    cases t with
    | nil => trivial
    | cons r2 t =>
      cases t with
      | cons _ _ => trivial
      | nil =>
        rename_i d d' e e'
        unfold two
        try dsimp only
        cases hx : dat h d with
        | none => trivial
        | some x =>
          cases hy : dat h e with
          | none => trivial
          | some y => rw [dat_em E r hx, dat_em E r2 hy]; exact Rr.sh E (s x y)
theorem Sh.of {F G : Mem → Res D} (h : ∀ M, F M = G M) (s : Sh G) : Sh F := by rw [show F = G from funext h]; exact s
theorem bltop_em (E : Em A h M) {b : BF} {ds ds' : List D} (R : Des A ds ds') : Rr De A M (bltop b ds h) (bltop b ds' M) := by
  cases b with
  | len =>
    by_cases hs : ∃ ns, ds = [.scr ns]
    · obtain ⟨ns, rfl⟩ := hs
      cases R with
      | cons r t => cases t; cases r; exact Rr.pure E rfl
    · rw [bltop_len fun ns e => hs ⟨ns, e⟩, bltop_len]
      · refine one_em E (fun x => ?_) R
        cases x <;> first | exact .bad | exact .val _ | exact .ite (.val _)
      · rintro ns rfl
        cases R with
        | cons r t =>
          cases t
          rename_i d
          cases d with
          | p x => cases r
          | ref x => obtain ⟨_, _, e⟩ := r; cases e
          | scr x => exact hs ⟨x, rfl⟩
  | min => exact two_em E (fun x y => by cases x <;> cases y <;> first | exact .bad | exact .val _) R
  | max => exact two_em E (fun x y => by cases x <;> cases y <;> first | exact .bad | exact .val _) R
  | abs => exact one_em E (fun x => by cases x <;> first | exact .bad | exact .val _) R
  | sum =>
    refine one_em E (fun x => ?_) R
    cases x <;> first | exact .bad | skip
    all_goals
      rename_i xs
      refine Sh.of (G := fun M => match asInts xs with | some ns => .ok (.p (.int ns.sum)) M | none => .bad) (fun _ => rfl) ?_
      cases asInts xs <;> first | exact .bad | exact .val _
  | all =>
    refine one_em E (fun x => ?_) R
    cases x <;> first | exact .bad | skip
    rename_i xs
    refine Sh.of (G := fun M => match asBools xs with | some bs => .ok (.p (.bool (bs.all id))) M | none => .bad) (fun _ => rfl) ?_
    cases asBools xs <;> first | exact .bad | exact .val _
  | any =>
    refine one_em E (fun x => ?_) R
    cases x <;> first | exact .bad | skip
    rename_i xs
    refine Sh.of (G := fun M => match asBools xs with | some bs => .ok (.p (.bool (bs.any id))) M | none => .bad) (fun _ => rfl) ?_
    cases asBools xs <;> first | exact .bad | exact .val _
  | tuple => exact one_em E (fun x => by cases x <;> first | exact .bad | exact .val _) R
  | list mt => exact one_em E (fun x => by cases x <;> first | exact .bad | exact .alc _ _) R
  | repr => exact one_em E (fun x => Sh.ite (.val _)) R
  | str => exact one_em E (fun x => by cases x <;> first | exact .bad | exact .val _ | exact .ite (.val _)) R
  | isi t => exact one_em E (fun x => .val _) R
  | sorted mt =>
    refine one_em E (fun x => ?_) R
    cases x <;> first | exact .bad | skip
    rename_i xs
    refine Sh.of (G := fun M => match asInts xs with | some ns => alloc mt ((sortI ns).map PyData.int) M | none => .bad) (fun _ => rfl) ?_
    cases asInts xs <;> first | exact .bad | exact .alc _ _
theorem frzP_em (E : Em A h M) {d d' : D} (r : De A d d') {x : PyData} {k : Mem} (e : frzP d h = some (x, k)) : ∃ N, frzP d' M = some (x, N) ∧ Em A k N ∧ Xt A M [] N := by
  cases d with
  | p y => cases r; cases e; exact ⟨M, rfl, E, Xt.refl A M⟩
  | scr y => cases e
  | ref j =>
    obtain ⟨a, ha, rfl⟩ := r
    simp only [frzP] at e ⊢
    rw [E.el j a ha]
    split at e
    · cases e; exact ⟨_, rfl, E.set ha _, Xt.set E ha _⟩
    · cases e
theorem frzPs_em : ∀ {ds ds' : List D} {h M : Mem} (E : Em A h M) (R : Des A ds ds') {xs : List PyData} {k : Mem} (e : frzPs ds h = some (xs, k)), ∃ N, frzPs ds' M = some (xs, N) ∧ Em A k N ∧ Xt A M [] N
  | _, _, h, M, E, .nil, xs, k, e => by cases e; exact ⟨M, rfl, E, Xt.refl A M⟩
  | _, _, h, M, E, .cons r t, xs, k, e => by
    simp only [frzPs] at e ⊢
    split at e
    · rename_i x h1 e1
      split at e
      · rename_i ys h2 e2
        cases e
        obtain ⟨N, e3, E3, x3⟩ := frzP_em E r e1
        obtain ⟨N', e4, E4, x4⟩ := frzPs_em E3 t e2
        refine ⟨N', by rw [e3]; simp only [e4], E4, ?_⟩
        have := Xt.trans (B := []) (C := []) x3 (by rw [List.append_nil]; exact x4)
        exact this
      · cases e
    · cases e
theorem mthop_em (E : Em A h M) {m : MF} {o o' : D} {ds ds' : List D} (r : De A o o') (R : Des A ds ds') : Rr De A M (mthop m o ds h) (mthop m o' ds' M) := by
  cases m with
  | append =>
    show Rr De A M (mAppend o ds h) (mAppend o' ds' M)
    cases o with
    | p x => cases r; trivial
    | scr x => cases r; trivial
    | ref i =>
      obtain ⟨a, ha, rfl⟩ := r
      cases R with
      | nil => trivial
      | cons r t =>
        cases t with
        | cons _ _ => trivial
        | nil =>
          rename_i d d'
          unfold mAppend
          try dsimp only
          cases hf : frzP d h with
          | none => trivial
          | some p =>
            obtain ⟨x, k⟩ := p
            obtain ⟨N, e1, E1, x1⟩ := frzP_em E r hf
            rw [e1]
            try dsimp only
            rw [E1.el i a ha]
            cases hk : k[i]? with
            | none => trivial
            | some c =>
              cases c with
              | dead => trivial
              | hdr _ _ => trivial
              | dct _ => trivial
              | lst xs =>
                try dsimp only
                split
                · refine Rr.after x1 ?_
                  rw [List.append_nil]
                  exact ⟨[], _, _, rfl, by rw [List.append_nil]; exact E1.set ha _, rfl, Xt.set E1 ha _⟩
                · trivial
  | count =>
    refine two_em E (fun x y => ?_) (.cons r R)
    cases x <;> first | exact .bad | exact .ite (.val _)
  | pop =>
    show Rr De A M (mPop o ds h) (mPop o' ds' M)
    cases o with
    | p x => cases r; trivial
    | scr x => cases r; trivial
    | ref i =>
      obtain ⟨a, ha, rfl⟩ := r
      cases R with
      | nil => trivial
      | cons r t =>
        cases t with
        | cons _ _ =>
          rename_i d1 _ d2 _ ds2 _ _ _
          cases d1 with
          | p x => cases x <;> trivial
          | ref _ => trivial
          | scr _ => trivial
        | nil =>
          rename_i d d'
          cases d with
          | ref _ => trivial
          | scr _ => trivial
          | p y =>
            cases r
            cases y <;> first | trivial | skip
            rename_i k
            unfold mPop
            try dsimp only
            rw [E.el i a ha]
            cases hk : h[i]? with
            | none => trivial
            | some c =>
              cases c with
              | dead => trivial
              | hdr _ _ => trivial
              | dct _ => trivial
              | lst xs =>
                try dsimp only
                split
                · split
                  · split
                    · exact ⟨[], _, _, rfl, by rw [List.append_nil]; exact E.set ha _, rfl, Xt.set E ha _⟩
                    · trivial
                  · trivial
                · trivial
  | index =>
    refine two_em E (fun x y => ?_) (.cons r R)
    cases x <;> first | exact .bad | skip
    rename_i xs
    refine Sh.of (G := fun M => if inOk xs y then (match xs.findIdx? (fun z => PyData.eqv z y) with | some j => .ok (.p (.int (j : Nat))) M | none => .bad) else .bad) (fun _ => rfl) ?_
    refine .ite ?_
    cases xs.findIdx? (fun z => PyData.eqv z y) <;> first | exact .bad | exact .val _
theorem subop_em (E : Em A h M) {o o' i i' v v' : D} (ro : De A o o') (ri : De A i i') (rv : De A v v') : Rr EqV A M (subop o i v h) (subop o' i' v' M) := by
  unfold subop
  cases hf : frzP v h with
  | none => trivial
  | some p =>
    obtain ⟨x, k⟩ := p
    obtain ⟨N, e1, E1, x1⟩ := frzP_em E rv hf
    rw [e1]
    try dsimp only
    cases o with
    | p x => trivial
    | scr x => trivial
    | ref j =>
      obtain ⟨a, ha, rfl⟩ := ro
      cases i with
      | ref _ => trivial
      | scr _ => trivial
      | p y =>
        cases ri
        cases y <;> first | trivial | skip
        try dsimp only
        rw [E1.el j a ha]
        cases hk : k[j]? with
        | none => trivial
        | some c =>
          cases c with
          | dead => trivial
          | hdr c0 ks =>
            cases c0 with
            | succ _ => trivial
            | zero =>
              show Rr EqV A M (match L2.ixN ks.length _ with
                | some n => (match ks[n]? with
                  | some (y, .d _) => Res.ok () (List.set k j (.hdr 0 (ks.set n (y, .d x))))
                  | _ => .bad)
                | none => .bad) (match L2.ixN ks.length _ with
                | some n => (match ks[n]? with
                  | some (y, .d _) => Res.ok () (List.set N a (.hdr 0 (ks.set n (y, .d x))))
                  | _ => .bad)
                | none => .bad)
              split
              · split
                · refine Rr.after x1 ?_
                  rw [List.append_nil]
                  exact ⟨[], _, (), rfl, by rw [List.append_nil]; exact E1.setH ha _ (Hd.setD (E1.hd j a _ ha hk)), rfl, Xt.set E1 ha _⟩
                · trivial
              · trivial
          | dct kvs =>
            try dsimp only
            split
            · refine Rr.after x1 ?_
              rw [List.append_nil]
              exact ⟨[], _, (), rfl, by rw [List.append_nil]; exact E1.set ha _, rfl, Xt.set E1 ha _⟩
            · trivial
          | lst xs =>
            try dsimp only
            split
            · refine Rr.after x1 ?_
              rw [List.append_nil]
              exact ⟨[], _, (), rfl, by rw [List.append_nil]; exact E1.set ha _, rfl, Xt.set E1 ha _⟩
            · trivial
theorem dctop_em (E : Em A h M) {ks ks' vs vs' : List D} (rk : Des A ks ks') (rv : Des A vs vs') : Rr De A M (dctop ks vs h) (dctop ks' vs' M) := by
  unfold dctop
  cases hf : frzPs ks h with
  | none => trivial
  | some p =>
    obtain ⟨x, k⟩ := p
    obtain ⟨N, e1, E1, x1⟩ := frzPs_em E rk hf
    rw [e1]
    try dsimp only
    cases hf2 : frzPs vs k with
    | none => trivial
    | some p =>
      obtain ⟨y, k2⟩ := p
      obtain ⟨N2, e2, E2, x2⟩ := frzPs_em E1 rv hf2
      rw [e2]
      try dsimp only
      split
      · have x3 : Xt A M [] N2 := Xt.trans (B := []) (C := []) x1 (by rw [List.append_nil]; exact x2)
        exact ⟨[], N2, _, rfl, by rw [List.append_nil]; exact E2, rfl, x3⟩
      · trivial
end
end Mi

set_option Elab.async false
set_option linter.all false
set_option maxHeartbeats 2000000
/-! Mi: a run over a small memory is a run over any memory that holds it: expressions, statements, calls. -/
namespace Mi
open PySem
theorem pushes_em : ∀ (cs : List MO) (hc : ∀ o ∈ cs, ∀ c ks, o ≠ .hdr c ks) {A : List Nat} {h M : Mem}, Em A h M → Em (A ++ List.range' M.length cs.length) (h ++ cs) (M ++ cs) ∧ Xt A M (List.range' M.length cs.length) (M ++ cs)
  | [], _, A, h, M, E => ⟨by simpa using E, by simpa using Xt.refl A M⟩
  | o :: r, hc, A, h, M, E => by
    obtain ⟨E1, x1⟩ := pushes_em r (fun o' ho => hc o' (List.mem_cons_of_mem _ ho)) (E.push o (.no (hc o List.mem_cons_self)))
    have e1 : A ++ [M.length] ++ List.range' (M ++ [o]).length r.length = A ++ List.range' M.length (o :: r).length := by
      rw [List.length_cons, List.range'_succ, List.append_assoc, List.length_append]; rfl
    rw [e1] at E1
    refine ⟨by simpa using E1, by simp, fun b hb => (List.mem_range'_1.1 hb).1, fun a ha _ => List.getElem?_append_left ha⟩
theorem allocB_em {A : List Nat} {h M : Mem} (E : Em A h M) {cs : List MO} {c : Nat} {ks : List (Str × FK)} (hc : ∀ o ∈ cs, ∀ c ks, o ≠ .hdr c ks) (hk : ∀ p ∈ ks, ∀ k, p.2 = .s k → k < cs.length) : Rr De A M (allocB cs c ks h) (allocB cs c ks M) := by
  obtain ⟨E1, x1⟩ := pushes_em cs hc E
  have E2 := E1.push (.hdr c ks) fun c' ks' e p hp k hk' hj => by
    cases e
    have hlt := hk p hp k hk'
    refine ⟨by rw [List.length_append]; omega, ?_⟩
    rw [List.length_append, List.length_append, List.append_assoc, List.getElem?_append_right (by rw [E.len]; omega), List.getElem?_append_left (by rw [List.length_range', E.len]; omega), E.len, List.getElem?_range' (by omega)]
    congr 1
    omega
  refine ⟨List.range' M.length cs.length ++ [(M ++ cs).length], _, .ref (M.length + cs.length), rfl, by rw [← List.append_assoc]; exact E2, ⟨M.length + cs.length, ?_, rfl⟩, by simp, fun b hb => ?_, fun a ha _ => ?_⟩
  · have el : (A ++ List.range' M.length cs.length).length = h.length + cs.length := by rw [List.length_append, List.length_range', E.len]
    rw [← List.append_assoc, List.getElem?_append_right (by rw [el]; exact Nat.le_refl _), el, Nat.sub_self, List.length_append]; rfl
  · rcases List.mem_append.1 hb with hb | hb
    · exact (List.mem_range'_1.1 hb).1
    · rw [List.mem_singleton.1 hb, List.length_append]; omega
  · rw [List.append_assoc]; exact List.getElem?_append_left ha
theorem mkop_em {A : List Nat} {h M : Mem} (E : Em A h M) (n c : Nat) (xs : List PyData) : Rr De A M (mkop n c xs h) (mkop n c xs M) := by
  unfold mkop
  split
  · split
    · split
      · refine allocB_em E (fun o ho => ?_) fun p hp k hk => ?_
        · simp only [List.mem_cons, List.not_mem_nil, or_false] at ho
          rcases ho with rfl | rfl | rfl | rfl <;> intro _ _ z <;> cases z
        · simp only [List.mem_cons, List.not_mem_nil, or_false] at hp
          rcases hp with rfl | rfl | rfl | rfl | rfl | rfl <;> cases hk <;> exact Nat.le_of_ble_eq_true rfl
      · trivial
    · trivial
  · trivial
def Loc (fn : Fn) : Prop := ∀ f ds ds' A h M, Em A h M → Des A ds ds' → Rr De A M (fn f ds h) (fn f ds' M)
def ItEm (A : List Nat) (J J' : It) : Prop := match J with
  | .items xs => J' = .items xs
  | .live j => ∃ a, A[j]? = some a ∧ J' = .live a
def FlE (A : List Nat) (o o' : Fl) : Prop := match o with
  | .nx ρ => ∃ ρ', o' = .nx ρ' ∧ Ev A ρ ρ'
  | .rt d => ∃ d', o' = .rt d' ∧ De A d d'
  | .bk ρ => ∃ ρ', o' = .bk ρ' ∧ Ev A ρ ρ'
  | .ct ρ => ∃ ρ', o' = .ct ρ' ∧ Ev A ρ ρ'
  | .ex c ρ => ∃ ρ', o' = .ex c ρ' ∧ Ev A ρ ρ'
theorem seqOf_em {A : List Nat} {h M : Mem} (E : Em A h M) {d d' : D} (r : De A d d') {J : It} (e : seqOf d h = some J) : ∃ J', seqOf d' M = some J' ∧ ItEm A J J' := by
  cases d with
  | scr x => cases e
  | p x =>
    cases r
    cases x <;> first | cases e | skip
    · exact ⟨_, rfl, rfl⟩
    · exact ⟨_, rfl, rfl⟩
  | ref j =>
    obtain ⟨a, ha, rfl⟩ := r
    simp only [seqOf] at e ⊢
    rw [E.el j a ha]
    split at e
    · cases e; exact ⟨_, rfl, a, ha, rfl⟩
    · cases e
theorem comp_em {f f' : PyData → Mem → Res (Option PyData)} {ρ ρ' : Env} (hf : ∀ x A h M, Em A h M → Ev A ρ ρ' → Rr EqV A M (f x h) (f' x M)) :
    ∀ (xs acc : List PyData) (A : List Nat) (h M : Mem), Em A h M → Ev A ρ ρ' → Rr EqV A M (compLoop f xs acc h) (compLoop f' xs acc M)
  | [], acc, A, h, M, E, v => by rw [compLoop, compLoop]; exact Rr.pure E rfl
  | x :: xs, acc, A, h, M, E, v => by
    rw [compLoop, compLoop]
    have R := hf x A h M E v
    revert R
    generalize f x h = r
    generalize f' x M = r'
    intro R
    cases r with
    | bad => trivial
    | exc c k => trivial
    | ok o k =>
      obtain ⟨B, M', o', rfl, E1, v1, x1⟩ := R
      cases v1
      cases o with
      | none => exact Rr.after x1 (comp_em hf xs acc _ _ _ E1 (v.mono B))
      | some y =>
        try dsimp only
        split
        · exact Rr.after x1 (comp_em hf xs _ _ _ _ E1 (v.mono B))
        · trivial
theorem for_em {f f' : PyData → Env → Mem → Res Fl} (hf : ∀ x A h M ρ ρ', Em A h M → Ev A ρ ρ' → Rr FlE A M (f x ρ h) (f' x ρ' M)) :
    ∀ (xs : List PyData) (A : List Nat) (h M : Mem) (ρ ρ' : Env), Em A h M → Ev A ρ ρ' → Rr FlE A M (forLoop f xs ρ h) (forLoop f' xs ρ' M)
  | [], A, h, M, ρ, ρ', E, v => by rw [forLoop, forLoop]; exact Rr.pure E ⟨ρ', rfl, v⟩
  | x :: xs, A, h, M, ρ, ρ', E, v => by
    rw [forLoop, forLoop]
    have R := hf x A h M ρ ρ' E v
    revert R
    generalize f x ρ h = r
    generalize f' x ρ' M = r'
    intro R
    cases r with
    | bad => trivial
    | exc c k => obtain ⟨B, M', rfl, e⟩ := R; exact ⟨B, M', rfl, e⟩
    | ok o k =>
      obtain ⟨B, M', o', rfl, E1, v1, x1⟩ := R
      cases o with
      | nx σ => obtain ⟨σ', rfl, w⟩ := v1; exact Rr.after x1 (for_em hf xs _ _ _ _ _ E1 w)
      | ct σ => obtain ⟨σ', rfl, w⟩ := v1; exact Rr.after x1 (for_em hf xs _ _ _ _ _ E1 w)
      | bk σ => obtain ⟨σ', rfl, w⟩ := v1; exact ⟨B, M', _, rfl, E1, ⟨σ', rfl, w⟩, x1⟩
      | rt d => obtain ⟨σ', rfl, w⟩ := v1; exact ⟨B, M', _, rfl, E1, ⟨σ', rfl, w⟩, x1⟩
      | ex c d => obtain ⟨σ', rfl, w⟩ := v1; exact ⟨B, M', _, rfl, E1, ⟨σ', rfl, w⟩, x1⟩
theorem live_em {f f' : PyData → Env → Mem → Res Fl} (hf : ∀ x A h M ρ ρ', Em A h M → Ev A ρ ρ' → Rr FlE A M (f x ρ h) (f' x ρ' M)) {j a : Nat} :
    ∀ (n k : Nat) (A : List Nat) (h M : Mem) (ρ ρ' : Env), A[j]? = some a → Em A h M → Ev A ρ ρ' → Rr FlE A M (liveLoop f j n k ρ h) (liveLoop f' a n k ρ' M)
  | 0, k, A, h, M, ρ, ρ', ha, E, v => by rw [liveLoop]; trivial
  | n + 1, k, A, h, M, ρ, ρ', ha, E, v => by
    rw [liveLoop, liveLoop, E.el j a ha]
    cases h[j]? with
    | none => trivial
    | some c =>
      cases c with
      | dead => trivial
      | hdr _ _ => trivial
      | dct _ => trivial
      | lst xs =>
        try dsimp only
        cases xs[k]? with
        | none => exact Rr.pure E ⟨ρ', rfl, v⟩
        | some x =>
          try dsimp only
          have R := hf x A h M ρ ρ' E v
          revert R
          generalize f x ρ h = r
          generalize f' x ρ' M = r'
          intro R
          cases r with
          | bad => trivial
          | exc c k => obtain ⟨B, M', rfl, e⟩ := R; exact ⟨B, M', rfl, e⟩
          | ok o k =>
            obtain ⟨B, M', o', rfl, E1, v1, x1⟩ := R
            have ha' : (A ++ B)[j]? = some a := by rw [List.getElem?_append_left (List.getElem?_eq_some_iff.1 ha).1]; exact ha
            cases o with
            | nx σ => obtain ⟨σ', rfl, w⟩ := v1; exact Rr.after x1 (live_em hf n _ _ _ _ _ _ ha' E1 w)
            | ct σ => obtain ⟨σ', rfl, w⟩ := v1; exact Rr.after x1 (live_em hf n _ _ _ _ _ _ ha' E1 w)
            | bk σ => obtain ⟨σ', rfl, w⟩ := v1; exact ⟨B, M', _, rfl, E1, ⟨σ', rfl, w⟩, x1⟩
            | rt d => obtain ⟨σ', rfl, w⟩ := v1; exact ⟨B, M', _, rfl, E1, ⟨σ', rfl, w⟩, x1⟩
            | ex c d => obtain ⟨σ', rfl, w⟩ := v1; exact ⟨B, M', _, rfl, E1, ⟨σ', rfl, w⟩, x1⟩
theorem while_em {c : Env → Mem → Res Bool} {f : Env → Mem → Res Fl} (hc : ∀ A h M ρ ρ', Em A h M → Ev A ρ ρ' → Rr EqV A M (c ρ h) (c ρ' M)) (hf : ∀ A h M ρ ρ', Em A h M → Ev A ρ ρ' → Rr FlE A M (f ρ h) (f ρ' M)) :
    ∀ (n : Nat) (A : List Nat) (h M : Mem) (ρ ρ' : Env), Em A h M → Ev A ρ ρ' → Rr FlE A M (whileLoop c f n ρ h) (whileLoop c f n ρ' M)
  | 0, A, h, M, ρ, ρ', E, v => by rw [whileLoop]; trivial
  | n + 1, A, h, M, ρ, ρ', E, v => by
    rw [whileLoop, whileLoop]
    have R := hc A h M ρ ρ' E v
    revert R
    generalize c ρ h = r
    generalize c ρ' M = r'
    intro R
    cases r with
    | bad => trivial
    | exc c k => obtain ⟨B, M', rfl, E1, x1⟩ := R; exact ⟨B, M', _, rfl, E1, ⟨ρ', rfl, v.mono B⟩, x1⟩
    | ok b k =>
      obtain ⟨B, M', o', rfl, E1, v1, x1⟩ := R
      cases v1
      cases b with
      | false => exact ⟨B, M', _, rfl, E1, ⟨ρ', rfl, v.mono B⟩, x1⟩
      | true =>
        try dsimp only
        refine Rr.after x1 ?_
        have R := hf _ _ _ _ _ E1 (v.mono B)
        revert R
        generalize f ρ k = r
        generalize f ρ' M' = r'
        intro R
        cases r with
        | bad => trivial
        | exc c k => obtain ⟨B, M', rfl, e⟩ := R; exact ⟨B, M', rfl, e⟩
        | ok o k =>
          obtain ⟨B, M', o', rfl, E1, v1, x1⟩ := R
          cases o with
          | nx σ => obtain ⟨σ', rfl, w⟩ := v1; exact Rr.after x1 (while_em hc hf n _ _ _ _ _ E1 w)
          | ct σ => obtain ⟨σ', rfl, w⟩ := v1; exact Rr.after x1 (while_em hc hf n _ _ _ _ _ E1 w)
          | bk σ => obtain ⟨σ', rfl, w⟩ := v1; exact ⟨B, M', _, rfl, E1, ⟨σ', rfl, w⟩, x1⟩
          | rt d => obtain ⟨σ', rfl, w⟩ := v1; exact ⟨B, M', _, rfl, E1, ⟨σ', rfl, w⟩, x1⟩
          | ex c d => obtain ⟨σ', rfl, w⟩ := v1; exact ⟨B, M', _, rfl, E1, ⟨σ', rfl, w⟩, x1⟩
theorem Rr.if {α : Type} {V : List Nat → α → α → Prop} {A : List Nat} {M : Mem} {k : Bool} {a b a' b' : Res α} (h : Rr V A M a a') (h' : Rr V A M b b') : Rr V A M (if k = true then a else b) (if k = true then a' else b') := by
  cases k
  · exact h'
  · exact h
theorem asPs_em {A : List Nat} : ∀ {ds ds' : List D} {xs : List PyData}, Des A ds ds' → asPs ds = some xs → asPs ds' = some xs
  | _, _, xs, .nil, h => h
  | d :: ds, _, xs, .cons r rs, h => by
    cases d with
    | scr ns => cases h
    | ref j => cases h
    | p z =>
      cases r
      simp only [asPs] at h ⊢
      split at h
      · rename_i ys hy
        rw [asPs_em rs hy]; exact h
      · cases h
theorem seqP_em {A : List Nat} {x x' : D} (r : De A x x') {xs : List PyData} (h : seqP x = some xs) : seqP x' = some xs := by
  cases x with
  | scr ns => cases h
  | ref j => cases h
  | p z => cases r; exact h
section
variable {fn : Fn} (L : Loc fn)
include L
theorem saidR_em {A : List Nat} {M : Mem} {r r' : Res D} (R : Rr De A M r r') : Rr De A M (saidR r) (saidR r') := by
  cases r with
  | bad => trivial
  | exc c h =>
    obtain ⟨B, M', rfl, E, x⟩ := R
    unfold saidR
    try dsimp only
    cases exWord c with
    | none => trivial
    | some w => exact ⟨B, M', _, rfl, E, rfl, x⟩
  | ok a h =>
    obtain ⟨B, M', a', rfl, E, v, x⟩ := R
    exact Rr.after x (bltop_em (b := .repr) E (.cons v .nil))
mutual
theorem evE_em : ∀ (e : CE) (A : List Nat) (h M : Mem) (ρ ρ' : Env), Em A h M → Ev A ρ ρ' → Rr De A M (evE fn e ρ h) (evE fn e ρ' M)
  | .var i, A, h, M, ρ, ρ', E, v => by
    rw [evE, evE]
    split
    · rename_i d e
      obtain ⟨d', e', r⟩ := v.el i d e
      rw [e']
      exact Rr.pure E r
    · trivial
  | .cst x, A, h, M, ρ, ρ', E, v => by rw [evE, evE]; exact Rr.pure E rfl
  | .bin op mt a b, A, h, M, ρ, ρ', E, v => by
    rw [evE, evE]
    exact (evE_em a A h M ρ ρ' E v).bind fun B h M x x' E rx => (evE_em b _ h M ρ ρ' E (v.mono B)).bind fun C h M y y' E ry => binop_em E (rx.mono C) ry
  | .neg a, A, h, M, ρ, ρ', E, v => by
    rw [evE, evE]
    refine (evE_em a A h M ρ ρ' E v).bind fun B h M x x' E rx => ?_
    cases x with
    | ref j => trivial
    | scr j => trivial
    | p x => cases rx; cases x <;> first | trivial | exact Rr.pure E rfl
  | .not a, A, h, M, ρ, ρ', E, v => by
    rw [evE, evE]
    refine (evE_em a A h M ρ ρ' E v).bind fun B h M x x' E rx => (toB_em E rx).bind fun C h M b b' E rb => ?_
    cases rb; exact Rr.pure E rfl
  | .cmp op a b, A, h, M, ρ, ρ', E, v => by
    rw [evE, evE]
    exact (evE_em a A h M ρ ρ' E v).bind fun B h M x x' E rx => (evE_em b _ h M ρ ρ' E (v.mono B)).bind fun C h M y y' E ry => cmpop_em E (rx.mono C) ry
  | .chn op op' a b c, A, h, M, ρ, ρ', E, v => by
    rw [evE, evE]
    refine (evE_em a A h M ρ ρ' E v).bind fun B h M x x' E rx => (evE_em b _ h M ρ ρ' E (v.mono B)).bind fun C h M y y' E ry => (cmpop_em E (rx.mono C) ry).bind fun F h M k k' E rk => (isB_em E rk).bind fun G h M q q' E rq => ?_
    cases rq
    exact Rr.if ((evE_em c _ h M ρ ρ' E ((((v.mono B).mono C).mono F).mono G)).bind fun H h M z z' E rz => cmpop_em E (((ry.mono F).mono G).mono H) rz) (Rr.pure E rfl)
  | .and a b, A, h, M, ρ, ρ', E, v => by
    rw [evE, evE]
    refine (evE_em a A h M ρ ρ' E v).bind fun B h M x x' E rx => (isB_em E rx).bind fun C h M q q' E rq => ?_
    cases rq
    exact Rr.if (evE_em b _ h M ρ ρ' E ((v.mono B).mono C)) (Rr.pure E rfl)
  | .or a b, A, h, M, ρ, ρ', E, v => by
    rw [evE, evE]
    refine (evE_em a A h M ρ ρ' E v).bind fun B h M x x' E rx => (isB_em E rx).bind fun C h M q q' E rq => ?_
    cases rq
    exact Rr.if (Rr.pure E rfl) (evE_em b _ h M ρ ρ' E ((v.mono B).mono C))
  | .ife c a b, A, h, M, ρ, ρ', E, v => by
    rw [evE, evE]
    refine (evE_em c A h M ρ ρ' E v).bind fun B h M x x' E rx => (toB_em E rx).bind fun C h M q q' E rq => ?_
    cases rq
    exact Rr.if (evE_em a _ h M ρ ρ' E ((v.mono B).mono C)) (evE_em b _ h M ρ ρ' E ((v.mono B).mono C))
  | .tup es, A, h, M, ρ, ρ', E, v => by
    rw [evE, evE]
    refine (evEs_em es A h M ρ ρ' E v).bind fun B h M x x' E rx => ?_
    try dsimp only
    cases hf : frzPs x h with
    | none => trivial
    | some p =>
      obtain ⟨xs, k⟩ := p
      obtain ⟨N, e1, E1, x1⟩ := frzPs_em E rx hf
      rw [e1]
      try dsimp only
      split
      · exact ⟨[], N, _, rfl, by rw [List.append_nil]; exact E1, rfl, x1⟩
      · trivial
  | .tst a es, A, h, M, ρ, ρ', E, v => by
    rw [evE, evE]
    refine (evE_em a A h M ρ ρ' E v).bind fun B h M x x' E rx => ?_
    cases x with
    | scr ns => trivial
    | ref j => trivial
    | p z =>
      cases rx
      cases z <;> try trivial
      rename_i zs
      try dsimp only
      refine (evEs_em es _ h M ρ ρ' E (v.mono B)).bind fun C h M x x' E rx => ?_
      try dsimp only
      cases hf : frzPs x h with
      | none => trivial
      | some p =>
        obtain ⟨xs, k⟩ := p
        obtain ⟨N, e1, E1, x1⟩ := frzPs_em E rx hf
        rw [e1]
        try dsimp only
        split
        · exact ⟨[], N, _, rfl, by rw [List.append_nil]; exact E1, rfl, x1⟩
        · trivial
  | .txm m o e, A, h, M, ρ, ρ', E, v => by
    rw [evE, evE]
    refine (evE_em o A h M ρ ρ' E v).bind fun B h M x x' E rx => ?_
    cases x with
    | scr ns => trivial
    | ref j => trivial
    | p z =>
      cases rx
      try dsimp only
      split
      · refine (evE_em e _ h M ρ ρ' E (v.mono B)).bind fun C h M y y' E ry => ?_
        try dsimp only
        cases hd : dat h y with
        | none => trivial
        | some w =>
          rw [dat_em E ry hd]
          try dsimp only
          cases txop m z w with
          | none => trivial
          | some r => exact Rr.pure E rfl
      · trivial
  | .dgt d a b, A, h, M, ρ, ρ', E, v => by
    rw [evE, evE]
    refine (evE_em d A h M ρ ρ' E v).bind fun B h M x x' E rx => ?_
    cases x with
    | scr ns => trivial
    | ref j => trivial
    | p z =>
      cases rx
      cases z <;> try trivial
      try dsimp only
      refine (evE_em a _ h M ρ ρ' E (v.mono B)).bind fun C h M y y' E ry => (evE_em b _ h M ρ ρ' E ((v.mono B).mono C)).bind fun F h M w w' E rw' => ?_
      cases y with
      | scr ns => trivial
      | ref j => trivial
      | p y =>
        cases ry
        cases y <;> try trivial
        cases w with
        | scr ns => trivial
        | ref j => trivial
        | p w =>
          cases rw'
          exact Rr.pure E rfl
  | .nat n es, A, h, M, ρ, ρ', E, v => by
    rw [evE, evE]
    refine (Rr.tame (evEs_em es A h M ρ ρ' E v)).bind fun B h M x x' E rx => ?_
    try dsimp only
    cases hx : asPs x with
    | none => trivial
    | some xs =>
      rw [asPs_em rx hx]
      try dsimp only
      cases natop n xs with
      | none => trivial
      | some r => exact Rr.pure E rfl
  | .lst mt es, A, h, M, ρ, ρ', E, v => by
    rw [evE, evE]
    refine (evEs_em es A h M ρ ρ' E v).bind fun B h M x x' E rx => ?_
    try dsimp only
    cases hf : frzPs x h with
    | none => trivial
    | some p =>
      obtain ⟨xs, k⟩ := p
      obtain ⟨N, e1, E1, x1⟩ := frzPs_em E rx hf
      rw [e1]
      try dsimp only
      split
      · refine Rr.after x1 ?_
        rw [List.append_nil]
        exact Rr.sh E1 (.alc _ _)
      · trivial
  | .dct ks vs, A, h, M, ρ, ρ', E, v => by
    rw [evE, evE]
    exact (evEs_em ks A h M ρ ρ' E v).bind fun B h M x x' E rx => (evEs_em vs _ h M ρ ρ' E (v.mono B)).bind fun C h M y y' E ry => dctop_em E (rx.mono C) ry
  | .idx a i, A, h, M, ρ, ρ', E, v => by
    rw [evE, evE]
    exact (evE_em a A h M ρ ρ' E v).bind fun B h M x x' E rx => (evE_em i _ h M ρ ρ' E (v.mono B)).bind fun C h M y y' E ry => idxop_em E (rx.mono C) ry
  | .slc mt a lo hi, A, h, M, ρ, ρ', E, v => by
    rw [evE, evE]
    refine (evE_em a A h M ρ ρ' E v).bind fun B h M x x' E rx => (evO_em lo _ h M ρ ρ' E (v.mono B)).bind fun C h M l l' E rl => (evO_em hi _ h M ρ ρ' E ((v.mono B).mono C)).bind fun F h M u u' E ru => ?_
    cases rl; cases ru
    exact slcop_em E ((rx.mono C).mono F)
  | .rev mt a, A, h, M, ρ, ρ', E, v => by
    rw [evE, evE]
    exact (evE_em a A h M ρ ρ' E v).bind fun B h M x x' E rx => revop_em E rx
  | .call f es, A, h, M, ρ, ρ', E, v => by
    rw [evE, evE]
    exact (evEs_em es A h M ρ ρ' E v).bind fun B h M x x' E rx => L f _ _ _ _ _ E rx
  | .said f es, A, h, M, ρ, ρ', E, v => by
    rw [evE, evE]
    have R := (evEs_em es A h M ρ ρ' E v).bind (f := fun ds M => fn f ds M) (f' := fun ds M => fn f ds M) fun B h M x x' E rx => L f _ _ _ _ _ E rx
    exact saidR_em L R
  | .blt b es, A, h, M, ρ, ρ', E, v => by
    rw [evE, evE]
    exact (evEs_em es A h M ρ ρ' E v).bind fun B h M x x' E rx => bltop_em E rx
  | .mth m o es, A, h, M, ρ, ρ', E, v => by
    rw [evE, evE]
    refine (evE_em o A h M ρ ρ' E v).bind fun B h M x x' E rx => ?_
    try dsimp only
    cases hr : recv x h with
    | false => trivial
    | true =>
      have hr' : recv x' M = true := by
        unfold recv at hr ⊢
        cases hx : dat h x with
        | none => rw [hx] at hr; cases hr
        | some y => rw [dat_em E rx hx]; rw [hx] at hr; exact hr
      rw [hr', if_pos rfl, if_pos rfl]
      exact (evEs_em es _ h M ρ ρ' E (v.mono B)).bind fun C h M y y' E ry => mthop_em E (rx.mono C) ry
  | .comp mt ws t it c e, A, h, M, ρ, ρ', E, v => by
    rw [evE, evE]
    refine (evI_em it A h M ρ ρ' E v).bind fun B h M J J' E rJ => ?_
    cases J with
    | live j => trivial
    | items xs =>
      cases rJ
      try dsimp only
      refine (comp_em (ρ := ρ) (ρ' := ρ') (fun x A h M E v => ?_) xs [] _ h M E (v.mono B)).bind fun C h M y y' E ry => ?_
      · try dsimp only
        cases hb : bindT t x (wipeE ρ ws) with
        | none => trivial
        | some σ =>
          obtain ⟨σ', e', w⟩ := (v.wipe ws).bindT hb
          rw [e']
          refine (evC_em c _ h M σ σ' E w).bind fun C h M k k' E rk => ?_
          cases rk
          refine Rr.if ((evE_em e _ h M σ σ' E (w.mono C)).bind fun D h M d d' E rd => ?_) (Rr.pure E rfl)
          try dsimp only
          cases hf : frzP d h with
          | none => trivial
          | some p =>
            obtain ⟨y, k⟩ := p
            obtain ⟨N, e1, E1, x1⟩ := frzP_em E rd hf
            rw [e1]
            exact ⟨[], N, _, rfl, by rw [List.append_nil]; exact E1, rfl, x1⟩
      · cases ry
        exact Rr.sh E (.alc _ _)
  | .box e m, A, h, M, ρ, ρ', E, v => by
    rw [evE, evE]
    refine (evE_em e A h M ρ ρ' E v).bind fun B h M x x' E rx => ?_
    try dsimp only
    cases hf : frzP x h with
    | none => trivial
    | some p =>
      obtain ⟨y, k⟩ := p
      obtain ⟨N, e1, E1, x1⟩ := frzP_em E rx hf
      rw [e1]
      try dsimp only
      split
      · refine Rr.after x1 ?_
        rw [List.append_nil]
        refine allocB_em E1 (fun o ho => ?_) fun p hp k hk => ?_
        · rw [List.eq_of_mem_replicate ho]; intro _ _ z; cases z
        · rw [List.length_replicate]
          unfold boxF at hp
          rcases List.mem_cons.1 hp with rfl | hp
          · cases hk
          · obtain ⟨i, hi, rfl⟩ := List.mem_map.1 hp
            cases hk
            have := List.mem_range.1 hi
            omega
      · trivial
  | .fld c x o, A, h, M, ρ, ρ', E, v => by
    rw [evE, evE]
    refine (evE_em o A h M ρ ρ' E v).bind fun B h M d d' E rd => ?_
    try dsimp only
    cases hi : insAt h d c with
    | none => trivial
    | some p =>
      obtain ⟨i, ks⟩ := p
      obtain ⟨a, rfl, rfl, ha, e1, H⟩ := insAt_em E rd hi
      rw [e1]
      try dsimp only
      cases hl : ks.lookup x with
      | none => trivial
      | some k =>
        try dsimp only
        cases hf : fkD i k with
        | none => trivial
        | some d =>
          obtain ⟨y, hy⟩ := look_mem hl
          obtain ⟨d', e2, r⟩ := fk_em H hy hf
          rw [e2]
          exact Rr.pure E r
  | .mcl c x f o es, A, h, M, ρ, ρ', E, v => by
    rw [evE, evE]
    refine (evE_em o A h M ρ ρ' E v).bind fun B h M d d' E rd => ?_
    try dsimp only
    cases hi : insAt h d c with
    | none => trivial
    | some p =>
      obtain ⟨i, ks⟩ := p
      obtain ⟨a, rfl, rfl, ha, e1, H⟩ := insAt_em E rd hi
      rw [e1]
      try dsimp only
      refine Rr.if ((evEs_em es _ h M ρ ρ' E (v.mono B)).bind fun C h M y y' E ry => ?_) trivial
      exact L f _ _ _ _ _ E (.cons (rd.mono C) ry)
  | .mk n c es, A, h, M, ρ, ρ', E, v => by
    rw [evE, evE]
    refine (evEs_em es A h M ρ ρ' E v).bind fun B h M x x' E rx => ?_
    try dsimp only
    cases hx : asPs x with
    | none => trivial
    | some xs =>
      rw [asPs_em rx hx]
      exact mkop_em E n c xs
theorem evEs_em : ∀ (e : CEs) (A : List Nat) (h M : Mem) (ρ ρ' : Env), Em A h M → Ev A ρ ρ' → Rr Des A M (evEs fn e ρ h) (evEs fn e ρ' M)
  | .nil, A, h, M, ρ, ρ', E, v => by rw [evEs, evEs]; exact Rr.pure E .nil
  | .cons e es, A, h, M, ρ, ρ', E, v => by
    rw [evEs, evEs]
    exact (evE_em e A h M ρ ρ' E v).bind fun B h M x x' E rx => (evEs_em es _ h M ρ ρ' E (v.mono B)).bind fun C h M y y' E ry => Rr.pure E (.cons (rx.mono C) ry)
theorem evO_em : ∀ (e : CEo) (A : List Nat) (h M : Mem) (ρ ρ' : Env), Em A h M → Ev A ρ ρ' → Rr EqV A M (evO fn e ρ h) (evO fn e ρ' M)
  | .no, A, h, M, ρ, ρ', E, v => by rw [evO, evO]; exact Rr.pure E rfl
  | .yes e, A, h, M, ρ, ρ', E, v => by
    rw [evO, evO]
    refine (evE_em e A h M ρ ρ' E v).bind fun B h M x x' E rx => ?_
    cases x with
    | ref j => trivial
    | scr j => trivial
    | p x => cases rx; cases x <;> first | trivial | exact Rr.pure E rfl
theorem evC_em : ∀ (e : CEo) (A : List Nat) (h M : Mem) (ρ ρ' : Env), Em A h M → Ev A ρ ρ' → Rr EqV A M (evC fn e ρ h) (evC fn e ρ' M)
  | .no, A, h, M, ρ, ρ', E, v => by rw [evC, evC]; exact Rr.pure E rfl
  | .yes e, A, h, M, ρ, ρ', E, v => by
    rw [evC, evC]
    exact (evE_em e A h M ρ ρ' E v).bind fun B h M x x' E rx => toB_em E rx
theorem evI_em : ∀ (e : CI) (A : List Nat) (h M : Mem) (ρ ρ' : Env), Em A h M → Ev A ρ ρ' → Rr ItEm A M (evI fn e ρ h) (evI fn e ρ' M)
  | .seq e, A, h, M, ρ, ρ', E, v => by
    rw [evI, evI]
    refine (evE_em e A h M ρ ρ' E v).bind fun B h M x x' E rx => ?_
    try dsimp only
    cases hs : seqOf x h with
    | none => trivial
    | some J =>
      obtain ⟨J', e', r⟩ := seqOf_em E rx hs
      rw [e']
      exact Rr.pure E r
  | .rng a, A, h, M, ρ, ρ', E, v => by
    rw [evI, evI]
    refine (evE_em a A h M ρ ρ' E v).bind fun B h M x x' E rx => ?_
    cases x with
    | ref j => trivial
    | scr j => trivial
    | p x =>
      cases rx
      cases x <;> first | trivial | skip
      try dsimp only
      split
      · exact Rr.pure E rfl
      · trivial
  | .rng2 a b, A, h, M, ρ, ρ', E, v => by
    rw [evI, evI]
    refine (evE_em a A h M ρ ρ' E v).bind fun B h M x x' E rx => (evE_em b _ h M ρ ρ' E (v.mono B)).bind fun C h M y y' E ry => ?_
    cases x with
    | ref j => trivial
    | scr j => trivial
    | p x =>
      cases rx
      cases x <;> first | trivial | skip
      cases y with
      | ref j => trivial
      | scr j => trivial
      | p y =>
        cases ry
        cases y <;> first | trivial | skip
        try dsimp only
        split
        · exact Rr.pure E rfl
        · trivial
  | .enum e, A, h, M, ρ, ρ', E, v => by
    rw [evI, evI]
    refine (evE_em e A h M ρ ρ' E v).bind fun B h M x x' E rx => ?_
    cases x with
    | ref j => trivial
    | scr j => trivial
    | p x => cases rx; cases x <;> first | trivial | exact Rr.pure E rfl
  | .zip3 a b c, A, h, M, ρ, ρ', E, v => by
    rw [evI, evI]
    refine (evE_em a A h M ρ ρ' E v).bind fun B h M x x' E rx => (evE_em b _ h M ρ ρ' E (v.mono B)).bind fun C h M y y' E ry => (evE_em c _ h M ρ ρ' E ((v.mono B).mono C)).bind fun F h M z z' E rz => ?_
    cases hx : seqP x with
    | none => trivial
    | some xs =>
      cases hy : seqP y with
      | none => trivial
      | some ys =>
        cases hz : seqP z with
        | none => trivial
        | some zs =>
          rw [seqP_em rx hx, seqP_em ry hy, seqP_em rz hz]
          exact Rr.pure E rfl
  | .zip a b, A, h, M, ρ, ρ', E, v => by
    rw [evI, evI]
    refine (evE_em a A h M ρ ρ' E v).bind fun B h M x x' E rx => (evE_em b _ h M ρ ρ' E (v.mono B)).bind fun C h M y y' E ry => ?_
    cases x with
    | ref j => trivial
    | scr j => trivial
    | p x =>
      cases rx
      cases y with
      | ref j => cases x <;> trivial
      | scr j => cases x <;> trivial
      | p y =>
        cases ry
        cases x <;> first | trivial | skip
        · cases y <;> first | trivial | exact Rr.pure E rfl
        · cases y <;> first | trivial | exact Rr.pure E rfl
end
end
theorem Rr.onto {α : Type} {V : List Nat → α → α → Prop} {A : List Nat} {M : Mem} {r r' : Res α} {f f' : α → Mem → Res Fl} {ρ ρ' : Env} (v : Ev A ρ ρ') (R : Rr V A M r r') (k : ∀ B h M' a a', Em (A ++ B) h M' → V (A ++ B) a a' → Rr FlE (A ++ B) M' (f a h) (f' a' M')) : Rr FlE A M (r.onto f (evX ρ)) (r'.onto f' (evX ρ')) := by
  cases r with
  | bad => trivial
  | exc c h => obtain ⟨B, M', rfl, E, x⟩ := R; exact ⟨B, M', _, rfl, E, ⟨ρ', rfl, v.mono B⟩, x⟩
  | ok a h =>
    obtain ⟨B, M', a', rfl, E, w, x⟩ := R
    exact Rr.after x (k B h M' a a' E w)
section
variable {fn : Fn} (L : Loc fn) (fuel : Nat)
include L
mutual
theorem evS_em : ∀ (s : CS) (A : List Nat) (h M : Mem) (ρ ρ' : Env), Em A h M → Ev A ρ ρ' → Rr FlE A M (evS fn fuel s ρ h) (evS fn fuel s ρ' M)
  | .expr e, A, h, M, ρ, ρ', E, v => by
    rw [evS, evS]
    exact Rr.onto v (evE_em L e A h M ρ ρ' E v) fun B h M x x' E rx => Rr.pure E ⟨ρ', rfl, v.mono B⟩
  | .asg t e, A, h, M, ρ, ρ', E, v => by
    rw [evS, evS]
    refine Rr.onto v (evE_em L e A h M ρ ρ' E v) fun B h M x x' E rx => ?_
    cases t with
    | nm i => exact Rr.pure E ⟨_, rfl, (v.mono B).set i rx⟩
    | tp is =>
      cases x with
      | ref j => trivial
      | scr j => trivial
      | p x =>
        cases rx
        cases x <;> first | trivial | skip
        all_goals
          simp only [asgT]
          split
          · rename_i σ e
            obtain ⟨σ', e', w⟩ := (v.mono B).setAll e
            rw [e']
            exact Rr.pure E ⟨σ', rfl, w⟩
          · trivial
  | .par is es, A, h, M, ρ, ρ', E, v => by
    rw [evS, evS]
    refine Rr.onto v (evEs_em L es A h M ρ ρ' E v) fun B h M x x' E rx => ?_
    try dsimp only
    split
    · rename_i σ e
      obtain ⟨σ', e', w⟩ := (v.mono B).setDs rx e
      rw [e']
      exact Rr.pure E ⟨σ', rfl, w⟩
    · trivial
  | .sub o i w, A, h, M, ρ, ρ', E, v => by
    rw [evS, evS]
    exact Rr.onto v (evE_em L w A h M ρ ρ' E v) fun B h M x x' E rx => Rr.onto (v.mono B) (evE_em L o _ h M ρ ρ' E (v.mono B)) fun C h M y y' E ry => Rr.onto ((v.mono B).mono C) (evE_em L i _ h M ρ ρ' E ((v.mono B).mono C)) fun D h M z z' E rz =>
      Rr.onto (((v.mono B).mono C).mono D) (subop_em E (ry.mono D) rz ((rx.mono C).mono D)) fun F h M _ _ E _ => Rr.pure E ⟨ρ', rfl, (((v.mono B).mono C).mono D).mono F⟩
  | .sb2 n i j es, A, h, M, ρ, ρ', E, v => by
    rw [evS, evS]
    refine Rr.onto v (evEs_em L es A h M ρ ρ' E v) fun B h M x x' E rx => Rr.onto (v.mono B) (?_ : Rr EqV _ _ _ _) fun C h M _ _ E _ => Rr.pure E ⟨ρ', rfl, (v.mono B).mono C⟩
    unfold sb2op
    split
    · rename_i o a b ho
      obtain ⟨o', ho', ro⟩ := (v.mono B).el n o ho
      rw [ho']
      cases rx with
      | cons ra rx =>
        cases rx with
        | cons rb rx =>
          cases rx
          exact (subop_em E ro (show De _ (.p (.int i)) (.p (.int i)) from rfl) ra).bind fun C h M _ _ E _ => subop_em E (ro.mono C) (show De _ (.p (.int j)) (.p (.int j)) from rfl) (rb.mono C)
    · trivial
  | .ret e, A, h, M, ρ, ρ', E, v => by
    rw [evS, evS]
    exact Rr.onto v (evE_em L e A h M ρ ρ' E v) fun B h M x x' E rx => Rr.pure E ⟨x', rfl, rx⟩
  | .retN, A, h, M, ρ, ρ', E, v => by rw [evS, evS]; exact Rr.pure E ⟨_, rfl, rfl⟩
  | .ife c a b, A, h, M, ρ, ρ', E, v => by
    rw [evS, evS]
    refine Rr.onto v (evE_em L c A h M ρ ρ' E v) fun B h M x x' E rx => Rr.onto (v.mono B) (toB_em E rx) fun C h M k k' E rk => ?_
    cases rk
    exact Rr.if (evSs_em a _ h M ρ ρ' E ((v.mono B).mono C)) (evSs_em b _ h M ρ ρ' E ((v.mono B).mono C))
  | .loop t it b, A, h, M, ρ, ρ', E, v => by
    rw [evS, evS]
    refine Rr.onto v (evI_em L it A h M ρ ρ' E v) fun B h M J J' E rJ => ?_
    have hb : ∀ x A h M ρ ρ', Em A h M → Ev A ρ ρ' → Rr FlE A M ((fun x ρ M => match bindT t x ρ with | some ρ => evSs fn fuel b ρ M | none => .bad) x ρ h) ((fun x ρ M => match bindT t x ρ with | some ρ => evSs fn fuel b ρ M | none => .bad) x ρ' M) := by
      intro x A h M ρ ρ' E v
      try dsimp only
      cases hb : bindT t x ρ with
      | none => trivial
      | some σ =>
        obtain ⟨σ', e', w⟩ := v.bindT hb
        rw [e']
        exact evSs_em b _ h M σ σ' E w
    cases J with
    | items xs => cases rJ; exact for_em hb xs _ h M ρ ρ' E (v.mono B)
    | live j =>
      obtain ⟨a, ha, rfl⟩ := rJ
      exact live_em hb fuel 0 _ h M ρ ρ' ha E (v.mono B)
  | .whl c b, A, h, M, ρ, ρ', E, v => by
    rw [evS, evS]
    exact while_em (fun A h M ρ ρ' E v => (evE_em L c A h M ρ ρ' E v).bind fun B h M x x' E rx => toB_em E rx) (fun A h M ρ ρ' E v => evSs_em b A h M ρ ρ' E v) fuel A h M ρ ρ' E v
  | .pass, A, h, M, ρ, ρ', E, v => by rw [evS, evS]; exact Rr.pure E ⟨_, rfl, v⟩
  | .brk, A, h, M, ρ, ρ', E, v => by rw [evS, evS]; exact Rr.pure E ⟨_, rfl, v⟩
  | .cont, A, h, M, ρ, ρ', E, v => by rw [evS, evS]; exact Rr.pure E ⟨_, rfl, v⟩
  | .never, A, h, M, ρ, ρ', E, v => by rw [evS, evS]; trivial
  | .rais c, A, h, M, ρ, ρ', E, v => by rw [evS, evS]; exact Rr.pure E ⟨_, rfl, v⟩
  | .sfl c x o u, A, h, M, ρ, ρ', E, v => by
    rw [evS, evS]
    refine Rr.onto v (evE_em L u A h M ρ ρ' E v) fun B h M d d' E rd => ?_
    try dsimp only
    cases hf : frzP d h with
    | none => trivial
    | some p =>
      obtain ⟨y, k⟩ := p
      obtain ⟨N, e1, E1, x1⟩ := frzP_em E rd hf
      rw [e1]
      try dsimp only
      refine Rr.after x1 ?_
      rw [List.append_nil]
      refine Rr.onto (v.mono B) (evE_em L o _ k N ρ ρ' E1 (v.mono B)) fun C h M d d' E rd => ?_
      try dsimp only
      cases hi : insAt h d c with
      | none => trivial
      | some p =>
        obtain ⟨i, ks⟩ := p
        obtain ⟨a, rfl, rfl, ha, e1, H⟩ := insAt_em E rd hi
        rw [e1]
        try dsimp only
        split
        · split
          · exact ⟨[], _, _, rfl, by rw [List.append_nil]; exact E.setH ha _ (Hd.setF H), ⟨ρ', rfl, by rw [List.append_nil]; exact (v.mono B).mono C⟩, Xt.set E ha _⟩
          · trivial
        · trivial
theorem evSs_em : ∀ (s : CSs) (A : List Nat) (h M : Mem) (ρ ρ' : Env), Em A h M → Ev A ρ ρ' → Rr FlE A M (evSs fn fuel s ρ h) (evSs fn fuel s ρ' M)
  | .nil, A, h, M, ρ, ρ', E, v => by rw [evSs, evSs]; exact Rr.pure E ⟨_, rfl, v⟩
  | .cons s ss, A, h, M, ρ, ρ', E, v => by
    rw [evSs, evSs]
    have R := evS_em s A h M ρ ρ' E v
    revert R
    generalize evS fn fuel s ρ h = r
    generalize evS fn fuel s ρ' M = r'
    intro R
    cases r with
    | bad => trivial
    | exc c k => obtain ⟨B, M', rfl, e⟩ := R; exact ⟨B, M', rfl, e⟩
    | ok o k =>
      obtain ⟨B, M', o', rfl, E1, v1, x1⟩ := R
      cases o with
      | nx σ => obtain ⟨σ', rfl, w⟩ := v1; exact Rr.after x1 (evSs_em ss _ _ _ _ _ E1 w)
      | ct σ => obtain ⟨σ', rfl, w⟩ := v1; exact ⟨B, M', _, rfl, E1, ⟨σ', rfl, w⟩, x1⟩
      | bk σ => obtain ⟨σ', rfl, w⟩ := v1; exact ⟨B, M', _, rfl, E1, ⟨σ', rfl, w⟩, x1⟩
      | rt d => obtain ⟨σ', rfl, w⟩ := v1; exact ⟨B, M', _, rfl, E1, ⟨σ', rfl, w⟩, x1⟩
      | ex c d => obtain ⟨σ', rfl, w⟩ := v1; exact ⟨B, M', _, rfl, E1, ⟨σ', rfl, w⟩, x1⟩
end
end
/-! ### calls -/
theorem Em.take {A B : List Nat} {h M h' M' : Mem} (E : Em A h M) (E' : Em (A ++ B) h' M') (x : Xt A M B M') : Em A (h'.take h.length) (M'.take M.length) := by
  have hl := E'.len
  rw [List.length_append] at hl
  refine ⟨by rw [List.length_take, E.len]; have := E.len; omega, E.nd, fun j a e => ?_, fun j a o e e2 c ks eo p hp k hk hjk => ?_⟩
  rotate_left
  · have hj := (List.getElem?_eq_some_iff.1 e).1
    have ha := E.lt e
    rw [List.getElem?_take, if_pos ha.2] at e2
    obtain ⟨h1, h2⟩ := E'.hd j a o (by rw [List.getElem?_append_left hj]; exact e) e2 c ks eo p hp k hk hjk
    rw [List.getElem?_append_left (by omega)] at h2
    exact ⟨h1, h2⟩
  have hj := (List.getElem?_eq_some_iff.1 e).1
  have ha := E.lt e
  rw [List.getElem?_take, List.getElem?_take, if_pos ha.1, if_pos ha.2]
  exact E'.el j a (by rw [List.getElem?_append_left hj]; exact e)
theorem Xt.take {A B : List Nat} {M M' : Mem} (x : Xt A M B M') : Xt A M [] (M'.take M.length) := by
  refine ⟨by rw [List.length_take, List.length_nil]; have := x.le; omega, fun _ h => absurd h List.not_mem_nil, fun a ha hA => ?_⟩
  rw [List.getElem?_take, if_pos ha]
  exact x.fr a ha hA
theorem fin_em {A B : List Nat} {h M h' M' : Mem} (E : Em A h M) (E' : Em (A ++ B) h' M') (x : Xt A M B M') {d d' : D} (r : De (A ++ B) d d') (frz : Bool) : Rr De A M (fin frz h.length d h') (fin frz M.length d' M') := by
  cases frz with
  | false => exact ⟨B, M', d', rfl, E', r, x⟩
  | true =>
    cases d with
    | p y => cases r; exact ⟨[], _, _, rfl, by rw [List.append_nil]; exact E.take E' x, rfl, x.take⟩
    | scr y => trivial
    | ref i =>
      obtain ⟨a, ha, rfl⟩ := r
      simp only [fin, if_true]
      by_cases hi : i < h.length
      · rw [if_pos hi]
        rw [List.getElem?_append_left (by rw [E.len]; exact hi)] at ha
        rw [if_pos (E.lt ha).1]
        exact ⟨[], _, _, rfl, by rw [List.append_nil]; exact E.take E' x, by rw [List.append_nil]; exact ⟨a, ha, rfl⟩, x.take⟩
      · rw [if_neg hi]
        have e := E'.el i a ha
        rw [List.getElem?_append_right (by rw [E.len]; omega)] at ha
        rw [if_neg (by have := x.nw a (List.mem_of_getElem? ha); omega), e]
        split
        · exact ⟨[], _, _, rfl, by rw [List.append_nil]; exact E.take E' x, rfl, x.take⟩
        · trivial
theorem Ev.enter {A : List Nat} {ds ds' : List D} (R : Des A ds ds') (fd : FD) : Ev A (enter fd ds) (enter fd ds') := by
  refine ⟨by simp [Mi.enter, R.len], fun i d e => ?_⟩
  unfold Mi.enter at e ⊢
  by_cases hi : i < ds.length
  · rw [List.getElem?_append_left (by simpa using hi), List.getElem?_map] at e
    rw [List.getElem?_append_left (by simpa [← R.len] using hi), List.getElem?_map]
    have : ∀ {ds ds' : List D}, Des A ds ds' → ∀ (i : Nat) (d : D), ds[i]? = some d → ∃ d', ds'[i]? = some d' ∧ De A d d' := by
      intro ds ds' R
      induction R with
      | nil => intro i d e; simp at e
      | cons r t ih =>
        intro i d e
        cases i with
        | zero => cases e; exact ⟨_, rfl, r⟩
        | succ i => exact ih i d e
    cases hd : ds[i]? with
    | none => rw [hd] at e; cases e
    | some x =>
      rw [hd] at e
      cases e
      obtain ⟨d', e', r⟩ := this R i _ hd
      exact ⟨d', by rw [e']; rfl, r⟩
  · rw [List.getElem?_append_right (by simpa using hi)] at e
    have := List.mem_of_getElem? e
    rw [List.mem_replicate] at this
    exact absurd this.2 (by simp)
theorem callF_em {fn : Fn} (L : Loc fn) (fuel : Nat) (fd : FD) : ∀ ds ds' A h M, Em A h M → Des A ds ds' → Rr De A M (callF fn fuel fd ds h) (callF fn fuel fd ds' M) := by
  intro ds ds' A h M E R
  unfold callF
  rw [← R.len]
  split
  · have Q := evSs_em L fuel fd.body A h M _ _ E (Ev.enter R fd)
    revert Q
    generalize evSs fn fuel fd.body (enter fd ds) h = r
    generalize evSs fn fuel fd.body (enter fd ds') M = r'
    intro Q
    cases r with
    | bad => trivial
    | exc c k => trivial
    | ok o k =>
      obtain ⟨B, M', o', rfl, E1, v1, x1⟩ := Q
      cases o with
      | nx σ => obtain ⟨σ', rfl, w⟩ := v1; exact fin_em E E1 x1 (show De (A ++ B) (.p .none) (.p .none) from rfl) fd.frz
      | rt d => obtain ⟨d', rfl, w⟩ := v1; exact fin_em E E1 x1 w fd.frz
      | bk σ => trivial
      | ct σ => trivial
      | ex c σ =>
        obtain ⟨σ', rfl, w⟩ := v1
        try dsimp only
        split
        · exact ⟨[], _, rfl, by rw [List.append_nil]; exact E.take E1 x1, x1.take⟩
        · exact ⟨B, _, rfl, E1, x1⟩
  · trivial
theorem run_loc (T : Nat → Option FD) (fuel : Nat) : ∀ k, Loc (run T fuel k)
  | 0 => fun f ds ds' A h M E R => by rw [run]; trivial
  | k + 1 => fun f ds ds' A h M E R => by
    rw [run, run]
    split
    · exact callF_em (run_loc T fuel k) fuel _ ds ds' A h M E R
    · trivial
end Mi

set_option Elab.async false
set_option linter.all false
/-! Mi: what is known of a call over a small memory, used over another one. -/
namespace Mi
open PySem
theorem Em.nil (M : Mem) : Em [] [] M := ⟨rfl, .nil, (fun j a e => by simp at e), (fun j a o e => by simp at e)⟩
theorem Em.cons {a : Nat} {A : List Nat} {o : MO} {h M : Mem} (E : Em A h M) (n : a ∉ A) (e : M[a]? = some o) (nh : ∀ o' ∈ h, ∀ c ks, o' ≠ .hdr c ks) : Em (a :: A) (o :: h) M := by
  refine ⟨by simp [E.len], List.nodup_cons.2 ⟨n, E.nd⟩, fun j b e' => ?_, fun j b o' e' e2 c ks eo p hp k hk hj => ?_⟩
  rotate_left
  · cases j with
    | zero => omega
    | succ j => exact absurd eo (nh o' (List.mem_of_getElem? e2) c ks)
  cases j with
  | zero => cases e'; exact e
  | succ j => exact E.el j b e'
def upd : List Nat → List MO → Mem → Mem
  | a :: A, o :: h, M => upd A h (M.set a o)
  | _, _, M => M
theorem upd_len : ∀ (A : List Nat) (h : List MO) (M : Mem), (upd A h M).length = M.length
  | a :: A, o :: h, M => by rw [upd, upd_len A h]; exact List.length_set
  | [], _, M => by rw [upd]; simp
  | _ :: _, [], M => by rw [upd]; simp
theorem upd_out : ∀ (A : List Nat) (h : List MO) (M : Mem) (b : Nat), b ∉ A → (upd A h M)[b]? = M[b]?
  | a :: A, o :: h, M, b, n => by
    rw [upd, upd_out A h _ b (fun h => n (List.mem_cons_of_mem _ h)), List.getElem?_set, if_neg]
    rintro rfl
    exact n List.mem_cons_self
  | [], _, M, b, n => by rw [upd]; simp
  | _ :: _, [], M, b, n => by rw [upd]; simp
theorem upd_in : ∀ (A : List Nat) (h : List MO) (M : Mem), A.Nodup → A.length = h.length → ∀ (j a : Nat), A[j]? = some a → a < M.length → (upd A h M)[a]? = h[j]?
  | a :: A, o :: h, M, nd, hl, 0, b, e, hb => by
    cases e
    rw [upd, upd_out A h _ a (List.nodup_cons.1 nd).1, List.getElem?_set_self hb]
    rfl
  | a :: A, o :: h, M, nd, hl, j + 1, b, e, hb => by
    rw [upd]
    exact upd_in A h _ (List.nodup_cons.1 nd).2 (by simpa using hl) j b e (by simpa using hb)
  | [], _, M, nd, hl, j, b, e, hb => by simp at e
  | _ :: _, [], M, nd, hl, j, b, e, hb => by cases hl
theorem upd_eq {A : List Nat} {h h' M M' : Mem} (E : Em A h M) (E' : Em (A ++ []) h' M') (x : Xt A M [] M') : M' = upd A h' M := by
  rw [List.append_nil] at E'
  refine List.ext_getElem? fun b => ?_
  by_cases hb : b < M.length
  · by_cases hA : b ∈ A
    · obtain ⟨j, e⟩ := List.getElem?_of_mem hA
      rw [E'.el j b e, upd_in A h' M E.nd E'.len j b e hb]
    · rw [x.fr b hb hA, upd_out A h' M b hA]
  · rw [List.getElem?_eq_none (by rw [x.ln]; simpa using hb), List.getElem?_eq_none (by rw [upd_len]; omega)]
theorem nil_of {A B : List Nat} {h h' M M' : Mem} (E : Em A h M) (E' : Em (A ++ B) h' M') (hl : h'.length = h.length) : B = [] := by
  have := E'.len
  rw [List.length_append, hl, E.len] at this
  exact List.length_eq_zero_iff.1 (by omega)
theorem loc_ok {fn : Fn} (L : Loc fn) {f : Nat} {ds ds' : List D} {A : List Nat} {h h' M : Mem} {x : PyData} (E : Em A h M) (R : Des A ds ds') (e : fn f ds h = .ok (.p x) h') (hl : h'.length = h.length) : fn f ds' M = .ok (.p x) (upd A h' M) := by
  have Q := L f ds ds' A h M E R
  rw [e] at Q
  obtain ⟨B, M', d', e', E', r, x'⟩ := Q
  cases nil_of E E' hl
  cases r
  rw [e', upd_eq E E' x']
/-- values alone -/
inductive Vals : List D → Prop where
  | nil : Vals []
  | p {x : PyData} {ds : List D} (t : Vals ds) : Vals (.p x :: ds)
  | s {x : List Int} {ds : List D} (t : Vals ds) : Vals (.scr x :: ds)
theorem Vals.des {ds : List D} (h : Vals ds) (A : List Nat) : Des A ds ds := by
  induction h with
  | nil => exact .nil
  | p t ih => exact .cons rfl ih
  | s t ih => exact .cons rfl ih
section
variable {T : Nat → Option FD} {fuel k f : Nat} {ds : List D} {x : PyData} {Q : D → Mem → Prop} {X : Nat → Mem → Prop}
theorem run0 (v : Vals ds) (e : run T fuel k f ds [] = .ok (.p x) []) (M : Mem) : run T fuel k f ds M = .ok (.p x) M := by
  have := loc_ok (run_loc T fuel k) (Em.nil M) (v.des []) e rfl
  simpa only [upd] using this
/-- one cell, ahead of values -/
theorem run1 {i : Nat} {c c' : MO} {M : Mem} (hM : M[i]? = some c) (v : Vals ds) (e : run T fuel k f (.ref 0 :: ds) [c] = .ok (.p x) [c']) : run T fuel k f (.ref i :: ds) M = .ok (.p x) (M.set i c') := by
  have := loc_ok (run_loc T fuel k) (Em.cons (a := i) (Em.nil M) (by simp) hM (fun _ h => absurd h List.not_mem_nil)) (.cons (d := .ref 0) (d' := .ref i) ⟨i, rfl, rfl⟩ (v.des [i])) e rfl
  simpa only [upd] using this
/-- a row of cells, wherever it stands -/
theorem Em.blk (pre bs post : Mem) : Em (List.range' pre.length bs.length) bs (pre ++ (bs ++ post)) := by
  have hg : ∀ j a : Nat, (List.range' pre.length bs.length)[j]? = some a → j < bs.length ∧ a = pre.length + j := fun j a e => by
    have hj : j < bs.length := by
      have := (List.getElem?_eq_some_iff.1 e).1
      rwa [List.length_range'] at this
    rw [List.getElem?_range' hj] at e
    have := Option.some.inj e
    exact ⟨hj, by omega⟩
  refine ⟨List.length_range', List.nodup_range', fun j a e => ?_, fun j a o e e2 c ks eo p hp k hk hjk => ?_⟩
  · obtain ⟨hj, rfl⟩ := hg j a e
    rw [List.getElem?_append_right (by omega), show pre.length + j - pre.length = j by omega, List.getElem?_append_left hj]
  · obtain ⟨hj, rfl⟩ := hg j a e
    refine ⟨by omega, ?_⟩
    rw [List.getElem?_range' (by omega)]
    congr 1
    omega
theorem upd_app : ∀ (pre bs bs' post : Mem), bs.length = bs'.length → upd (List.range' pre.length bs.length) bs' (pre ++ (bs ++ post)) = pre ++ (bs' ++ post)
  | pre, [], [], post, _ => rfl
  | pre, b :: bs, b' :: bs', post, hl => by
    rw [List.length_cons, List.range'_succ, upd]
    have e1 : (pre ++ (b :: bs ++ post)).set pre.length b' = (pre ++ [b']) ++ (bs ++ post) := by
      rw [List.set_append_right _ _ (Nat.le_refl _), Nat.sub_self]
      simp
    have ih := upd_app (pre ++ [b']) bs bs' post (by simpa using hl)
    rw [List.length_append, List.length_singleton] at ih
    rw [e1, ih]
    simp
  | _, [], _ :: _, _, hl => by cases hl
  | _, _ :: _, [], _, hl => by cases hl
/-- a call with a row of cells: what is known of the row alone is known wherever it stands -/
theorem runB {pre bs bs' post : Mem} {ds' : List D} (hl : bs'.length = bs.length) (R : Des (List.range' pre.length bs.length) ds ds') (e : run T fuel k f ds bs = .ok (.p x) bs') : run T fuel k f ds' (pre ++ (bs ++ post)) = .ok (.p x) (pre ++ (bs' ++ post)) := by
  have := loc_ok (run_loc T fuel k) (Em.blk pre bs post) R e hl
  rw [this, upd_app pre bs bs' post hl.symm]
end
end Mi

set_option Elab.async false
set_option linter.all false
/-! Mi: loops and comprehensions by what holds along them. -/
namespace Mi
open PySem
section
variable {fn : Fn} {fuel : Nat}
def wpBody (fn : Fn) (ws : List Nat) (t : Tg) (c : CEo) (e : CE) (ρ : Env) (x : PyData) (M : Mem) (Q : Option PyData → Mem → Prop) : Prop :=
  wSet (bindT t x (wipeE ρ ws)) fun ρ' => wpC fn c ρ' M (fun k M => WIf k (wpE fn e ρ' M (fun d M => wFrz d M fun y M => Q (some y) M) NoX) (Q none M)) NoX
theorem wpBody.s {ws : List Nat} {t : Tg} {c : CEo} {e : CE} {ρ : Env} {x : PyData} {M : Mem} {Q : Option PyData → Mem → Prop} (h : wpBody fn ws t c e ρ x M Q) : Wr (cmpBody fn ws t c e ρ x M) Q NoX := by
  obtain ⟨ρ', e1, h⟩ := wSet.s h
  unfold cmpBody
  rw [e1]
  refine ((wpC.s h).mono (fun k M h => WIf.ite (h.imp (fun h => ?_) fun h => .ok _ _ rfl h)) fun _ _ h => h).bind
  refine ((wpE.s h).mono (fun d M h => ?_) fun _ _ h => h).bind
  obtain ⟨y, N, e2, q⟩ := wFrz.s h
  exact .ok _ _ (by simp only [e2]) q
def wpForB (fn : Fn) (fuel : Nat) (t : Tg) (b : CSs) (x : PyData) (ρ : Env) (M : Mem) (Q : Fl → Mem → Prop) : Prop :=
  wSet (bindT t x ρ) fun ρ' => Wr (evSs fn fuel b ρ' M) Q NoX
theorem wpForB.s {t : Tg} {b : CSs} {x : PyData} {ρ : Env} {M : Mem} {Q : Fl → Mem → Prop} (h : wpForB fn fuel t b x ρ M Q) : Wr (forBody fn fuel t b x ρ M) Q NoX := by
  obtain ⟨ρ', e1, h⟩ := wSet.s h
  unfold forBody
  rw [e1]
  exact h
end
/-! ### comprehensions -/
/-- by a function: no memory is moved -/
theorem W_comp {fn : Fn} {ws : List Nat} {t : Tg} {c : CEo} {e : CE} {ρ : Env} {β : Type} (enc : β → PyData) (g : β → Option PyData) (ys : List β) {M : Mem} {Q : List PyData → Mem → Prop} {X : Nat → Mem → Prop}
    (hl : ys.length ≤ 16777216) (hf : ∀ y ∈ ys, wpBody fn ws t c e ρ (enc y) M (fun o N => o = g y ∧ N = M)) (q : Q (ys.filterMap g) M) : Wr (compLoop (cmpBody fn ws t c e ρ) (ys.map enc) [] M) Q X := by
  suffices h : ∀ (ys : List β) (acc : List PyData), (∀ y ∈ ys, wpBody fn ws t c e ρ (enc y) M (fun o N => o = g y ∧ N = M)) → acc.length + ys.length ≤ 16777216 → compLoop (cmpBody fn ws t c e ρ) (ys.map enc) acc M = .ok (acc ++ ys.filterMap g) M from
    .ok _ _ (h ys [] hf (by simpa using hl)) (by simpa using q)
  intro ys
  induction ys with
  | nil => intro acc _ _; simp [compLoop]
  | cons y ys ih =>
    intro acc hf hl
    rw [List.length_cons] at hl
    rw [List.map_cons, compLoop, (wpBody.s (hf y List.mem_cons_self)).out]
    cases eg : g y with
    | none =>
      simp only
      rw [ih acc (fun y' h => hf y' (List.mem_cons_of_mem _ h)) (by omega), List.filterMap_cons, eg]
    | some z =>
      simp only
      rw [if_pos (by omega), ih (acc ++ [z]) (fun y' h => hf y' (List.mem_cons_of_mem _ h)) (by rw [List.length_append, List.length_singleton]; omega), List.filterMap_cons, eg]
      simp
/-- one value for each item -/
theorem W_compM {fn : Fn} {ws : List Nat} {t : Tg} {e : CE} {ρ : Env} {β : Type} (enc : β → PyData) (g : β → PyData) (ys : List β) {M : Mem} {Q : List PyData → Mem → Prop} {X : Nat → Mem → Prop}
    (hl : ys.length ≤ 16777216) (hf : ∀ y ∈ ys, wpBody fn ws t .no e ρ (enc y) M (fun o N => o = some (g y) ∧ N = M)) (q : Q (ys.map g) M) : Wr (compLoop (cmpBody fn ws t .no e ρ) (ys.map enc) [] M) Q X :=
  W_comp enc (fun y => some (g y)) ys hl hf (by rw [List.filterMap_eq_map']; exact q)
/-! ### loops -/
def stepQ (P Q : Env → Mem → Prop) (R : Fl → Mem → Prop) (o : Fl) (N : Mem) : Prop := match o with
  | .nx ρ => P ρ N
  | .ct ρ => P ρ N
  | .bk ρ => Q ρ N
  | o => R o N
theorem W_for {fn : Fn} {fuel : Nat} {t : Tg} {b : CSs} {ρ : Env} {β : Type} (enc : β → PyData) (ys : List β) (I : List β → Env → Mem → Prop) {M : Mem} {Q : Fl → Mem → Prop}
    (h0 : I [] ρ M) (hf : ∀ pre y post, ys = pre ++ y :: post → ∀ ρ M, I pre ρ M → wpForB fn fuel t b (enc y) ρ M (stepQ (fun ρ N => I (pre ++ [y]) ρ N) (fun ρ N => Q (.nx ρ) N) Q))
    (q : ∀ ρ N, I ys ρ N → Q (.nx ρ) N) : Wr (forLoop (forBody fn fuel t b) (ys.map enc) ρ M) Q NoX := by
  suffices h : ∀ (post pre : List β) (ρ : Env) (M : Mem), ys = pre ++ post → I pre ρ M → Wr (forLoop (forBody fn fuel t b) (post.map enc) ρ M) Q NoX from h ys [] ρ M rfl h0
  intro post
  induction post with
  | nil => intro pre ρ M e hI; rw [List.map_nil, forLoop]; exact .ok _ _ rfl (q ρ M (by rw [e, List.append_nil]; exact hI))
  | cons y post ih =>
    intro pre ρ M e hI
    obtain ⟨o, N, e1, hq⟩ := (wpForB.s (hf pre y post e ρ M hI)).get
    rw [List.map_cons, forLoop, e1]
    cases o with
    | nx ρ' => exact ih (pre ++ [y]) ρ' N (by rw [e]; simp) hq
    | ct ρ' => exact ih (pre ++ [y]) ρ' N (by rw [e]; simp) hq
    | bk ρ' => exact .ok _ _ rfl hq
    | rt d => exact .ok _ _ rfl hq
    | ex c d => exact .ok _ _ rfl hq
end Mi

set_option Elab.async false
set_option linter.all false
set_option maxRecDepth 100000
set_option maxHeartbeats 1000000
/-! k52: trees of calls and what is asked, plainly. -/
namespace K52
open PySem Mi
/-- a tree that is at most so many calls deep: service, tries, whether any part is enough, parts -/
def Tr : Nat → Type
  | 0 => Empty
  | n + 1 => (Int × Int × Bool) × List (Tr n)
def modeS (b : Bool) : Str := if b then Str.ofString "any" else Str.ofString "all"
def Tr.d : {n : Nat} → Tr n → PyData
  | 0, x => nomatch (show Empty from x)
  | _ + 1, x => .tuple [.int x.1.1, .int x.1.2.1, .str (modeS x.1.2.2), .tuple (x.2.map Tr.d)]
def Tr.Ok : {n : Nat} → Tr n → Prop
  | 0, _ => False
  | _ + 1, x => (0 ≤ x.1.1 ∧ x.1.1 ≤ 3) ∧ (1 ≤ x.1.2.1 ∧ x.1.2.1 ≤ 3) ∧ x.2.length ≤ 3 ∧ ∀ p ∈ x.2, Tr.Ok p
def Tr.cnt : {n : Nat} → Tr n → Int
  | 0, _ => 0
  | _ + 1, x => 1 + (x.2.map Tr.cnt).sum
/-- what has come about: the budget left, those that answered, that were asked, that decided -/
structure Hd where
  left : Option Int
  kept : List Int
  asks : List Int
  decs : List Int
def take (h : Hd) : Bool × Hd := match h.left with
  | none => (true, h)
  | some b => if b = 0 then (false, h) else (true, { h with left := some (b - 1) })
/-- the parts, till one answers as wanted -/
def partsL {α : Type} (f : α → Hd → Bool × Hd) (w : Bool) : List α → Hd → Bool × Hd
  | [], h => (!w, h)
  | p :: ps, h => if (f p h).1 = w then (w, (f p h).2) else partsL f w ps (f p h).2
def lets {α : Type} (f : α → Hd → Bool × Hd) (w : Bool) (ps : List α) (h : Hd) : Bool × Hd := match ps with
  | [] => (true, h)
  | _ => partsL f w ps h
def decide1 (fs : List Int) (s : Int) (h : Hd) : Bool × Hd := (!(fs.contains (h.decs.length : Int)), { h with decs := h.decs ++ [s] })
def att {α : Type} (f : α → Hd → Bool × Hd) (fs : List Int) (s : Int) (w : Bool) (ps : List α) (h : Hd) : Bool × Hd :=
  let r := lets f w ps { h with asks := h.asks ++ [s] }
  if r.1 then decide1 fs s r.2 else (false, r.2)
/-- m tries more, i are behind -/
def triesL (g : Hd → Bool × Hd) (s : Int) : Nat → Nat → Hd → Bool × Hd
  | 0, _, h => (false, h)
  | m + 1, i, h =>
    let r := if 0 < i then take h else (true, h)
    if r.1 then
      let q := g r.2
      if q.1 then (true, { q.2 with kept := q.2.kept ++ [s] }) else triesL g s m (i + 1) q.2
    else (false, r.2)
def callA (kp : Bool) (fs : List Int) : {n : Nat} → Tr n → Hd → Bool × Hd
  | 0, _, h => (false, h)
  | _ + 1, x, h => if kp && h.kept.contains x.1.1 then (true, h) else triesL (att (callA kp fs) fs x.1.1 x.1.2.2 x.2) x.1.1 x.1.2.1.toNat 0 h
/-! ### bounds -/
structure Bd (B : Nat) (h : Hd) : Prop where
  k : h.kept.length ≤ B
  a : h.asks.length ≤ B
  d : h.decs.length ≤ B
  s : ∀ a ∈ h.asks, 0 ≤ a ∧ a ≤ 3
theorem Bd.mono {B C : Nat} {h : Hd} (b : Bd B h) (hc : B ≤ C) : Bd C h := ⟨Nat.le_trans b.k hc, Nat.le_trans b.a hc, Nat.le_trans b.d hc, b.s⟩
theorem take_bd {B : Nat} {h : Hd} (b : Bd B h) : Bd B (take h).2 := by
  unfold take
  split
  · exact b
  · split
    · exact b
    · exact ⟨b.k, b.a, b.d, b.s⟩
def cost : Nat → Nat
  | 0 => 0
  | n + 1 => 3 * (3 + 3 * cost n)
theorem partsL_bd {α : Type} {f : α → Hd → Bool × Hd} {w : Bool} {c : Nat} : ∀ {ps : List α} {B : Nat} {h : Hd}, (∀ p ∈ ps, ∀ B h, Bd B h → Bd (B + c) (f p h).2) → Bd B h → Bd (B + ps.length * c) (partsL f w ps h).2
  | [], B, h, _, b => b.mono (by omega)
  | p :: ps, B, h, hf, b => by
    have b1 := hf p List.mem_cons_self B h b
    unfold partsL
    rw [List.length_cons, Nat.succ_mul]
    split
    · exact b1.mono (by omega)
    · exact (partsL_bd (fun q hq => hf q (List.mem_cons_of_mem _ hq)) b1).mono (by omega)
theorem lets_bd {α : Type} {f : α → Hd → Bool × Hd} {w : Bool} {c : Nat} {ps : List α} {B : Nat} {h : Hd} (hf : ∀ p ∈ ps, ∀ B h, Bd B h → Bd (B + c) (f p h).2) (b : Bd B h) : Bd (B + ps.length * c) (lets f w ps h).2 := by
  unfold lets
  split
  · exact b.mono (by omega)
  · exact partsL_bd hf b
theorem att_bd {α : Type} {f : α → Hd → Bool × Hd} {fs : List Int} {s : Int} {w : Bool} {c : Nat} {ps : List α} {B : Nat} {h : Hd} (hs : 0 ≤ s ∧ s ≤ 3) (hl : ps.length ≤ 3) (hf : ∀ p ∈ ps, ∀ B h, Bd B h → Bd (B + c) (f p h).2) (b : Bd B h) : Bd (B + (2 + 3 * c)) (att f fs s w ps h).2 := by
  have hm : ps.length * c ≤ 3 * c := Nat.mul_le_mul_right c hl
  have b1 : Bd (B + 1) { h with asks := h.asks ++ [s] } := ⟨by have := b.k; show h.kept.length ≤ _; omega, by have := b.a; simp; omega, by have := b.d; show h.decs.length ≤ _; omega, fun a ha => by
    rcases List.mem_append.1 ha with h1 | h1
    · exact b.s a h1
    · rw [List.mem_singleton.1 h1]; exact hs⟩
  have b2 := lets_bd (w := w) hf b1
  unfold att
  try dsimp only
  split
  · have h1 := b2.k
    have h2 := b2.a
    have h3 := b2.d
    refine ⟨?_, ?_, ?_, b2.s⟩
    · simp only [decide1]; omega
    · simp only [decide1]; omega
    · simp only [decide1, List.length_append, List.length_singleton]; omega
  · exact b2.mono (by omega)
theorem triesL_bd {g : Hd → Bool × Hd} {s : Int} {c : Nat} (hg : ∀ B h, Bd B h → Bd (B + (2 + 3 * c)) (g h).2) : ∀ (m i B : Nat) (h : Hd), Bd B h → Bd (B + m * (3 + 3 * c)) (triesL g s m i h).2
  | 0, i, B, h, b => b.mono (by omega)
  | m + 1, i, B, h, b => by
    have b1 : Bd B (if 0 < i then take h else (true, h)).2 := by
      split
      · exact take_bd b
      · exact b
    unfold triesL
    try dsimp only
    rw [Nat.succ_mul]
    generalize (if 0 < i then take h else (true, h)) = r at b1 ⊢
    split
    · have b2 := hg B _ b1
      split
      · have h1 := b2.k
        have h2 := b2.a
        have h3 := b2.d
        refine ⟨?_, ?_, ?_, b2.s⟩
        · show (_ ++ [s]).length ≤ _
          rw [List.length_append, List.length_singleton]; omega
        · exact Nat.le_trans h2 (by omega)
        · exact Nat.le_trans h3 (by omega)
      · exact (triesL_bd hg m (i + 1) _ _ b2).mono (by omega)
    · exact b1.mono (by omega)
theorem callA_bd {kp : Bool} {fs : List Int} : ∀ {n : Nat} {x : Tr n}, x.Ok → ∀ B h, Bd B h → Bd (B + cost n) (callA kp fs x h).2
  | 0, x, hx, B, h, b => nomatch (show Empty from x)
  | n + 1, x, hx, B, h, b => by
    unfold callA
    split
    · exact b.mono (by omega)
    · have h1 := triesL_bd (s := x.1.1) (fun B h b => att_bd (fs := fs) (s := x.1.1) (w := x.1.2.2) hx.1 hx.2.2.1 (fun p hp B h b => callA_bd (kp := kp) (fs := fs) (hx.2.2.2 p hp) B h b) b) x.1.2.1.toNat 0 B h b
      refine h1.mono ?_
      have : x.1.2.1.toNat ≤ 3 := by have := hx.2.1; omega
      have := Nat.mul_le_mul_right (3 + 3 * cost n) this
      simp only [cost]
      omega
/-! ### services that answered, each once -/
def uni (l : List Int) : List Int := l.foldl (fun u s => if u.contains s then u else u ++ [s]) []
theorem uni_app (l : List Int) (s : Int) : uni (l ++ [s]) = if (uni l).contains s then uni l else uni l ++ [s] := by
  unfold uni
  rw [List.foldl_append]
  rfl
theorem uni_mem (l : List Int) : (∀ s, s ∈ uni l ↔ s ∈ l) ∧ (uni l).length ≤ l.length := by
  suffices h : ∀ (r : List Int), (∀ s, s ∈ uni r.reverse ↔ s ∈ r.reverse) ∧ (uni r.reverse).length ≤ r.reverse.length by
    have := h l.reverse
    rwa [List.reverse_reverse] at this
  intro r
  induction r with
  | nil => exact ⟨fun s => Iff.rfl, Nat.le_refl _⟩
  | cons a r ih =>
    obtain ⟨h1, h2⟩ := ih
    rw [List.reverse_cons, uni_app]
    split
    · rename_i hc
      have hc := List.contains_iff_mem.1 hc
      refine ⟨fun s => ?_, by rw [List.length_append]; omega⟩
      rw [List.mem_append, h1]
      constructor
      · exact .inl
      · rintro (h | h)
        · exact h
        · rw [List.mem_singleton.1 h]; exact (h1 a).1 hc
    · refine ⟨fun s => ?_, by rw [List.length_append, List.length_append]; omega⟩
      rw [List.mem_append, List.mem_append, h1]
theorem uni_has (l : List Int) (s : Int) : (uni l).contains s = l.contains s := by
  rw [Bool.eq_iff_iff, List.contains_iff_mem, List.contains_iff_mem]
  exact (uni_mem l).1 s
theorem dHas_map (l : List Int) (s : Int) : dHas (l.map fun i => (.int i, .bool true)) s = l.contains s := by
  induction l with
  | nil => rfl
  | cons a l ih =>
    simp only [dHas, List.map_cons, List.any_cons, isK] at ih ⊢
    rw [ih, List.contains_cons]
    congr 1
    by_cases e : a = s
    · simp [e]
    · simp [e, Ne.symm e]
theorem dPut_map (l : List Int) (s : Int) : dPut (l.map fun i => (.int i, .bool true)) s (.bool true) = (if l.contains s then l else l ++ [s]).map fun i => (.int i, .bool true) := by
  unfold dPut
  rw [dHas_map]
  split
  · rw [List.map_map]
    refine List.map_congr_left fun i _ => ?_
    simp only [Function.comp, ite_self]
  · rw [List.map_append]; rfl
def optD : Option Int → PyData
  | none => .none
  | some i => .int i
def kvT (l : List Int) : List (PyData × PyData) := l.map fun i => (.int i, .bool true)
/-- the law's own hand; the program's own run -/
def handM (h : Hd) : Mem := [.lst (h.kept.map .int), .lst (h.asks.map .int), .lst (h.decs.map .int), .hdr 0 [(("" : String), .d (optD h.left)), (("" : String), .s 2), (("" : String), .s 1), (("" : String), .s 0)]]
def runM (kp : Bool) (fs : List Int) (h : Hd) : Mem := [.dct (kvT fs), .dct (kvT (uni h.kept)), .lst (h.asks.map .int), .lst (h.decs.map .int),
  .hdr 1 [(("left" : String), .d (optD h.left)), (("keeps" : String), .d (.bool kp)), (("fails" : String), .s 3), (("kept" : String), .s 2), (("asks" : String), .s 1), (("deciders" : String), .s 0)]]
end K52

set_option Elab.async false
set_option linter.all false
/-! Mi: what a run ends with, by a wish about its end. -/
namespace Mi
open PySem

inductive Ok {α : Type} (r : Res α) (Q : α → Mem → Prop) : Prop where
  | intro (a : α) (M : Mem) (h : r = .ok a M) (q : Q a M) : Ok r Q
theorem Ok_ok {α : Type} (a : α) (M : Mem) (Q : α → Mem → Prop) : Ok (.ok a M) Q = Q a M := by
  apply propext
  constructor
  · rintro ⟨_, _, h, q⟩; cases h; exact q
  · intro q; exact ⟨_, _, rfl, q⟩
theorem Ok_bind {α β : Type} (r : Res α) (f : α → Mem → Res β) (Q : β → Mem → Prop) : Ok (r.bind f) Q = Ok r (fun a M => Ok (f a M) Q) := by
  apply propext
  constructor
  · rintro ⟨b, N, h, q⟩
    cases r with
    | ok a M => exact ⟨a, M, rfl, b, N, h, q⟩
    | exc c M => exact absurd h (by simp [Res.bind])
    | bad => exact absurd h (by simp [Res.bind])
  · rintro ⟨a, M, h, b, N, k, q⟩; subst h; exact ⟨b, N, k, q⟩
theorem Ok.mono {α : Type} {r : Res α} {P Q : α → Mem → Prop} (h : Ok r P) (k : ∀ a M, P a M → Q a M) : Ok r Q := by
  obtain ⟨a, M, e, p⟩ := h
  exact ⟨a, M, e, k a M p⟩
/-! ### statements: what holds when a row of them has gone on, or given back -/
theorem Ok_ss {fn : Fn} {fuel : Nat} {s : CS} {ss : CSs} {ρ : Env} {M : Mem} {Q : Fl → Mem → Prop}
    (h : Ok (evS fn fuel s ρ M) (fun f N => match f with
      | .nx ρ' => Ok (evSs fn fuel ss ρ' N) Q
      | f => Q f N)) : Ok (evSs fn fuel (.cons s ss) ρ M) Q := by
  obtain ⟨f, N, e, q⟩ := h
  cases f with
  | nx ρ' =>
    obtain ⟨g, K, e', q'⟩ := q
    exact ⟨g, K, by rw [evSs, e]; exact e', q'⟩
  | rt d => exact ⟨_, _, by rw [evSs, e], q⟩
  | bk ρ' => exact ⟨_, _, by rw [evSs, e], q⟩
  | ct ρ' => exact ⟨_, _, by rw [evSs, e], q⟩
  | ex c ρ' => exact ⟨_, _, by rw [evSs, e], q⟩
def Go (k : Env → Mem → Prop) (Q : Fl → Mem → Prop) (f : Fl) (N : Mem) : Prop := match f with
  | .nx ρ' => k ρ' N
  | f => Q f N
theorem Ok_cons {fn : Fn} {fuel : Nat} {s : CS} {ss : CSs} {ρ : Env} {M : Mem} {Q : Fl → Mem → Prop}
    (h : Ok (evS fn fuel s ρ M) (Go (fun ρ' N => Ok (evSs fn fuel ss ρ' N) Q) Q)) : Ok (evSs fn fuel (.cons s ss) ρ M) Q := by
  refine Ok_ss (h.mono ?_)
  intro f N h
  cases f <;> exact h
theorem Ok_nil {fn : Fn} {fuel : Nat} {ρ : Env} {M : Mem} {Q : Fl → Mem → Prop} (h : Q (.nx ρ) M) : Ok (evSs fn fuel .nil ρ M) Q := ⟨_, _, by rw [evSs], h⟩
theorem Ok_asg {fn : Fn} {fuel : Nat} {i : Nat} {e : CE} {ρ : Env} {M : Mem} {Q : Fl → Mem → Prop}
    (h : Ok (evE fn e ρ M) (fun d N => Q (.nx (ρ.set i (some d))) N)) : Ok (evS fn fuel (.asg (.nm i) e) ρ M) Q := by
  obtain ⟨d, N, e, q⟩ := h
  exact ⟨_, N, by rw [evS, e]; rfl, q⟩
theorem Ok_expr {fn : Fn} {fuel : Nat} {e : CE} {ρ : Env} {M : Mem} {Q : Fl → Mem → Prop}
    (h : Ok (evE fn e ρ M) (fun _ N => Q (.nx ρ) N)) : Ok (evS fn fuel (.expr e) ρ M) Q := by
  obtain ⟨d, N, e, q⟩ := h
  exact ⟨_, N, by rw [evS, e]; rfl, q⟩
theorem Ok_ret {fn : Fn} {fuel : Nat} {e : CE} {ρ : Env} {M : Mem} {Q : Fl → Mem → Prop}
    (h : Ok (evE fn e ρ M) (fun d N => Q (.rt d) N)) : Ok (evS fn fuel (.ret e) ρ M) Q := by
  obtain ⟨d, N, e, q⟩ := h
  exact ⟨_, N, by rw [evS, e]; rfl, q⟩
theorem Ok_sub {fn : Fn} {fuel : Nat} {o i v : CE} {ρ : Env} {M : Mem} {Q : Fl → Mem → Prop}
    (h : Ok (evE fn v ρ M) (fun v M => Ok (evE fn o ρ M) fun o M => Ok (evE fn i ρ M) fun i M => Ok (subop o i v M) fun _ N => Q (.nx ρ) N)) : Ok (evS fn fuel (.sub o i v) ρ M) Q := by
  obtain ⟨v, M1, e1, o, M2, e2, i, M3, e3, u, M4, e4, q⟩ := h
  exact ⟨_, M4, by rw [evS, e1]; simp only [Res.onto, e2, e3, e4], q⟩
theorem Ok_ife {fn : Fn} {fuel : Nat} {c : CE} {a b : CSs} {ρ : Env} {M : Mem} {Q : Fl → Mem → Prop}
    (h : Ok (evE fn c ρ M) (fun d N => Ok (toB N d) (fun k N => Ok (if k then evSs fn fuel a ρ N else evSs fn fuel b ρ N) Q))) : Ok (evS fn fuel (.ife c a b) ρ M) Q := by
  obtain ⟨d, N, e, k, N', e', f, K, e'', q⟩ := h
  exact ⟨f, K, by rw [evS, e]; simp only [Res.onto, e']; exact e'', q⟩

theorem Ok_comp {fn : Fn} {mt : Bool} {ws : List Nat} {t : Tg} {it : CI} {c : CEo} {e : CE} {ρ : Env} {M : Mem} {Q : D → Mem → Prop}
    (h : Ok (evI fn it ρ M) (fun J N => ∃ xs, J = .items xs ∧ Ok (compLoop (cmpBody fn ws t c e ρ) xs [] N) (fun ys N => Ok (alloc mt ys N) Q))) : Ok (evE fn (.comp mt ws t it c e) ρ M) Q := by
  obtain ⟨J, N, e, xs, rfl, ⟨ys, K, e', ⟨d, L, e'', q⟩⟩⟩ := h
  exact ⟨d, L, by rw [evE, e]; exact (congrArg (fun r => Res.bind r fun ys M => alloc mt ys M) e').trans e'', q⟩
theorem Ok.out {α : Type} {r : Res α} {a : α} {M : Mem} (h : Ok r (fun b N => b = a ∧ N = M)) : r = .ok a M := by
  obtain ⟨_, _, e, rfl, rfl⟩ := h
  exact e

/-- what a function's end asks of what is given back -/
inductive EndQ (frz : Bool) (n : Nat) (d : D) (N : Mem) (Q : D → Mem → Prop) : Prop where
  | intro (h : Ok (fin frz n d N) Q) : EndQ frz n d N Q
/-- a call: from the body's end -/
theorem Ok_call {T : Nat → Option FD} {fuel k f : Nat} {fd : FD} {ds : List D} {M : Mem} {Q : D → Mem → Prop} (hT : T f = some fd) (hn : ds.length = fd.n)
    (h : Ok (evSs (run T fuel k) fuel fd.body (enter fd ds) M) (fun o N => ∃ d, o = .rt d ∧ EndQ fd.frz M.length d N Q)) : Ok (run T fuel (k + 1) f ds M) Q := by
  obtain ⟨o, N, e, d, rfl, ⟨d', K, e', q⟩⟩ := h
  exact ⟨d', K, by rw [run, hT]; simp only [callF]; rw [if_pos hn, e]; exact e', q⟩

theorem Go_nx {k : Env → Mem → Prop} {Q : Fl → Mem → Prop} {ρ : Env} {N : Mem} (h : k ρ N) : Go k Q (.nx ρ) N := h
theorem Go_rt {k : Env → Mem → Prop} {Q : Fl → Mem → Prop} {d : D} {N : Mem} (h : Q (.rt d) N) : Go k Q (.rt d) N := h
theorem Ok_if {α : Type} {c : Bool} {a b : Res α} {Q : α → Mem → Prop} (h : c = true → Ok a Q) (h' : c = false → Ok b Q) : Ok (if c = true then a else b) Q := by
  cases c
  · exact h' rfl
  · exact h rfl
theorem Ok_ift {α : Type} {c : Bool} {a b : Res α} {Q : α → Mem → Prop} (h : c = true) (q : Ok a Q) : Ok (if c = true then a else b) Q := by subst h; exact q
theorem Ok_iff {α : Type} {c : Bool} {a b : Res α} {Q : α → Mem → Prop} (h : c = false) (q : Ok b Q) : Ok (if c = true then a else b) Q := by subst h; exact q
section
variable {fn : Fn} {ρ : Env} {M : Mem} {Q : D → Mem → Prop}
theorem Ok_var {i : Nat} {d : D} (h : ρ[i]? = some (some d)) (q : Q d M) : Ok (evE fn (.var i) ρ M) Q := ⟨d, M, by rw [evE, h], q⟩
theorem Ok_cst {x : PyData} (q : Q (.p x) M) : Ok (evE fn (.cst x) ρ M) Q := ⟨_, M, by rw [evE], q⟩
theorem Ok_bin {op : BOp} {mt : Bool} {a b : CE} (h : Ok (evE fn a ρ M) fun x M => Ok (evE fn b ρ M) fun y M => Ok (binop op mt x y M) Q) : Ok (evE fn (.bin op mt a b) ρ M) Q := by
  rw [evE]; simp only [Ok_bind]; exact h
theorem Ok_neg {a : CE} (h : Ok (evE fn a ρ M) fun x M => ∃ i, x = .p (.int i) ∧ Q (.p (.int (-i))) M) : Ok (evE fn (.neg a) ρ M) Q := by
  rw [evE]; simp only [Ok_bind]
  refine h.mono ?_
  rintro x M ⟨i, rfl, q⟩
  exact ⟨_, _, rfl, q⟩
theorem Ok_not {a : CE} (h : Ok (evE fn a ρ M) fun x M => Ok (toB M x) fun b M => Q (.p (.bool (!b))) M) : Ok (evE fn (.not a) ρ M) Q := by
  rw [evE]; simp only [Ok_bind, Ok_ok]; exact h
theorem Ok_cmp {op : COp} {a b : CE} (h : Ok (evE fn a ρ M) fun x M => Ok (evE fn b ρ M) fun y M => Ok (cmpop op x y M) Q) : Ok (evE fn (.cmp op a b) ρ M) Q := by
  rw [evE]; simp only [Ok_bind]; exact h
theorem Ok_chn {op op' : COp} {a b c : CE} (h : Ok (evE fn a ρ M) fun x M => Ok (evE fn b ρ M) fun y M => Ok (cmpop op x y M) fun k M => Ok (isB M k) fun k M => Ok (if k = true then (evE fn c ρ M).bind fun z M => cmpop op' y z M else .ok (.p (.bool false)) M) Q) : Ok (evE fn (.chn op op' a b c) ρ M) Q := by
  rw [evE]; simp only [Ok_bind]; exact h
theorem Ok_and {a b : CE} (h : Ok (evE fn a ρ M) fun x M => Ok (isB M x) fun k M => Ok (if k = true then evE fn b ρ M else .ok (.p (.bool false)) M) Q) : Ok (evE fn (.and a b) ρ M) Q := by
  rw [evE]; simp only [Ok_bind]; exact h
theorem Ok_or {a b : CE} (h : Ok (evE fn a ρ M) fun x M => Ok (isB M x) fun k M => Ok (if k = true then .ok (.p (.bool true)) M else evE fn b ρ M) Q) : Ok (evE fn (.or a b) ρ M) Q := by
  rw [evE]; simp only [Ok_bind]; exact h
theorem Ok_ifx {c a b : CE} (h : Ok (evE fn c ρ M) fun x M => Ok (toB M x) fun k M => Ok (if k = true then evE fn a ρ M else evE fn b ρ M) Q) : Ok (evE fn (.ife c a b) ρ M) Q := by
  rw [evE]; simp only [Ok_bind]; exact h
theorem Ok_tup {es : CEs} (h : Ok (evEs fn es ρ M) fun ds M => ∃ xs N, frzPs ds M = some (xs, N) ∧ xs.length ≤ 16777216 ∧ Q (.p (.tuple xs)) N) : Ok (evE fn (.tup es) ρ M) Q := by
  rw [evE]; simp only [Ok_bind]
  refine h.mono ?_
  rintro ds M ⟨xs, N, e, l, q⟩
  refine ⟨_, N, by rw [e]; simp only; rw [if_pos l], q⟩
theorem Ok_lst {mt : Bool} {es : CEs} (h : Ok (evEs fn es ρ M) fun ds M => ∃ xs N, frzPs ds M = some (xs, N) ∧ xs.length ≤ 16777216 ∧ Ok (alloc mt xs N) Q) : Ok (evE fn (.lst mt es) ρ M) Q := by
  rw [evE]; simp only [Ok_bind]
  refine h.mono ?_
  rintro ds M ⟨xs, N, e, l, q⟩
  rw [e]; simp only; rw [if_pos l]; exact q
theorem Ok_dct {ks vs : CEs} (h : Ok (evEs fn ks ρ M) fun ks M => Ok (evEs fn vs ρ M) fun vs M => Ok (dctop ks vs M) Q) : Ok (evE fn (.dct ks vs) ρ M) Q := by
  rw [evE]; simp only [Ok_bind]; exact h
theorem Ok_idx {a i : CE} (h : Ok (evE fn a ρ M) fun x M => Ok (evE fn i ρ M) fun y M => Ok (idxop x y M) Q) : Ok (evE fn (.idx a i) ρ M) Q := by
  rw [evE]; simp only [Ok_bind]; exact h
theorem Ok_slc {mt : Bool} {a : CE} {lo hi : CEo} (h : Ok (evE fn a ρ M) fun x M => Ok (evO fn lo ρ M) fun l M => Ok (evO fn hi ρ M) fun h M => Ok (slcop mt x l h M) Q) : Ok (evE fn (.slc mt a lo hi) ρ M) Q := by
  rw [evE]; simp only [Ok_bind]; exact h
theorem Ok_callE {f : Nat} {es : CEs} (h : Ok (evEs fn es ρ M) fun ds M => Ok (fn f ds M) Q) : Ok (evE fn (.call f es) ρ M) Q := by
  rw [evE]; simp only [Ok_bind]; exact h
theorem Ok_blt {b : BF} {es : CEs} (h : Ok (evEs fn es ρ M) fun ds M => Ok (bltop b ds M) Q) : Ok (evE fn (.blt b es) ρ M) Q := by
  rw [evE]; simp only [Ok_bind]; exact h
theorem Ok_esn {Q : List D → Mem → Prop} (q : Q [] M) : Ok (evEs fn .nil ρ M) Q := ⟨_, M, by rw [evEs], q⟩
theorem Ok_esc {e : CE} {es : CEs} {Q : List D → Mem → Prop} (h : Ok (evE fn e ρ M) fun d M => Ok (evEs fn es ρ M) fun ds M => Q (d :: ds) M) : Ok (evEs fn (.cons e es) ρ M) Q := by
  rw [evEs]; simp only [Ok_bind, Ok_ok]; exact h
theorem Ok_ono {Q : Option Int → Mem → Prop} (q : Q none M) : Ok (evO fn .no ρ M) Q := ⟨_, M, by rw [evO], q⟩
theorem Ok_oye {e : CE} {Q : Option Int → Mem → Prop} (h : Ok (evE fn e ρ M) fun d M => ∃ i, d = .p (.int i) ∧ Q (some i) M) : Ok (evO fn (.yes e) ρ M) Q := by
  rw [evO]; simp only [Ok_bind]
  refine h.mono ?_
  rintro d M ⟨i, rfl, q⟩
  exact ⟨_, _, rfl, q⟩
theorem Ok_cno {Q : Bool → Mem → Prop} (q : Q true M) : Ok (evC fn .no ρ M) Q := ⟨_, M, by rw [evC], q⟩
theorem Ok_cye {e : CE} {Q : Bool → Mem → Prop} (h : Ok (evE fn e ρ M) fun d M => Ok (toB M d) Q) : Ok (evC fn (.yes e) ρ M) Q := by
  rw [evC]; simp only [Ok_bind]; exact h
theorem Ok_seq {e : CE} {Q : It → Mem → Prop} (h : Ok (evE fn e ρ M) fun d M => ∃ J, seqOf d M = some J ∧ Q J M) : Ok (evI fn (.seq e) ρ M) Q := by
  rw [evI]; simp only [Ok_bind]
  refine h.mono ?_
  rintro d M ⟨J, e, q⟩
  exact ⟨J, M, by rw [e], q⟩
theorem Ok_toB {b : Bool} {Q : Bool → Mem → Prop} (q : Q b M) : Ok (toB M (.p (.bool b))) Q := ⟨_, M, rfl, q⟩
theorem Ok_isB {b : Bool} {Q : Bool → Mem → Prop} (q : Q b M) : Ok (isB M (.p (.bool b))) Q := ⟨_, M, rfl, q⟩
theorem Ok_lt {i j : Int} (q : Q (.p (.bool (decide (i < j)))) M) : Ok (cmpop .lt (.p (.int i)) (.p (.int j)) M) Q := ⟨_, M, rfl, q⟩
theorem Ok_le {i j : Int} (q : Q (.p (.bool (decide (i ≤ j)))) M) : Ok (cmpop .le (.p (.int i)) (.p (.int j)) M) Q := ⟨_, M, rfl, q⟩
theorem Ok_gt {i j : Int} (q : Q (.p (.bool (decide (j < i)))) M) : Ok (cmpop .gt (.p (.int i)) (.p (.int j)) M) Q := ⟨_, M, rfl, q⟩
theorem Ok_ge {i j : Int} (q : Q (.p (.bool (decide (j ≤ i)))) M) : Ok (cmpop .ge (.p (.int i)) (.p (.int j)) M) Q := ⟨_, M, rfl, q⟩
theorem Ok_eqP {x y : PyData} (hx : x.plain = true) (hy : y.plain = true) (hd : x.depth ≤ 60) (q : Q (.p (.bool (PyData.eqv x y))) M) : Ok (cmpop .eq (.p x) (.p y) M) Q :=
  ⟨_, M, by simp only [cmpop, dat, cmpB, hx, hy, hd, decide_true, Bool.and_self, if_true], q⟩
theorem Ok_add {mt : Bool} {i j : Int} (q : Q (.p (.int (i + j))) M) : Ok (binop .add mt (.p (.int i)) (.p (.int j)) M) Q := ⟨_, M, rfl, q⟩
theorem Ok_sb {mt : Bool} {i j : Int} (q : Q (.p (.int (i - j))) M) : Ok (binop .sub mt (.p (.int i)) (.p (.int j)) M) Q := ⟨_, M, rfl, q⟩
theorem Ok_mul {mt : Bool} {i j : Int} (h : (-(2 ^ 64) < i ∧ i < 2 ^ 64) ∨ (-(2 ^ 64) < j ∧ j < 2 ^ 64)) (q : Q (.p (.int (i * j))) M) : Ok (binop .mul mt (.p (.int i)) (.p (.int j)) M) Q := ⟨_, M, by simp only [binop, dat]; rw [if_pos h], q⟩
theorem Ok_fdv {mt : Bool} {i j : Int} (h : 0 < j ∧ j < 1073741824) (q : Q (.p (.int (i / j))) M) : Ok (binop .fdiv mt (.p (.int i)) (.p (.int j)) M) Q := ⟨_, M, by simp only [binop, dat]; rw [if_pos h], q⟩
theorem Ok_mod {mt : Bool} {i j : Int} (h : 0 < j) (q : Q (.p (.int (i % j))) M) : Ok (binop .mod mt (.p (.int i)) (.p (.int j)) M) Q := ⟨_, M, by simp only [binop, dat]; rw [if_pos h], q⟩
theorem Ok_pow {mt : Bool} {i j : Int} (h : 0 ≤ j ∧ j ≤ 1000000 ∧ i.natAbs < 2 ^ 64) (q : Q (.p (.int (i ^ j.toNat))) M) : Ok (binop .pow mt (.p (.int i)) (.p (.int j)) M) Q := ⟨_, M, by simp only [binop, dat]; rw [if_pos h], q⟩
theorem Ok_ixR {j : Nat} {k : Int} {xs : List PyData} {x : PyData} (h : M[j]? = some (.lst xs)) (e : L2.atI xs k = some x) (q : Q (.p x) M) : Ok (idxop (.ref j) (.p (.int k)) M) Q := ⟨_, M, by simp only [idxop, dat, h, e], q⟩
theorem Ok_ixL {k : Int} {xs : List PyData} {x : PyData} (e : L2.atI xs k = some x) (q : Q (.p x) M) : Ok (idxop (.p (.list xs)) (.p (.int k)) M) Q := ⟨_, M, by simp only [idxop, dat, e], q⟩
theorem Ok_ixS {k : Int} {xs : List Int} {x : Int} (e : L2.atI xs k = some x) (q : Q (.p (.int x)) M) : Ok (idxop (.scr xs) (.p (.int k)) M) Q := ⟨_, M, by simp only [idxop, e], q⟩
theorem Ok_subR {j : Nat} {k : Int} {xs : List PyData} {n : Nat} {x : PyData} {Q : Unit → Mem → Prop} (h : M[j]? = some (.lst xs)) (e : L2.ixN xs.length k = some n) (q : Q () (M.set j (.lst (xs.set n x)))) : Ok (subop (.ref j) (.p (.int k)) (.p x) M) Q := ⟨_, _, by simp only [subop, frzP, h, e], q⟩
theorem Ok_allF {xs : List PyData} (q : Q (.p (.list xs)) M) : Ok (alloc false xs M) Q := ⟨_, M, rfl, q⟩
theorem Ok_allT {xs : List PyData} (q : Q (.ref M.length) (M ++ [.lst xs])) : Ok (alloc true xs M) Q := ⟨_, _, rfl, q⟩
theorem Ok_slT {mt : Bool} {xs : List PyData} {lo hi : Option Int} (q : Q (.p (.tuple (cut xs lo hi))) M) : Ok (slcop mt (.p (.tuple xs)) lo hi M) Q := ⟨_, M, rfl, q⟩
theorem Ok_lenS {ns : List Int} (q : Q (.p (.int ns.length)) M) : Ok (bltop .len [.scr ns] M) Q := ⟨_, M, rfl, q⟩
theorem Ok_lenT {xs : List PyData} (q : Q (.p (.int xs.length)) M) : Ok (bltop .len [.p (.tuple xs)] M) Q := ⟨_, M, rfl, q⟩
theorem Ok_lenL {xs : List PyData} (q : Q (.p (.int xs.length)) M) : Ok (bltop .len [.p (.list xs)] M) Q := ⟨_, M, rfl, q⟩
theorem Ok_min {i j : Int} (q : Q (.p (.int (if j < i then j else i))) M) : Ok (bltop .min [.p (.int i), .p (.int j)] M) Q := ⟨_, M, rfl, q⟩
theorem Ok_max {i j : Int} (q : Q (.p (.int (if j > i then j else i))) M) : Ok (bltop .max [.p (.int i), .p (.int j)] M) Q := ⟨_, M, rfl, q⟩
theorem Ok_tuL {xs : List PyData} (q : Q (.p (.tuple xs)) M) : Ok (bltop .tuple [.p (.list xs)] M) Q := ⟨_, M, rfl, q⟩
theorem Ok_liT {xs : List PyData} (q : Q (.p (.list xs)) M) : Ok (bltop (.list false) [.p (.tuple xs)] M) Q := ⟨_, M, rfl, q⟩
theorem Ok_isi {t : Ty} {x : PyData} (q : Q (.p (.bool (isTy t x))) M) : Ok (bltop (.isi t) [.p x] M) Q := ⟨_, M, rfl, q⟩
theorem Ok_rev {mt : Bool} {a : CE} (h : Ok (evE fn a ρ M) fun x M => Ok (revop mt x M) Q) : Ok (evE fn (.rev mt a) ρ M) Q := by
  rw [evE]; simp only [Ok_bind]; exact h
theorem Ok_rvT {mt : Bool} {xs : List PyData} (q : Q (.p (.tuple xs.reverse)) M) : Ok (revop mt (.p (.tuple xs)) M) Q := ⟨_, M, rfl, q⟩
theorem Ok_rvL {xs : List PyData} (q : Q (.p (.list xs.reverse)) M) : Ok (revop false (.p (.list xs)) M) Q := ⟨_, M, rfl, q⟩
theorem Ok_isN {x : PyData} (q : Q (.p (.bool (isNone x))) M) : Ok (cmpop .is (.p x) (.p .none) M) Q := ⟨_, M, by cases x <;> rfl, q⟩
theorem Ok_isNN {x : PyData} (q : Q (.p (.bool (!isNone x))) M) : Ok (cmpop .isnot (.p x) (.p .none) M) Q := ⟨_, M, by cases x <;> rfl, q⟩
theorem Ok_eqI {i j : Int} (q : Q (.p (.bool (i == j))) M) : Ok (cmpop .eq (.p (.int i)) (.p (.int j)) M) Q := ⟨_, M, by simp only [cmpop, dat, cmpB, PyData.plain, PyData.depth, PyData.eqv]; rfl, q⟩
theorem Ok_neI {i j : Int} (q : Q (.p (.bool (!(i == j)))) M) : Ok (cmpop .ne (.p (.int i)) (.p (.int j)) M) Q := ⟨_, M, by simp only [cmpop, dat, cmpB, PyData.plain, PyData.depth, PyData.eqv]; rfl, q⟩
theorem Ok_par {fuel : Nat} {is : List Nat} {es : CEs} {Q : Fl → Mem → Prop} (h : Ok (evEs fn es ρ M) fun ds N => ∃ ρ', setDs is ds ρ = some ρ' ∧ Q (.nx ρ') N) : Ok (evS fn fuel (.par is es) ρ M) Q := by
  obtain ⟨ds, N, e, ρ', e', q⟩ := h
  exact ⟨_, N, by rw [evS, e]; simp only [Res.onto, e'], q⟩
def seqD : D → Option (List PyData)
  | .p (.tuple xs) => some xs
  | .p (.list xs) => some xs
  | _ => none
theorem Ok_asgT {fuel : Nat} {is : List Nat} {e : CE} {Q : Fl → Mem → Prop} (h : Ok (evE fn e ρ M) fun d N => ∃ xs, seqD d = some xs ∧ ∃ ρ', setAll is xs ρ = some ρ' ∧ Q (.nx ρ') N) : Ok (evS fn fuel (.asg (.tp is) e) ρ M) Q := by
  obtain ⟨d, N, e, xs, hd, ρ', e', q⟩ := h
  refine ⟨_, N, ?_, q⟩
  rw [evS, e]
  unfold seqD at hd
  split at hd
  · cases hd; simp only [Res.onto, asgT, e']
  · cases hd; simp only [Res.onto, asgT, e']
  · cases hd
theorem Ok_okI {α : Type} {a : α} {Q : α → Mem → Prop} (q : Q a M) : Ok (.ok a M) Q := ⟨_, M, rfl, q⟩
theorem Ok_bnd {α β : Type} {r : Res α} {f : α → Mem → Res β} {Q : β → Mem → Prop} (h : Ok r fun a M => Ok (f a M) Q) : Ok (r.bind f) Q := by rw [Ok_bind]; exact h
end
end Mi

set_option Elab.async false
set_option linter.all false
set_option maxRecDepth 100000
/-! Mi: the pen, and what is drawn with it. -/
namespace Mi
open PySem
def bCell : CSs :=
  (.cons (.ife (.cmp .lt (.var 1) (.blt .len (.cons (.var 0) .nil))) (.cons (.ret (.idx (.var 0) (.var 1))) .nil) .nil) (.cons (.ret (.cst (.int 0))) .nil))
def bPen : CSs :=
  (.cons (.ret (.lst true (.cons (.blt .max (.cons (.cst (.int 0)) (.cons (.bin .sub false (.var 0) (.bin .pow false (.cst (.int 10)) (.cst (.int 18)))) .nil))) (.cons (.bin .mod false (.var 0) (.cst (.int 1000000007))) (.cons (.cst (.int 0)) .nil))))) .nil)
def bDraw : CSs :=
  (.cons (.ife (.cmp .gt (.idx (.var 0) (.cst (.int 0))) (.cst (.int 0))) (.cons (.asg (.nm 2) (.bin .mod false (.idx (.var 0) (.cst (.int 0))) (.var 1))) (.cons (.sub (.var 0) (.cst (.int 0)) (.bin .fdiv false (.idx (.var 0) (.cst (.int 0))) (.var 1))) (.cons (.ret (.var 2)) .nil))) .nil) (.cons (.sub (.var 0) (.cst (.int 2)) (.bin .add false (.idx (.var 0) (.cst (.int 2))) (.cst (.int 1)))) (.cons (.asg (.nm 3) (.bin .mod false (.bin .mul false (.bin .add false (.idx (.var 0) (.cst (.int 1))) (.bin .mul false (.cst (.int 17)) (.idx (.var 0) (.cst (.int 2))))) (.bin .add false (.cst (.int 69621)) (.bin .mul false (.cst (.int 2)) (.idx (.var 0) (.cst (.int 2)))))) (.cst (.int 2147483647)))) (.cons (.asg (.nm 3) (.bin .mod false (.bin .add false (.bin .add false (.bin .mul false (.var 3) (.var 3)) (.bin .mul false (.cst (.int 40503)) (.idx (.var 0) (.cst (.int 2))))) (.cst (.int 5))) (.cst (.int 2147483629)))) (.cons (.ret (.bin .mod false (.bin .fdiv false (.bin .mod false (.bin .mul false (.var 3) (.cst (.int 48271))) (.cst (.int 2147483647))) (.cst (.int 32))) (.var 1))) .nil)))))
def bPick : CSs :=
  (.cons (.ret (.idx (.var 1) (.call 5 (.cons (.var 0) (.cons (.blt .len (.cons (.var 1) .nil)) .nil))))) .nil)
def bSame : CSs :=
  (.cons (.ret (.cmp .eq (.blt .repr (.cons (.var 0) .nil)) (.blt .repr (.cons (.var 1) .nil)))) .nil)
def bWhole : CSs :=
  (.cons (.ret (.and (.blt (.isi .int) (.cons (.var 0) .nil)) (.and (.not (.blt (.isi .bool) (.cons (.var 0) .nil))) (.chn .le .le (.var 1) (.var 0) (.var 2))))) .nil)
def penO (a b c : Int) : MO := .lst [.int a, .int b, .int c]
/-- the memory is `M0`, but that the pen at `i` has been used at most `t` times -/
def PenS (M0 : Mem) (i t : Nat) (M : Mem) : Prop := i < M0.length ∧ ∃ a b c : Int, M = M0.set i (penO a b c) ∧ 0 ≤ c ∧ c ≤ t
theorem PenS.len {M0 M : Mem} {i t : Nat} (h : PenS M0 i t M) : M.length = M0.length := by
  obtain ⟨_, a, b, c, rfl, _, _⟩ := h
  exact List.length_set
theorem PenS.at {M0 M : Mem} {i t : Nat} (h : PenS M0 i t M) : ∃ a b c : Int, M[i]? = some (penO a b c) ∧ 0 ≤ c ∧ c ≤ t := by
  obtain ⟨hi, a, b, c, rfl, h1, h2⟩ := h
  exact ⟨a, b, c, by rw [List.getElem?_set_self (by simpa using hi)], h1, h2⟩
theorem PenS.put {M0 M : Mem} {i t : Nat} (h : PenS M0 i t M) (a b c : Int) {u : Nat} (h1 : 0 ≤ c) (h2 : c ≤ u) : PenS M0 i u (M.set i (penO a b c)) := by
  obtain ⟨hi, a', b', c', rfl, _, _⟩ := h
  exact ⟨hi, a, b, c, by rw [List.set_set], h1, h2⟩
theorem pen_new (M : Mem) (a b : Int) : PenS (M ++ [penO a b 0]) M.length 0 (M ++ [penO a b 0]) :=
  ⟨by simp, a, b, 0, by rw [List.set_append_right _ _ (Nat.le_refl _), Nat.sub_self]; rfl, Int.le_refl 0, Int.le_refl 0⟩
theorem fin_p {n : Nat} {x : PyData} {M : Mem} {Q : D → Mem → Prop} (h : M.length ≤ n) (q : Q (.p x) M) : EndQ true n (.p x) M Q :=
  ⟨⟨_, _, by simp only [fin, if_true]; rw [List.take_of_length_le h], q⟩⟩
theorem fin_d {n : Nat} {d : D} {M : Mem} {Q : D → Mem → Prop} (q : Q d M) : EndQ false n d M Q := ⟨⟨_, _, rfl, q⟩⟩
section
variable {T : Nat → Option FD} {fuel k : Nat}
theorem draw_ok (hT : T 5 = some ⟨2, 4, true, bDraw⟩) {M0 M : Mem} {i t : Nat} {n : Int} (hM : PenS M0 i t M) (ht : t < 2 ^ 60) (h0 : 0 < n) (h1 : n < 1073741824) :
    Ok (run T fuel (k + 1) 5 [.ref i, .p (.int n)] M) (fun d N => ∃ r : Int, d = .p (.int r) ∧ 0 ≤ r ∧ r < n ∧ PenS M0 i (t + 1) N) := by
  refine Ok_call hT rfl ?_
  obtain ⟨a, b, c, hp, hc0, hc1⟩ := hM.at
  have hi : i < M.length := (List.getElem?_eq_some_iff.mp hp).1
  have hq : ∀ a b c : Int, (M.set i (penO a b c))[i]? = some (.lst [.int a, .int b, .int c]) := fun a b c => by rw [List.getElem?_set_self hi]; rfl
  simp only [bDraw, enter, List.map_cons, List.map_nil, List.replicate, List.cons_append, List.nil_append]
  repeat' (first
    | ((with_reducible apply Ok_var); (exact rfl))
    | with_reducible refine Ok_cons ?_ | with_reducible refine Ok_nil ?_ | with_reducible refine Ok_asg ?_ | with_reducible refine Ok_ret ?_ | with_reducible refine Ok_sub ?_ | with_reducible refine Ok_ife ?_
    | with_reducible refine Ok_expr ?_ | with_reducible refine Go_nx ?_ | with_reducible refine Go_rt ?_ | with_reducible refine Ok_cst ?_ | with_reducible refine Ok_bin ?_ | with_reducible refine Ok_idx ?_
    | with_reducible refine Ok_cmp ?_ | with_reducible refine Ok_chn ?_ | with_reducible refine Ok_and ?_ | with_reducible refine Ok_or ?_ | with_reducible refine Ok_not ?_ | with_reducible refine Ok_blt ?_
    | with_reducible refine Ok_callE ?_ | with_reducible refine Ok_slc ?_ | with_reducible refine Ok_ifx ?_ | with_reducible refine Ok_neg ?_ | with_reducible refine Ok_esc ?_ | with_reducible refine Ok_esn ?_
    | with_reducible refine Ok_ono ?_ | with_reducible refine Ok_oye ?_ | with_reducible refine Ok_cno ?_ | with_reducible refine Ok_cye ?_ | with_reducible refine Ok_tup ?_ | with_reducible refine Ok_lst ?_
    | with_reducible refine Ok_toB ?_ | with_reducible refine Ok_isB ?_ | with_reducible refine Ok_lt ?_ | with_reducible refine Ok_le ?_ | with_reducible refine Ok_gt ?_ | with_reducible refine Ok_ge ?_
    | with_reducible refine Ok_add ?_ | with_reducible refine Ok_sb ?_ | with_reducible refine Ok_lenS ?_ | with_reducible refine Ok_lenT ?_ | with_reducible refine Ok_lenL ?_ | with_reducible refine Ok_min ?_
    | with_reducible refine Ok_max ?_ | with_reducible refine Ok_tuL ?_ | with_reducible refine Ok_liT ?_ | with_reducible refine Ok_isi ?_ | with_reducible refine Ok_allF ?_ | with_reducible refine Ok_allT ?_
    | with_reducible refine Ok_slT ?_ | with_reducible refine Ok_comp ?_ | with_reducible refine Ok_seq ?_ | with_reducible refine Ok_rev ?_ | with_reducible refine Ok_rvT ?_ | with_reducible refine Ok_rvL ?_
    | with_reducible refine Ok_isN ?_ | with_reducible refine Ok_isNN ?_ | with_reducible refine Ok_eqI ?_ | with_reducible refine Ok_neI ?_ | with_reducible refine Ok_par ?_ | with_reducible refine Ok_asgT ?_
    | with_reducible refine Ok_dct ?_ | with_reducible refine Ok_okI ?_ | with_reducible refine Ok_bnd ?_
    | ((with_reducible refine Ok_ift ?_ ?_); (exact rfl)) | ((with_reducible refine Ok_iff ?_ ?_); (exact rfl))
    | refine Exists.intro _ (And.intro rfl ?_) | refine Exists.intro _ (Exists.intro _ (And.intro rfl (And.intro (show List.length _ ≤ _ by first | decide | simp) ?_))))
  refine Ok_ixR hp rfl ?_
  repeat' (first
    | ((with_reducible apply Ok_var); (exact rfl))
    | with_reducible refine Ok_cons ?_ | with_reducible refine Ok_nil ?_ | with_reducible refine Ok_asg ?_ | with_reducible refine Ok_ret ?_ | with_reducible refine Ok_sub ?_ | with_reducible refine Ok_ife ?_
    | with_reducible refine Ok_expr ?_ | with_reducible refine Go_nx ?_ | with_reducible refine Go_rt ?_ | with_reducible refine Ok_cst ?_ | with_reducible refine Ok_bin ?_ | with_reducible refine Ok_idx ?_
    | with_reducible refine Ok_cmp ?_ | with_reducible refine Ok_chn ?_ | with_reducible refine Ok_and ?_ | with_reducible refine Ok_or ?_ | with_reducible refine Ok_not ?_ | with_reducible refine Ok_blt ?_
    | with_reducible refine Ok_callE ?_ | with_reducible refine Ok_slc ?_ | with_reducible refine Ok_ifx ?_ | with_reducible refine Ok_neg ?_ | with_reducible refine Ok_esc ?_ | with_reducible refine Ok_esn ?_
    | with_reducible refine Ok_ono ?_ | with_reducible refine Ok_oye ?_ | with_reducible refine Ok_cno ?_ | with_reducible refine Ok_cye ?_ | with_reducible refine Ok_tup ?_ | with_reducible refine Ok_lst ?_
    | with_reducible refine Ok_toB ?_ | with_reducible refine Ok_isB ?_ | with_reducible refine Ok_lt ?_ | with_reducible refine Ok_le ?_ | with_reducible refine Ok_gt ?_ | with_reducible refine Ok_ge ?_
    | with_reducible refine Ok_add ?_ | with_reducible refine Ok_sb ?_ | with_reducible refine Ok_lenS ?_ | with_reducible refine Ok_lenT ?_ | with_reducible refine Ok_lenL ?_ | with_reducible refine Ok_min ?_
    | with_reducible refine Ok_max ?_ | with_reducible refine Ok_tuL ?_ | with_reducible refine Ok_liT ?_ | with_reducible refine Ok_isi ?_ | with_reducible refine Ok_allF ?_ | with_reducible refine Ok_allT ?_
    | with_reducible refine Ok_slT ?_ | with_reducible refine Ok_comp ?_ | with_reducible refine Ok_seq ?_ | with_reducible refine Ok_rev ?_ | with_reducible refine Ok_rvT ?_ | with_reducible refine Ok_rvL ?_
    | with_reducible refine Ok_isN ?_ | with_reducible refine Ok_isNN ?_ | with_reducible refine Ok_eqI ?_ | with_reducible refine Ok_neI ?_ | with_reducible refine Ok_par ?_ | with_reducible refine Ok_asgT ?_
    | with_reducible refine Ok_dct ?_ | with_reducible refine Ok_okI ?_ | with_reducible refine Ok_bnd ?_
    | ((with_reducible refine Ok_ift ?_ ?_); (exact rfl)) | ((with_reducible refine Ok_iff ?_ ?_); (exact rfl))
    | refine Exists.intro _ (And.intro rfl ?_) | refine Exists.intro _ (Exists.intro _ (And.intro rfl (And.intro (show List.length _ ≤ _ by first | decide | simp) ?_))))
  refine Ok_if (fun ha => ?_) (fun ha => ?_)
  · repeat' (first
    | ((with_reducible apply Ok_var); (exact rfl))
    | with_reducible refine Ok_cons ?_ | with_reducible refine Ok_nil ?_ | with_reducible refine Ok_asg ?_ | with_reducible refine Ok_ret ?_ | with_reducible refine Ok_sub ?_ | with_reducible refine Ok_ife ?_
    | with_reducible refine Ok_expr ?_ | with_reducible refine Go_nx ?_ | with_reducible refine Go_rt ?_ | with_reducible refine Ok_cst ?_ | with_reducible refine Ok_bin ?_ | with_reducible refine Ok_idx ?_
    | with_reducible refine Ok_cmp ?_ | with_reducible refine Ok_chn ?_ | with_reducible refine Ok_and ?_ | with_reducible refine Ok_or ?_ | with_reducible refine Ok_not ?_ | with_reducible refine Ok_blt ?_
    | with_reducible refine Ok_callE ?_ | with_reducible refine Ok_slc ?_ | with_reducible refine Ok_ifx ?_ | with_reducible refine Ok_neg ?_ | with_reducible refine Ok_esc ?_ | with_reducible refine Ok_esn ?_
    | with_reducible refine Ok_ono ?_ | with_reducible refine Ok_oye ?_ | with_reducible refine Ok_cno ?_ | with_reducible refine Ok_cye ?_ | with_reducible refine Ok_tup ?_ | with_reducible refine Ok_lst ?_
    | with_reducible refine Ok_toB ?_ | with_reducible refine Ok_isB ?_ | with_reducible refine Ok_lt ?_ | with_reducible refine Ok_le ?_ | with_reducible refine Ok_gt ?_ | with_reducible refine Ok_ge ?_
    | with_reducible refine Ok_add ?_ | with_reducible refine Ok_sb ?_ | with_reducible refine Ok_lenS ?_ | with_reducible refine Ok_lenT ?_ | with_reducible refine Ok_lenL ?_ | with_reducible refine Ok_min ?_
    | with_reducible refine Ok_max ?_ | with_reducible refine Ok_tuL ?_ | with_reducible refine Ok_liT ?_ | with_reducible refine Ok_isi ?_ | with_reducible refine Ok_allF ?_ | with_reducible refine Ok_allT ?_
    | with_reducible refine Ok_slT ?_ | with_reducible refine Ok_comp ?_ | with_reducible refine Ok_seq ?_ | with_reducible refine Ok_rev ?_ | with_reducible refine Ok_rvT ?_ | with_reducible refine Ok_rvL ?_
    | with_reducible refine Ok_isN ?_ | with_reducible refine Ok_isNN ?_ | with_reducible refine Ok_eqI ?_ | with_reducible refine Ok_neI ?_ | with_reducible refine Ok_par ?_ | with_reducible refine Ok_asgT ?_
    | with_reducible refine Ok_dct ?_ | with_reducible refine Ok_okI ?_ | with_reducible refine Ok_bnd ?_
    | ((with_reducible refine Ok_ift ?_ ?_); (exact rfl)) | ((with_reducible refine Ok_iff ?_ ?_); (exact rfl))
    | refine Exists.intro _ (And.intro rfl ?_) | refine Exists.intro _ (Exists.intro _ (And.intro rfl (And.intro (show List.length _ ≤ _ by first | decide | simp) ?_))))
    refine Ok_ixR hp rfl ?_
    repeat' (first
    | ((with_reducible apply Ok_var); (exact rfl))
    | with_reducible refine Ok_cons ?_ | with_reducible refine Ok_nil ?_ | with_reducible refine Ok_asg ?_ | with_reducible refine Ok_ret ?_ | with_reducible refine Ok_sub ?_ | with_reducible refine Ok_ife ?_
    | with_reducible refine Ok_expr ?_ | with_reducible refine Go_nx ?_ | with_reducible refine Go_rt ?_ | with_reducible refine Ok_cst ?_ | with_reducible refine Ok_bin ?_ | with_reducible refine Ok_idx ?_
    | with_reducible refine Ok_cmp ?_ | with_reducible refine Ok_chn ?_ | with_reducible refine Ok_and ?_ | with_reducible refine Ok_or ?_ | with_reducible refine Ok_not ?_ | with_reducible refine Ok_blt ?_
    | with_reducible refine Ok_callE ?_ | with_reducible refine Ok_slc ?_ | with_reducible refine Ok_ifx ?_ | with_reducible refine Ok_neg ?_ | with_reducible refine Ok_esc ?_ | with_reducible refine Ok_esn ?_
    | with_reducible refine Ok_ono ?_ | with_reducible refine Ok_oye ?_ | with_reducible refine Ok_cno ?_ | with_reducible refine Ok_cye ?_ | with_reducible refine Ok_tup ?_ | with_reducible refine Ok_lst ?_
    | with_reducible refine Ok_toB ?_ | with_reducible refine Ok_isB ?_ | with_reducible refine Ok_lt ?_ | with_reducible refine Ok_le ?_ | with_reducible refine Ok_gt ?_ | with_reducible refine Ok_ge ?_
    | with_reducible refine Ok_add ?_ | with_reducible refine Ok_sb ?_ | with_reducible refine Ok_lenS ?_ | with_reducible refine Ok_lenT ?_ | with_reducible refine Ok_lenL ?_ | with_reducible refine Ok_min ?_
    | with_reducible refine Ok_max ?_ | with_reducible refine Ok_tuL ?_ | with_reducible refine Ok_liT ?_ | with_reducible refine Ok_isi ?_ | with_reducible refine Ok_allF ?_ | with_reducible refine Ok_allT ?_
    | with_reducible refine Ok_slT ?_ | with_reducible refine Ok_comp ?_ | with_reducible refine Ok_seq ?_ | with_reducible refine Ok_rev ?_ | with_reducible refine Ok_rvT ?_ | with_reducible refine Ok_rvL ?_
    | with_reducible refine Ok_isN ?_ | with_reducible refine Ok_isNN ?_ | with_reducible refine Ok_eqI ?_ | with_reducible refine Ok_neI ?_ | with_reducible refine Ok_par ?_ | with_reducible refine Ok_asgT ?_
    | with_reducible refine Ok_dct ?_ | with_reducible refine Ok_okI ?_ | with_reducible refine Ok_bnd ?_
    | ((with_reducible refine Ok_ift ?_ ?_); (exact rfl)) | ((with_reducible refine Ok_iff ?_ ?_); (exact rfl))
    | refine Exists.intro _ (And.intro rfl ?_) | refine Exists.intro _ (Exists.intro _ (And.intro rfl (And.intro (show List.length _ ≤ _ by first | decide | simp) ?_))))
    refine Ok_mod h0 ?_
    repeat' (first
    | ((with_reducible apply Ok_var); (exact rfl))
    | with_reducible refine Ok_cons ?_ | with_reducible refine Ok_nil ?_ | with_reducible refine Ok_asg ?_ | with_reducible refine Ok_ret ?_ | with_reducible refine Ok_sub ?_ | with_reducible refine Ok_ife ?_
    | with_reducible refine Ok_expr ?_ | with_reducible refine Go_nx ?_ | with_reducible refine Go_rt ?_ | with_reducible refine Ok_cst ?_ | with_reducible refine Ok_bin ?_ | with_reducible refine Ok_idx ?_
    | with_reducible refine Ok_cmp ?_ | with_reducible refine Ok_chn ?_ | with_reducible refine Ok_and ?_ | with_reducible refine Ok_or ?_ | with_reducible refine Ok_not ?_ | with_reducible refine Ok_blt ?_
    | with_reducible refine Ok_callE ?_ | with_reducible refine Ok_slc ?_ | with_reducible refine Ok_ifx ?_ | with_reducible refine Ok_neg ?_ | with_reducible refine Ok_esc ?_ | with_reducible refine Ok_esn ?_
    | with_reducible refine Ok_ono ?_ | with_reducible refine Ok_oye ?_ | with_reducible refine Ok_cno ?_ | with_reducible refine Ok_cye ?_ | with_reducible refine Ok_tup ?_ | with_reducible refine Ok_lst ?_
    | with_reducible refine Ok_toB ?_ | with_reducible refine Ok_isB ?_ | with_reducible refine Ok_lt ?_ | with_reducible refine Ok_le ?_ | with_reducible refine Ok_gt ?_ | with_reducible refine Ok_ge ?_
    | with_reducible refine Ok_add ?_ | with_reducible refine Ok_sb ?_ | with_reducible refine Ok_lenS ?_ | with_reducible refine Ok_lenT ?_ | with_reducible refine Ok_lenL ?_ | with_reducible refine Ok_min ?_
    | with_reducible refine Ok_max ?_ | with_reducible refine Ok_tuL ?_ | with_reducible refine Ok_liT ?_ | with_reducible refine Ok_isi ?_ | with_reducible refine Ok_allF ?_ | with_reducible refine Ok_allT ?_
    | with_reducible refine Ok_slT ?_ | with_reducible refine Ok_comp ?_ | with_reducible refine Ok_seq ?_ | with_reducible refine Ok_rev ?_ | with_reducible refine Ok_rvT ?_ | with_reducible refine Ok_rvL ?_
    | with_reducible refine Ok_isN ?_ | with_reducible refine Ok_isNN ?_ | with_reducible refine Ok_eqI ?_ | with_reducible refine Ok_neI ?_ | with_reducible refine Ok_par ?_ | with_reducible refine Ok_asgT ?_
    | with_reducible refine Ok_dct ?_ | with_reducible refine Ok_okI ?_ | with_reducible refine Ok_bnd ?_
    | ((with_reducible refine Ok_ift ?_ ?_); (exact rfl)) | ((with_reducible refine Ok_iff ?_ ?_); (exact rfl))
    | refine Exists.intro _ (And.intro rfl ?_) | refine Exists.intro _ (Exists.intro _ (And.intro rfl (And.intro (show List.length _ ≤ _ by first | decide | simp) ?_))))
    refine Ok_ixR hp rfl ?_
    repeat' (first
    | ((with_reducible apply Ok_var); (exact rfl))
    | with_reducible refine Ok_cons ?_ | with_reducible refine Ok_nil ?_ | with_reducible refine Ok_asg ?_ | with_reducible refine Ok_ret ?_ | with_reducible refine Ok_sub ?_ | with_reducible refine Ok_ife ?_
    | with_reducible refine Ok_expr ?_ | with_reducible refine Go_nx ?_ | with_reducible refine Go_rt ?_ | with_reducible refine Ok_cst ?_ | with_reducible refine Ok_bin ?_ | with_reducible refine Ok_idx ?_
    | with_reducible refine Ok_cmp ?_ | with_reducible refine Ok_chn ?_ | with_reducible refine Ok_and ?_ | with_reducible refine Ok_or ?_ | with_reducible refine Ok_not ?_ | with_reducible refine Ok_blt ?_
    | with_reducible refine Ok_callE ?_ | with_reducible refine Ok_slc ?_ | with_reducible refine Ok_ifx ?_ | with_reducible refine Ok_neg ?_ | with_reducible refine Ok_esc ?_ | with_reducible refine Ok_esn ?_
    | with_reducible refine Ok_ono ?_ | with_reducible refine Ok_oye ?_ | with_reducible refine Ok_cno ?_ | with_reducible refine Ok_cye ?_ | with_reducible refine Ok_tup ?_ | with_reducible refine Ok_lst ?_
    | with_reducible refine Ok_toB ?_ | with_reducible refine Ok_isB ?_ | with_reducible refine Ok_lt ?_ | with_reducible refine Ok_le ?_ | with_reducible refine Ok_gt ?_ | with_reducible refine Ok_ge ?_
    | with_reducible refine Ok_add ?_ | with_reducible refine Ok_sb ?_ | with_reducible refine Ok_lenS ?_ | with_reducible refine Ok_lenT ?_ | with_reducible refine Ok_lenL ?_ | with_reducible refine Ok_min ?_
    | with_reducible refine Ok_max ?_ | with_reducible refine Ok_tuL ?_ | with_reducible refine Ok_liT ?_ | with_reducible refine Ok_isi ?_ | with_reducible refine Ok_allF ?_ | with_reducible refine Ok_allT ?_
    | with_reducible refine Ok_slT ?_ | with_reducible refine Ok_comp ?_ | with_reducible refine Ok_seq ?_ | with_reducible refine Ok_rev ?_ | with_reducible refine Ok_rvT ?_ | with_reducible refine Ok_rvL ?_
    | with_reducible refine Ok_isN ?_ | with_reducible refine Ok_isNN ?_ | with_reducible refine Ok_eqI ?_ | with_reducible refine Ok_neI ?_ | with_reducible refine Ok_par ?_ | with_reducible refine Ok_asgT ?_
    | with_reducible refine Ok_dct ?_ | with_reducible refine Ok_okI ?_ | with_reducible refine Ok_bnd ?_
    | ((with_reducible refine Ok_ift ?_ ?_); (exact rfl)) | ((with_reducible refine Ok_iff ?_ ?_); (exact rfl))
    | refine Exists.intro _ (And.intro rfl ?_) | refine Exists.intro _ (Exists.intro _ (And.intro rfl (And.intro (show List.length _ ≤ _ by first | decide | simp) ?_))))
    refine Ok_fdv ⟨h0, h1⟩ ?_
    repeat' (first
    | ((with_reducible apply Ok_var); (exact rfl))
    | with_reducible refine Ok_cons ?_ | with_reducible refine Ok_nil ?_ | with_reducible refine Ok_asg ?_ | with_reducible refine Ok_ret ?_ | with_reducible refine Ok_sub ?_ | with_reducible refine Ok_ife ?_
    | with_reducible refine Ok_expr ?_ | with_reducible refine Go_nx ?_ | with_reducible refine Go_rt ?_ | with_reducible refine Ok_cst ?_ | with_reducible refine Ok_bin ?_ | with_reducible refine Ok_idx ?_
    | with_reducible refine Ok_cmp ?_ | with_reducible refine Ok_chn ?_ | with_reducible refine Ok_and ?_ | with_reducible refine Ok_or ?_ | with_reducible refine Ok_not ?_ | with_reducible refine Ok_blt ?_
    | with_reducible refine Ok_callE ?_ | with_reducible refine Ok_slc ?_ | with_reducible refine Ok_ifx ?_ | with_reducible refine Ok_neg ?_ | with_reducible refine Ok_esc ?_ | with_reducible refine Ok_esn ?_
    | with_reducible refine Ok_ono ?_ | with_reducible refine Ok_oye ?_ | with_reducible refine Ok_cno ?_ | with_reducible refine Ok_cye ?_ | with_reducible refine Ok_tup ?_ | with_reducible refine Ok_lst ?_
    | with_reducible refine Ok_toB ?_ | with_reducible refine Ok_isB ?_ | with_reducible refine Ok_lt ?_ | with_reducible refine Ok_le ?_ | with_reducible refine Ok_gt ?_ | with_reducible refine Ok_ge ?_
    | with_reducible refine Ok_add ?_ | with_reducible refine Ok_sb ?_ | with_reducible refine Ok_lenS ?_ | with_reducible refine Ok_lenT ?_ | with_reducible refine Ok_lenL ?_ | with_reducible refine Ok_min ?_
    | with_reducible refine Ok_max ?_ | with_reducible refine Ok_tuL ?_ | with_reducible refine Ok_liT ?_ | with_reducible refine Ok_isi ?_ | with_reducible refine Ok_allF ?_ | with_reducible refine Ok_allT ?_
    | with_reducible refine Ok_slT ?_ | with_reducible refine Ok_comp ?_ | with_reducible refine Ok_seq ?_ | with_reducible refine Ok_rev ?_ | with_reducible refine Ok_rvT ?_ | with_reducible refine Ok_rvL ?_
    | with_reducible refine Ok_isN ?_ | with_reducible refine Ok_isNN ?_ | with_reducible refine Ok_eqI ?_ | with_reducible refine Ok_neI ?_ | with_reducible refine Ok_par ?_ | with_reducible refine Ok_asgT ?_
    | with_reducible refine Ok_dct ?_ | with_reducible refine Ok_okI ?_ | with_reducible refine Ok_bnd ?_
    | ((with_reducible refine Ok_ift ?_ ?_); (exact rfl)) | ((with_reducible refine Ok_iff ?_ ?_); (exact rfl))
    | refine Exists.intro _ (And.intro rfl ?_) | refine Exists.intro _ (Exists.intro _ (And.intro rfl (And.intro (show List.length _ ≤ _ by first | decide | simp) ?_))))
    refine Ok_subR hp rfl ?_
    repeat' (first
    | ((with_reducible apply Ok_var); (exact rfl))
    | with_reducible refine Ok_cons ?_ | with_reducible refine Ok_nil ?_ | with_reducible refine Ok_asg ?_ | with_reducible refine Ok_ret ?_ | with_reducible refine Ok_sub ?_ | with_reducible refine Ok_ife ?_
    | with_reducible refine Ok_expr ?_ | with_reducible refine Go_nx ?_ | with_reducible refine Go_rt ?_ | with_reducible refine Ok_cst ?_ | with_reducible refine Ok_bin ?_ | with_reducible refine Ok_idx ?_
    | with_reducible refine Ok_cmp ?_ | with_reducible refine Ok_chn ?_ | with_reducible refine Ok_and ?_ | with_reducible refine Ok_or ?_ | with_reducible refine Ok_not ?_ | with_reducible refine Ok_blt ?_
    | with_reducible refine Ok_callE ?_ | with_reducible refine Ok_slc ?_ | with_reducible refine Ok_ifx ?_ | with_reducible refine Ok_neg ?_ | with_reducible refine Ok_esc ?_ | with_reducible refine Ok_esn ?_
    | with_reducible refine Ok_ono ?_ | with_reducible refine Ok_oye ?_ | with_reducible refine Ok_cno ?_ | with_reducible refine Ok_cye ?_ | with_reducible refine Ok_tup ?_ | with_reducible refine Ok_lst ?_
    | with_reducible refine Ok_toB ?_ | with_reducible refine Ok_isB ?_ | with_reducible refine Ok_lt ?_ | with_reducible refine Ok_le ?_ | with_reducible refine Ok_gt ?_ | with_reducible refine Ok_ge ?_
    | with_reducible refine Ok_add ?_ | with_reducible refine Ok_sb ?_ | with_reducible refine Ok_lenS ?_ | with_reducible refine Ok_lenT ?_ | with_reducible refine Ok_lenL ?_ | with_reducible refine Ok_min ?_
    | with_reducible refine Ok_max ?_ | with_reducible refine Ok_tuL ?_ | with_reducible refine Ok_liT ?_ | with_reducible refine Ok_isi ?_ | with_reducible refine Ok_allF ?_ | with_reducible refine Ok_allT ?_
    | with_reducible refine Ok_slT ?_ | with_reducible refine Ok_comp ?_ | with_reducible refine Ok_seq ?_ | with_reducible refine Ok_rev ?_ | with_reducible refine Ok_rvT ?_ | with_reducible refine Ok_rvL ?_
    | with_reducible refine Ok_isN ?_ | with_reducible refine Ok_isNN ?_ | with_reducible refine Ok_eqI ?_ | with_reducible refine Ok_neI ?_ | with_reducible refine Ok_par ?_ | with_reducible refine Ok_asgT ?_
    | with_reducible refine Ok_dct ?_ | with_reducible refine Ok_okI ?_ | with_reducible refine Ok_bnd ?_
    | ((with_reducible refine Ok_ift ?_ ?_); (exact rfl)) | ((with_reducible refine Ok_iff ?_ ?_); (exact rfl))
    | refine Exists.intro _ (And.intro rfl ?_) | refine Exists.intro _ (Exists.intro _ (And.intro rfl (And.intro (show List.length _ ≤ _ by first | decide | simp) ?_))))
    refine fin_p (Nat.le_of_eq List.length_set) ?_
    exact ⟨_, rfl, Int.emod_nonneg _ (by omega), Int.emod_lt_of_pos _ h0, hM.put _ _ _ hc0 (by omega)⟩
  · repeat' (first
    | ((with_reducible apply Ok_var); (exact rfl))
    | with_reducible refine Ok_cons ?_ | with_reducible refine Ok_nil ?_ | with_reducible refine Ok_asg ?_ | with_reducible refine Ok_ret ?_ | with_reducible refine Ok_sub ?_ | with_reducible refine Ok_ife ?_
    | with_reducible refine Ok_expr ?_ | with_reducible refine Go_nx ?_ | with_reducible refine Go_rt ?_ | with_reducible refine Ok_cst ?_ | with_reducible refine Ok_bin ?_ | with_reducible refine Ok_idx ?_
    | with_reducible refine Ok_cmp ?_ | with_reducible refine Ok_chn ?_ | with_reducible refine Ok_and ?_ | with_reducible refine Ok_or ?_ | with_reducible refine Ok_not ?_ | with_reducible refine Ok_blt ?_
    | with_reducible refine Ok_callE ?_ | with_reducible refine Ok_slc ?_ | with_reducible refine Ok_ifx ?_ | with_reducible refine Ok_neg ?_ | with_reducible refine Ok_esc ?_ | with_reducible refine Ok_esn ?_
    | with_reducible refine Ok_ono ?_ | with_reducible refine Ok_oye ?_ | with_reducible refine Ok_cno ?_ | with_reducible refine Ok_cye ?_ | with_reducible refine Ok_tup ?_ | with_reducible refine Ok_lst ?_
    | with_reducible refine Ok_toB ?_ | with_reducible refine Ok_isB ?_ | with_reducible refine Ok_lt ?_ | with_reducible refine Ok_le ?_ | with_reducible refine Ok_gt ?_ | with_reducible refine Ok_ge ?_
    | with_reducible refine Ok_add ?_ | with_reducible refine Ok_sb ?_ | with_reducible refine Ok_lenS ?_ | with_reducible refine Ok_lenT ?_ | with_reducible refine Ok_lenL ?_ | with_reducible refine Ok_min ?_
    | with_reducible refine Ok_max ?_ | with_reducible refine Ok_tuL ?_ | with_reducible refine Ok_liT ?_ | with_reducible refine Ok_isi ?_ | with_reducible refine Ok_allF ?_ | with_reducible refine Ok_allT ?_
    | with_reducible refine Ok_slT ?_ | with_reducible refine Ok_comp ?_ | with_reducible refine Ok_seq ?_ | with_reducible refine Ok_rev ?_ | with_reducible refine Ok_rvT ?_ | with_reducible refine Ok_rvL ?_
    | with_reducible refine Ok_isN ?_ | with_reducible refine Ok_isNN ?_ | with_reducible refine Ok_eqI ?_ | with_reducible refine Ok_neI ?_ | with_reducible refine Ok_par ?_ | with_reducible refine Ok_asgT ?_
    | with_reducible refine Ok_dct ?_ | with_reducible refine Ok_okI ?_ | with_reducible refine Ok_bnd ?_
    | ((with_reducible refine Ok_ift ?_ ?_); (exact rfl)) | ((with_reducible refine Ok_iff ?_ ?_); (exact rfl))
    | refine Exists.intro _ (And.intro rfl ?_) | refine Exists.intro _ (Exists.intro _ (And.intro rfl (And.intro (show List.length _ ≤ _ by first | decide | simp) ?_))))
    refine Ok_ixR hp rfl ?_
    repeat' (first
    | ((with_reducible apply Ok_var); (exact rfl))
    | with_reducible refine Ok_cons ?_ | with_reducible refine Ok_nil ?_ | with_reducible refine Ok_asg ?_ | with_reducible refine Ok_ret ?_ | with_reducible refine Ok_sub ?_ | with_reducible refine Ok_ife ?_
    | with_reducible refine Ok_expr ?_ | with_reducible refine Go_nx ?_ | with_reducible refine Go_rt ?_ | with_reducible refine Ok_cst ?_ | with_reducible refine Ok_bin ?_ | with_reducible refine Ok_idx ?_
    | with_reducible refine Ok_cmp ?_ | with_reducible refine Ok_chn ?_ | with_reducible refine Ok_and ?_ | with_reducible refine Ok_or ?_ | with_reducible refine Ok_not ?_ | with_reducible refine Ok_blt ?_
    | with_reducible refine Ok_callE ?_ | with_reducible refine Ok_slc ?_ | with_reducible refine Ok_ifx ?_ | with_reducible refine Ok_neg ?_ | with_reducible refine Ok_esc ?_ | with_reducible refine Ok_esn ?_
    | with_reducible refine Ok_ono ?_ | with_reducible refine Ok_oye ?_ | with_reducible refine Ok_cno ?_ | with_reducible refine Ok_cye ?_ | with_reducible refine Ok_tup ?_ | with_reducible refine Ok_lst ?_
    | with_reducible refine Ok_toB ?_ | with_reducible refine Ok_isB ?_ | with_reducible refine Ok_lt ?_ | with_reducible refine Ok_le ?_ | with_reducible refine Ok_gt ?_ | with_reducible refine Ok_ge ?_
    | with_reducible refine Ok_add ?_ | with_reducible refine Ok_sb ?_ | with_reducible refine Ok_lenS ?_ | with_reducible refine Ok_lenT ?_ | with_reducible refine Ok_lenL ?_ | with_reducible refine Ok_min ?_
    | with_reducible refine Ok_max ?_ | with_reducible refine Ok_tuL ?_ | with_reducible refine Ok_liT ?_ | with_reducible refine Ok_isi ?_ | with_reducible refine Ok_allF ?_ | with_reducible refine Ok_allT ?_
    | with_reducible refine Ok_slT ?_ | with_reducible refine Ok_comp ?_ | with_reducible refine Ok_seq ?_ | with_reducible refine Ok_rev ?_ | with_reducible refine Ok_rvT ?_ | with_reducible refine Ok_rvL ?_
    | with_reducible refine Ok_isN ?_ | with_reducible refine Ok_isNN ?_ | with_reducible refine Ok_eqI ?_ | with_reducible refine Ok_neI ?_ | with_reducible refine Ok_par ?_ | with_reducible refine Ok_asgT ?_
    | with_reducible refine Ok_dct ?_ | with_reducible refine Ok_okI ?_ | with_reducible refine Ok_bnd ?_
    | ((with_reducible refine Ok_ift ?_ ?_); (exact rfl)) | ((with_reducible refine Ok_iff ?_ ?_); (exact rfl))
    | refine Exists.intro _ (And.intro rfl ?_) | refine Exists.intro _ (Exists.intro _ (And.intro rfl (And.intro (show List.length _ ≤ _ by first | decide | simp) ?_))))
    refine Ok_subR hp rfl ?_
    repeat' (first
    | ((with_reducible apply Ok_var); (exact rfl))
    | with_reducible refine Ok_cons ?_ | with_reducible refine Ok_nil ?_ | with_reducible refine Ok_asg ?_ | with_reducible refine Ok_ret ?_ | with_reducible refine Ok_sub ?_ | with_reducible refine Ok_ife ?_
    | with_reducible refine Ok_expr ?_ | with_reducible refine Go_nx ?_ | with_reducible refine Go_rt ?_ | with_reducible refine Ok_cst ?_ | with_reducible refine Ok_bin ?_ | with_reducible refine Ok_idx ?_
    | with_reducible refine Ok_cmp ?_ | with_reducible refine Ok_chn ?_ | with_reducible refine Ok_and ?_ | with_reducible refine Ok_or ?_ | with_reducible refine Ok_not ?_ | with_reducible refine Ok_blt ?_
    | with_reducible refine Ok_callE ?_ | with_reducible refine Ok_slc ?_ | with_reducible refine Ok_ifx ?_ | with_reducible refine Ok_neg ?_ | with_reducible refine Ok_esc ?_ | with_reducible refine Ok_esn ?_
    | with_reducible refine Ok_ono ?_ | with_reducible refine Ok_oye ?_ | with_reducible refine Ok_cno ?_ | with_reducible refine Ok_cye ?_ | with_reducible refine Ok_tup ?_ | with_reducible refine Ok_lst ?_
    | with_reducible refine Ok_toB ?_ | with_reducible refine Ok_isB ?_ | with_reducible refine Ok_lt ?_ | with_reducible refine Ok_le ?_ | with_reducible refine Ok_gt ?_ | with_reducible refine Ok_ge ?_
    | with_reducible refine Ok_add ?_ | with_reducible refine Ok_sb ?_ | with_reducible refine Ok_lenS ?_ | with_reducible refine Ok_lenT ?_ | with_reducible refine Ok_lenL ?_ | with_reducible refine Ok_min ?_
    | with_reducible refine Ok_max ?_ | with_reducible refine Ok_tuL ?_ | with_reducible refine Ok_liT ?_ | with_reducible refine Ok_isi ?_ | with_reducible refine Ok_allF ?_ | with_reducible refine Ok_allT ?_
    | with_reducible refine Ok_slT ?_ | with_reducible refine Ok_comp ?_ | with_reducible refine Ok_seq ?_ | with_reducible refine Ok_rev ?_ | with_reducible refine Ok_rvT ?_ | with_reducible refine Ok_rvL ?_
    | with_reducible refine Ok_isN ?_ | with_reducible refine Ok_isNN ?_ | with_reducible refine Ok_eqI ?_ | with_reducible refine Ok_neI ?_ | with_reducible refine Ok_par ?_ | with_reducible refine Ok_asgT ?_
    | with_reducible refine Ok_dct ?_ | with_reducible refine Ok_okI ?_ | with_reducible refine Ok_bnd ?_
    | ((with_reducible refine Ok_ift ?_ ?_); (exact rfl)) | ((with_reducible refine Ok_iff ?_ ?_); (exact rfl))
    | refine Exists.intro _ (And.intro rfl ?_) | refine Exists.intro _ (Exists.intro _ (And.intro rfl (And.intro (show List.length _ ≤ _ by first | decide | simp) ?_))))
    refine Ok_ixR (hq _ _ _) rfl ?_
    repeat' (first
    | ((with_reducible apply Ok_var); (exact rfl))
    | with_reducible refine Ok_cons ?_ | with_reducible refine Ok_nil ?_ | with_reducible refine Ok_asg ?_ | with_reducible refine Ok_ret ?_ | with_reducible refine Ok_sub ?_ | with_reducible refine Ok_ife ?_
    | with_reducible refine Ok_expr ?_ | with_reducible refine Go_nx ?_ | with_reducible refine Go_rt ?_ | with_reducible refine Ok_cst ?_ | with_reducible refine Ok_bin ?_ | with_reducible refine Ok_idx ?_
    | with_reducible refine Ok_cmp ?_ | with_reducible refine Ok_chn ?_ | with_reducible refine Ok_and ?_ | with_reducible refine Ok_or ?_ | with_reducible refine Ok_not ?_ | with_reducible refine Ok_blt ?_
    | with_reducible refine Ok_callE ?_ | with_reducible refine Ok_slc ?_ | with_reducible refine Ok_ifx ?_ | with_reducible refine Ok_neg ?_ | with_reducible refine Ok_esc ?_ | with_reducible refine Ok_esn ?_
    | with_reducible refine Ok_ono ?_ | with_reducible refine Ok_oye ?_ | with_reducible refine Ok_cno ?_ | with_reducible refine Ok_cye ?_ | with_reducible refine Ok_tup ?_ | with_reducible refine Ok_lst ?_
    | with_reducible refine Ok_toB ?_ | with_reducible refine Ok_isB ?_ | with_reducible refine Ok_lt ?_ | with_reducible refine Ok_le ?_ | with_reducible refine Ok_gt ?_ | with_reducible refine Ok_ge ?_
    | with_reducible refine Ok_add ?_ | with_reducible refine Ok_sb ?_ | with_reducible refine Ok_lenS ?_ | with_reducible refine Ok_lenT ?_ | with_reducible refine Ok_lenL ?_ | with_reducible refine Ok_min ?_
    | with_reducible refine Ok_max ?_ | with_reducible refine Ok_tuL ?_ | with_reducible refine Ok_liT ?_ | with_reducible refine Ok_isi ?_ | with_reducible refine Ok_allF ?_ | with_reducible refine Ok_allT ?_
    | with_reducible refine Ok_slT ?_ | with_reducible refine Ok_comp ?_ | with_reducible refine Ok_seq ?_ | with_reducible refine Ok_rev ?_ | with_reducible refine Ok_rvT ?_ | with_reducible refine Ok_rvL ?_
    | with_reducible refine Ok_isN ?_ | with_reducible refine Ok_isNN ?_ | with_reducible refine Ok_eqI ?_ | with_reducible refine Ok_neI ?_ | with_reducible refine Ok_par ?_ | with_reducible refine Ok_asgT ?_
    | with_reducible refine Ok_dct ?_ | with_reducible refine Ok_okI ?_ | with_reducible refine Ok_bnd ?_
    | ((with_reducible refine Ok_ift ?_ ?_); (exact rfl)) | ((with_reducible refine Ok_iff ?_ ?_); (exact rfl))
    | refine Exists.intro _ (And.intro rfl ?_) | refine Exists.intro _ (Exists.intro _ (And.intro rfl (And.intro (show List.length _ ≤ _ by first | decide | simp) ?_))))
    refine Ok_ixR (hq _ _ _) rfl ?_
    repeat' (first
    | ((with_reducible apply Ok_var); (exact rfl))
    | with_reducible refine Ok_cons ?_ | with_reducible refine Ok_nil ?_ | with_reducible refine Ok_asg ?_ | with_reducible refine Ok_ret ?_ | with_reducible refine Ok_sub ?_ | with_reducible refine Ok_ife ?_
    | with_reducible refine Ok_expr ?_ | with_reducible refine Go_nx ?_ | with_reducible refine Go_rt ?_ | with_reducible refine Ok_cst ?_ | with_reducible refine Ok_bin ?_ | with_reducible refine Ok_idx ?_
    | with_reducible refine Ok_cmp ?_ | with_reducible refine Ok_chn ?_ | with_reducible refine Ok_and ?_ | with_reducible refine Ok_or ?_ | with_reducible refine Ok_not ?_ | with_reducible refine Ok_blt ?_
    | with_reducible refine Ok_callE ?_ | with_reducible refine Ok_slc ?_ | with_reducible refine Ok_ifx ?_ | with_reducible refine Ok_neg ?_ | with_reducible refine Ok_esc ?_ | with_reducible refine Ok_esn ?_
    | with_reducible refine Ok_ono ?_ | with_reducible refine Ok_oye ?_ | with_reducible refine Ok_cno ?_ | with_reducible refine Ok_cye ?_ | with_reducible refine Ok_tup ?_ | with_reducible refine Ok_lst ?_
    | with_reducible refine Ok_toB ?_ | with_reducible refine Ok_isB ?_ | with_reducible refine Ok_lt ?_ | with_reducible refine Ok_le ?_ | with_reducible refine Ok_gt ?_ | with_reducible refine Ok_ge ?_
    | with_reducible refine Ok_add ?_ | with_reducible refine Ok_sb ?_ | with_reducible refine Ok_lenS ?_ | with_reducible refine Ok_lenT ?_ | with_reducible refine Ok_lenL ?_ | with_reducible refine Ok_min ?_
    | with_reducible refine Ok_max ?_ | with_reducible refine Ok_tuL ?_ | with_reducible refine Ok_liT ?_ | with_reducible refine Ok_isi ?_ | with_reducible refine Ok_allF ?_ | with_reducible refine Ok_allT ?_
    | with_reducible refine Ok_slT ?_ | with_reducible refine Ok_comp ?_ | with_reducible refine Ok_seq ?_ | with_reducible refine Ok_rev ?_ | with_reducible refine Ok_rvT ?_ | with_reducible refine Ok_rvL ?_
    | with_reducible refine Ok_isN ?_ | with_reducible refine Ok_isNN ?_ | with_reducible refine Ok_eqI ?_ | with_reducible refine Ok_neI ?_ | with_reducible refine Ok_par ?_ | with_reducible refine Ok_asgT ?_
    | with_reducible refine Ok_dct ?_ | with_reducible refine Ok_okI ?_ | with_reducible refine Ok_bnd ?_
    | ((with_reducible refine Ok_ift ?_ ?_); (exact rfl)) | ((with_reducible refine Ok_iff ?_ ?_); (exact rfl))
    | refine Exists.intro _ (And.intro rfl ?_) | refine Exists.intro _ (Exists.intro _ (And.intro rfl (And.intro (show List.length _ ≤ _ by first | decide | simp) ?_))))
    refine Ok_mul (.inl (by omega)) ?_
    repeat' (first
    | ((with_reducible apply Ok_var); (exact rfl))
    | with_reducible refine Ok_cons ?_ | with_reducible refine Ok_nil ?_ | with_reducible refine Ok_asg ?_ | with_reducible refine Ok_ret ?_ | with_reducible refine Ok_sub ?_ | with_reducible refine Ok_ife ?_
    | with_reducible refine Ok_expr ?_ | with_reducible refine Go_nx ?_ | with_reducible refine Go_rt ?_ | with_reducible refine Ok_cst ?_ | with_reducible refine Ok_bin ?_ | with_reducible refine Ok_idx ?_
    | with_reducible refine Ok_cmp ?_ | with_reducible refine Ok_chn ?_ | with_reducible refine Ok_and ?_ | with_reducible refine Ok_or ?_ | with_reducible refine Ok_not ?_ | with_reducible refine Ok_blt ?_
    | with_reducible refine Ok_callE ?_ | with_reducible refine Ok_slc ?_ | with_reducible refine Ok_ifx ?_ | with_reducible refine Ok_neg ?_ | with_reducible refine Ok_esc ?_ | with_reducible refine Ok_esn ?_
    | with_reducible refine Ok_ono ?_ | with_reducible refine Ok_oye ?_ | with_reducible refine Ok_cno ?_ | with_reducible refine Ok_cye ?_ | with_reducible refine Ok_tup ?_ | with_reducible refine Ok_lst ?_
    | with_reducible refine Ok_toB ?_ | with_reducible refine Ok_isB ?_ | with_reducible refine Ok_lt ?_ | with_reducible refine Ok_le ?_ | with_reducible refine Ok_gt ?_ | with_reducible refine Ok_ge ?_
    | with_reducible refine Ok_add ?_ | with_reducible refine Ok_sb ?_ | with_reducible refine Ok_lenS ?_ | with_reducible refine Ok_lenT ?_ | with_reducible refine Ok_lenL ?_ | with_reducible refine Ok_min ?_
    | with_reducible refine Ok_max ?_ | with_reducible refine Ok_tuL ?_ | with_reducible refine Ok_liT ?_ | with_reducible refine Ok_isi ?_ | with_reducible refine Ok_allF ?_ | with_reducible refine Ok_allT ?_
    | with_reducible refine Ok_slT ?_ | with_reducible refine Ok_comp ?_ | with_reducible refine Ok_seq ?_ | with_reducible refine Ok_rev ?_ | with_reducible refine Ok_rvT ?_ | with_reducible refine Ok_rvL ?_
    | with_reducible refine Ok_isN ?_ | with_reducible refine Ok_isNN ?_ | with_reducible refine Ok_eqI ?_ | with_reducible refine Ok_neI ?_ | with_reducible refine Ok_par ?_ | with_reducible refine Ok_asgT ?_
    | with_reducible refine Ok_dct ?_ | with_reducible refine Ok_okI ?_ | with_reducible refine Ok_bnd ?_
    | ((with_reducible refine Ok_ift ?_ ?_); (exact rfl)) | ((with_reducible refine Ok_iff ?_ ?_); (exact rfl))
    | refine Exists.intro _ (And.intro rfl ?_) | refine Exists.intro _ (Exists.intro _ (And.intro rfl (And.intro (show List.length _ ≤ _ by first | decide | simp) ?_))))
    refine Ok_ixR (hq _ _ _) rfl ?_
    repeat' (first
    | ((with_reducible apply Ok_var); (exact rfl))
    | with_reducible refine Ok_cons ?_ | with_reducible refine Ok_nil ?_ | with_reducible refine Ok_asg ?_ | with_reducible refine Ok_ret ?_ | with_reducible refine Ok_sub ?_ | with_reducible refine Ok_ife ?_
    | with_reducible refine Ok_expr ?_ | with_reducible refine Go_nx ?_ | with_reducible refine Go_rt ?_ | with_reducible refine Ok_cst ?_ | with_reducible refine Ok_bin ?_ | with_reducible refine Ok_idx ?_
    | with_reducible refine Ok_cmp ?_ | with_reducible refine Ok_chn ?_ | with_reducible refine Ok_and ?_ | with_reducible refine Ok_or ?_ | with_reducible refine Ok_not ?_ | with_reducible refine Ok_blt ?_
    | with_reducible refine Ok_callE ?_ | with_reducible refine Ok_slc ?_ | with_reducible refine Ok_ifx ?_ | with_reducible refine Ok_neg ?_ | with_reducible refine Ok_esc ?_ | with_reducible refine Ok_esn ?_
    | with_reducible refine Ok_ono ?_ | with_reducible refine Ok_oye ?_ | with_reducible refine Ok_cno ?_ | with_reducible refine Ok_cye ?_ | with_reducible refine Ok_tup ?_ | with_reducible refine Ok_lst ?_
    | with_reducible refine Ok_toB ?_ | with_reducible refine Ok_isB ?_ | with_reducible refine Ok_lt ?_ | with_reducible refine Ok_le ?_ | with_reducible refine Ok_gt ?_ | with_reducible refine Ok_ge ?_
    | with_reducible refine Ok_add ?_ | with_reducible refine Ok_sb ?_ | with_reducible refine Ok_lenS ?_ | with_reducible refine Ok_lenT ?_ | with_reducible refine Ok_lenL ?_ | with_reducible refine Ok_min ?_
    | with_reducible refine Ok_max ?_ | with_reducible refine Ok_tuL ?_ | with_reducible refine Ok_liT ?_ | with_reducible refine Ok_isi ?_ | with_reducible refine Ok_allF ?_ | with_reducible refine Ok_allT ?_
    | with_reducible refine Ok_slT ?_ | with_reducible refine Ok_comp ?_ | with_reducible refine Ok_seq ?_ | with_reducible refine Ok_rev ?_ | with_reducible refine Ok_rvT ?_ | with_reducible refine Ok_rvL ?_
    | with_reducible refine Ok_isN ?_ | with_reducible refine Ok_isNN ?_ | with_reducible refine Ok_eqI ?_ | with_reducible refine Ok_neI ?_ | with_reducible refine Ok_par ?_ | with_reducible refine Ok_asgT ?_
    | with_reducible refine Ok_dct ?_ | with_reducible refine Ok_okI ?_ | with_reducible refine Ok_bnd ?_
    | ((with_reducible refine Ok_ift ?_ ?_); (exact rfl)) | ((with_reducible refine Ok_iff ?_ ?_); (exact rfl))
    | refine Exists.intro _ (And.intro rfl ?_) | refine Exists.intro _ (Exists.intro _ (And.intro rfl (And.intro (show List.length _ ≤ _ by first | decide | simp) ?_))))
    refine Ok_mul (.inl (by omega)) ?_
    repeat' (first
    | ((with_reducible apply Ok_var); (exact rfl))
    | with_reducible refine Ok_cons ?_ | with_reducible refine Ok_nil ?_ | with_reducible refine Ok_asg ?_ | with_reducible refine Ok_ret ?_ | with_reducible refine Ok_sub ?_ | with_reducible refine Ok_ife ?_
    | with_reducible refine Ok_expr ?_ | with_reducible refine Go_nx ?_ | with_reducible refine Go_rt ?_ | with_reducible refine Ok_cst ?_ | with_reducible refine Ok_bin ?_ | with_reducible refine Ok_idx ?_
    | with_reducible refine Ok_cmp ?_ | with_reducible refine Ok_chn ?_ | with_reducible refine Ok_and ?_ | with_reducible refine Ok_or ?_ | with_reducible refine Ok_not ?_ | with_reducible refine Ok_blt ?_
    | with_reducible refine Ok_callE ?_ | with_reducible refine Ok_slc ?_ | with_reducible refine Ok_ifx ?_ | with_reducible refine Ok_neg ?_ | with_reducible refine Ok_esc ?_ | with_reducible refine Ok_esn ?_
    | with_reducible refine Ok_ono ?_ | with_reducible refine Ok_oye ?_ | with_reducible refine Ok_cno ?_ | with_reducible refine Ok_cye ?_ | with_reducible refine Ok_tup ?_ | with_reducible refine Ok_lst ?_
    | with_reducible refine Ok_toB ?_ | with_reducible refine Ok_isB ?_ | with_reducible refine Ok_lt ?_ | with_reducible refine Ok_le ?_ | with_reducible refine Ok_gt ?_ | with_reducible refine Ok_ge ?_
    | with_reducible refine Ok_add ?_ | with_reducible refine Ok_sb ?_ | with_reducible refine Ok_lenS ?_ | with_reducible refine Ok_lenT ?_ | with_reducible refine Ok_lenL ?_ | with_reducible refine Ok_min ?_
    | with_reducible refine Ok_max ?_ | with_reducible refine Ok_tuL ?_ | with_reducible refine Ok_liT ?_ | with_reducible refine Ok_isi ?_ | with_reducible refine Ok_allF ?_ | with_reducible refine Ok_allT ?_
    | with_reducible refine Ok_slT ?_ | with_reducible refine Ok_comp ?_ | with_reducible refine Ok_seq ?_ | with_reducible refine Ok_rev ?_ | with_reducible refine Ok_rvT ?_ | with_reducible refine Ok_rvL ?_
    | with_reducible refine Ok_isN ?_ | with_reducible refine Ok_isNN ?_ | with_reducible refine Ok_eqI ?_ | with_reducible refine Ok_neI ?_ | with_reducible refine Ok_par ?_ | with_reducible refine Ok_asgT ?_
    | with_reducible refine Ok_dct ?_ | with_reducible refine Ok_okI ?_ | with_reducible refine Ok_bnd ?_
    | ((with_reducible refine Ok_ift ?_ ?_); (exact rfl)) | ((with_reducible refine Ok_iff ?_ ?_); (exact rfl))
    | refine Exists.intro _ (And.intro rfl ?_) | refine Exists.intro _ (Exists.intro _ (And.intro rfl (And.intro (show List.length _ ≤ _ by first | decide | simp) ?_))))
    refine Ok_mul (.inr (by omega)) ?_
    repeat' (first
    | ((with_reducible apply Ok_var); (exact rfl))
    | with_reducible refine Ok_cons ?_ | with_reducible refine Ok_nil ?_ | with_reducible refine Ok_asg ?_ | with_reducible refine Ok_ret ?_ | with_reducible refine Ok_sub ?_ | with_reducible refine Ok_ife ?_
    | with_reducible refine Ok_expr ?_ | with_reducible refine Go_nx ?_ | with_reducible refine Go_rt ?_ | with_reducible refine Ok_cst ?_ | with_reducible refine Ok_bin ?_ | with_reducible refine Ok_idx ?_
    | with_reducible refine Ok_cmp ?_ | with_reducible refine Ok_chn ?_ | with_reducible refine Ok_and ?_ | with_reducible refine Ok_or ?_ | with_reducible refine Ok_not ?_ | with_reducible refine Ok_blt ?_
    | with_reducible refine Ok_callE ?_ | with_reducible refine Ok_slc ?_ | with_reducible refine Ok_ifx ?_ | with_reducible refine Ok_neg ?_ | with_reducible refine Ok_esc ?_ | with_reducible refine Ok_esn ?_
    | with_reducible refine Ok_ono ?_ | with_reducible refine Ok_oye ?_ | with_reducible refine Ok_cno ?_ | with_reducible refine Ok_cye ?_ | with_reducible refine Ok_tup ?_ | with_reducible refine Ok_lst ?_
    | with_reducible refine Ok_toB ?_ | with_reducible refine Ok_isB ?_ | with_reducible refine Ok_lt ?_ | with_reducible refine Ok_le ?_ | with_reducible refine Ok_gt ?_ | with_reducible refine Ok_ge ?_
    | with_reducible refine Ok_add ?_ | with_reducible refine Ok_sb ?_ | with_reducible refine Ok_lenS ?_ | with_reducible refine Ok_lenT ?_ | with_reducible refine Ok_lenL ?_ | with_reducible refine Ok_min ?_
    | with_reducible refine Ok_max ?_ | with_reducible refine Ok_tuL ?_ | with_reducible refine Ok_liT ?_ | with_reducible refine Ok_isi ?_ | with_reducible refine Ok_allF ?_ | with_reducible refine Ok_allT ?_
    | with_reducible refine Ok_slT ?_ | with_reducible refine Ok_comp ?_ | with_reducible refine Ok_seq ?_ | with_reducible refine Ok_rev ?_ | with_reducible refine Ok_rvT ?_ | with_reducible refine Ok_rvL ?_
    | with_reducible refine Ok_isN ?_ | with_reducible refine Ok_isNN ?_ | with_reducible refine Ok_eqI ?_ | with_reducible refine Ok_neI ?_ | with_reducible refine Ok_par ?_ | with_reducible refine Ok_asgT ?_
    | with_reducible refine Ok_dct ?_ | with_reducible refine Ok_okI ?_ | with_reducible refine Ok_bnd ?_
    | ((with_reducible refine Ok_ift ?_ ?_); (exact rfl)) | ((with_reducible refine Ok_iff ?_ ?_); (exact rfl))
    | refine Exists.intro _ (And.intro rfl ?_) | refine Exists.intro _ (Exists.intro _ (And.intro rfl (And.intro (show List.length _ ≤ _ by first | decide | simp) ?_))))
    refine Ok_mod (by omega) ?_
    repeat' (first
    | ((with_reducible apply Ok_var); (exact rfl))
    | with_reducible refine Ok_cons ?_ | with_reducible refine Ok_nil ?_ | with_reducible refine Ok_asg ?_ | with_reducible refine Ok_ret ?_ | with_reducible refine Ok_sub ?_ | with_reducible refine Ok_ife ?_
    | with_reducible refine Ok_expr ?_ | with_reducible refine Go_nx ?_ | with_reducible refine Go_rt ?_ | with_reducible refine Ok_cst ?_ | with_reducible refine Ok_bin ?_ | with_reducible refine Ok_idx ?_
    | with_reducible refine Ok_cmp ?_ | with_reducible refine Ok_chn ?_ | with_reducible refine Ok_and ?_ | with_reducible refine Ok_or ?_ | with_reducible refine Ok_not ?_ | with_reducible refine Ok_blt ?_
    | with_reducible refine Ok_callE ?_ | with_reducible refine Ok_slc ?_ | with_reducible refine Ok_ifx ?_ | with_reducible refine Ok_neg ?_ | with_reducible refine Ok_esc ?_ | with_reducible refine Ok_esn ?_
    | with_reducible refine Ok_ono ?_ | with_reducible refine Ok_oye ?_ | with_reducible refine Ok_cno ?_ | with_reducible refine Ok_cye ?_ | with_reducible refine Ok_tup ?_ | with_reducible refine Ok_lst ?_
    | with_reducible refine Ok_toB ?_ | with_reducible refine Ok_isB ?_ | with_reducible refine Ok_lt ?_ | with_reducible refine Ok_le ?_ | with_reducible refine Ok_gt ?_ | with_reducible refine Ok_ge ?_
    | with_reducible refine Ok_add ?_ | with_reducible refine Ok_sb ?_ | with_reducible refine Ok_lenS ?_ | with_reducible refine Ok_lenT ?_ | with_reducible refine Ok_lenL ?_ | with_reducible refine Ok_min ?_
    | with_reducible refine Ok_max ?_ | with_reducible refine Ok_tuL ?_ | with_reducible refine Ok_liT ?_ | with_reducible refine Ok_isi ?_ | with_reducible refine Ok_allF ?_ | with_reducible refine Ok_allT ?_
    | with_reducible refine Ok_slT ?_ | with_reducible refine Ok_comp ?_ | with_reducible refine Ok_seq ?_ | with_reducible refine Ok_rev ?_ | with_reducible refine Ok_rvT ?_ | with_reducible refine Ok_rvL ?_
    | with_reducible refine Ok_isN ?_ | with_reducible refine Ok_isNN ?_ | with_reducible refine Ok_eqI ?_ | with_reducible refine Ok_neI ?_ | with_reducible refine Ok_par ?_ | with_reducible refine Ok_asgT ?_
    | with_reducible refine Ok_dct ?_ | with_reducible refine Ok_okI ?_ | with_reducible refine Ok_bnd ?_
    | ((with_reducible refine Ok_ift ?_ ?_); (exact rfl)) | ((with_reducible refine Ok_iff ?_ ?_); (exact rfl))
    | refine Exists.intro _ (And.intro rfl ?_) | refine Exists.intro _ (Exists.intro _ (And.intro rfl (And.intro (show List.length _ ≤ _ by first | decide | simp) ?_))))
    refine Ok_mul (.inr (by omega)) ?_
    repeat' (first
    | ((with_reducible apply Ok_var); (exact rfl))
    | with_reducible refine Ok_cons ?_ | with_reducible refine Ok_nil ?_ | with_reducible refine Ok_asg ?_ | with_reducible refine Ok_ret ?_ | with_reducible refine Ok_sub ?_ | with_reducible refine Ok_ife ?_
    | with_reducible refine Ok_expr ?_ | with_reducible refine Go_nx ?_ | with_reducible refine Go_rt ?_ | with_reducible refine Ok_cst ?_ | with_reducible refine Ok_bin ?_ | with_reducible refine Ok_idx ?_
    | with_reducible refine Ok_cmp ?_ | with_reducible refine Ok_chn ?_ | with_reducible refine Ok_and ?_ | with_reducible refine Ok_or ?_ | with_reducible refine Ok_not ?_ | with_reducible refine Ok_blt ?_
    | with_reducible refine Ok_callE ?_ | with_reducible refine Ok_slc ?_ | with_reducible refine Ok_ifx ?_ | with_reducible refine Ok_neg ?_ | with_reducible refine Ok_esc ?_ | with_reducible refine Ok_esn ?_
    | with_reducible refine Ok_ono ?_ | with_reducible refine Ok_oye ?_ | with_reducible refine Ok_cno ?_ | with_reducible refine Ok_cye ?_ | with_reducible refine Ok_tup ?_ | with_reducible refine Ok_lst ?_
    | with_reducible refine Ok_toB ?_ | with_reducible refine Ok_isB ?_ | with_reducible refine Ok_lt ?_ | with_reducible refine Ok_le ?_ | with_reducible refine Ok_gt ?_ | with_reducible refine Ok_ge ?_
    | with_reducible refine Ok_add ?_ | with_reducible refine Ok_sb ?_ | with_reducible refine Ok_lenS ?_ | with_reducible refine Ok_lenT ?_ | with_reducible refine Ok_lenL ?_ | with_reducible refine Ok_min ?_
    | with_reducible refine Ok_max ?_ | with_reducible refine Ok_tuL ?_ | with_reducible refine Ok_liT ?_ | with_reducible refine Ok_isi ?_ | with_reducible refine Ok_allF ?_ | with_reducible refine Ok_allT ?_
    | with_reducible refine Ok_slT ?_ | with_reducible refine Ok_comp ?_ | with_reducible refine Ok_seq ?_ | with_reducible refine Ok_rev ?_ | with_reducible refine Ok_rvT ?_ | with_reducible refine Ok_rvL ?_
    | with_reducible refine Ok_isN ?_ | with_reducible refine Ok_isNN ?_ | with_reducible refine Ok_eqI ?_ | with_reducible refine Ok_neI ?_ | with_reducible refine Ok_par ?_ | with_reducible refine Ok_asgT ?_
    | with_reducible refine Ok_dct ?_ | with_reducible refine Ok_okI ?_ | with_reducible refine Ok_bnd ?_
    | ((with_reducible refine Ok_ift ?_ ?_); (exact rfl)) | ((with_reducible refine Ok_iff ?_ ?_); (exact rfl))
    | refine Exists.intro _ (And.intro rfl ?_) | refine Exists.intro _ (Exists.intro _ (And.intro rfl (And.intro (show List.length _ ≤ _ by first | decide | simp) ?_))))
    refine Ok_ixR (hq _ _ _) rfl ?_
    repeat' (first
    | ((with_reducible apply Ok_var); (exact rfl))
    | with_reducible refine Ok_cons ?_ | with_reducible refine Ok_nil ?_ | with_reducible refine Ok_asg ?_ | with_reducible refine Ok_ret ?_ | with_reducible refine Ok_sub ?_ | with_reducible refine Ok_ife ?_
    | with_reducible refine Ok_expr ?_ | with_reducible refine Go_nx ?_ | with_reducible refine Go_rt ?_ | with_reducible refine Ok_cst ?_ | with_reducible refine Ok_bin ?_ | with_reducible refine Ok_idx ?_
    | with_reducible refine Ok_cmp ?_ | with_reducible refine Ok_chn ?_ | with_reducible refine Ok_and ?_ | with_reducible refine Ok_or ?_ | with_reducible refine Ok_not ?_ | with_reducible refine Ok_blt ?_
    | with_reducible refine Ok_callE ?_ | with_reducible refine Ok_slc ?_ | with_reducible refine Ok_ifx ?_ | with_reducible refine Ok_neg ?_ | with_reducible refine Ok_esc ?_ | with_reducible refine Ok_esn ?_
    | with_reducible refine Ok_ono ?_ | with_reducible refine Ok_oye ?_ | with_reducible refine Ok_cno ?_ | with_reducible refine Ok_cye ?_ | with_reducible refine Ok_tup ?_ | with_reducible refine Ok_lst ?_
    | with_reducible refine Ok_toB ?_ | with_reducible refine Ok_isB ?_ | with_reducible refine Ok_lt ?_ | with_reducible refine Ok_le ?_ | with_reducible refine Ok_gt ?_ | with_reducible refine Ok_ge ?_
    | with_reducible refine Ok_add ?_ | with_reducible refine Ok_sb ?_ | with_reducible refine Ok_lenS ?_ | with_reducible refine Ok_lenT ?_ | with_reducible refine Ok_lenL ?_ | with_reducible refine Ok_min ?_
    | with_reducible refine Ok_max ?_ | with_reducible refine Ok_tuL ?_ | with_reducible refine Ok_liT ?_ | with_reducible refine Ok_isi ?_ | with_reducible refine Ok_allF ?_ | with_reducible refine Ok_allT ?_
    | with_reducible refine Ok_slT ?_ | with_reducible refine Ok_comp ?_ | with_reducible refine Ok_seq ?_ | with_reducible refine Ok_rev ?_ | with_reducible refine Ok_rvT ?_ | with_reducible refine Ok_rvL ?_
    | with_reducible refine Ok_isN ?_ | with_reducible refine Ok_isNN ?_ | with_reducible refine Ok_eqI ?_ | with_reducible refine Ok_neI ?_ | with_reducible refine Ok_par ?_ | with_reducible refine Ok_asgT ?_
    | with_reducible refine Ok_dct ?_ | with_reducible refine Ok_okI ?_ | with_reducible refine Ok_bnd ?_
    | ((with_reducible refine Ok_ift ?_ ?_); (exact rfl)) | ((with_reducible refine Ok_iff ?_ ?_); (exact rfl))
    | refine Exists.intro _ (And.intro rfl ?_) | refine Exists.intro _ (Exists.intro _ (And.intro rfl (And.intro (show List.length _ ≤ _ by first | decide | simp) ?_))))
    refine Ok_mul (.inl (by omega)) ?_
    repeat' (first
    | ((with_reducible apply Ok_var); (exact rfl))
    | with_reducible refine Ok_cons ?_ | with_reducible refine Ok_nil ?_ | with_reducible refine Ok_asg ?_ | with_reducible refine Ok_ret ?_ | with_reducible refine Ok_sub ?_ | with_reducible refine Ok_ife ?_
    | with_reducible refine Ok_expr ?_ | with_reducible refine Go_nx ?_ | with_reducible refine Go_rt ?_ | with_reducible refine Ok_cst ?_ | with_reducible refine Ok_bin ?_ | with_reducible refine Ok_idx ?_
    | with_reducible refine Ok_cmp ?_ | with_reducible refine Ok_chn ?_ | with_reducible refine Ok_and ?_ | with_reducible refine Ok_or ?_ | with_reducible refine Ok_not ?_ | with_reducible refine Ok_blt ?_
    | with_reducible refine Ok_callE ?_ | with_reducible refine Ok_slc ?_ | with_reducible refine Ok_ifx ?_ | with_reducible refine Ok_neg ?_ | with_reducible refine Ok_esc ?_ | with_reducible refine Ok_esn ?_
    | with_reducible refine Ok_ono ?_ | with_reducible refine Ok_oye ?_ | with_reducible refine Ok_cno ?_ | with_reducible refine Ok_cye ?_ | with_reducible refine Ok_tup ?_ | with_reducible refine Ok_lst ?_
    | with_reducible refine Ok_toB ?_ | with_reducible refine Ok_isB ?_ | with_reducible refine Ok_lt ?_ | with_reducible refine Ok_le ?_ | with_reducible refine Ok_gt ?_ | with_reducible refine Ok_ge ?_
    | with_reducible refine Ok_add ?_ | with_reducible refine Ok_sb ?_ | with_reducible refine Ok_lenS ?_ | with_reducible refine Ok_lenT ?_ | with_reducible refine Ok_lenL ?_ | with_reducible refine Ok_min ?_
    | with_reducible refine Ok_max ?_ | with_reducible refine Ok_tuL ?_ | with_reducible refine Ok_liT ?_ | with_reducible refine Ok_isi ?_ | with_reducible refine Ok_allF ?_ | with_reducible refine Ok_allT ?_
    | with_reducible refine Ok_slT ?_ | with_reducible refine Ok_comp ?_ | with_reducible refine Ok_seq ?_ | with_reducible refine Ok_rev ?_ | with_reducible refine Ok_rvT ?_ | with_reducible refine Ok_rvL ?_
    | with_reducible refine Ok_isN ?_ | with_reducible refine Ok_isNN ?_ | with_reducible refine Ok_eqI ?_ | with_reducible refine Ok_neI ?_ | with_reducible refine Ok_par ?_ | with_reducible refine Ok_asgT ?_
    | with_reducible refine Ok_dct ?_ | with_reducible refine Ok_okI ?_ | with_reducible refine Ok_bnd ?_
    | ((with_reducible refine Ok_ift ?_ ?_); (exact rfl)) | ((with_reducible refine Ok_iff ?_ ?_); (exact rfl))
    | refine Exists.intro _ (And.intro rfl ?_) | refine Exists.intro _ (Exists.intro _ (And.intro rfl (And.intro (show List.length _ ≤ _ by first | decide | simp) ?_))))
    refine Ok_mod (by omega) ?_
    repeat' (first
    | ((with_reducible apply Ok_var); (exact rfl))
    | with_reducible refine Ok_cons ?_ | with_reducible refine Ok_nil ?_ | with_reducible refine Ok_asg ?_ | with_reducible refine Ok_ret ?_ | with_reducible refine Ok_sub ?_ | with_reducible refine Ok_ife ?_
    | with_reducible refine Ok_expr ?_ | with_reducible refine Go_nx ?_ | with_reducible refine Go_rt ?_ | with_reducible refine Ok_cst ?_ | with_reducible refine Ok_bin ?_ | with_reducible refine Ok_idx ?_
    | with_reducible refine Ok_cmp ?_ | with_reducible refine Ok_chn ?_ | with_reducible refine Ok_and ?_ | with_reducible refine Ok_or ?_ | with_reducible refine Ok_not ?_ | with_reducible refine Ok_blt ?_
    | with_reducible refine Ok_callE ?_ | with_reducible refine Ok_slc ?_ | with_reducible refine Ok_ifx ?_ | with_reducible refine Ok_neg ?_ | with_reducible refine Ok_esc ?_ | with_reducible refine Ok_esn ?_
    | with_reducible refine Ok_ono ?_ | with_reducible refine Ok_oye ?_ | with_reducible refine Ok_cno ?_ | with_reducible refine Ok_cye ?_ | with_reducible refine Ok_tup ?_ | with_reducible refine Ok_lst ?_
    | with_reducible refine Ok_toB ?_ | with_reducible refine Ok_isB ?_ | with_reducible refine Ok_lt ?_ | with_reducible refine Ok_le ?_ | with_reducible refine Ok_gt ?_ | with_reducible refine Ok_ge ?_
    | with_reducible refine Ok_add ?_ | with_reducible refine Ok_sb ?_ | with_reducible refine Ok_lenS ?_ | with_reducible refine Ok_lenT ?_ | with_reducible refine Ok_lenL ?_ | with_reducible refine Ok_min ?_
    | with_reducible refine Ok_max ?_ | with_reducible refine Ok_tuL ?_ | with_reducible refine Ok_liT ?_ | with_reducible refine Ok_isi ?_ | with_reducible refine Ok_allF ?_ | with_reducible refine Ok_allT ?_
    | with_reducible refine Ok_slT ?_ | with_reducible refine Ok_comp ?_ | with_reducible refine Ok_seq ?_ | with_reducible refine Ok_rev ?_ | with_reducible refine Ok_rvT ?_ | with_reducible refine Ok_rvL ?_
    | with_reducible refine Ok_isN ?_ | with_reducible refine Ok_isNN ?_ | with_reducible refine Ok_eqI ?_ | with_reducible refine Ok_neI ?_ | with_reducible refine Ok_par ?_ | with_reducible refine Ok_asgT ?_
    | with_reducible refine Ok_dct ?_ | with_reducible refine Ok_okI ?_ | with_reducible refine Ok_bnd ?_
    | ((with_reducible refine Ok_ift ?_ ?_); (exact rfl)) | ((with_reducible refine Ok_iff ?_ ?_); (exact rfl))
    | refine Exists.intro _ (And.intro rfl ?_) | refine Exists.intro _ (Exists.intro _ (And.intro rfl (And.intro (show List.length _ ≤ _ by first | decide | simp) ?_))))
    refine Ok_mul (.inr (by omega)) ?_
    repeat' (first
    | ((with_reducible apply Ok_var); (exact rfl))
    | with_reducible refine Ok_cons ?_ | with_reducible refine Ok_nil ?_ | with_reducible refine Ok_asg ?_ | with_reducible refine Ok_ret ?_ | with_reducible refine Ok_sub ?_ | with_reducible refine Ok_ife ?_
    | with_reducible refine Ok_expr ?_ | with_reducible refine Go_nx ?_ | with_reducible refine Go_rt ?_ | with_reducible refine Ok_cst ?_ | with_reducible refine Ok_bin ?_ | with_reducible refine Ok_idx ?_
    | with_reducible refine Ok_cmp ?_ | with_reducible refine Ok_chn ?_ | with_reducible refine Ok_and ?_ | with_reducible refine Ok_or ?_ | with_reducible refine Ok_not ?_ | with_reducible refine Ok_blt ?_
    | with_reducible refine Ok_callE ?_ | with_reducible refine Ok_slc ?_ | with_reducible refine Ok_ifx ?_ | with_reducible refine Ok_neg ?_ | with_reducible refine Ok_esc ?_ | with_reducible refine Ok_esn ?_
    | with_reducible refine Ok_ono ?_ | with_reducible refine Ok_oye ?_ | with_reducible refine Ok_cno ?_ | with_reducible refine Ok_cye ?_ | with_reducible refine Ok_tup ?_ | with_reducible refine Ok_lst ?_
    | with_reducible refine Ok_toB ?_ | with_reducible refine Ok_isB ?_ | with_reducible refine Ok_lt ?_ | with_reducible refine Ok_le ?_ | with_reducible refine Ok_gt ?_ | with_reducible refine Ok_ge ?_
    | with_reducible refine Ok_add ?_ | with_reducible refine Ok_sb ?_ | with_reducible refine Ok_lenS ?_ | with_reducible refine Ok_lenT ?_ | with_reducible refine Ok_lenL ?_ | with_reducible refine Ok_min ?_
    | with_reducible refine Ok_max ?_ | with_reducible refine Ok_tuL ?_ | with_reducible refine Ok_liT ?_ | with_reducible refine Ok_isi ?_ | with_reducible refine Ok_allF ?_ | with_reducible refine Ok_allT ?_
    | with_reducible refine Ok_slT ?_ | with_reducible refine Ok_comp ?_ | with_reducible refine Ok_seq ?_ | with_reducible refine Ok_rev ?_ | with_reducible refine Ok_rvT ?_ | with_reducible refine Ok_rvL ?_
    | with_reducible refine Ok_isN ?_ | with_reducible refine Ok_isNN ?_ | with_reducible refine Ok_eqI ?_ | with_reducible refine Ok_neI ?_ | with_reducible refine Ok_par ?_ | with_reducible refine Ok_asgT ?_
    | with_reducible refine Ok_dct ?_ | with_reducible refine Ok_okI ?_ | with_reducible refine Ok_bnd ?_
    | ((with_reducible refine Ok_ift ?_ ?_); (exact rfl)) | ((with_reducible refine Ok_iff ?_ ?_); (exact rfl))
    | refine Exists.intro _ (And.intro rfl ?_) | refine Exists.intro _ (Exists.intro _ (And.intro rfl (And.intro (show List.length _ ≤ _ by first | decide | simp) ?_))))
    refine Ok_mod (by omega) ?_
    repeat' (first
    | ((with_reducible apply Ok_var); (exact rfl))
    | with_reducible refine Ok_cons ?_ | with_reducible refine Ok_nil ?_ | with_reducible refine Ok_asg ?_ | with_reducible refine Ok_ret ?_ | with_reducible refine Ok_sub ?_ | with_reducible refine Ok_ife ?_
    | with_reducible refine Ok_expr ?_ | with_reducible refine Go_nx ?_ | with_reducible refine Go_rt ?_ | with_reducible refine Ok_cst ?_ | with_reducible refine Ok_bin ?_ | with_reducible refine Ok_idx ?_
    | with_reducible refine Ok_cmp ?_ | with_reducible refine Ok_chn ?_ | with_reducible refine Ok_and ?_ | with_reducible refine Ok_or ?_ | with_reducible refine Ok_not ?_ | with_reducible refine Ok_blt ?_
    | with_reducible refine Ok_callE ?_ | with_reducible refine Ok_slc ?_ | with_reducible refine Ok_ifx ?_ | with_reducible refine Ok_neg ?_ | with_reducible refine Ok_esc ?_ | with_reducible refine Ok_esn ?_
    | with_reducible refine Ok_ono ?_ | with_reducible refine Ok_oye ?_ | with_reducible refine Ok_cno ?_ | with_reducible refine Ok_cye ?_ | with_reducible refine Ok_tup ?_ | with_reducible refine Ok_lst ?_
    | with_reducible refine Ok_toB ?_ | with_reducible refine Ok_isB ?_ | with_reducible refine Ok_lt ?_ | with_reducible refine Ok_le ?_ | with_reducible refine Ok_gt ?_ | with_reducible refine Ok_ge ?_
    | with_reducible refine Ok_add ?_ | with_reducible refine Ok_sb ?_ | with_reducible refine Ok_lenS ?_ | with_reducible refine Ok_lenT ?_ | with_reducible refine Ok_lenL ?_ | with_reducible refine Ok_min ?_
    | with_reducible refine Ok_max ?_ | with_reducible refine Ok_tuL ?_ | with_reducible refine Ok_liT ?_ | with_reducible refine Ok_isi ?_ | with_reducible refine Ok_allF ?_ | with_reducible refine Ok_allT ?_
    | with_reducible refine Ok_slT ?_ | with_reducible refine Ok_comp ?_ | with_reducible refine Ok_seq ?_ | with_reducible refine Ok_rev ?_ | with_reducible refine Ok_rvT ?_ | with_reducible refine Ok_rvL ?_
    | with_reducible refine Ok_isN ?_ | with_reducible refine Ok_isNN ?_ | with_reducible refine Ok_eqI ?_ | with_reducible refine Ok_neI ?_ | with_reducible refine Ok_par ?_ | with_reducible refine Ok_asgT ?_
    | with_reducible refine Ok_dct ?_ | with_reducible refine Ok_okI ?_ | with_reducible refine Ok_bnd ?_
    | ((with_reducible refine Ok_ift ?_ ?_); (exact rfl)) | ((with_reducible refine Ok_iff ?_ ?_); (exact rfl))
    | refine Exists.intro _ (And.intro rfl ?_) | refine Exists.intro _ (Exists.intro _ (And.intro rfl (And.intro (show List.length _ ≤ _ by first | decide | simp) ?_))))
    refine Ok_fdv (by omega) ?_
    repeat' (first
    | ((with_reducible apply Ok_var); (exact rfl))
    | with_reducible refine Ok_cons ?_ | with_reducible refine Ok_nil ?_ | with_reducible refine Ok_asg ?_ | with_reducible refine Ok_ret ?_ | with_reducible refine Ok_sub ?_ | with_reducible refine Ok_ife ?_
    | with_reducible refine Ok_expr ?_ | with_reducible refine Go_nx ?_ | with_reducible refine Go_rt ?_ | with_reducible refine Ok_cst ?_ | with_reducible refine Ok_bin ?_ | with_reducible refine Ok_idx ?_
    | with_reducible refine Ok_cmp ?_ | with_reducible refine Ok_chn ?_ | with_reducible refine Ok_and ?_ | with_reducible refine Ok_or ?_ | with_reducible refine Ok_not ?_ | with_reducible refine Ok_blt ?_
    | with_reducible refine Ok_callE ?_ | with_reducible refine Ok_slc ?_ | with_reducible refine Ok_ifx ?_ | with_reducible refine Ok_neg ?_ | with_reducible refine Ok_esc ?_ | with_reducible refine Ok_esn ?_
    | with_reducible refine Ok_ono ?_ | with_reducible refine Ok_oye ?_ | with_reducible refine Ok_cno ?_ | with_reducible refine Ok_cye ?_ | with_reducible refine Ok_tup ?_ | with_reducible refine Ok_lst ?_
    | with_reducible refine Ok_toB ?_ | with_reducible refine Ok_isB ?_ | with_reducible refine Ok_lt ?_ | with_reducible refine Ok_le ?_ | with_reducible refine Ok_gt ?_ | with_reducible refine Ok_ge ?_
    | with_reducible refine Ok_add ?_ | with_reducible refine Ok_sb ?_ | with_reducible refine Ok_lenS ?_ | with_reducible refine Ok_lenT ?_ | with_reducible refine Ok_lenL ?_ | with_reducible refine Ok_min ?_
    | with_reducible refine Ok_max ?_ | with_reducible refine Ok_tuL ?_ | with_reducible refine Ok_liT ?_ | with_reducible refine Ok_isi ?_ | with_reducible refine Ok_allF ?_ | with_reducible refine Ok_allT ?_
    | with_reducible refine Ok_slT ?_ | with_reducible refine Ok_comp ?_ | with_reducible refine Ok_seq ?_ | with_reducible refine Ok_rev ?_ | with_reducible refine Ok_rvT ?_ | with_reducible refine Ok_rvL ?_
    | with_reducible refine Ok_isN ?_ | with_reducible refine Ok_isNN ?_ | with_reducible refine Ok_eqI ?_ | with_reducible refine Ok_neI ?_ | with_reducible refine Ok_par ?_ | with_reducible refine Ok_asgT ?_
    | with_reducible refine Ok_dct ?_ | with_reducible refine Ok_okI ?_ | with_reducible refine Ok_bnd ?_
    | ((with_reducible refine Ok_ift ?_ ?_); (exact rfl)) | ((with_reducible refine Ok_iff ?_ ?_); (exact rfl))
    | refine Exists.intro _ (And.intro rfl ?_) | refine Exists.intro _ (Exists.intro _ (And.intro rfl (And.intro (show List.length _ ≤ _ by first | decide | simp) ?_))))
    refine Ok_mod h0 ?_
    repeat' (first
    | ((with_reducible apply Ok_var); (exact rfl))
    | with_reducible refine Ok_cons ?_ | with_reducible refine Ok_nil ?_ | with_reducible refine Ok_asg ?_ | with_reducible refine Ok_ret ?_ | with_reducible refine Ok_sub ?_ | with_reducible refine Ok_ife ?_
    | with_reducible refine Ok_expr ?_ | with_reducible refine Go_nx ?_ | with_reducible refine Go_rt ?_ | with_reducible refine Ok_cst ?_ | with_reducible refine Ok_bin ?_ | with_reducible refine Ok_idx ?_
    | with_reducible refine Ok_cmp ?_ | with_reducible refine Ok_chn ?_ | with_reducible refine Ok_and ?_ | with_reducible refine Ok_or ?_ | with_reducible refine Ok_not ?_ | with_reducible refine Ok_blt ?_
    | with_reducible refine Ok_callE ?_ | with_reducible refine Ok_slc ?_ | with_reducible refine Ok_ifx ?_ | with_reducible refine Ok_neg ?_ | with_reducible refine Ok_esc ?_ | with_reducible refine Ok_esn ?_
    | with_reducible refine Ok_ono ?_ | with_reducible refine Ok_oye ?_ | with_reducible refine Ok_cno ?_ | with_reducible refine Ok_cye ?_ | with_reducible refine Ok_tup ?_ | with_reducible refine Ok_lst ?_
    | with_reducible refine Ok_toB ?_ | with_reducible refine Ok_isB ?_ | with_reducible refine Ok_lt ?_ | with_reducible refine Ok_le ?_ | with_reducible refine Ok_gt ?_ | with_reducible refine Ok_ge ?_
    | with_reducible refine Ok_add ?_ | with_reducible refine Ok_sb ?_ | with_reducible refine Ok_lenS ?_ | with_reducible refine Ok_lenT ?_ | with_reducible refine Ok_lenL ?_ | with_reducible refine Ok_min ?_
    | with_reducible refine Ok_max ?_ | with_reducible refine Ok_tuL ?_ | with_reducible refine Ok_liT ?_ | with_reducible refine Ok_isi ?_ | with_reducible refine Ok_allF ?_ | with_reducible refine Ok_allT ?_
    | with_reducible refine Ok_slT ?_ | with_reducible refine Ok_comp ?_ | with_reducible refine Ok_seq ?_ | with_reducible refine Ok_rev ?_ | with_reducible refine Ok_rvT ?_ | with_reducible refine Ok_rvL ?_
    | with_reducible refine Ok_isN ?_ | with_reducible refine Ok_isNN ?_ | with_reducible refine Ok_eqI ?_ | with_reducible refine Ok_neI ?_ | with_reducible refine Ok_par ?_ | with_reducible refine Ok_asgT ?_
    | with_reducible refine Ok_dct ?_ | with_reducible refine Ok_okI ?_ | with_reducible refine Ok_bnd ?_
    | ((with_reducible refine Ok_ift ?_ ?_); (exact rfl)) | ((with_reducible refine Ok_iff ?_ ?_); (exact rfl))
    | refine Exists.intro _ (And.intro rfl ?_) | refine Exists.intro _ (Exists.intro _ (And.intro rfl (And.intro (show List.length _ ≤ _ by first | decide | simp) ?_))))
    refine fin_p (Nat.le_of_eq List.length_set) ?_
    exact ⟨_, rfl, Int.emod_nonneg _ (by omega), Int.emod_lt_of_pos _ h0, hM.put _ _ _ (by omega) (by omega)⟩

theorem atI_in {α : Type} {xs : List α} {j : Int} (h0 : 0 ≤ j) (h1 : j < xs.length) : ∃ x, L2.atI xs j = some x ∧ x ∈ xs := by
  have h2 : j.toNat < xs.length := by omega
  refine ⟨xs[j.toNat], ?_, List.getElem_mem h2⟩
  have h3 := L2.atI_nat (List.getElem?_eq_getElem h2)
  rwa [show ((j.toNat : Nat) : Int) = j by omega] at h3
theorem cell_ok (hT : T 3 = some ⟨2, 2, true, bCell⟩) {M : Mem} {ns : List Int} {j : Int} (h0 : 0 ≤ j) :
    Ok (run T fuel (k + 1) 3 [.scr ns, .p (.int j)] M) (fun d N => ∃ r : Int, d = .p (.int r) ∧ N = M) := by
  refine Ok_call hT rfl ?_
  simp only [bCell, enter, List.map_cons, List.map_nil, List.replicate, List.cons_append, List.nil_append, Nat.sub_self, List.append_nil]
  repeat' (first
    | ((with_reducible apply Ok_var); (exact rfl))
    | with_reducible refine Ok_cons ?_ | with_reducible refine Ok_nil ?_ | with_reducible refine Ok_asg ?_ | with_reducible refine Ok_ret ?_ | with_reducible refine Ok_sub ?_ | with_reducible refine Ok_ife ?_
    | with_reducible refine Ok_expr ?_ | with_reducible refine Go_nx ?_ | with_reducible refine Go_rt ?_ | with_reducible refine Ok_cst ?_ | with_reducible refine Ok_bin ?_ | with_reducible refine Ok_idx ?_
    | with_reducible refine Ok_cmp ?_ | with_reducible refine Ok_chn ?_ | with_reducible refine Ok_and ?_ | with_reducible refine Ok_or ?_ | with_reducible refine Ok_not ?_ | with_reducible refine Ok_blt ?_
    | with_reducible refine Ok_callE ?_ | with_reducible refine Ok_slc ?_ | with_reducible refine Ok_ifx ?_ | with_reducible refine Ok_neg ?_ | with_reducible refine Ok_esc ?_ | with_reducible refine Ok_esn ?_
    | with_reducible refine Ok_ono ?_ | with_reducible refine Ok_oye ?_ | with_reducible refine Ok_cno ?_ | with_reducible refine Ok_cye ?_ | with_reducible refine Ok_tup ?_ | with_reducible refine Ok_lst ?_
    | with_reducible refine Ok_toB ?_ | with_reducible refine Ok_isB ?_ | with_reducible refine Ok_lt ?_ | with_reducible refine Ok_le ?_ | with_reducible refine Ok_gt ?_ | with_reducible refine Ok_ge ?_
    | with_reducible refine Ok_add ?_ | with_reducible refine Ok_sb ?_ | with_reducible refine Ok_lenS ?_ | with_reducible refine Ok_lenT ?_ | with_reducible refine Ok_lenL ?_ | with_reducible refine Ok_min ?_
    | with_reducible refine Ok_max ?_ | with_reducible refine Ok_tuL ?_ | with_reducible refine Ok_liT ?_ | with_reducible refine Ok_isi ?_ | with_reducible refine Ok_allF ?_ | with_reducible refine Ok_allT ?_
    | with_reducible refine Ok_slT ?_ | with_reducible refine Ok_comp ?_ | with_reducible refine Ok_seq ?_ | with_reducible refine Ok_rev ?_ | with_reducible refine Ok_rvT ?_ | with_reducible refine Ok_rvL ?_
    | with_reducible refine Ok_isN ?_ | with_reducible refine Ok_isNN ?_ | with_reducible refine Ok_eqI ?_ | with_reducible refine Ok_neI ?_ | with_reducible refine Ok_par ?_ | with_reducible refine Ok_asgT ?_
    | with_reducible refine Ok_dct ?_ | with_reducible refine Ok_okI ?_ | with_reducible refine Ok_bnd ?_
    | ((with_reducible refine Ok_ift ?_ ?_); (exact rfl)) | ((with_reducible refine Ok_iff ?_ ?_); (exact rfl))
    | refine Exists.intro _ (And.intro rfl ?_) | refine Exists.intro _ (Exists.intro _ (And.intro rfl (And.intro (show List.length _ ≤ _ by first | decide | simp) ?_))))
  refine Ok_if (fun ha => ?_) (fun ha => ?_)
  · obtain ⟨x, hx, _⟩ := atI_in h0 (of_decide_eq_true ha)
    repeat' (first
    | ((with_reducible apply Ok_var); (exact rfl))
    | with_reducible refine Ok_cons ?_ | with_reducible refine Ok_nil ?_ | with_reducible refine Ok_asg ?_ | with_reducible refine Ok_ret ?_ | with_reducible refine Ok_sub ?_ | with_reducible refine Ok_ife ?_
    | with_reducible refine Ok_expr ?_ | with_reducible refine Go_nx ?_ | with_reducible refine Go_rt ?_ | with_reducible refine Ok_cst ?_ | with_reducible refine Ok_bin ?_ | with_reducible refine Ok_idx ?_
    | with_reducible refine Ok_cmp ?_ | with_reducible refine Ok_chn ?_ | with_reducible refine Ok_and ?_ | with_reducible refine Ok_or ?_ | with_reducible refine Ok_not ?_ | with_reducible refine Ok_blt ?_
    | with_reducible refine Ok_callE ?_ | with_reducible refine Ok_slc ?_ | with_reducible refine Ok_ifx ?_ | with_reducible refine Ok_neg ?_ | with_reducible refine Ok_esc ?_ | with_reducible refine Ok_esn ?_
    | with_reducible refine Ok_ono ?_ | with_reducible refine Ok_oye ?_ | with_reducible refine Ok_cno ?_ | with_reducible refine Ok_cye ?_ | with_reducible refine Ok_tup ?_ | with_reducible refine Ok_lst ?_
    | with_reducible refine Ok_toB ?_ | with_reducible refine Ok_isB ?_ | with_reducible refine Ok_lt ?_ | with_reducible refine Ok_le ?_ | with_reducible refine Ok_gt ?_ | with_reducible refine Ok_ge ?_
    | with_reducible refine Ok_add ?_ | with_reducible refine Ok_sb ?_ | with_reducible refine Ok_lenS ?_ | with_reducible refine Ok_lenT ?_ | with_reducible refine Ok_lenL ?_ | with_reducible refine Ok_min ?_
    | with_reducible refine Ok_max ?_ | with_reducible refine Ok_tuL ?_ | with_reducible refine Ok_liT ?_ | with_reducible refine Ok_isi ?_ | with_reducible refine Ok_allF ?_ | with_reducible refine Ok_allT ?_
    | with_reducible refine Ok_slT ?_ | with_reducible refine Ok_comp ?_ | with_reducible refine Ok_seq ?_ | with_reducible refine Ok_rev ?_ | with_reducible refine Ok_rvT ?_ | with_reducible refine Ok_rvL ?_
    | with_reducible refine Ok_isN ?_ | with_reducible refine Ok_isNN ?_ | with_reducible refine Ok_eqI ?_ | with_reducible refine Ok_neI ?_ | with_reducible refine Ok_par ?_ | with_reducible refine Ok_asgT ?_
    | with_reducible refine Ok_dct ?_ | with_reducible refine Ok_okI ?_ | with_reducible refine Ok_bnd ?_
    | ((with_reducible refine Ok_ift ?_ ?_); (exact rfl)) | ((with_reducible refine Ok_iff ?_ ?_); (exact rfl))
    | refine Exists.intro _ (And.intro rfl ?_) | refine Exists.intro _ (Exists.intro _ (And.intro rfl (And.intro (show List.length _ ≤ _ by first | decide | simp) ?_))))
    refine Ok_ixS hx ?_
    repeat' (first
    | ((with_reducible apply Ok_var); (exact rfl))
    | with_reducible refine Ok_cons ?_ | with_reducible refine Ok_nil ?_ | with_reducible refine Ok_asg ?_ | with_reducible refine Ok_ret ?_ | with_reducible refine Ok_sub ?_ | with_reducible refine Ok_ife ?_
    | with_reducible refine Ok_expr ?_ | with_reducible refine Go_nx ?_ | with_reducible refine Go_rt ?_ | with_reducible refine Ok_cst ?_ | with_reducible refine Ok_bin ?_ | with_reducible refine Ok_idx ?_
    | with_reducible refine Ok_cmp ?_ | with_reducible refine Ok_chn ?_ | with_reducible refine Ok_and ?_ | with_reducible refine Ok_or ?_ | with_reducible refine Ok_not ?_ | with_reducible refine Ok_blt ?_
    | with_reducible refine Ok_callE ?_ | with_reducible refine Ok_slc ?_ | with_reducible refine Ok_ifx ?_ | with_reducible refine Ok_neg ?_ | with_reducible refine Ok_esc ?_ | with_reducible refine Ok_esn ?_
    | with_reducible refine Ok_ono ?_ | with_reducible refine Ok_oye ?_ | with_reducible refine Ok_cno ?_ | with_reducible refine Ok_cye ?_ | with_reducible refine Ok_tup ?_ | with_reducible refine Ok_lst ?_
    | with_reducible refine Ok_toB ?_ | with_reducible refine Ok_isB ?_ | with_reducible refine Ok_lt ?_ | with_reducible refine Ok_le ?_ | with_reducible refine Ok_gt ?_ | with_reducible refine Ok_ge ?_
    | with_reducible refine Ok_add ?_ | with_reducible refine Ok_sb ?_ | with_reducible refine Ok_lenS ?_ | with_reducible refine Ok_lenT ?_ | with_reducible refine Ok_lenL ?_ | with_reducible refine Ok_min ?_
    | with_reducible refine Ok_max ?_ | with_reducible refine Ok_tuL ?_ | with_reducible refine Ok_liT ?_ | with_reducible refine Ok_isi ?_ | with_reducible refine Ok_allF ?_ | with_reducible refine Ok_allT ?_
    | with_reducible refine Ok_slT ?_ | with_reducible refine Ok_comp ?_ | with_reducible refine Ok_seq ?_ | with_reducible refine Ok_rev ?_ | with_reducible refine Ok_rvT ?_ | with_reducible refine Ok_rvL ?_
    | with_reducible refine Ok_isN ?_ | with_reducible refine Ok_isNN ?_ | with_reducible refine Ok_eqI ?_ | with_reducible refine Ok_neI ?_ | with_reducible refine Ok_par ?_ | with_reducible refine Ok_asgT ?_
    | with_reducible refine Ok_dct ?_ | with_reducible refine Ok_okI ?_ | with_reducible refine Ok_bnd ?_
    | ((with_reducible refine Ok_ift ?_ ?_); (exact rfl)) | ((with_reducible refine Ok_iff ?_ ?_); (exact rfl))
    | refine Exists.intro _ (And.intro rfl ?_) | refine Exists.intro _ (Exists.intro _ (And.intro rfl (And.intro (show List.length _ ≤ _ by first | decide | simp) ?_))))
    refine fin_p (Nat.le_refl _) ?_
    exact ⟨_, rfl, rfl⟩
  · repeat' (first
    | ((with_reducible apply Ok_var); (exact rfl))
    | with_reducible refine Ok_cons ?_ | with_reducible refine Ok_nil ?_ | with_reducible refine Ok_asg ?_ | with_reducible refine Ok_ret ?_ | with_reducible refine Ok_sub ?_ | with_reducible refine Ok_ife ?_
    | with_reducible refine Ok_expr ?_ | with_reducible refine Go_nx ?_ | with_reducible refine Go_rt ?_ | with_reducible refine Ok_cst ?_ | with_reducible refine Ok_bin ?_ | with_reducible refine Ok_idx ?_
    | with_reducible refine Ok_cmp ?_ | with_reducible refine Ok_chn ?_ | with_reducible refine Ok_and ?_ | with_reducible refine Ok_or ?_ | with_reducible refine Ok_not ?_ | with_reducible refine Ok_blt ?_
    | with_reducible refine Ok_callE ?_ | with_reducible refine Ok_slc ?_ | with_reducible refine Ok_ifx ?_ | with_reducible refine Ok_neg ?_ | with_reducible refine Ok_esc ?_ | with_reducible refine Ok_esn ?_
    | with_reducible refine Ok_ono ?_ | with_reducible refine Ok_oye ?_ | with_reducible refine Ok_cno ?_ | with_reducible refine Ok_cye ?_ | with_reducible refine Ok_tup ?_ | with_reducible refine Ok_lst ?_
    | with_reducible refine Ok_toB ?_ | with_reducible refine Ok_isB ?_ | with_reducible refine Ok_lt ?_ | with_reducible refine Ok_le ?_ | with_reducible refine Ok_gt ?_ | with_reducible refine Ok_ge ?_
    | with_reducible refine Ok_add ?_ | with_reducible refine Ok_sb ?_ | with_reducible refine Ok_lenS ?_ | with_reducible refine Ok_lenT ?_ | with_reducible refine Ok_lenL ?_ | with_reducible refine Ok_min ?_
    | with_reducible refine Ok_max ?_ | with_reducible refine Ok_tuL ?_ | with_reducible refine Ok_liT ?_ | with_reducible refine Ok_isi ?_ | with_reducible refine Ok_allF ?_ | with_reducible refine Ok_allT ?_
    | with_reducible refine Ok_slT ?_ | with_reducible refine Ok_comp ?_ | with_reducible refine Ok_seq ?_ | with_reducible refine Ok_rev ?_ | with_reducible refine Ok_rvT ?_ | with_reducible refine Ok_rvL ?_
    | with_reducible refine Ok_isN ?_ | with_reducible refine Ok_isNN ?_ | with_reducible refine Ok_eqI ?_ | with_reducible refine Ok_neI ?_ | with_reducible refine Ok_par ?_ | with_reducible refine Ok_asgT ?_
    | with_reducible refine Ok_dct ?_ | with_reducible refine Ok_okI ?_ | with_reducible refine Ok_bnd ?_
    | ((with_reducible refine Ok_ift ?_ ?_); (exact rfl)) | ((with_reducible refine Ok_iff ?_ ?_); (exact rfl))
    | refine Exists.intro _ (And.intro rfl ?_) | refine Exists.intro _ (Exists.intro _ (And.intro rfl (And.intro (show List.length _ ≤ _ by first | decide | simp) ?_))))
    refine fin_p (Nat.le_refl _) ?_
    exact ⟨_, rfl, rfl⟩
theorem pen_ok (hT : T 4 = some ⟨1, 1, false, bPen⟩) {M : Mem} {j : Int} :
    Ok (run T fuel (k + 1) 4 [.p (.int j)] M) (fun d N => d = .ref M.length ∧ ∃ x, N = M ++ [x] ∧ PenS N M.length 0 N) := by
  refine Ok_call hT rfl ?_
  simp only [bPen, enter, List.map_cons, List.map_nil, List.replicate, List.cons_append, List.nil_append, Nat.sub_self, List.append_nil]
  repeat' (first
    | ((with_reducible apply Ok_var); (exact rfl))
    | with_reducible refine Ok_cons ?_ | with_reducible refine Ok_nil ?_ | with_reducible refine Ok_asg ?_ | with_reducible refine Ok_ret ?_ | with_reducible refine Ok_sub ?_ | with_reducible refine Ok_ife ?_
    | with_reducible refine Ok_expr ?_ | with_reducible refine Go_nx ?_ | with_reducible refine Go_rt ?_ | with_reducible refine Ok_cst ?_ | with_reducible refine Ok_bin ?_ | with_reducible refine Ok_idx ?_
    | with_reducible refine Ok_cmp ?_ | with_reducible refine Ok_chn ?_ | with_reducible refine Ok_and ?_ | with_reducible refine Ok_or ?_ | with_reducible refine Ok_not ?_ | with_reducible refine Ok_blt ?_
    | with_reducible refine Ok_callE ?_ | with_reducible refine Ok_slc ?_ | with_reducible refine Ok_ifx ?_ | with_reducible refine Ok_neg ?_ | with_reducible refine Ok_esc ?_ | with_reducible refine Ok_esn ?_
    | with_reducible refine Ok_ono ?_ | with_reducible refine Ok_oye ?_ | with_reducible refine Ok_cno ?_ | with_reducible refine Ok_cye ?_ | with_reducible refine Ok_tup ?_ | with_reducible refine Ok_lst ?_
    | with_reducible refine Ok_toB ?_ | with_reducible refine Ok_isB ?_ | with_reducible refine Ok_lt ?_ | with_reducible refine Ok_le ?_ | with_reducible refine Ok_gt ?_ | with_reducible refine Ok_ge ?_
    | with_reducible refine Ok_add ?_ | with_reducible refine Ok_sb ?_ | with_reducible refine Ok_lenS ?_ | with_reducible refine Ok_lenT ?_ | with_reducible refine Ok_lenL ?_ | with_reducible refine Ok_min ?_
    | with_reducible refine Ok_max ?_ | with_reducible refine Ok_tuL ?_ | with_reducible refine Ok_liT ?_ | with_reducible refine Ok_isi ?_ | with_reducible refine Ok_allF ?_ | with_reducible refine Ok_allT ?_
    | with_reducible refine Ok_slT ?_ | with_reducible refine Ok_comp ?_ | with_reducible refine Ok_seq ?_ | with_reducible refine Ok_rev ?_ | with_reducible refine Ok_rvT ?_ | with_reducible refine Ok_rvL ?_
    | with_reducible refine Ok_isN ?_ | with_reducible refine Ok_isNN ?_ | with_reducible refine Ok_eqI ?_ | with_reducible refine Ok_neI ?_ | with_reducible refine Ok_par ?_ | with_reducible refine Ok_asgT ?_
    | with_reducible refine Ok_dct ?_ | with_reducible refine Ok_okI ?_ | with_reducible refine Ok_bnd ?_
    | ((with_reducible refine Ok_ift ?_ ?_); (exact rfl)) | ((with_reducible refine Ok_iff ?_ ?_); (exact rfl))
    | refine Exists.intro _ (And.intro rfl ?_) | refine Exists.intro _ (Exists.intro _ (And.intro rfl (And.intro (show List.length _ ≤ _ by first | decide | simp) ?_))))
  refine Ok_pow (by decide) ?_
  repeat' (first
    | ((with_reducible apply Ok_var); (exact rfl))
    | with_reducible refine Ok_cons ?_ | with_reducible refine Ok_nil ?_ | with_reducible refine Ok_asg ?_ | with_reducible refine Ok_ret ?_ | with_reducible refine Ok_sub ?_ | with_reducible refine Ok_ife ?_
    | with_reducible refine Ok_expr ?_ | with_reducible refine Go_nx ?_ | with_reducible refine Go_rt ?_ | with_reducible refine Ok_cst ?_ | with_reducible refine Ok_bin ?_ | with_reducible refine Ok_idx ?_
    | with_reducible refine Ok_cmp ?_ | with_reducible refine Ok_chn ?_ | with_reducible refine Ok_and ?_ | with_reducible refine Ok_or ?_ | with_reducible refine Ok_not ?_ | with_reducible refine Ok_blt ?_
    | with_reducible refine Ok_callE ?_ | with_reducible refine Ok_slc ?_ | with_reducible refine Ok_ifx ?_ | with_reducible refine Ok_neg ?_ | with_reducible refine Ok_esc ?_ | with_reducible refine Ok_esn ?_
    | with_reducible refine Ok_ono ?_ | with_reducible refine Ok_oye ?_ | with_reducible refine Ok_cno ?_ | with_reducible refine Ok_cye ?_ | with_reducible refine Ok_tup ?_ | with_reducible refine Ok_lst ?_
    | with_reducible refine Ok_toB ?_ | with_reducible refine Ok_isB ?_ | with_reducible refine Ok_lt ?_ | with_reducible refine Ok_le ?_ | with_reducible refine Ok_gt ?_ | with_reducible refine Ok_ge ?_
    | with_reducible refine Ok_add ?_ | with_reducible refine Ok_sb ?_ | with_reducible refine Ok_lenS ?_ | with_reducible refine Ok_lenT ?_ | with_reducible refine Ok_lenL ?_ | with_reducible refine Ok_min ?_
    | with_reducible refine Ok_max ?_ | with_reducible refine Ok_tuL ?_ | with_reducible refine Ok_liT ?_ | with_reducible refine Ok_isi ?_ | with_reducible refine Ok_allF ?_ | with_reducible refine Ok_allT ?_
    | with_reducible refine Ok_slT ?_ | with_reducible refine Ok_comp ?_ | with_reducible refine Ok_seq ?_ | with_reducible refine Ok_rev ?_ | with_reducible refine Ok_rvT ?_ | with_reducible refine Ok_rvL ?_
    | with_reducible refine Ok_isN ?_ | with_reducible refine Ok_isNN ?_ | with_reducible refine Ok_eqI ?_ | with_reducible refine Ok_neI ?_ | with_reducible refine Ok_par ?_ | with_reducible refine Ok_asgT ?_
    | with_reducible refine Ok_dct ?_ | with_reducible refine Ok_okI ?_ | with_reducible refine Ok_bnd ?_
    | ((with_reducible refine Ok_ift ?_ ?_); (exact rfl)) | ((with_reducible refine Ok_iff ?_ ?_); (exact rfl))
    | refine Exists.intro _ (And.intro rfl ?_) | refine Exists.intro _ (Exists.intro _ (And.intro rfl (And.intro (show List.length _ ≤ _ by first | decide | simp) ?_))))
  refine Ok_mod (by decide) ?_
  repeat' (first
    | ((with_reducible apply Ok_var); (exact rfl))
    | with_reducible refine Ok_cons ?_ | with_reducible refine Ok_nil ?_ | with_reducible refine Ok_asg ?_ | with_reducible refine Ok_ret ?_ | with_reducible refine Ok_sub ?_ | with_reducible refine Ok_ife ?_
    | with_reducible refine Ok_expr ?_ | with_reducible refine Go_nx ?_ | with_reducible refine Go_rt ?_ | with_reducible refine Ok_cst ?_ | with_reducible refine Ok_bin ?_ | with_reducible refine Ok_idx ?_
    | with_reducible refine Ok_cmp ?_ | with_reducible refine Ok_chn ?_ | with_reducible refine Ok_and ?_ | with_reducible refine Ok_or ?_ | with_reducible refine Ok_not ?_ | with_reducible refine Ok_blt ?_
    | with_reducible refine Ok_callE ?_ | with_reducible refine Ok_slc ?_ | with_reducible refine Ok_ifx ?_ | with_reducible refine Ok_neg ?_ | with_reducible refine Ok_esc ?_ | with_reducible refine Ok_esn ?_
    | with_reducible refine Ok_ono ?_ | with_reducible refine Ok_oye ?_ | with_reducible refine Ok_cno ?_ | with_reducible refine Ok_cye ?_ | with_reducible refine Ok_tup ?_ | with_reducible refine Ok_lst ?_
    | with_reducible refine Ok_toB ?_ | with_reducible refine Ok_isB ?_ | with_reducible refine Ok_lt ?_ | with_reducible refine Ok_le ?_ | with_reducible refine Ok_gt ?_ | with_reducible refine Ok_ge ?_
    | with_reducible refine Ok_add ?_ | with_reducible refine Ok_sb ?_ | with_reducible refine Ok_lenS ?_ | with_reducible refine Ok_lenT ?_ | with_reducible refine Ok_lenL ?_ | with_reducible refine Ok_min ?_
    | with_reducible refine Ok_max ?_ | with_reducible refine Ok_tuL ?_ | with_reducible refine Ok_liT ?_ | with_reducible refine Ok_isi ?_ | with_reducible refine Ok_allF ?_ | with_reducible refine Ok_allT ?_
    | with_reducible refine Ok_slT ?_ | with_reducible refine Ok_comp ?_ | with_reducible refine Ok_seq ?_ | with_reducible refine Ok_rev ?_ | with_reducible refine Ok_rvT ?_ | with_reducible refine Ok_rvL ?_
    | with_reducible refine Ok_isN ?_ | with_reducible refine Ok_isNN ?_ | with_reducible refine Ok_eqI ?_ | with_reducible refine Ok_neI ?_ | with_reducible refine Ok_par ?_ | with_reducible refine Ok_asgT ?_
    | with_reducible refine Ok_dct ?_ | with_reducible refine Ok_okI ?_ | with_reducible refine Ok_bnd ?_
    | ((with_reducible refine Ok_ift ?_ ?_); (exact rfl)) | ((with_reducible refine Ok_iff ?_ ?_); (exact rfl))
    | refine Exists.intro _ (And.intro rfl ?_) | refine Exists.intro _ (Exists.intro _ (And.intro rfl (And.intro (show List.length _ ≤ _ by first | decide | simp) ?_))))
  exact fin_d ⟨rfl, _, rfl, pen_new M _ _⟩
theorem pick_ok (hD : T 5 = some ⟨2, 4, true, bDraw⟩) (hT : T 6 = some ⟨2, 2, true, bPick⟩) {M0 M : Mem} {i t : Nat} {xs : List PyData} (hM : PenS M0 i t M) (ht : t < 2 ^ 60) (h0 : 0 < xs.length) (h1 : xs.length < 1073741824) :
    Ok (run T fuel (k + 1 + 1) 6 [.ref i, .p (.list xs)] M) (fun d N => ∃ x ∈ xs, d = .p x ∧ PenS M0 i (t + 1) N) := by
  refine Ok_call hT rfl ?_
  simp only [bPick, enter, List.map_cons, List.map_nil, List.replicate, List.cons_append, List.nil_append, Nat.sub_self, List.append_nil]
  repeat' (first
    | ((with_reducible apply Ok_var); (exact rfl))
    | with_reducible refine Ok_cons ?_ | with_reducible refine Ok_nil ?_ | with_reducible refine Ok_asg ?_ | with_reducible refine Ok_ret ?_ | with_reducible refine Ok_sub ?_ | with_reducible refine Ok_ife ?_
    | with_reducible refine Ok_expr ?_ | with_reducible refine Go_nx ?_ | with_reducible refine Go_rt ?_ | with_reducible refine Ok_cst ?_ | with_reducible refine Ok_bin ?_ | with_reducible refine Ok_idx ?_
    | with_reducible refine Ok_cmp ?_ | with_reducible refine Ok_chn ?_ | with_reducible refine Ok_and ?_ | with_reducible refine Ok_or ?_ | with_reducible refine Ok_not ?_ | with_reducible refine Ok_blt ?_
    | with_reducible refine Ok_callE ?_ | with_reducible refine Ok_slc ?_ | with_reducible refine Ok_ifx ?_ | with_reducible refine Ok_neg ?_ | with_reducible refine Ok_esc ?_ | with_reducible refine Ok_esn ?_
    | with_reducible refine Ok_ono ?_ | with_reducible refine Ok_oye ?_ | with_reducible refine Ok_cno ?_ | with_reducible refine Ok_cye ?_ | with_reducible refine Ok_tup ?_ | with_reducible refine Ok_lst ?_
    | with_reducible refine Ok_toB ?_ | with_reducible refine Ok_isB ?_ | with_reducible refine Ok_lt ?_ | with_reducible refine Ok_le ?_ | with_reducible refine Ok_gt ?_ | with_reducible refine Ok_ge ?_
    | with_reducible refine Ok_add ?_ | with_reducible refine Ok_sb ?_ | with_reducible refine Ok_lenS ?_ | with_reducible refine Ok_lenT ?_ | with_reducible refine Ok_lenL ?_ | with_reducible refine Ok_min ?_
    | with_reducible refine Ok_max ?_ | with_reducible refine Ok_tuL ?_ | with_reducible refine Ok_liT ?_ | with_reducible refine Ok_isi ?_ | with_reducible refine Ok_allF ?_ | with_reducible refine Ok_allT ?_
    | with_reducible refine Ok_slT ?_ | with_reducible refine Ok_comp ?_ | with_reducible refine Ok_seq ?_ | with_reducible refine Ok_rev ?_ | with_reducible refine Ok_rvT ?_ | with_reducible refine Ok_rvL ?_
    | with_reducible refine Ok_isN ?_ | with_reducible refine Ok_isNN ?_ | with_reducible refine Ok_eqI ?_ | with_reducible refine Ok_neI ?_ | with_reducible refine Ok_par ?_ | with_reducible refine Ok_asgT ?_
    | with_reducible refine Ok_dct ?_ | with_reducible refine Ok_okI ?_ | with_reducible refine Ok_bnd ?_
    | ((with_reducible refine Ok_ift ?_ ?_); (exact rfl)) | ((with_reducible refine Ok_iff ?_ ?_); (exact rfl))
    | refine Exists.intro _ (And.intro rfl ?_) | refine Exists.intro _ (Exists.intro _ (And.intro rfl (And.intro (show List.length _ ≤ _ by first | decide | simp) ?_))))
  refine (draw_ok hD hM ht (n := xs.length) (by omega) (by omega)).mono ?_
  rintro d N ⟨r, rfl, r0, r1, hN⟩
  obtain ⟨x, hx, hm⟩ := atI_in r0 r1
  refine Ok_ixL hx ?_
  repeat' (first
    | ((with_reducible apply Ok_var); (exact rfl))
    | with_reducible refine Ok_cons ?_ | with_reducible refine Ok_nil ?_ | with_reducible refine Ok_asg ?_ | with_reducible refine Ok_ret ?_ | with_reducible refine Ok_sub ?_ | with_reducible refine Ok_ife ?_
    | with_reducible refine Ok_expr ?_ | with_reducible refine Go_nx ?_ | with_reducible refine Go_rt ?_ | with_reducible refine Ok_cst ?_ | with_reducible refine Ok_bin ?_ | with_reducible refine Ok_idx ?_
    | with_reducible refine Ok_cmp ?_ | with_reducible refine Ok_chn ?_ | with_reducible refine Ok_and ?_ | with_reducible refine Ok_or ?_ | with_reducible refine Ok_not ?_ | with_reducible refine Ok_blt ?_
    | with_reducible refine Ok_callE ?_ | with_reducible refine Ok_slc ?_ | with_reducible refine Ok_ifx ?_ | with_reducible refine Ok_neg ?_ | with_reducible refine Ok_esc ?_ | with_reducible refine Ok_esn ?_
    | with_reducible refine Ok_ono ?_ | with_reducible refine Ok_oye ?_ | with_reducible refine Ok_cno ?_ | with_reducible refine Ok_cye ?_ | with_reducible refine Ok_tup ?_ | with_reducible refine Ok_lst ?_
    | with_reducible refine Ok_toB ?_ | with_reducible refine Ok_isB ?_ | with_reducible refine Ok_lt ?_ | with_reducible refine Ok_le ?_ | with_reducible refine Ok_gt ?_ | with_reducible refine Ok_ge ?_
    | with_reducible refine Ok_add ?_ | with_reducible refine Ok_sb ?_ | with_reducible refine Ok_lenS ?_ | with_reducible refine Ok_lenT ?_ | with_reducible refine Ok_lenL ?_ | with_reducible refine Ok_min ?_
    | with_reducible refine Ok_max ?_ | with_reducible refine Ok_tuL ?_ | with_reducible refine Ok_liT ?_ | with_reducible refine Ok_isi ?_ | with_reducible refine Ok_allF ?_ | with_reducible refine Ok_allT ?_
    | with_reducible refine Ok_slT ?_ | with_reducible refine Ok_comp ?_ | with_reducible refine Ok_seq ?_ | with_reducible refine Ok_rev ?_ | with_reducible refine Ok_rvT ?_ | with_reducible refine Ok_rvL ?_
    | with_reducible refine Ok_isN ?_ | with_reducible refine Ok_isNN ?_ | with_reducible refine Ok_eqI ?_ | with_reducible refine Ok_neI ?_ | with_reducible refine Ok_par ?_ | with_reducible refine Ok_asgT ?_
    | with_reducible refine Ok_dct ?_ | with_reducible refine Ok_okI ?_ | with_reducible refine Ok_bnd ?_
    | ((with_reducible refine Ok_ift ?_ ?_); (exact rfl)) | ((with_reducible refine Ok_iff ?_ ?_); (exact rfl))
    | refine Exists.intro _ (And.intro rfl ?_) | refine Exists.intro _ (Exists.intro _ (And.intro rfl (And.intro (show List.length _ ≤ _ by first | decide | simp) ?_))))
  refine fin_p (by rw [hN.len, hM.len]; exact Nat.le_refl _) ?_
  exact ⟨x, hm, rfl, hN⟩
def isW (x : PyData) (lo hi : Int) : Bool := match x with
  | .int i => decide (lo ≤ i) && decide (i ≤ hi)
  | _ => false
/-- what repr takes -/
def Shw (x : PyData) : Bool := x.showable && decide (x.depth ≤ 60) && decide (x.shown.length ≤ 16777216) && (!x.hasDict || noLst x)
theorem Ok_repr {x : PyData} {M : Mem} {Q : D → Mem → Prop} (h : Shw x = true) (q : Q (.p (.str x.shown)) M) : Ok (bltop .repr [.p x] M) Q :=
  ⟨_, M, by simp only [bltop, one, dat, bRepr]; exact if_pos h, q⟩
theorem same_ok (hT : T 7 = some ⟨2, 2, true, bSame⟩) {M : Mem} {x y : PyData} (hx : Shw x = true) (hy : Shw y = true) :
    run T fuel (k + 1) 7 [.p x, .p y] M = .ok (.p (.bool (PyData.eqv (.str x.shown) (.str y.shown)))) M := by
  suffices h : Ok (run T fuel (k + 1) 7 [.p x, .p y] M) (fun d N => d = .p (.bool (PyData.eqv (.str x.shown) (.str y.shown))) ∧ N = M) by
    obtain ⟨d, N, e, rfl, rfl⟩ := h
    exact e
  refine Ok_call hT rfl ?_
  simp only [bSame, enter, List.map_cons, List.map_nil, List.replicate, List.cons_append, List.nil_append, Nat.sub_self, List.append_nil]
  repeat' (first
    | ((with_reducible apply Ok_var); (exact rfl))
    | with_reducible refine Ok_cons ?_ | with_reducible refine Ok_nil ?_ | with_reducible refine Ok_asg ?_ | with_reducible refine Ok_ret ?_ | with_reducible refine Ok_sub ?_ | with_reducible refine Ok_ife ?_
    | with_reducible refine Ok_expr ?_ | with_reducible refine Go_nx ?_ | with_reducible refine Go_rt ?_ | with_reducible refine Ok_cst ?_ | with_reducible refine Ok_bin ?_ | with_reducible refine Ok_idx ?_
    | with_reducible refine Ok_cmp ?_ | with_reducible refine Ok_chn ?_ | with_reducible refine Ok_and ?_ | with_reducible refine Ok_or ?_ | with_reducible refine Ok_not ?_ | with_reducible refine Ok_blt ?_
    | with_reducible refine Ok_callE ?_ | with_reducible refine Ok_slc ?_ | with_reducible refine Ok_ifx ?_ | with_reducible refine Ok_neg ?_ | with_reducible refine Ok_esc ?_ | with_reducible refine Ok_esn ?_
    | with_reducible refine Ok_ono ?_ | with_reducible refine Ok_oye ?_ | with_reducible refine Ok_cno ?_ | with_reducible refine Ok_cye ?_ | with_reducible refine Ok_tup ?_ | with_reducible refine Ok_lst ?_
    | with_reducible refine Ok_toB ?_ | with_reducible refine Ok_isB ?_ | with_reducible refine Ok_lt ?_ | with_reducible refine Ok_le ?_ | with_reducible refine Ok_gt ?_ | with_reducible refine Ok_ge ?_
    | with_reducible refine Ok_add ?_ | with_reducible refine Ok_sb ?_ | with_reducible refine Ok_lenS ?_ | with_reducible refine Ok_lenT ?_ | with_reducible refine Ok_lenL ?_ | with_reducible refine Ok_min ?_
    | with_reducible refine Ok_max ?_ | with_reducible refine Ok_tuL ?_ | with_reducible refine Ok_liT ?_ | with_reducible refine Ok_isi ?_ | with_reducible refine Ok_allF ?_ | with_reducible refine Ok_allT ?_
    | with_reducible refine Ok_slT ?_ | with_reducible refine Ok_comp ?_ | with_reducible refine Ok_seq ?_ | with_reducible refine Ok_rev ?_ | with_reducible refine Ok_rvT ?_ | with_reducible refine Ok_rvL ?_
    | with_reducible refine Ok_isN ?_ | with_reducible refine Ok_isNN ?_ | with_reducible refine Ok_eqI ?_ | with_reducible refine Ok_neI ?_ | with_reducible refine Ok_par ?_ | with_reducible refine Ok_asgT ?_
    | with_reducible refine Ok_dct ?_ | with_reducible refine Ok_okI ?_ | with_reducible refine Ok_bnd ?_
    | ((with_reducible refine Ok_ift ?_ ?_); (exact rfl)) | ((with_reducible refine Ok_iff ?_ ?_); (exact rfl))
    | refine Exists.intro _ (And.intro rfl ?_) | refine Exists.intro _ (Exists.intro _ (And.intro rfl (And.intro (show List.length _ ≤ _ by first | decide | simp) ?_))))
  refine Ok_repr hx ?_
  repeat' (first
    | ((with_reducible apply Ok_var); (exact rfl))
    | with_reducible refine Ok_cons ?_ | with_reducible refine Ok_nil ?_ | with_reducible refine Ok_asg ?_ | with_reducible refine Ok_ret ?_ | with_reducible refine Ok_sub ?_ | with_reducible refine Ok_ife ?_
    | with_reducible refine Ok_expr ?_ | with_reducible refine Go_nx ?_ | with_reducible refine Go_rt ?_ | with_reducible refine Ok_cst ?_ | with_reducible refine Ok_bin ?_ | with_reducible refine Ok_idx ?_
    | with_reducible refine Ok_cmp ?_ | with_reducible refine Ok_chn ?_ | with_reducible refine Ok_and ?_ | with_reducible refine Ok_or ?_ | with_reducible refine Ok_not ?_ | with_reducible refine Ok_blt ?_
    | with_reducible refine Ok_callE ?_ | with_reducible refine Ok_slc ?_ | with_reducible refine Ok_ifx ?_ | with_reducible refine Ok_neg ?_ | with_reducible refine Ok_esc ?_ | with_reducible refine Ok_esn ?_
    | with_reducible refine Ok_ono ?_ | with_reducible refine Ok_oye ?_ | with_reducible refine Ok_cno ?_ | with_reducible refine Ok_cye ?_ | with_reducible refine Ok_tup ?_ | with_reducible refine Ok_lst ?_
    | with_reducible refine Ok_toB ?_ | with_reducible refine Ok_isB ?_ | with_reducible refine Ok_lt ?_ | with_reducible refine Ok_le ?_ | with_reducible refine Ok_gt ?_ | with_reducible refine Ok_ge ?_
    | with_reducible refine Ok_add ?_ | with_reducible refine Ok_sb ?_ | with_reducible refine Ok_lenS ?_ | with_reducible refine Ok_lenT ?_ | with_reducible refine Ok_lenL ?_ | with_reducible refine Ok_min ?_
    | with_reducible refine Ok_max ?_ | with_reducible refine Ok_tuL ?_ | with_reducible refine Ok_liT ?_ | with_reducible refine Ok_isi ?_ | with_reducible refine Ok_allF ?_ | with_reducible refine Ok_allT ?_
    | with_reducible refine Ok_slT ?_ | with_reducible refine Ok_comp ?_ | with_reducible refine Ok_seq ?_ | with_reducible refine Ok_rev ?_ | with_reducible refine Ok_rvT ?_ | with_reducible refine Ok_rvL ?_
    | with_reducible refine Ok_isN ?_ | with_reducible refine Ok_isNN ?_ | with_reducible refine Ok_eqI ?_ | with_reducible refine Ok_neI ?_ | with_reducible refine Ok_par ?_ | with_reducible refine Ok_asgT ?_
    | with_reducible refine Ok_dct ?_ | with_reducible refine Ok_okI ?_ | with_reducible refine Ok_bnd ?_
    | ((with_reducible refine Ok_ift ?_ ?_); (exact rfl)) | ((with_reducible refine Ok_iff ?_ ?_); (exact rfl))
    | refine Exists.intro _ (And.intro rfl ?_) | refine Exists.intro _ (Exists.intro _ (And.intro rfl (And.intro (show List.length _ ≤ _ by first | decide | simp) ?_))))
  refine Ok_repr hy ?_
  repeat' (first
    | ((with_reducible apply Ok_var); (exact rfl))
    | with_reducible refine Ok_cons ?_ | with_reducible refine Ok_nil ?_ | with_reducible refine Ok_asg ?_ | with_reducible refine Ok_ret ?_ | with_reducible refine Ok_sub ?_ | with_reducible refine Ok_ife ?_
    | with_reducible refine Ok_expr ?_ | with_reducible refine Go_nx ?_ | with_reducible refine Go_rt ?_ | with_reducible refine Ok_cst ?_ | with_reducible refine Ok_bin ?_ | with_reducible refine Ok_idx ?_
    | with_reducible refine Ok_cmp ?_ | with_reducible refine Ok_chn ?_ | with_reducible refine Ok_and ?_ | with_reducible refine Ok_or ?_ | with_reducible refine Ok_not ?_ | with_reducible refine Ok_blt ?_
    | with_reducible refine Ok_callE ?_ | with_reducible refine Ok_slc ?_ | with_reducible refine Ok_ifx ?_ | with_reducible refine Ok_neg ?_ | with_reducible refine Ok_esc ?_ | with_reducible refine Ok_esn ?_
    | with_reducible refine Ok_ono ?_ | with_reducible refine Ok_oye ?_ | with_reducible refine Ok_cno ?_ | with_reducible refine Ok_cye ?_ | with_reducible refine Ok_tup ?_ | with_reducible refine Ok_lst ?_
    | with_reducible refine Ok_toB ?_ | with_reducible refine Ok_isB ?_ | with_reducible refine Ok_lt ?_ | with_reducible refine Ok_le ?_ | with_reducible refine Ok_gt ?_ | with_reducible refine Ok_ge ?_
    | with_reducible refine Ok_add ?_ | with_reducible refine Ok_sb ?_ | with_reducible refine Ok_lenS ?_ | with_reducible refine Ok_lenT ?_ | with_reducible refine Ok_lenL ?_ | with_reducible refine Ok_min ?_
    | with_reducible refine Ok_max ?_ | with_reducible refine Ok_tuL ?_ | with_reducible refine Ok_liT ?_ | with_reducible refine Ok_isi ?_ | with_reducible refine Ok_allF ?_ | with_reducible refine Ok_allT ?_
    | with_reducible refine Ok_slT ?_ | with_reducible refine Ok_comp ?_ | with_reducible refine Ok_seq ?_ | with_reducible refine Ok_rev ?_ | with_reducible refine Ok_rvT ?_ | with_reducible refine Ok_rvL ?_
    | with_reducible refine Ok_isN ?_ | with_reducible refine Ok_isNN ?_ | with_reducible refine Ok_eqI ?_ | with_reducible refine Ok_neI ?_ | with_reducible refine Ok_par ?_ | with_reducible refine Ok_asgT ?_
    | with_reducible refine Ok_dct ?_ | with_reducible refine Ok_okI ?_ | with_reducible refine Ok_bnd ?_
    | ((with_reducible refine Ok_ift ?_ ?_); (exact rfl)) | ((with_reducible refine Ok_iff ?_ ?_); (exact rfl))
    | refine Exists.intro _ (And.intro rfl ?_) | refine Exists.intro _ (Exists.intro _ (And.intro rfl (And.intro (show List.length _ ≤ _ by first | decide | simp) ?_))))
  refine Ok_eqP rfl rfl (Nat.zero_le _) ?_
  repeat' (first
    | ((with_reducible apply Ok_var); (exact rfl))
    | with_reducible refine Ok_cons ?_ | with_reducible refine Ok_nil ?_ | with_reducible refine Ok_asg ?_ | with_reducible refine Ok_ret ?_ | with_reducible refine Ok_sub ?_ | with_reducible refine Ok_ife ?_
    | with_reducible refine Ok_expr ?_ | with_reducible refine Go_nx ?_ | with_reducible refine Go_rt ?_ | with_reducible refine Ok_cst ?_ | with_reducible refine Ok_bin ?_ | with_reducible refine Ok_idx ?_
    | with_reducible refine Ok_cmp ?_ | with_reducible refine Ok_chn ?_ | with_reducible refine Ok_and ?_ | with_reducible refine Ok_or ?_ | with_reducible refine Ok_not ?_ | with_reducible refine Ok_blt ?_
    | with_reducible refine Ok_callE ?_ | with_reducible refine Ok_slc ?_ | with_reducible refine Ok_ifx ?_ | with_reducible refine Ok_neg ?_ | with_reducible refine Ok_esc ?_ | with_reducible refine Ok_esn ?_
    | with_reducible refine Ok_ono ?_ | with_reducible refine Ok_oye ?_ | with_reducible refine Ok_cno ?_ | with_reducible refine Ok_cye ?_ | with_reducible refine Ok_tup ?_ | with_reducible refine Ok_lst ?_
    | with_reducible refine Ok_toB ?_ | with_reducible refine Ok_isB ?_ | with_reducible refine Ok_lt ?_ | with_reducible refine Ok_le ?_ | with_reducible refine Ok_gt ?_ | with_reducible refine Ok_ge ?_
    | with_reducible refine Ok_add ?_ | with_reducible refine Ok_sb ?_ | with_reducible refine Ok_lenS ?_ | with_reducible refine Ok_lenT ?_ | with_reducible refine Ok_lenL ?_ | with_reducible refine Ok_min ?_
    | with_reducible refine Ok_max ?_ | with_reducible refine Ok_tuL ?_ | with_reducible refine Ok_liT ?_ | with_reducible refine Ok_isi ?_ | with_reducible refine Ok_allF ?_ | with_reducible refine Ok_allT ?_
    | with_reducible refine Ok_slT ?_ | with_reducible refine Ok_comp ?_ | with_reducible refine Ok_seq ?_ | with_reducible refine Ok_rev ?_ | with_reducible refine Ok_rvT ?_ | with_reducible refine Ok_rvL ?_
    | with_reducible refine Ok_isN ?_ | with_reducible refine Ok_isNN ?_ | with_reducible refine Ok_eqI ?_ | with_reducible refine Ok_neI ?_ | with_reducible refine Ok_par ?_ | with_reducible refine Ok_asgT ?_
    | with_reducible refine Ok_dct ?_ | with_reducible refine Ok_okI ?_ | with_reducible refine Ok_bnd ?_
    | ((with_reducible refine Ok_ift ?_ ?_); (exact rfl)) | ((with_reducible refine Ok_iff ?_ ?_); (exact rfl))
    | refine Exists.intro _ (And.intro rfl ?_) | refine Exists.intro _ (Exists.intro _ (And.intro rfl (And.intro (show List.length _ ≤ _ by first | decide | simp) ?_))))
  exact fin_p (Nat.le_refl _) ⟨rfl, rfl⟩
end
end Mi

set_option Elab.async false
set_option linter.all false
/-! Mi: data with small leaves, and that repr takes it. -/
namespace Mi
open PySem
mutual
def sm : PyData → Bool
  | .none => true
  | .bool _ => true
  | .int i => decide (i.natAbs < 10 ^ 12)
  | .str x => x.cps.toList.all fun c => decide (c < 16 ^ 8)
  | .list xs => smA xs
  | .tuple xs => smA xs
  | .dict kvs => smK kvs
def smA : List PyData → Bool
  | [] => true
  | x :: xs => sm x && smA xs
def smK : List (PyData × PyData) → Bool
  | [] => true
  | (a, b) :: r => sm a && sm b && smK r
end
theorem log_small {i : Int} (h : i.natAbs < 10 ^ 12) : i.natAbs.log2 < 40 := by
  by_cases h0 : i.natAbs = 0
  · rw [h0]; decide
  · rw [Nat.log2_lt h0]; omega
mutual
theorem sm_show : ∀ x : PyData, sm x = true → x.showable = true ∧ x.leavesShort 13 = true
  | .none, _ => ⟨rfl, rfl⟩
  | .bool _, _ => ⟨rfl, rfl⟩
  | .int i, h => by
    have h' : i.natAbs < 10 ^ 12 := by simpa only [sm, decide_eq_true_eq] using h
    refine ⟨?_, ?_⟩
    · simp only [PyData.showable, decide_eq_true_eq]
      have := log_small h'
      omega
    · simp only [PyData.leavesShort, decide_eq_true_eq]
      exact PyData.shown_int_le h'
  | .str x, h => ⟨rfl, by simpa only [sm, PyData.leavesShort] using h⟩
  | .list xs, h => by
    have := smA_show xs (by simpa only [sm] using h)
    simpa only [PyData.showable, PyData.leavesShort] using this
  | .tuple xs, h => by
    have := smA_show xs (by simpa only [sm] using h)
    simpa only [PyData.showable, PyData.leavesShort] using this
  | .dict kvs, h => by
    have := smK_show kvs (by simpa only [sm] using h)
    simpa only [PyData.showable, PyData.leavesShort] using this
theorem smA_show : ∀ xs : List PyData, smA xs = true → PyData.showableAll xs = true ∧ PyData.leavesShortAll 13 xs = true
  | [], _ => ⟨rfl, rfl⟩
  | x :: xs, h => by
    have h' : sm x = true ∧ smA xs = true := by simpa only [smA, Bool.and_eq_true] using h
    have h1 := sm_show x h'.1
    have h2 := smA_show xs h'.2
    simp only [PyData.showableAll, PyData.leavesShortAll, h1, h2, Bool.and_self, and_self]
theorem smK_show : ∀ xs : List (PyData × PyData), smK xs = true → PyData.showableKv xs = true ∧ PyData.leavesShortKv 13 xs = true
  | [], _ => ⟨rfl, rfl⟩
  | (a, b) :: xs, h => by
    have h' : (sm a = true ∧ sm b = true) ∧ smK xs = true := by simpa only [smK, Bool.and_eq_true] using h
    have h1 := sm_show a h'.1.1
    have h2 := sm_show b h'.1.2
    have h3 := smK_show xs h'.2
    simp only [PyData.showableKv, PyData.leavesShortKv, h1, h2, h3, Bool.and_self, and_self]
end
/-- small in depth and in weight -/
def Sz (n w : Nat) (x : PyData) : Prop := sm x = true ∧ x.depth ≤ n ∧ x.weight ≤ w
def SzA (n w : Nat) (xs : List PyData) : Prop := smA xs = true ∧ PyData.depthAll xs ≤ n ∧ PyData.weightAll xs ≤ w
def szB (n w : Nat) (x : PyData) : Bool := sm x && decide (x.depth ≤ n) && decide (x.weight ≤ w)
theorem Sz.of {n w : Nat} {x : PyData} (h : szB n w x = true) : Sz n w x := by
  simp only [szB, Bool.and_eq_true, decide_eq_true_eq] at h
  exact ⟨h.1.1, h.1.2, h.2⟩
theorem Sz.shw {n w : Nat} {x : PyData} (h : Sz n w x) (hn : n ≤ 60) (hw : w ≤ 2 ^ 20) (hd : x.hasDict = false ∨ noLst x = true) : Shw x = true := by
  have h1 := sm_show x h.1
  have h2 := PyData.shown_fits (B := 13) (by decide) (by decide) h1.2 (Nat.le_trans h.2.2 hw)
  rw [sizeLine_eq] at h2
  have h3 : x.depth ≤ 60 := Nat.le_trans h.2.1 hn
  have h4 : (!x.hasDict || noLst x) = true := by cases hd with
    | inl h => rw [h]; rfl
    | inr h => rw [h, Bool.or_true]
  simp only [Shw, h1.1, h3, h2, h4, decide_true, Bool.and_self]
theorem SzA.tup {n w : Nat} {xs : List PyData} (h : SzA n w xs) : Sz (n + 1) w (.tuple xs) :=
  ⟨by simpa only [sm] using h.1, by simp only [PyData.depth]; exact Nat.succ_le_succ h.2.1, by simpa only [PyData.weight] using h.2.2⟩
theorem SzA.lst {n w : Nat} {xs : List PyData} (h : SzA n w xs) : Sz (n + 1) w (.list xs) :=
  ⟨by simpa only [sm] using h.1, by simp only [PyData.depth]; exact Nat.succ_le_succ h.2.1, by simpa only [PyData.weight] using h.2.2⟩
theorem SzA.nil {n w : Nat} : SzA n w [] := ⟨rfl, Nat.zero_le _, Nat.zero_le _⟩
theorem SzA.cons {n w w' : Nat} {x : PyData} {xs : List PyData} (h : Sz n w x) (h' : SzA n w' xs) : SzA n (w + 1 + w') (x :: xs) :=
  ⟨by simp only [smA, h.1, h'.1, Bool.and_self], by simp only [PyData.depthAll]; exact Nat.max_le.2 ⟨h.2.1, h'.2.1⟩, by simp only [PyData.weightAll]; have := h.2.2; have := h'.2.2; omega⟩
theorem SzA.mono {n w n' w' : Nat} {xs : List PyData} (h : SzA n w xs) (hn : n ≤ n') (hw : w ≤ w') : SzA n' w' xs := ⟨h.1, Nat.le_trans h.2.1 hn, Nat.le_trans h.2.2 hw⟩
theorem Sz.mono {n w n' w' : Nat} {x : PyData} (h : Sz n w x) (hn : n ≤ n') (hw : w ≤ w') : Sz n' w' x := ⟨h.1, Nat.le_trans h.2.1 hn, Nat.le_trans h.2.2 hw⟩
theorem SzA.of_all {n w : Nat} : ∀ {xs : List PyData}, (∀ x ∈ xs, Sz n w x) → SzA n ((w + 1) * xs.length) xs
  | [], _ => SzA.nil
  | x :: xs, h => by
    have h1 := SzA.cons (h x List.mem_cons_self) (SzA.of_all (xs := xs) fun y hy => h y (List.mem_cons_of_mem _ hy))
    exact h1.mono (Nat.le_refl _) (by rw [List.length_cons, Nat.mul_add]; omega)
theorem Sz.int {i : Int} {n : Nat} (h : i.natAbs < 10 ^ 12) : Sz n 40 (.int i) := by
  refine ⟨by simpa only [sm, decide_eq_true_eq] using h, Nat.zero_le _, ?_⟩
  simp only [PyData.weight]
  have := log_small h
  split <;> omega
/-! no dict, or no list, within -/
def ndA (xs : List PyData) : Bool := xs.all fun x => !x.hasDict
theorem hasDictAll_of {xs : List PyData} (h : ∀ x ∈ xs, x.hasDict = false) : PyData.hasDictAll xs = false := by
  induction xs with
  | nil => rfl
  | cons x xs ih =>
    rw [PyData.hasDictAll, h x List.mem_cons_self, ih fun y hy => h y (List.mem_cons_of_mem _ hy)]; rfl
/-! `[1 for x in xs if not p(x)]` -/
def ones (p : PyData → Bool) (xs : List PyData) : List PyData := xs.filterMap fun y => if p y then none else some (.int 1)
end Mi

set_option Elab.async false
set_option linter.all false
set_option maxRecDepth 100000
set_option maxHeartbeats 4000000
/-! Mi: settings, known and drawn. -/
namespace Mi
open PySem
def bIsF : CSs :=
  (.cons (.ife (.cmp .is (.var 0) (.cst .none)) (.cons (.ret (.cst (.bool true))) .nil) .nil) (.cons (.ife (.or (.not (.blt (.isi .tuple) (.cons (.var 0) .nil))) (.cmp .ne (.blt .len (.cons (.var 0) .nil)) (.cst (.int 2)))) (.cons (.ret (.cst (.bool false))) .nil) .nil) (.cons (.ret (.and (.call 1 (.cons (.idx (.var 0) (.cst (.int 0))) (.cons (.cst (.int 1)) (.cons (.cst (.int 3)) .nil)))) (.call 1 (.cons (.idx (.var 0) (.cst (.int 1))) (.cons (.cst (.int 1)) (.cons (.cst (.int 3)) .nil)))))) .nil)))
def bIsS : CSs :=
  (.cons (.ife (.or (.not (.blt (.isi .tuple) (.cons (.var 0) .nil))) (.cmp .ne (.blt .len (.cons (.var 0) .nil)) (.cst (.int 9)))) (.cons (.ret (.cst (.bool false))) .nil) .nil) (.cons (.asg (.tp [1, 2, 3, 4, 5, 6, 7, 8, 9]) (.var 0)) (.cons (.ife (.or (.not (.call 1 (.cons (.var 1) (.cons (.cst (.int 1)) (.cons (.cst (.int 3)) .nil))))) (.not (.call 1 (.cons (.var 2) (.cons (.cst (.int 1)) (.cons (.cst (.int 5)) .nil)))))) (.cons (.ret (.cst (.bool false))) .nil) .nil) (.cons (.ife (.or (.not (.call 1 (.cons (.var 3) (.cons (.cst (.int 1)) (.cons (.cst (.int 4)) .nil))))) (.not (.call 1 (.cons (.var 4) (.cons (.cst (.int 1)) (.cons (.cst (.int 3)) .nil)))))) (.cons (.ret (.cst (.bool false))) .nil) .nil) (.cons (.ife (.not (.call 1 (.cons (.var 5) (.cons (.cst (.int 1)) (.cons (.cst (.int 3)) .nil))))) (.cons (.ret (.cst (.bool false))) .nil) .nil) (.cons (.ife (.or (.not (.blt (.isi .str) (.cons (.var 6) .nil))) (.or (.cmp .notin (.var 6) (.cst (.tuple [(.str (Str.ofString "oldest")), (.str (Str.ofString "newest"))]))) (.not (.blt (.isi .bool) (.cons (.var 7) .nil))))) (.cons (.ret (.cst (.bool false))) .nil) .nil) (.cons (.ret (.and (.or (.cmp .is (.var 8) (.cst .none)) (.call 1 (.cons (.var 8) (.cons (.cst (.int 0)) (.cons (.cst (.int 4)) .nil))))) (.call 13 (.cons (.var 9) .nil)))) .nil)))))))
def bStg : CSs :=
  (.cons (.par [1, 2, 3] (.cons (.bin .add false (.cst (.int 1)) (.call 5 (.cons (.var 0) (.cons (.cst (.int 3)) .nil)))) (.cons (.bin .add false (.cst (.int 1)) (.call 5 (.cons (.var 0) (.cons (.cst (.int 5)) .nil)))) (.cons (.bin .add false (.cst (.int 1)) (.call 5 (.cons (.var 0) (.cons (.cst (.int 4)) .nil)))) .nil)))) (.cons (.par [4, 5] (.cons (.bin .add false (.cst (.int 1)) (.call 5 (.cons (.var 0) (.cons (.cst (.int 3)) .nil)))) (.cons (.bin .add false (.cst (.int 1)) (.call 5 (.cons (.var 0) (.cons (.cst (.int 3)) .nil)))) .nil))) (.cons (.par [6, 7] (.cons (.call 6 (.cons (.var 0) (.cons (.lst false (.cons (.cst (.str (Str.ofString "oldest"))) (.cons (.cst (.str (Str.ofString "newest"))) .nil))) .nil))) (.cons (.cmp .eq (.call 5 (.cons (.var 0) (.cons (.cst (.int 2)) .nil))) (.cst (.int 0))) .nil))) (.cons (.par [8, 9] (.cons (.call 6 (.cons (.var 0) (.cons (.lst false (.cons (.cst .none) (.cons (.cst .none) (.cons (.cst (.int 0)) (.cons (.cst (.int 1)) (.cons (.cst (.int 2)) (.cons (.cst (.int 3)) (.cons (.cst (.int 4)) .nil)))))))) .nil))) (.cons (.tup (.cons (.bin .add false (.cst (.int 1)) (.call 5 (.cons (.var 0) (.cons (.cst (.int 3)) .nil)))) (.cons (.bin .add false (.cst (.int 1)) (.call 5 (.cons (.var 0) (.cons (.cst (.int 3)) .nil)))) .nil))) .nil))) (.cons (.ret (.tup (.cons (.var 1) (.cons (.var 2) (.cons (.var 3) (.cons (.var 4) (.cons (.var 5) (.cons (.var 6) (.cons (.var 7) (.cons (.var 8) (.cons (.call 6 (.cons (.var 0) (.cons (.lst false (.cons (.cst .none) (.cons (.cst .none) (.cons (.var 9) .nil)))) .nil))) .nil))))))))))) .nil)))))
def bFst : CSs :=
  (.cons (.par [1, 2, 3] (.cons (.idx (.var 0) (.cst (.int 3))) (.cons (.idx (.var 0) (.cst (.int 4))) (.cons (.idx (.var 0) (.cst (.int 7))) .nil)))) (.cons (.ret (.tup (.cons (.cst (.int 0)) (.cons (.tup .nil) (.cons (.bin .mul false (.tup (.cons (.bin .mul false (.tup (.cons (.cst (.int 0)) .nil)) (.bin .sub false (.var 1) (.cst (.int 1)))) .nil)) (.var 2)) (.cons (.ife (.cmp .is (.var 3) (.cst .none)) (.cst (.int 0)) (.var 3)) (.cons (.cst (.int 0)) .nil))))))) .nil))
def bOdds : CSs :=
  (.cons (.asg (.nm 0) (.lst false (.cons (.cst .none) (.cons (.cst (.bool true)) (.cons (.cst (.bool false)) (.cons (.cst (.int 0)) (.cons (.cst (.int 1)) (.cons (.neg (.cst (.int 1))) (.cons (.cst (.int 2)) (.cons (.cst (.int 3)) (.cons (.cst (.int 4)) (.cons (.cst (.int 5)) (.cons (.cst (.int 6)) (.cons (.bin .pow false (.cst (.int 10)) (.cst (.int 11))) (.cons (.neg (.bin .pow false (.cst (.int 10)) (.cst (.int 11)))) (.cons (.cst (.str (Str.ofString ""))) (.cons (.cst (.str (Str.ofString "oldest"))) (.cons (.cst (.str (Str.ofString "newest"))) (.cons (.cst (.str (Str.ofString "Oldest"))) .nil))))))))))))))))))) (.cons (.asg (.nm 0) (.bin .add false (.var 0) (.lst false (.cons (.cst (.str (Str.ofString "yes"))) (.cons (.cst (.str (Str.ofString "2"))) (.cons (.tup .nil) (.cons (.lst false .nil) (.cons (.dct .nil .nil) (.cons (.tup (.cons (.cst (.int 1)) .nil)) (.cons (.tup (.cons (.cst (.int 1)) (.cons (.cst (.int 1)) .nil))) (.cons (.tup (.cons (.cst (.int 3)) (.cons (.cst (.int 3)) .nil))) (.cons (.tup (.cons (.cst (.int 0)) (.cons (.cst (.int 1)) .nil))) (.cons (.tup (.cons (.cst (.int 1)) (.cons (.cst (.int 0)) .nil))) (.cons (.tup (.cons (.cst (.int 4)) (.cons (.cst (.int 1)) .nil))) (.cons (.tup (.cons (.cst (.int 1)) (.cons (.cst (.int 4)) .nil))) (.cons (.tup (.cons (.cst (.int 1)) (.cons (.cst (.int 1)) (.cons (.cst (.int 1)) .nil)))) .nil)))))))))))))))) (.cons (.asg (.nm 0) (.bin .add false (.var 0) (.lst false (.cons (.lst false (.cons (.cst (.int 1)) (.cons (.cst (.int 1)) .nil))) (.cons (.tup (.cons (.cst (.bool true)) (.cons (.cst (.int 1)) .nil))) (.cons (.tup (.cons (.cst (.int 1)) (.cons (.cst (.bool true)) .nil))) (.cons (.tup (.cons (.cst .none) (.cons (.cst (.int 1)) .nil))) (.cons (.tup (.cons (.cst (.str (Str.ofString "1"))) (.cons (.cst (.int 1)) .nil))) (.cons (.tup (.cons (.tup (.cons (.cst (.int 1)) (.cons (.cst (.int 1)) .nil))) .nil)) (.cons (.lst false (.cons (.tup (.cons (.cst (.int 1)) (.cons (.cst (.int 1)) .nil))) .nil)) (.cons (.dct (.cons (.cst (.int 1)) .nil) (.cons (.cst (.int 1)) .nil)) .nil))))))))))) (.cons (.ret (.bin .add false (.var 0) (.lst false (.cons (.tup (.cons (.cst (.int 0)) .nil)) (.cons (.tup (.cons (.tup .nil) .nil)) (.cons (.tup (.cons (.tup (.cons (.cst (.int 0)) .nil)) .nil)) .nil)))))) .nil))))
def bLIsS : CSs :=
  (.cons (.ife (.or (.not (.blt (.isi .tuple) (.cons (.var 0) .nil))) (.cmp .ne (.blt .len (.cons (.var 0) .nil)) (.cst (.int 9)))) (.cons (.ret (.cst (.bool false))) .nil) .nil) (.cons (.ife (.cmp .ne (.comp false [1] (.nm 1) (.rng (.cst (.int 5))) (.yes (.not (.call 8 (.cons (.idx (.var 0) (.var 1)) (.cons (.cst (.int 1)) (.cons (.idx (.lst false (.cons (.cst (.int 3)) (.cons (.cst (.int 5)) (.cons (.cst (.int 4)) (.cons (.cst (.int 3)) (.cons (.cst (.int 3)) .nil)))))) (.var 1)) .nil)))))) (.cst (.int 1))) (.lst false .nil)) (.cons (.ret (.cst (.bool false))) .nil) .nil) (.cons (.ife (.or (.not (.blt (.isi .str) (.cons (.idx (.var 0) (.cst (.int 5))) .nil))) (.or (.cmp .notin (.idx (.var 0) (.cst (.int 5))) (.tup (.cons (.cst (.str (Str.ofString "oldest"))) (.cons (.cst (.str (Str.ofString "newest"))) .nil)))) (.not (.blt (.isi .bool) (.cons (.idx (.var 0) (.cst (.int 6))) .nil))))) (.cons (.ret (.cst (.bool false))) .nil) .nil) (.cons (.ife (.and (.cmp .isnot (.idx (.var 0) (.cst (.int 7))) (.cst .none)) (.not (.call 8 (.cons (.idx (.var 0) (.cst (.int 7))) (.cons (.cst (.int 0)) (.cons (.cst (.int 4)) .nil)))))) (.cons (.ret (.cst (.bool false))) .nil) .nil) (.cons (.ife (.cmp .is (.idx (.var 0) (.cst (.int 8))) (.cst .none)) (.cons (.ret (.cst (.bool true))) .nil) .nil) (.cons (.ret (.and (.blt (.isi .tuple) (.cons (.idx (.var 0) (.cst (.int 8))) .nil)) (.and (.cmp .eq (.blt .len (.cons (.idx (.var 0) (.cst (.int 8))) .nil)) (.cst (.int 2))) (.blt .all (.cons (.comp false [2] (.nm 2) (.seq (.idx (.var 0) (.cst (.int 8)))) .no (.call 8 (.cons (.var 2) (.cons (.cst (.int 1)) (.cons (.cst (.int 3)) .nil))))) .nil))))) .nil))))))
def isF (x : PyData) : Bool := match x with
  | .none => true
  | .tuple [a, b] => isW a 1 3 && isW b 1 3
  | _ => false
def isWay (x : PyData) : Bool := match x with
  | .str y => [PyData.str (Str.ofString "oldest"), .str (Str.ofString "newest")].any fun z => PyData.eqv z (.str y)
  | _ => false
def isBl (x : PyData) : Bool := match x with
  | .bool _ => true
  | _ => false
def isS (x : PyData) : Bool := match x with
  | .tuple [a, b, c, d, e, f, g, h, i] => isW a 1 3 && isW b 1 5 && isW c 1 4 && isW d 1 3 && isW e 1 3 && isWay f && isBl g && (isNone h || isW h 0 4) && isF i
  | _ => false
section
variable {T : Nat → Option FD} {fuel k : Nat}
end
end Mi

set_option Elab.async false
set_option linter.all false
set_option maxRecDepth 100000
set_option maxHeartbeats 4000000
namespace Mi
open PySem
section
variable {T : Nat → Option FD} {fuel k : Nat}
end
end Mi

set_option Elab.async false
set_option linter.all false
set_option maxRecDepth 100000
set_option maxHeartbeats 4000000
namespace Mi
open PySem
/-- a setting, as it is drawn -/
structure Stg where
  work : Int
  room : Int
  pat : Int
  tries : Int
  wait : Int
  way : Str
  dead : Bool
  tok : Option Int
  fuse : Option (Int × Int)
def Stg.tokD (s : Stg) : PyData := match s.tok with
  | none => .none
  | some k => .int k
def Stg.fuseD (s : Stg) : PyData := match s.fuse with
  | none => .none
  | some (a, b) => .tuple [.int a, .int b]
def Stg.d (s : Stg) : PyData := .tuple [.int s.work, .int s.room, .int s.pat, .int s.tries, .int s.wait, .str s.way, .bool s.dead, s.tokD, s.fuseD]
structure Stg.Ok (s : Stg) : Prop where
  work : 1 ≤ s.work ∧ s.work ≤ 3
  room : 1 ≤ s.room ∧ s.room ≤ 5
  pat : 1 ≤ s.pat ∧ s.pat ≤ 4
  tries : 1 ≤ s.tries ∧ s.tries ≤ 3
  wait : 1 ≤ s.wait ∧ s.wait ≤ 3
  way : s.way = Str.ofString "oldest" ∨ s.way = Str.ofString "newest"
  tok : ∀ k, s.tok = some k → 0 ≤ k ∧ k ≤ 4
  fuse : ∀ a b, s.fuse = some (a, b) → (1 ≤ a ∧ a ≤ 3) ∧ 1 ≤ b ∧ b ≤ 3
section
variable {T : Nat → Option FD} {fuel k : Nat}
def Stg.tk (s : Stg) : Int := match s.tok with
  | none => 0
  | some k => k
/-- the first state of a setting -/
def Stg.first (s : Stg) : PyData := .tuple [.int 0, .tuple [], .tuple (List.replicate s.wait.toNat [PyData.tuple (List.replicate (s.tries - 1).toNat [PyData.int 0]).flatten]).flatten, .int s.tk, .int 0]
def odds : List PyData := [.none, .bool true, .bool false, .int 0, .int 1, .int (-1), .int 2, .int 3, .int 4, .int 5, .int 6, .int 100000000000, .int (-100000000000),
  .str (Str.ofString ""), .str (Str.ofString "oldest"), .str (Str.ofString "newest"), .str (Str.ofString "Oldest"), .str (Str.ofString "yes"), .str (Str.ofString "2"),
  .tuple [], .list [], .dict [], .tuple [.int 1], .tuple [.int 1, .int 1], .tuple [.int 3, .int 3], .tuple [.int 0, .int 1], .tuple [.int 1, .int 0], .tuple [.int 4, .int 1], .tuple [.int 1, .int 4], .tuple [.int 1, .int 1, .int 1],
  .list [.int 1, .int 1], .tuple [.bool true, .int 1], .tuple [.int 1, .bool true], .tuple [.none, .int 1], .tuple [.str (Str.ofString "1"), .int 1], .tuple [.tuple [.int 1, .int 1]], .list [.tuple [.int 1, .int 1]], .dict [(.int 1, .int 1)],
  .tuple [.int 0], .tuple [.tuple []], .tuple [.tuple [.int 0]]]
end
end Mi

set_option Elab.async false
set_option linter.all false
set_option maxRecDepth 100000
set_option maxHeartbeats 4000000
namespace Mi
open PySem
/-! texts with small signs -/
def SmS (x : Str) : Prop := ∀ c ∈ x.cps.toList, c < 16 ^ 8
instance (x : Str) : Decidable (SmS x) := List.decidableBAll (fun c => c < 16 ^ 8) x.cps.toList
/-! what is small enough to be shown -/
def El (y : PyData) : Prop := Sz 5 200 y ∧ y.hasDict = false ∧ noLst y = true
def Gd (x : PyData) : Prop := Sz 20 1000000 x ∧ (x.hasDict = false ∨ noLst x = true)
def smallB (x : PyData) : Bool := szB 5 200 x && (!x.hasDict || noLst x)
theorem Sz.tupA {n w l : Nat} {xs : List PyData} (h : ∀ x ∈ xs, Sz n w x) (hl : xs.length ≤ l) : Sz (n + 1) ((w + 1) * l) (.tuple xs) :=
  ((SzA.of_all h).tup).mono (Nat.le_refl _) (Nat.mul_le_mul_left _ hl)
def Stg.parts (s : Stg) : List PyData := [.int s.work, .int s.room, .int s.pat, .int s.tries, .int s.wait, .str s.way, .bool s.dead, s.tokD, s.fuseD]
end Mi

set_option Elab.async false
set_option linter.all false
set_option maxRecDepth 100000
set_option maxHeartbeats 4000000
/-! Mi: states of a setting, known. -/
namespace Mi
open PySem
def bCnt : CSs :=
  (.cons (.ret (.and (.blt (.isi .int) (.cons (.var 0) .nil)) (.and (.not (.blt (.isi .bool) (.cons (.var 0) .nil))) (.cmp .ge (.var 0) (.cst (.int 0)))))) .nil)
def bNeed (c : CS) : CSs :=
  (.cons (.ife (.not (.call 14 (.cons (.var 0) .nil))) (.cons c .nil) .nil) .nil)
def bMtk : CSs :=
  (.cons (.ret (.ife (.cmp .is (.idx (.var 0) (.cst (.int 7))) (.cst .none)) (.cst (.int 0)) (.idx (.var 0) (.cst (.int 7))))) .nil)
def bMrs : CSs :=
  (.cons (.ret (.ife (.cmp .is (.idx (.var 0) (.cst (.int 8))) (.cst .none)) (.cst (.int 0)) (.idx (.idx (.var 0) (.cst (.int 8))) (.cst (.int 1))))) .nil)
def bFof : CSs :=
  (.cons (.asg (.tp [1, 2]) (.slc false (.var 0) (.yes (.cst (.int 3))) (.yes (.cst (.int 5))))) (.cons (.ret (.tup (.cons (.cst (.int 0)) (.cons (.tup .nil) (.cons (.bin .mul false (.tup (.cons (.bin .mul false (.tup (.cons (.cst (.int 0)) .nil)) (.bin .sub false (.var 1) (.cst (.int 1)))) .nil)) (.var 2)) (.cons (.call 21 (.cons (.var 0) .nil)) (.cons (.cst (.int 0)) .nil))))))) .nil))
def bFstS : CSs :=
  (.cons (.expr (.call 20 (.cons (.var 0) .nil))) (.cons (.ret (.call 23 (.cons (.var 0) .nil))) .nil))
def bIsQ : CSs :=
  (.cons (.asg (.tp [2, 3]) (.slc false (.var 0) (.yes (.cst (.int 2))) (.yes (.cst (.int 4))))) (.cons (.ife (.or (.not (.blt (.isi .tuple) (.cons (.var 1) .nil))) (.cmp .gt (.blt .len (.cons (.var 1) .nil)) (.idx (.var 0) (.cst (.int 1))))) (.cons (.ret (.cst (.bool false))) .nil) .nil) (.cons (.ife (.not (.blt .all (.cons (.comp false [4] (.nm 4) (.seq (.var 1)) .no (.and (.blt (.isi .tuple) (.cons (.var 4) .nil)) (.cmp .eq (.blt .len (.cons (.var 4) .nil)) (.cst (.int 2))))) .nil))) (.cons (.ret (.cst (.bool false))) .nil) .nil) (.cons (.ife (.not (.blt .all (.cons (.comp false [5, 6] (.tp [5, 6]) (.seq (.var 1)) .no (.and (.call 1 (.cons (.var 5) (.cons (.cst (.int 0)) (.cons (.bin .sub false (.var 3) (.cst (.int 1))) .nil)))) (.call 1 (.cons (.var 6) (.cons (.cst (.int 1)) (.cons (.bin .sub false (.var 2) (.cst (.int 1))) .nil)))))) .nil))) (.cons (.ret (.cst (.bool false))) .nil) .nil) (.cons (.ret (.blt .all (.cons (.comp false [4, 7] (.tp [4, 7]) (.zip (.var 1) (.slc false (.var 1) (.yes (.cst (.int 1))) .no)) .no (.cmp .ge (.idx (.var 4) (.cst (.int 1))) (.idx (.var 7) (.cst (.int 1))))) .nil))) .nil)))))
def bIsL : CSs :=
  (.cons (.asg (.tp [2, 3]) (.slc false (.var 0) (.yes (.cst (.int 3))) (.yes (.cst (.int 5))))) (.cons (.ife (.or (.not (.blt (.isi .tuple) (.cons (.var 1) .nil))) (.cmp .ne (.blt .len (.cons (.var 1) .nil)) (.var 3))) (.cons (.ret (.cst (.bool false))) .nil) .nil) (.cons (.ife (.not (.blt .all (.cons (.comp false [4] (.nm 4) (.seq (.var 1)) .no (.and (.blt (.isi .tuple) (.cons (.var 4) .nil)) (.cmp .eq (.blt .len (.cons (.var 4) .nil)) (.bin .sub false (.var 2) (.cst (.int 1)))))) .nil))) (.cons (.ret (.cst (.bool false))) .nil) .nil) (.cons (.ret (.blt .all (.cons (.comp false [4] (.nm 4) (.seq (.var 1)) .no (.blt .all (.cons (.comp false [5] (.nm 5) (.seq (.var 4)) .no (.call 19 (.cons (.var 5) .nil))) .nil))) .nil))) .nil))))
def bIsSo : CSs :=
  (.cons (.ife (.or (.not (.blt (.isi .tuple) (.cons (.var 1) .nil))) (.cmp .ne (.blt .len (.cons (.var 1) .nil)) (.cst (.int 5)))) (.cons (.ret (.cst (.bool false))) .nil) .nil) (.cons (.asg (.tp [2, 3, 4, 5, 6]) (.var 1)) (.cons (.ife (.or (.not (.call 1 (.cons (.var 2) (.cons (.cst (.int 0)) (.cons (.ife (.idx (.var 0) (.cst (.int 6))) (.idx (.var 0) (.cst (.int 1))) (.cst (.int 0))) .nil))))) (.not (.call 25 (.cons (.var 0) (.cons (.var 3) .nil))))) (.cons (.ret (.cst (.bool false))) .nil) .nil) (.cons (.ife (.or (.cmp .gt (.bin .add false (.var 2) (.blt .len (.cons (.var 3) .nil))) (.idx (.var 0) (.cst (.int 1)))) (.not (.call 26 (.cons (.var 0) (.cons (.var 4) .nil))))) (.cons (.ret (.cst (.bool false))) .nil) .nil) (.cons (.ret (.and (.call 1 (.cons (.var 5) (.cons (.cst (.int 0)) (.cons (.call 21 (.cons (.var 0) .nil)) .nil)))) (.call 1 (.cons (.var 6) (.cons (.cst (.int 0)) (.cons (.call 22 (.cons (.var 0) .nil)) .nil)))))) .nil)))))
def bIsSt : CSs :=
  (.cons (.expr (.call 20 (.cons (.var 0) .nil))) (.cons (.ret (.call 27 (.cons (.var 0) (.cons (.var 1) .nil)))) .nil))
def Stg.rs (s : Stg) : Int := match s.fuse with
  | none => 0
  | some (_, b) => b
def isC (x : PyData) : Bool := match x with
  | .int i => decide (0 ≤ i)
  | _ => false
def isPr (e : PyData) : Bool := match e with
  | .tuple [_, _] => true
  | _ => false
def isEn (s : Stg) (e : PyData) : Bool := match e with
  | .tuple [l, a] => isW l 0 (s.tries - 1) && isW a 1 (s.pat - 1)
  | _ => false
def geP (e : PyData) : Bool := match e with
  | .tuple [.tuple [_, .int a], .tuple [_, .int b]] => decide (b ≤ a)
  | _ => false
def isQ (s : Stg) (x : PyData) : Bool := match x with
  | .tuple xs => !decide (s.room < (xs.length : Int)) && (xs.all isPr && (xs.all (isEn s) && (zipP xs (cut xs (some 1) none)).all geP))
  | _ => false
def isRw (s : Stg) (e : PyData) : Bool := match e with
  | .tuple xs => (xs.length : Int) == s.tries - 1
  | _ => false
def isCs (e : PyData) : Bool := match e with
  | .tuple xs => xs.all isC
  | _ => false
def isL (s : Stg) (x : PyData) : Bool := match x with
  | .tuple xs => ((xs.length : Int) == s.wait) && (xs.all (isRw s) && xs.all isCs)
  | _ => false
def seqLen (x : PyData) : Int := match x with
  | .tuple xs => xs.length
  | _ => 0
def intOf (x : PyData) : Int := match x with
  | .int i => i
  | _ => 0
def isSt (s : Stg) (x : PyData) : Bool := match x with
  | .tuple [a, q, l, t, r] => isW a 0 (if s.dead then s.room else 0) && isQ s q && (!decide (s.room < intOf a + seqLen q) && isL s l) && (isW t 0 s.tk && isW r 0 s.rs)
  | _ => false
section
variable {T : Nat → Option FD} {fuel k : Nat}
theorem cnt_ok (h : T 19 = some ⟨1, 1, true, bCnt⟩) {M : Mem} (x : PyData) : run T fuel (k + 1) 19 [.p x] M = .ok (.p (.bool (isC x))) M := by
  refine Ok.out ?_
  refine Ok_call h rfl ?_
  simp only [bCnt, enter, List.map_cons, List.map_nil, List.replicate, List.cons_append, List.nil_append, Nat.sub_self, List.append_nil]
  cases x <;>
  · repeat' (first
    | ((with_reducible apply Ok_var); (exact rfl))
    | with_reducible refine Ok_cons ?_ | with_reducible refine Ok_nil ?_ | with_reducible refine Ok_asg ?_ | with_reducible refine Ok_ret ?_ | with_reducible refine Ok_sub ?_ | with_reducible refine Ok_ife ?_
    | with_reducible refine Ok_expr ?_ | with_reducible refine Go_nx ?_ | with_reducible refine Go_rt ?_ | with_reducible refine Ok_cst ?_ | with_reducible refine Ok_bin ?_ | with_reducible refine Ok_idx ?_
    | with_reducible refine Ok_cmp ?_ | with_reducible refine Ok_chn ?_ | with_reducible refine Ok_and ?_ | with_reducible refine Ok_or ?_ | with_reducible refine Ok_not ?_ | with_reducible refine Ok_blt ?_
    | with_reducible refine Ok_callE ?_ | with_reducible refine Ok_slc ?_ | with_reducible refine Ok_ifx ?_ | with_reducible refine Ok_neg ?_ | with_reducible refine Ok_esc ?_ | with_reducible refine Ok_esn ?_
    | with_reducible refine Ok_ono ?_ | with_reducible refine Ok_oye ?_ | with_reducible refine Ok_cno ?_ | with_reducible refine Ok_cye ?_ | with_reducible refine Ok_tup ?_ | with_reducible refine Ok_lst ?_
    | with_reducible refine Ok_toB ?_ | with_reducible refine Ok_isB ?_ | with_reducible refine Ok_lt ?_ | with_reducible refine Ok_le ?_ | with_reducible refine Ok_gt ?_ | with_reducible refine Ok_ge ?_
    | with_reducible refine Ok_add ?_ | with_reducible refine Ok_sb ?_ | with_reducible refine Ok_lenS ?_ | with_reducible refine Ok_lenT ?_ | with_reducible refine Ok_lenL ?_ | with_reducible refine Ok_min ?_
    | with_reducible refine Ok_max ?_ | with_reducible refine Ok_tuL ?_ | with_reducible refine Ok_liT ?_ | with_reducible refine Ok_isi ?_ | with_reducible refine Ok_allF ?_ | with_reducible refine Ok_allT ?_
    | with_reducible refine Ok_slT ?_ | with_reducible refine Ok_comp ?_ | with_reducible refine Ok_seq ?_ | with_reducible refine Ok_rev ?_ | with_reducible refine Ok_rvT ?_ | with_reducible refine Ok_rvL ?_
    | with_reducible refine Ok_isN ?_ | with_reducible refine Ok_isNN ?_ | with_reducible refine Ok_eqI ?_ | with_reducible refine Ok_neI ?_ | with_reducible refine Ok_par ?_ | with_reducible refine Ok_asgT ?_
    | with_reducible refine Ok_dct ?_ | with_reducible refine Ok_okI ?_ | with_reducible refine Ok_bnd ?_
    | ((with_reducible refine Ok_ift ?_ ?_); (exact rfl)) | ((with_reducible refine Ok_iff ?_ ?_); (exact rfl))
    | refine Exists.intro _ (And.intro rfl ?_) | refine Exists.intro _ (Exists.intro _ (And.intro rfl (And.intro (show List.length _ ≤ _ by first | decide | simp) ?_))))
    exact fin_p (Nat.le_refl _) ⟨rfl, rfl⟩
end
end Mi

set_option Elab.async false
set_option linter.all false
set_option maxRecDepth 100000
set_option maxHeartbeats 4000000
/-! Mi: states of a setting, known. -/
namespace Mi
open PySem
section
variable {T : Nat → Option FD} {fuel k : Nat}
end
end Mi

set_option Elab.async false
set_option linter.all false
set_option maxRecDepth 100000
set_option maxHeartbeats 4000000
/-! Mi: states, looked at part by part (the law's side). -/
namespace Mi
open PySem
def bLIsL : CSs :=
  (.cons (.ife (.or (.not (.blt (.isi .tuple) (.cons (.var 1) .nil))) (.cmp .ne (.blt .len (.cons (.var 1) .nil)) (.idx (.var 0) (.cst (.int 4))))) (.cons (.ret (.cst (.bool false))) .nil) .nil) (.cons (.loop (.nm 2) (.seq (.var 1)) (.cons (.ife (.or (.not (.blt (.isi .tuple) (.cons (.var 2) .nil))) (.cmp .ne (.blt .len (.cons (.var 2) .nil)) (.bin .sub false (.idx (.var 0) (.cst (.int 3))) (.cst (.int 1))))) (.cons (.ret (.cst (.bool false))) .nil) .nil) (.cons (.ife (.cmp .ne (.comp false [3] (.nm 3) (.seq (.var 2)) (.yes (.not (.call 8 (.cons (.var 3) (.cons (.cst (.int 0)) (.cons (.bin .pow false (.cst (.int 10)) (.cst (.int 30))) .nil)))))) (.cst (.int 1))) (.lst false .nil)) (.cons (.ret (.cst (.bool false))) .nil) .nil) .nil))) (.cons (.ret (.cst (.bool true))) .nil)))
def bLIsSt : CSs :=
  (.cons (.ife (.or (.not (.blt (.isi .tuple) (.cons (.var 1) .nil))) (.or (.cmp .ne (.blt .len (.cons (.var 1) .nil)) (.cst (.int 5))) (.not (.blt (.isi .tuple) (.cons (.idx (.var 1) (.cst (.int 1))) .nil))))) (.cons (.ret (.cst (.bool false))) .nil) .nil) (.cons (.ife (.or (.not (.call 8 (.cons (.idx (.var 1) (.cst (.int 0))) (.cons (.cst (.int 0)) (.cons (.ife (.idx (.var 0) (.cst (.int 6))) (.idx (.var 0) (.cst (.int 1))) (.cst (.int 0))) .nil))))) (.cmp .gt (.bin .add false (.idx (.var 1) (.cst (.int 0))) (.blt .len (.cons (.idx (.var 1) (.cst (.int 1))) .nil))) (.idx (.var 0) (.cst (.int 1))))) (.cons (.ret (.cst (.bool false))) .nil) .nil) (.cons (.loop (.nm 2) (.seq (.idx (.var 1) (.cst (.int 1)))) (.cons (.ife (.or (.not (.blt (.isi .tuple) (.cons (.var 2) .nil))) (.or (.cmp .ne (.blt .len (.cons (.var 2) .nil)) (.cst (.int 2))) (.not (.call 8 (.cons (.idx (.var 2) (.cst (.int 0))) (.cons (.cst (.int 0)) (.cons (.bin .sub false (.idx (.var 0) (.cst (.int 3))) (.cst (.int 1))) .nil))))))) (.cons (.ret (.cst (.bool false))) .nil) .nil) (.cons (.ife (.not (.call 8 (.cons (.idx (.var 2) (.cst (.int 1))) (.cons (.cst (.int 1)) (.cons (.bin .sub false (.idx (.var 0) (.cst (.int 2))) (.cst (.int 1))) .nil))))) (.cons (.ret (.cst (.bool false))) .nil) .nil) .nil))) (.cons (.asg (.nm 3) (.comp false [2] (.nm 2) (.seq (.idx (.var 1) (.cst (.int 1)))) .no (.idx (.var 2) (.cst (.int 1))))) (.cons (.ife (.or (.cmp .ne (.var 3) (.rev false (.blt (.sorted false) (.cons (.var 3) .nil)))) (.not (.call 30 (.cons (.var 0) (.cons (.idx (.var 1) (.cst (.int 2))) .nil))))) (.cons (.ret (.cst (.bool false))) .nil) .nil) (.cons (.asg (.tp [4, 5]) (.lst false (.cons (.ife (.cmp .is (.idx (.var 0) (.cst (.int 7))) (.cst .none)) (.cst (.int 0)) (.idx (.var 0) (.cst (.int 7)))) (.cons (.ife (.cmp .is (.idx (.var 0) (.cst (.int 8))) (.cst .none)) (.cst (.int 0)) (.idx (.idx (.var 0) (.cst (.int 8))) (.cst (.int 1)))) .nil)))) (.cons (.ret (.and (.call 8 (.cons (.idx (.var 1) (.cst (.int 3))) (.cons (.cst (.int 0)) (.cons (.var 4) .nil)))) (.call 8 (.cons (.idx (.var 1) (.cst (.int 4))) (.cons (.cst (.int 0)) (.cons (.var 5) .nil)))))) .nil)))))))
def isPt (s : Stg) (e : PyData) : Bool := isRw s e && (match e with
  | .tuple ys => ys.all fun y => isW y 0 (10 ^ 30)
  | _ => false)
def isLL (s : Stg) (x : PyData) : Bool := match x with
  | .tuple xs => ((xs.length : Int) == s.wait) && xs.all (isPt s)
  | _ => false
section
variable {T : Nat → Option FD} {fuel k : Nat}
/-! ages that do not rise -/
def ageI (e : PyData) : Int := match e with
  | .tuple [_, .int a] => a
  | _ => 0
def sndD (e : PyData) : PyData := match e with
  | .tuple [_, a] => a
  | _ => .none
def adj : List Int → Bool
  | a :: b :: r => decide (b ≤ a) && adj (b :: r)
  | _ => true
theorem asInts_map : ∀ ns : List Int, asInts (ns.map PyData.int) = some ns
  | [] => rfl
  | n :: ns => by simp only [List.map_cons, asInts, asInts_map ns, Option.map_some]
theorem ints_plainA : ∀ ns : List Int, PyData.plainAll (ns.map PyData.int) = true ∧ PyData.depthAll (ns.map PyData.int) = 0
  | [] => ⟨rfl, rfl⟩
  | n :: ns => by
    have := ints_plainA ns
    simp only [List.map_cons, PyData.plainAll, PyData.depthAll, PyData.plain, PyData.depth, this, Bool.and_self, Nat.max_self, and_self]
end
end Mi

set_option Elab.async false
set_option linter.all false
set_option maxRecDepth 100000
set_option maxHeartbeats 4000000
/-! Mi: a state, looked at part by part (the law's side). -/
namespace Mi
open PySem
def Stg.dl (s : Stg) : List PyData := [.int s.work, .int s.room, .int s.pat, .int s.tries, .int s.wait, .str s.way, .bool s.dead, s.tokD, s.fuseD]
section
variable {T : Nat → Option FD} {fuel k : Nat}
end
end Mi

set_option Elab.async false
set_option linter.all false
set_option maxRecDepth 100000
set_option maxHeartbeats 4000000
/-! Mi: the pen and what is drawn, by rules; states. -/
namespace Mi
open PySem
def bLst : CSs :=
  (.cons (.asg (.tp [2, 3, 4, 5]) (.slc false (.var 1) (.yes (.cst (.int 1))) (.yes (.cst (.int 5))))) (.cons (.asg (.tp [6, 7]) (.slc false (.var 1) (.yes (.cst (.int 7))) .no)) (.cons (.asg (.nm 8) (.ife (.idx (.var 1) (.cst (.int 6))) (.call 5 (.cons (.var 0) (.cons (.bin .add false (.var 2) (.cst (.int 1))) .nil))) (.cst (.int 0)))) (.cons (.asg (.nm 9) (.ife (.cmp .gt (.var 3) (.cst (.int 1))) (.call 5 (.cons (.var 0) (.cons (.bin .add false (.bin .sub false (.var 2) (.var 8)) (.cst (.int 1))) .nil))) (.cst (.int 0)))) (.cons (.asg (.nm 10) (.rev false (.blt (.sorted false) (.cons (.comp false [11] (.nm 11) (.rng (.var 9)) .no (.bin .add false (.cst (.int 1)) (.call 5 (.cons (.var 0) (.cons (.bin .sub false (.var 3) (.cst (.int 1))) .nil))))) .nil)))) (.cons (.asg (.nm 12) (.blt .tuple (.cons (.comp false [13] (.nm 13) (.seq (.var 10)) .no (.tup (.cons (.call 5 (.cons (.var 0) (.cons (.var 4) .nil))) (.cons (.var 13) .nil)))) .nil))) (.cons (.asg (.nm 14) (.comp false [11] (.nm 11) (.rng (.var 5)) .no (.blt .tuple (.cons (.comp false [15] (.nm 15) (.rng (.bin .sub false (.var 4) (.cst (.int 1)))) .no (.call 5 (.cons (.var 0) (.cons (.cst (.int 4)) .nil)))) .nil)))) (.cons (.asg (.nm 16) (.ife (.cmp .is (.var 6) (.cst .none)) (.cst (.int 0)) (.call 5 (.cons (.var 0) (.cons (.bin .add false (.var 6) (.cst (.int 1))) .nil))))) (.cons (.ret (.tup (.cons (.var 8) (.cons (.var 12) (.cons (.blt .tuple (.cons (.var 14) .nil)) (.cons (.var 16) (.cons (.ife (.cmp .is (.var 7) (.cst .none)) (.cst (.int 0)) (.call 5 (.cons (.var 0) (.cons (.bin .add false (.idx (.var 7) (.cst (.int 1))) (.cst (.int 1))) .nil)))) .nil))))))) .nil)))))))))
theorem Ok.w {α : Type} {r : Res α} {P Q : α → Mem → Prop} {X : Nat → Mem → Prop} (h : Ok r P) (f : ∀ a M, P a M → Q a M) : Wr r Q X := by
  obtain ⟨a, M, e, p⟩ := h
  exact .ok a M e (f a M p)
/-- a pen that was used at most so often -/
def PenB (t : Nat) (p : MO) : Prop := ∃ a b c : Int, p = penO a b c ∧ 0 ≤ c ∧ c ≤ t
theorem PenB.mono {t u : Nat} {p : MO} (h : PenB t p) (hu : t ≤ u) : PenB u p := by
  obtain ⟨a, b, c, e, h1, h2⟩ := h
  exact ⟨a, b, c, e, h1, by omega⟩
theorem PenB.s {t i : Nat} {p : MO} {M : Mem} (h : PenB t p) (e : M[i]? = some p) : PenS M i t M := by
  obtain ⟨a, b, c, rfl, h1, h2⟩ := h
  have hi := List.getElem?_eq_some_iff.1 e
  exact ⟨hi.1, a, b, c, by rw [← hi.2, List.set_getElem_self], h1, h2⟩
theorem PenS.b {t i : Nat} {M N : Mem} (h : PenS M i t N) : ∃ p, PenB t p ∧ N = M.set i p := by
  obtain ⟨_, a, b, c, rfl, h1, h2⟩ := h
  exact ⟨_, ⟨a, b, c, rfl, h1, h2⟩, rfl⟩
section
variable {T : Nat → Option FD} {fuel k : Nat} {Q : D → Mem → Prop} {X : Nat → Mem → Prop} {M : Mem} {p : MO} {i t : Nat}
theorem W_draw (hT : T 5 = some ⟨2, 4, true, bDraw⟩) {n : Int} (hp : PenB t p) (ht : t < 2 ^ 50) (h0 : 0 < n) (h1 : n < 1073741824) (e : M[i]? = some p) (q : ∀ r p', 0 ≤ r → r < n → PenB (t + 1) p' → Q (.p (.int r)) (M.set i p')) : Wr (run T fuel (k + 1) 5 [.ref i, .p (.int n)] M) Q X := by
  refine (draw_ok hT (hp.s e) (by omega) h0 h1).w ?_
  rintro d N ⟨r, rfl, r0, r1, hN⟩
  obtain ⟨p', hp', rfl⟩ := hN.b
  exact q r p' r0 r1 hp'
theorem W_pick (hD : T 5 = some ⟨2, 4, true, bDraw⟩) (hT : T 6 = some ⟨2, 2, true, bPick⟩) {xs : List PyData} (hp : PenB t p) (ht : t < 2 ^ 50) (h0 : 0 < xs.length) (h1 : xs.length < 1073741824) (e : M[i]? = some p) (q : ∀ x p', x ∈ xs → PenB (t + 1) p' → Q (.p x) (M.set i p')) : Wr (run T fuel (k + 2) 6 [.ref i, .p (.list xs)] M) Q X := by
  refine (pick_ok hD hT (hp.s e) (by omega) h0 h1).w ?_
  rintro d N ⟨x, hx, rfl, hN⟩
  obtain ⟨p', hp', rfl⟩ := hN.b
  exact q x p' hx hp'
theorem W_pen (hT : T 4 = some ⟨1, 1, false, bPen⟩) {j : Int} (q : ∀ p, PenB 0 p → Q (.ref M.length) (M ++ [p])) : Wr (run T fuel (k + 1) 4 [.p (.int j)] M) Q X := by
  refine (pen_ok hT).w ?_
  rintro d N ⟨rfl, x, rfl, hN⟩
  obtain ⟨p', hp', e⟩ := hN.b
  have : (M ++ [x])[M.length]? = some p' := by
    rw [e, List.getElem?_set_self (by simp)]
  rw [List.getElem?_append_right (Nat.le_refl _), Nat.sub_self] at this
  cases this
  exact q _ hp'
theorem W_cell (hT : T 3 = some ⟨2, 2, true, bCell⟩) {ns : List Int} {j : Int} (h0 : 0 ≤ j) (q : ∀ r : Int, Q (.p (.int r)) M) : Wr (run T fuel (k + 1) 3 [.scr ns, .p (.int j)] M) Q X := by
  refine (cell_ok hT h0).w ?_
  rintro d N ⟨r, rfl, rfl⟩
  exact q r
end
theorem rngP_map (n : Int) : rngP 0 n = (List.range n.toNat).map fun i => PyData.int (i : Nat) := by
  simp [rngP]
end Mi

set_option Elab.async false
set_option linter.all false
set_option maxRecDepth 100000
set_option maxHeartbeats 4000000
/-! Mi: the pen and what is drawn, by rules; states. -/
namespace Mi
open PySem
/-! ### states -/
structure St where
  dead : Int
  queue : List (Int × Int)
  later : List (List Int)
  tok : Int
  door : Int
def enQ (e : Int × Int) : PyData := .tuple [.int e.1, .int e.2]
def enL (r : List Int) : PyData := .tuple (r.map PyData.int)
def St.d (x : St) : PyData := .tuple [.int x.dead, .tuple (x.queue.map enQ), .tuple (x.later.map enL), .int x.tok, .int x.door]
structure St.Ok (s : Stg) (x : St) : Prop where
  dead : 0 ≤ x.dead ∧ x.dead ≤ (if s.dead then s.room else 0)
  len : x.dead + x.queue.length ≤ s.room
  q : ∀ e ∈ x.queue, (0 ≤ e.1 ∧ e.1 ≤ s.tries - 1) ∧ 1 ≤ e.2 ∧ e.2 ≤ s.pat - 1
  desc : (x.queue.map (·.2)).Pairwise (· ≥ ·)
  laterL : (x.later.length : Int) = s.wait
  later : ∀ r ∈ x.later, (r.length : Int) = s.tries - 1 ∧ ∀ n ∈ r, 0 ≤ n
  tok : 0 ≤ x.tok ∧ x.tok ≤ s.tk
  door : 0 ≤ x.door ∧ x.door ≤ s.rs
section
variable {T : Nat → Option FD} {fuel k : Nat}
end
end Mi

set_option Elab.async false
set_option linter.all false
set_option maxRecDepth 100000
set_option maxHeartbeats 4000000
/-! k52: the law's own hand. -/
namespace K52
open PySem Mi
def fsD (fs : List Int) : PyData := .tuple (fs.map .int)
theorem any_eq (a : Bool) : PyData.eqv (.str (modeS a)) (.str (Str.ofString "any")) = a := by cases a <;> rfl
/-- a while whose test changes nothing -/
theorem W_whileB {fn : Fn} {fuel : Nat} {c : CE} {b : CSs} {ρ : Mi.Env} (I : Nat → Mi.Env → Mem → Prop) {M : Mem} {Q : Fl → Mem → Prop} (n : Nat) (hn : n < fuel) (h0 : I n ρ M)
    (hc : ∀ n ρ M, I n ρ M → ∃ k, evE fn c ρ M = .ok (.p (.bool k)) M ∧ (k = true → ∃ m, n = m + 1 ∧ Wr (evSs fn fuel b ρ M) (stepQ (fun ρ N => I m ρ N) (fun ρ N => Q (.nx ρ) N) Q) NoX) ∧ (k = false → Q (.nx ρ) M)) : Wr (whileLoop (whlTest fn c) (fun ρ M => evSs fn fuel b ρ M) fuel ρ M) Q NoX := by
  suffices h : ∀ (f n : Nat) (ρ : Mi.Env) (M : Mem), n < f → I n ρ M → Wr (whileLoop (whlTest fn c) (fun ρ M => evSs fn fuel b ρ M) f ρ M) Q NoX from h fuel n ρ M hn h0
  intro f
  induction f with
  | zero => intro n ρ M hn; omega
  | succ f ih =>
    intro n ρ M hn hI
    rw [whileLoop]
    obtain ⟨k, e1, h1, h2⟩ := hc n ρ M hI
    have e3 : whlTest fn c ρ M = .ok k M := by simp only [whlTest, e1, Res.bind, toB, truth, dat]
    rw [e3]
    cases k with
    | false => exact .ok _ _ rfl (h2 rfl)
    | true =>
      try dsimp only
      obtain ⟨m, rfl, h3⟩ := h1 rfl
      obtain ⟨o, K, e4, hq⟩ := h3.get
      rw [e4]
      cases o with
      | nx ρ' => exact ih m ρ' K (by omega) hq
      | ct ρ' => exact ih m ρ' K (by omega) hq
      | bk ρ' => exact .ok _ _ rfl hq
      | rt d => exact .ok _ _ rfl hq
      | ex c d => exact .ok _ _ rfl hq
theorem des4 (x y z : PyData) : Des (List.range' 0 4) [.p x, .p y, .p z, .ref 3] [.p x, .p y, .p z, .ref 3] := .cons (d := .p x) rfl (.cons (d := .p y) rfl (.cons (d := .p z) rfl (.cons (d := .ref 3) (d' := .ref 3) ⟨3, rfl, rfl⟩ .nil)))
theorem eqv_int (a b : Int) : PyData.eqv (.int a) (.int b) = decide (a = b) := by
  simp only [PyData.eqv]
  rw [Bool.eq_iff_iff]; simp
theorem not_in (fs : List Int) : (∀ k : Int, (PyData.plainAll (fs.map .int) && (PyData.int k).plain && decide ((PyData.int k).depth ≤ 60)) = true) ∧ ∀ k : Int, (fs.map PyData.int).any (fun y => PyData.eqv y (.int k)) = fs.contains k := by
  refine ⟨fun k => ?_, fun k => ?_⟩
  · rw [(ints_plainA fs).1]; rfl
  · rw [List.any_map, Bool.eq_iff_iff, List.any_eq_true, List.contains_iff_mem]
    constructor
    · rintro ⟨y, hy, e⟩
      have : y = k := by simpa [Function.comp, PyData.eqv] using e
      rw [← this]; exact hy
    · intro h
      exact ⟨k, h, by simp [Function.comp, PyData.eqv]⟩
def cTst : CE := ((CE.cmp COp.lt (CE.var 5) (CE.blt BF.len (CEs.cons ((CE.var 0).idx (CE.cst (PyData.int 3))) CEs.nil))).and
          ((CE.cmp COp.eq (CE.var 4) (CE.lst false CEs.nil)).or
            (CE.cmp COp.ne ((CE.var 4).idx (CE.cst (PyData.int 1)).neg)
              (CE.cmp COp.eq ((CE.var 0).idx (CE.cst (PyData.int 2))) (CE.cst (PyData.str (Str.ofString "any")))))))
def goes (a : Bool) (told : List Bool) : Bool := match told.getLast? with
  | none => true
  | some c => !(c == a)
theorem tst_ok {fn : Fn} {told : List Bool} {dn : Int} {s t : Int} {a : Bool} {xs : List PyData} {p f : PyData} {h : Hd} (hl : told.length ≤ 3) :
    evE fn cTst [some (.p (.tuple [.int s, .int t, .str (modeS a), .tuple xs])), some (.p p), some (.p f), some (.ref 3), some (.ref 4), some (.p (.int dn))] (handM h ++ [.lst (told.map .bool)]) =
      .ok (.p (.bool (decide (dn < (xs.length : Int)) && goes a told))) (handM h ++ [.lst (told.map .bool)]) := by
  have ha := any_eq a
  have hm : (PyData.str (modeS a)).plain = true ∧ (PyData.str (modeS a)).depth ≤ 60 := by cases a <;> exact ⟨rfl, by decide⟩
  refine Wr.out (wpE.s ?_)
  by_cases hd : dn < (xs.length : Int)
  · rw [show decide (dn < (xs.length : Int)) = true from decide_eq_true hd]
    match told, hl with
    | [], _ => cases a <;> ((repeat' ((conv => whnf); first | (refine SC.mk (by first | decide | omega | exact Nat.le_of_ble_eq_true rfl | (simp; omega) | (simp; done) | rfl) ?_) | (refine WIf.tt rfl ?_) | (refine WIf.ff rfl ?_) | (refine wpSs.s ?_) | (refine WIf.tt (decide_eq_true hd) ?_) | (refine SC.mk ⟨rfl, rfl, Nat.le_of_ble_eq_true rfl⟩ ?_))); (all_goals (conv => whnf)); exact ⟨rfl, rfl⟩)
    | [c1], _ => cases a <;> cases c1 <;> ((repeat' ((conv => whnf); first | (refine SC.mk (by first | decide | omega | exact Nat.le_of_ble_eq_true rfl | (simp; omega) | (simp; done) | rfl) ?_) | (refine WIf.tt rfl ?_) | (refine WIf.ff rfl ?_) | (refine wpSs.s ?_) | (refine WIf.tt (decide_eq_true hd) ?_) | (refine SC.mk ⟨rfl, rfl, Nat.le_of_ble_eq_true rfl⟩ ?_))); (all_goals (conv => whnf)); exact ⟨rfl, rfl⟩)
    | [c1, c2], _ => cases a <;> cases c2 <;> ((repeat' ((conv => whnf); first | (refine SC.mk (by first | decide | omega | exact Nat.le_of_ble_eq_true rfl | (simp; omega) | (simp; done) | rfl) ?_) | (refine WIf.tt rfl ?_) | (refine WIf.ff rfl ?_) | (refine wpSs.s ?_) | (refine WIf.tt (decide_eq_true hd) ?_) | (refine SC.mk ⟨rfl, rfl, Nat.le_of_ble_eq_true rfl⟩ ?_))); (all_goals (conv => whnf)); exact ⟨rfl, rfl⟩)
    | [c1, c2, c3], _ => cases a <;> cases c3 <;> ((repeat' ((conv => whnf); first | (refine SC.mk (by first | decide | omega | exact Nat.le_of_ble_eq_true rfl | (simp; omega) | (simp; done) | rfl) ?_) | (refine WIf.tt rfl ?_) | (refine WIf.ff rfl ?_) | (refine wpSs.s ?_) | (refine WIf.tt (decide_eq_true hd) ?_) | (refine SC.mk ⟨rfl, rfl, Nat.le_of_ble_eq_true rfl⟩ ?_))); (all_goals (conv => whnf)); exact ⟨rfl, rfl⟩)
    | _ :: _ :: _ :: _ :: _, h => simp at h
  · rw [show decide (dn < (xs.length : Int)) = false from decide_eq_false hd]
    (conv => whnf)
    refine WIf.ff (decide_eq_false hd) ?_
    (conv => whnf)
    exact ⟨rfl, rfl⟩
section
variable {fuel K : Nat} {n : Nat} {kp : Bool} {fs : List Int} {pl z : PyData}
theorem tried_ok (ih : ∀ (p : Tr n), p.Ok → ∀ B h, Bd B h → B + cost n ≤ 16000000 → run Tb fuel K 205 [.p p.d, .p pl, .p (fsD fs), .ref 3] (handM h) = .ok (.p (.bool (callA kp fs p h).1)) (handM (callA kp fs p h).2))
    {x : Tr (n + 1)} (hx : x.Ok) {B : Nat} {h : Hd} (b : Bd B h) (hB : B + (2 + 3 * cost n) ≤ 16000000) (hfu : 100 < fuel) :
    run Tb fuel (K + 1) 206 [.p x.d, .p pl, .p (fsD fs), .ref 3] (handM h) = .ok (.p (.bool (att (callA kp fs) fs x.1.1 x.1.2.2 x.2 h).1)) (handM (att (callA kp fs) fs x.1.1 x.1.2.2 x.2 h).2) := by
  obtain ⟨⟨s, t, a⟩, ps⟩ := x
  obtain ⟨hs, ht, hl, hps⟩ := hx
  refine Wr.out ?_
  refine wp_call (show Tb 206 = some _ from rfl) rfl ?_
  have hcalls : ∀ (p : Tr n), p.Ok → ∀ B h, Bd B h → B + cost n ≤ 16000000 → ∀ post, run Tb fuel K 205 [.p p.d, .p pl, .p (fsD fs), .ref 3] ([] ++ (handM h ++ post)) = .ok (.p (.bool (callA kp fs p h).1)) ([] ++ (handM (callA kp fs p h).2 ++ post)) := fun p hp B h b hB post => runB (bs := handM h) (bs' := handM (callA kp fs p h).2) rfl (des4 p.d pl (fsD fs)) (ih p hp B h b hB)
  generalize run Tb fuel K = fn at *
  have b1 := b.a
  have b2 := b.d
  rw [show (Tr.d (n := n + 1) ((s, t, a), ps)) = .tuple [.int s, .int t, .str (modeS a), .tuple (ps.map Tr.d)] from rfl]
  unfold handM
  refine wpSs.s ?_; (repeat' ((conv => whnf); first | (refine SC.mk (by first | decide | omega | exact Nat.le_of_ble_eq_true rfl | (simp; omega) | (simp; done) | rfl) ?_) | (refine WIf.tt rfl ?_) | (refine WIf.ff rfl ?_)  | (refine SC.mk (by rw [List.length_map]; omega) ?_))); (all_goals (conv => whnf))
  refine wpSs.s ?_; (repeat' ((conv => whnf); first | (refine SC.mk (by first | decide | omega | exact Nat.le_of_ble_eq_true rfl | (simp; omega) | (simp; done) | rfl) ?_) | (refine WIf.tt rfl ?_) | (refine WIf.ff rfl ?_) )); (all_goals (conv => whnf))
  refine wpSs.s ?_
  (conv => whnf)
  generalize hf : callA kp fs (n := n) = f at *
  have hbd : ∀ p ∈ ps, ∀ B h, Bd B h → Bd (B + cost n) (f p h).2 := fun p hp B h b => by rw [← hf]; exact callA_bd (hps p hp) B h b
  have hps : ∀ p ∈ ps, p.Ok := hps
  have hl : ps.length ≤ 3 := hl
  refine W_whileB (fun m ρ M => ∃ (done todo : List (Tr n)) (told : List Bool) (h' : Hd), ps = done ++ todo ∧ m = todo.length ∧ told.length = done.length ∧ Bd (B + 1 + done.length * cost n) h' ∧
      ρ = [some (.p (.tuple [.int s, .int t, .str (modeS a), .tuple (ps.map Tr.d)])), some (.p pl), some (.p (fsD fs)), some (.ref 3), some (.ref 4), some (.p (.int done.length))] ∧ M = handM h' ++ [.lst (told.map .bool)] ∧
      (match told.getLast? with
        | none => h' = { h with asks := h.asks ++ [s] }
        | some c => partsL f a ps { h with asks := h.asks ++ [s] } = if c = a then (a, h') else partsL f a todo h')) ps.length (by omega) ?_ ?_
  · exact ⟨[], ps, [], { h with asks := h.asks ++ [s] }, rfl, rfl, rfl, ⟨by have := b.k; show h.kept.length ≤ _; omega, by have := b.a; simp; omega, by have := b.d; show h.decs.length ≤ _; omega, fun a ha => by
      rcases List.mem_append.1 ha with h1 | h1
      · exact b.s a h1
      · rw [List.mem_singleton.1 h1]; exact hs⟩, rfl, by simp [handM], rfl⟩
  · rintro m ρ M ⟨done, todo, told, h', e, rfl, hd, bd, rfl, rfl, st⟩
    have hlen : ps.length = done.length + todo.length := by rw [e, List.length_append]
    have hdl' : done.length ≤ 3 := by omega
    refine ⟨_, tst_ok (by omega), fun ht => ?_, fun hf => ?_⟩
    · simp only [Bool.and_eq_true, decide_eq_true_eq, List.length_map] at ht
      obtain ⟨ht1, ht2⟩ := ht
      obtain ⟨p, todo', rfl⟩ : ∃ p r, todo = p :: r := by
        cases todo with
        | nil => simp at hlen; omega
        | cons p r => exact ⟨p, r, rfl⟩
      refine ⟨todo'.length, rfl, ?_⟩
      have hp : p ∈ ps := by rw [e]; simp
      have hat : L2.atI (ps.map Tr.d) (done.length : Int) = some p.d := L2.atI_nat (by rw [e]; simp)
      have hm3 : done.length * cost n ≤ 2 * cost n := Nat.mul_le_mul_right _ (by simp at hlen; omega)
      have hcall := hcalls p (hps p hp) _ h' bd (by omega) [.lst (told.map .bool)]
      refine wpSs.s ?_; (repeat' ((conv => whnf); first | (refine SC.mk (by first | decide | omega | exact Nat.le_of_ble_eq_true rfl | (simp; omega) | (simp; done) | rfl) ?_) | (refine WIf.tt rfl ?_) | (refine WIf.ff rfl ?_)  | (refine wOpt.i hat ?_) | (refine Wr.eq hcall ?_) | (refine SC.mk (by rw [List.length_map]; omega) ?_))); (all_goals (conv => whnf))
      (repeat' ((conv => whnf); first | (refine SC.mk (by first | decide | omega | exact Nat.le_of_ble_eq_true rfl | (simp; omega) | (simp; done) | rfl) ?_) | (refine WIf.tt rfl ?_) | (refine WIf.ff rfl ?_) | (refine wpSs.s ?_))); (all_goals (conv => whnf))
      refine ⟨done ++ [p], todo', told ++ [(f p h').1], (f p h').2, by rw [e]; simp, rfl, by simp [hd], ?_, by rw [List.length_append]; rfl, by rw [List.map_append]; rfl, ?_⟩
      · refine (hbd p hp _ h' bd).mono ?_
        rw [List.length_append, List.length_singleton, Nat.succ_mul]
        omega
      · rw [List.getLast?_concat]
        try dsimp only
        cases hg : told.getLast? with
        | none =>
          rw [hg] at st
          try dsimp only at st
          have ht0 : told = [] := List.getLast?_eq_none_iff.1 hg
          subst ht0
          have hd0 : done = [] := List.length_eq_zero_iff.1 hd.symm
          subst hd0
          rw [e, ← st]
          rfl
        | some c =>
          rw [hg] at st
          try dsimp only at st
          unfold goes at ht2
          rw [hg] at ht2
          rw [st, if_neg (by simpa using ht2)]
          rfl
    · have hk : lets f a ps { h with asks := h.asks ++ [s] } = (told.getLast?.getD true, h') := by
        simp only [List.length_map] at hf
        cases hg : told.getLast? with
        | none =>
          rw [hg] at st
          try dsimp only at st
          have ht0 : told = [] := List.getLast?_eq_none_iff.1 hg
          subst ht0
          have hps0 : ps = [] := by
            simp only [goes, hg, Bool.and_true, decide_eq_false_iff_not] at hf
            refine List.length_eq_zero_iff.1 ?_
            have : done.length = 0 := hd.symm
            omega
          rw [hps0, st]
          rfl
        | some c =>
          rw [hg] at st
          try dsimp only at st
          have hne : ps ≠ [] := by
            intro h0
            have : told ≠ [] := fun h1 => by rw [h1] at hg; cases hg
            have : told.length ≠ 0 := fun h1 => this (List.length_eq_zero_iff.1 h1)
            rw [h0] at hlen
            simp at hlen
            omega
          have el : lets f a ps { h with asks := h.asks ++ [s] } = partsL f a ps { h with asks := h.asks ++ [s] } := by
            unfold lets
            split
            · exact absurd rfl hne
            · rfl
          rw [el, st]
          by_cases hc : c = a
          · rw [if_pos hc, hc]; rfl
          · rw [if_neg hc]
            have hg2 : goes a told = true := by unfold goes; rw [hg]; simpa using hc
            rw [hg2, Bool.and_true, decide_eq_false_iff_not] at hf
            have ht0 : todo = [] := List.length_eq_zero_iff.1 (by omega)
            rw [ht0]
            unfold partsL
            have : (!a) = c := by revert hc; cases a <;> cases c <;> simp
            rw [this]; rfl
      have b3 : h'.decs.length ≤ 16000000 := by
        have := bd.d
        have : done.length * cost n ≤ 3 * cost n := Nat.mul_le_mul_right _ hdl'
        omega
      have hatt : att f fs s a ps h = if told.getLast?.getD true = true then decide1 fs s h' else (false, h') := by unfold att; rw [hk]
      show Wr _ (fun o N => wEnd true 4 o N (fun b N => b = .p (.bool (att f fs s a ps h).1) ∧ N = handM (att f fs s a ps h).2) NoX) NoX
      rw [hatt]
      have ho := not_in fs
      have hL : (((h'.decs.map PyData.int ++ [PyData.int s]).length : Int) - 1) = (h'.decs.length : Int) := by simp
      have hB : (!(fs.map PyData.int).any (fun y => PyData.eqv y (.int (((h'.decs.map PyData.int ++ [PyData.int s]).length : Int) - 1)))) = !(fs.contains (h'.decs.length : Int)) := by rw [ho.2, hL]
      have hM : [MO.lst (h'.kept.map .int), .lst (h'.asks.map .int), .lst (h'.decs.map PyData.int ++ [PyData.int s]), .hdr 0 [(("" : String), .d (optD h'.left)), (("" : String), .s 2), (("" : String), .s 1), (("" : String), .s 0)]] = handM (decide1 fs s h').2 := by
        simp [handM, decide1]
      have fin : D.p (.bool (!((fs.map PyData.int).any (fun y => PyData.eqv y (.int (((h'.decs.map PyData.int ++ [PyData.int s]).length : Int) - 1)))))) = D.p (.bool (decide1 fs s h').1) ∧ [MO.lst (h'.kept.map .int), .lst (h'.asks.map .int), .lst (h'.decs.map PyData.int ++ [PyData.int s]), .hdr 0 [(("" : String), .d (optD h'.left)), (("" : String), .s 2), (("" : String), .s 1), (("" : String), .s 0)]] = handM (decide1 fs s h').2 := ⟨by rw [hB]; rfl, hM⟩
      match told, hd with
      | [], _ =>
        (repeat' ((conv => whnf); first | (refine SC.mk (by first | decide | omega | exact Nat.le_of_ble_eq_true rfl | (simp; omega) | (simp; done) | rfl) ?_) | (refine WIf.tt rfl ?_) | (refine WIf.ff rfl ?_) | (refine wpSs.s ?_) | (refine SC.mk (ho.1 _) ?_) | (refine SC.mk (by rw [List.length_map]; omega) ?_))); (all_goals (conv => whnf))
        exact fin
      | [c1], _ =>
        cases c1 with
        | true =>
          (repeat' ((conv => whnf); first | (refine SC.mk (by first | decide | omega | exact Nat.le_of_ble_eq_true rfl | (simp; omega) | (simp; done) | rfl) ?_) | (refine WIf.tt rfl ?_) | (refine WIf.ff rfl ?_) | (refine wpSs.s ?_) | (refine SC.mk ⟨rfl, rfl, Nat.le_of_ble_eq_true rfl⟩ ?_) | (refine SC.mk (ho.1 _) ?_) | (refine SC.mk (by rw [List.length_map]; omega) ?_))); (all_goals (conv => whnf))
          exact fin
        | false =>
          (repeat' ((conv => whnf); first | (refine SC.mk (by first | decide | omega | exact Nat.le_of_ble_eq_true rfl | (simp; omega) | (simp; done) | rfl) ?_) | (refine WIf.tt rfl ?_) | (refine WIf.ff rfl ?_) | (refine wpSs.s ?_) | (refine SC.mk ⟨rfl, rfl, Nat.le_of_ble_eq_true rfl⟩ ?_))); (all_goals (conv => whnf))
          exact ⟨rfl, rfl⟩
      | [c1, c2], _ =>
        cases c2 with
        | true =>
          (repeat' ((conv => whnf); first | (refine SC.mk (by first | decide | omega | exact Nat.le_of_ble_eq_true rfl | (simp; omega) | (simp; done) | rfl) ?_) | (refine WIf.tt rfl ?_) | (refine WIf.ff rfl ?_) | (refine wpSs.s ?_) | (refine SC.mk ⟨rfl, rfl, Nat.le_of_ble_eq_true rfl⟩ ?_) | (refine SC.mk (ho.1 _) ?_) | (refine SC.mk (by rw [List.length_map]; omega) ?_))); (all_goals (conv => whnf))
          exact fin
        | false =>
          (repeat' ((conv => whnf); first | (refine SC.mk (by first | decide | omega | exact Nat.le_of_ble_eq_true rfl | (simp; omega) | (simp; done) | rfl) ?_) | (refine WIf.tt rfl ?_) | (refine WIf.ff rfl ?_) | (refine wpSs.s ?_) | (refine SC.mk ⟨rfl, rfl, Nat.le_of_ble_eq_true rfl⟩ ?_))); (all_goals (conv => whnf))
          exact ⟨rfl, rfl⟩
      | [c1, c2, c3], _ =>
        cases c3 with
        | true =>
          (repeat' ((conv => whnf); first | (refine SC.mk (by first | decide | omega | exact Nat.le_of_ble_eq_true rfl | (simp; omega) | (simp; done) | rfl) ?_) | (refine WIf.tt rfl ?_) | (refine WIf.ff rfl ?_) | (refine wpSs.s ?_) | (refine SC.mk ⟨rfl, rfl, Nat.le_of_ble_eq_true rfl⟩ ?_) | (refine SC.mk (ho.1 _) ?_) | (refine SC.mk (by rw [List.length_map]; omega) ?_))); (all_goals (conv => whnf))
          exact fin
        | false =>
          (repeat' ((conv => whnf); first | (refine SC.mk (by first | decide | omega | exact Nat.le_of_ble_eq_true rfl | (simp; omega) | (simp; done) | rfl) ?_) | (refine WIf.tt rfl ?_) | (refine WIf.ff rfl ?_) | (refine wpSs.s ?_) | (refine SC.mk ⟨rfl, rfl, Nat.le_of_ble_eq_true rfl⟩ ?_))); (all_goals (conv => whnf))
          exact ⟨rfl, rfl⟩
      | _ :: _ :: _ :: _ :: _, h => simp at h; omega
theorem asked_step (ih : ∀ (p : Tr n), p.Ok → ∀ B h, Bd B h → B + cost n ≤ 16000000 → run Tb fuel K 205 [.p p.d, .p (.tuple [z, .bool kp]), .p (fsD fs), .ref 3] (handM h) = .ok (.p (.bool (callA kp fs p h).1)) (handM (callA kp fs p h).2))
    {x : Tr (n + 1)} (hx : x.Ok) {B : Nat} {h : Hd} (b : Bd B h) (hB : B + cost (n + 1) ≤ 16000000) (hfu : 100 < fuel) :
    run Tb fuel (K + 2) 205 [.p x.d, .p (.tuple [z, .bool kp]), .p (fsD fs), .ref 3] (handM h) = .ok (.p (.bool (callA kp fs x h).1)) (handM (callA kp fs x h).2) := by
  have htr : ∀ B h, Bd B h → B + (2 + 3 * cost n) ≤ 16000000 → run Tb fuel (K + 1) 206 [.p x.d, .p (.tuple [z, .bool kp]), .p (fsD fs), .ref 3] (handM h) = .ok (.p (.bool (att (callA kp fs) fs x.1.1 x.1.2.2 x.2 h).1)) (handM (att (callA kp fs) fs x.1.1 x.1.2.2 x.2 h).2) := fun B h b hB => tried_ok ih hx b hB hfu
  have hbd : ∀ B h, Bd B h → Bd (B + (2 + 3 * cost n)) (att (callA kp fs) fs x.1.1 x.1.2.2 x.2 h).2 := fun B h b => att_bd hx.1 hx.2.2.1 (fun p hp B h b => callA_bd (hx.2.2.2 p hp) B h b) b
  have hc : callA kp fs x h = if kp && h.kept.contains x.1.1 then (true, h) else triesL (att (callA kp fs) fs x.1.1 x.1.2.2 x.2) x.1.1 x.1.2.1.toNat 0 h := rfl
  rw [hc]
  obtain ⟨⟨s, t, a⟩, ps⟩ := x
  obtain ⟨hs, ht, hl, hps⟩ := hx
  refine Wr.out ?_
  refine wp_call (show Tb 205 = some _ from rfl) rfl ?_
  generalize run Tb fuel (K + 1) = fn at *
  rw [show (Tr.d (n := n + 1) ((s, t, a), ps)) = .tuple [.int s, .int t, .str (modeS a), .tuple (ps.map Tr.d)] from rfl] at htr ⊢
  try dsimp only at htr hbd hs ht ⊢
  generalize att (callA kp fs) fs s a ps = g at *
  have hni := not_in h.kept
  refine W_cutS (fun ρ N => ρ = [some (.p (.tuple [.int s, .int t, .str (modeS a), .tuple (ps.map Tr.d)])), some (.p (.tuple [z, .bool kp])), some (.p (fsD fs)), some (.ref 3), none] ∧ N = handM h ∧ (kp && h.kept.contains s) = false) ?_ ?_
  · cases kp with
    | false =>
      (repeat' ((conv => whnf); first | (refine SC.mk (by first | decide | omega | exact Nat.le_of_ble_eq_true rfl | (simp; omega) | (simp; done) | rfl) ?_) | (refine WIf.tt rfl ?_) | (refine WIf.ff rfl ?_) | (refine wpSs.s ?_))); (all_goals (conv => whnf))
      exact ⟨rfl, rfl, rfl⟩
    | true =>
      (repeat' ((conv => whnf); first | (refine SC.mk (by first | decide | omega | exact Nat.le_of_ble_eq_true rfl | (simp; omega) | (simp; done) | rfl) ?_) | (refine WIf.tt rfl ?_) | (refine WIf.ff rfl ?_) | (refine wpSs.s ?_) | (refine SC.mk (hni.1 _) ?_))); (all_goals (conv => whnf))
      refine WIf.mk (fun hc => ?_) (fun hc => ?_)
      · rw [hni.2] at hc
        (repeat' ((conv => whnf); first | (refine SC.mk (by first | decide | omega | exact Nat.le_of_ble_eq_true rfl | (simp; omega) | (simp; done) | rfl) ?_) | (refine WIf.tt rfl ?_) | (refine WIf.ff rfl ?_) | (refine wpSs.s ?_))); (all_goals (conv => whnf))
        rw [hc]
        exact ⟨rfl, rfl⟩
      · rw [hni.2] at hc
        (repeat' ((conv => whnf); first | (refine SC.mk (by first | decide | omega | exact Nat.le_of_ble_eq_true rfl | (simp; omega) | (simp; done) | rfl) ?_) | (refine WIf.tt rfl ?_) | (refine WIf.ff rfl ?_) | (refine wpSs.s ?_))); (all_goals (conv => whnf))
        exact ⟨rfl, rfl, by rw [hc]; rfl⟩
  rintro ρ N ⟨rfl, rfl, hk⟩
  rw [hk]
  simp only [Bool.false_eq_true, if_false]
  refine wpSs.s ?_
  (conv => whnf)
  refine SC.mk (by simp [rngOk]; omega) ?_
  (conv => whnf)
  rw [rngP_map]
  have hcost : t.toNat * (3 + 3 * cost n) ≤ cost (n + 1) := by
    have := Nat.mul_le_mul_right (3 + 3 * cost n) (show t.toNat ≤ 3 by omega)
    simpa [cost] using this
  refine W_for (fun i : Nat => PyData.int (i : Nat)) (List.range t.toNat) (fun pre ρ N => ∃ h' tv, ρ = [some (.p (.tuple [.int s, .int t, .str (modeS a), .tuple (ps.map Tr.d)])), some (.p (.tuple [z, .bool kp])), some (.p (fsD fs)), some (.ref 3), tv] ∧ N = handM h' ∧
      Bd (B + pre.length * (3 + 3 * cost n)) h' ∧ triesL g s t.toNat 0 h = triesL g s (t.toNat - pre.length) pre.length h') ⟨h, none, rfl, rfl, b.mono (by omega), rfl⟩ ?_ ?_
  · rintro pre i post hpre ρ N ⟨h', tv, rfl, rfl, bd, et⟩
    have hlen : t.toNat = pre.length + (post.length + 1) := by
      have := congrArg List.length hpre
      simpa using this
    have hi : i = pre.length := by
      have h1 : (List.range t.toNat)[pre.length]? = some i := by rw [hpre]; simp
      rw [List.getElem?_range (by omega)] at h1
      exact (Option.some.inj h1).symm
    have hpos : pre.length * (3 + 3 * cost n) + (3 + 3 * cost n) ≤ cost (n + 1) := by
      have := Nat.mul_le_mul_right (3 + 3 * cost n) (show pre.length + 1 ≤ t.toNat by omega)
      rw [Nat.succ_mul] at this
      omega
    rw [show t.toNat - pre.length = post.length + 1 by omega] at et
    subst hi
    obtain ⟨lf, kt, ak, dc⟩ := h'
    (conv => whnf)
    refine W_cutS (fun ρ N => ρ = [some (.p (.tuple [.int s, .int t, .str (modeS a), .tuple (ps.map Tr.d)])), some (.p (.tuple [z, .bool kp])), some (.p (fsD fs)), some (.ref 3), some (.p (.int (pre.length : Nat)))] ∧ N = handM ⟨lf, kt, ak, dc⟩ ∧ (0 < pre.length → lf ≠ some 0)) ?_ ?_
    · by_cases h0 : 0 < pre.length
      · have hd : decide ((0 : Int) < ((pre.length : Nat) : Int)) = true := decide_eq_true (by omega)
        cases lf with
        | none =>
          (repeat' ((conv => whnf); first | (refine SC.mk (by first | decide | omega | exact Nat.le_of_ble_eq_true rfl | (simp; omega) | (simp; done) | rfl) ?_) | (refine WIf.tt rfl ?_) | (refine WIf.ff rfl ?_) | (refine wpSs.s ?_) | (refine WIf.tt hd ?_) | (refine SC.mk ⟨rfl, rfl, Nat.le_of_ble_eq_true rfl⟩ ?_))); (all_goals (conv => whnf))
          exact ⟨rfl, rfl, fun _ h => by cases h⟩
        | some b0 =>
          by_cases hb : b0 = 0
          · subst hb
            (repeat' ((conv => whnf); first | (refine SC.mk (by first | decide | omega | exact Nat.le_of_ble_eq_true rfl | (simp; omega) | (simp; done) | rfl) ?_) | (refine WIf.tt rfl ?_) | (refine WIf.ff rfl ?_) | (refine wpSs.s ?_) | (refine WIf.tt hd ?_) | (refine SC.mk ⟨rfl, rfl, Nat.le_of_ble_eq_true rfl⟩ ?_))); (all_goals (conv => whnf))
            rw [et, triesL, if_pos h0]
            exact ⟨rfl, rfl⟩
          · have he : PyData.eqv (.int b0) (.int 0) = false := (eqv_int _ _).trans (decide_eq_false hb)
            (repeat' ((conv => whnf); first | (refine SC.mk (by first | decide | omega | exact Nat.le_of_ble_eq_true rfl | (simp; omega) | (simp; done) | rfl) ?_) | (refine WIf.tt rfl ?_) | (refine WIf.ff rfl ?_) | (refine wpSs.s ?_) | (refine WIf.tt hd ?_) | (refine SC.mk ⟨rfl, rfl, Nat.le_of_ble_eq_true rfl⟩ ?_) | (refine WIf.ff he ?_))); (all_goals (conv => whnf))
            exact ⟨rfl, rfl, fun _ h => hb (Option.some.inj h)⟩
      · have hd : decide ((0 : Int) < ((pre.length : Nat) : Int)) = false := decide_eq_false (by omega)
        (repeat' ((conv => whnf); first | (refine SC.mk (by first | decide | omega | exact Nat.le_of_ble_eq_true rfl | (simp; omega) | (simp; done) | rfl) ?_) | (refine WIf.tt rfl ?_) | (refine WIf.ff rfl ?_) | (refine wpSs.s ?_) | (refine WIf.ff hd ?_))); (all_goals (conv => whnf))
        exact ⟨rfl, rfl, fun h => absurd h h0⟩
    rintro ρ N ⟨rfl, rfl, hnz⟩
    refine W_cutS (fun ρ N => ρ = [some (.p (.tuple [.int s, .int t, .str (modeS a), .tuple (ps.map Tr.d)])), some (.p (.tuple [z, .bool kp])), some (.p (fsD fs)), some (.ref 3), some (.p (.int (pre.length : Nat)))] ∧ ∃ h0, N = handM h0 ∧ (if 0 < pre.length then take ⟨lf, kt, ak, dc⟩ else (true, ⟨lf, kt, ak, dc⟩)) = (true, h0)) ?_ ?_
    · by_cases h0 : 0 < pre.length
      · have hd : decide ((0 : Int) < ((pre.length : Nat) : Int)) = true := decide_eq_true (by omega)
        rw [if_pos h0]
        cases lf with
        | none =>
          (repeat' ((conv => whnf); first | (refine SC.mk (by first | decide | omega | exact Nat.le_of_ble_eq_true rfl | (simp; omega) | (simp; done) | rfl) ?_) | (refine WIf.tt rfl ?_) | (refine WIf.ff rfl ?_) | (refine wpSs.s ?_) | (refine WIf.tt hd ?_))); (all_goals (conv => whnf))
          exact ⟨rfl, _, rfl, rfl⟩
        | some b0 =>
          (repeat' ((conv => whnf); first | (refine SC.mk (by first | decide | omega | exact Nat.le_of_ble_eq_true rfl | (simp; omega) | (simp; done) | rfl) ?_) | (refine WIf.tt rfl ?_) | (refine WIf.ff rfl ?_) | (refine wpSs.s ?_) | (refine WIf.tt hd ?_))); (all_goals (conv => whnf))
          refine ⟨rfl, ⟨some (b0 - 1), kt, ak, dc⟩, rfl, ?_⟩
          simp only [take]
          rw [if_neg (fun e => hnz h0 (by rw [e]))]
      · have hd : decide ((0 : Int) < ((pre.length : Nat) : Int)) = false := decide_eq_false (by omega)
        rw [if_neg h0]
        (repeat' ((conv => whnf); first | (refine SC.mk (by first | decide | omega | exact Nat.le_of_ble_eq_true rfl | (simp; omega) | (simp; done) | rfl) ?_) | (refine WIf.tt rfl ?_) | (refine WIf.ff rfl ?_) | (refine wpSs.s ?_) | (refine WIf.ff hd ?_))); (all_goals (conv => whnf))
        exact ⟨rfl, _, rfl, rfl⟩
    rintro ρ N ⟨rfl, h0, rfl, hh0⟩
    have bd0 : Bd (B + pre.length * (3 + 3 * cost n)) h0 := by
      have e : h0 = (if 0 < pre.length then take ⟨lf, kt, ak, dc⟩ else (true, ⟨lf, kt, ak, dc⟩)).2 := by rw [hh0]
      rw [e]
      split
      · exact take_bd bd
      · exact bd
    have hk2 : (g h0).2.kept.length ≤ 16000000 := by
      have := (hbd _ _ bd0).k
      omega
    rw [triesL, hh0] at et
    simp only [if_true] at et
    refine wpSs.s ?_; (repeat' ((conv => whnf); first | (refine SC.mk (by first | decide | omega | exact Nat.le_of_ble_eq_true rfl | (simp; omega) | (simp; done) | rfl) ?_) | (refine WIf.tt rfl ?_) | (refine WIf.ff rfl ?_)  | (refine Wr.eq (htr _ h0 bd0 (by omega)) ?_) | (refine WIf.mk (fun hg => ?_) (fun hg => ?_)))); (all_goals (conv => whnf))
    · rw [if_pos hg] at et
      rw [et]
      (repeat' ((conv => whnf); first | (refine SC.mk (by first | decide | omega | exact Nat.le_of_ble_eq_true rfl | (simp; omega) | (simp; done) | rfl) ?_) | (refine WIf.tt rfl ?_) | (refine WIf.ff rfl ?_) | (refine wpSs.s ?_) | (refine SC.mk (by rw [List.length_map]; omega) ?_))); (all_goals (conv => whnf))
      exact ⟨rfl, by simp [handM]⟩
    · rw [hg] at et
      (repeat' ((conv => whnf); first | (refine SC.mk (by first | decide | omega | exact Nat.le_of_ble_eq_true rfl | (simp; omega) | (simp; done) | rfl) ?_) | (refine WIf.tt rfl ?_) | (refine WIf.ff rfl ?_) | (refine wpSs.s ?_))); (all_goals (conv => whnf))
      refine ⟨(g h0).2, _, rfl, rfl, (hbd _ _ bd0).mono (by have : (pre.length + 1) * (3 + 3 * cost n) = pre.length * (3 + 3 * cost n) + (3 + 3 * cost n) := Nat.succ_mul _ _; rw [List.length_append, List.length_singleton]; omega), ?_⟩
      rw [et, List.length_append, List.length_singleton, show t.toNat - (pre.length + 1) = post.length by omega]
      rfl
  · rintro ρ N ⟨h', tv, rfl, rfl, bd, et⟩
    rw [List.length_range, Nat.sub_self] at et
    rw [et]
    (repeat' ((conv => whnf); first | (refine SC.mk (by first | decide | omega | exact Nat.le_of_ble_eq_true rfl | (simp; omega) | (simp; done) | rfl) ?_) | (refine WIf.tt rfl ?_) | (refine WIf.ff rfl ?_) | (refine wpSs.s ?_))); (all_goals (conv => whnf))
    exact ⟨rfl, rfl⟩
end
/-- what the law's hand does with a call -/
theorem asked_ok {fuel k : Nat} {kp : Bool} {fs : List Int} {z : PyData} (hfu : 100 < fuel) : ∀ {n : Nat} (x : Tr n), x.Ok → ∀ B h, Bd B h → B + cost n ≤ 16000000 →
    run Tb fuel (k + 2 * n) 205 [.p x.d, .p (.tuple [z, .bool kp]), .p (fsD fs), .ref 3] (handM h) = .ok (.p (.bool (callA kp fs x h).1)) (handM (callA kp fs x h).2)
  | 0, x, _, _, _, _, _ => nomatch (show Empty from x)
  | n + 1, x, hx, B, h, b, hB => asked_step (K := k + 2 * n) (fun p hp B h b hB => asked_ok hfu p hp B h b hB) hx b hB hfu
end K52

set_option Elab.async false
set_option linter.all false
set_option maxRecDepth 100000
/-! Mi: what can be compared; beats of settings that differ. -/
namespace Mi
open PySem
def Pl (n : Nat) (x : PyData) : Prop := x.plain = true ∧ x.depth ≤ n
theorem plA {n : Nat} {xs : List PyData} (h : ∀ x ∈ xs, Pl n x) : PyData.plainAll xs = true ∧ PyData.depthAll xs ≤ n := by
  induction xs with
  | nil => exact ⟨rfl, Nat.zero_le _⟩
  | cons x xs ih =>
    have h1 := h x List.mem_cons_self
    have h2 := ih fun y hy => h y (List.mem_cons_of_mem _ hy)
    simp only [PyData.plainAll, PyData.depthAll, h1.1, h2.1, Bool.and_self, true_and]
    exact Nat.max_le.2 ⟨h1.2, h2.2⟩
theorem Pl.tup {n : Nat} {xs : List PyData} (h : ∀ x ∈ xs, Pl n x) : Pl (n + 1) (.tuple xs) := by
  have := plA h
  exact ⟨by simpa only [PyData.plain] using this.1, by simp only [PyData.depth]; exact Nat.succ_le_succ this.2⟩
theorem Pl.int (n : Nat) (i : Int) : Pl n (.int i) := ⟨rfl, Nat.zero_le _⟩
theorem cut_take {α : Type} (xs : List α) {n : Int} (hn : 0 ≤ n) : cut xs none (some n) = xs.take n.toNat := by
  unfold cut
  simp only [HT.sIx]
  rw [if_neg (by omega)]
  simp only [List.drop_zero, Nat.sub_zero]
  by_cases h : n.toNat ≤ xs.length
  · rw [Nat.min_eq_left h]
  · rw [Nat.min_eq_right (by omega), List.take_of_length_le (Nat.le_refl _), List.take_of_length_le (by omega)]
theorem cut_drop {α : Type} (xs : List α) {n : Int} (hn : 0 ≤ n) : cut xs (some n) none = xs.drop n.toNat := by
  unfold cut
  simp only [HT.sIx]
  rw [if_neg (by omega)]
  by_cases h : n.toNat ≤ xs.length
  · rw [Nat.min_eq_left h, List.take_of_length_le (by rw [List.length_drop]; exact Nat.le_refl _)]
  · rw [Nat.min_eq_right (by omega), List.drop_of_length_le (Nat.le_refl _), List.drop_of_length_le (by omega), List.take_nil]
end Mi

set_option Elab.async false
set_option linter.all false
set_option maxRecDepth 100000
set_option maxHeartbeats 4000000
/-! k52: the program's own run. -/
namespace K52
open PySem Mi
theorem tr_pl : ∀ {n : Nat} (x : Tr n), Pl (2 * n) x.d
  | 0, x => nomatch (show Empty from x)
  | n + 1, x => by
    refine Pl.tup (n := 2 * n + 1) fun y hy => ?_
    simp only [List.mem_cons, List.not_mem_nil, or_false] at hy
    rcases hy with rfl | rfl | rfl | rfl
    · exact .int _ _
    · exact .int _ _
    · exact ⟨rfl, Nat.zero_le _⟩
    · exact Pl.tup fun y hy => by
        obtain ⟨z, _, rfl⟩ := List.mem_map.1 hy
        exact tr_pl z
section
variable {fuel K : Nat} {n : Nat} {kp : Bool} {fs : List Int}
theorem take_ok (h : Hd) : run Tb fuel (K + 1) 211 [.ref 4] (runM kp fs h) = .ok (.p (.bool (take h).1)) (runM kp fs (take h).2) := by
  obtain ⟨lf, kt, ak, dc⟩ := h
  refine Wr.out ?_
  refine wp_call (show Tb 211 = some _ from rfl) rfl ?_
  generalize run Tb fuel K = fn at *
  cases lf with
  | none =>
    (repeat' ((conv => whnf); first | (refine SC.mk (by first | decide | omega | exact Nat.le_of_ble_eq_true rfl | (simp; omega) | (simp; done) | rfl) ?_) | (refine WIf.tt rfl ?_) | (refine WIf.ff rfl ?_) | (refine wpSs.s ?_))); (all_goals (conv => whnf))
    exact ⟨rfl, rfl⟩
  | some b =>
    by_cases hb : b = 0
    · subst hb
      (repeat' ((conv => whnf); first | (refine SC.mk (by first | decide | omega | exact Nat.le_of_ble_eq_true rfl | (simp; omega) | (simp; done) | rfl) ?_) | (refine WIf.tt rfl ?_) | (refine WIf.ff rfl ?_) | (refine wpSs.s ?_) | (refine SC.mk ⟨rfl, rfl, Nat.le_of_ble_eq_true rfl⟩ ?_))); (all_goals (conv => whnf))
      exact ⟨rfl, rfl⟩
    · have he : PyData.eqv (.int b) (.int 0) = false := (eqv_int _ _).trans (decide_eq_false hb)
      have ht : take ⟨some b, kt, ak, dc⟩ = (true, ⟨some (b - 1), kt, ak, dc⟩) := if_neg hb
      rw [ht]
      (repeat' ((conv => whnf); first | (refine SC.mk (by first | decide | omega | exact Nat.le_of_ble_eq_true rfl | (simp; omega) | (simp; done) | rfl) ?_) | (refine WIf.tt rfl ?_) | (refine WIf.ff rfl ?_) | (refine wpSs.s ?_) | (refine SC.mk ⟨rfl, rfl, Nat.le_of_ble_eq_true rfl⟩ ?_) | (refine WIf.ff he ?_))); (all_goals (conv => whnf))
      exact ⟨rfl, rfl⟩
theorem dec_ok {s : Int} {h : Hd} (hb : h.decs.length < 16000000) : run Tb fuel (K + 1) 214 [.ref 4, .p (.int s)] (runM kp fs h) = .ok (.p (.bool (decide1 fs s h).1)) (runM kp fs (decide1 fs s h).2) := by
  refine Wr.out ?_
  refine wp_call (show Tb 214 = some _ from rfl) rfl ?_
  generalize run Tb fuel K = fn at *
  have hL : (((h.decs.map PyData.int ++ [PyData.int s]).length : Int) - 1) = (h.decs.length : Int) := by simp
  have hB : (!dHas (kvT fs) (((h.decs.map PyData.int ++ [PyData.int s]).length : Int) - 1)) = !(fs.contains (h.decs.length : Int)) := by rw [hL]; unfold kvT; rw [dHas_map]
  (repeat' ((conv => whnf); first | (refine SC.mk (by first | decide | omega | exact Nat.le_of_ble_eq_true rfl | (simp; omega) | (simp; done) | rfl) ?_) | (refine WIf.tt rfl ?_) | (refine WIf.ff rfl ?_) | (refine wpSs.s ?_) | (refine SC.mk (by rw [List.length_map]; omega) ?_))); (all_goals (conv => whnf))
  exact ⟨by rw [hB]; rfl, by simp [runM, decide1]⟩
/-- what is asked of a def that does the calls of parts -/
def CallAt (kp : Bool) (fs : List Int) (fn : Fn) (n : Nat) : Prop := ∀ (p : Tr n), p.Ok → ∀ B h, Bd B h → B + cost n ≤ 16000000 → fn 210 [.ref 4, .p p.d] (runM kp fs h) = .ok (.p (.bool (callA kp fs p h).1)) (runM kp fs (callA kp fs p h).2)
theorem parts_ok (ih : CallAt kp fs (run Tb fuel K) n) (hn : n ≤ 10) {x : Tr (n + 1)} (hx : x.Ok) {B : Nat} {h : Hd} (b : Bd B h) (hB : B + 3 * cost n ≤ 16000000) :
    run Tb fuel (K + 1) 213 [.ref 4, .p x.d] (runM kp fs h) = .ok (.p (.bool (lets (callA kp fs) x.1.2.2 x.2 h).1)) (runM kp fs (lets (callA kp fs) x.1.2.2 x.2 h).2) := by
  obtain ⟨⟨s, t, a⟩, ps⟩ := x
  obtain ⟨hs, ht, hl, hps⟩ := hx
  have hps : ∀ p ∈ ps, p.Ok := hps
  have hl : ps.length ≤ 3 := hl
  refine Wr.out ?_
  refine wp_call (show Tb 213 = some _ from rfl) rfl ?_
  generalize run Tb fuel K = fn at *
  rw [show (Tr.d (n := n + 1) ((s, t, a), ps)) = .tuple [.int s, .int t, .str (modeS a), .tuple (ps.map Tr.d)] from rfl]
  have ha := any_eq a
  have hm : (PyData.str (modeS a)).plain = true ∧ (PyData.str (Str.ofString "any")).plain = true ∧ (PyData.str (modeS a)).depth ≤ 60 := by cases a <;> exact ⟨rfl, rfl, by decide⟩
  have hq : (PyData.tuple (ps.map Tr.d)).plain = true ∧ (PyData.tuple []).plain = true ∧ (PyData.tuple (ps.map Tr.d)).depth ≤ 60 := by
    have : Pl (2 * n + 1) (PyData.tuple (ps.map Tr.d)) := Pl.tup fun y hy => by
      obtain ⟨z, _, rfl⟩ := List.mem_map.1 hy
      exact tr_pl z
    exact ⟨this.1, rfl, Nat.le_trans this.2 (by omega)⟩
  try dsimp only
  have hbd : ∀ p ∈ ps, ∀ B h, Bd B h → Bd (B + cost n) (callA kp fs p h).2 := fun p hp B h b => callA_bd (hps p hp) B h b
  unfold CallAt at ih
  generalize callA kp fs (n := n) = f at *
  have hlets : ps ≠ [] → lets f a ps h = partsL f a ps h := fun hne => by
    unfold lets
    split
    · exact absurd rfl hne
    · rfl
  refine wpSs.s ?_; (repeat' ((conv => whnf); first | (refine SC.mk (by first | decide | omega | exact Nat.le_of_ble_eq_true rfl | (simp; omega) | (simp; done) | rfl) ?_) | (refine WIf.tt rfl ?_) | (refine WIf.ff rfl ?_)  | (refine SC.mk hm ?_))); (all_goals (conv => whnf))
  refine wpSs.s ?_
  (conv => whnf)
  simp only [Bool.false_eq_true, if_false, ha]
  refine W_for Tr.d ps (fun pre ρ N => ∃ h' tv, ρ = [some (.ref 4), some (.p (.tuple [.int s, .int t, .str (modeS a), .tuple (ps.map Tr.d)])), some (.p (.bool a)), tv] ∧ N = runM kp fs h' ∧
      Bd (B + pre.length * cost n) h' ∧ partsL f a ps h = partsL f a (ps.drop pre.length) h') ⟨h, none, rfl, rfl, b.mono (by omega), rfl⟩ ?_ ?_
  · rintro pre p post hpre ρ N ⟨h', tv, rfl, rfl, bd, et⟩
    have hp : p ∈ ps := by rw [hpre]; simp
    have hlen : ps.length = pre.length + (post.length + 1) := by rw [hpre]; simp
    have hm2 : pre.length * cost n ≤ 2 * cost n := Nat.mul_le_mul_right _ (by omega)
    have hdr : ps.drop pre.length = p :: post := by rw [hpre, List.drop_left]
    have hdr2 : ps.drop (pre ++ [p]).length = post := by rw [hpre, show pre ++ p :: post = (pre ++ [p]) ++ post by simp, List.drop_left]
    have hne : ps ≠ [] := by rw [hpre]; simp
    rw [hdr] at et
    have hb2 : ∀ c d : Bool, (PyData.bool c).plain = true ∧ (PyData.bool d).plain = true ∧ (PyData.bool c).depth ≤ 60 := fun c d => ⟨rfl, rfl, Nat.le_of_ble_eq_true rfl⟩
    have he : ∀ c d : Bool, PyData.eqv (.bool c) (.bool d) = (c == d) := by intro c d; cases c <;> cases d <;> rfl
    (repeat' ((conv => whnf); first | (refine SC.mk (by first | decide | omega | exact Nat.le_of_ble_eq_true rfl | (simp; omega) | (simp; done) | rfl) ?_) | (refine WIf.tt rfl ?_) | (refine WIf.ff rfl ?_) | (refine wpSs.s ?_) | (refine Wr.eq (ih p (hps p hp) _ h' bd (by omega)) ?_) | (refine SC.mk (hb2 _ _) ?_) | (refine WIf.mk (fun hc => ?_) (fun hc => ?_)))); (all_goals (conv => whnf))
    · have hc : (f p h').1 = a := by
        have := (he (f p h').1 a).symm.trans hc
        simpa using this
      rw [hlets hne, et, partsL, if_pos hc]
      exact ⟨rfl, rfl⟩
    · have hc : (f p h').1 ≠ a := by
        have := (he (f p h').1 a).symm.trans hc
        simpa using this
      refine ⟨(f p h').2, _, rfl, rfl, ?_, ?_⟩
      · refine (hbd p hp _ h' bd).mono ?_
        rw [List.length_append, List.length_singleton, Nat.succ_mul]
        omega
      · rw [et, hdr2, partsL, if_neg hc]
  · rintro ρ N ⟨h', tv, rfl, rfl, bd, et⟩
    rw [List.drop_length, partsL] at et
    have hr : lets f a ps h = ((!a || ps.isEmpty), h') := by
      cases ps with
      | nil =>
        rw [partsL] at et
        have := congrArg Prod.snd et
        try dsimp only at this
        rw [← this]
        simp [lets]
      | cons p ps => rw [hlets (by simp), et]; simp
    have hqe : PyData.eqv (.tuple (ps.map Tr.d)) (.tuple []) = ps.isEmpty := by cases ps <;> rfl
    rw [hr]
    cases a with
    | false =>
      (repeat' ((conv => whnf); first | (refine SC.mk (by first | decide | omega | exact Nat.le_of_ble_eq_true rfl | (simp; omega) | (simp; done) | rfl) ?_) | (refine WIf.tt rfl ?_) | (refine WIf.ff rfl ?_) | (refine wpSs.s ?_))); (all_goals (conv => whnf))
      exact ⟨rfl, rfl⟩
    | true =>
      (repeat' ((conv => whnf); first | (refine SC.mk (by first | decide | omega | exact Nat.le_of_ble_eq_true rfl | (simp; omega) | (simp; done) | rfl) ?_) | (refine WIf.tt rfl ?_) | (refine WIf.ff rfl ?_) | (refine wpSs.s ?_) | (refine SC.mk hq ?_))); (all_goals (conv => whnf))
      refine ⟨?_, rfl⟩
      simp only [Bool.false_eq_true, if_false, hqe]
      rfl
theorem attempt_ok (ih : CallAt kp fs (run Tb fuel K) n) (hn : n ≤ 10) {x : Tr (n + 1)} (hx : x.Ok) {B : Nat} {h : Hd} (b : Bd B h) (hB : B + (2 + 3 * cost n) ≤ 16000000) :
    run Tb fuel (K + 2) 212 [.ref 4, .p x.d] (runM kp fs h) = .ok (.p (.bool (att (callA kp fs) fs x.1.1 x.1.2.2 x.2 h).1)) (runM kp fs (att (callA kp fs) fs x.1.1 x.1.2.2 x.2 h).2) := by
  have hd := fun (s : Int) (h : Hd) => dec_ok (fuel := fuel) (K := K) (kp := kp) (fs := fs) (s := s) (h := h)
  have b1 : Bd (B + 1) { h with asks := h.asks ++ [x.1.1] } := ⟨by have := b.k; show h.kept.length ≤ _; omega, by have := b.a; simp; omega, by have := b.d; show h.decs.length ≤ _; omega, fun a ha => by
    rcases List.mem_append.1 ha with h1 | h1
    · exact b.s a h1
    · rw [List.mem_singleton.1 h1]; exact hx.1⟩
  have hp := parts_ok ih hn hx b1 (by omega)
  have hpb : Bd (B + 1 + 3 * cost n) (lets (callA kp fs) x.1.2.2 x.2 { h with asks := h.asks ++ [x.1.1] }).2 := by
    have := lets_bd (w := x.1.2.2) (fun p hp B h b => callA_bd (kp := kp) (fs := fs) (hx.2.2.2 p hp) B h b) b1
    exact this.mono (by have := Nat.mul_le_mul_right (cost n) hx.2.2.1; omega)
  unfold att
  try dsimp only
  obtain ⟨⟨s, t, a⟩, ps⟩ := x
  try dsimp only at *
  generalize lets (callA kp fs) a ps { h with asks := h.asks ++ [s] } = r at *
  obtain ⟨rb, h2⟩ := r
  have b0 := b.a
  have b3 := hpb.d
  try dsimp only at hp b3 ⊢
  refine Wr.out ?_
  refine wp_call (show Tb 212 = some _ from rfl) rfl ?_
  generalize run Tb fuel (K + 1) = fn at *
  rw [show (Tr.d (n := n + 1) ((s, t, a), ps)) = .tuple [.int s, .int t, .str (modeS a), .tuple (ps.map Tr.d)] from rfl] at hp ⊢
  have hp' : fn 213 [.ref 4, .p (.tuple [.int s, .int t, .str (modeS a), .tuple (ps.map Tr.d)])] ((runM kp fs h).set (4 - 1 - 1) (.lst (h.asks.map PyData.int ++ [PyData.int s]))) = .ok (.p (.bool rb)) (runM kp fs h2) := by
    rw [← hp]
    congr 1
    simp [runM]
  cases rb with
  | true =>
    (repeat' ((conv => whnf); first | (refine SC.mk (by first | decide | omega | exact Nat.le_of_ble_eq_true rfl | (simp; omega) | (simp; done) | rfl) ?_) | (refine WIf.tt rfl ?_) | (refine WIf.ff rfl ?_) | (refine wpSs.s ?_) | (refine SC.mk (by rw [List.length_map]; omega) ?_) | (refine Wr.eq hp' ?_) | (refine Wr.eq (hd s h2 (by omega)) ?_))); (all_goals (conv => whnf))
    exact ⟨rfl, rfl⟩
  | false =>
    (repeat' ((conv => whnf); first | (refine SC.mk (by first | decide | omega | exact Nat.le_of_ble_eq_true rfl | (simp; omega) | (simp; done) | rfl) ?_) | (refine WIf.tt rfl ?_) | (refine WIf.ff rfl ?_) | (refine wpSs.s ?_) | (refine SC.mk (by rw [List.length_map]; omega) ?_) | (refine Wr.eq hp' ?_))); (all_goals (conv => whnf))
    exact ⟨rfl, rfl⟩
theorem call_step (ih : CallAt kp fs (run Tb fuel K) n) (hn : n ≤ 10) {x : Tr (n + 1)} (hx : x.Ok) {B : Nat} {h : Hd} (b : Bd B h) (hB : B + cost (n + 1) ≤ 16000000) :
    run Tb fuel (K + 3) 210 [.ref 4, .p x.d] (runM kp fs h) = .ok (.p (.bool (callA kp fs x h).1)) (runM kp fs (callA kp fs x h).2) := by
  have htr : ∀ B h, Bd B h → B + (2 + 3 * cost n) ≤ 16000000 → run Tb fuel (K + 2) 212 [.ref 4, .p x.d] (runM kp fs h) = .ok (.p (.bool (att (callA kp fs) fs x.1.1 x.1.2.2 x.2 h).1)) (runM kp fs (att (callA kp fs) fs x.1.1 x.1.2.2 x.2 h).2) := fun B h b hB => attempt_ok ih hn hx b hB
  have htk : ∀ h, run Tb fuel (K + 2) 211 [.ref 4] (runM kp fs h) = .ok (.p (.bool (take h).1)) (runM kp fs (take h).2) := fun h => take_ok h
  have hbd : ∀ B h, Bd B h → Bd (B + (2 + 3 * cost n)) (att (callA kp fs) fs x.1.1 x.1.2.2 x.2 h).2 := fun B h b => att_bd hx.1 hx.2.2.1 (fun p hp B h b => callA_bd (hx.2.2.2 p hp) B h b) b
  have hc : callA kp fs x h = if kp && h.kept.contains x.1.1 then (true, h) else triesL (att (callA kp fs) fs x.1.1 x.1.2.2 x.2) x.1.1 x.1.2.1.toNat 0 h := rfl
  rw [hc]
  obtain ⟨⟨s, t, a⟩, ps⟩ := x
  obtain ⟨hs, ht, hl, hps⟩ := hx
  refine Wr.out ?_
  refine wp_call (show Tb 210 = some _ from rfl) rfl ?_
  generalize run Tb fuel (K + 2) = fn at *
  rw [show (Tr.d (n := n + 1) ((s, t, a), ps)) = .tuple [.int s, .int t, .str (modeS a), .tuple (ps.map Tr.d)] from rfl] at htr ⊢
  try dsimp only at htr hbd hs ht ⊢
  generalize att (callA kp fs) fs s a ps = g at *
  have hni : ∀ h : Hd, dHas (kvT (uni h.kept)) s = h.kept.contains s := fun h => by unfold kvT; rw [dHas_map, uni_has]
  refine wpSs.s ?_
  (conv => whnf)
  refine W_cutS (fun ρ N => ρ = [some (.ref 4), some (.p (.tuple [.int s, .int t, .str (modeS a), .tuple (ps.map Tr.d)])), some (.p (.int s)), some (.p (.int t)), some (.p (.str (modeS a))), some (.p (.tuple (ps.map Tr.d))), none] ∧ N = runM kp fs h ∧ (kp && h.kept.contains s) = false) ?_ ?_
  · cases kp with
    | false =>
      (repeat' ((conv => whnf); first | (refine SC.mk (by first | decide | omega | exact Nat.le_of_ble_eq_true rfl | (simp; omega) | (simp; done) | rfl) ?_) | (refine WIf.tt rfl ?_) | (refine WIf.ff rfl ?_) | (refine wpSs.s ?_))); (all_goals (conv => whnf))
      exact ⟨rfl, rfl, rfl⟩
    | true =>
      (repeat' ((conv => whnf); first | (refine SC.mk (by first | decide | omega | exact Nat.le_of_ble_eq_true rfl | (simp; omega) | (simp; done) | rfl) ?_) | (refine WIf.tt rfl ?_) | (refine WIf.ff rfl ?_) | (refine wpSs.s ?_))); (all_goals (conv => whnf))
      refine WIf.mk (fun hc => ?_) (fun hc => ?_)
      · have hc := (hni h).symm.trans hc
        (repeat' ((conv => whnf); first | (refine SC.mk (by first | decide | omega | exact Nat.le_of_ble_eq_true rfl | (simp; omega) | (simp; done) | rfl) ?_) | (refine WIf.tt rfl ?_) | (refine WIf.ff rfl ?_) | (refine wpSs.s ?_))); (all_goals (conv => whnf))
        rw [hc]
        exact ⟨rfl, rfl⟩
      · have hc := (hni h).symm.trans hc
        (repeat' ((conv => whnf); first | (refine SC.mk (by first | decide | omega | exact Nat.le_of_ble_eq_true rfl | (simp; omega) | (simp; done) | rfl) ?_) | (refine WIf.tt rfl ?_) | (refine WIf.ff rfl ?_) | (refine wpSs.s ?_))); (all_goals (conv => whnf))
        exact ⟨rfl, rfl, by rw [hc]; rfl⟩
  rintro ρ N ⟨rfl, rfl, hk⟩
  rw [hk]
  simp only [Bool.false_eq_true, if_false]
  refine wpSs.s ?_
  (conv => whnf)
  refine SC.mk (by simp [rngOk]; omega) ?_
  (conv => whnf)
  rw [rngP_map]
  have hcost : t.toNat * (3 + 3 * cost n) ≤ cost (n + 1) := by
    have := Nat.mul_le_mul_right (3 + 3 * cost n) (show t.toNat ≤ 3 by omega)
    simpa [cost] using this
  refine W_for (fun i : Nat => PyData.int (i : Nat)) (List.range t.toNat) (fun pre ρ N => ∃ h' tv, ρ = [some (.ref 4), some (.p (.tuple [.int s, .int t, .str (modeS a), .tuple (ps.map Tr.d)])), some (.p (.int s)), some (.p (.int t)), some (.p (.str (modeS a))), some (.p (.tuple (ps.map Tr.d))), tv] ∧ N = runM kp fs h' ∧
      Bd (B + pre.length * (3 + 3 * cost n)) h' ∧ triesL g s t.toNat 0 h = triesL g s (t.toNat - pre.length) pre.length h') ⟨h, none, rfl, rfl, b.mono (by omega), rfl⟩ ?_ ?_
  · rintro pre i post hpre ρ N ⟨h', tv, rfl, rfl, bd, et⟩
    have hlen : t.toNat = pre.length + (post.length + 1) := by
      have := congrArg List.length hpre
      simpa using this
    have hi : i = pre.length := by
      have h1 : (List.range t.toNat)[pre.length]? = some i := by rw [hpre]; simp
      rw [List.getElem?_range (by omega)] at h1
      exact (Option.some.inj h1).symm
    have hpos : pre.length * (3 + 3 * cost n) + (3 + 3 * cost n) ≤ cost (n + 1) := by
      have := Nat.mul_le_mul_right (3 + 3 * cost n) (show pre.length + 1 ≤ t.toNat by omega)
      rw [Nat.succ_mul] at this
      omega
    rw [show t.toNat - pre.length = post.length + 1 by omega] at et
    subst hi
    (conv => whnf)
    refine W_cutS (fun ρ N => ρ = [some (.ref 4), some (.p (.tuple [.int s, .int t, .str (modeS a), .tuple (ps.map Tr.d)])), some (.p (.int s)), some (.p (.int t)), some (.p (.str (modeS a))), some (.p (.tuple (ps.map Tr.d))), some (.p (.int (pre.length : Nat)))] ∧ ∃ h0, N = runM kp fs h0 ∧ (if 0 < pre.length then take h' else (true, h')) = (true, h0)) ?_ ?_
    · by_cases h0 : 0 < pre.length
      · have hd : decide ((0 : Int) < ((pre.length : Nat) : Int)) = true := decide_eq_true (by omega)
        have htk' := htk h'
        rw [triesL, if_pos h0] at et
        rw [if_pos h0]
        generalize take h' = r at *
        obtain ⟨rb, h2⟩ := r
        cases rb with
        | true =>
          (repeat' ((conv => whnf); first | (refine SC.mk (by first | decide | omega | exact Nat.le_of_ble_eq_true rfl | (simp; omega) | (simp; done) | rfl) ?_) | (refine WIf.tt rfl ?_) | (refine WIf.ff rfl ?_) | (refine wpSs.s ?_) | (refine WIf.tt hd ?_) | (refine Wr.eq htk' ?_))); (all_goals (conv => whnf))
          exact ⟨rfl, _, rfl, rfl⟩
        | false =>
          simp only [Bool.false_eq_true, if_false] at et
          rw [et]
          (repeat' ((conv => whnf); first | (refine SC.mk (by first | decide | omega | exact Nat.le_of_ble_eq_true rfl | (simp; omega) | (simp; done) | rfl) ?_) | (refine WIf.tt rfl ?_) | (refine WIf.ff rfl ?_) | (refine wpSs.s ?_) | (refine WIf.tt hd ?_) | (refine Wr.eq htk' ?_))); (all_goals (conv => whnf))
          exact ⟨rfl, rfl⟩
      · have hd : decide ((0 : Int) < ((pre.length : Nat) : Int)) = false := decide_eq_false (by omega)
        rw [if_neg h0]
        (repeat' ((conv => whnf); first | (refine SC.mk (by first | decide | omega | exact Nat.le_of_ble_eq_true rfl | (simp; omega) | (simp; done) | rfl) ?_) | (refine WIf.tt rfl ?_) | (refine WIf.ff rfl ?_) | (refine wpSs.s ?_) | (refine WIf.ff hd ?_))); (all_goals (conv => whnf))
        exact ⟨rfl, _, rfl, rfl⟩
    rintro ρ N ⟨rfl, h0, rfl, hh0⟩
    have bd0 : Bd (B + pre.length * (3 + 3 * cost n)) h0 := by
      have e : h0 = (if 0 < pre.length then take h' else (true, h')).2 := by rw [hh0]
      rw [e]
      split
      · exact take_bd bd
      · exact bd
    have hk2 : (g h0).2.kept.length ≤ 16000000 := by
      have := (hbd _ _ bd0).k
      omega
    rw [triesL, hh0] at et
    simp only [if_true] at et
    have hmc : fn 212 [.ref 4, .p (.tuple [.int s, .int t, .str (modeS a), .tuple (ps.map Tr.d)])] (runM kp fs h0) = .ok (.p (.bool (g h0).1)) (runM kp fs (g h0).2) := htr _ h0 bd0 (by omega)
    have hul : (kvT (uni (g h0).2.kept)).length < 16777216 := by
      have := (uni_mem (g h0).2.kept).2
      unfold kvT
      rw [List.length_map]
      omega
    refine wpSs.s ?_; (repeat' ((conv => whnf); first | (refine SC.mk (by first | decide | omega | exact Nat.le_of_ble_eq_true rfl | (simp; omega) | (simp; done) | rfl) ?_) | (refine WIf.tt rfl ?_) | (refine WIf.ff rfl ?_)  | (refine Wr.eq hmc ?_) | (refine WIf.mk (fun hg => ?_) (fun hg => ?_)))); (all_goals (conv => whnf))
    · rw [if_pos hg] at et
      rw [et]
      (repeat' ((conv => whnf); first | (refine SC.mk (by first | decide | omega | exact Nat.le_of_ble_eq_true rfl | (simp; omega) | (simp; done) | rfl) ?_) | (refine WIf.tt rfl ?_) | (refine WIf.ff rfl ?_) | (refine wpSs.s ?_) | (refine SC.mk hul ?_))); (all_goals (conv => whnf))
      refine ⟨rfl, ?_⟩
      have hput := dPut_map (uni (g h0).2.kept) s
      simp only [runM, kvT, List.length_cons, List.set_cons_succ, List.set_cons_zero, List.length_nil, List.take, hput, uni_app]
    · rw [hg] at et
      (repeat' ((conv => whnf); first | (refine SC.mk (by first | decide | omega | exact Nat.le_of_ble_eq_true rfl | (simp; omega) | (simp; done) | rfl) ?_) | (refine WIf.tt rfl ?_) | (refine WIf.ff rfl ?_) | (refine wpSs.s ?_))); (all_goals (conv => whnf))
      refine ⟨(g h0).2, _, rfl, rfl, (hbd _ _ bd0).mono (by have : (pre.length + 1) * (3 + 3 * cost n) = pre.length * (3 + 3 * cost n) + (3 + 3 * cost n) := Nat.succ_mul _ _; rw [List.length_append, List.length_singleton]; omega), ?_⟩
      rw [et, List.length_append, List.length_singleton, show t.toNat - (pre.length + 1) = post.length by omega]
      rfl
  · rintro ρ N ⟨h', tv, rfl, rfl, bd, et⟩
    rw [List.length_range, Nat.sub_self] at et
    rw [et]
    (repeat' ((conv => whnf); first | (refine SC.mk (by first | decide | omega | exact Nat.le_of_ble_eq_true rfl | (simp; omega) | (simp; done) | rfl) ?_) | (refine WIf.tt rfl ?_) | (refine WIf.ff rfl ?_) | (refine wpSs.s ?_))); (all_goals (conv => whnf))
    exact ⟨rfl, rfl⟩
end
theorem call_ok {fuel k : Nat} {kp : Bool} {fs : List Int} : ∀ {n : Nat}, n ≤ 10 → CallAt kp fs (run Tb fuel (k + 3 * n)) n
  | 0, _ => fun x _ _ _ _ _ => nomatch (show Empty from x)
  | n + 1, hn => fun x hx B h b hB => call_step (K := k + 3 * n) (call_ok (by omega)) (by omega) hx b hB
end K52

set_option Elab.async false
set_option linter.all false
set_option maxRecDepth 100000
set_option maxHeartbeats 4000000
/-! k52: what is a tree, a plan, a set of fails; ran and played. -/
namespace K52
open PySem Mi
theorem asB_map (xs : List Bool) : asBools (xs.map PyData.bool) = some xs := by
  induction xs with
  | nil => rfl
  | cons x xs ih => simp only [List.map_cons, asBools, ih, Option.map_some]
theorem asI_map (xs : List Int) : asInts (xs.map PyData.int) = some xs := by
  induction xs with
  | nil => rfl
  | cons x xs ih => simp only [List.map_cons, asInts, ih, Option.map_some]
theorem all_true {α : Type} (xs : List α) : asBools (xs.map fun _ => PyData.bool true) = some (xs.map fun _ => true) := by
  have := asB_map (xs.map fun _ => true)
  rw [List.map_map] at this
  exact this
theorem all_id {α : Type} (xs : List α) : (xs.map fun _ => true).all id = true := by
  rw [List.all_eq_true]
  intro b hb
  obtain ⟨_, _, rfl⟩ := List.mem_map.1 hb
  rfl
section
variable {fuel k : Nat}
theorem num_ok {i a b : Int} (h : a ≤ i ∧ i ≤ b) (M : Mem) : run Tb fuel (k + 1) 160 [.p (.int i), .p (.int a), .p (.int b)] M = .ok (.p (.bool true)) M := by
  refine run0 (.p (.p (.p .nil))) (Wr.out ?_) M
  refine wp_call (show Tb 160 = some _ from rfl) rfl ?_
  generalize run Tb fuel k = fn at *
  (repeat' ((conv => whnf); first | (refine SC.mk (by first | decide | omega | exact Nat.le_of_ble_eq_true rfl | (simp; omega) | (simp; done) | rfl) ?_) | (refine WIf.tt rfl ?_) | (refine WIf.ff rfl ?_) | (refine wpSs.s ?_) | (refine WIf.tt (decide_eq_true h.1) ?_))); (all_goals (conv => whnf))
  exact ⟨by rw [decide_eq_true h.2], rfl⟩
theorem iscall_ok : ∀ {n : Nat} (x : Tr n), x.Ok → ∀ m : Nat, n ≤ m → ∀ M, run Tb fuel (k + 1 + n) 161 [.p x.d, .p (.int (m : Nat))] M = .ok (.p (.bool true)) M
  | 0, x, _, _, _, _ => nomatch (show Empty from x)
  | n + 1, x, hx, m, hm, M => by
    refine run0 (.p (.p .nil)) (Wr.out ?_) M
    refine wp_call (show Tb 161 = some _ from rfl) rfl ?_
    have ih : ∀ p ∈ x.2, ∀ M, run Tb fuel (k + 1 + n) 161 [.p p.d, .p (.int ((m : Int) - 1))] M = .ok (.p (.bool true)) M := fun p hp M => by
      have := iscall_ok p (hx.2.2.2 p hp) (m - 1) (by omega) M
      rwa [show ((m - 1 : Nat) : Int) = (m : Int) - 1 by omega] at this
    obtain ⟨⟨s, t, a⟩, ps⟩ := x
    obtain ⟨hs, ht, hl, _⟩ := hx
    have h1 : ∀ M, run Tb fuel (k + 1 + n) 160 [.p (.int s), .p (.int 0), .p (.int 3)] M = .ok (.p (.bool true)) M := fun M => by rw [show k + 1 + n = (k + n) + 1 by omega]; exact num_ok hs M
    have h2 : ∀ M, run Tb fuel (k + 1 + n) 160 [.p (.int t), .p (.int 1), .p (.int 3)] M = .ok (.p (.bool true)) M := fun M => by rw [show k + 1 + n = (k + n) + 1 by omega]; exact num_ok ht M
    generalize run Tb fuel (k + 1 + n) = fn at *
    rw [show (Tr.d (n := n + 1) ((s, t, a), ps)) = .tuple [.int s, .int t, .str (modeS a), .tuple (ps.map Tr.d)] from rfl]
    try dsimp only at hl ih
    have hm0 : PyData.eqv (.int (m : Nat)) (.int 0) = false := (eqv_int _ _).trans (decide_eq_false (by omega))
    have hl0 : decide ((3 : Int) < ((ps.map Tr.d).length : Int)) = false := decide_eq_false (by rw [List.length_map]; omega)
    cases a <;> (
      (repeat' ((conv => whnf); first | (refine SC.mk (by first | decide | omega | exact Nat.le_of_ble_eq_true rfl | (simp; omega) | (simp; done) | rfl) ?_) | (refine WIf.tt rfl ?_) | (refine WIf.ff rfl ?_) | (refine wpSs.s ?_) | (refine SC.mk ⟨rfl, rfl, Nat.le_of_ble_eq_true rfl⟩ ?_) | (refine WIf.ff hm0 ?_) | (refine Wr.eq (h1 _) ?_) | (refine Wr.eq (h2 _) ?_) | (refine WIf.ff hl0 ?_))); (all_goals (conv => whnf))
      refine W_compM Tr.d (fun _ => .bool true) ps (by omega) ?_ ?_
      · intro p hp
        (repeat' ((conv => whnf); first | (refine SC.mk (by first | decide | omega | exact Nat.le_of_ble_eq_true rfl | (simp; omega) | (simp; done) | rfl) ?_) | (refine WIf.tt rfl ?_) | (refine WIf.ff rfl ?_) | (refine wpSs.s ?_) | (refine Wr.eq (ih p hp _) ?_))); (all_goals (conv => whnf))
        exact ⟨rfl, rfl⟩
      (conv => whnf)
      refine wOpt.i (all_true ps) ?_
      (repeat' ((conv => whnf); first | (refine SC.mk (by first | decide | omega | exact Nat.le_of_ble_eq_true rfl | (simp; omega) | (simp; done) | rfl) ?_) | (refine WIf.tt rfl ?_) | (refine WIf.ff rfl ?_) | (refine wpSs.s ?_))); (all_goals (conv => whnf))
      exact ⟨by rw [all_id], rfl⟩)
theorem cnt_ok : ∀ {n : Nat} (x : Tr n), x.Ok → ∀ M, run Tb fuel (k + n) 162 [.p x.d] M = .ok (.p (.int x.cnt)) M
  | 0, x, _, _ => nomatch (show Empty from x)
  | n + 1, x, hx, M => by
    refine run0 (.p .nil) (Wr.out ?_) M
    refine wp_call (show Tb 162 = some _ from rfl) rfl ?_
    have ih : ∀ p ∈ x.2, ∀ M, run Tb fuel (k + n) 162 [.p p.d] M = .ok (.p (.int p.cnt)) M := fun p hp M => cnt_ok p (hx.2.2.2 p hp) M
    obtain ⟨⟨s, t, a⟩, ps⟩ := x
    obtain ⟨hs, ht, hl, _⟩ := hx
    generalize run Tb fuel (k + n) = fn at *
    rw [show (Tr.d (n := n + 1) ((s, t, a), ps)) = .tuple [.int s, .int t, .str (modeS a), .tuple (ps.map Tr.d)] from rfl]
    try dsimp only at hl ih
    (repeat' ((conv => whnf); first | (refine SC.mk (by first | decide | omega | exact Nat.le_of_ble_eq_true rfl | (simp; omega) | (simp; done) | rfl) ?_) | (refine WIf.tt rfl ?_) | (refine WIf.ff rfl ?_) | (refine wpSs.s ?_))); (all_goals (conv => whnf))
    refine W_compM Tr.d (fun p => .int p.cnt) ps (by omega) ?_ ?_
    · intro p hp
      (repeat' ((conv => whnf); first | (refine SC.mk (by first | decide | omega | exact Nat.le_of_ble_eq_true rfl | (simp; omega) | (simp; done) | rfl) ?_) | (refine WIf.tt rfl ?_) | (refine WIf.ff rfl ?_) | (refine wpSs.s ?_) | (refine Wr.eq (ih p hp _) ?_))); (all_goals (conv => whnf))
      exact ⟨rfl, rfl⟩
    have := asI_map (ps.map Tr.cnt)
    rw [List.map_map] at this
    (conv => whnf)
    refine wOpt.i this ?_
    (repeat' ((conv => whnf); first | (refine SC.mk (by first | decide | omega | exact Nat.le_of_ble_eq_true rfl | (simp; omega) | (simp; done) | rfl) ?_) | (refine WIf.tt rfl ?_) | (refine WIf.ff rfl ?_) | (refine wpSs.s ?_))); (all_goals (conv => whnf))
    exact ⟨rfl, rfl⟩
theorem istree_ok {n : Nat} {x : Tr n} (hx : x.Ok) (hn : n ≤ 4) (hc : x.cnt ≤ 12) (M : Mem) : run Tb fuel (k + 6) 163 [.p x.d] M = .ok (.p (.bool true)) M := by
  refine run0 (.p .nil) (Wr.out ?_) M
  refine wp_call (show Tb 163 = some _ from rfl) rfl ?_
  have h1 : ∀ M, run Tb fuel (k + 5) 161 [.p x.d, .p (.int 4)] M = .ok (.p (.bool true)) M := fun M => by
    have := iscall_ok (fuel := fuel) (k := k + 4 - n) x hx 4 hn M
    rwa [show k + 4 - n + 1 + n = k + 5 by omega] at this
  have h2 : ∀ M, run Tb fuel (k + 5) 162 [.p x.d] M = .ok (.p (.int x.cnt)) M := fun M => by
    have := cnt_ok (fuel := fuel) (k := k + 5 - n) x hx M
    rwa [show k + 5 - n + n = k + 5 by omega] at this
  generalize run Tb fuel (k + 5) = fn at *
  (repeat' ((conv => whnf); first | (refine SC.mk (by first | decide | omega | exact Nat.le_of_ble_eq_true rfl | (simp; omega) | (simp; done) | rfl) ?_) | (refine WIf.tt rfl ?_) | (refine WIf.ff rfl ?_) | (refine wpSs.s ?_) | (refine Wr.eq (h1 _) ?_) | (refine Wr.eq (h2 _) ?_))); (all_goals (conv => whnf))
  exact ⟨by rw [decide_eq_true hc], rfl⟩
theorem needtree_ok {n : Nat} {x : Tr n} (hx : x.Ok) (hn : n ≤ 4) (hc : x.cnt ≤ 12) (M : Mem) : run Tb fuel (k + 7) 164 [.p x.d] M = .ok (.p .none) M := by
  refine run0 (.p .nil) (Wr.out ?_) M
  refine wp_call (show Tb 164 = some _ from rfl) rfl ?_
  have h1 := fun M => istree_ok (fuel := fuel) (k := k) hx hn hc M
  generalize run Tb fuel (k + 6) = fn at *
  (repeat' ((conv => whnf); first | (refine SC.mk (by first | decide | omega | exact Nat.le_of_ble_eq_true rfl | (simp; omega) | (simp; done) | rfl) ?_) | (refine WIf.tt rfl ?_) | (refine WIf.ff rfl ?_) | (refine wpSs.s ?_) | (refine Wr.eq (h1 _) ?_))); (all_goals (conv => whnf))
  exact ⟨rfl, rfl⟩
def plD (l : Option Int) (kp : Bool) : PyData := .tuple [optD l, .bool kp]
def LOk (l : Option Int) : Prop := ∀ b, l = some b → 0 ≤ b ∧ b ≤ 4
theorem isplan_ok {l : Option Int} (hl : LOk l) (kp : Bool) (M : Mem) : run Tb fuel (k + 2) 165 [.p (plD l kp)] M = .ok (.p (.bool true)) M := by
  refine run0 (.p .nil) (Wr.out ?_) M
  refine wp_call (show Tb 165 = some _ from rfl) rfl ?_
  cases l with
  | none =>
    generalize run Tb fuel (k + 1) = fn at *
    (repeat' ((conv => whnf); first | (refine SC.mk (by first | decide | omega | exact Nat.le_of_ble_eq_true rfl | (simp; omega) | (simp; done) | rfl) ?_) | (refine WIf.tt rfl ?_) | (refine WIf.ff rfl ?_) | (refine wpSs.s ?_) | (refine SC.mk ⟨rfl, rfl, Nat.le_of_ble_eq_true rfl⟩ ?_))); (all_goals (conv => whnf))
    exact ⟨rfl, rfl⟩
  | some b =>
    have h1 := fun M => num_ok (fuel := fuel) (k := k) (hl b rfl) M
    generalize run Tb fuel (k + 1) = fn at *
    (repeat' ((conv => whnf); first | (refine SC.mk (by first | decide | omega | exact Nat.le_of_ble_eq_true rfl | (simp; omega) | (simp; done) | rfl) ?_) | (refine WIf.tt rfl ?_) | (refine WIf.ff rfl ?_) | (refine wpSs.s ?_) | (refine SC.mk ⟨rfl, rfl, Nat.le_of_ble_eq_true rfl⟩ ?_) | (refine Wr.eq (h1 _) ?_))); (all_goals (conv => whnf))
    exact ⟨rfl, rfl⟩
theorem needplan_ok {l : Option Int} (hl : LOk l) (kp : Bool) (M : Mem) : run Tb fuel (k + 3) 166 [.p (plD l kp)] M = .ok (.p .none) M := by
  refine run0 (.p .nil) (Wr.out ?_) M
  refine wp_call (show Tb 166 = some _ from rfl) rfl ?_
  have h1 := fun M => isplan_ok (fuel := fuel) (k := k) hl kp M
  generalize run Tb fuel (k + 2) = fn at *
  (repeat' ((conv => whnf); first | (refine SC.mk (by first | decide | omega | exact Nat.le_of_ble_eq_true rfl | (simp; omega) | (simp; done) | rfl) ?_) | (refine WIf.tt rfl ?_) | (refine WIf.ff rfl ?_) | (refine wpSs.s ?_) | (refine Wr.eq (h1 _) ?_))); (all_goals (conv => whnf))
  exact ⟨rfl, rfl⟩
structure FsOk (fs : List Int) : Prop where
  inc : incB fs = true
  pos : ∀ f ∈ fs, 0 ≤ f ∧ f < 10 ^ 12
  len : fs.length ≤ 1000
theorem zip_int : ∀ fs : List Int, zipP (fs.map .int) ((fs.map .int).drop 1) = (fs.zip (fs.drop 1)).map fun p => PyData.tuple [.int p.1, .int p.2] := by
  have gen : ∀ (xs ys : List Int), zipP (xs.map .int) (ys.map .int) = (xs.zip ys).map fun p => PyData.tuple [.int p.1, .int p.2] := by
    intro xs
    induction xs with
    | nil => intro ys; cases ys <;> rfl
    | cons x xs ih =>
      intro ys
      cases ys with
      | nil => rfl
      | cons y ys => simp only [List.map_cons, zipP, List.zip_cons_cons, ih]
  intro fs
  rw [← List.map_drop]
  exact gen _ _
theorem inc_zip : ∀ {fs : List Int}, incB fs = true → ∀ p ∈ fs.zip (fs.drop 1), p.1 < p.2
  | [], _, p, h => by simp at h
  | [x], _, p, h => by simp at h
  | x :: y :: r, h, p, hp => by
    have h' : x < y ∧ incB (y :: r) = true := by simpa [incB] using h
    have hp : p ∈ (x, y) :: (y :: r).zip ((y :: r).drop 1) := by simpa using hp
    rcases List.mem_cons.1 hp with rfl | hp
    · exact h'.1
    · exact inc_zip h'.2 p hp
theorem isfails_ok {fs : List Int} (hf : FsOk fs) (M : Mem) : run Tb fuel (k + 1) 167 [.p (fsD fs)] M = .ok (.p (.bool true)) M := by
  refine run0 (.p .nil) (Wr.out ?_) M
  refine wp_call (show Tb 167 = some _ from rfl) rfl ?_
  generalize run Tb fuel k = fn at *
  have hlen := hf.len
  unfold fsD
  (repeat' ((conv => whnf); first | (refine SC.mk (by first | decide | omega | exact Nat.le_of_ble_eq_true rfl | (simp; omega) | (simp; done) | rfl) ?_) | (refine WIf.tt rfl ?_) | (refine WIf.ff rfl ?_) | (refine wpSs.s ?_))); (all_goals (conv => whnf))
  refine W_compM PyData.int (fun _ => .bool true) fs (by omega) ?_ ?_
  · intro i hi
    (repeat' ((conv => whnf); first | (refine SC.mk (by first | decide | omega | exact Nat.le_of_ble_eq_true rfl | (simp; omega) | (simp; done) | rfl) ?_) | (refine WIf.tt rfl ?_) | (refine WIf.ff rfl ?_) | (refine wpSs.s ?_) | (refine WIf.tt (decide_eq_true (hf.pos i hi).1) ?_))); (all_goals (conv => whnf))
    exact ⟨by rw [decide_eq_true (show (0 : Int) ≤ i from (hf.pos i hi).1)], rfl⟩
  (conv => whnf)
  refine wOpt.i (all_true fs) ?_
  rw [all_id]
  (repeat' ((conv => whnf); first | (refine SC.mk (by first | decide | omega | exact Nat.le_of_ble_eq_true rfl | (simp; omega) | (simp; done) | rfl) ?_) | (refine WIf.tt rfl ?_) | (refine WIf.ff rfl ?_) | (refine wpSs.s ?_))); (all_goals (conv => whnf))
  rw [cut_drop _ (by decide), show (1 : Int).toNat = 1 from rfl, zip_int]
  have hz : (fs.zip (fs.drop 1)).length ≤ 16777216 := by rw [List.length_zip]; omega
  refine W_compM (fun p : Int × Int => .tuple [.int p.1, .int p.2]) (fun _ => .bool true) (fs.zip (fs.drop 1)) hz ?_ ?_
  · intro p hp
    have hlt := inc_zip hf.inc p hp
    (repeat' ((conv => whnf); first | (refine SC.mk (by first | decide | omega | exact Nat.le_of_ble_eq_true rfl | (simp; omega) | (simp; done) | rfl) ?_) | (refine WIf.tt rfl ?_) | (refine WIf.ff rfl ?_) | (refine wpSs.s ?_))); (all_goals (conv => whnf))
    exact ⟨by rw [decide_eq_true hlt], rfl⟩
  (conv => whnf)
  refine wOpt.i (all_true _) ?_
  rw [all_id]
  (repeat' ((conv => whnf); first | (refine SC.mk (by first | decide | omega | exact Nat.le_of_ble_eq_true rfl | (simp; omega) | (simp; done) | rfl) ?_) | (refine WIf.tt rfl ?_) | (refine WIf.ff rfl ?_) | (refine wpSs.s ?_))); (all_goals (conv => whnf))
  exact ⟨rfl, rfl⟩
/-- what is asked of a tree, a plan, fails -/
structure TpOk {n : Nat} (x : Tr n) (l : Option Int) (fs : List Int) : Prop where
  ok : x.Ok
  n : n ≤ 4
  cnt : x.cnt ≤ 12
  l : LOk l
  fs : FsOk fs
def res {n : Nat} (x : Tr n) (l : Option Int) (kp : Bool) (fs : List Int) : Bool × Hd := callA kp fs x ⟨l, [], [], []⟩
def due {n : Nat} (x : Tr n) (l : Option Int) (kp : Bool) (fs : List Int) : PyData := .tuple [.bool (res x l kp fs).1, .tuple ((res x l kp fs).2.asks.map .int)]
theorem cost_le {n : Nat} (h : n ≤ 4) : cost n ≤ 7380 := by
  match n, h with
  | 0, _ => decide
  | 1, _ => decide
  | 2, _ => decide
  | 3, _ => decide
  | 4, _ => decide
theorem bd0 (l : Option Int) : Bd 0 ⟨l, [], [], []⟩ := ⟨Nat.le_refl _, Nat.le_refl _, Nat.le_refl _, fun _ h => absurd h List.not_mem_nil⟩
theorem mk_ok {l : Option Int} {kp : Bool} {fs : List Int} (h : FsOk fs) : mkop 0 0 [plD l kp, fsD fs] [] = .ok (.ref 4) (runM kp fs ⟨l, [], [], []⟩) := by
  have e : mkop 0 0 [plD l kp, fsD fs] [] = (match asInts (fs.map PyData.int) with
    | some is => if incB is && decide (is.length ≤ 1000000) then allocB [.dct (is.map fun i => (.int i, .bool true)), .dct [], .lst [], .lst []] (0 + 1) [(("left" : String), .d (optD l)), (("keeps" : String), .d (.bool kp)), (("fails" : String), .s 3), (("kept" : String), .s 2), (("asks" : String), .s 1), (("deciders" : String), .s 0)] [] else .bad
    | none => .bad) := rfl
  rw [e, asI_map]
  try dsimp only
  rw [if_pos (by simp only [h.inc, Bool.true_and, decide_eq_true_eq]; have := h.len; omega)]
  rfl
theorem ran_ok {n : Nat} {x : Tr n} {l : Option Int} {kp : Bool} {fs : List Int} (h : TpOk x l fs) (M : Mem) : run Tb fuel (k + 15) 171 [.p x.d, .p (plD l kp), .p (fsD fs)] M = .ok (.p (due x l kp fs)) M := by
  refine run0 (.p (.p (.p .nil))) (Wr.out ?_) M
  refine wp_call (show Tb 171 = some _ from rfl) rfl ?_
  have h1 := fun M => needtree_ok (fuel := fuel) (k := k + 7) h.ok h.n h.cnt M
  have h2 := fun M => needplan_ok (fuel := fuel) (k := k + 11) h.l kp M
  have h3 := fun M => isfails_ok (fuel := fuel) (k := k + 13) h.fs M
  have hc := cost_le h.n
  have hn := h.n
  have h4 := call_ok (fuel := fuel) (k := k + 14 - 3 * n) (kp := kp) (fs := fs) (n := n) (by omega) x h.ok 0 ⟨l, [], [], []⟩ (bd0 l) (by omega)
  rw [show k + 14 - 3 * n + 3 * n = k + 14 by omega] at h4
  have hb := callA_bd (kp := kp) (fs := fs) h.ok 0 _ (bd0 l)
  unfold due res
  generalize callA kp fs x ⟨l, [], [], []⟩ = r at *
  obtain ⟨rb, hd⟩ := r
  try dsimp only at *
  generalize run Tb fuel (k + 14) = fn at *
  (repeat' ((conv => whnf); first | (refine SC.mk (by first | decide | omega | exact Nat.le_of_ble_eq_true rfl | (simp; omega) | (simp; done) | rfl) ?_) | (refine WIf.tt rfl ?_) | (refine WIf.ff rfl ?_) | (refine wpSs.s ?_) | (refine Wr.eq (h1 _) ?_) | (refine Wr.eq (h2 _) ?_) | (refine Wr.eq (h3 _) ?_))); (all_goals (conv => whnf))
  refine Wr.eq (mk_ok h.fs) ?_
  (repeat' ((conv => whnf); first | (refine SC.mk (by first | decide | omega | exact Nat.le_of_ble_eq_true rfl | (simp; omega) | (simp; done) | rfl) ?_) | (refine WIf.tt rfl ?_) | (refine WIf.ff rfl ?_) | (refine wpSs.s ?_) | (refine Wr.eq h4 ?_))); (all_goals (conv => whnf))
  exact ⟨rfl, rfl⟩
theorem played_ok {n : Nat} {x : Tr n} {l : Option Int} {kp : Bool} {fs : List Int} (h : TpOk x l fs) (hfu : 100 < fuel) (M : Mem) : run Tb fuel (k + 10) 207 [.p x.d, .p (plD l kp), .p (fsD fs)] M =
    .ok (.p (.tuple [.bool (res x l kp fs).1, .tuple ((res x l kp fs).2.asks.map .int), .tuple ((res x l kp fs).2.decs.map .int)])) M := by
  refine run0 (.p (.p (.p .nil))) (Wr.out ?_) M
  refine wp_call (show Tb 207 = some _ from rfl) rfl ?_
  have hc := cost_le h.n
  have hn := h.n
  have h4 := asked_ok (fuel := fuel) (k := k + 9 - 2 * n) (kp := kp) (fs := fs) (z := optD l) hfu x h.ok 0 ⟨l, [], [], []⟩ (bd0 l) (by omega)
  rw [show k + 9 - 2 * n + 2 * n = k + 9 by omega] at h4
  have h4 : run Tb fuel (k + 9) 205 [.p x.d, .p (plD l kp), .p (fsD fs), .ref 3] (handM ⟨l, [], [], []⟩) = .ok (.p (.bool (res x l kp fs).1)) (handM (res x l kp fs).2) := h4
  generalize res x l kp fs = r at *
  obtain ⟨rb, hd⟩ := r
  try dsimp only at *
  generalize run Tb fuel (k + 9) = fn at *
  (repeat' ((conv => whnf); first | (refine SC.mk (by first | decide | omega | exact Nat.le_of_ble_eq_true rfl | (simp; omega) | (simp; done) | rfl) ?_) | (refine WIf.tt rfl ?_) | (refine WIf.ff rfl ?_) | (refine wpSs.s ?_) | (refine Wr.eq h4 ?_))); (all_goals (conv => whnf))
  exact ⟨rfl, rfl⟩
/-! ### sizes -/
def wgt : Nat → Nat
  | 0 => 0
  | n + 1 => (40 + (wgt n + 1) * 3 + 1) * 4
theorem tr_sz : ∀ {n : Nat} (x : Tr n), x.Ok → Sz (2 * n) (wgt n) x.d ∧ x.d.hasDict = false
  | 0, x, _ => nomatch (show Empty from x)
  | n + 1, x, hx => by
    have ih := fun p hp => tr_sz p (hx.2.2.2 p hp)
    obtain ⟨⟨s, t, a⟩, ps⟩ := x
    obtain ⟨hs, ht, hl, _⟩ := hx
    try dsimp only at hs ht hl ih
    have h1 : Sz (2 * n + 1) ((wgt n + 1) * 3) (.tuple (ps.map Tr.d)) := Sz.tupA (l := 3) (fun y hy => by
      obtain ⟨z, hz, rfl⟩ := List.mem_map.1 hy
      exact (ih z hz).1) (by rw [List.length_map]; exact hl)
    have h2 : ∀ y ∈ [PyData.int s, .int t, .str (modeS a), .tuple (ps.map Tr.d)], Sz (2 * n + 1) (40 + (wgt n + 1) * 3) y ∧ y.hasDict = false := fun y hy => by
      simp only [List.mem_cons, List.not_mem_nil, or_false] at hy
      rcases hy with rfl | rfl | rfl | rfl
      · exact ⟨(Sz.int (n := 2 * n + 1) (by omega)).mono (Nat.le_refl _) (by omega), rfl⟩
      · exact ⟨(Sz.int (n := 2 * n + 1) (by omega)).mono (Nat.le_refl _) (by omega), rfl⟩
      · cases a
        · exact ⟨(Sz.of (n := 0) (w := 40) (by decide)).mono (by omega) (by omega), rfl⟩
        · exact ⟨(Sz.of (n := 0) (w := 40) (by decide)).mono (by omega) (by omega), rfl⟩
      · refine ⟨h1.mono (Nat.le_refl _) (by omega), ?_⟩
        rw [PyData.hasDict]
        exact hasDictAll_of fun y hy => by
          obtain ⟨z, hz, rfl⟩ := List.mem_map.1 hy
          exact (ih z hz).2
    refine ⟨Sz.tupA (l := 4) (fun y hy => (h2 y hy).1) (Nat.le_refl _), ?_⟩
    show PyData.hasDict (.tuple [PyData.int s, .int t, .str (modeS a), .tuple (ps.map Tr.d)]) = false
    rw [PyData.hasDict]
    exact hasDictAll_of fun y hy => (h2 y hy).2
theorem ints_sz {xs : List Int} {l : Nat} (h : ∀ i ∈ xs, 0 ≤ i ∧ i < 10 ^ 12) (hl : xs.length ≤ l) : Sz 1 (41 * l) (.tuple (xs.map .int)) ∧ (PyData.tuple (xs.map .int)).hasDict = false := by
  refine ⟨Sz.tupA (n := 0) (w := 40) (fun y hy => ?_) (by rw [List.length_map]; exact hl), ?_⟩
  · obtain ⟨i, hi, rfl⟩ := List.mem_map.1 hy
    have := h i hi
    exact Sz.int (by omega)
  · rw [PyData.hasDict]
    exact hasDictAll_of fun y hy => by
      obtain ⟨i, hi, rfl⟩ := List.mem_map.1 hy
      rfl
theorem wgt_le {n : Nat} (h : n ≤ 4) : wgt n ≤ 331760 := by
  match n, h with
  | 0, _ => decide
  | 1, _ => decide
  | 2, _ => decide
  | 3, _ => decide
  | 4, _ => decide
theorem shw3 {n : Nat} {x : Tr n} {l : Option Int} {kp : Bool} {fs : List Int} (h : TpOk x l fs) : Shw (.tuple [x.d, plD l kp, fsD fs]) = true := by
  have h1 := tr_sz x h.ok
  have h2 := ints_sz (l := 1000) h.fs.pos h.fs.len
  have h3 : Sz 1 200 (plD l kp) ∧ (plD l kp).hasDict = false := by
    have ho : Sz 0 40 (optD l) ∧ (optD l).hasDict = false := by
      cases hl : l with
      | none => exact ⟨Sz.of (by decide), rfl⟩
      | some b =>
        have := h.l b hl
        exact ⟨Sz.int (by omega), rfl⟩
    refine ⟨(Sz.tupA (n := 0) (w := 40) (l := 2) (fun y hy => ?_) (Nat.le_refl _)).mono (Nat.le_refl _) (by decide), ?_⟩
    · simp only [List.mem_cons, List.not_mem_nil, or_false] at hy
      rcases hy with rfl | rfl
      · exact ho.1
      · exact (Sz.of (n := 0) (w := 40) (by cases kp <;> decide))
    · unfold plD
      rw [PyData.hasDict]
      exact hasDictAll_of fun y hy => by
        simp only [List.mem_cons, List.not_mem_nil, or_false] at hy
        rcases hy with rfl | rfl
        · exact ho.2
        · rfl
  have hw := wgt_le h.n
  have hn := h.n
  have hz : SzA 8 (331760 + 1 + (200 + 1 + (41000 + 1 + 0))) [x.d, plD l kp, fsD fs] := SzA.cons (h1.1.mono (by omega) hw) (SzA.cons (h3.1.mono (by decide) (Nat.le_refl _)) (SzA.cons (h2.1.mono (by decide) (by decide)) SzA.nil))
  refine hz.tup.shw (by decide) (by decide) (.inl ?_)
  rw [PyData.hasDict]
  exact hasDictAll_of fun y hy => by
    simp only [List.mem_cons, List.not_mem_nil, or_false] at hy
    rcases hy with rfl | rfl | rfl
    · exact h1.2
    · exact h3.2
    · exact h2.2
theorem shw2 {n : Nat} {x : Tr n} {l : Option Int} {kp : Bool} {fs : List Int} (h : TpOk x l fs) : Shw (.list [due x l kp fs, due x l kp fs]) = true := by
  have hc := cost_le h.n
  have hb := callA_bd (kp := kp) (fs := fs) h.ok 0 _ (bd0 l)
  have h2 := ints_sz (l := 7380) (xs := (res x l kp fs).2.asks) (fun i hi => by have := hb.s i hi; omega) (by have := hb.a; unfold res; omega)
  have h3 : Sz 2 302700 (due x l kp fs) ∧ (due x l kp fs).hasDict = false := by
    have hz : SzA 1 (40 + 1 + (41 * 7380 + 1 + 0)) [.bool (res x l kp fs).1, .tuple ((res x l kp fs).2.asks.map .int)] := SzA.cons (Sz.of (by cases (res x l kp fs).1 <;> decide)) (SzA.cons h2.1 SzA.nil)
    refine ⟨hz.tup.mono (Nat.le_refl _) (by decide), ?_⟩
    unfold due
    rw [PyData.hasDict]
    exact hasDictAll_of fun y hy => by
      simp only [List.mem_cons, List.not_mem_nil, or_false] at hy
      rcases hy with rfl | rfl
      · rfl
      · exact h2.2
  have hz : SzA 2 (302700 + 1 + (302700 + 1 + 0)) [due x l kp fs, due x l kp fs] := SzA.cons h3.1 (SzA.cons h3.1 SzA.nil)
  refine hz.lst.shw (by decide) (by decide) (.inl ?_)
  rw [PyData.hasDict]
  exact hasDictAll_of fun y hy => by
    simp only [List.mem_cons, List.not_mem_nil, or_false] at hy
    rcases hy with rfl | rfl <;> exact h3.2
theorem right_ok {n : Nat} {x : Tr n} {l : Option Int} {kp : Bool} {fs : List Int} (h : TpOk x l fs) (hfu : 100 < fuel) (M : Mem) : run Tb fuel (k + 16) 11 [.p x.d, .p (plD l kp), .p (fsD fs)] M = .ok (.p (.bool true)) M := by
  refine run0 (.p (.p (.p .nil))) (Wr.out ?_) M
  refine wp_call (show Tb 11 = some _ from rfl) rfl ?_
  have h1 := fun M => ran_ok (fuel := fuel) (k := k) (kp := kp) h M
  have h2 := fun M => played_ok (fuel := fuel) (k := k + 5) (kp := kp) h hfu M
  have h3 := shw3 (kp := kp) h
  have h4 := shw2 (kp := kp) h
  have h5 := fun M => same_ok (fuel := fuel) (k := k + 14) (show Tb 7 = some ⟨2, 2, true, bSame⟩ from rfl) (M := M) h4 h4
  have e1 : PyData.eqv (.str (PyData.list [due x l kp fs, due x l kp fs]).shown) (.str (PyData.list [due x l kp fs, due x l kp fs]).shown) = true := SeqAt.eqv_refl_plain _ rfl
  rw [e1] at h5
  generalize run Tb fuel (k + 15) = fn at *
  (repeat' ((conv => whnf); first | (refine SC.mk (by first | decide | omega | exact Nat.le_of_ble_eq_true rfl | (simp; omega) | (simp; done) | rfl) ?_) | (refine WIf.tt rfl ?_) | (refine WIf.ff rfl ?_) | (refine wpSs.s ?_) | (refine SC.mk h3 ?_) | (refine Wr.eq (h1 _) ?_) | (refine Wr.eq (h2 _) ?_) | (refine Wr.eq (h5 _) ?_))); (all_goals (conv => whnf))
  refine SC.mk ⟨rfl, rfl, Nat.zero_le _⟩ ?_
  (conv => whnf)
  refine ⟨?_, rfl⟩
  rw [if_neg (by decide), SeqAt.eqv_refl_plain (.str _) rfl]
end
end K52

set_option Elab.async false
set_option linter.all false
set_option maxRecDepth 100000
set_option maxHeartbeats 4000000
/-! k52: what is drawn; the law. -/
namespace K52
open PySem Mi
/-- a comprehension that keeps some of the items, while a cell changes -/
theorem W_compS {fn : Fn} {ws : List Nat} {t : Tg} {c : CEo} {e : CE} {ρ : Mi.Env} {β : Type} (enc : β → PyData) (ys : List β) (I : Nat → Mem → Prop) {M : Mem} {Q : List PyData → Mem → Prop} {X : Nat → Mem → Prop}
    (hl : ys.length ≤ 16777216) (h0 : I 0 M) (hf : ∀ y ∈ ys, ∀ n N, n < ys.length → I n N → wpBody fn ws t c e ρ (enc y) N (fun o N => (o = none ∨ o = some (enc y)) ∧ I (n + 1) N))
    (q : ∀ (zs : List β) (N : Mem), zs.Sublist ys → I ys.length N → Q (zs.map enc) N) : Wr (compLoop (cmpBody fn ws t c e ρ) (ys.map enc) [] M) Q X := by
  suffices h : ∀ (xs : List β) (acc : List PyData) (n : Nat) (N : Mem), (∀ y ∈ xs, y ∈ ys) → n + xs.length = ys.length → acc.length + xs.length ≤ 16777216 → I n N →
      ∃ (zs : List β) (N' : Mem), compLoop (cmpBody fn ws t c e ρ) (xs.map enc) acc N = .ok (acc ++ zs.map enc) N' ∧ zs.Sublist xs ∧ I ys.length N' by
    obtain ⟨zs, N', e1, e2, e3⟩ := h ys [] 0 M (fun y h => h) (by simp) (by simpa using hl) h0
    exact .ok _ _ (by rw [e1]; simp) (q zs N' e2 e3)
  intro xs
  induction xs with
  | nil =>
    intro acc n N _ hn _ hI
    refine ⟨[], N, by simp [compLoop], List.Sublist.slnil, ?_⟩
    have : n = ys.length := by simpa using hn
    rw [← this]; exact hI
  | cons x xs ih =>
    intro acc n N hm hn ha hI
    rw [List.length_cons] at hn ha
    obtain ⟨o, N1, e1, h1, h2⟩ := (wpBody.s (hf x (hm x List.mem_cons_self) n N (by omega) hI)).get
    rw [List.map_cons, compLoop, e1]
    rcases h1 with rfl | rfl
    · obtain ⟨zs, N', g1, g2, g3⟩ := ih acc (n + 1) N1 (fun y hy => hm y (List.mem_cons_of_mem _ hy)) (by omega) (by omega) h2
      exact ⟨zs, N', g1, g2.cons _, g3⟩
    · try dsimp only
      rw [if_pos (by omega)]
      obtain ⟨zs, N', g1, g2, g3⟩ := ih (acc ++ [enc x]) (n + 1) N1 (fun y hy => hm y (List.mem_cons_of_mem _ hy)) (by omega) (by rw [List.length_append, List.length_singleton]; omega) h2
      exact ⟨x :: zs, N', by rw [g1]; simp, g2.cons₂ _, g3⟩
theorem cnt_nn : ∀ {n : Nat} (x : Tr n), 0 ≤ x.cnt
  | 0, x => nomatch (show Empty from x)
  | n + 1, x => by
    have : ∀ l : List (Tr n), 0 ≤ (l.map Tr.cnt).sum := fun l => by
      induction l with
      | nil => exact Int.le_refl _
      | cons y l ih =>
        have := cnt_nn y
        rw [List.map_cons, List.sum_cons]
        omega
    have := this x.2
    show 0 ≤ 1 + (x.2.map Tr.cnt).sum
    omega
def uses : Nat → Nat
  | 0 => 4
  | n + 1 => 4 + 3 * uses n
section
variable {fuel k : Nat}
theorem call_dr : ∀ (n : Nat) {t : Nat} {p : MO} {r : Int}, PenB t p → t + uses n < 2 ^ 49 → 1 ≤ r → r ≤ 100 →
    Wr (run Tb fuel (k + n + 3) 203 [.ref 0, .p (.int ((n : Nat) + 1)), .ref 1] [p, .lst [.int r]]) (fun d N => ∃ (x : Tr (n + 1)) (p' : MO) (r' : Int), d = .p x.d ∧ N = [p', .lst [.int r']] ∧ x.Ok ∧ PenB (t + uses n) p' ∧ 0 ≤ r' ∧ x.cnt = r - r') NoX
  | n, t, p, r, hp, ht, hr0, hr1 => by
    refine wp_call (show Tb 203 = some _ from rfl) rfl ?_
    have h5 : ∀ {m : Int} {Q : D → Mem → Prop} {X : Nat → Mem → Prop} {M : Mem} {p : MO} {i t : Nat}, PenB t p → t < 2 ^ 50 → 0 < m → m < 1073741824 → M[i]? = some p → (∀ r p', 0 ≤ r → r < m → PenB (t + 1) p' → Q (.p (.int r)) (M.set i p')) → Wr (run Tb fuel (k + n + 2) 5 [.ref i, .p (.int m)] M) Q X := fun hp ht h0 h1 e q => W_draw (k := k + n + 1) rfl hp ht h0 h1 e q
    have h6 : ∀ {xs : List PyData} {Q : D → Mem → Prop} {X : Nat → Mem → Prop} {M : Mem} {p : MO} {i t : Nat}, PenB t p → t < 2 ^ 50 → 0 < xs.length → xs.length < 1073741824 → M[i]? = some p → (∀ x p', x ∈ xs → PenB (t + 1) p' → Q (.p x) (M.set i p')) → Wr (run Tb fuel (k + n + 2) 6 [.ref i, .p (.list xs)] M) Q X := fun hp ht h0 h1 e q => W_pick (k := k + n) rfl rfl hp ht h0 h1 e q
    have ih : ∀ m, n = m + 1 → ∀ {t : Nat} {p : MO} {r : Int}, PenB t p → t + uses m < 2 ^ 49 → 1 ≤ r → r ≤ 100 →
        Wr (run Tb fuel (k + n + 2) 203 [.ref 0, .p (.int (n : Nat)), .ref 1] [p, .lst [.int r]]) (fun d N => ∃ (x : Tr n) (p' : MO) (r' : Int), d = .p x.d ∧ N = [p', .lst [.int r']] ∧ x.Ok ∧ PenB (t + uses m) p' ∧ 0 ≤ r' ∧ x.cnt = r - r') NoX := by
      rintro m rfl t p r hp ht h0 h1
      have := call_dr m hp ht h0 h1
      rwa [show ((m : Nat) : Int) + 1 = ((m + 1 : Nat) : Int) by omega] at this
    generalize run Tb fuel (k + n + 2) = fn at *
    (repeat' ((conv => whnf); first | (refine SC.mk (by first | decide | omega | exact Nat.le_of_ble_eq_true rfl | (simp; omega) | (simp; done) | rfl) ?_) | (refine WIf.tt rfl ?_) | (refine WIf.ff rfl ?_) | (refine wpSs.s ?_))); (all_goals (conv => whnf))
    refine h5 hp (by omega) (by decide) (by decide) rfl (fun s p1 hs0 hs1 hp1 => ?_)
    (repeat' ((conv => whnf); first | (refine SC.mk (by first | decide | omega | exact Nat.le_of_ble_eq_true rfl | (simp; omega) | (simp; done) | rfl) ?_) | (refine WIf.tt rfl ?_) | (refine WIf.ff rfl ?_) | (refine wpSs.s ?_))); (all_goals (conv => whnf))
    refine h5 hp1 (by omega) (by decide) (by decide) rfl (fun tr p2 ht0 ht1 hp2 => ?_)
    (repeat' ((conv => whnf); first | (refine SC.mk (by first | decide | omega | exact Nat.le_of_ble_eq_true rfl | (simp; omega) | (simp; done) | rfl) ?_) | (refine WIf.tt rfl ?_) | (refine WIf.ff rfl ?_) | (refine wpSs.s ?_))); (all_goals (conv => whnf))
    refine h6 hp2 (by omega) (by decide) (by decide) rfl (fun md p3 hmd hp3 => ?_)
    have hmd' : ∃ a, md = .str (modeS a) := by
      simp only [List.mem_cons, List.not_mem_nil, or_false] at hmd
      rcases hmd with rfl | rfl | rfl
      · exact ⟨false, rfl⟩
      · exact ⟨false, rfl⟩
      · exact ⟨true, rfl⟩
    obtain ⟨a, rfl⟩ := hmd'
    (conv => whnf)
    refine wpSs.s ?_
    (conv => whnf)
    refine SC.mk (by decide) ?_
    (conv => whnf)
    refine W_cutS (fun ρ N => ∃ (m : Int) (p4 : MO), ρ = [some (.ref 0), some (.p (.int ((n : Nat) + 1))), some (.ref 1), some (.p (.int s)), some (.p (.int (1 + tr))), some (.p (.str (modeS a))), some (.p (.int m)), some (.p (.tuple [])), none] ∧ N = [p4, .lst [.int (r - 1)]] ∧ 0 ≤ m ∧ m ≤ 3 ∧ (n = 0 → m = 0) ∧ PenB (t + 4) p4) ?_ ?_
    · by_cases hn : n = 0
      · subst hn
        (repeat' ((conv => whnf); first | (refine SC.mk (by first | decide | omega | exact Nat.le_of_ble_eq_true rfl | (simp; omega) | (simp; done) | rfl) ?_) | (refine WIf.tt rfl ?_) | (refine WIf.ff rfl ?_) | (refine wpSs.s ?_))); (all_goals (conv => whnf))
        exact ⟨0, p3, rfl, rfl, by omega, by omega, fun _ => rfl, hp3.mono (by omega)⟩
      · have hd : decide ((1 : Int) < ((n : Nat) : Int) + 1) = true := decide_eq_true (by omega)
        (repeat' ((conv => whnf); first | (refine SC.mk (by first | decide | omega | exact Nat.le_of_ble_eq_true rfl | (simp; omega) | (simp; done) | rfl) ?_) | (refine WIf.tt rfl ?_) | (refine WIf.ff rfl ?_) | (refine wpSs.s ?_) | (refine WIf.tt hd ?_))); (all_goals (conv => whnf))
        refine h5 hp3 (by omega) (by decide) (by decide) rfl (fun m p4 hm0 hm1 hp4 => ?_)
        (repeat' ((conv => whnf); first | (refine SC.mk (by first | decide | omega | exact Nat.le_of_ble_eq_true rfl | (simp; omega) | (simp; done) | rfl) ?_) | (refine WIf.tt rfl ?_) | (refine WIf.ff rfl ?_) | (refine wpSs.s ?_))); (all_goals (conv => whnf))
        exact ⟨m, p4, rfl, rfl, hm0, by omega, fun h => absurd h hn, hp4⟩
    rintro ρ N ⟨m, p4, rfl, rfl, hm0, hm1, hmn, hp4⟩
    refine wpSs.s ?_
    (conv => whnf)
    refine SC.mk (by simp [rngOk]; omega) ?_
    (conv => whnf)
    rw [rngP_map]
    have hus : ∀ m, n = m + 1 → uses n = 4 + 3 * uses m := fun m e => by rw [e]; rfl
    refine W_for (fun i : Nat => PyData.int (i : Nat)) (List.range m.toNat) (fun pre ρ N => ∃ (ps : List (Tr n)) (p' : MO) (r' : Int) (x8 : Option D), ρ = [some (.ref 0), some (.p (.int ((n : Nat) + 1))), some (.ref 1), some (.p (.int s)), some (.p (.int (1 + tr))), some (.p (.str (modeS a))), some (.p (.int m)), some (.p (.tuple (ps.map Tr.d))), x8] ∧ N = [p', .lst [.int r']] ∧
      ps.length ≤ pre.length ∧ (∀ q ∈ ps, q.Ok) ∧ PenB (t + 4 + pre.length * uses (n - 1)) p' ∧ 0 ≤ r' ∧ r' ≤ 100 ∧ (ps.map Tr.cnt).sum = r - 1 - r') ⟨[], p4, r - 1, none, rfl, rfl, Nat.le_refl _, fun _ h => absurd h List.not_mem_nil, hp4.mono (by omega), by omega, by omega, by simp⟩ ?_ ?_
    · rintro pre i post hpre ρ N ⟨ps, p', r', x8, rfl, rfl, hl, hok, hp', hr0', hr1', hsum⟩
      have hpl : pre.length < 3 := by
        have := congrArg List.length hpre
        simp at this; omega
      obtain ⟨n', rfl⟩ : ∃ n', n = n' + 1 := by
        refine ⟨n - 1, ?_⟩
        have : n ≠ 0 := fun h => by
          have := hmn h
          have := congrArg List.length hpre
          simp at this; omega
        omega
      have hu := hus n' rfl
      rw [show n' + 1 - 1 = n' from rfl] at hp' ⊢
      have hpu : pre.length * uses n' ≤ 2 * uses n' := Nat.mul_le_mul_right _ (by omega)
      have hpu2 : (pre.length + 1) * uses n' = pre.length * uses n' + uses n' := Nat.succ_mul _ _
      by_cases hr : 0 < r'
      · have hd : decide ((0 : Int) < r') = true := decide_eq_true hr
        have hc := ih n' rfl hp' (by omega) (show 1 ≤ r' by omega) (by omega)
        (repeat' ((conv => whnf); first | (refine SC.mk (by first | decide | omega | exact Nat.le_of_ble_eq_true rfl | (simp; omega) | (simp; done) | rfl) ?_) | (refine WIf.tt rfl ?_) | (refine WIf.ff rfl ?_) | (refine wpSs.s ?_) | (refine WIf.tt hd ?_))); (all_goals (conv => whnf))
        rw [show (((n' + 1 : Nat) : Int) + 1 - 1) = ((n' + 1 : Nat) : Int) by omega]
        refine Wr.mono hc (fun d N hq => ?_) fun _ _ h => h
        obtain ⟨x, p5, r5, rfl, rfl, hx, hp5, h50, h5c⟩ := hq
        (repeat' ((conv => whnf); first | (refine SC.mk (by first | decide | omega | exact Nat.le_of_ble_eq_true rfl | (simp; omega) | (simp; done) | rfl) ?_) | (refine WIf.tt rfl ?_) | (refine WIf.ff rfl ?_) | (refine wpSs.s ?_) | (refine SC.mk (by rw [List.length_map]; simp; omega) ?_))); (all_goals (conv => whnf))
        refine ⟨ps ++ [x], p5, r5, _, by rw [List.map_append]; rfl, rfl, by rw [List.length_append, List.length_append]; simp; omega, fun q hq => ?_, hp5.mono (by rw [List.length_append, List.length_singleton]; omega), h50, ?_, by rw [List.map_append, List.sum_append, hsum]; simp; omega⟩
        · rcases List.mem_append.1 hq with h | h
          · exact hok q h
          · rw [List.mem_singleton.1 h]; exact hx
        · have := cnt_nn x; omega
      · have hd : decide ((0 : Int) < r') = false := decide_eq_false hr
        (repeat' ((conv => whnf); first | (refine SC.mk (by first | decide | omega | exact Nat.le_of_ble_eq_true rfl | (simp; omega) | (simp; done) | rfl) ?_) | (refine WIf.tt rfl ?_) | (refine WIf.ff rfl ?_) | (refine wpSs.s ?_) | (refine WIf.ff hd ?_))); (all_goals (conv => whnf))
        exact ⟨ps, p', r', _, rfl, rfl, by rw [List.length_append]; omega, hok, hp'.mono (by rw [List.length_append, List.length_singleton]; omega), hr0', hr1', hsum⟩
    · rintro ρ N ⟨ps, p', r', x8, rfl, rfl, hl, hok, hp', hr0', hr1', hsum⟩
      rw [List.length_range] at hl hp'
      (repeat' ((conv => whnf); first | (refine SC.mk (by first | decide | omega | exact Nat.le_of_ble_eq_true rfl | (simp; omega) | (simp; done) | rfl) ?_) | (refine WIf.tt rfl ?_) | (refine WIf.ff rfl ?_) | (refine wpSs.s ?_))); (all_goals (conv => whnf))
      have hxo : Tr.Ok (n := n + 1) ((s, 1 + tr, a), ps) := ⟨by show (0 : Int) ≤ s ∧ s ≤ 3; omega, by show (1 : Int) ≤ 1 + tr ∧ 1 + tr ≤ 3; omega, by show ps.length ≤ 3; omega, hok⟩
      refine ⟨((s, 1 + tr, a), ps), p', r', rfl, rfl, hxo, hp'.mono ?_, hr0', ?_⟩
      · cases n with
        | zero => rw [hmn rfl]; simp [uses]
        | succ n' =>
          have := Nat.mul_le_mul_right (uses n') (show m.toNat ≤ 3 by omega)
          simp only [Nat.add_sub_cancel, uses]
          omega
      · simp only [Tr.cnt, hsum]
        omega
theorem tree_dr {n t : Nat} {p : MO} {i : Nat} {M : Mem} {Q : D → Mem → Prop} {X : Nat → Mem → Prop} (hn : n ≤ 3) (hp : PenB t p) (ht : t < 2 ^ 48) (e : M[i]? = some p)
    (q : ∀ (x : Tr (n + 1)) p', x.Ok → x.cnt ≤ 12 → PenB (t + 160) p' → Q (.p x.d) (M.set i p')) : Wr (run Tb fuel (k + 7) 204 [.ref i, .p (.int ((n : Nat) + 1)), .p (.int 12)] M) Q X := by
  have hus : uses n ≤ 160 := by
    match n, hn with
    | 0, _ => decide
    | 1, _ => decide
    | 2, _ => decide
    | 3, _ => decide
  suffices h : Wr (run Tb fuel (k + 7) 204 [.ref 0, .p (.int ((n : Nat) + 1)), .p (.int 12)] [p]) (fun d N => ∃ (x : Tr (n + 1)) (p' : MO), x.Ok ∧ x.cnt ≤ 12 ∧ PenB (t + 160) p' ∧ d = .p x.d ∧ N = [p']) NoX by
    obtain ⟨d, N, e1, x, p', hx, hc, hp', rfl, rfl⟩ := h.get
    exact .ok _ _ (run1 e (.p (.p .nil)) e1) (q x p' hx hc hp')
  refine wp_call (show Tb 204 = some _ from rfl) rfl ?_
  have hc := call_dr (fuel := fuel) (k := k + 3 - n) n hp (show t + uses n < 2 ^ 49 by omega) (show (1 : Int) ≤ 12 by decide) (by decide)
  rw [show k + 3 - n + n + 3 = k + 6 by omega] at hc
  generalize run Tb fuel (k + 6) = fn at *
  (repeat' ((conv => whnf); first | (refine SC.mk (by first | decide | omega | exact Nat.le_of_ble_eq_true rfl | (simp; omega) | (simp; done) | rfl) ?_) | (refine WIf.tt rfl ?_) | (refine WIf.ff rfl ?_) | (refine wpSs.s ?_))); (all_goals (conv => whnf))
  refine Wr.mono hc (fun d N hq => ?_) fun _ _ h => h
  obtain ⟨x, p', r', rfl, rfl, hx, hp', hr, hcn⟩ := hq
  (repeat' ((conv => whnf); first | (refine SC.mk (by first | decide | omega | exact Nat.le_of_ble_eq_true rfl | (simp; omega) | (simp; done) | rfl) ?_) | (refine WIf.tt rfl ?_) | (refine WIf.ff rfl ?_) | (refine wpSs.s ?_))); (all_goals (conv => whnf))
  exact ⟨x, p', hx, by omega, hp'.mono (by omega), rfl, rfl⟩
theorem plan_dr {t : Nat} {p : MO} {i : Nat} {M : Mem} {Q : D → Mem → Prop} {X : Nat → Mem → Prop} (hp : PenB t p) (ht : t < 2 ^ 48) (e : M[i]? = some p)
    (q : ∀ l kp p', LOk l → PenB (t + 2) p' → Q (.p (plD l kp)) (M.set i p')) : Wr (run Tb fuel (k + 3) 208 [.ref i] M) Q X := by
  suffices h : Wr (run Tb fuel (k + 3) 208 [.ref 0] [p]) (fun d N => ∃ l kp p', LOk l ∧ PenB (t + 2) p' ∧ d = .p (plD l kp) ∧ N = [p']) NoX by
    obtain ⟨d, N, e1, l, kp, p', hl, hp', rfl, rfl⟩ := h.get
    exact .ok _ _ (run1 e .nil e1) (q l kp p' hl hp')
  refine wp_call (show Tb 208 = some _ from rfl) rfl ?_
  have h5 : ∀ {m : Int} {Q : D → Mem → Prop} {X : Nat → Mem → Prop} {M : Mem} {p : MO} {i t : Nat}, PenB t p → t < 2 ^ 50 → 0 < m → m < 1073741824 → M[i]? = some p → (∀ r p', 0 ≤ r → r < m → PenB (t + 1) p' → Q (.p (.int r)) (M.set i p')) → Wr (run Tb fuel (k + 2) 5 [.ref i, .p (.int m)] M) Q X := fun hp ht h0 h1 e q => W_draw (k := k + 1) rfl hp ht h0 h1 e q
  have h6 : ∀ {xs : List PyData} {Q : D → Mem → Prop} {X : Nat → Mem → Prop} {M : Mem} {p : MO} {i t : Nat}, PenB t p → t < 2 ^ 50 → 0 < xs.length → xs.length < 1073741824 → M[i]? = some p → (∀ x p', x ∈ xs → PenB (t + 1) p' → Q (.p x) (M.set i p')) → Wr (run Tb fuel (k + 2) 6 [.ref i, .p (.list xs)] M) Q X := fun hp ht h0 h1 e q => W_pick (k := k) rfl rfl hp ht h0 h1 e q
  generalize run Tb fuel (k + 2) = fn at *
  (repeat' ((conv => whnf); first | (refine SC.mk (by first | decide | omega | exact Nat.le_of_ble_eq_true rfl | (simp; omega) | (simp; done) | rfl) ?_) | (refine WIf.tt rfl ?_) | (refine WIf.ff rfl ?_) | (refine wpSs.s ?_))); (all_goals (conv => whnf))
  refine h6 hp (by omega) (by decide) (by decide) rfl (fun md p1 hmd hp1 => ?_)
  have hl : ∃ l, md = optD l ∧ LOk l := by
    simp only [List.mem_cons, List.not_mem_nil, or_false] at hmd
    rcases hmd with rfl | rfl | rfl | rfl | rfl | rfl | rfl
    · exact ⟨none, rfl, fun _ h => by cases h⟩
    · exact ⟨none, rfl, fun _ h => by cases h⟩
    · exact ⟨some 0, rfl, fun _ h => by cases h; decide⟩
    · exact ⟨some 1, rfl, fun _ h => by cases h; decide⟩
    · exact ⟨some 2, rfl, fun _ h => by cases h; decide⟩
    · exact ⟨some 3, rfl, fun _ h => by cases h; decide⟩
    · exact ⟨some 4, rfl, fun _ h => by cases h; decide⟩
  obtain ⟨l, rfl, hl⟩ := hl
  (repeat' ((conv => whnf); first | (refine SC.mk (by first | decide | omega | exact Nat.le_of_ble_eq_true rfl | (simp; omega) | (simp; done) | rfl) ?_) | (refine WIf.tt rfl ?_) | (refine WIf.ff rfl ?_) | (refine wpSs.s ?_))); (all_goals (conv => whnf))
  refine h5 hp1 (by omega) (by decide) (by decide) rfl (fun r p2 _ _ hp2 => ?_)
  (repeat' ((conv => whnf); first | (refine SC.mk (by first | decide | omega | exact Nat.le_of_ble_eq_true rfl | (simp; omega) | (simp; done) | rfl) ?_) | (refine WIf.tt rfl ?_) | (refine WIf.ff rfl ?_) | (refine wpSs.s ?_) | (refine SC.mk ⟨rfl, rfl, Nat.le_of_ble_eq_true rfl⟩ ?_))); (all_goals (conv => whnf))
  exact ⟨l, _, p2, hl, hp2, rfl, rfl⟩
theorem pw_inc : ∀ {fs : List Int}, fs.Pairwise (· < ·) → incB fs = true
  | [], _ => rfl
  | [_], _ => rfl
  | x :: y :: r, h => by
    have h1 := List.pairwise_cons.1 h
    simp only [incB, Bool.and_eq_true, decide_eq_true_eq]
    exact ⟨h1.1 y List.mem_cons_self, pw_inc h1.2⟩
structure FsP (m : Int) (fs : List Int) : Prop where
  pw : fs.Pairwise (· < ·)
  pos : ∀ f ∈ fs, 0 ≤ f ∧ f < m
  len : (fs.length : Int) ≤ m
theorem FsP.ok {m : Int} {fs : List Int} (h : FsP m fs) (hm : m ≤ 1000) : FsOk fs := ⟨pw_inc h.pw, fun f hf => by have := h.pos f hf; omega, by have := h.len; omega⟩
theorem FsP.more {fs : List Int} (h : FsP 300 fs) : FsOk (fs ++ [1000, 100000000000]) := by
  refine ⟨pw_inc ?_, fun f hf => ?_, ?_⟩
  · rw [List.pairwise_append]
    refine ⟨h.pw, by simp, fun a ha b hb => ?_⟩
    have := h.pos a ha
    simp only [List.mem_cons, List.not_mem_nil, or_false] at hb
    rcases hb with rfl | rfl <;> omega
  · rcases List.mem_append.1 hf with h1 | h1
    · have := h.pos f h1; omega
    · simp only [List.mem_cons, List.not_mem_nil, or_false] at h1
      rcases h1 with rfl | rfl <;> omega
  · have := h.len
    simp; omega
theorem FsP.rng (n : Nat) : FsP n ((List.range n).map fun i => ((i : Nat) : Int)) := by
  refine ⟨?_, fun f hf => ?_, by simp⟩
  · rw [List.pairwise_map]
    exact List.pairwise_lt_range.imp fun h => by omega
  · obtain ⟨i, hi, rfl⟩ := List.mem_map.1 hf
    have := List.mem_range.1 hi
    omega
theorem FsP.sub {m : Int} {fs gs : List Int} (h : FsP m fs) (s : gs.Sublist fs) : FsP m gs := ⟨h.pw.sublist s, fun f hf => h.pos f (s.subset hf), by have := s.length_le; have := h.len; omega⟩
theorem fails_dr {m : Int} {t : Nat} {p : MO} {i : Nat} {M : Mem} {Q : D → Mem → Prop} {X : Nat → Mem → Prop} (hm0 : 0 ≤ m) (hm : m ≤ 300) (hp : PenB t p) (ht : t < 2 ^ 48) (e : M[i]? = some p)
    (q : ∀ fs p', FsP m fs → PenB (t + 400) p' → Q (.p (fsD fs)) (M.set i p')) : Wr (run Tb fuel (k + 2) 209 [.ref i, .p (.int m)] M) Q X := by
  suffices h : Wr (run Tb fuel (k + 2) 209 [.ref 0, .p (.int m)] [p]) (fun d N => ∃ fs p', FsP m fs ∧ PenB (t + 400) p' ∧ d = .p (fsD fs) ∧ N = [p']) NoX by
    obtain ⟨d, N, e1, fs, p', hf, hp', rfl, rfl⟩ := h.get
    exact .ok _ _ (run1 e (.p .nil) e1) (q fs p' hf hp')
  refine wp_call (show Tb 209 = some _ from rfl) rfl ?_
  have h5 : ∀ {m : Int} {Q : D → Mem → Prop} {X : Nat → Mem → Prop} {M : Mem} {p : MO} {i t : Nat}, PenB t p → t < 2 ^ 50 → 0 < m → m < 1073741824 → M[i]? = some p → (∀ r p', 0 ≤ r → r < m → PenB (t + 1) p' → Q (.p (.int r)) (M.set i p')) → Wr (run Tb fuel (k + 1) 5 [.ref i, .p (.int m)] M) Q X := fun hp ht h0 h1 e q => W_draw (k := k) rfl hp ht h0 h1 e q
  generalize run Tb fuel (k + 1) = fn at *
  (repeat' ((conv => whnf); first | (refine SC.mk (by first | decide | omega | exact Nat.le_of_ble_eq_true rfl | (simp; omega) | (simp; done) | rfl) ?_) | (refine WIf.tt rfl ?_) | (refine WIf.ff rfl ?_) | (refine wpSs.s ?_))); (all_goals (conv => whnf))
  refine h5 hp (by omega) (by decide) (by decide) rfl (fun r p1 hr0 hr1 hp1 => ?_)
  (repeat' ((conv => whnf); first | (refine SC.mk (by first | decide | omega | exact Nat.le_of_ble_eq_true rfl | (simp; omega) | (simp; done) | rfl) ?_) | (refine WIf.tt rfl ?_) | (refine WIf.ff rfl ?_) | (refine wpSs.s ?_))); (all_goals (conv => whnf))
  refine SC.mk (by simp [rngOk]; omega) ?_
  (conv => whnf)
  rw [rngP_map]
  refine W_compS (fun i : Nat => PyData.int (i : Nat)) (List.range m.toNat) (fun n N => ∃ p', N = [p'] ∧ PenB (t + 1 + n) p') (by simp; omega) ⟨p1, rfl, hp1⟩ ?_ ?_
  · rintro i hi n N hn ⟨p', rfl, hp'⟩
    rw [List.length_range] at hn
    (conv => whnf)
    refine h5 hp' (by omega) (by omega) (by omega) rfl (fun r2 p2 _ _ hp2 => ?_)
    (repeat' ((conv => whnf); first | (refine SC.mk (by first | decide | omega | exact Nat.le_of_ble_eq_true rfl | (simp; omega) | (simp; done) | rfl) ?_) | (refine WIf.tt rfl ?_) | (refine WIf.ff rfl ?_) | (refine wpSs.s ?_) | (refine SC.mk ⟨rfl, rfl, Nat.le_of_ble_eq_true rfl⟩ ?_))); (all_goals (conv => whnf))
    refine WIf.mk (fun _ => ?_) (fun _ => ?_)
    · (conv => whnf)
      exact ⟨.inr rfl, p2, rfl, hp2⟩
    · exact ⟨.inl rfl, p2, rfl, hp2⟩
  · rintro zs N hz ⟨p', rfl, hp'⟩
    rw [List.length_range] at hp'
    (repeat' ((conv => whnf); first | (refine SC.mk (by first | decide | omega | exact Nat.le_of_ble_eq_true rfl | (simp; omega) | (simp; done) | rfl) ?_) | (refine WIf.tt rfl ?_) | (refine WIf.ff rfl ?_) | (refine wpSs.s ?_))); (all_goals (conv => whnf))
    refine ⟨zs.map fun i => ((i : Nat) : Int), p', ?_, hp'.mono (by omega), by unfold fsD; rw [List.map_map]; rfl, rfl⟩
    have h1 := FsP.rng m.toNat
    rw [show ((m.toNat : Nat) : Int) = m by omega] at h1
    exact h1.sub (hz.map _)
theorem natop8 : natop 8 [.int 700] = some (fsD ((List.range 700).map fun i => ((i : Nat) : Int))) := by
  have e : natop 8 [.int 700] = if (decide (-(2 ^ 62) ≤ (700 : Int)) && decide ((700 : Int) ≤ 16777216)) = true then some (.tuple ((List.range (700 : Int).toNat).map fun i => .int (i : Nat))) else none := rfl
  rw [e, if_pos (by decide)]
  unfold fsD
  rw [List.map_map]
  rfl
theorem mosts {i : Nat} (h : i < 5) : ∃ v : Int, L2.atI [PyData.int 6, .int 20, .int 60, .int 300, .int 3] ((i : Nat) : Int) = some (.int v) ∧ 0 ≤ v ∧ v ≤ 300 := by
  match i, h with
  | 0, _ => exact ⟨6, rfl, by decide, by decide⟩
  | 1, _ => exact ⟨20, rfl, by decide, by decide⟩
  | 2, _ => exact ⟨60, rfl, by decide, by decide⟩
  | 3, _ => exact ⟨300, rfl, by decide, by decide⟩
  | 4, _ => exact ⟨3, rfl, by decide, by decide⟩
theorem law_ok (hfu : 100 < fuel) (ns : List Int) : Wr (run Tb fuel (k + 17) 12 [.scr ns] []) (fun d N => d = .p (.bool true)) NoX := by
  refine wp_call (show Tb 12 = some _ from rfl) rfl ?_
  have h3 : ∀ {M : Mem} {j : Int} {Q : D → Mem → Prop} {X : Nat → Mem → Prop}, 0 ≤ j → (∀ r : Int, Q (.p (.int r)) M) → Wr (run Tb fuel (k + 16) 3 [.scr ns, .p (.int j)] M) Q X := fun h q => W_cell (k := k + 15) rfl h q
  have h4 : ∀ {M : Mem} {j : Int} {Q : D → Mem → Prop} {X : Nat → Mem → Prop}, (∀ p, PenB 0 p → Q (.ref M.length) (M ++ [p])) → Wr (run Tb fuel (k + 16) 4 [.p (.int j)] M) Q X := fun q => W_pen (k := k + 15) rfl q
  have h5 : ∀ {m : Int} {Q : D → Mem → Prop} {X : Nat → Mem → Prop} {M : Mem} {p : MO} {i t : Nat}, PenB t p → t < 2 ^ 50 → 0 < m → m < 1073741824 → M[i]? = some p → (∀ r p', 0 ≤ r → r < m → PenB (t + 1) p' → Q (.p (.int r)) (M.set i p')) → Wr (run Tb fuel (k + 16) 5 [.ref i, .p (.int m)] M) Q X := fun hp ht h0 h1 e q => W_draw (k := k + 15) rfl hp ht h0 h1 e q
  have hT : ∀ {n t : Nat} {p : MO} {i : Nat} {M : Mem} {Q : D → Mem → Prop} {X : Nat → Mem → Prop}, n ≤ 3 → PenB t p → t < 2 ^ 48 → M[i]? = some p → (∀ (x : Tr (n + 1)) p', x.Ok → x.cnt ≤ 12 → PenB (t + 160) p' → Q (.p x.d) (M.set i p')) → Wr (run Tb fuel (k + 16) 204 [.ref i, .p (.int ((n : Nat) + 1)), .p (.int 12)] M) Q X := fun hn hp ht e q => tree_dr (k := k + 9) hn hp ht e q
  have hP : ∀ {t : Nat} {p : MO} {i : Nat} {M : Mem} {Q : D → Mem → Prop} {X : Nat → Mem → Prop}, PenB t p → t < 2 ^ 48 → M[i]? = some p → (∀ l kp p', LOk l → PenB (t + 2) p' → Q (.p (plD l kp)) (M.set i p')) → Wr (run Tb fuel (k + 16) 208 [.ref i] M) Q X := fun hp ht e q => plan_dr (k := k + 13) hp ht e q
  have hF : ∀ {m : Int} {t : Nat} {p : MO} {i : Nat} {M : Mem} {Q : D → Mem → Prop} {X : Nat → Mem → Prop}, 0 ≤ m → m ≤ 300 → PenB t p → t < 2 ^ 48 → M[i]? = some p → (∀ fs p', FsP m fs → PenB (t + 400) p' → Q (.p (fsD fs)) (M.set i p')) → Wr (run Tb fuel (k + 16) 209 [.ref i, .p (.int m)] M) Q X := fun h0 h1 hp ht e q => fails_dr (k := k + 14) h0 h1 hp ht e q
  have h11 : ∀ {n : Nat} {x : Tr n} {l : Option Int} {kp : Bool} {fs : List Int}, TpOk x l fs → ∀ M, run Tb fuel (k + 16) 11 [.p x.d, .p (plD l kp), .p (fsD fs)] M = .ok (.p (.bool true)) M := fun h M => right_ok (k := k) h hfu M
  generalize run Tb fuel (k + 16) = fn at *
  (repeat' ((conv => whnf); first | (refine SC.mk (by first | decide | omega | exact Nat.le_of_ble_eq_true rfl | (simp; omega) | (simp; done) | rfl) ?_) | (refine WIf.tt rfl ?_) | (refine WIf.ff rfl ?_) | (refine wpSs.s ?_))); (all_goals (conv => whnf))
  refine SC.mk (by simp only [rngOk, Bool.and_eq_true, decide_eq_true_eq]; repeat' split <;> omega) ?_
  (conv => whnf)
  rw [rngP_map]
  refine W_for (fun i : Nat => PyData.int (i : Nat)) _ (fun pre ρ N => ∃ x1 x2 x3 x4 x5 x6 x7, ρ = [some (.scr ns), x1, x2, x3, x4, x5, x6, x7]) ⟨_, _, _, _, _, _, _, rfl⟩ ?_ ?_
  · rintro pre i post hpre ρ N ⟨x1, x2, x3, x4, x5, x6, x7, rfl⟩
    (conv => whnf)
    refine wpSs.s ?_
    (conv => whnf)
    refine h3 (by omega) (fun r => ?_)
    (conv => whnf)
    refine h4 (fun p hp => ?_)
    (conv => whnf)
    refine wpSs.s ?_
    (repeat' ((conv => whnf); first | (refine SC.mk (by first | decide | omega | exact Nat.le_of_ble_eq_true rfl | (simp; omega) | (simp; done) | rfl) ?_) | (refine WIf.tt rfl ?_) | (refine WIf.ff rfl ?_) | (refine wpSs.s ?_))); (all_goals (conv => whnf))
    rw [rngP_map]
    have hi : ∀ p : MO, (N ++ [p])[N.length]? = some p := fun p => by rw [List.getElem?_append_right (Nat.le_refl _), Nat.sub_self]; rfl
    have hset : ∀ p p' : MO, (N ++ [p]).set N.length p' = N ++ [p'] := fun p p' => by rw [List.set_append_right _ _ (Nat.le_refl _), Nat.sub_self]; rfl
    refine W_for (fun i : Nat => PyData.int (i : Nat)) _ (fun pre ρ K => ∃ x1 x3 x4 x5 x6 x7 p, ρ = [some (.scr ns), x1, some (.ref N.length), x3, x4, x5, x6, x7] ∧ K = N ++ [p] ∧ PenB (pre.length * 10000) p) ⟨_, _, _, _, _, _, p, rfl, rfl, hp.mono (Nat.zero_le _)⟩ ?_ ?_
    · rintro pre i post hpre ρ K ⟨x1, x3, x4, x5, x6, x7, p, rfl, rfl, hp⟩
      have hpl2 : pre.length < 5 := by
        have := congrArg List.length hpre
        simp at this; omega
      (repeat' ((conv => whnf); first | (refine SC.mk (by first | decide | omega | exact Nat.le_of_ble_eq_true rfl | (simp; omega) | (simp; done) | rfl) ?_) | (refine WIf.tt rfl ?_) | (refine WIf.ff rfl ?_) | (refine wpSs.s ?_))); (all_goals (conv => whnf))
      refine h5 hp (by omega) (by decide) (by decide) (hi p) (fun dp p1 hd0 hd1 hp1 => ?_)
      rw [hset]
      (conv => whnf)
      obtain ⟨n, rfl⟩ : ∃ n : Nat, dp = (n : Nat) := ⟨dp.toNat, by omega⟩
      rw [show (1 : Int) + (n : Nat) = (n : Nat) + 1 by omega]
      refine hT (by omega) hp1 (by omega) (hi p1) (fun x p2 hx hxc hp2 => ?_)
      rw [hset]
      (conv => whnf)
      refine wpSs.s ?_
      (repeat' ((conv => whnf); first | (refine SC.mk (by first | decide | omega | exact Nat.le_of_ble_eq_true rfl | (simp; omega) | (simp; done) | rfl) ?_) | (refine WIf.tt rfl ?_) | (refine WIf.ff rfl ?_) | (refine wpSs.s ?_))); (all_goals (conv => whnf))
      rw [rngP_map]
      refine W_for (fun i : Nat => PyData.int (i : Nat)) _ (fun pr ρ K => ∃ x5 x6 x7 p, ρ = [some (.scr ns), x1, some (.ref N.length), some (.p (.int (i : Nat))), some (.p x.d), x5, x6, x7] ∧ K = N ++ [p] ∧ PenB (pre.length * 10000 + 161 + 500 * pr.length) p) ⟨_, _, _, p2, rfl, rfl, hp2.mono (by omega)⟩ ?_ ?_
      · rintro pr j pos hpr ρ K ⟨x5, x6, x7, p, rfl, rfl, hp⟩
        have hprl : pr.length < 5 := by
          have := congrArg List.length hpr
          simp at this; omega
        have hj : j < 5 := by
          have : j ∈ List.range (5 : Int).toNat := by rw [hpr]; simp
          simpa using this
        obtain ⟨v, hv, hv0, hv1⟩ := mosts hj
        (repeat' ((conv => whnf); first | (refine SC.mk (by first | decide | omega | exact Nat.le_of_ble_eq_true rfl | (simp; omega) | (simp; done) | rfl) ?_) | (refine WIf.tt rfl ?_) | (refine WIf.ff rfl ?_) | (refine wpSs.s ?_))); (all_goals (conv => whnf))
        refine hP hp (by omega) (hi p) (fun l kp p3 hl hp3 => ?_)
        rw [hset]
        (repeat' ((conv => whnf); first | (refine SC.mk (by first | decide | omega | exact Nat.le_of_ble_eq_true rfl | (simp; omega) | (simp; done) | rfl) ?_) | (refine WIf.tt rfl ?_) | (refine WIf.ff rfl ?_) | (refine wpSs.s ?_) | (refine wOpt.i hv ?_))); (all_goals (conv => whnf))
        refine hF hv0 hv1 hp3 (by omega) (hi p3) (fun fs p4 hfs hp4 => ?_)
        rw [hset]
        have hfs3 : FsP 300 fs := ⟨hfs.pw, fun f hf => by have := hfs.pos f hf; omega, by have := hfs.len; omega⟩
        have t1 : TpOk x l fs := ⟨hx, by omega, hxc, hl, hfs3.ok (by omega)⟩
        have t2 : TpOk x l (fs ++ [1000, 100000000000]) := ⟨hx, by omega, hxc, hl, hfs3.more⟩
        have hlen : fs.length ≤ 300 := by have := hfs3.len; omega
        have g2 : ∀ M, fn 11 [.p x.d, .p (plD l kp), .p (.tuple (fs.map .int ++ [.int 1000, .int (10 ^ (11 : Int).toNat)]))] M = .ok (.p (.bool true)) M := fun M => by
          have := h11 (kp := kp) t2 M
          unfold fsD at this
          rw [List.map_append] at this
          exact this
        (repeat' ((conv => whnf); first | (refine SC.mk (by first | decide | omega | exact Nat.le_of_ble_eq_true rfl | (simp; omega) | (simp; done) | rfl) ?_) | (refine WIf.tt rfl ?_) | (refine WIf.ff rfl ?_) | (refine wpSs.s ?_) | (refine Wr.eq (h11 t1 _) ?_) | (refine SC.mk (by rw [List.length_map]; simp; omega) ?_) | (refine Wr.eq (g2 _) ?_))); (all_goals (conv => whnf))
        exact ⟨_, _, _, p4, rfl, rfl, hp4.mono (by rw [List.length_append, List.length_singleton]; omega)⟩
      · rintro ρ K ⟨x5, x6, x7, p, rfl, rfl, hp⟩
        rw [List.length_range] at hp
        have hp : PenB (pre.length * 10000 + 161 + 500 * 5) p := hp
        have t3 : TpOk x none ((List.range 700).map fun i => ((i : Nat) : Int)) := ⟨hx, by omega, hxc, (fun _ h => by cases h), (FsP.rng 700).ok (by decide)⟩
        have g3 : ∀ M, fn 11 [.p x.d, .p (.tuple [.none, .bool false]), .p (fsD ((List.range 700).map fun i => ((i : Nat) : Int)))] M = .ok (.p (.bool true)) M := fun M => h11 (kp := false) t3 M
        (repeat' ((conv => whnf); first | (refine SC.mk (by first | decide | omega | exact Nat.le_of_ble_eq_true rfl | (simp; omega) | (simp; done) | rfl) ?_) | (refine WIf.tt rfl ?_) | (refine WIf.ff rfl ?_) | (refine wpSs.s ?_) | (refine wOpt.i natop8 ?_) | (refine Wr.eq (g3 _) ?_))); (all_goals (conv => whnf))
        refine hP hp (by omega) (hi p) (fun l kp p3 hl hp3 => ?_)
        rw [hset]
        have t4 : TpOk x l [] := ⟨hx, by omega, hxc, hl, ⟨rfl, fun _ h => absurd h List.not_mem_nil, Nat.zero_le _⟩⟩
        have g4 : ∀ M, fn 11 [.p x.d, .p (plD l kp), .p (.tuple [])] M = .ok (.p (.bool true)) M := fun M => h11 (kp := kp) t4 M
        (repeat' ((conv => whnf); first | (refine SC.mk (by first | decide | omega | exact Nat.le_of_ble_eq_true rfl | (simp; omega) | (simp; done) | rfl) ?_) | (refine WIf.tt rfl ?_) | (refine WIf.ff rfl ?_) | (refine wpSs.s ?_) | (refine Wr.eq (g4 _) ?_))); (all_goals (conv => whnf))
        exact ⟨_, _, _, _, _, _, p3, rfl, rfl, hp3.mono (by rw [List.length_append, List.length_singleton]; omega)⟩
    · rintro ρ K ⟨x1, x3, x4, x5, x6, x7, p, rfl, rfl, hp⟩
      (repeat' ((conv => whnf); first | (refine SC.mk (by first | decide | omega | exact Nat.le_of_ble_eq_true rfl | (simp; omega) | (simp; done) | rfl) ?_) | (refine WIf.tt rfl ?_) | (refine WIf.ff rfl ?_) | (refine wpSs.s ?_))); (all_goals (conv => whnf))
      exact ⟨_, _, _, _, _, _, _, rfl⟩
  · rintro ρ N ⟨x1, x2, x3, x4, x5, x6, x7, rfl⟩
    (repeat' ((conv => whnf); first | (refine SC.mk (by first | decide | omega | exact Nat.le_of_ble_eq_true rfl | (simp; omega) | (simp; done) | rfl) ?_) | (refine WIf.tt rfl ?_) | (refine WIf.ff rfl ?_) | (refine wpSs.s ?_))); (all_goals (conv => whnf))
end
theorem main (ns : List Int) (_ : ns.length ≤ 63) : ∃ M, run Tb 15000000 40 d12.id [.scr ns] [] = .ok (.p (.bool true)) M := by
  obtain ⟨d, M, e, rfl⟩ := (law_ok (fuel := 15000000) (k := 23) (by decide) ns).get
  exact ⟨M, e⟩
end K52

open PySem PySem.W PyProof.Rows
set_option maxHeartbeats 0 in
theorem PySem.Challenge.cw_comesback_k52_what_is_asked_holds : PySem.Challenge.rw_comesback_k52_what_is_asked.Holds := by
  w_on; o_law; k_head; (case hw => w_witness2)
  k_fill
  refine Mi.law_ofT (l := PySem.Challenge.rw_comesback_k52_what_is_asked) (T := K52.T) (Tb := K52.Tb) (defs := K52.defs) (fuel := 15000000) (k := 40) (d := K52.d12) (x := "_law_script") (xs := []) rfl rfl ⟨rfl, by decide, by decide⟩ (fun w h Y => PySem.W.kIn_of Y) (ts := []) (fun w h Y P hP => absurd hP List.not_mem_nil) (fun w => by kernel_rfl) (Mi.LawI.j K52.lawI) (List.mem_cons_of_mem _ (List.mem_cons_of_mem _ (List.mem_cons_of_mem _ (List.mem_cons_of_mem _ (List.mem_cons_of_mem _ (List.mem_cons_of_mem _ (List.mem_cons_of_mem _ (List.mem_cons_of_mem _ (List.mem_cons_of_mem _ (List.mem_cons_of_mem _ (List.mem_cons_of_mem _ (List.mem_cons_of_mem _ (List.mem_cons_of_mem _ (List.mem_cons_of_mem _ (List.mem_cons_of_mem _ (List.mem_cons_of_mem _ (List.mem_cons_of_mem _ (List.mem_cons_of_mem _ (List.mem_cons_of_mem _ (List.mem_cons_of_mem _ (List.mem_cons_of_mem _ (List.mem_cons_of_mem _ (List.mem_cons_of_mem _ (List.mem_cons_of_mem _ (List.mem_cons_of_mem _ (List.mem_cons_of_mem _ (List.mem_cons_of_mem _ List.mem_cons_self))))))))))))))))))))))))))) rfl rfl (fun _ _ _ _ _ _ _ => rfl) ?G K52.main
  case G =>
    intro w mg h KX Gn Ck
    refine' K52.globs KX Gn Ck ?a0 ?l0 ?c0 ?k0 ?a1 ?l1 ?c1 ?k1 ?a2 ?l2 ?c2 ?k2 ?a3 ?l3 ?c3 ?k3 ?a4 ?l4 ?c4 ?k4 ?a5 ?l5 ?c5 ?k5 ?a6 ?l6 ?c6 ?k6 ?a7 ?l7 ?c7 ?k7 ?aC0 ?qa0 ?qb0 ?qc0 ?qd0 ?nf0x0 ?nf0x1 ?nf0x2 ?nf0x3 ?nf0x4 ?nf0x5 ?maI0 ?mbI0 ?mcI0 ?mdI0 ?lI0 ?cI0 ?kI0 ?a8 ?i8 ?l8 ?c8 ?k8 ?a9 ?i9 ?l9 ?c9 ?k9 ?a10 ?i10 ?l10 ?c10 ?k10 ?a11 ?i11 ?l11 ?c11 ?k11 ?a12 ?i12 ?l12 ?c12 ?k12 ?a13 ?l13 ?c13 ?k13 ?a14 ?l14 ?c14 ?k14 ?a15 ?l15 ?c15 ?k15 ?a16 ?l16 ?c16 ?k16 ?a17 ?l17 ?c17 ?k17 ?a18 ?l18 ?c18 ?k18 ?a19 ?l19 ?c19 ?k19 ?a20 ?l20 ?c20 ?k20 ?a21 ?l21 ?c21 ?k21 ?a22 ?l22 ?c22 ?k22 ?a23 ?l23 ?c23 ?k23 ?a24 ?l24 ?c24 ?k24 ?a25 ?l25 ?c25 ?k25 ?a26 ?l26 ?c26 ?k26 ?a27 ?l27 ?c27 ?k27 ?vv7 ?vv6 ?vv5 ?vv4 ?vv3 ?vv2 ?vv1 ?vv0 ?z0 ?z1 ?z2 ?z3 ?z4 ?z5 ?z6 ?z7 ?z8 ?z9 ?z10 ?z11 ?z12
    (case a0 => k_is); (case l0 => k_is); (case c0 => k_is); (case k0 => k_is); (case a1 => k_is); (case l1 => k_is); (case c1 => k_is); (case k1 => k_is); (case a2 => k_is); (case l2 => k_is); (case c2 => k_is); (case k2 => k_is); (case a3 => k_is); (case l3 => k_is); (case c3 => k_is); (case k3 => k_is); (case a4 => k_is); (case l4 => k_is); (case c4 => k_is); (case k4 => k_is); (case a5 => k_is); (case l5 => k_is); (case c5 => k_is); (case k5 => k_is); (case a6 => k_is); (case l6 => k_is); (case c6 => k_is); (case k6 => k_is); (case a7 => k_is); (case l7 => k_is); (case c7 => k_is); (case k7 => k_is); (case aC0 => k_is); (case qa0 => k_is); (case qb0 => k_is); (case qc0 => k_is); (case qd0 => k_is); (case nf0x0 => k_is); (case nf0x1 => k_is); (case nf0x2 => k_is); (case nf0x3 => k_is); (case nf0x4 => k_is); (case nf0x5 => k_is); (case maI0 => k_is); (case mbI0 => k_is); (case mcI0 => k_is); (case mdI0 => k_is); (case lI0 => k_is); (case cI0 => k_is); (case kI0 => k_is); (case a8 => k_is); (case i8 => k_is); (case l8 => k_is); (case c8 => k_is); (case k8 => k_is); (case a9 => k_is); (case i9 => k_is); (case l9 => k_is); (case c9 => k_is); (case k9 => k_is); (case a10 => k_is); (case i10 => k_is); (case l10 => k_is); (case c10 => k_is); (case k10 => k_is); (case a11 => k_is); (case i11 => k_is); (case l11 => k_is); (case c11 => k_is); (case k11 => k_is); (case a12 => k_is); (case i12 => k_is); (case l12 => k_is); (case c12 => k_is); (case k12 => k_is); (case a13 => k_is); (case l13 => k_is); (case c13 => k_is); (case k13 => k_is); (case a14 => k_is); (case l14 => k_is); (case c14 => k_is); (case k14 => k_is); (case a15 => k_is); (case l15 => k_is); (case c15 => k_is); (case k15 => k_is); (case a16 => k_is); (case l16 => k_is); (case c16 => k_is); (case k16 => k_is); (case a17 => k_is); (case l17 => k_is); (case c17 => k_is); (case k17 => k_is); (case a18 => k_is); (case l18 => k_is); (case c18 => k_is); (case k18 => k_is); (case a19 => k_is); (case l19 => k_is); (case c19 => k_is); (case k19 => k_is); (case a20 => k_is); (case l20 => k_is); (case c20 => k_is); (case k20 => k_is); (case a21 => k_is); (case l21 => k_is); (case c21 => k_is); (case k21 => k_is); (case a22 => k_is); (case l22 => k_is); (case c22 => k_is); (case k22 => k_is); (case a23 => k_is); (case l23 => k_is); (case c23 => k_is); (case k23 => k_is); (case a24 => k_is); (case l24 => k_is); (case c24 => k_is); (case k24 => k_is); (case a25 => k_is); (case l25 => k_is); (case c25 => k_is); (case k25 => k_is); (case a26 => k_is); (case l26 => k_is); (case c26 => k_is); (case k26 => k_is); (case a27 => k_is); (case l27 => k_is); (case c27 => k_is); (case k27 => k_is); (case vv7 => k_is); (case vv6 => k_is); (case vv5 => k_is); (case vv4 => k_is); (case vv3 => k_is); (case vv2 => k_is); (case vv1 => k_is); (case vv0 => k_is); (case z0 => k_is); (case z1 => k_is); (case z2 => k_is); (case z3 => k_is); (case z4 => k_is); (case z5 => k_is); (case z6 => k_is); (case z7 => k_is); (case z8 => k_is); (case z9 => k_is); (case z10 => k_is); (case z11 => k_is); (case z12 => k_is)
