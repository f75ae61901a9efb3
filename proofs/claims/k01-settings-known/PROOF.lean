import PyProof.Rows.All
import PyProof.ReprReads
import PyProof.P3Statements
import KE.DataEq
import KE.DataIsa
import HandS.ForMost
import HandS.TupMul
import HandS.TupAny
import HandS.TupLe
import HandS.Style
import HandS.IsInst
import HandS.Zip
import HandS.Flow
import HandS.RaiseMore
import HandS.Walk
import KE.DataFind
import KE.DataAny
import KE.KIndexOf
import HandS.SortInts
import KE.KRevSl
import HandS.ExcOwn
import HandS.Ends
import HandS.Words
import HandS.WordsExc
import HandS.TryMany
import PyProof.ReprLen
import PySem.Challenge.RW_comesback_k01_settings_known
set_option Elab.async false
set_option linter.all false
/-! Mi: a small syntax without positions, and its interpreter over plain data. -/
namespace Mi
open PySem

inductive D where
  | p (x : PyData)
  | ref (i : Nat)
  | scr (ns : List Int)
inductive MO where
  | lst (xs : List PyData)
  | dead
abbrev Mem := List MO
abbrev Env := List (Option D)
inductive Res (α : Type) where
  | ok (a : α) (m : Mem)
  | exc (c : Nat) (m : Mem)
  | bad
def Res.bind {α β : Type} (r : Res α) (f : α → Mem → Res β) : Res β :=
  match r with
  | .ok a m => f a m
  | .exc c m => .exc c m
  | .bad => .bad
def Res.onto {α β : Type} (r : Res α) (f : α → Mem → Res β) (g : Nat → Mem → Res β) : Res β :=
  match r with
  | .ok a m => f a m
  | .exc c m => g c m
  | .bad => .bad
inductive BOp where | add | sub | mul | fdiv | mod | pow
inductive COp where | eq | ne | lt | le | gt | ge | is | isnot | isin | notin
inductive Ty where | int | bool | str | tuple | list | dict
inductive BF where | len | min | max | abs | sum | all | any | tuple | list (mt : Bool) | repr | str | isi (t : Ty) | sorted (mt : Bool)
inductive MF where | append | count | index
inductive Tg where
  | nm (i : Nat)
  | tp (is : List Nat)
mutual
inductive CE where
  | var (i : Nat)
  | cst (x : PyData)
  | bin (op : BOp) (mt : Bool) (a b : CE)
  | neg (a : CE)
  | not (a : CE)
  | cmp (op : COp) (a b : CE)
  | chn (op op' : COp) (a b c : CE)
  | and (a b : CE)
  | or (a b : CE)
  | ife (c a b : CE)
  | tup (es : CEs)
  | lst (mt : Bool) (es : CEs)
  | dct (ks vs : CEs)
  | idx (a i : CE)
  | slc (mt : Bool) (a : CE) (lo hi : CEo)
  | rev (mt : Bool) (a : CE)
  | call (f : Nat) (es : CEs)
  | blt (b : BF) (es : CEs)
  | mth (m : MF) (o : CE) (es : CEs)
  | comp (mt : Bool) (ws : List Nat) (t : Tg) (it : CI) (c : CEo) (e : CE)
inductive CEs where
  | nil
  | cons (e : CE) (es : CEs)
inductive CEo where
  | no
  | yes (e : CE)
inductive CI where
  | seq (e : CE)
  | rng (a : CE)
  | rng2 (a b : CE)
  | enum (e : CE)
  | zip (a b : CE)
end
mutual
inductive CS where
  | expr (e : CE)
  | asg (t : Tg) (e : CE)
  | par (is : List Nat) (es : CEs)
  | sub (o i v : CE)
  | ret (e : CE)
  | retN
  | ife (c : CE) (a b : CSs)
  | loop (t : Tg) (it : CI) (b : CSs)
  | whl (c : CE) (b : CSs)
  | pass
  | brk
  | cont
  | never
inductive CSs where
  | nil
  | cons (s : CS) (ss : CSs)
end
inductive Fl where
  | nx (ρ : Env)
  | rt (d : D)
  | bk (ρ : Env)
  | ct (ρ : Env)
  | ex (c : Nat) (ρ : Env)
inductive It where
  | items (xs : List PyData)
  | live (i : Nat)

/-! ### operations -/
mutual
def noLst : PyData → Bool
  | .list _ => false
  | .tuple xs => noLstA xs
  | .dict kvs => noLstK kvs
  | _ => true
def noLstA : List PyData → Bool
  | [] => true
  | x :: xs => noLst x && noLstA xs
def noLstK : List (PyData × PyData) → Bool
  | [] => true
  | (_, x) :: xs => noLst x && noLstK xs
end
def dat (M : Mem) : D → Option PyData
  | .p x => some x
  | .ref i => match M[i]? with
    | some (.lst xs) => some (.list xs)
    | _ => none
  | .scr _ => none
def alloc (mt : Bool) (xs : List PyData) (M : Mem) : Res D :=
  if mt then .ok (.ref M.length) (M ++ [.lst xs]) else .ok (.p (.list xs)) M
/-- a value as data for good: what a mutable list holds, which is then given up -/
def frzP (d : D) (M : Mem) : Option (PyData × Mem) := match d with
  | .p x => some (x, M)
  | .ref i => match M[i]? with
    | some (.lst xs) => some (.list xs, M.set i .dead)
    | _ => none
  | .scr _ => none
def frzPs : List D → Mem → Option (List PyData × Mem)
  | [], M => some ([], M)
  | d :: ds, M => match frzP d M with
    | some (x, M) => match frzPs ds M with
      | some (xs, M) => some (x :: xs, M)
      | none => none
    | none => none
def binop (op : BOp) (mt : Bool) (a b : D) (M : Mem) : Res D :=
  match op, dat M a, dat M b with
  | .add, some (.int i), some (.int j) => .ok (.p (.int (i + j))) M
  | .add, some (.str x), some (.str y) => if x.length + y.length ≤ 16777216 then .ok (.p (.str (x ++ y))) M else .bad
  | .add, some (.tuple xs), some (.tuple ys) => if xs.length + ys.length ≤ 16777216 then .ok (.p (.tuple (xs ++ ys))) M else .bad
  | .add, some (.list xs), some (.list ys) => if xs.length + ys.length ≤ 16777216 then alloc mt (xs ++ ys) M else .bad
  | .sub, some (.int i), some (.int j) => .ok (.p (.int (i - j))) M
  | .mul, some (.int i), some (.int j) => if (-(2 ^ 64) < i ∧ i < 2 ^ 64) ∨ (-(2 ^ 64) < j ∧ j < 2 ^ 64) then .ok (.p (.int (i * j))) M else .bad
  | .mul, some (.tuple xs), some (.int k) => if -(2 ^ 63) ≤ k ∧ k < 2 ^ 63 ∧ xs.length * k.toNat ≤ 16777216 then .ok (.p (.tuple (List.replicate k.toNat xs).flatten)) M else .bad
  | .mul, some (.list xs), some (.int k) => if -(2 ^ 63) ≤ k ∧ k < 2 ^ 63 ∧ xs.length * k.toNat ≤ 16777216 then alloc mt (List.replicate k.toNat xs).flatten M else .bad
  | .fdiv, some (.int i), some (.int j) => if 0 < j ∧ j < 1073741824 then .ok (.p (.int (i / j))) M else .bad
  | .mod, some (.int i), some (.int j) => if 0 < j then .ok (.p (.int (i % j))) M else .bad
  | .pow, some (.int i), some (.int j) => if 0 ≤ j ∧ j ≤ 1000000 ∧ i.natAbs < 2 ^ 64 then .ok (.p (.int (i ^ j.toNat))) M else .bad
  | _, _, _ => .bad
def isNone : PyData → Bool
  | .none => true
  | _ => false
def cmpB (op : COp) (a b : PyData) : Option Bool :=
  match op with
  | .eq => if a.plain && b.plain && decide (a.depth ≤ 60) then some (PyData.eqv a b) else none
  | .ne => if a.plain && b.plain && decide (a.depth ≤ 60) then some (!PyData.eqv a b) else none
  | .lt => match a, b with | .int i, .int j => some (decide (i < j)) | _, _ => none
  | .le => match a, b with | .int i, .int j => some (decide (i ≤ j)) | _, _ => none
  | .gt => match a, b with | .int i, .int j => some (decide (j < i)) | _, _ => none
  | .ge => match a, b with | .int i, .int j => some (decide (j ≤ i)) | _, _ => none
  | .is => match a, b with | .bool i, .bool j => some (i == j) | a, .none => some (isNone a) | _, _ => none
  | .isnot => match a, b with | .bool i, .bool j => some (!(i == j)) | a, .none => some (!isNone a) | _, _ => none
  | .isin => match b with
    | .list xs => if PyData.plainAll xs && a.plain && decide (a.depth ≤ 60) then some (xs.any fun y => PyData.eqv y a) else none
    | .tuple xs => if PyData.plainAll xs && a.plain && decide (a.depth ≤ 60) then some (xs.any fun y => PyData.eqv y a) else none
    | _ => none
  | .notin => match b with
    | .list xs => if PyData.plainAll xs && a.plain && decide (a.depth ≤ 60) then some (!xs.any fun y => PyData.eqv y a) else none
    | .tuple xs => if PyData.plainAll xs && a.plain && decide (a.depth ≤ 60) then some (!xs.any fun y => PyData.eqv y a) else none
    | _ => none
def cmpop (op : COp) (a b : D) (M : Mem) : Res D :=
  match dat M a, dat M b with
  | some x, some y => match cmpB op x y with
    | some k => .ok (.p (.bool k)) M
    | none => .bad
  | _, _ => .bad
def truth (M : Mem) (d : D) : Option Bool :=
  match dat M d with
  | some .none => some false
  | some (.bool b) => some b
  | some (.int i) => some (i != 0)
  | some (.str x) => if x.length ≤ 16777216 then some ((x.length : Int) != 0) else none
  | some (.list xs) => some (!xs.isEmpty)
  | some (.tuple xs) => some (!xs.isEmpty)
  | _ => none
def idxop (a i : D) (M : Mem) : Res D :=
  match a, i with
  | .scr ns, .p (.int k) => match L2.atI ns k with
    | some x => .ok (.p (.int x)) M
    | none => .bad
  | _, _ => match dat M a, i with
    | some (.list xs), .p (.int k) => match L2.atI xs k with | some x => .ok (.p x) M | none => .bad
    | some (.tuple xs), .p (.int k) => match L2.atI xs k with | some x => .ok (.p x) M | none => .bad
    | some (.str z), .p (.int k) => if z.length ≤ 16777216 then match L2.atI z.cps.toList k with | some c => .ok (.p (.str ⟨#[c]⟩)) M | none => .bad else .bad
    | _, _ => .bad
def cut {α : Type} (xs : List α) (lo hi : Option Int) : List α := (xs.drop (HT.sIx xs.length 0 lo)).take (HT.sIx xs.length xs.length hi - HT.sIx xs.length 0 lo)
def slcop (mt : Bool) (a : D) (lo hi : Option Int) (M : Mem) : Res D :=
  match dat M a with
  | some (.list xs) => alloc mt (cut xs lo hi) M
  | some (.tuple xs) => .ok (.p (.tuple (cut xs lo hi))) M
  | _ => .bad
def revop (mt : Bool) (a : D) (M : Mem) : Res D :=
  match dat M a with
  | some (.list xs) => alloc mt xs.reverse M
  | some (.tuple xs) => .ok (.p (.tuple xs.reverse)) M
  | _ => .bad
def ins (x : Int) : List Int → List Int
  | [] => [x]
  | y :: ys => if x ≤ y then x :: y :: ys else y :: ins x ys
def sortI : List Int → List Int
  | [] => []
  | x :: xs => ins x (sortI xs)
def asInts : List PyData → Option (List Int)
  | [] => some []
  | .int i :: r => (asInts r).map (i :: ·)
  | _ :: _ => none
def asBools : List PyData → Option (List Bool)
  | [] => some []
  | .bool i :: r => (asBools r).map (i :: ·)
  | _ :: _ => none
def isTy : Ty → PyData → Bool
  | .int, .int _ => true
  | .int, .bool _ => true
  | .bool, .bool _ => true
  | .str, .str _ => true
  | .tuple, .tuple _ => true
  | .list, .list _ => true
  | .dict, .dict _ => true
  | _, _ => false
def one (f : PyData → Mem → Res D) (ds : List D) (M : Mem) : Res D := match ds with
  | [d] => match dat M d with
    | some x => f x M
    | none => .bad
  | _ => .bad
def two (f : PyData → PyData → Mem → Res D) (ds : List D) (M : Mem) : Res D := match ds with
  | [d, e] => match dat M d, dat M e with
    | some x, some y => f x y M
    | _, _ => .bad
  | _ => .bad
def bLen (x : PyData) (M : Mem) : Res D := match x with
  | .list xs => .ok (.p (.int xs.length)) M
  | .tuple xs => .ok (.p (.int xs.length)) M
  | .str x => if x.length ≤ 16777216 then .ok (.p (.int x.length)) M else .bad
  | _ => .bad
def bMin (x y : PyData) (M : Mem) : Res D := match x, y with
  | .int i, .int j => .ok (.p (.int (if j < i then j else i))) M
  | _, _ => .bad
def bMax (x y : PyData) (M : Mem) : Res D := match x, y with
  | .int i, .int j => .ok (.p (.int (if j > i then j else i))) M
  | _, _ => .bad
def bAbs (x : PyData) (M : Mem) : Res D := match x with
  | .int i => .ok (.p (.int (if i < 0 then -i else i))) M
  | _ => .bad
def bSum (x : PyData) (M : Mem) : Res D := match x with
  | .list xs => match asInts xs with
    | some ns => .ok (.p (.int ns.sum)) M
    | none => .bad
  | _ => .bad
def bSorted (mt : Bool) (x : PyData) (M : Mem) : Res D := match x with
  | .list xs => match asInts xs with
    | some ns => alloc mt ((sortI ns).map PyData.int) M
    | none => .bad
  | _ => .bad
def bAll (x : PyData) (M : Mem) : Res D := match x with
  | .list xs => match asBools xs with
    | some bs => .ok (.p (.bool (bs.all id))) M
    | none => .bad
  | _ => .bad
def bAny (x : PyData) (M : Mem) : Res D := match x with
  | .list xs => match asBools xs with
    | some bs => .ok (.p (.bool (bs.any id))) M
    | none => .bad
  | _ => .bad
def bTuple (x : PyData) (M : Mem) : Res D := match x with
  | .list xs => .ok (.p (.tuple xs)) M
  | .tuple xs => .ok (.p (.tuple xs)) M
  | _ => .bad
def bList (mt : Bool) (x : PyData) (M : Mem) : Res D := match x with
  | .list xs => alloc mt xs M
  | .tuple xs => alloc mt xs M
  | _ => .bad
def bRepr (x : PyData) (M : Mem) : Res D :=
  if x.showable && decide (x.depth ≤ 60) && decide (x.shown.length ≤ 16777216) && (!x.hasDict || noLst x) then .ok (.p (.str x.shown)) M else .bad
def bStr (x : PyData) (M : Mem) : Res D := match x with
  | .int i => if i.natAbs.log2 < 1920 then .ok (.p (.str (toString i))) M else .bad
  | _ => .bad
def bIsi (t : Ty) (x : PyData) (M : Mem) : Res D := .ok (.p (.bool (isTy t x))) M
def bltop (b : BF) (ds : List D) (M : Mem) : Res D :=
  match b with
  | .len => match ds with
    | [.scr ns] => .ok (.p (.int ns.length)) M
    | ds => one bLen ds M
  | .min => two bMin ds M
  | .max => two bMax ds M
  | .abs => one bAbs ds M
  | .sum => one bSum ds M
  | .all => one bAll ds M
  | .any => one bAny ds M
  | .tuple => one bTuple ds M
  | .list mt => one (bList mt) ds M
  | .repr => one bRepr ds M
  | .str => one bStr ds M
  | .isi t => one (bIsi t) ds M
  | .sorted mt => one (bSorted mt) ds M
def mAppend (o : D) (ds : List D) (M : Mem) : Res D := match o, ds with
  | .ref i, [d] => match frzP d M with
    | some (x, M) => match M[i]? with
      | some (.lst xs) => if xs.length < 16777216 then .ok (.p .none) (M.set i (.lst (xs ++ [x]))) else .bad
      | _ => .bad
    | none => .bad
  | _, _ => .bad
def inOk (xs : List PyData) (x : PyData) : Bool := PyData.plainAll xs && x.plain && decide (x.depth ≤ 60)
def bCount (c x : PyData) (M : Mem) : Res D := match c with
  | .list xs => if inOk xs x then .ok (.p (.int ((xs.countP fun y => PyData.eqv y x : Nat) : Int))) M else .bad
  | _ => .bad
def bIndex (c x : PyData) (M : Mem) : Res D := match c with
  | .list xs => if inOk xs x then match xs.findIdx? (fun y => PyData.eqv y x) with
      | some j => .ok (.p (.int (j : Nat))) M
      | none => .bad
    else .bad
  | _ => .bad
/-- the receiver is a list -/
def recv (x : D) (M : Mem) : Bool := match dat M x with
  | some (.list _) => true
  | _ => false
def mthop (m : MF) (o : D) (ds : List D) (M : Mem) : Res D :=
  match m with
  | .append => mAppend o ds M
  | .count => two bCount (o :: ds) M
  | .index => two bIndex (o :: ds) M
def subop (o i v : D) (M : Mem) : Res Unit :=
  match frzP v M with
  | some (x, M) => match o, i with
    | .ref j, .p (.int k) => match M[j]? with
      | some (.lst xs) => match L2.ixN xs.length k with
        | some n => .ok () (M.set j (.lst (xs.set n x)))
        | none => .bad
      | _ => .bad
    | _, _ => .bad
  | none => .bad
def keyOk : PyData → Bool
  | .int _ => true
  | .str _ => true
  | _ => false
/-- a display of a dict: keys asInts and texts, all different -/
def dctop (ks vs : List D) (M : Mem) : Res D :=
  match frzPs ks M with
  | some (ks, M) => match frzPs vs M with
    | some (vs, M) => if ks.length = vs.length ∧ ks.length ≤ 1 ∧ ks.all keyOk = true then .ok (.p (.dict (ks.zip vs))) M else .bad
    | none => .bad
  | none => .bad
def setAll : List Nat → List PyData → Env → Option Env
  | [], [], ρ => some ρ
  | i :: is, x :: xs, ρ => setAll is xs (ρ.set i (some (.p x)))
  | _, _, _ => none
def bindT (t : Tg) (x : PyData) (ρ : Env) : Option Env := match t with
  | .nm i => some (ρ.set i (some (.p x)))
  | .tp is => match x with
    | .tuple xs => setAll is xs ρ
    | _ => none
def wipeE (ρ : Env) : List Nat → Env
  | [] => ρ
  | v :: vs => (wipeE ρ vs).set v none
def setDs : List Nat → List D → Env → Option Env
  | [], [], ρ => some ρ
  | i :: is, d :: ds, ρ => setDs is ds (ρ.set i (some d))
  | _, _, _ => none
def zipP : List PyData → List PyData → List PyData
  | x :: xs, y :: ys => .tuple [x, y] :: zipP xs ys
  | _, _ => []
def enumP : Nat → List PyData → List PyData
  | _, [] => []
  | i, x :: xs => .tuple [.int (i : Nat), x] :: enumP (i + 1) xs
def seqOf (d : D) (M : Mem) : Option It := match d with
  | .p (.list xs) => some (.items xs)
  | .p (.tuple xs) => some (.items xs)
  | .ref i => match M[i]? with
    | some (.lst _) => some (.live i)
    | _ => none
  | _ => none
def rngP (a b : Int) : List PyData := (List.range (b - a).toNat).map fun i => .int (a + (i : Nat))
def rngOk (a : Int) : Bool := decide (-(2 ^ 62) ≤ a) && decide (a < 2 ^ 62)

/-! ### comprehensions and loops -/
/-- f: from an item, what is kept of it -/
def compLoop (f : PyData → Mem → Res (Option PyData)) : List PyData → List PyData → Mem → Res (List PyData)
  | [], acc, M => .ok acc M
  | x :: xs, acc, M => match f x M with
    | .ok (some y) M => if acc.length < 16777216 then compLoop f xs (acc ++ [y]) M else .bad
    | .ok none M => compLoop f xs acc M
    | _ => .bad
def forLoop (f : PyData → Env → Mem → Res Fl) : List PyData → Env → Mem → Res Fl
  | [], ρ, M => .ok (.nx ρ) M
  | x :: xs, ρ, M => match f x ρ M with
    | .ok (.nx ρ) M => forLoop f xs ρ M
    | .ok (.ct ρ) M => forLoop f xs ρ M
    | .ok (.bk ρ) M => .ok (.nx ρ) M
    | r => r
def liveLoop (f : PyData → Env → Mem → Res Fl) (j : Nat) : Nat → Nat → Env → Mem → Res Fl
  | 0, _, _, _ => .bad
  | n + 1, k, ρ, M => match M[j]? with
    | some (.lst xs) => match xs[k]? with
      | none => .ok (.nx ρ) M
      | some x => match f x ρ M with
        | .ok (.nx ρ) M => liveLoop f j n (k + 1) ρ M
        | .ok (.ct ρ) M => liveLoop f j n (k + 1) ρ M
        | .ok (.bk ρ) M => .ok (.nx ρ) M
        | r => r
    | _ => .bad
/-- c: the test, by what it makes of the state -/
def whileLoop (c : Env → Mem → Res Bool) (f : Env → Mem → Res Fl) : Nat → Env → Mem → Res Fl
  | 0, _, _ => .bad
  | n + 1, ρ, M => match c ρ M with
    | .ok false M => .ok (.nx ρ) M
    | .ok true M => match f ρ M with
      | .ok (.nx ρ) M => whileLoop c f n ρ M
      | .ok (.ct ρ) M => whileLoop c f n ρ M
      | .ok (.bk ρ) M => .ok (.nx ρ) M
      | r => r
    | .exc c M => .ok (.ex c ρ) M
    | .bad => .bad

abbrev Fn := Nat → List D → Mem → Res D
def toB (M : Mem) (d : D) : Res Bool := match truth M d with
  | some b => .ok b M
  | none => .bad
def isB (M : Mem) (d : D) : Res Bool := match d with
  | .p (.bool b) => .ok b M
  | _ => .bad
def partI : D → Option Int
  | .p (.int i) => some i
  | _ => none
mutual
def evE (fn : Fn) : CE → Env → Mem → Res D
  | .var i, ρ, M => match ρ[i]? with
    | some (some d) => .ok d M
    | _ => .bad
  | .cst x, _, M => .ok (.p x) M
  | .bin op mt a b, ρ, M => (evE fn a ρ M).bind fun x M => (evE fn b ρ M).bind fun y M => binop op mt x y M
  | .neg a, ρ, M => (evE fn a ρ M).bind fun x M => match x with
    | .p (.int i) => .ok (.p (.int (-i))) M
    | _ => .bad
  | .not a, ρ, M => (evE fn a ρ M).bind fun x M => (toB M x).bind fun b M => .ok (.p (.bool (!b))) M
  | .cmp op a b, ρ, M => (evE fn a ρ M).bind fun x M => (evE fn b ρ M).bind fun y M => cmpop op x y M
  | .chn op op' a b c, ρ, M => (evE fn a ρ M).bind fun x M => (evE fn b ρ M).bind fun y M => (cmpop op x y M).bind fun k M => (isB M k).bind fun k M =>
      if k then (evE fn c ρ M).bind fun z M => cmpop op' y z M else .ok (.p (.bool false)) M
  | .and a b, ρ, M => (evE fn a ρ M).bind fun x M => (isB M x).bind fun k M => if k then evE fn b ρ M else .ok (.p (.bool false)) M
  | .or a b, ρ, M => (evE fn a ρ M).bind fun x M => (isB M x).bind fun k M => if k then .ok (.p (.bool true)) M else evE fn b ρ M
  | .ife c a b, ρ, M => (evE fn c ρ M).bind fun x M => (toB M x).bind fun k M => if k then evE fn a ρ M else evE fn b ρ M
  | .tup es, ρ, M => (evEs fn es ρ M).bind fun ds M => match frzPs ds M with
    | some (xs, M) => if xs.length ≤ 16777216 then .ok (.p (.tuple xs)) M else .bad
    | none => .bad
  | .lst mt es, ρ, M => (evEs fn es ρ M).bind fun ds M => match frzPs ds M with
    | some (xs, M) => if xs.length ≤ 16777216 then alloc mt xs M else .bad
    | none => .bad
  | .dct ks vs, ρ, M => (evEs fn ks ρ M).bind fun ks M => (evEs fn vs ρ M).bind fun vs M => dctop ks vs M
  | .idx a i, ρ, M => (evE fn a ρ M).bind fun x M => (evE fn i ρ M).bind fun y M => idxop x y M
  | .slc mt a lo hi, ρ, M => (evE fn a ρ M).bind fun x M => (evO fn lo ρ M).bind fun l M => (evO fn hi ρ M).bind fun h M => slcop mt x l h M
  | .rev mt a, ρ, M => (evE fn a ρ M).bind fun x M => revop mt x M
  | .call f es, ρ, M => (evEs fn es ρ M).bind fun ds M => fn f ds M
  | .blt b es, ρ, M => (evEs fn es ρ M).bind fun ds M => bltop b ds M
  | .mth m o es, ρ, M => (evE fn o ρ M).bind fun x M => if recv x M then (evEs fn es ρ M).bind fun ds M => mthop m x ds M else .bad
  | .comp mt ws t it c e, ρ, M => (evI fn it ρ M).bind fun J M => match J with
    | .items xs => (compLoop (fun x M => match bindT t x (wipeE ρ ws) with
        | some ρ' => (evC fn c ρ' M).bind fun k M => if k then (evE fn e ρ' M).bind fun d M => match frzP d M with
            | some (y, M) => .ok (some y) M
            | none => .bad
          else .ok none M
        | none => .bad) xs [] M).bind fun ys M => alloc mt ys M
    | .live _ => .bad
def evEs (fn : Fn) : CEs → Env → Mem → Res (List D)
  | .nil, _, M => .ok [] M
  | .cons e es, ρ, M => (evE fn e ρ M).bind fun d M => (evEs fn es ρ M).bind fun ds M => .ok (d :: ds) M
def evO (fn : Fn) : CEo → Env → Mem → Res (Option Int)
  | .no, _, M => .ok none M
  | .yes e, ρ, M => (evE fn e ρ M).bind fun d M => match partI d with
    | some i => .ok (some i) M
    | none => .bad
def evC (fn : Fn) : CEo → Env → Mem → Res Bool
  | .no, _, M => .ok true M
  | .yes e, ρ, M => (evE fn e ρ M).bind fun d M => toB M d
def evI (fn : Fn) : CI → Env → Mem → Res It
  | .seq e, ρ, M => (evE fn e ρ M).bind fun d M => match seqOf d M with
    | some J => .ok J M
    | none => .bad
  | .rng a, ρ, M => (evE fn a ρ M).bind fun x M => match x with
    | .p (.int j) => if rngOk j then .ok (.items (rngP 0 j)) M else .bad
    | _ => .bad
  | .rng2 a b, ρ, M => (evE fn a ρ M).bind fun x M => (evE fn b ρ M).bind fun y M => match x, y with
    | .p (.int i), .p (.int j) => if rngOk i && rngOk j then .ok (.items (rngP i j)) M else .bad
    | _, _ => .bad
  | .enum e, ρ, M => (evE fn e ρ M).bind fun x M => match x with
    | .p (.list xs) => .ok (.items (enumP 0 xs)) M
    | _ => .bad
  | .zip a b, ρ, M => (evE fn a ρ M).bind fun x M => (evE fn b ρ M).bind fun y M => match x, y with
    | .p (.list xs), .p (.list ys) => .ok (.items (zipP xs ys)) M
    | .p (.tuple xs), .p (.tuple ys) => .ok (.items (zipP xs ys)) M
    | _, _ => .bad
end
def evX (ρ : Env) (c : Nat) (M : Mem) : Res Fl := .ok (.ex c ρ) M
def asgT (t : Tg) (d : D) (ρ : Env) (M : Mem) : Res Fl := match t with
  | .nm i => .ok (.nx (ρ.set i (some d))) M
  | .tp is => match d with
    | .p (.tuple xs) => match setAll is xs ρ with
      | some ρ => .ok (.nx ρ) M
      | none => .bad
    | _ => .bad
mutual
def evS (fn : Fn) (fuel : Nat) : CS → Env → Mem → Res Fl
  | .expr e, ρ, M => (evE fn e ρ M).onto (fun _ M => .ok (.nx ρ) M) (evX ρ)
  | .asg t e, ρ, M => (evE fn e ρ M).onto (fun d M => asgT t d ρ M) (evX ρ)
  | .par is es, ρ, M => (evEs fn es ρ M).onto (fun ds M => match setDs is ds ρ with
    | some ρ => .ok (.nx ρ) M
    | none => .bad) (evX ρ)
  | .sub o i v, ρ, M => (evE fn v ρ M).onto (fun v M => (evE fn o ρ M).onto (fun o M => (evE fn i ρ M).onto (fun i M => (subop o i v M).onto (fun _ M => .ok (.nx ρ) M) (evX ρ)) (evX ρ)) (evX ρ)) (evX ρ)
  | .ret e, ρ, M => (evE fn e ρ M).onto (fun d M => .ok (.rt d) M) (evX ρ)
  | .retN, _, M => .ok (.rt (.p .none)) M
  | .ife c a b, ρ, M => (evE fn c ρ M).onto (fun d M => (toB M d).onto (fun k M => if k then evSs fn fuel a ρ M else evSs fn fuel b ρ M) (evX ρ)) (evX ρ)
  | .loop t it b, ρ, M => (evI fn it ρ M).onto (fun J M => match J with
    | .items xs => forLoop (fun x ρ M => match bindT t x ρ with
        | some ρ => evSs fn fuel b ρ M
        | none => .bad) xs ρ M
    | .live j => liveLoop (fun x ρ M => match bindT t x ρ with
        | some ρ => evSs fn fuel b ρ M
        | none => .bad) j fuel 0 ρ M) (evX ρ)
  | .whl c b, ρ, M => whileLoop (fun ρ M => (evE fn c ρ M).bind fun d M => toB M d) (fun ρ M => evSs fn fuel b ρ M) fuel ρ M
  | .pass, ρ, M => .ok (.nx ρ) M
  | .brk, ρ, M => .ok (.bk ρ) M
  | .cont, ρ, M => .ok (.ct ρ) M
  | .never, _, _ => .bad
def evSs (fn : Fn) (fuel : Nat) : CSs → Env → Mem → Res Fl
  | .nil, ρ, M => .ok (.nx ρ) M
  | .cons s ss, ρ, M => match evS fn fuel s ρ M with
    | .ok (.nx ρ) M => evSs fn fuel ss ρ M
    | r => r
end
/-! ### functions -/
structure FD where
  n : Nat
  slots : Nat
  frz : Bool
  body : CSs
def fin (frz : Bool) (n : Nat) (d : D) (M : Mem) : Res D :=
  if frz then match d with
    | .p x => .ok (.p x) (M.take n)
    | .ref i => if i < n then .ok (.ref i) (M.take n) else match M[i]? with
      | some (.lst xs) => .ok (.p (.list xs)) (M.take n)
      | _ => .bad
    | .scr _ => .bad
  else .ok d M
def enter (fd : FD) (ds : List D) : Env := ds.map some ++ List.replicate (fd.slots - fd.n) none
def callF (fn : Fn) (fuel : Nat) (fd : FD) (ds : List D) (M : Mem) : Res D :=
  if ds.length = fd.n then match evSs fn fuel fd.body (enter fd ds) M with
    | .ok (.rt d) M' => fin fd.frz M.length d M'
    | .ok (.nx _) M' => fin fd.frz M.length (.p .none) M'
    | .ok (.ex c _) M' => .exc c (if fd.frz then M'.take M.length else M')
    | _ => .bad
  else .bad
def run (T : Nat → Option FD) (fuel : Nat) : Nat → Fn
  | 0, _, _, _ => .bad
  | k + 1, f, ds, M => match T f with
    | some fd => callF (run T fuel k) fuel fd ds M
    | none => .bad
end Mi

set_option Elab.async false
set_option linter.all false
set_option maxRecDepth 100000
/-! Mi: how data and mutable lists stand in HandS's abstract heap. -/
namespace Mi
open PySem PySem.Spec PyProof.Rows L2

/-- L: where the mutable objects stand (none: given up); Z: further places that no data may name -/
structure Sk where
  L : List (Option Addr)
  Z : List Addr
def Sk.no (S : Sk) (a : Addr) : Prop := some a ∉ S.L ∧ a ∉ S.Z
abbrev S0 : Sk := ⟨[], []⟩
theorem no0 (a : Addr) : S0.no a := ⟨List.not_mem_nil, List.not_mem_nil⟩
abbrev Kf := PySem.W.Frag
def TupK (K : Kf) (a : Addr) (xs : List V) : Prop :=
  ∃ (o : Obj) (its : Array Value) (n : Nat), K.lookup a = some o ∧ o.cls = .type "tuple" ∧ o.data = .seq its n ∧ its.size ≤ sizeLine ∧ Vals xs its.toList
def LstK (K : Kf) (a : Addr) (xs : List V) : Prop :=
  ∃ (o : Obj) (its : Array Value) (n : Nat), K.lookup a = some o ∧ o.cls = .type "list" ∧ o.dict = none ∧ o.data = .seq its n ∧ its.size ≤ sizeLine ∧ Vals xs its.toList
def SqT' (K : Kf) (S : Sk) (H : Hp) (a : Addr) (xs : List V) : Prop := (Rd H a (.tup xs) ∧ S.no a) ∨ TupK K a xs
theorem SqT'.sq {K : Kf} {S : Sk} {H : Hp} {a : Addr} {xs : List V} (h : SqT' K S H a xs) : SqT K H a xs := by
  rcases h with ⟨h, _⟩ | h
  · exact .inl h
  · exact .inr h
mutual
inductive RP (K : Kf) (S : Sk) (H : Hp) : PyData → V → Prop
  | non : RP K S H .none .non
  | bl (b : Bool) : RP K S H (.bool b) (.bl b)
  | int (i : Int) : RP K S H (.int i) (.int i)
  | str (x : Str) : RP K S H (.str x) (.str x)
  | lst {a : Addr} {xs : List V} {ds : List PyData} : Rd H a (.lst xs) → S.no a → RPs K S H ds xs → RP K S H (.list ds) (.ref a)
  | tup {a : Addr} {xs : List V} {ds : List PyData} : SqT' K S H a xs → RPs K S H ds xs → RP K S H (.tuple ds) (.ref a)
  | dct {a : Addr} {kvs : List (Key × V)} {ds : List (PyData × PyData)} : H a = some (.dK kvs) → S.no a → RKs K S H ds kvs → RP K S H (.dict ds) (.ref a)
inductive RPs (K : Kf) (S : Sk) (H : Hp) : List PyData → List V → Prop
  | nil : RPs K S H [] []
  | cons {d : PyData} {v : V} {ds : List PyData} {vs : List V} : RP K S H d v → RPs K S H ds vs → RPs K S H (d :: ds) (v :: vs)
inductive RKs (K : Kf) (S : Sk) (H : Hp) : List (PyData × PyData) → List (Key × V) → Prop
  | nil : RKs K S H [] []
  | int {i : Int} {d : PyData} {v : V} {ds : List (PyData × PyData)} {vs : List (Key × V)} : RP K S H d v → RKs K S H ds vs → RKs K S H ((.int i, d) :: ds) ((.inl i, v) :: vs)
  | str {i : Str} {d : PyData} {v : V} {ds : List (PyData × PyData)} {vs : List (Key × V)} : RP K S H d v → RKs K S H ds vs → RKs K S H ((.str i, d) :: ds) ((.inr i, v) :: vs)
end
section
variable {K : Kf} {S S' : Sk} {H H' : Hp}
/-- what data lean on is kept -/
structure Kp (S : Sk) (H : Hp) (S' : Sk) (H' : Hp) : Prop where
  no : ∀ a, H a ≠ none → S.no a → S'.no a
  keep : ∀ a o, H a = some o → S.no a → H' a = some o
theorem rd_some {a : Addr} {u : HO} (h : Rd H a u) : H a ≠ none := by
  rcases h with h | ⟨o, h⟩ <;> rw [h] <;> exact Option.some_ne_none _
theorem Kp.rd (k : Kp S H S' H') {a : Addr} {u : HO} (h : Rd H a u) (n : S.no a) : Rd H' a u := by
  rcases h with h | ⟨o, h⟩
  · exact .inl (k.keep _ _ h n)
  · exact .inr ⟨o, k.keep _ _ h n⟩
mutual
theorem RP.kp (k : Kp S H S' H') : ∀ {x : PyData} {v : V}, RP K S H x v → RP K S' H' x v
  | _, _, .non => .non
  | _, _, .bl b => .bl b
  | _, _, .int b => .int b
  | _, _, .str b => .str b
  | _, _, .lst r n h => .lst (k.rd r n) (k.no _ (rd_some r) n) (RPs.kp k h)
  | _, _, .tup r h => .tup (by
      rcases r with ⟨r, n⟩ | r
      · exact .inl ⟨k.rd r n, k.no _ (rd_some r) n⟩
      · exact .inr r) (RPs.kp k h)
  | _, _, .dct r n h => .dct (k.keep _ _ r n) (k.no _ (by rw [r]; exact Option.some_ne_none _) n) (RKs.kp k h)
theorem RPs.kp (k : Kp S H S' H') : ∀ {x : List PyData} {v : List V}, RPs K S H x v → RPs K S' H' x v
  | _, _, .nil => .nil
  | _, _, .cons a b => .cons (RP.kp k a) (RPs.kp k b)
theorem RKs.kp (k : Kp S H S' H') : ∀ {x : List (PyData × PyData)} {v : List (Key × V)}, RKs K S H x v → RKs K S' H' x v
  | _, _, .nil => .nil
  | _, _, .int a b => .int (RP.kp k a) (RKs.kp k b)
  | _, _, .str a b => .str (RP.kp k a) (RKs.kp k b)
end
theorem RP.anti (h : ∀ a, S.no a → S'.no a) {x : PyData} {v : V} (r : RP K S H x v) : RP K S' H x v := r.kp ⟨fun a _ n => h a n, fun _ _ e _ => e⟩
theorem RPs.anti (h : ∀ a, S.no a → S'.no a) {x : List PyData} {v : List V} (r : RPs K S H x v) : RPs K S' H x v := r.kp ⟨fun a _ n => h a n, fun _ _ e _ => e⟩
theorem RP.r0 {x : PyData} {v : V} (r : RP K S H x v) : RP K S0 H x v := r.anti fun a _ => no0 a
theorem RPs.r0 {x : List PyData} {v : List V} (r : RPs K S H x v) : RPs K S0 H x v := r.anti fun a _ => no0 a
theorem RPs.length : ∀ {x : List PyData} {v : List V}, RPs K S H x v → x.length = v.length
  | _, _, .nil => rfl
  | _, _, .cons _ b => congrArg (· + 1) b.length
theorem RPs.get : ∀ {x : List PyData} {v : List V} {i : Nat} {d : PyData}, RPs K S H x v → x[i]? = some d → ∃ u, v[i]? = some u ∧ RP K S H d u
  | _, _, i, _, .nil, e => by simp at e
  | _, _, 0, _, .cons a _, e => by simp at e; subst e; exact ⟨_, rfl, a⟩
  | _, _, i + 1, _, .cons _ b, e => by
    obtain ⟨u, h1, h2⟩ := RPs.get (i := i) b (by simpa using e)
    exact ⟨u, by simpa using h1, h2⟩
theorem RPs.app : ∀ {x y : List PyData} {v w : List V}, RPs K S H x v → RPs K S H y w → RPs K S H (x ++ y) (v ++ w)
  | _, _, _, _, .nil, s => s
  | _, _, _, _, .cons a b, s => .cons a (RPs.app b s)
theorem RPs.take : ∀ {x : List PyData} {v : List V} (n : Nat), RPs K S H x v → RPs K S H (x.take n) (v.take n)
  | _, _, 0, _ => .nil
  | _, _, _ + 1, .nil => .nil
  | _, _, n + 1, .cons a b => .cons a (RPs.take n b)
theorem RPs.drop : ∀ {x : List PyData} {v : List V} (n : Nat), RPs K S H x v → RPs K S H (x.drop n) (v.drop n)
  | _, _, 0, r => r
  | _, _, _ + 1, .nil => .nil
  | _, _, n + 1, .cons _ b => RPs.drop n b
theorem RPs.set {d : PyData} {u : V} (r : RP K S H d u) : ∀ {x : List PyData} {v : List V} (i : Nat), RPs K S H x v → RPs K S H (x.set i d) (v.set i u)
  | _, _, _, .nil => .nil
  | _, _, 0, .cons _ b => .cons r b
  | _, _, i + 1, .cons a b => .cons a (RPs.set r i b)
theorem RPs.rep {x : List PyData} {v : List V} (r : RPs K S H x v) : ∀ n : Nat, RPs K S H (List.replicate n x).flatten (List.replicate n v).flatten
  | 0 => .nil
  | n + 1 => by
    rw [List.replicate_succ, List.replicate_succ, List.flatten_cons, List.flatten_cons]
    exact r.app (RPs.rep r n)
theorem RPs.cut {x : List PyData} {v : List V} (r : RPs K S H x v) (lo hi : Option Int) : RPs K S H (cut x lo hi) (cutV v lo hi) := by
  unfold Mi.cut cutV
  rw [r.length]
  exact (r.drop _).take _
theorem RPs.dp : ∀ {x : List PyData} {v : List V}, RPs K S H x v → PyData.plainAll x = true → DpAll K H v x
  | [], _, .nil, _ => .nil
  | d :: ds, _, .cons a b, p => by
    have p' : d.plain = true ∧ PyData.plainAll ds = true := by simpa [PyData.plainAll] using p
    refine .cons ?_ (RPs.dp b p'.2)
    cases a with
    | non => exact .non
    | bl b => exact .bl b
    | int b => exact .int b
    | str b => exact .str b
    | lst r n h => exact .lst (.inl r) (RPs.dp h (by simpa [PyData.plain] using p'.1))
    | tup r h => exact .tup r.sq (RPs.dp h (by simpa [PyData.plain] using p'.1))
    | dct _ _ _ => simp [PyData.plain] at p'
termination_by x _ _ _ => sizeOf x
theorem RP.dp {x : PyData} {v : V} (r : RP K S H x v) (p : x.plain = true) : Dp K H v x := by
  have := RPs.dp (.cons r .nil) (by simp [PyData.plainAll, p])
  cases this with
  | cons a _ => exact a
end
/-! ### dicts are read too -/
section
variable {X : Cx} {pins : List (Addr × Obj)} {σ : L2.St} {H : Hp} {s : Shared} {S : Sk}
mutual
theorem RP.reads (I : Inv X pins σ H s) : ∀ (x : PyData) (v : V) (u : Value), RP X.K S H x v → RelV v u → ∃ as, Reads s.heap u x as ∧ (noLst x = true → sysModules ∉ as)
  | .none, _, _, h, r => by cases h; cases r; exact ⟨_, Reads.none, fun _ => by simp⟩
  | .bool b, _, _, h, r => by cases h; cases r; exact ⟨_, Reads.bool b, fun _ => by simp⟩
  | .int i, _, _, h, r => by cases h; obtain ⟨t, rfl⟩ := r; exact ⟨_, Reads.int i t, fun _ => by simp⟩
  | .str i, _, _, h, r => by cases h; obtain ⟨t, rfl⟩ := r; exact ⟨_, Reads.str i t, fun _ => by simp⟩
  | .list ds, _, _, h, r => by
    cases h with
    | lst hs _ ha =>
      cases r
      obtain ⟨its, rv, ⟨o, n, ho, hc, _, hd⟩, _⟩ := I.list (.inl hs)
      obtain ⟨as, hr, _⟩ := RPs.reads I ds _ its ha rv
      exact ⟨_, Reads.list ho hc hd hr, fun z => by simp [noLst] at z⟩
  | .tuple ds, _, _, h, r => by
    cases h with
    | tup hs ha =>
      cases r
      obtain ⟨its, rv, ⟨o, ho, hc, n, hd⟩, _⟩ := I.tuple hs.sq
      obtain ⟨as, hr, q⟩ := RPs.reads I ds _ its ha rv
      exact ⟨_, Reads.tuple ho hc hd hr, fun z => q (by simpa [noLst] using z)⟩
  | .dict ds, _, _, h, r => by
    cases h with
    | dct hs _ ha =>
      cases r
      obtain ⟨_, hsm, vs, kv, o, es, ep, ho, hx, hd, _, hp, _⟩ := I.hok _ _ hs
      obtain ⟨as, bs, h1, h2, q⟩ := RKs.reads I ds _ vs es.toList ha kv hp
      refine ⟨_, Reads.dict ho hx.1 hd h1 h2, fun z => ?_⟩
      obtain ⟨q1, q2⟩ := q (by simpa [noLst] using z)
      have := beq_eq_false_iff_ne.mp hsm
      simp only [List.cons_append, List.mem_cons, List.mem_append, not_or]
      exact ⟨fun e => this e.symm, q1, q2⟩
theorem RPs.reads (I : Inv X pins σ H s) : ∀ (x : List PyData) (v : List V) (u : List Value), RPs X.K S H x v → Vals v u → ∃ as, ReadsAll s.heap u x as ∧ (noLstA x = true → sysModules ∉ as)
  | [], _, _, h, r => by cases h; cases r; exact ⟨_, ReadsAll.nil, fun _ => by simp⟩
  | d :: ds, _, _, h, r => by
    cases h with
    | cons h1 h2 =>
      cases r with
      | cons r1 r2 =>
        obtain ⟨as, q1, n1⟩ := RP.reads I d _ _ h1 r1
        obtain ⟨bs, q2, n2⟩ := RPs.reads I ds _ _ h2 r2
        refine ⟨_, ReadsAll.cons q1 q2, fun z => ?_⟩
        have z' : noLst d = true ∧ noLstA ds = true := by simpa [noLstA] using z
        simp [n1 z'.1, n2 z'.2]
theorem RKs.reads (I : Inv X pins σ H s) : ∀ (x : List (PyData × PyData)) (v : List (Key × V)) (u : List (Key × Value)) (es : List DictEntry), RKs X.K S H x v → KV v u → Pairs (mixKind X.prog X.w) es u →
    ∃ as bs, ReadsAll s.heap (es.map (·.key)) (x.map (·.1)) as ∧ ReadsAll s.heap (es.map (·.val)) (x.map (·.2)) bs ∧ (noLstK x = true → sysModules ∉ as ∧ sysModules ∉ bs)
  | [], _, _, _, h, r, p => by cases h; cases r; cases p; exact ⟨_, _, ReadsAll.nil, ReadsAll.nil, fun _ => by simp⟩
  | (a, d) :: ds, _, _, _, h, r, p => by
    cases h with
    | int h1 h2 =>
      cases r with
      | cons r1 r2 =>
        cases p with
        | cons k1 k2 k3 =>
          obtain ⟨as, q1, n1⟩ := RP.reads I d _ _ h1 r1.2
          obtain ⟨bs, cs, q2, q3, n2⟩ := RKs.reads I ds _ _ _ h2 r2 k3
          rw [← r1.1] at k1
          obtain ⟨t, e⟩ := Value.isInt_shape k1
          refine ⟨_, _, ReadsAll.cons (e ▸ Reads.int _ t) q2, ReadsAll.cons (show Reads s.heap _ d as by dsimp only; rw [k2]; exact q1) q3, fun z => ?_⟩
          have z' : noLst d = true ∧ noLstK ds = true := by simpa [noLstK] using z
          have := n2 z'.2
          simp [n1 z'.1, this.1, this.2]
    | str h1 h2 =>
      cases r with
      | cons r1 r2 =>
        cases p with
        | cons k1 k2 k3 =>
          obtain ⟨as, q1, n1⟩ := RP.reads I d _ _ h1 r1.2
          obtain ⟨bs, cs, q2, q3, n2⟩ := RKs.reads I ds _ _ _ h2 r2 k3
          rw [← r1.1] at k1
          obtain ⟨t, e⟩ := Value.isStrOf_shape k1
          refine ⟨_, _, ReadsAll.cons (e ▸ Reads.str _ t) q2, ReadsAll.cons (show Reads s.heap _ d as by dsimp only; rw [k2]; exact q1) q3, fun z => ?_⟩
          have z' : noLst d = true ∧ noLstK ds = true := by simpa [noLstK] using z
          have := n2 z'.2
          simp [n1 z'.1, this.1, this.2]
end
end

/-! ### states -/
structure Stp (S : Sk) (H : Hp) (S' : Sk) (H' : Hp) : Prop where
  len : S.L.length ≤ S'.L.length
  old : ∀ (i : Nat) (a : Addr), i < S.L.length → S'.L[i]? = some (some a) → S.L[i]? = some (some a)
  new : ∀ a, some a ∈ S'.L → some a ∈ S.L ∨ H a = none
  z : (∀ a, a ∈ S.Z → a ∈ S'.Z) ∧ ∀ a, a ∈ S'.Z → a ∈ S.Z ∨ H a = none
  keep : ∀ a o, H a = some o → some a ∉ S.L → H' a = some o
  live : ∀ a, H' a = none → H a = none
section
variable {K : Kf} {S S' S'' : Sk} {H H' H'' : Hp}
theorem Stp.refl : Stp S H S H := ⟨Nat.le_refl _, fun _ _ _ h => h, fun _ h => .inl h, ⟨fun _ h => h, fun _ h => .inl h⟩, fun _ _ h _ => h, fun _ h => h⟩
theorem Stp.kp (t : Stp S H S' H') : Kp S H S' H' := by
  refine ⟨fun a ha n => ⟨fun h => ?_, fun h => (t.z.2 a h).elim n.2 ha⟩, fun a o h n => t.keep a o h n.1⟩
  rcases t.new a h with h | h
  · exact n.1 h
  · exact ha h
theorem Stp.trans (t : Stp S H S' H') (u : Stp S' H' S'' H'') : Stp S H S'' H'' where
  len := Nat.le_trans t.len u.len
  old := fun i a h e => t.old i a h (u.old i a (Nat.lt_of_lt_of_le h t.len) e)
  new := fun a h => by
    rcases u.new a h with h | h
    · exact t.new a h
    · exact .inr (t.live a h)
  z := ⟨fun a h => u.z.1 a (t.z.1 a h), fun a h => by
    rcases u.z.2 a h with h | h
    · exact t.z.2 a h
    · exact .inr (t.live a h)⟩
  keep := fun a o h n => u.keep a o (t.keep a o h n) fun h' => by
    rcases t.new a h' with h' | h'
    · exact n h'
    · rw [h'] at h; cases h
  live := fun a h => t.live a (u.live a h)
def RD (K : Kf) (S : Sk) (H : Hp) : D → V → Prop
  | .p x, v => RP K S H x v
  | .ref i, v => i < S.L.length ∧ ∀ a, S.L[i]? = some (some a) → v = .ref a
  | .scr ns, v => ∃ a, v = .ref a ∧ ((Rd H a (.lst (ns.map V.int)) ∧ S.no a) ∨ LstK K a (ns.map V.int))
abbrev RDs (K : Kf) (S : Sk) (H : Hp) : List D → List V → Prop := Paired (RD K S H)
theorem RP.mono (t : Stp S H S' H') {x : PyData} {v : V} (r : RP K S H x v) : RP K S' H' x v := r.kp t.kp
theorem RPs.mono (t : Stp S H S' H') {x : List PyData} {v : List V} (r : RPs K S H x v) : RPs K S' H' x v := r.kp t.kp
theorem RD.mono (t : Stp S H S' H') {d : D} {v : V} (r : RD K S H d v) : RD K S' H' d v := by
  cases d with
  | p x => exact RP.mono (K := K) t r
  | ref i => exact ⟨Nat.lt_of_lt_of_le r.1 t.len, fun a e => r.2 a (t.old i a r.1 e)⟩
  | scr ns =>
    obtain ⟨a, e, h⟩ := r
    refine ⟨a, e, ?_⟩
    rcases h with ⟨h, n⟩ | h
    · exact .inl ⟨t.kp.rd h n, t.kp.no _ (rd_some h) n⟩
    · exact .inr h
theorem RDs.mono (t : Stp S H S' H') : ∀ {ds : List D} {vs : List V}, RDs K S H ds vs → RDs K S' H' ds vs
  | _, _, .nil => .nil
  | _, _, .cons a b => .cons (RD.mono t a) (RDs.mono t b)
structure Sl (K : Kf) (S : Sk) (H : Hp) (ρ : Env) (σ : L2.St) : Prop where
  len : ρ.length = σ.length
  at' : ∀ (i : Nat) (d : D), ρ[i]? = some (some d) → ∃ v, σ[i]? = some (some v) ∧ RD K S H d v
theorem Sl.mono (t : Stp S H S' H') {ρ : Env} {σ : L2.St} (r : Sl K S H ρ σ) : Sl K S' H' ρ σ :=
  ⟨r.len, fun i d e => let ⟨v, e1, e2⟩ := r.at' i d e; ⟨v, e1, e2.mono t⟩⟩
theorem Sl.set {ρ : Env} {σ : L2.St} (r : Sl K S H ρ σ) (i : Nat) {d : D} {v : V} (q : RD K S H d v) : Sl K S H (ρ.set i (some d)) (σ.set i (some v)) := by
  refine ⟨by simp [r.len], fun j e h => ?_⟩
  by_cases hj : i = j
  · subst hj
    by_cases hi : i < ρ.length
    · rw [List.getElem?_set_self hi] at h
      have := Option.some.inj (Option.some.inj h)
      subst this
      exact ⟨v, by rw [List.getElem?_set_self (by rw [← r.len]; exact hi)], q⟩
    · rw [List.getElem?_eq_none (by simpa using hi)] at h; cases h
  · rw [List.getElem?_set_ne hj] at h ⊢
    exact r.at' j e h
theorem Sl.wipe {ρ : Env} {σ : L2.St} (r : Sl K S H ρ σ) : ∀ vs : List Nat, Sl K S H (wipeE ρ vs) (L2.wipe σ vs)
  | [] => r
  | v :: vs => by
    have ih := Sl.wipe r vs
    unfold wipeE L2.wipe
    refine ⟨by simp [ih.len], fun j e h => ?_⟩
    by_cases hj : v = j
    · subst hj
      by_cases hi : v < (wipeE ρ vs).length
      · rw [List.getElem?_set_self hi] at h; cases h
      · rw [List.getElem?_eq_none (by simpa using hi)] at h; cases h
    · rw [List.getElem?_set_ne hj] at h ⊢
      exact ih.at' j e h
/-- the mutable lists as they stand -/
structure W (K : Kf) (S : Sk) (M : Mem) (H : Hp) : Prop where
  len : S.L.length = M.length
  nd : ∀ (i j : Nat) (a : Addr), S.L[i]? = some (some a) → S.L[j]? = some (some a) → i = j
  ob : ∀ (i : Nat) (a : Addr) (xs : List PyData), S.L[i]? = some (some a) → M[i]? = some (.lst xs) → ∃ vs, H a = some (.lst vs) ∧ RPs K S H xs vs
  al : ∀ a, some a ∈ S.L → H a ≠ none
  zl : ∀ a ∈ S.Z, H a ≠ none
  dj : ∀ a ∈ S.Z, some a ∉ S.L
  lv : ∀ (i : Nat) (xs : List PyData), M[i]? = some (.lst xs) → ∃ a, S.L[i]? = some (some a)
variable {M : Mem}
theorem mem_L {L : List (Option Addr)} {a : Addr} (h : some a ∈ L) : ∃ i : Nat, L[i]? = some (some a) := List.getElem?_of_mem h
theorem L_mem {L : List (Option Addr)} {i : Nat} {a : Addr} (h : L[i]? = some (some a)) : some a ∈ L := List.mem_of_getElem? h
/-- what is read of a value -/
theorem dat_ok (w : W K S M H) {d : D} {v : V} {x : PyData} (r : RD K S H d v) (e : dat M d = some x) : RP K S0 H x v := by
  cases d with
  | p y => cases e; exact RP.r0 (K := K) r
  | ref i =>
    unfold dat at e
    dsimp only at e
    split at e
    · rename_i xs hm
      cases e
      obtain ⟨a, ha⟩ := w.lv i xs hm
      obtain ⟨vs, h1, h2⟩ := w.ob i a xs ha hm
      rw [r.2 a ha]
      exact .lst (.inl h1) (no0 a) h2.r0
    · cases e
  | scr ns => cases e
/-- another place of the abstract heap is new -/
theorem Stp.fresh {p : Addr} {o : HO} (n : H p = none) : Stp S H S (upd H p o) :=
  ⟨Nat.le_refl _, fun _ _ _ h => h, fun _ h => .inl h, ⟨fun _ h => h, fun _ h => .inl h⟩, fun a u h _ => by rw [upd_ne (ne_of_none h n)]; exact h, fun a h => by
    by_cases e : a = p
    · subst e; exact n
    · rw [upd_ne e] at h; exact h⟩
theorem W.step_same (w : W K S M H) (t : Stp S H S H') (k : ∀ a o, some a ∈ S.L → H a = some o → H' a = some o) : W K S M H' where
  len := w.len
  nd := w.nd
  ob := fun i a xs h1 h2 => by
    obtain ⟨vs, q1, q2⟩ := w.ob i a xs h1 h2
    exact ⟨vs, k a _ (L_mem h1) q1, q2.mono t⟩
  al := fun a h e => w.al a h (t.live a e)
  zl := fun a h e => w.zl a h (t.live a e)
  dj := w.dj
  lv := w.lv
theorem W.fresh (w : W K S M H) {p : Addr} {o : HO} (n : H p = none) : W K S M (upd H p o) :=
  w.step_same (Stp.fresh n) fun a u _ h => by rw [upd_ne (ne_of_none h n)]; exact h
/-- the walk goes on from the value that alloc gives -/
theorem alloc_ok (w : W K S M H) {p : Addr} {vs : List V} {xs : List PyData} (n : H p = none) (r : RPs K S H xs vs) {mt : Bool} {d : D} {M' : Mem} (e : alloc mt xs M = .ok d M') :
    ∃ S', Stp S H S' (upd H p (.lst vs)) ∧ W K S' M' (upd H p (.lst vs)) ∧ RD K S' (upd H p (.lst vs)) d (.ref p) := by
  have st : Stp S H S (upd H p (.lst vs)) := Stp.fresh n
  have np : some p ∉ S.L := fun h => w.al p h n
  have nz : p ∉ S.Z := fun h => w.zl p h n
  unfold alloc at e
  cases mt with
  | false =>
    simp only [Bool.false_eq_true, if_false, Res.ok.injEq] at e
    obtain ⟨rfl, rfl⟩ := e
    exact ⟨S, st, w.fresh n, .lst (.inl upd_same) ⟨np, nz⟩ (r.mono st)⟩
  | true =>
    simp only [if_true, Res.ok.injEq] at e
    obtain ⟨rfl, rfl⟩ := e
    have st' : Stp S H ⟨S.L ++ [some p], S.Z⟩ (upd H p (.lst vs)) := by
      refine ⟨by simp, fun i a hi h => ?_, fun a h => ?_, ⟨fun _ h => h, fun _ h => .inl h⟩, st.keep, st.live⟩
      · simp only [] at h; rw [List.getElem?_append_left hi] at h; exact h
      · rcases List.mem_append.mp h with h | h
        · exact .inl h
        · have : a = p := by simpa using h
          subst this; exact .inr n
    refine ⟨⟨S.L ++ [some p], S.Z⟩, st', ⟨by simp [w.len], fun i j a h1 h2 => ?_, fun i a xs' h1 h2 => ?_, fun a h => ?_, fun a h => ?_, fun a h h' => ?_, fun i xs' h => ?_⟩, ?_⟩
    · have key : ∀ (i : Nat) a, (S.L ++ [some p])[i]? = some (some a) → (i < S.L.length ∧ S.L[i]? = some (some a)) ∨ (i = S.L.length ∧ a = p) := fun i a h => by
        by_cases hi : i < S.L.length
        · rw [List.getElem?_append_left hi] at h; exact .inl ⟨hi, h⟩
        · rw [List.getElem?_append_right (by omega)] at h
          have : i - S.L.length = 0 := by
            rcases Nat.eq_zero_or_pos (i - S.L.length) with z | z
            · exact z
            · rw [List.getElem?_eq_none (by simp; omega)] at h; cases h
          rw [this] at h
          have e : p = a := by simpa using h
          exact .inr ⟨by omega, e.symm⟩
      rcases key i a h1 with ⟨_, q1⟩ | ⟨e1, e1'⟩ <;> rcases key j a h2 with ⟨_, q2⟩ | ⟨e2, e2'⟩
      · exact w.nd i j a q1 q2
      · subst e2'; exact absurd (L_mem q1) np
      · subst e1'; exact absurd (L_mem q2) np
      · rw [e1, e2]
    · by_cases hi : i < S.L.length
      · simp only [] at h1
        rw [List.getElem?_append_left hi] at h1
        rw [List.getElem?_append_left (by rw [← w.len]; exact hi)] at h2
        obtain ⟨us, q1, q2⟩ := w.ob i a xs' h1 h2
        exact ⟨us, by rw [upd_ne (ne_of_none q1 n)]; exact q1, q2.mono st'⟩
      · simp only [] at h1
        rw [List.getElem?_append_right (by omega)] at h1
        rw [List.getElem?_append_right (by rw [← w.len]; omega)] at h2
        have z : i - S.L.length = 0 := by
          rcases Nat.eq_zero_or_pos (i - S.L.length) with z | z
          · exact z
          · rw [List.getElem?_eq_none (by simp; omega)] at h1; cases h1
        rw [z] at h1
        rw [← w.len, z] at h2
        have e1 : p = a := by simpa using h1
        have e2 : xs = xs' := by simpa using h2
        subst e1; subst e2
        exact ⟨vs, upd_same, r.mono st'⟩
    · rcases List.mem_append.mp h with h | h
      · intro e; exact w.al a h (st.live a e)
      · have : a = p := by simpa using h
        subst this; rw [upd_same]; exact Option.some_ne_none _
    · intro e; exact w.zl a h (st.live a e)
    · rcases List.mem_append.mp h' with h' | h'
      · exact w.dj a h h'
      · have : a = p := by simpa using h'
        subst this; exact nz h
    · by_cases hi : i < M.length
      · rw [List.getElem?_append_left hi] at h
        obtain ⟨a, ha⟩ := w.lv i xs' h
        exact ⟨a, by show (S.L ++ [some p])[i]? = _; rw [List.getElem?_append_left (by rw [w.len]; exact hi)]; exact ha⟩
      · have hi2 : i = M.length := by
          rcases Nat.lt_or_ge i (M.length + 1) with z | z
          · omega
          · rw [List.getElem?_eq_none (by simpa using z)] at h; cases h
        exact ⟨p, by show (S.L ++ [some p])[i]? = _; rw [hi2, ← w.len]; simp⟩
    · refine ⟨by simp [w.len], fun a h => ?_⟩
      have : (S.L ++ [some p])[M.length]? = some (some p) := by rw [← w.len]; simp
      rw [this] at h
      have := Option.some.inj (Option.some.inj h)
      subst this; rfl
/-- a mutable list is written -/
theorem W.write (w : W K S M H) {i : Nat} {a : Addr} {xs ys : List PyData} {vs : List V} (ha : S.L[i]? = some (some a)) (hm : M[i]? = some (.lst xs)) (r : RPs K S H ys vs) :
    W K S (M.set i (.lst ys)) (upd H a (.lst vs)) ∧ Stp S H S (upd H a (.lst vs)) := by
  have ma := L_mem ha
  have st : Stp S H S (upd H a (.lst vs)) := ⟨Nat.le_refl _, fun _ _ _ h => h, fun _ h => .inl h, ⟨fun _ h => h, fun _ h => .inl h⟩, fun b o h nb => by
    rw [upd_ne (fun e : b = a => nb (by rw [e]; exact ma))]; exact h, fun b h => by
    by_cases e : b = a
    · subst e; rw [upd_same] at h; cases h
    · rw [upd_ne e] at h; exact h⟩
  have hi : i < M.length := (List.getElem?_eq_some_iff.mp hm).1
  refine ⟨⟨by simp [w.len], w.nd, fun j b zs h1 h2 => ?_, fun b h e => w.al b h (st.live b e), fun b h e => w.zl b h (st.live b e), w.dj, fun j zs h => ?_⟩, st⟩
  · by_cases hj : i = j
    · subst hj
      rw [List.getElem?_set_self hi] at h2
      have e2 : ys = zs := by simpa using h2
      rw [ha] at h1
      have e1 : a = b := by simpa using h1
      subst e1; subst e2
      exact ⟨vs, upd_same, r.mono st⟩
    · rw [List.getElem?_set_ne hj] at h2
      obtain ⟨us, q1, q2⟩ := w.ob j b zs h1 h2
      have : b ≠ a := fun e => by subst e; exact hj (w.nd i j b ha h1)
      exact ⟨us, by rw [upd_ne this]; exact q1, q2.mono st⟩
  · by_cases hj : i = j
    · subst hj; exact ⟨a, ha⟩
    · rw [List.getElem?_set_ne hj] at h; exact w.lv j zs h
/-- a mutable list is given up: it is data from now on -/
theorem W.kill (w : W K S M H) {i : Nat} {a : Addr} {xs : List PyData} (ha : S.L[i]? = some (some a)) (hm : M[i]? = some (.lst xs)) :
    W K ⟨S.L.set i none, S.Z⟩ (M.set i .dead) H ∧ Stp S H ⟨S.L.set i none, S.Z⟩ H ∧ RP K ⟨S.L.set i none, S.Z⟩ H (.list xs) (.ref a) := by
  have hi : i < S.L.length := (List.getElem?_eq_some_iff.mp ha).1
  have sub : ∀ (j : Nat) (b : Addr), (S.L.set i none)[j]? = some (some b) → S.L[j]? = some (some b) ∧ i ≠ j := fun j b h => by
    by_cases hj : i = j
    · subst hj; rw [List.getElem?_set_self hi] at h; cases h
    · rw [List.getElem?_set_ne hj] at h; exact ⟨h, hj⟩
  have subm : ∀ b, some b ∈ S.L.set i none → some b ∈ S.L := fun b h => by
    obtain ⟨j, hj⟩ := mem_L h
    exact L_mem (sub j b hj).1
  have st : Stp S H ⟨S.L.set i none, S.Z⟩ H := ⟨by simp, fun j b _ h => (sub j b h).1, fun b h => .inl (subm b h), ⟨fun _ h => h, fun _ h => .inl h⟩, fun _ _ h _ => h, fun _ h => h⟩
  refine ⟨⟨by simp [w.len], fun j k b h1 h2 => w.nd j k b (sub j b h1).1 (sub k b h2).1, fun j b zs h1 h2 => ?_, fun b h => w.al b (subm b h), w.zl, fun b h h' => w.dj b h (subm b h'), fun j zs h => ?_⟩, st, ?_⟩
  · obtain ⟨q, hj⟩ := sub j b h1
    rw [List.getElem?_set_ne hj] at h2
    obtain ⟨us, q1, q2⟩ := w.ob j b zs q h2
    exact ⟨us, q1, q2.mono st⟩
  · by_cases hj : i = j
    · subst hj; rw [List.getElem?_set_self (by rw [← w.len]; exact hi)] at h; cases h
    · rw [List.getElem?_set_ne hj] at h
      obtain ⟨b, hb⟩ := w.lv j zs h
      exact ⟨b, by show (S.L.set i none)[j]? = _; rw [List.getElem?_set_ne hj]; exact hb⟩
  · obtain ⟨us, q1, q2⟩ := w.ob i a xs ha hm
    refine .lst (.inl q1) ⟨fun h => ?_, fun h => w.dj a h (L_mem ha)⟩ (q2.mono st)
    obtain ⟨j, hj⟩ := mem_L h
    obtain ⟨q, ne⟩ := sub j a hj
    exact ne (w.nd i j a ha q)
theorem frzP_ok (w : W K S M H) {d : D} {v : V} {x : PyData} {M' : Mem} (r : RD K S H d v) (e : frzP d M = some (x, M')) : ∃ S', W K S' M' H ∧ Stp S H S' H ∧ RP K S' H x v := by
  cases d with
  | p y =>
    have e' : y = x ∧ M = M' := by simpa [frzP] using e
    obtain ⟨rfl, rfl⟩ := e'
    exact ⟨S, w, .refl, r⟩
  | ref i =>
    unfold frzP at e
    dsimp only at e
    split at e
    · rename_i xs hm
      have e' : PyData.list xs = x ∧ M.set i .dead = M' := by simpa using e
      obtain ⟨rfl, rfl⟩ := e'
      obtain ⟨a, ha⟩ := w.lv i xs hm
      obtain ⟨h1, h2, h3⟩ := w.kill ha hm
      rw [r.2 a ha]
      exact ⟨_, h1, h2, h3⟩
    · cases e
  | scr ns => cases e
theorem frzPs_ok : ∀ {ds : List D} {vs : List V} {S : Sk} {M M' : Mem} {xs : List PyData}, W K S M H → RDs K S H ds vs → frzPs ds M = some (xs, M') → ∃ S', W K S' M' H ∧ Stp S H S' H ∧ RPs K S' H xs vs
  | [], _, S, M, M', xs, w, .nil, e => by
    have e' : [] = xs ∧ M = M' := by simpa [frzPs] using e
    obtain ⟨rfl, rfl⟩ := e'
    exact ⟨S, w, .refl, .nil⟩
  | d :: ds, _, S, M, M', xs, w, .cons r rs, e => by
    unfold frzPs at e
    split at e
    · rename_i x M1 h1
      split at e
      · rename_i ys M2 h2
        have e' : x :: ys = xs ∧ M2 = M' := by simpa using e
        obtain ⟨rfl, rfl⟩ := e'
        obtain ⟨S1, w1, t1, r1⟩ := frzP_ok w r h1
        obtain ⟨S2, w2, t2, r2⟩ := frzPs_ok w1 (RDs.mono t1 rs) h2
        exact ⟨S2, w2, t1.trans t2, .cons (r1.mono t2) r2⟩
      · cases e
    · cases e
/-- a call's own objects are forgotten -/
theorem W.cutBack {n : Nat} (w : W K S' M H) (hn : n ≤ S'.L.length) : W K ⟨S'.L.take n, S'.Z⟩ (M.take n) H := by
  have sub : ∀ (j : Nat) (b : Addr), (S'.L.take n)[j]? = some (some b) → S'.L[j]? = some (some b) ∧ j < n := fun j b h => by
    by_cases hj : j < n
    · rw [List.getElem?_take_of_lt hj] at h; exact ⟨h, hj⟩
    · rw [List.getElem?_eq_none (by rw [List.length_take]; omega)] at h; cases h
  have subm : ∀ b, some b ∈ S'.L.take n → some b ∈ S'.L := fun b h => List.mem_of_mem_take h
  have an : ∀ a, S'.no a → (⟨S'.L.take n, S'.Z⟩ : Sk).no a := fun a h => ⟨fun z => h.1 (subm a z), h.2⟩
  refine ⟨by simp [w.len], fun j k b h1 h2 => w.nd j k b (sub j b h1).1 (sub k b h2).1, fun j b zs h1 h2 => ?_, fun b h => w.al b (subm b h), w.zl, fun b h h' => w.dj b h (subm b h'), fun j zs h => ?_⟩
  · obtain ⟨q, hj⟩ := sub j b h1
    rw [List.getElem?_take_of_lt hj] at h2
    obtain ⟨us, q1, q2⟩ := w.ob j b zs q h2
    exact ⟨us, q1, q2.anti an⟩
  · by_cases hj : j < n
    · rw [List.getElem?_take_of_lt hj] at h
      obtain ⟨b, hb⟩ := w.lv j zs h
      exact ⟨b, by show (S'.L.take n)[j]? = _; rw [List.getElem?_take_of_lt hj]; exact hb⟩
    · rw [List.getElem?_eq_none (by rw [List.length_take]; omega)] at h; cases h
theorem Stp.cutBack (t : Stp S H S' H') : Stp S H ⟨S'.L.take S.L.length, S'.Z⟩ H' where
  len := by have := t.len; simp; omega
  old := fun i a h e => by
    simp only [] at e
    rw [List.getElem?_take_of_lt h] at e
    exact t.old i a h e
  new := fun a h => t.new a (List.mem_of_mem_take h)
  z := t.z
  keep := t.keep
  live := t.live
theorem fin_ok {n : Nat} {frz : Bool} {d d' : D} {v : V} {M' : Mem} (w : W K S' M H') (t : Stp S H S' H') (hn : n = S.L.length) (r : RD K S' H' d v) (e : fin frz n d M = .ok d' M') :
    ∃ S'', Stp S H S'' H' ∧ W K S'' M' H' ∧ RD K S'' H' d' v := by
  unfold fin at e
  have le : n ≤ S'.L.length := by rw [hn]; exact t.len
  have an : ∀ a, S'.no a → (⟨S'.L.take n, S'.Z⟩ : Sk).no a := fun a h => ⟨fun z => h.1 (List.mem_of_mem_take z), h.2⟩
  cases frz with
  | false =>
    simp only [Bool.false_eq_true, if_false, Res.ok.injEq] at e
    obtain ⟨rfl, rfl⟩ := e
    exact ⟨S', t, w, r⟩
  | true =>
    simp only [if_true] at e
    have tc : Stp S H ⟨S'.L.take n, S'.Z⟩ H' := by rw [hn]; exact t.cutBack
    cases d with
    | p x =>
      simp only [Res.ok.injEq] at e
      obtain ⟨rfl, rfl⟩ := e
      exact ⟨_, tc, w.cutBack le, RP.anti (K := K) an r⟩
    | ref i =>
      simp only [] at e
      split at e
      · rename_i hi
        simp only [Res.ok.injEq] at e
        obtain ⟨rfl, rfl⟩ := e
        refine ⟨_, tc, w.cutBack le, by simp only [List.length_take]; have := r.1; omega, fun a h => r.2 a ?_⟩
        simp only [] at h
        rw [List.getElem?_take_of_lt hi] at h
        exact h
      · split at e
        · rename_i hi xs hm
          simp only [Res.ok.injEq] at e
          obtain ⟨rfl, rfl⟩ := e
          obtain ⟨a, ha⟩ := w.lv i xs hm
          obtain ⟨vs, h1, h2⟩ := w.ob i a xs ha hm
          rw [r.2 a ha]
          refine ⟨_, tc, w.cutBack le, .lst (.inl h1) ⟨fun h => ?_, fun h => w.dj a h (L_mem ha)⟩ (h2.anti an)⟩
          obtain ⟨j, hj⟩ := mem_L h
          have hjn : j < n := by
            rcases Nat.lt_or_ge j n with z | z
            · exact z
            · rw [List.getElem?_eq_none (by rw [List.length_take]; omega)] at hj; cases hj
          simp only [] at hj
          rw [List.getElem?_take_of_lt hjn] at hj
          have := w.nd i j a ha hj
          omega
        · cases e
    | scr ns => cases e
end
end Mi

set_option Elab.async false
set_option linter.all false
set_option maxRecDepth 100000
set_option maxHeartbeats 1000000
/-! Mi: each operation of the interpreter, by values, over HandS. -/
namespace Mi
open PySem PySem.Spec PyProof.Rows L2

/-- what is wanted behind a result -/
def Aft (K : Kf) (S : Sk) (H : Hp) (d : D) (M : Mem) (Q : VK) : Prop := ∀ S' H' v, Stp S H S' H' → W K S' M H' → RD K S' H' d v → Q v H'
def r2D (K : Kf) (f : D → D → Mem → Res D) : R2 := fun x y H Q => ∃ S M d e r M', W K S M H ∧ RD K S H d x ∧ RD K S H e y ∧ f d e M = .ok r M' ∧ Aft K S H r M' Q
section
variable {K : Kf} {S : Sk} {M M' : Mem} {H : Hp} {Q : VK} {d : D} {v : V}
theorem Aft.here (a : Aft K S H d M Q) (w : W K S M H) (r : RD K S H d v) : Q v H := a S H v .refl w r
theorem Aft.new (w : W K S M H) {p : Addr} {vs : List V} {xs : List PyData} {mt : Bool} (e : alloc mt xs M = .ok d M') (r : RPs K S H xs vs) (a : Aft K S H d M' Q) (n : H p = none) : Q (.ref p) (upd H p (.lst vs)) := by
  obtain ⟨S', t, w', r'⟩ := alloc_ok w n r e
  exact a S' _ _ t w' r'
theorem Aft.tup (w : W K S M H) {p : Addr} {vs : List V} {xs : List PyData} (a : Aft K S H (.p (.tuple xs)) M Q) (r : RPs K S H xs vs) (n : H p = none) : Q (.ref p) (upd H p (.tup vs)) := by
  refine a S _ _ (Stp.fresh n) (w.fresh n) (.tup (.inl ⟨.inl upd_same, fun h => w.al p h n, fun h => w.zl p h n⟩) (r.mono (Stp.fresh n)))
/-- data under a value that reads as a tuple, a list -/
theorem rd_tup (w : W K S M H) {xs : List PyData} (r : RD K S H d v) (e : dat M d = some (.tuple xs)) : ∃ a vs, v = .ref a ∧ SqT K H a vs ∧ RPs K S H xs vs ∧ RP K S H (.tuple xs) v := by
  cases d with
  | p y =>
    cases e
    have r' : RP K S H (.tuple xs) v := r
    cases id r' with
    | tup h1 h2 => exact ⟨_, _, rfl, h1.sq, h2, r'⟩
  | ref i =>
    unfold dat at e
    dsimp only at e
    split at e <;> cases e
  | scr ns => cases e
theorem rd_lst (w : W K S M H) {xs : List PyData} (r : RD K S H d v) (e : dat M d = some (.list xs)) : ∃ a vs, v = .ref a ∧ Rd H a (.lst vs) ∧ RPs K S H xs vs := by
  cases d with
  | p y =>
    cases e
    have r' : RP K S H (.list xs) v := r
    cases r' with
    | lst h1 _ h2 => exact ⟨_, _, rfl, h1, h2⟩
  | ref i =>
    unfold dat at e
    dsimp only at e
    split at e
    · rename_i ys hm
      cases e
      obtain ⟨a, ha⟩ := w.lv i _ hm
      obtain ⟨vs, h1, h2⟩ := w.ob i a _ ha hm
      exact ⟨a, vs, r.2 a ha, .inl h1, h2⟩
    · cases e
  | scr ns => cases e
theorem rd_int (w : W K S M H) {i : Int} (r : RD K S H d v) (e : dat M d = some (.int i)) : v = .int i := by
  have := dat_ok w r e
  cases this; rfl
theorem rd_str (w : W K S M H) {i : Str} (r : RD K S H d v) (e : dat M d = some (.str i)) : v = .str i := by
  have := dat_ok w r e
  cases this; rfl
theorem rd_bl (w : W K S M H) {i : Bool} (r : RD K S H d v) (e : dat M d = some (.bool i)) : v = .bl i := by
  have := dat_ok w r e
  cases this; rfl
theorem rd_non (w : W K S M H) (r : RD K S H d v) (e : dat M d = some .none) : v = .non := by
  have := dat_ok w r e
  cases this; rfl
end
theorem sz_le {n : Nat} (h : n ≤ 16777216) : n ≤ sizeLine := by rw [sizeLine_eq]; exact h
theorem sz_lt {n : Nat} (h : n < 16777216) : n < sizeLine := by rw [sizeLine_eq]; exact h

/-! ### lists that may be locked (the script) in +, * -/
section
variable {X : Cx}
theorem rd_obj {pins : List (Addr × Obj)} {σ : L2.St} {H : Hp} {s : Shared} {a : Addr} {xs : List V} (I : L2.Inv X pins σ H s) (h : Rd H a (.lst xs)) : xs.length ≤ sizeLine ∧ ∃ (its : List Value) (n : Nat), Vals xs its ∧ xs.length = its.length ∧ s.heap.get? a = some { cls := .type "list", data := .seq its.toArray n } := by
  obtain ⟨z, its, n, r, e⟩ := h.ok I.hok
  exact ⟨z, its, n, r, r.length, e⟩
def rCat' : R2 := fun x y H Q => ∃ l b xs zs, x = .ref l ∧ y = .ref b ∧ Rd H l (.lst xs) ∧ Rd H b (.lst zs) ∧ xs.length + zs.length ≤ sizeLine ∧ ∀ p, H p = none → Q (.ref p) (upd H p (.lst (xs ++ zs)))
theorem op_cat' : OpR X (binaryOp .Add) rCat' := by
  intro pins s σ H x y v u Q I rx ry h
  obtain ⟨l, b, xs, zs, rfl, rfl, hH, hB, hz, q⟩ := h
  cases rx
  cases ry
  obtain ⟨z, its, n, r, hl, e⟩ := rd_obj I hH
  obtain ⟨z2, its2, n2, r2, hl2, e2⟩ := rd_obj I hB
  refine PySem.P.add_list e e2 ?_ (by rw [List.size_toArray, List.size_toArray]; omega)
  have ea : its.toArray ++ its2.toArray = (its ++ its2).toArray := by simp
  rw [ea]
  exact ⟨.ref _, _, I.lnew (t' := s.toks) (r.append r2) (by rw [List.length_append]; omega), rfl, q _ I.fresh⟩

theorem op_rep' : OpR X (binaryOp .Mult) (fun x y H Q => ∃ l k xs, x = .ref l ∧ y = .int k ∧ Rd H l (.lst xs) ∧ -(2 ^ 63) ≤ k ∧ k < 2 ^ 63 ∧ xs.length * k.toNat ≤ sizeLine ∧
    ∀ p, H p = none → Q (.ref p) (upd H p (.lst (List.replicate k.toNat xs).flatten))) := by
  intro pins s σ H x y v u Q I rx ry h
  obtain ⟨at', k, zs, rfl, rfl, hR, hlo, hhi, hsz, fin⟩ := h
  cases rx
  obtain ⟨tk, rfl⟩ := ry
  obtain ⟨_, ls, n, rv, hlen, ho⟩ := rd_obj I hR
  have sz : ls.toArray.size * k.toNat ≤ sizeLine := by rw [List.size_toArray, ← hlen]; exact hsz
  have small : ¬ ls.toArray.size * k.toNat > (2 ^ 63 - 1) / 8 := by
    have b : (sizeLine : Nat) ≤ (2 ^ 63 - 1) / 8 := by decide
    omega
  have fit : ¬ (!Builtin.List.listFitsIndex k) = true := by rw [fitsIndex_both hlo hhi]; exact Bool.false_ne_true
  have short : ¬ Builtin.List.listTooLong (ls.toArray.size * k.toNat) = true := by rw [notLongL sz]; exact Bool.false_ne_true
  have made : List.foldl (fun x1 x2 => x1 ++ x2) #[] (List.replicate (if ls.toArray.isEmpty = true then 0 else k.toNat) ls.toArray) = (List.replicate k.toNat ls).flatten.toArray := by
    rw [size_rep]
    cases ls with
    | nil => simp
    | cons _ _ => rw [if_neg (by simp)]
  refine wpAny_binaryOp_repeat_ref (T := "list") (U := "int") (by decide) ⟨_, ho, rfl⟩ (fun s' => typeIs_int s' k tk) noFill_list_mul F.fills_int_mul
    F.slot_int_rmul repeat_list F.slot_int_index.lookup (call_meets F.slot_int_rmul (typeIs_int s k tk) F.entry_int_rmul (F.args_int_rmul_2 _ _)
      (int___rmul___int_list k tk at' ls.toArray n) ⟨ho, rfl, ⟨_, ho, rfl⟩, call_meets F.slot_list_mul ⟨_, ho, rfl⟩ F.entry_list_mul
        (F.args_list_mul_2 _ _) (AutoListH.list___mul___list_int_3 at' ls.toArray n k tk fit small short) ⟨ho, ?_⟩⟩)
  rw [made]
  exact ⟨.ref _, _, I.lnew (t' := s.toks) (rv.rep k.toNat) (by rw [PyProof.Rows.lm_len_rep_flat, Nat.mul_comm]; exact hsz), rfl, fin _ I.fresh⟩

/-! ### a tuple times an int -/
theorem tuple_mulS (l : Addr) (items : Array Value) (n : Nat) (dd : Option Addr) (sl : Array (Option Value)) (x : Int) (u : Tok) (c0 : (decide (x < -(2 ^ 63)) || decide (x ≥ 2 ^ 63)) = false) (c1 : (items.isEmpty || x == 1) = true) :
    Meets (Builtin.«tuple.__mul__» ⟨[.ref l, .int x u], []⟩) (fun _ R s => s.heap.get? l = some { cls := .type "tuple", dict := dd, data := .seq items n, slots := sl } ∧ R (.ok (.ret (Value.ref l))) s) :=
  .of_wp fun prog w A R s h => by
    obtain ⟨hp, g, d, tk, os⟩ := s
    obtain ⟨hl, h⟩ := h
    have f1 := AutoSeq1.idx_int
    wp_walk using wpAny_loadPart' hl
    repeat (first
      | (refine wpAny_ite_false (decide_eq_false (by rw [c0]; exact Bool.false_ne_true)) ?_; wp_walk using wpAny_loadPart' hl)
      | (refine wpAny_ite_true (decide_eq_true c1) ?_; wp_walk using wpAny_loadPart' hl))
    exact ⟨_, rfl, h⟩
theorem tuple_mul0 (l : Addr) (items : Array Value) (n : Nat) (dd : Option Addr) (sl : Array (Option Value)) (x : Int) (u : Tok) (c0 : (decide (x < -(2 ^ 63)) || decide (x ≥ 2 ^ 63)) = false) (c1 : (items.isEmpty || x == 1) = false) (c2 : (decide (x ≤ 0) || items.isEmpty) = true) :
    Meets (Builtin.«tuple.__mul__» ⟨[.ref l, .int x u], []⟩) (fun _ R s => s.heap.get? l = some { cls := .type "tuple", dict := dd, data := .seq items n, slots := sl } ∧
      R (.ok (.ret (Value.ref s.heap.objs.size))) { s with heap := s.heap.push { cls := Value.type "tuple", data := Data.seq #[] }, toks := s.toks }) :=
  .of_wp fun prog w A R s h => by
    obtain ⟨hp, g, d, tk, os⟩ := s
    obtain ⟨hl, h⟩ := h
    have f1 := AutoSeq1.idx_int
    wp_walk using wpAny_loadPart' hl
    repeat (first
      | (refine wpAny_ite_false (decide_eq_false (by rw [c0]; exact Bool.false_ne_true)) ?_; wp_walk using wpAny_loadPart' hl)
      | (refine wpAny_ite_false (decide_eq_false (by rw [c1]; exact Bool.false_ne_true)) ?_; wp_walk using wpAny_loadPart' hl)
      | (refine wpAny_ite_true (decide_eq_true c2) ?_; wp_walk using wpAny_loadPart' hl))
    exact ⟨_, rfl, h⟩
def rRepT' (K : Kf) : R2 := fun x y H Q => ∃ l k xs, x = .ref l ∧ y = .int k ∧ SqT K H l xs ∧ -(2 ^ 63) ≤ k ∧ k < 2 ^ 63 ∧ xs.length * k.toNat ≤ sizeLine ∧
  ((xs = [] ∨ k = 1) → Q (.ref l) H) ∧ (¬ (xs = [] ∨ k = 1) → ∀ p, H p = none → Q (.ref p) (upd H p (.tup (List.replicate k.toNat xs).flatten)))
theorem op_repT' : OpR X (binaryOp .Mult) (rRepT' X.K) := by
  intro pins s σ H x y v u Q I rx ry h
  obtain ⟨l, k, xs, rfl, rfl, hT, h1, h2, hz, q1, q2⟩ := h
  cases rx
  obtain ⟨t, rfl⟩ := ry
  obtain ⟨its, r, ⟨⟨cls, dd, data, sl⟩, ho, hc, n, hd⟩, hs⟩ := I.tuple hT
  simp only at hc hd
  subst hc hd
  have hle : its.length = xs.length := r.length.symm
  have c0 : (decide (k < -(2 ^ 63)) || decide (k ≥ 2 ^ 63)) = false := by
    rw [decide_eq_false (by omega), decide_eq_false (by omega)] <;> rfl
  have hemp : its.toArray.isEmpty = true ↔ xs = [] := by
    rw [Array.isEmpty_iff]
    constructor
    · intro e
      have : its = [] := by simpa using e
      rw [this] at hle
      exact List.eq_nil_of_length_eq_zero hle.symm
    · intro e
      rw [e] at hle
      have : its = [] := List.eq_nil_of_length_eq_zero hle
      simp [this]
  by_cases hk : xs = [] ∨ k = 1
  · have c1 : (its.toArray.isEmpty || k == 1) = true := by
      rcases hk with e | e
      · rw [hemp.mpr e]; rfl
      · rw [e]; simp
    exact wpAny_binaryOp_repeat_ref (T := "tuple") (U := "int") (by decide) ⟨_, ho, rfl⟩ (fun s' => typeIs_int s' k t) noFill_tuple_mul F.fills_int_mul F.slot_int_rmul repeat_tuple F.slot_int_index.lookup
      (call_meets F.slot_int_rmul (typeIs_int s k t) F.entry_int_rmul (F.args_int_rmul_2 _ _) (int_rmul_tuple k t l its.toArray n dd sl)
        ⟨ho, rfl, ⟨_, ho, rfl⟩, call_meets F.slot_tuple_mul ⟨_, ho, rfl⟩ F.entry_tuple_mul (F.args_tuple_mul_2 _ _) (tuple_mulS l its.toArray n dd sl k t c0 c1) ⟨ho, ⟨.ref l, H, I, rfl, q1 hk⟩⟩⟩)
  · have hi : its.toArray.isEmpty = false := by
      cases e : its.toArray.isEmpty with
      | false => rfl
      | true => exact absurd (.inl (hemp.mp e)) hk
    have c1 : (its.toArray.isEmpty || k == 1) = false := by
      rw [hi, Bool.false_or]
      exact beq_eq_false_iff_ne.mpr fun e => hk (.inr e)
    by_cases hk0 : k ≤ 0
    · have c2 : (decide (k ≤ 0) || its.toArray.isEmpty) = true := by rw [decide_eq_true hk0]; rfl
      refine wpAny_binaryOp_repeat_ref (T := "tuple") (U := "int") (by decide) ⟨_, ho, rfl⟩ (fun s' => typeIs_int s' k t) noFill_tuple_mul F.fills_int_mul F.slot_int_rmul repeat_tuple F.slot_int_index.lookup
        (call_meets F.slot_int_rmul (typeIs_int s k t) F.entry_int_rmul (F.args_int_rmul_2 _ _) (int_rmul_tuple k t l its.toArray n dd sl)
          ⟨ho, rfl, ⟨_, ho, rfl⟩, call_meets F.slot_tuple_mul ⟨_, ho, rfl⟩ F.entry_tuple_mul (F.args_tuple_mul_2 _ _) (tuple_mul0 l its.toArray n dd sl k t c0 c1 c2) ⟨ho, ?_⟩⟩)
      have ek : k.toNat = 0 := by omega
      have q3 := q2 hk _ (I.hok.fresh (Nat.le_refl _))
      rw [ek] at q3
      refine ⟨.ref s.heap.objs.size, _, I.laid (t' := s.toks) (o := .tup []) (fun b ob q => Heap.get?_push_of_some _ q) (Nat.le_refl _) ?_, rfl, q3⟩
      exact ⟨Nat.zero_le _, [], .nil, IsTup.new _ _⟩
    · have c2 : (decide (k ≤ 0) || its.toArray.isEmpty) = false := by
        rw [hi, Bool.or_false]
        exact decide_eq_false hk0
      have hm : ((its.toArray.size : Nat) : Int) * k ≤ 16777216 := by
        rw [List.size_toArray, hle]
        rw [sizeLine_eq] at hz
        have e1 : (k.toNat : Int) = k := by omega
        rw [← e1, ← Int.natCast_mul]
        exact Int.ofNat_le.mpr hz
      have flen : (List.replicate k.toNat its).flatten.length ≤ sizeLine := by
        rw [PyProof.Rows.lm_len_rep_flat, hle, Nat.mul_comm]
        exact hz
      have c4 : Builtin.Tuple.tupleTooMany (((its.toArray.size : Nat) : Int) * k) = false := by
        unfold Builtin.Tuple.tupleTooMany
        rw [sizeLine_eq]
        exact decide_eq_false (by omega)
      refine wpAny_binaryOp_repeat_ref (T := "tuple") (U := "int") (by decide) ⟨_, ho, rfl⟩ (fun s' => typeIs_int s' k t) noFill_tuple_mul F.fills_int_mul F.slot_int_rmul repeat_tuple F.slot_int_index.lookup
        (call_meets F.slot_int_rmul (typeIs_int s k t) F.entry_int_rmul (F.args_int_rmul_2 _ _) (int_rmul_tuple k t l its.toArray n dd sl)
          ⟨ho, rfl, ⟨_, ho, rfl⟩, call_meets F.slot_tuple_mul ⟨_, ho, rfl⟩ F.entry_tuple_mul (F.args_tuple_mul_2 _ _) (tuple_mulW l its.toArray n dd sl k t c0 c1 c2 (by omega) c4 (by rw [size_rep, List.size_toArray]; exact flen)) ⟨ho, ?_⟩⟩)
      rw [size_rep]
      refine ⟨.ref s.heap.objs.size, _, I.laid (t' := s.toks) (o := .tup (List.replicate k.toNat xs).flatten) (fun b ob q => Heap.get?_push_of_some _ q) (Nat.le_refl _) ?_, rfl, q2 hk _ (I.hok.fresh (Nat.le_refl _))⟩
      exact ⟨by rw [PyProof.Rows.lm_len_rep_flat, Nat.mul_comm]; exact hz, _, r.rep k.toNat, IsTup.new _ _⟩

/-! ### the binary operators -/
def opOf : BOp → Operator
  | .add => .Add
  | .sub => .Sub
  | .mul => .Mult
  | .fdiv => .FloorDiv
  | .mod => .Mod
  | .pow => .Pow
theorem op_bin (op : BOp) (mt : Bool) : OpR X (binaryOp (opOf op)) (r2D X.K (binop op mt)) := by
  intro pins s σ H x y v u Q I rx ry h
  obtain ⟨S, M, d, e, r, M', w, rd, re, hb, af⟩ := h
  unfold binop at hb
  split at hb
  · rename_i i j h1 h2
    cases hb
    have e1 := rd_int w rd h1
    have e2 := rd_int w re h2
    exact op_add pins s σ H x y v u Q I rx ry ⟨i, j, e1, e2, af.here w (.int _)⟩
  · rename_i i j h1 h2
    split at hb
    · rename_i hz
      cases hb
      have e1 := rd_str w rd h1
      have e2 := rd_str w re h2
      exact op_add_str pins s σ H x y v u Q I rx ry ⟨i, j, e1, e2, sz_le hz, af.here w (.str _)⟩
    · cases hb
  · rename_i xs ys h1 h2
    split at hb
    · rename_i hz
      cases hb
      obtain ⟨a, vs, e1, q1, p1, t1⟩ := rd_tup w rd h1
      obtain ⟨b, us, e2, q2, p2, t2⟩ := rd_tup w re h2
      refine op_catA pins s σ H x y v u Q I rx ry ⟨a, b, vs, us, e1, e2, q1, q2, by rw [← p1.length, ← p2.length]; exact sz_le hz, fun z => ?_, fun _ z => ?_, fun _ _ p np => af.tup w (p1.app p2) np⟩
      · subst z
        have ez : xs = [] := List.eq_nil_of_length_eq_zero (by rw [p1.length]; rfl)
        subst ez
        exact af.here w (e2 ▸ t2)
      · subst z
        have ez : ys = [] := List.eq_nil_of_length_eq_zero (by rw [p2.length]; rfl)
        subst ez
        rw [List.append_nil] at af
        exact af.here w (e1 ▸ t1)
    · cases hb
  · rename_i xs ys h1 h2
    split at hb
    · rename_i hz
      obtain ⟨a, vs, e1, q1, p1⟩ := rd_lst w rd h1
      obtain ⟨b, us, e2, q2, p2⟩ := rd_lst w re h2
      exact op_cat' pins s σ H x y v u Q I rx ry ⟨a, b, vs, us, e1, e2, q1, q2, by rw [← p1.length, ← p2.length]; exact sz_le hz, fun p np => Aft.new w hb (p1.app p2) af np⟩
    · cases hb
  · rename_i i j h1 h2
    cases hb
    exact op_sub pins s σ H x y v u Q I rx ry ⟨i, j, rd_int w rd h1, rd_int w re h2, af.here w (.int _)⟩
  · rename_i i j h1 h2
    split at hb
    · rename_i hz
      cases hb
      exact op_mul pins s σ H x y v u Q I rx ry ⟨i, j, rd_int w rd h1, rd_int w re h2, hz, af.here w (.int _)⟩
    · cases hb
  · rename_i xs k h1 h2
    split at hb
    · rename_i hz
      cases hb
      obtain ⟨a, vs, e1, q1, p1, t1⟩ := rd_tup w rd h1
      refine op_repT' pins s σ H x y v u Q I rx ry ⟨a, k, vs, e1, rd_int w re h2, q1, hz.1, hz.2.1, by rw [← p1.length]; exact sz_le hz.2.2, fun z => ?_, fun _ p np => af.tup w (p1.rep _) np⟩
      have ez : (List.replicate k.toNat xs).flatten = xs := by
        rcases z with z | z
        · subst z
          have : xs = [] := List.eq_nil_of_length_eq_zero (by rw [p1.length]; rfl)
          rw [this]; simp
        · subst z
          show (List.replicate 1 xs).flatten = xs
          simp
      rw [ez] at af
      exact af.here w (e1 ▸ t1)
    · cases hb
  · rename_i xs k h1 h2
    split at hb
    · rename_i hz
      obtain ⟨a, vs, e1, q1, p1⟩ := rd_lst w rd h1
      exact op_rep' pins s σ H x y v u Q I rx ry ⟨a, k, vs, e1, rd_int w re h2, q1, hz.1, hz.2.1, by rw [← p1.length]; exact sz_le hz.2.2, fun p np => Aft.new w hb (p1.rep _) af np⟩
    · cases hb
  · rename_i i j h1 h2
    split at hb
    · rename_i hz
      cases hb
      exact op_fdiv pins s σ H x y v u Q I rx ry ⟨i, j, rd_int w rd h1, rd_int w re h2, hz, af.here w (.int _)⟩
    · cases hb
  · rename_i i j h1 h2
    split at hb
    · rename_i hz
      cases hb
      exact op_mod pins s σ H x y v u Q I rx ry ⟨i, j, rd_int w rd h1, rd_int w re h2, hz, af.here w (.int _)⟩
    · cases hb
  · rename_i i j h1 h2
    split at hb
    · rename_i hz
      cases hb
      exact op_pow pins s σ H x y v u Q I rx ry ⟨i, j, rd_int w rd h1, rd_int w re h2, hz, af.here w (.int _)⟩
    · cases hb
  · cases hb
end
end Mi

set_option Elab.async false
set_option linter.all false
set_option maxRecDepth 100000
set_option maxHeartbeats 1000000
/-! Mi: comparisons, truth, places, built-ins, methods. -/
namespace Mi
open PySem PySem.Spec PyProof.Rows L2
section
variable {X : Cx} {pins : List (Addr × Obj)} {σ : L2.St} {H : Hp} {s : Shared} {S : Sk} {M M' : Mem}
theorem rd_reads (I : L2.Inv X pins σ H s) (w : W X.K S M H) {d : D} {v : V} {u : Value} {x : PyData} (r : RD X.K S H d v) (ru : RelV v u) (e : dat M d = some x) : ∃ as, Reads s.heap u x as ∧ (noLst x = true → sysModules ∉ as) :=
  RP.reads I x v u (dat_ok w r e) ru
theorem units60 {A : Around} {n m : Nat} (hu : A.units + 64 < cLine) (h : n ≤ 60) : A.units + 1 + min m n < cLine := by
  have : min m n ≤ n := Nat.min_le_right _ _
  omega

def copOf : COp → CmpOp
  | .eq => .Eq
  | .ne => .NotEq
  | .lt => .Lt
  | .le => .LtE
  | .gt => .Gt
  | .ge => .GtE
  | .is => .Is
  | .isnot => .IsNot
  | .isin => .In
  | .notin => .NotIn
theorem op_cmp (hu : X.A.units + 64 < cLine) (op : COp) : OpR X (compareOp (copOf op)) (r2D X.K (cmpop op)) := by
  intro pins s σ H x y v u Q I rx ry h
  obtain ⟨S, M, d, e, r, M', w, rd, re, hb, af⟩ := h
  unfold cmpop at hb
  split at hb
  · rename_i xd xe h1 h2
    split at hb
    · rename_i k hk
      cases hb
      obtain ⟨as, r1, n1⟩ := rd_reads I w rd rx h1
      obtain ⟨bs, r2, n2⟩ := rd_reads I w re ry h2
      have go : ∀ b, k = b → EP X pins σ Q (.bool b) s := fun b e => by subst e; exact ⟨.bl k, H, I, rfl, af.here w (.bl k)⟩
      unfold cmpB at hk
      cases op with
      | eq =>
        dsimp only at hk
        split at hk
        · rename_i hp
          simp only [Bool.and_eq_true, decide_eq_true_eq] at hp
          exact SeqAt.eq_plain r1 r2 hp.1.1 hp.1.2 (by have : min xd.depth xe.depth ≤ xd.depth := Nat.min_le_left _ _; omega) (go _ (Option.some.inj hk).symm)
        · cases hk
      | ne =>
        dsimp only at hk
        split at hk
        · rename_i hp
          simp only [Bool.and_eq_true, decide_eq_true_eq] at hp
          exact SeqAt.ne_plain r1 r2 hp.1.1 hp.1.2 (by have : min xd.depth xe.depth ≤ xd.depth := Nat.min_le_left _ _; omega) (go _ (Option.some.inj hk).symm)
        · cases hk
      | lt =>
        dsimp only at hk
        split at hk
        · rename_i i j
          cases hk
          exact op_lt pins s σ H x y v u Q I rx ry ⟨i, j, rd_int w rd h1, rd_int w re h2, af.here w (.bl _)⟩
        · cases hk
      | le =>
        dsimp only at hk
        split at hk
        · rename_i i j
          cases hk
          exact op_le pins s σ H x y v u Q I rx ry ⟨i, j, rd_int w rd h1, rd_int w re h2, af.here w (.bl _)⟩
        · cases hk
      | gt =>
        dsimp only at hk
        split at hk
        · rename_i i j
          cases hk
          exact op_gt pins s σ H x y v u Q I rx ry ⟨i, j, rd_int w rd h1, rd_int w re h2, af.here w (.bl _)⟩
        · cases hk
      | ge =>
        dsimp only at hk
        split at hk
        · rename_i i j
          cases hk
          exact op_ge pins s σ H x y v u Q I rx ry ⟨i, j, rd_int w rd h1, rd_int w re h2, af.here w (.bl _)⟩
        · cases hk
      | is =>
        dsimp only at hk
        split at hk
        · rename_i i j
          cases hk
          exact op_is_bl pins s σ H x y v u Q I rx ry ⟨i, j, rd_bl w rd h1, rd_bl w re h2, by rw [show decide (i = j) = (i == j) by cases i <;> cases j <;> rfl]; exact af.here w (.bl _)⟩
        · cases hk
          refine op_isN pins s σ H x y v u Q I rx ry ⟨rd_non w re h2, ?_⟩
          have q := dat_ok w rd h1
          cases q <;> exact af.here w (.bl _)
        · cases hk
      | isnot =>
        dsimp only at hk
        split at hk
        · rename_i i j
          cases hk
          exact op_isnot_bl pins s σ H x y v u Q I rx ry ⟨i, j, rd_bl w rd h1, rd_bl w re h2, by rw [show decide (i = j) = (i == j) by cases i <;> cases j <;> rfl]; exact af.here w (.bl _)⟩
        · cases hk
          refine op_notN pins s σ H x y v u Q I rx ry ⟨rd_non w re h2, ?_⟩
          have q := dat_ok w rd h1
          cases q <;> exact af.here w (.bl _)
        · cases hk
      | isin =>
        dsimp only at hk
        split at hk
        · split at hk
          · rename_i hp
            simp only [Bool.and_eq_true, decide_eq_true_eq] at hp
            exact SeqAt.in_list_data r2 r1 hp.1.1 hp.1.2 (units60 hu hp.2) (go _ (Option.some.inj hk).symm)
          · cases hk
        · split at hk
          · rename_i hp
            simp only [Bool.and_eq_true, decide_eq_true_eq] at hp
            exact SeqAt.in_tuple_data r2 r1 hp.1.1 hp.1.2 (units60 hu hp.2) (go _ (Option.some.inj hk).symm)
          · cases hk
        · cases hk
      | notin =>
        dsimp only at hk
        split at hk
        · split at hk
          · rename_i hp
            simp only [Bool.and_eq_true, decide_eq_true_eq] at hp
            exact SeqAt.notIn_list_data r2 r1 hp.1.1 hp.1.2 (units60 hu hp.2) (go _ (Option.some.inj hk).symm)
          · cases hk
        · split at hk
          · rename_i hp
            simp only [Bool.and_eq_true, decide_eq_true_eq] at hp
            exact SeqAt.notIn_tuple_data r2 r1 hp.1.1 hp.1.2 (units60 hu hp.2) (go _ (Option.some.inj hk).symm)
          · cases hk
        · cases hk
    · cases hb
  · cases hb

/-! ### truth -/
theorem tru_of (w : W X.K S M H) {d : D} {v : V} {k : Bool} (r : RD X.K S H d v) (e : truth M d = some k) : TruV X.K v H k := by
  unfold truth at e
  split at e
  · rename_i h; cases e; rw [rd_non w r h]; rfl
  · rename_i b h; cases e; rw [rd_bl w r h]; rfl
  · rename_i i h; cases e; rw [rd_int w r h]; rfl
  · rename_i x h
    split at e
    · rename_i hz; cases e; rw [rd_str w r h]; exact ⟨sz_le hz, rfl⟩
    · cases e
  · rename_i xs h
    cases e
    obtain ⟨a, vs, rfl, q1, q2⟩ := rd_lst w r h
    refine .inl ⟨vs, .inl q1, ?_⟩
    cases q2 <;> rfl
  · rename_i xs h
    cases e
    obtain ⟨a, vs, rfl, q1, q2, _⟩ := rd_tup w r h
    refine .inr (.inl ⟨vs, q1, ?_⟩)
    cases q2 <;> rfl
  · cases e

/-! ### places -/
theorem atI_len {α β : Type} {xs : List α} {ys : List β} {k : Int} {x : α} (h : atI xs k = some x) (hl : xs.length = ys.length) : ∃ j : Nat, xs[j]? = some x ∧ ∀ y, ys[j]? = some y → atI ys k = some y := by
  unfold atI at h ⊢
  rw [← hl]
  cases e : ixN xs.length k with
  | none => rw [e] at h; cases h
  | some j => rw [e] at h; exact ⟨j, h, fun y hy => hy⟩
theorem ix_any : IxR X (r2D X.K idxop) := by
  intro ev es pins s σ H x y v u Q I rx ry h hsub
  obtain ⟨S, M, d, e, r, M', w, rd, re, hb, af⟩ := h
  unfold idxop at hb
  split at hb
  · rename_i ns k
    split at hb
    · rename_i z hz
      cases hb
      have e2 : y = .int k := by cases (show RP X.K S H (.int k) y from re); rfl
      obtain ⟨a, e1, hs⟩ := rd
      have hs' : SqL X.K H a (ns.map V.int) := by
        rcases hs with ⟨hs, _⟩ | hs
        · exact .inl hs
        · exact .inr hs
      obtain ⟨j, g1, g2⟩ := atI_len (ys := ns.map V.int) hz (by simp)
      refine ix_list ev es pins s σ H x y v u Q I rx ry ?_ hsub
      exact ⟨a, _, k, .int z, e1, e2, hs', g2 _ (by rw [List.getElem?_map, g1]; rfl), af.here w (.int _)⟩
    · cases hb
  split at hb
  · rename_i xs k h1 _
    split at hb
    · rename_i z hz
      cases hb
      obtain ⟨a, vs, e1, q1, p1⟩ := rd_lst w rd h1
      have e2 : y = .int k := by cases (show RP X.K S H (.int k) y from re); rfl
      obtain ⟨j, g1, g2⟩ := atI_len hz p1.length
      obtain ⟨uv, g3, g4⟩ := p1.get g1
      refine ix_list ev es pins s σ H x y v u Q I rx ry ?_ hsub
      exact ⟨a, vs, k, uv, e1, e2, .inl q1, g2 uv g3, af.here w g4⟩
    · cases hb
  · rename_i xs k h1 _
    split at hb
    · rename_i z hz
      cases hb
      obtain ⟨a, vs, e1, q1, p1, _⟩ := rd_tup w rd h1
      have e2 : y = .int k := by cases (show RP X.K S H (.int k) y from re); rfl
      obtain ⟨j, g1, g2⟩ := atI_len hz p1.length
      obtain ⟨uv, g3, g4⟩ := p1.get g1
      refine ix_tup ev es pins s σ H x y v u Q I rx ry ?_ hsub
      exact ⟨a, vs, k, uv, e1, e2, q1, g2 uv g3, af.here w g4⟩
    · cases hb
  · rename_i z k h1 _
    split at hb
    · rename_i hlen
      split at hb
      · rename_i c hc
        cases hb
        have e2 : y = .int k := by cases (show RP X.K S H (.int k) y from re); rfl
        refine ix_str ev es pins s σ H x y v u Q I rx ry ?_ hsub
        exact ⟨z, k, c, rd_str w rd h1, e2, sz_le hlen, hc, af.here w (.str _)⟩
      · cases hb
    · cases hb
  · cases hb
theorem sl_any (mt : Bool) : SlR X (fun x lo hi H Q => ∃ S M d r M', W X.K S M H ∧ RD X.K S H d x ∧ slcop mt d lo hi M = .ok r M' ∧ Aft X.K S H r M' Q) := by
  intro pins s σ H x v vl vu lo hi sl Q I rx hs pl pu h
  obtain ⟨S, M, d, r, M', w, rd, hb, af⟩ := h
  unfold slcop at hb
  split at hb
  · rename_i xs h1
    obtain ⟨a, vs, e1, q1, p1⟩ := rd_lst w rd h1
    exact sl_list pins s σ H x v vl vu lo hi sl Q I rx hs pl pu ⟨a, vs, e1, .inl q1, fun p np => Aft.new w hb (p1.cut lo hi) af np⟩
  · rename_i xs h1
    cases hb
    obtain ⟨a, vs, e1, q1, p1, t1⟩ := rd_tup w rd h1
    refine sl_tupA pins s σ H x v vl vu lo hi sl Q I rx hs pl pu ⟨a, vs, e1, q1, fun z => ?_, fun _ p np => af.tup w (p1.cut lo hi) np⟩
    have ez : cut xs lo hi = xs := by
      unfold cut
      rw [p1.length, z.1, z.2, List.drop_zero, Nat.sub_zero, ← p1.length, List.take_length]
    rw [ez] at af
    exact af.here w (e1 ▸ t1)
  · cases hb

/-! ### built-ins -/
def rCD (K : Kf) (f : List D → Mem → Res D) : List V → Hp → VK → Prop := fun xs H Q => ∃ S M ds r M', W K S M H ∧ RDs K S H ds xs ∧ f ds M = .ok r M' ∧ Aft K S H r M' Q
theorem rds1 {K : Kf} {d : D} {xs : List V} (r : RDs K S H [d] xs) : ∃ x, xs = [x] ∧ RD K S H d x := by
  cases r with
  | cons a b => cases b; exact ⟨_, rfl, a⟩
theorem rds2 {K : Kf} {d e : D} {xs : List V} (r : RDs K S H [d, e] xs) : ∃ x y, xs = [x, y] ∧ RD K S H d x ∧ RD K S H e y := by
  cases r with
  | cons a b =>
    cases b with
    | cons c b => cases b; exact ⟨_, _, rfl, a, c⟩
theorem rp_int {K : Kf} {i : Int} {v : V} (r : RD K S H (.p (.int i)) v) : v = .int i := by
  cases (show RP K S H (.int i) v from r); rfl
theorem b_one {f : Value} {g : PyData → Mem → Res D} (h : ∀ (pins : List (Addr × Obj)) (s : Shared) (σ : L2.St) (H : Hp) (S : Sk) (M : Mem) (d : D) (x : V) (u : Value) (y : PyData) (r : D) (M' : Mem) (Q : VK), L2.Inv X pins σ H s → RelV x u → W X.K S M H → RD X.K S H d x → dat M d = some y → g y M = .ok r M' → Aft X.K S H r M' Q → wpAny (model X.prog X.w) X.A (call f [u]) (EP X pins σ Q) X.xe s) :
    CallR X f (rCD X.K (one g)) := by
  intro pins s σ H xs us Q I rv hh
  obtain ⟨S, M, ds, r, M', w, rd, hb, af⟩ := hh
  unfold one at hb
  split at hb
  · rename_i d
    split at hb
    · rename_i y hy
      obtain ⟨x, rfl, rx⟩ := rds1 rd
      obtain ⟨u, rfl, ru⟩ := vals1 rv
      exact h pins s σ H S M d x u y r M' Q I ru w rx hy hb af
    · cases hb
  · cases hb
theorem vls1 {x : V} {u : Value} (r : RelV x u) : Vals [x] [u] := .cons r .nil
theorem b_len1 : CallR X (.builtin "len") (rCD X.K (one bLen)) := by
  refine b_one fun pins s σ H S M d x u y r M' Q I ru w rx hy hb af => ?_
  unfold bLen at hb
  split at hb
  · rename_i ys
    cases hb
    obtain ⟨a, vs, e1, q1, p1⟩ := rd_lst w rx hy
    exact call_len pins s σ H _ _ Q I (vls1 ru) ⟨x, vs.length, rfl, by rw [e1]; exact .inl ⟨vs, .inl q1, rfl⟩, af.here w (by rw [p1.length]; exact .int _)⟩
  · rename_i ys
    cases hb
    obtain ⟨a, vs, e1, q1, p1, _⟩ := rd_tup w rx hy
    exact call_len pins s σ H _ _ Q I (vls1 ru) ⟨x, vs.length, rfl, by rw [e1]; exact .inr ⟨vs, q1, rfl⟩, af.here w (by rw [p1.length]; exact .int _)⟩
  · rename_i z
    split at hb
    · rename_i hz
      cases hb
      exact call_len pins s σ H _ _ Q I (vls1 ru) ⟨x, z.length, rfl, by rw [rd_str w rx hy]; exact ⟨sz_le hz, rfl⟩, af.here w (.int _)⟩
    · cases hb
  · cases hb
theorem b_len : CallR X (.builtin "len") (rCD X.K (bltop .len)) := by
  intro pins s σ H xs us Q I rv h
  obtain ⟨S, M, ds, r, M', w, rd, hb, af⟩ := h
  unfold bltop at hb
  dsimp only at hb
  split at hb
  · rename_i ns
    cases hb
    obtain ⟨x, rfl, a, e1, hs⟩ := rds1 rd
    have hs' : SqL X.K H a (ns.map V.int) := by
      rcases hs with ⟨hs, _⟩ | hs
      · exact .inl hs
      · exact .inr hs
    refine call_len pins s σ H _ us Q I rv ⟨x, ns.length, rfl, ?_, af.here w (.int _)⟩
    rw [e1]
    exact .inl ⟨_, hs', by simp⟩
  · exact b_len1 pins s σ H xs us Q I rv ⟨S, M, _, r, M', w, rd, hb, af⟩
theorem b_two {f : Value} {g : PyData → PyData → Mem → Res D} (h : ∀ (pins : List (Addr × Obj)) (s : Shared) (σ : L2.St) (H : Hp) (S : Sk) (M : Mem) (d e : D) (x y : V) (u t : Value) (a b : PyData) (r : D) (M' : Mem) (Q : VK), L2.Inv X pins σ H s → RelV x u → RelV y t → W X.K S M H → RD X.K S H d x → RD X.K S H e y → dat M d = some a → dat M e = some b → g a b M = .ok r M' → Aft X.K S H r M' Q → wpAny (model X.prog X.w) X.A (call f [u, t]) (EP X pins σ Q) X.xe s) :
    CallR X f (rCD X.K (two g)) := by
  intro pins s σ H xs us Q I rv hh
  obtain ⟨S, M, ds, r, M', w, rd, hb, af⟩ := hh
  unfold two at hb
  split at hb
  · rename_i d e
    split at hb
    · rename_i a b ha hb'
      obtain ⟨x, y, rfl, rx, ry⟩ := rds2 rd
      obtain ⟨u, t, rfl, ru, rt⟩ := vals2 rv
      exact h pins s σ H S M d e x y u t a b r M' Q I ru rt w rx ry ha hb' hb af
    · cases hb
  · cases hb
theorem b_min (hc : X.calm = true) : CallR X (.builtin "min") (rCD X.K (two bMin)) := by
  refine b_two fun pins s σ H S M d e x y u t a b r M' Q I ru rt w rx ry ha hb' hb af => ?_
  unfold bMin at hb
  split at hb
  · rename_i i j
    cases hb
    exact call_min2 hc pins s σ H [x, y] _ Q I (.cons ru (.cons rt .nil)) ⟨i, j, by rw [rd_int w rx ha, rd_int w ry hb'], af.here w (.int _)⟩
  · cases hb
theorem b_max (hc : X.calm = true) : CallR X (.builtin "max") (rCD X.K (two bMax)) := by
  refine b_two fun pins s σ H S M d e x y u t a b r M' Q I ru rt w rx ry ha hb' hb af => ?_
  unfold bMax at hb
  split at hb
  · rename_i i j
    cases hb
    exact call_max2 hc pins s σ H [x, y] _ Q I (.cons ru (.cons rt .nil)) ⟨i, j, by rw [rd_int w rx ha, rd_int w ry hb'], af.here w (.int _)⟩
  · cases hb
theorem b_abs : CallR X (.builtin "abs") (rCD X.K (one bAbs)) := by
  refine b_one fun pins s σ H S M d x u y r M' Q I ru w rx hy hb af => ?_
  unfold bAbs at hb
  split at hb
  · rename_i i
    cases hb
    exact call_abs pins s σ H _ _ Q I (vls1 ru) ⟨i, by rw [rd_int w rx hy], af.here w (.int _)⟩
  · cases hb
theorem ints_of {K : Kf} : ∀ {xs : List PyData} {vs : List V} {ns : List Int}, RPs K S H xs vs → asInts xs = some ns → vs = ns.map V.int
  | [], _, _, .nil, e => by cases e; rfl
  | x :: xs, _, ns, .cons a b, e => by
    cases x <;> try (simp [asInts] at e; done)
    rename_i i
    unfold asInts at e
    cases q : asInts xs with
    | none => rw [q] at e; cases e
    | some ms =>
      rw [q] at e
      cases e
      cases a
      rw [ints_of b q]; rfl
theorem bools_of {K : Kf} : ∀ {xs : List PyData} {vs : List V} {ns : List Bool}, RPs K S H xs vs → asBools xs = some ns → vs = ns.map V.bl
  | [], _, _, .nil, e => by cases e; rfl
  | x :: xs, _, ns, .cons a b, e => by
    cases x <;> try (simp [asBools] at e; done)
    rename_i i
    unfold asBools at e
    cases q : asBools xs with
    | none => rw [q] at e; cases e
    | some ms =>
      rw [q] at e
      cases e
      cases a
      rw [bools_of b q]; rfl
theorem b_sum (hc : X.calm = true) : CallR X (.builtin "sum") (rCD X.K (one bSum)) := by
  refine b_one fun pins s σ H S M d x u y r M' Q I ru w rx hy hb af => ?_
  unfold bSum at hb
  split at hb
  · rename_i ys
    split at hb
    · rename_i ns hn
      cases hb
      obtain ⟨a, vs, e1, q1, p1⟩ := rd_lst w rx hy
      exact cr_sum hc pins s σ H [x] _ Q I (vls1 ru) ⟨a, ns, by rw [e1], by rw [← ints_of p1 hn]; exact .inl q1, af.here w (.int _)⟩
    · cases hb
  · cases hb
theorem b_all (hc : X.calm = true) : CallR X (.builtin "all") (rCD X.K (one bAll)) := by
  refine b_one fun pins s σ H S M d x u y r M' Q I ru w rx hy hb af => ?_
  unfold bAll at hb
  split at hb
  · rename_i ys
    split at hb
    · rename_i ns hn
      cases hb
      obtain ⟨a, vs, e1, q1, p1⟩ := rd_lst w rx hy
      exact cr_all hc pins s σ H [x] _ Q I (vls1 ru) ⟨a, ns, by rw [e1], by rw [← bools_of p1 hn]; exact .inl q1, af.here w (.bl _)⟩
    · cases hb
  · cases hb
theorem b_any (hc : X.calm = true) : CallR X (.builtin "any") (rCD X.K (one bAny)) := by
  refine b_one fun pins s σ H S M d x u y r M' Q I ru w rx hy hb af => ?_
  unfold bAny at hb
  split at hb
  · rename_i ys
    split at hb
    · rename_i ns hn
      cases hb
      obtain ⟨a, vs, e1, q1, p1⟩ := rd_lst w rx hy
      exact cr_any hc pins s σ H [x] _ Q I (vls1 ru) ⟨a, ns, by rw [e1], by rw [← bools_of p1 hn]; exact .inl q1, af.here w (.bl _)⟩
    · cases hb
  · cases hb
theorem b_tuple : CallR X (.type "tuple") (rCD X.K (one bTuple)) := by
  refine b_one fun pins s σ H S M d x u y r M' Q I ru w rx hy hb af => ?_
  unfold bTuple at hb
  split at hb
  · rename_i ys
    cases hb
    obtain ⟨a, vs, e1, q1, p1⟩ := rd_lst w rx hy
    exact call_tuple_of pins s σ H [x] _ Q I (vls1 ru) ⟨a, vs, by rw [e1], .inl ⟨.inl q1, fun l nl => af.tup w p1 nl⟩⟩
  · rename_i ys
    cases hb
    obtain ⟨a, vs, e1, q1, p1, t1⟩ := rd_tup w rx hy
    exact call_tuple_of pins s σ H [x] _ Q I (vls1 ru) ⟨a, vs, by rw [e1], .inr ⟨q1, af.here w (e1 ▸ t1)⟩⟩
  · cases hb
theorem b_list (mt : Bool) : CallR X (.type "list") (rCD X.K (one (bList mt))) := by
  refine b_one fun pins s σ H S M d x u y r M' Q I ru w rx hy hb af => ?_
  unfold bList at hb
  split at hb
  · rename_i ys
    obtain ⟨a, vs, e1, q1, p1⟩ := rd_lst w rx hy
    exact call_list_of pins s σ H [x] _ Q I (vls1 ru) ⟨a, vs, by rw [e1], .inl (.inl q1), fun l nl => Aft.new w hb p1 af nl⟩
  · rename_i ys
    obtain ⟨a, vs, e1, q1, p1, t1⟩ := rd_tup w rx hy
    exact call_list_of pins s σ H [x] _ Q I (vls1 ru) ⟨a, vs, by rw [e1], .inr q1, fun l nl => Aft.new w hb p1 af nl⟩
  · cases hb
theorem b_str : CallR X (.type "str") (rCD X.K (one bStr)) := by
  refine b_one fun pins s σ H S M d x u y r M' Q I ru w rx hy hb af => ?_
  unfold bStr at hb
  split at hb
  · rename_i i
    split at hb
    · rename_i hz
      cases hb
      exact call_str_int pins s σ H _ _ Q I (vls1 ru) ⟨i, by rw [rd_int w rx hy], hz, af.here w (.str _)⟩
    · cases hb
  · cases hb
theorem b_repr (hg : X.A.guards = some []) (hu : X.A.units + 64 < cLine) : CallR X (.builtin "repr") (rCD X.K (one bRepr)) := by
  refine b_one fun pins s σ H S M d x u y r M' Q I ru w rx hy hb af => ?_
  unfold bRepr at hb
  split at hb
  · rename_i hp
    cases hb
    simp only [Bool.and_eq_true, decide_eq_true_eq] at hp
    obtain ⟨⟨⟨h1, h2⟩, h3⟩, h4⟩ := hp
    obtain ⟨as, rr, ns⟩ := rd_reads I w rx ru hy
    have sm : y.hasDict = true → sysModules ∉ as := fun e => ns (by simpa [e] using h4)
    have go : ∀ z t h' tk, z = y.shown → (∀ b o, s.heap.get? b = some o → h'.get? b = some o) → EP X pins σ Q (.str z t) { s with heap := h', toks := tk } := fun z t h' tk e k => by
      subst e
      exact ⟨.str _, H, I.kept k, ⟨t, rfl⟩, af.here w (.str _)⟩
    cases rr with
    | none => exact PySem.P.repr_of_none (go _ _ s.heap _ (by simp [PyData.shown]) fun _ _ e => e)
    | bool b => exact PySem.P.repr_of_bool (go _ _ s.heap _ (by cases b <;> simp [PyData.shown]) fun _ _ e => e)
    | int i t => exact PySem.P.repr_of_int (by simpa [PyData.showable] using h1) (go _ _ s.heap _ (by simp [PyData.shown]) fun _ _ e => e)
    | str z t => exact PySem.P.repr_of_str (go _ _ s.heap _ (by simp [PyData.shown]) fun _ _ e => e) (by rw [PyData.shown] at h3; exact sz_le h3)
    | list a1 a2 a3 a4 => exact repr_of_reads' (Reads.list a1 a2 a3 a4) h1 sm hg (by omega) (fun _ _ e => e) (fun h' u tk k => go _ _ h' tk rfl k) (sz_le h3)
    | tuple a1 a2 a3 a4 => exact repr_of_reads' (Reads.tuple a1 a2 a3 a4) h1 sm hg (by omega) (fun _ _ e => e) (fun h' u tk k => go _ _ h' tk rfl k) (sz_le h3)
    | dict a1 a2 a3 a4 a5 => exact repr_of_reads' (Reads.dict a1 a2 a3 a4 a5) h1 sm hg (by omega) (fun _ _ e => e) (fun h' u tk k => go _ _ h' tk rfl k) (sz_le h3)
  · cases hb
def tyName : Ty → String
  | .int => "int"
  | .bool => "bool"
  | .str => "str"
  | .tuple => "tuple"
  | .list => "list"
  | .dict => "dict"
theorem b_isi (t : Ty) : CallR X (.builtin "isinstance") (fun xs H Q => ∃ x, xs = [x, .ty (tyName t)] ∧ rCD X.K (one (bIsi t)) [x] H Q) := by
  intro pins s σ H xs us Q I rv hh
  obtain ⟨x, rfl, S, M, ds, r, M', w, rd, hb, af⟩ := hh
  obtain ⟨u, t', rfl, ru, rt⟩ := vals2 rv
  cases (show t' = Value.type (tyName t) from rt)
  unfold one at hb
  split at hb
  · rename_i d
    split at hb
    · rename_i y hy
      cases hb
      obtain ⟨x', e, rx⟩ := rds1 rd
      cases e
      obtain ⟨as, rr, ns⟩ := rd_reads I w rx ru hy
      have go : ∀ b tk, b = isTy t y → EP X pins σ Q (.bool b) { s with toks := tk } := fun b tk e => by
        subst e
        exact ⟨.bl _, H, I.tok _, rfl, af.here w (.bl _)⟩
      cases t with
      | int => exact PySem.W.isinstance_int_data rr fun tk _ => go _ tk (by cases y <;> rfl)
      | bool => exact PySem.W.isinstance_bool_data rr fun tk _ => go _ tk (by cases y <;> rfl)
      | str => exact PySem.W.isinstance_str_data rr fun tk _ => go _ tk (by cases y <;> rfl)
      | tuple => exact PySem.W.isinstance_tuple_data rr fun tk _ => go _ tk (by cases y <;> rfl)
      | list => exact PySem.W.isinstance_list_data rr fun tk _ => go _ tk (by cases y <;> rfl)
      | dict => exact PySem.W.isinstance_dict_data rr fun tk _ => go _ tk (by cases y <;> rfl)
    · cases hb
  · cases hb

/-! ### methods -/
theorem m_append : MtM X "list.append" (fun x vs H Q => ∃ S M o ds r M', W X.K S M H ∧ RD X.K S H o x ∧ RDs X.K S H ds vs ∧ mAppend o ds M = .ok r M' ∧ Aft X.K S H r M' Q) := by
  intro pins s σ H x vs v us Q I rx rv h
  obtain ⟨S, M, o, ds, r, M', w, ro, rd, hb, af⟩ := h
  unfold mAppend at hb
  split at hb
  · rename_i i d
    split at hb
    · rename_i y M1 hf
      split at hb
      · rename_i xs hm
        split at hb
        · rename_i hz
          cases hb
          obtain ⟨z, rfl, rz⟩ := rds1 rd
          obtain ⟨S1, w1, t1, r1⟩ := frzP_ok w rz hf
          obtain ⟨a, ha⟩ := w1.lv i xs hm
          obtain ⟨us', q1, q2⟩ := w1.ob i a xs ha hm
          have ro1 : RD X.K S1 H (.ref i) x := ro.mono t1
          obtain ⟨w2, t2⟩ := w1.write ha hm (q2.app (.cons r1 .nil))
          exact mt_append pins s σ H x _ v us Q I rx rv ⟨a, us', z, ro1.2 a ha, rfl, q1, by rw [← q2.length]; exact sz_lt hz, af S1 _ _ (t1.trans t2) w2 .non⟩
        · cases hb
      · cases hb
    · cases hb
  · cases hb
theorem seq_reads (I : L2.Inv X pins σ H s) {a : Addr} {vs : List V} {xs : List PyData} (h : Rd H a (.lst vs)) (r : RPs X.K S H xs vs) : ∃ its as, s.heap.IsList a its ∧ ReadsAll s.heap its.toList xs as ∧ its.size = xs.length := by
  obtain ⟨_, its, n, rv, hl, ho⟩ := rd_obj I h
  obtain ⟨as, hr, _⟩ := RPs.reads I xs vs its r rv
  exact ⟨its.toArray, as, ⟨_, ho, rfl, _, rfl⟩, hr, by rw [List.size_toArray, ← hl, r.length]⟩
theorem tup_reads (I : L2.Inv X pins σ H s) {a : Addr} {vs : List V} {xs : List PyData} (h : SqT X.K H a vs) (r : RPs X.K S H xs vs) : ∃ its as, s.heap.IsTuple a its ∧ ReadsAll s.heap its.toList xs as ∧ its.size = xs.length := by
  obtain ⟨its, rv, pl, _⟩ := I.tuple h
  obtain ⟨as, hr, _⟩ := RPs.reads I xs vs its r rv
  exact ⟨its.toArray, as, pl, hr, by rw [List.size_toArray, ← rv.length, r.length]⟩
theorem inOk_of {xs : List PyData} {x : PyData} (h : inOk xs x = true) : PyData.plainAll xs = true ∧ x.plain = true ∧ x.depth ≤ 60 := by
  unfold inOk at h
  simp only [Bool.and_eq_true, decide_eq_true_eq] at h
  exact ⟨h.1.1, h.1.2, h.2⟩
theorem items_at {A : Around} {its : Array Value} {xs : List PyData} {as bs : List Addr} {x : Value} {d : PyData} (rs : ReadsAll s.heap its.toList xs as) (rx : Reads s.heap x d bs) (h : inOk xs d = true) (hu : A.units + 64 < cLine) :
    ∀ y ∈ its, SeqAt.EqAt A.in1 s y x (PyData.eqv (SeqAt.readOf s.heap y) d) := by
  obtain ⟨h1, h2, h3⟩ := inOk_of h
  exact SeqAt.items_plain rs rx h1 h2 (units60 hu h3)
theorem m_two {id : String} {g : PyData → PyData → Mem → Res D} (h : CallR X (.builtin id) (rCD X.K (two g))) : MtM X id (fun x vs H Q => ∃ S M o ds r M', W X.K S M H ∧ RD X.K S H o x ∧ RDs X.K S H ds vs ∧ two g (o :: ds) M = .ok r M' ∧ Aft X.K S H r M' Q) := by
  intro pins s σ H x vs v us Q I rx rv hh
  obtain ⟨S, M, o, ds, r, M', w, ro, rd, hb, af⟩ := hh
  exact h pins s σ H (x :: vs) (v :: us) Q I (.cons rx rv) ⟨S, M, o :: ds, r, M', w, .cons ro rd, hb, af⟩
theorem b_count (hu : X.A.units + 64 < cLine) : CallR X (.builtin "list.count") (rCD X.K (two bCount)) := by
  refine b_two fun pins s σ H S M d e x y u t a b r M' Q I ru rt w rx ry ha hb' hb af => ?_
  unfold bCount at hb
  split at hb
  · rename_i xs
    split at hb
    · rename_i hk
      cases hb
      obtain ⟨p, vs, e1, q1, p1⟩ := rd_lst w rx ha
      subst e1
      cases ru
      obtain ⟨h1, h2, h3⟩ := inOk_of hk
      obtain ⟨its, as, l1, l2, _⟩ := seq_reads I q1 p1
      obtain ⟨bs, r2, _⟩ := rd_reads I w ry rt hb'
      exact SeqAt.count_list_data l1 l2 r2 h1 h2 (units60 hu h3) ⟨.int _, H, I.tok _, ⟨_, rfl⟩, af.here w (.int _)⟩
    · cases hb
  · cases hb
end
end Mi

set_option Elab.async false
set_option linter.all false
namespace L2
open PySem PySem.Spec PyProof.Rows
section
variable {X : Cx}
theorem adj_back (n : Nat) : Builtin.Slice.sliceAdjust none none (-1) (n : Int) = ((n : Int) - 1, -1) := by
  unfold Builtin.Slice.sliceAdjust
  simp
theorem plc_back (n : Nat) : Builtin.Slice.slicePlaces ((n : Int) - 1) (-1) (-1) = n := by
  unfold Builtin.Slice.slicePlaces
  simp only [show ¬ ((-1 : Int) > 0) by decide, if_false, show (- -1 : Int) = 1 by decide, Int.ediv_one]
  split <;> omega
theorem pick_back (xs : Array Value) : ((List.range xs.size).filterMap fun (m : Nat) => xs[((xs.size : Int) - 1 + (m : Int) * -1).toNat]?).toArray = xs.toList.reverse.toArray := by
  have h1 : ((List.range xs.size).filterMap fun (m : Nat) => xs[((xs.size : Int) - 1 + (m : Int) * -1).toNat]?) = ((List.range xs.size).map fun k => xs.size - 1 - k).filterMap (xs[·]?) := by
    rw [List.filterMap_map]
    congr 1
    funext m
    show xs[_]? = xs[xs.size - 1 - m]?
    congr 1
    omega
  rw [h1, PySem.W.krv_range, List.filterMap_reverse, PySem.W.krv_all]
theorem applied_back {prog : Program} {w : World} {A : Around} {E : Value → Shared → Prop} {s : Shared} {sl : Addr} {vs : Value} {n : Nat} {Q : Int × Int × Nat → Shared → Prop} (hs : s.heap.IsSliceOf sl .none .none vs) (ps : IsPart vs (some (-1)))
    (h : Q ((n : Int) - 1, -1, n) s) : wpAny (model prog w) A (Builtin.Slice.sliceApplied (.ref sl) (pure (n : Int))) Q E s := by
  obtain ⟨os, ho1, ho2, ho3⟩ := id hs
  unfold Builtin.Slice.sliceApplied Builtin.Slice.sliceFields
  refine wpAny_bind (wpAny_bind (wpAny_field ho1 ho3 (x := .none) rfl (wpAny_bind (wpAny_field ho1 ho3 (x := .none) rfl (wpAny_bind (wpAny_field ho1 ho3 (x := vs) rfl (wpAny_pure ?_)))))))
  refine wpAny_bind (HT.slicePart_ ps ?_)
  show wpAny _ _ (if ((-1 : Int) == 0) = true then _ else _) _ _ s
  rw [if_neg (by decide)]
  refine wpAny_bind (HT.slicePart_ .none (wpAny_bind (HT.slicePart_ .none (wpAny_bind (wpAny_pure ?_)))))
  show wpAny _ _ (match Builtin.Slice.sliceAdjust none none (-1) (n : Int) with | (lo, hi) => pure (lo, (-1 : Int), Builtin.Slice.slicePlaces lo hi (-1))) _ _ s
  rw [adj_back n]
  show wpAny _ _ (pure ((n : Int) - 1, (-1 : Int), Builtin.Slice.slicePlaces ((n : Int) - 1) (-1) (-1))) _ _ s
  rw [plc_back]
  exact wpAny_pure h
theorem getT_back {prog : Program} {w : World} {A : Around} {E : Value → Shared → Prop} {s : Shared} {t sl : Addr} {items : Array Value} {vs : Value} {Q : Value → Shared → Prop} (ht : IsTup s.heap t items) (hs : s.heap.IsSliceOf sl .none .none vs) (ps : IsPart vs (some (-1)))
    (h : Q (.ref s.heap.objs.size) { s with heap := s.heap.push { cls := .type "tuple", data := .seq items.toList.reverse.toArray } })
    (hsz : items.size ≤ sizeLine) : wpAny (model prog w) A (getItem (.ref t) (.ref sl)) Q E s := by
  have hz : sizeOk (.seq items.toList.reverse.toArray) := by
    show items.toList.reverse.toArray.size ≤ sizeLine
    rw [List.size_toArray, List.length_reverse, Array.length_toList]
    exact hsz
  obtain ⟨os, ho1, ho2, ho3⟩ := id hs
  have hTs : s.TypeIs (.ref sl) "slice" := ⟨os, ho1, ho2⟩
  unfold getItem; try with_reducible refine wpAny_holding ?_
  first | refine wpAny_bind (wpAny_pure ?_) | skip
  refine wpAny_bind (wpAny_sequenceKey ht.typeIs (by decide) ?_)
  refine wpAny_bind (wpAny_callSpecial?_slot (name := Str.ofString "__getitem__") ht.typeIs PyProof.Rows.slot_tuple_getitem (wpAny_call_entry PyProof.Rows.slot_tuple_getitem ht.typeIs PyProof.Rows.entry_tuple_getitem ?_ (PyProof.Rows.args_tuple_getitem _ _)))
  show wpAny _ _ (Builtin.Tuple.tupleItemsOf (.ref t) >>= _) _ _ s; refine wpAny_bind (tupleItemsOf_ ht ?_)
  refine wpAny_bind (wpAny_typeOf hTs ?_)
  rw [if_pos (by decide)]
  refine wpAny_bind (applied_back hs ps ?_)
  have hno : ¬ ((((items.size : Int) - 1) == 0 && (-1 : Int) == 1 && items.size == items.size) = true) := by
    rw [show ((-1 : Int) == 1) = false by decide, Bool.and_false, Bool.false_and]
    exact Bool.false_ne_true
  show wpAny _ _ (if (((items.size : Int) - 1) == 0 && (-1 : Int) == 1 && items.size == items.size) = true then _ else _) _ _ s
  rw [if_neg hno, pick_back]
  first
    | exact wpAny_bind (m := Builtin.Tuple.tupleExact _) (wpAny_newObj_type (wpAny_pure ⟨_, rfl, wpAny_pure h⟩) hz)
    | exact wpAny_bind (m := Builtin.Tuple.tupleExact _) (wpAny_newObj_type (wpAny_bind (wpAny_pure (wpAny_pure ⟨_, rfl, wpAny_pure h⟩))) hz)
    | exact wpAny_bind (wpAny_bind (m := Builtin.Tuple.tupleExact _) (wpAny_newObj_type (wpAny_pure (wpAny_pure ⟨_, rfl, wpAny_pure h⟩)) hz))
    | exact wpAny_bind (wpAny_bind (m := Builtin.Tuple.tupleExact _) (wpAny_newObj_type (wpAny_pure ⟨_, rfl, wpAny_pure h⟩) hz))
def rBack (K : PySem.W.Frag) : V → Hp → VK → Prop := fun x H Q => ∃ a xs, x = .ref a ∧ ((SqL K H a xs ∧ ∀ p, H p = none → Q (.ref p) (upd H p (.lst xs.reverse))) ∨ (SqT K H a xs ∧ ∀ p, H p = none → Q (.ref p) (upd H p (.tup xs.reverse))))
theorem pe_back {e : Expr} {te : TE} {r : V → Hp → VK → Prop} (hr : ∀ x H Q, r x H Q → rBack X.K x H Q) {k : Nat} {p1 p2 p3 pos : Pos} (he : PE X e te) : PE X (.Subscript e (.Slice none none (some (.UnaryOp .USub (.Constant (.int 1) k p1) p2)) p3) pos) (fun σ H Q => te σ H fun x H1 => r x H1 Q) := by
  refine ⟨fun pins s σ H Q I h => ?_⟩
  refine Subscript_ (thn (he.run pins s σ H _ I h) fun v s1 ⟨x, H1, I1, r1, q1⟩ => ?_)
  obtain ⟨a, xs, ex, q⟩ := hr _ _ _ q1
  subst ex
  cases r1
  have hst : PO X (some (.UnaryOp .USub (.Constant (.int 1) k p1) p2)) (tPart (tUn (rU fun i => .int (-i)) (tC (.int 1)))) := po_some (pe_un un_neg pe_int)
  refine wpAny_Slice ?_
  rw [evalPart_none]
  refine wpAny_pure (wpAny_pure ?_)
  refine thn (hst.run pins s1 σ H1 (fun o H4 => o = some (-1) ∧ H4 = H1) I1 ⟨1, rfl, -1, rfl, rfl, rfl⟩) fun vs s4 ⟨o, H4, I4, ps, eo, e4⟩ => ?_
  subst eo e4
  have I5 : Inv X pins σ H4 { s4 with heap := s4.heap.push { cls := .type "slice", data := .fields #[.none, .none, vs] } } := I4.kept (t' := s4.toks) fun b ob q => Heap.get?_push_of_some _ q
  show wpAny (model X.prog X.w) X.A (subscriptTail e (.Slice none none (some (.UnaryOp .USub (.Constant (.int 1) k p1) p2)) p3) (.ref a) (.ref s4.heap.objs.size)) (EP X pins σ Q) X.xe { s4 with heap := s4.heap.push { cls := .type "slice", data := .fields #[.none, .none, vs] } }
  rcases q with ⟨hx, q⟩ | ⟨hx, q⟩
  · obtain ⟨its, r, ht, hz⟩ := I5.list hx
    have hlen := r.length
    refine tail_any (ops := [.ref a, .ref s4.heap.objs.size]) ht.isList.typeIs (PySem.slot_list_getitem.lookup) ?_ (by with_unfolding_all rfl)
    refine wpAny_getItem_list_slice ht.isList (Heap.IsSliceOf.new _ .none .none vs) .none .none ps (by decide) ?_ (by rw [List.size_toArray]; omega)
    rw [PySem.W.krv_pick]
    refine ⟨.ref _, _, I5.laid (t' := s4.toks) (o := .lst xs.reverse) (fun b ob q => Heap.get?_push_of_some _ q) (Nat.le_refl _) ?_, rfl, q _ (I5.hok.fresh (Nat.le_refl _))⟩
    exact ⟨by rw [List.length_reverse]; exact hz, _, 0, r.reverse, Heap.get?_push_size _ rfl⟩
  · obtain ⟨its, r, ht, hz⟩ := I5.tuple hx
    have hlen := r.length
    refine tail_any (ops := [.ref a, .ref s4.heap.objs.size]) ht.typeIs (PyProof.Rows.slot_tuple_getitem.lookup) ?_ (by with_unfolding_all rfl)
    refine getT_back ht (Heap.IsSliceOf.new _ .none .none vs) ps ?_ (by rw [List.size_toArray]; omega)
    refine ⟨.ref _, _, I5.laid (t' := s4.toks) (o := .tup xs.reverse) (fun b ob q => Heap.get?_push_of_some _ q) (Nat.le_refl _) ?_, rfl, q _ (I5.hok.fresh (Nat.le_refl _))⟩
    exact ⟨by rw [List.length_reverse]; exact hz, _, r.reverse, IsTup.new _ _⟩
end
end L2

namespace Mi
open PySem PySem.Spec PyProof.Rows L2
theorem ins_perm (x : Int) : ∀ ys : List Int, (ins x ys).Perm (x :: ys)
  | [] => .refl _
  | y :: ys => by
    unfold ins
    split
    · exact .refl _
    · exact ((ins_perm x ys).cons y).trans (.swap x y ys)
theorem sortI_perm : ∀ xs : List Int, (sortI xs).Perm xs
  | [] => .refl _
  | x :: xs => (ins_perm x _).trans ((sortI_perm xs).cons x)
theorem ins_sorted (x : Int) : ∀ {ys : List Int}, ys.Pairwise (· ≤ ·) → (ins x ys).Pairwise (· ≤ ·)
  | [], _ => List.pairwise_singleton _ _
  | y :: ys, h => by
    have h' := List.pairwise_cons.mp h
    unfold ins
    split
    · rename_i hxy
      refine List.pairwise_cons.mpr ⟨fun z hz => ?_, h⟩
      rcases List.mem_cons.mp hz with rfl | hz
      · exact hxy
      · exact Int.le_trans hxy (h'.1 z hz)
    · rename_i hxy
      refine List.pairwise_cons.mpr ⟨fun z hz => ?_, ins_sorted x h'.2⟩
      rcases List.mem_cons.mp ((ins_perm x ys).mem_iff.mp hz) with rfl | hz
      · omega
      · exact h'.1 z hz
theorem sortI_sorted : ∀ xs : List Int, (sortI xs).Pairwise (· ≤ ·)
  | [] => .nil
  | x :: xs => ins_sorted x (sortI_sorted xs)
theorem sorted_uniq : ∀ {l m : List Int}, l.Perm m → l.Pairwise (· ≤ ·) → m.Pairwise (· ≤ ·) → l = m
  | [], m, p, _, _ => (List.nil_perm.mp p).symm
  | x :: l, [], p, _, _ => absurd p.length_eq (by simp)
  | x :: l, y :: m, p, hl, hm => by
    have hl' := List.pairwise_cons.mp hl
    have hm' := List.pairwise_cons.mp hm
    have e : x = y := by
      have h1 : x ≤ y := by
        rcases List.mem_cons.mp (p.mem_iff.mpr List.mem_cons_self) with h | h
        · omega
        · exact hl'.1 _ h
      have h2 : y ≤ x := by
        rcases List.mem_cons.mp (p.mem_iff.mp List.mem_cons_self) with h | h
        · omega
        · exact hm'.1 _ h
      omega
    subst e
    rw [sorted_uniq (List.Perm.cons_inv p) hl'.2 hm'.2]
theorem rps_ints {K : Kf} {S : Sk} {H : Hp} : ∀ ns : List Int, RPs K S H (ns.map PyData.int) (ns.map V.int)
  | [] => .nil
  | n :: ns => .cons (.int n) (rps_ints ns)
theorem RPs.rev {K : Kf} {S : Sk} {H : Hp} : ∀ {x : List PyData} {v : List V}, RPs K S H x v → RPs K S H x.reverse v.reverse
  | _, _, .nil => .nil
  | _, _, .cons a b => by
    rw [List.reverse_cons, List.reverse_cons]
    exact (RPs.rev b).app (.cons a .nil)
section
variable {X : Cx}
theorem b_sorted (mt : Bool) : CallR X (.builtin "sorted") (rCD X.K (one (bSorted mt))) := by
  refine b_one fun pins s σ H S M d x u y r M' Q I ru w rx hy hb af => ?_
  unfold bSorted at hb
  split at hb
  · rename_i ys
    split at hb
    · rename_i ns hn
      obtain ⟨a, vs, e1, q1, p1⟩ := rd_lst w rx hy
      refine cr_sortedI pins s σ H [x] _ Q I (vls1 ru) ⟨a, ns, by rw [e1], by rw [← ints_of p1 hn]; exact .inl q1, fun ns' p k1 k2 np => ?_⟩
      rw [sorted_uniq (k1.trans (sortI_perm ns).symm) k2 (sortI_sorted ns)]
      exact Aft.new w hb (rps_ints _) af np
    · cases hb
  · cases hb
theorem rv_any (mt : Bool) (x : V) (H : Hp) (Q : VK) (h : ∃ S M d r M', W X.K S M H ∧ RD X.K S H d x ∧ revop mt d M = .ok r M' ∧ Aft X.K S H r M' Q) : rBack X.K x H Q := by
  obtain ⟨S, M, d, r, M', w, rd, hb, af⟩ := h
  unfold revop at hb
  split at hb
  · rename_i xs h1
    obtain ⟨a, vs, e1, q1, p1⟩ := rd_lst w rd h1
    exact ⟨a, vs, e1, .inl ⟨.inl q1, fun p np => Aft.new w hb p1.rev af np⟩⟩
  · rename_i xs h1
    cases hb
    obtain ⟨a, vs, e1, q1, p1, t1⟩ := rd_tup w rd h1
    exact ⟨a, vs, e1, .inr ⟨q1, fun p np => af.tup w p1.rev np⟩⟩
  · cases hb
end
end Mi

set_option Elab.async false
set_option linter.all false
set_option maxRecDepth 100000
set_option maxHeartbeats 1000000
/-! Mi: a def's promise where no repr is under way (guards = some []), and the law's end by it. -/
namespace Mi
open PySem PySem.Spec PyProof.Rows L2
abbrev CXm (P : Program) (w : World) : CXT := L2.CX P w
structure FnG (P : Program) (w : World) (K : Kf) (mg : Str → Option Value) (base : Heap) (k : Nat) (f : Addr) (fd : FuncData) (ps : List Str) (sp : Sp) : Prop where
  len : ∀ vs H Q E, sp vs H Q E → vs.length = ps.length
  run : ∀ (A : Around) (outer : List PySem.Env) (s : Shared) (H : Hp) (args : Args) (us : List Value) (vs : List V) (Q : VK) (E : XK), A.guards = some [] → Room k A → Env0 P w K mg base A outer s H → BindsTo s fd args (ps.zip us) → Vals vs us → sp vs H Q E →
    codeAny (model P w) A (.call (.ref f) args) (CR (CXm P w) outer P w H s Q E) s
theorem fnG_of {P : Program} {w : World} {K : Kf} {mg : Str → Option Value} {base : Heap} {k : Nat} {x qual : Str} {st : Stmt} {f : Addr} {fd : FuncData} {N ps : List Str} {sp : Sp} (F : Fun K x qual st f fd) (S : FnScope N ps (defScope st))
    (len : ∀ vs H Q E, sp vs H Q E → vs.length = ps.length)
    (body : ∀ (cdv : Value) (A : Around) (outer : List PySem.Env) (s : Shared) (H : Hp) (vs : List V) (Q : VK) (E : XK), A.guards = some [] → Room k (A.deeper (envOfC qual (defScope st) s.heap.objs.size f cdv)) → sp vs H Q E →
      ∃ t, PSs (cxOf (CXm P w) P w K mg base N qual (defScope st) f cdv A outer s H E) (defBody st) t ∧ t { nx := fun _ H' => Q .non H', rt := Q } (start N vs) H) :
    FnG P w K mg base (k + 1) f fd ps sp := by
  obtain ⟨oc, od, kV, doc, pm, an, cdv, ct, osl, rfl, lk, hcd⟩ := F.ex
  refine ⟨len, fun A outer s H args us vs Q E hgd room e0 bd rel want => ?_⟩
  have hlen := len _ _ _ _ want
  have kin : K.In s.heap := e0.mod.kin.keeps fun b o e => (e0.bs b o e).1
  have nol : s.heap.NoLimit := e0.mod.nolimit.keeps fun b o e => (e0.bs b o e).1
  have kinds : ∀ y ∈ ps.zip us, (defScope st).names.lookup y.1 = some .local ∨ ((defScope st).names.lookup y.1 = some .cell ∧ ((cellsFrom (s.heap.objs.size + 1) (defScope st).names []).lookup y.1).isSome = true) := by
    rintro ⟨n, v⟩ hy
    rcases S.par n (List.of_mem_zip hy).1 with q | q
    · exact .inl q
    · exact .inr ⟨q, PySem.W.cellsFrom_some _ _ _ (.inl q)⟩
  refine codeAny_call_function room.depth (kin _ _ lk) rfl S.co S.gen rfl (PySem.W.codeRec_of kin hcd) (bd _ _ _ _ ?_)
  refine wpAny_newFunctionEnv_cells S.kind kinds fun env henv s1 x => ?_
  subst henv
  refine ⟨nol.keeps x.toInCall.keep, codeAny_func ?_⟩
  obtain ⟨t, ht, hq⟩ := body cdv A outer s H vs Q E hgd (room.deeper _) want
  have I := inv_start (CX := CXm P w) (E := E) S room.hd e0 hlen rel x
  refine wpAny_mono (ht.run [] s1 (start N vs) H _ I hq) (fun fl s' hs => ?_) fun e s' hs => hs
  cases fl with
  | ret u => obtain ⟨v, σ', H', J, rv, q⟩ := hs; exact ⟨v, H', J.os, J.bare, J.base, J.hok, rv, q⟩
  | next => obtain ⟨σ', H', J, q⟩ := hs; exact ⟨V.non, H', J.os, J.bare, J.base, J.hok, rfl, q⟩
  | brk => obtain ⟨_, _, _, q⟩ := hs; exact q.elim
  | cont => obtain ⟨_, _, _, q⟩ := hs; exact q.elim

section
variable {X : Cx} {k : Nat} {f : Addr} {fd : FuncData} {ps : List Str} {sp : Sp} {dvs : List V} {ds : List Value} {Wx : WX} {x : Str} {p pos : Pos} {e : Expr} {es : List Expr} {t : TA}
theorem run_fnG {pins : List (Addr × Obj)} {σ : L2.St} {H : Hp} {s : Shared} {Q : VK} {us : List Value} {vs : List V} (F : FnG X.prog X.w X.K X.mg X.base k f fd ps sp) (hgd : X.A.guards = some []) (hr : Room k X.A) (hb : Binds X.K fd ps ds) (hd : Vals dvs ds) (tk : Takes X Wx)
    (I : L2.Inv X pins σ H s) (r : Vals vs us) (h : sp (vs ++ dvs) H Q (WE Wx σ)) : wpAny (model X.prog X.w) X.A (call (.ref f) us) (EP X pins σ Q) X.xe s := by
  have r2 : Vals (vs ++ dvs) (us ++ ds) := r.append hd
  have hl : (us ++ ds).length = ps.length := by rw [← r2.length]; exact F.len _ _ _ _ h
  refine wpAny_call (codeAny_mono (F.run X.A X.stack s H ⟨us, []⟩ (us ++ ds) (vs ++ dvs) Q (WE Wx σ) hgd hr I.env0 (hb s us I.kIn hl) r2 h) fun r s' hq => ?_)
  cases r with
  | error e => exact passAt tk σ pins H s e s' I hq
  | ok fl =>
    cases fl with
    | ret u => exact I.after hq
    | next => exact False.elim hq
    | brk => exact False.elim hq
    | cont => exact False.elim hq
def tCallG (sp : Sp) (dvs : List V) (Wx : WX) (t : TA) : TE := fun σ H Q => t σ H fun vs H1 => sp (vs ++ dvs) H1 Q (WE Wx σ)
theorem pe_callG (F : FnG X.prog X.w X.K X.mg X.base k f fd ps sp) (hgd : X.A.guards = some []) (hr : Room k X.A) (hg : Gl X x) (hm : X.mg x = some (.ref f)) (hk : PySem.W.keepIn X.K (.ref f) = true) (hb : Binds X.K fd ps ds) (hd : Vals dvs ds) (tk : Takes X Wx)
    (ha : PA X (e :: es) t) (hdb : (x == ("__debug__" : Str)) = false) (he : starEach (e :: es) X.env = (false, eval e X.env) :: starEach es X.env) (hpl : (backTo pos (starEach es X.env)).any (·.1) = false) :
    PE X (.Call (.Name x p) (e :: es) [] pos) (tCallG sp dvs Wx t) := by
  refine ⟨fun pins s σ H Q I h => wpAny_Call_Name_kw (ld_glob I hg hm ?_ hdb)⟩
  exact PySem.W.callWith_K (h₀ := X.base) I.ok.mod.kin hk (thn (ha.run pos pins s σ H _ I h) fun us s1 ⟨vs, H1, I1, r, q⟩ => ⟨I1.kIn, run_fnG F hgd hr hb hd tk I1 r q⟩) he hpl
theorem pe_callG0 (F : FnG X.prog X.w X.K X.mg X.base k f fd ps sp) (hgd : X.A.guards = some []) (hr : Room k X.A) (hg : Gl X x) (hm : X.mg x = some (.ref f)) (hk : PySem.W.keepIn X.K (.ref f) = true) (hb : Binds X.K fd ps ds) (hd : Vals dvs ds) (tk : Takes X Wx)
    (hdb : (x == ("__debug__" : Str)) = false) : PE X (.Call (.Name x p) [] [] pos) (tCallG sp dvs Wx tNil) := by
  refine ⟨fun pins s σ H Q I h => wpAny_Call_Name_kw (ld_glob I hg hm ?_ hdb)⟩
  exact PySem.W.callWith_K0 I.kIn hk (run_fnG (us := []) F hgd hr hb hd tk I .nil h)
end

/-! ### the law's own call -/
theorem law_callG {P : Program} {w : World} {K : Kf} {mg mb : Str → Option Value} {k : Nat} {fa a : Addr} {fd : FuncData} {x : Str} {sp : Sp} {s₁ : Shared} {vs : List Value} {ns : List Int}
    (KX : K.In s₁.heap) (hns : s₁.heap.Ns mainGlobals mg) (hb : s₁.heap.Ns builtinsNs mb) (hbb : ∀ x : Str, x ≠ "__name__" → mb x = bootBuiltins x) (hlim : s₁.heap.NoLimit) (hg : s₁.gens = #[])
    (ha : s₁.heap.get? a = some { cls := .type "list", data := .seq vs.toArray }) (hi : IntsAre vs ns) (hl : ns.length ≤ sizeLine) (hr : Room k callerA)
    (F : ∀ base : Heap, K.In base → base.Ns mainGlobals mg → FnG P w K mg base k fa fd [x] sp) (hbind : ∀ (s : Shared) (u : Value), BindsTo s fd ⟨[u], []⟩ [(x, u)])
    (hsp : ∀ H : Hp, SqL K H a (ns.map V.int) → sp [.ref a] H (fun v _ => v = .bl true) fun _ _ _ => False) :
    codeAny (model P w) callerA (.call (.ref fa) ⟨[.ref a], []⟩) (fun r s' => r = .ok (.ret (.bool true)) ∧ OldK s₁.heap s'.heap ∧ s'.os = s₁.os ∧ AllBare s'.gens) s₁ := by
  have lenV := hi.length
  have core : ∀ H : Hp, (∀ b, H b = none ∨ ∃ o xs, H b = some (.frz o (.lst xs))) → SqL K H a (ns.map V.int) → HOk P w H s₁.heap → (∀ b, H b ≠ none → b = a) → (H a ≠ none → K.lookup a = none) →
      codeAny (model P w) callerA (.call (.ref fa) ⟨[.ref a], []⟩) (fun r s' => r = .ok (.ret (.bool true)) ∧ OldK s₁.heap s'.heap ∧ s'.os = s₁.os ∧ AllBare s'.gens) s₁ := by
    intro H only seq hok onlyA notK
    have free : ∀ {b : Addr} {o : Obj} {es : Array DictEntry} {ep : Nat}, s₁.heap.get? b = some o → o.data = .dict es ep → H b = none := by
      intro b o es ep e d
      cases q : H b with
      | none => rfl
      | some u =>
        obtain rfl : b = a := onlyA b (by rw [q]; simp)
        rw [ha] at e
        cases e
        exact nomatch (show Data.seq vs.toArray _ = Data.dict es ep from d)
    have keepNs : ∀ {b : Addr} {m : Str → Option Value}, s₁.heap.Ns b m → (hidT s₁.heap H).Ns b m := fun ⟨o, es, ep, e, d, r⟩ => ⟨o, es, ep, hidT_get e (free e d), d, r⟩
    have kb : K.In (hidT s₁.heap H) := by
      intro b o e
      refine hidT_get (KX b o e) ?_
      cases q : H b with
      | none => rfl
      | some u =>
        obtain rfl : b = a := onlyA b (by rw [q]; simp)
        rw [notK (by rw [q]; simp)] at e
        cases e
    have md : Mod K mg (hidT s₁.heap H) := ⟨kb, keepNs hns, ⟨mb, keepNs hb, hbb⟩, let ⟨mc, h1, h2⟩ := hlim; ⟨mc, keepNs h1, h2⟩⟩
    have e0 : Env0 P w K mg (hidT s₁.heap H) callerA [] s₁ H :=
      ⟨rfl, md, fun b o e => of_hidT e, Nat.le_of_eq (hidT_size _ _), trivial, fun b hb => absurd (show b ∈ ([] : List Addr) from hb) List.not_mem_nil, hok, .of_eq hg⟩
    refine codeAny_mono ((F _ kb (keepNs hns)).run callerA [] s₁ H ⟨[.ref a], []⟩ [.ref a] [.ref a] _ _ rfl hr e0 (hbind s₁ (.ref a)) (.cons rfl .nil) (hsp H seq)) fun r s' h => ?_
    cases r with
    | error e =>
      obtain ⟨_, _, _, _, _, _, _, _, _, _, _, _, z⟩ := h
      exact z.elim
    | ok fl =>
      cases fl with
      | next => exact False.elim h
      | brk => exact False.elim h
      | cont => exact False.elim h
      | ret u =>
        obtain ⟨v, H', os, bare, un, hok', r', q⟩ := h
        obtain rfl : v = .bl true := q
        obtain rfl : u = Value.bool true := r'
        refine ⟨rfl, OldK.of_keep fun b o e => ?_, os, bare⟩
        rcases only b with q | ⟨ob, xs, q⟩
        · exact un.keep b o e q (fun z => absurd (show b ∈ ([] : List Addr) from z) List.not_mem_nil) (by simp)
        · obtain ⟨e1, _⟩ := hok b _ q
          obtain ⟨e2, _⟩ := hok' b _ (un.frzs b ob _ q)
          rw [e] at e1
          cases e1
          exact e2
  cases hk : K.lookup a with
  | some o =>
    have e := KX a o hk
    rw [ha] at e
    cases e
    exact core (fun _ => none) (fun _ => .inl rfl) (.inr ⟨_, vs.toArray, _, hk, rfl, rfl, rfl, by rw [List.size_toArray, lenV]; exact hl, by simpa using vals_ints hi⟩) (fun b u z => nomatch z) (fun b z => absurd rfl z) fun z => absurd rfl z
  | none =>
    refine core (fun b => if b = a then some (.frz { cls := .type "list", data := .seq vs.toArray } (.lst (ns.map V.int))) else none) (fun b => ?_) (.inl (.inr ⟨{ cls := .type "list", data := .seq vs.toArray }, if_pos rfl⟩)) (fun b u z => ?_) (fun b z => ?_) fun _ => hk
    · by_cases h : b = a
      · exact .inr ⟨_, _, if_pos h⟩
      · exact .inl (if_neg h)
    · by_cases h : b = a
      · have z' := (if_pos h).symm.trans z
        cases z'
        subst h
        exact ⟨ha, by rw [List.length_map]; exact hl, vs, _, vals_ints hi, ha⟩
      · have z' := (if_neg h).symm.trans z
        exact absurd z' (by simp)
    · by_cases h : b = a
      · exact h
      · exact absurd (if_neg h) z
theorem walkG {l : PySem.W.OpenLaw} {n k : Nat} {q : Program} {loose : List Str} {XP : (Str → Option Value) → Heap → Prop} {YP : World → Heap → Prop} {d : DefRec} {K : Params → Kf} {sp : World → Sp} {x : Str}
    (hn : l.most = some n) (hn2 : n ≤ sizeLine) (hdf : d.params.defaults = []) (hr : Room k callerA) (hY : ∀ (w : World) (h : Heap), YP w h → (K w.params).In h)
    (F : ∀ (w : World) (mg : Str → Option Value) (fa : Addr) (h : Heap), (K w.params).In h → h.Ns mainGlobals mg → mg d.name = some (.ref fa) →
      ∃ fd : FuncData, (∀ (s : Shared) (u : Value), BindsTo s fd ⟨[u], []⟩ [(x, u)]) ∧ ∀ base : Heap, (K w.params).In base → base.Ns mainGlobals mg → FnG l.prog w (K w.params) mg base k fa fd [x] (sp w))
    (hsp : ∀ (w : World) (H : Hp) (a : Addr) (ns : List Int), ns.length ≤ n → SqL (K w.params) H a (ns.map V.int) → sp w [.ref a] H (fun v _ => v = .bl true) fun _ _ _ => False) :
    PySem.W.WalkO q loose XP YP l.row.toRowW d [] (fun f vs => PySem.call f vs) := by
  refine Att.attach_call hn hdf fun w s₀ s₁ mg mb fa o pm cd doc a vs ns G Y ho hd hcd hmg hobj hints hlen hg => ?_
  have KX := hY w _ Y
  obtain ⟨fd, hb, hF⟩ := F w mg fa _ KX G.T.g hmg
  exact law_callG KX G.T.g G.T.b G.T.builtins G.T.nolimit hg hobj hints (Nat.le_trans hlen hn2) hr hF hb fun H hS => hsp w H a ns hlen hS
end Mi

set_option Elab.async false
set_option linter.all false
set_option maxRecDepth 100000
set_option maxHeartbeats 1000000
/-! Mi: the readings by the interpreter, and the rule for each construct. -/
namespace Mi
open PySem PySem.Spec PyProof.Rows L2

/-- what is wanted behind a run of the interpreter -/
def Aw {α : Type} (K : Kf) (ex : Nat → Value) (Wx : WX) (S : Sk) (H : Hp) (σ : L2.St) (r : Res α) (P : α → Mem → Sk → Hp → Prop) : Prop :=
  match r with
  | .ok a M => ∀ S' H', Stp S H S' H' → W K S' M H' → P a M S' H'
  | .exc c M => ∀ S' H', Stp S H S' H' → W K S' M H' → Wx (ex c) none σ H'
  | .bad => False
section
variable {α β : Type} {K : Kf} {ex : Nat → Value} {Wx : WX} {S : Sk} {H : Hp} {σ : L2.St} {r : Res α} {P P' : α → Mem → Sk → Hp → Prop}
theorem Aw.bind {f : α → Mem → Res β} {P : β → Mem → Sk → Hp → Prop} (h : Aw K ex Wx S H σ (r.bind f) P) : Aw K ex Wx S H σ r fun a M S1 H1 => Aw K ex Wx S1 H1 σ (f a M) P := by
  cases r with
  | ok a M =>
    intro S1 H1 t1 w1
    have h' : Aw K ex Wx S H σ (f a M) P := h
    show Aw K ex Wx S1 H1 σ (f a M) P
    cases e : f a M with
    | ok b M2 => rw [e] at h'; exact fun S' H' t w => h' S' H' (t1.trans t) w
    | exc c M2 => rw [e] at h'; exact fun S' H' t w => h' S' H' (t1.trans t) w
    | bad => rw [e] at h'; exact h'.elim
  | exc c M => exact h
  | bad => exact h
theorem Aw.imp (h : Aw K ex Wx S H σ r P) (f : ∀ a M S' H', Stp S H S' H' → W K S' M H' → P a M S' H' → P' a M S' H') : Aw K ex Wx S H σ r P' := by
  cases r with
  | ok a M => exact fun S' H' t w => f a M S' H' t w (h S' H' t w)
  | exc c M => exact h
  | bad => exact h
theorem Aw.of_ok {a : α} {M : Mem} (w : W K S M H) (h : Aw K ex Wx S H σ (.ok a M) P) : P a M S H := h S H .refl w
theorem Aw.ok (h : Aw K ex Wx S H σ r P) (n : ∀ c M, r ≠ .exc c M) : ∃ a M, r = .ok a M ∧ ∀ S' H', Stp S H S' H' → W K S' M H' → P a M S' H' := by
  cases r with
  | ok a M => exact ⟨a, M, rfl, h⟩
  | exc c M => exact absurd rfl (n c M)
  | bad => exact h.elim
end
theorem alloc_ne {mt : Bool} {xs : List PyData} {M : Mem} (c : Nat) (M' : Mem) : alloc mt xs M ≠ .exc c M' := by
  unfold alloc; split <;> intro h <;> cases h
theorem binop_ne {op : BOp} {mt : Bool} {a b : D} {M : Mem} (c : Nat) (M' : Mem) : binop op mt a b M ≠ .exc c M' := by
  intro h; unfold binop at h
  split at h <;> (try split at h) <;> first | cases h | exact alloc_ne _ _ h
theorem cmpop_ne {op : COp} {a b : D} {M : Mem} (c : Nat) (M' : Mem) : cmpop op a b M ≠ .exc c M' := by
  intro h; unfold cmpop at h
  split at h <;> (try split at h) <;> cases h
theorem idxop_ne {a b : D} {M : Mem} (c : Nat) (M' : Mem) : idxop a b M ≠ .exc c M' := by
  intro h; unfold idxop at h
  split at h <;> (try split at h) <;> (try split at h) <;> (try split at h) <;> cases h
theorem slcop_ne {mt : Bool} {a : D} {lo hi : Option Int} {M : Mem} (c : Nat) (M' : Mem) : slcop mt a lo hi M ≠ .exc c M' := by
  intro h; unfold slcop at h
  split at h <;> first | cases h | exact alloc_ne _ _ h
theorem revop_ne {mt : Bool} {a : D} {M : Mem} (c : Nat) (M' : Mem) : revop mt a M ≠ .exc c M' := by
  intro h; unfold revop at h
  split at h <;> first | cases h | exact alloc_ne _ _ h
theorem one_ne {g : PyData → Mem → Res D} (hg : ∀ x M c M', g x M ≠ .exc c M') {ds : List D} {M : Mem} (c : Nat) (M' : Mem) : one g ds M ≠ .exc c M' := by
  intro h; unfold one at h
  split at h
  · split at h
    · exact hg _ _ _ _ h
    · cases h
  · cases h
theorem two_ne {g : PyData → PyData → Mem → Res D} (hg : ∀ x y M c M', g x y M ≠ .exc c M') {ds : List D} {M : Mem} (c : Nat) (M' : Mem) : two g ds M ≠ .exc c M' := by
  intro h; unfold two at h
  split at h
  · split at h
    · exact hg _ _ _ _ _ h
    · cases h
  · cases h
theorem bltop_ne {b : BF} {ds : List D} {M : Mem} (c : Nat) (M' : Mem) : bltop b ds M ≠ .exc c M' := by
  cases b with
  | len =>
    intro h; unfold bltop at h; dsimp only at h
    split at h
    · cases h
    · exact one_ne (fun x M c M' h => by unfold bLen at h; split at h <;> (try split at h) <;> cases h) _ _ h
  | min => exact two_ne (fun x y M c M' h => by unfold bMin at h; split at h <;> cases h) _ _
  | max => exact two_ne (fun x y M c M' h => by unfold bMax at h; split at h <;> cases h) _ _
  | abs => exact one_ne (fun x M c M' h => by unfold bAbs at h; split at h <;> cases h) _ _
  | sum => exact one_ne (fun x M c M' h => by unfold bSum at h; split at h <;> (try split at h) <;> cases h) _ _
  | all => exact one_ne (fun x M c M' h => by unfold bAll at h; split at h <;> (try split at h) <;> cases h) _ _
  | any => exact one_ne (fun x M c M' h => by unfold bAny at h; split at h <;> (try split at h) <;> cases h) _ _
  | tuple => exact one_ne (fun x M c M' h => by unfold bTuple at h; split at h <;> cases h) _ _
  | list mt => exact one_ne (fun x M c M' h => by unfold bList at h; split at h <;> first | cases h | exact alloc_ne _ _ h) _ _
  | repr => exact one_ne (fun x M c M' h => by unfold bRepr at h; split at h <;> cases h) _ _
  | str => exact one_ne (fun x M c M' h => by unfold bStr at h; split at h <;> (try split at h) <;> cases h) _ _
  | isi t => exact one_ne (fun x M c M' h => by unfold bIsi at h; cases h) _ _
  | sorted mt => exact one_ne (fun x M c M' h => by unfold bSorted at h; split at h <;> (try split at h) <;> first | cases h | exact alloc_ne _ _ h) _ _
theorem mAppend_ne {o : D} {ds : List D} {M : Mem} (c : Nat) (M' : Mem) : mAppend o ds M ≠ .exc c M' := by
  intro h; unfold mAppend at h
  split at h <;> (try split at h) <;> (try split at h) <;> (try split at h) <;> cases h

/-! ### the readings -/
section
variable (K : Kf) (ex : Nat → Value) (Wx : WX) (fn : Fn)
def tE (c : CE) : TE := fun σ H Q => ∃ S M ρ, W K S M H ∧ Sl K S H ρ σ ∧ Aw K ex Wx S H σ (evE fn c ρ M) fun d _ S' H' => ∀ v, RD K S' H' d v → Q v H'
def tEs (c : CEs) : TA := fun σ H Q => ∃ S M ρ, W K S M H ∧ Sl K S H ρ σ ∧ Aw K ex Wx S H σ (evEs fn c ρ M) fun ds _ S' H' => ∀ vs, RDs K S' H' ds vs → Q vs H'
def tT (c : CE) : TT := fun σ H Q => ∃ S M ρ, W K S M H ∧ Sl K S H ρ σ ∧ Aw K ex Wx S H σ (evE fn c ρ M) fun d M' _ H' => ∃ b, truth M' d = some b ∧ Q b H'
def tO (c : CEo) : TO := fun σ H Q => ∃ S M ρ, W K S M H ∧ Sl K S H ρ σ ∧ Aw K ex Wx S H σ (evO fn c ρ M) fun b _ _ H' => Q b H'
/-- what a def promises: what the interpreter says of it -/
def spF (f n : Nat) : Sp := fun vs H Q E => ∃ S M ds, W K S M H ∧ RDs K S H ds vs ∧ ds.length = n ∧ Aw K ex (fun c d _ H' => E c d H') S H [] (fn f ds M) fun d _ S' H' => ∀ v, RD K S' H' d v → Q v H'
end
theorem _root_.L2.PE.weak {X : Cx} {e : Expr} {t t' : TE} (h : PE X e t) (f : ∀ σ H Q, t' σ H Q → t σ H Q) : PE X e t' := ⟨fun pins s σ H Q I q => h.run pins s σ H Q I (f σ H Q q)⟩
theorem _root_.L2.PT.weak {X : Cx} {e : Expr} {t t' : TT} (h : PT X e t) (f : ∀ σ H Q, t' σ H Q → t σ H Q) : PT X e t' := ⟨fun pins s σ H Q I q => h.run pins s σ H Q I (f σ H Q q)⟩
theorem _root_.L2.PA.weak {X : Cx} {e : List Expr} {t t' : TA} (h : PA X e t) (f : ∀ σ H Q, t' σ H Q → t σ H Q) : PA X e t' := ⟨fun p pins s σ H Q I q => h.run p pins s σ H Q I (f σ H Q q)⟩
theorem _root_.L2.PW.weak {X : Cx} {e : Expr} {t t' : TT} (h : PW X e t) (f : ∀ σ H Q, t' σ H Q → t σ H Q) : PW X e t' := ⟨fun wh pins s σ H Q I q => h.run wh pins s σ H Q I (f σ H Q q)⟩
section
variable {X : Cx} {ex : Nat → Value} {Wx : WX} {fn : Fn} {a b e : Expr} {ca cb cc : CE} {pos : Pos}
theorem ce_var {i : Nat} {x : Str} (hN : X.N[i]? = some x) (hv : Vis X.env.scope x) (hd : (x == ("__debug__" : Str)) = false) (hcd : (x == ("__classdict__" : Str)) = false) : PE X (.Name x pos) (tE X.K ex Wx fn (.var i)) := by
  refine (pe_var hN hv hd hcd).weak fun σ H Q h => ?_
  obtain ⟨S, M, ρ, w, sl, aw⟩ := h
  simp only [evE] at aw
  split at aw
  · rename_i d hd
    obtain ⟨v, e1, e2⟩ := sl.at' i d hd
    exact ⟨v, e1, aw.of_ok w v e2⟩
  · exact aw.elim
theorem ce_cst {d : PyData} {v : V} (h : PE X e (tC v)) (r : ∀ S H, RP X.K S H d v) : PE X e (tE X.K ex Wx fn (.cst d)) := by
  refine h.weak fun σ H Q h => ?_
  obtain ⟨S, M, ρ, w, sl, aw⟩ := h
  simp only [evE] at aw
  exact aw.of_ok w v (r S H)
theorem ce_bin {o : BOp} {mt : Bool} (ha : PE X a (tE X.K ex Wx fn ca)) (hb : PE X b (tE X.K ex Wx fn cb)) : PE X (.BinOp a (opOf o) b pos) (tE X.K ex Wx fn (.bin o mt ca cb)) := by
  refine (pe_op (op_bin o mt) ha hb).weak fun σ H Q h => ?_
  obtain ⟨S, M, ρ, w, sl, aw⟩ := h
  simp only [evE] at aw
  refine ⟨S, M, ρ, w, sl, aw.bind.imp fun d M1 S1 H1 t1 w1 aw1 v1 r1 => ?_⟩
  refine ⟨S1, M1, ρ, w1, sl.mono t1, aw1.bind.imp fun d2 M2 S2 H2 t2 w2 aw2 v2 r2 => ?_⟩
  obtain ⟨r, M3, hb, af⟩ := aw2.ok binop_ne
  exact ⟨S2, M2, d, d2, r, M3, w2, r1.mono t2, r2, hb, fun S' H' v t w r => af S' H' t w v r⟩
theorem ce_neg (ha : PE X a (tE X.K ex Wx fn ca)) : PE X (.UnaryOp .USub a pos) (tE X.K ex Wx fn (.neg ca)) := by
  refine (pe_un un_neg ha).weak fun σ H Q h => ?_
  obtain ⟨S, M, ρ, w, sl, aw⟩ := h
  simp only [evE] at aw
  refine ⟨S, M, ρ, w, sl, aw.bind.imp fun d M1 S1 H1 t1 w1 aw1 v1 r1 => ?_⟩
  split at aw1
  · rename_i i
    exact ⟨i, rp_int r1, aw1.of_ok w1 _ (.int _)⟩
  · exact aw1.elim
theorem toB_ok {K : Kf} {S : Sk} {M : Mem} {H : Hp} {σ : L2.St} {d : D} {P : Bool → Mem → Sk → Hp → Prop} (aw : Aw K ex Wx S H σ (toB M d) P) (w : W K S M H) : ∃ b, truth M d = some b ∧ P b M S H := by
  unfold toB at aw
  split at aw
  · rename_i b hb
    exact ⟨b, hb, aw.of_ok w⟩
  · exact aw.elim
theorem ce_not (ha : PE X a (tE X.K ex Wx fn ca)) : PE X (.UnaryOp .Not a pos) (tE X.K ex Wx fn (.not ca)) := by
  refine (pe_notT ha).weak fun σ H Q h => ?_
  obtain ⟨S, M, ρ, w, sl, aw⟩ := h
  simp only [evE] at aw
  refine ⟨S, M, ρ, w, sl, aw.bind.imp fun d M1 S1 H1 t1 w1 aw1 v1 r1 => ?_⟩
  obtain ⟨b, hb, q⟩ := toB_ok aw1.bind w1
  exact ⟨b, tru_of w1 r1 hb, q.of_ok w1 _ (.bl _)⟩
theorem ce_cmp (hu : X.A.units + 64 < cLine) {o : COp} (ha : PE X a (tE X.K ex Wx fn ca)) (hb : PE X b (tE X.K ex Wx fn cb)) (hm : behindInMarks (copOf o) b = false) : PE X (.Compare a [copOf o] [b] pos) (tE X.K ex Wx fn (.cmp o ca cb)) := by
  refine (pe_cmpR (op_cmp hu o) ha hb hm).weak fun σ H Q h => ?_
  obtain ⟨S, M, ρ, w, sl, aw⟩ := h
  simp only [evE] at aw
  refine ⟨S, M, ρ, w, sl, aw.bind.imp fun d M1 S1 H1 t1 w1 aw1 v1 r1 => ?_⟩
  refine ⟨S1, M1, ρ, w1, sl.mono t1, aw1.bind.imp fun d2 M2 S2 H2 t2 w2 aw2 v2 r2 => ?_⟩
  obtain ⟨r, M3, hb, af⟩ := aw2.ok cmpop_ne
  exact ⟨S2, M2, d, d2, r, M3, w2, r1.mono t2, r2, hb, fun S' H' v t w r => af S' H' t w v r⟩
theorem cmp_bool {o : COp} {d e r : D} {M M' : Mem} (h : cmpop o d e M = .ok r M') : ∃ k, r = .p (.bool k) ∧ M' = M := by
  unfold cmpop at h
  split at h
  · split at h
    · cases h; exact ⟨_, rfl, rfl⟩
    · cases h
  · cases h
theorem ct_cmp (hu : X.A.units + 64 < cLine) {o : COp} (ha : PE X a (tE X.K ex Wx fn ca)) (hb : PE X b (tE X.K ex Wx fn cb)) (hm : behindInMarks (copOf o) b = false) : PT X (.Compare a [copOf o] [b] pos) (tT X.K ex Wx fn (.cmp o ca cb)) := by
  refine (pt_cmpR (op_cmp hu o) ha hb hm).weak fun σ H Q h => ?_
  obtain ⟨S, M, ρ, w, sl, aw⟩ := h
  simp only [evE] at aw
  refine ⟨S, M, ρ, w, sl, aw.bind.imp fun d M1 S1 H1 t1 w1 aw1 v1 r1 => ?_⟩
  refine ⟨S1, M1, ρ, w1, sl.mono t1, aw1.bind.imp fun d2 M2 S2 H2 t2 w2 aw2 v2 r2 => ?_⟩
  obtain ⟨r, M3, hb, af⟩ := aw2.ok cmpop_ne
  refine ⟨S2, M2, d, d2, r, M3, w2, r1.mono t2, r2, hb, fun S' H' v t w r => ?_⟩
  obtain ⟨k, rfl, rfl⟩ := cmp_bool hb
  obtain ⟨k', hk, q⟩ := af S' H' t w
  cases hk
  cases (show RP X.K S' H' (.bool k) v from r)
  exact ⟨k, rfl, q⟩
theorem isB_ok {K : Kf} {S : Sk} {M : Mem} {H : Hp} {σ : L2.St} {d : D} {P : Bool → Mem → Sk → Hp → Prop} (aw : Aw K ex Wx S H σ (isB M d) P) (w : W K S M H) : ∃ b, d = .p (.bool b) ∧ P b M S H := by
  unfold isB at aw
  split at aw
  · exact ⟨_, rfl, aw.of_ok w⟩
  · exact aw.elim
theorem ce_chn (hu : X.A.units + 64 < cLine) {o o' : COp} {c : Expr} (ha : PE X a (tE X.K ex Wx fn ca)) (hb : PE X b (tE X.K ex Wx fn cb)) (hc : PE X c (tE X.K ex Wx fn cc)) (hm : lastMarks [copOf o, copOf o'] [b, c] = false) :
    PE X (.Compare a [copOf o, copOf o'] [b, c] pos) (tE X.K ex Wx fn (.chn o o' ca cb cc)) := by
  refine (pe_chain (op_cmp hu o) (op_cmp hu o') ha hb hc hm).weak fun σ H Q h => ?_
  obtain ⟨S, M, ρ, w, sl, aw⟩ := h
  simp only [evE] at aw
  refine ⟨S, M, ρ, w, sl, aw.bind.imp fun d M1 S1 H1 t1 w1 aw1 v1 r1 => ?_⟩
  refine ⟨S1, M1, ρ, w1, sl.mono t1, aw1.bind.imp fun d2 M2 S2 H2 t2 w2 aw2 v2 r2 => ?_⟩
  obtain ⟨r, M3, hb, af⟩ := aw2.bind.ok cmpop_ne
  refine ⟨S2, M2, d, d2, r, M3, w2, r1.mono t2, r2, hb, fun S' H' v t w r => ?_⟩
  obtain ⟨k, rfl, rfl⟩ := cmp_bool hb
  obtain ⟨k', hk, q⟩ := isB_ok (af S' H' t w).bind w
  cases hk
  cases (show RP X.K S' H' (.bool k) v from r)
  refine ⟨k, rfl, ?_⟩
  cases k with
  | false => exact iteF (q.of_ok w _ (.bl _))
  | true =>
    refine iteT ⟨S', M3, ρ, w, sl.mono (t1.trans (t2.trans t)), q.bind.imp fun d3 M4 S4 H4 t4 w4 aw4 v4 r4 => ?_⟩
    obtain ⟨r', M5, hb', af'⟩ := aw4.ok cmpop_ne
    exact ⟨S4, M4, d2, d3, r', M5, w4, r2.mono (t.trans t4), r4, hb', fun S' H' v t w r => af' S' H' t w v r⟩
theorem ct_chn (hu : X.A.units + 64 < cLine) {o o' : COp} {c : Expr} (ha : PE X a (tE X.K ex Wx fn ca)) (hb : PE X b (tE X.K ex Wx fn cb)) (hc : PE X c (tE X.K ex Wx fn cc)) (hm : lastMarks [copOf o, copOf o'] [b, c] = false) :
    PT X (.Compare a [copOf o, copOf o'] [b, c] pos) (tT X.K ex Wx fn (.chn o o' ca cb cc)) := by
  refine (pt_chain (op_cmp hu o) (op_cmp hu o') ha hb hc hm).weak fun σ H Q h => ?_
  obtain ⟨S, M, ρ, w, sl, aw⟩ := h
  simp only [evE] at aw
  refine ⟨S, M, ρ, w, sl, aw.bind.imp fun d M1 S1 H1 t1 w1 aw1 v1 r1 => ?_⟩
  refine ⟨S1, M1, ρ, w1, sl.mono t1, aw1.bind.imp fun d2 M2 S2 H2 t2 w2 aw2 v2 r2 => ?_⟩
  obtain ⟨r, M3, hb, af⟩ := aw2.bind.ok cmpop_ne
  refine ⟨S2, M2, d, d2, r, M3, w2, r1.mono t2, r2, hb, fun S' H' v t w r => ?_⟩
  obtain ⟨k, rfl, rfl⟩ := cmp_bool hb
  obtain ⟨k', hk, q⟩ := isB_ok (af S' H' t w).bind w
  cases hk
  cases (show RP X.K S' H' (.bool k) v from r)
  refine ⟨k, rfl, ?_⟩
  cases k with
  | false =>
    obtain ⟨k', hk, q'⟩ := q.of_ok w
    cases hk
    exact iteF ⟨false, rfl, q'⟩
  | true =>
    refine iteT ⟨S', M3, ρ, w, sl.mono (t1.trans (t2.trans t)), q.bind.imp fun d3 M4 S4 H4 t4 w4 aw4 v4 r4 => ?_⟩
    obtain ⟨r', M5, hb', af'⟩ := aw4.ok cmpop_ne
    refine ⟨S4, M4, d2, d3, r', M5, w4, r2.mono (t.trans t4), r4, hb', fun S' H' v t w r => ?_⟩
    obtain ⟨k, rfl, rfl⟩ := cmp_bool hb'
    obtain ⟨k', hk, q⟩ := af' S' H' t w
    cases hk
    cases (show RP X.K S' H' (.bool k) v from r)
    exact ⟨k, rfl, q⟩

theorem ce_one {op : BoolOp} (ha : PE X a (tE X.K ex Wx fn ca)) : PE X (.BoolOp op [a] pos) (tE X.K ex Wx fn ca) := pe_one ha
theorem ce_and {rest : List Expr} (ha : PE X a (tE X.K ex Wx fn ca)) (hb : PE X (.BoolOp .And (b :: rest) pos) (tE X.K ex Wx fn cb)) : PE X (.BoolOp .And (a :: b :: rest) pos) (tE X.K ex Wx fn (.and ca cb)) := by
  refine (pe_and ha hb).weak fun σ H Q h => ?_
  obtain ⟨S, M, ρ, w, sl, aw⟩ := h
  simp only [evE] at aw
  refine ⟨S, M, ρ, w, sl, aw.bind.imp fun d M1 S1 H1 t1 w1 aw1 v1 r1 => ?_⟩
  obtain ⟨k, rfl, q⟩ := isB_ok aw1.bind w1
  cases (show RP X.K S1 H1 (.bool k) v1 from r1)
  refine ⟨k, rfl, ?_⟩
  cases k with
  | false => exact iteF (q.of_ok w1 _ (.bl _))
  | true => exact iteT ⟨S1, M1, ρ, w1, sl.mono t1, q⟩
theorem ce_or {rest : List Expr} (ha : PE X a (tE X.K ex Wx fn ca)) (hb : PE X (.BoolOp .Or (b :: rest) pos) (tE X.K ex Wx fn cb)) : PE X (.BoolOp .Or (a :: b :: rest) pos) (tE X.K ex Wx fn (.or ca cb)) := by
  refine (pe_or ha hb).weak fun σ H Q h => ?_
  obtain ⟨S, M, ρ, w, sl, aw⟩ := h
  simp only [evE] at aw
  refine ⟨S, M, ρ, w, sl, aw.bind.imp fun d M1 S1 H1 t1 w1 aw1 v1 r1 => ?_⟩
  obtain ⟨k, rfl, q⟩ := isB_ok aw1.bind w1
  cases (show RP X.K S1 H1 (.bool k) v1 from r1)
  refine ⟨k, rfl, ?_⟩
  cases k with
  | true => exact iteT (q.of_ok w1 _ (.bl _))
  | false => exact iteF ⟨S1, M1, ρ, w1, sl.mono t1, q⟩
theorem cw_one {op : BoolOp} (ha : PT X a (tT X.K ex Wx fn ca)) : PW X (.BoolOp op [a] pos) (tT X.K ex Wx fn ca) := by
  cases op with
  | And => exact pw_and1 ha
  | Or => exact pw_or1 ha
theorem cw_and {rest : List Expr} (ha : PT X a (tT X.K ex Wx fn ca)) (hb : PW X (.BoolOp .And (b :: rest) pos) (tT X.K ex Wx fn cb)) : PW X (.BoolOp .And (a :: b :: rest) pos) (tT X.K ex Wx fn (.and ca cb)) := by
  refine (pw_and ha hb).weak fun σ H Q h => ?_
  obtain ⟨S, M, ρ, w, sl, aw⟩ := h
  simp only [evE] at aw
  refine ⟨S, M, ρ, w, sl, aw.bind.imp fun d M1 S1 H1 t1 w1 aw1 => ?_⟩
  obtain ⟨k, rfl, q⟩ := isB_ok aw1.bind w1
  refine ⟨k, rfl, ?_⟩
  cases k with
  | true => exact iteT ⟨S1, M1, ρ, w1, sl.mono t1, q⟩
  | false =>
    obtain ⟨k', hk, q'⟩ := q.of_ok w1
    cases hk
    exact iteF q'
theorem cw_or {rest : List Expr} (ha : PT X a (tT X.K ex Wx fn ca)) (hb : PW X (.BoolOp .Or (b :: rest) pos) (tT X.K ex Wx fn cb)) : PW X (.BoolOp .Or (a :: b :: rest) pos) (tT X.K ex Wx fn (.or ca cb)) := by
  refine (pw_or ha hb).weak fun σ H Q h => ?_
  obtain ⟨S, M, ρ, w, sl, aw⟩ := h
  simp only [evE] at aw
  refine ⟨S, M, ρ, w, sl, aw.bind.imp fun d M1 S1 H1 t1 w1 aw1 => ?_⟩
  obtain ⟨k, rfl, q⟩ := isB_ok aw1.bind w1
  refine ⟨k, rfl, ?_⟩
  cases k with
  | false => exact iteF ⟨S1, M1, ρ, w1, sl.mono t1, q⟩
  | true =>
    obtain ⟨k', hk, q'⟩ := q.of_ok w1
    cases hk
    exact iteT q'
theorem ct_not (ha : PT X a (tT X.K ex Wx fn ca)) : PT X (.UnaryOp .Not a pos) (tT X.K ex Wx fn (.not ca)) := by
  refine (pt_not ha).weak fun σ H Q h => ?_
  obtain ⟨S, M, ρ, w, sl, aw⟩ := h
  simp only [evE] at aw
  refine ⟨S, M, ρ, w, sl, aw.bind.imp fun d M1 S1 H1 t1 w1 aw1 => ?_⟩
  obtain ⟨k, hk, q⟩ := toB_ok aw1.bind w1
  obtain ⟨k', hk', q'⟩ := q.of_ok w1
  cases hk'
  exact ⟨k, hk, q'⟩
theorem ct_any (ha : PE X a (tE X.K ex Wx fn ca)) (he : ∀ whole, isTrue a X.env whole = (do let v ← whole; standAt a.pos; holding [v] (truthy v))) : PT X a (tT X.K ex Wx fn ca) := by
  refine (pt_truth ha he).weak fun σ H Q h => ?_
  obtain ⟨S, M, ρ, w, sl, aw⟩ := h
  refine ⟨S, M, ρ, w, sl, aw.imp fun d M1 S1 H1 t1 w1 aw1 v r => ?_⟩
  obtain ⟨k, hk, q⟩ := aw1
  exact ⟨k, tru_of w1 r hk, q⟩
theorem ce_ife {c : Expr} (hc : PT X c (tT X.K ex Wx fn cc)) (ha : PE X a (tE X.K ex Wx fn ca)) (hb : PE X b (tE X.K ex Wx fn cb)) : PE X (.IfExp c a b pos) (tE X.K ex Wx fn (.ife cc ca cb)) := by
  refine (pe_ifExp hc ha hb).weak fun σ H Q h => ?_
  obtain ⟨S, M, ρ, w, sl, aw⟩ := h
  simp only [evE] at aw
  refine ⟨S, M, ρ, w, sl, aw.bind.imp fun d M1 S1 H1 t1 w1 aw1 => ?_⟩
  obtain ⟨k, hk, q⟩ := toB_ok aw1.bind w1
  refine ⟨k, hk, ?_⟩
  cases k with
  | true => exact iteT ⟨S1, M1, ρ, w1, sl.mono t1, q⟩
  | false => exact iteF ⟨S1, M1, ρ, w1, sl.mono t1, q⟩
/-! ### lists of expressions -/
variable {es : List Expr} {cs : CEs}
theorem ca_nil : PA X [] (tEs X.K ex Wx fn .nil) := by
  refine pa_nil.weak fun σ H Q h => ?_
  obtain ⟨S, M, ρ, w, sl, aw⟩ := h
  simp only [evEs] at aw
  exact aw.of_ok w _ .nil
theorem ca_cons (ha : PE X e (tE X.K ex Wx fn ca)) (hr : PA X es (tEs X.K ex Wx fn cs)) (hs : starEach (e :: es) X.env = (false, eval e X.env) :: starEach es X.env) : PA X (e :: es) (tEs X.K ex Wx fn (.cons ca cs)) := by
  refine (pa_cons ha hr hs).weak fun σ H Q h => ?_
  obtain ⟨S, M, ρ, w, sl, aw⟩ := h
  simp only [evEs] at aw
  refine ⟨S, M, ρ, w, sl, aw.bind.imp fun d M1 S1 H1 t1 w1 aw1 v1 r1 => ?_⟩
  refine ⟨S1, M1, ρ, w1, sl.mono t1, aw1.bind.imp fun ds M2 S2 H2 t2 w2 aw2 vs rs => ?_⟩
  exact aw2.of_ok w2 _ (.cons (r1.mono t2) rs)
theorem rds_len {K : Kf} {S : Sk} {H : Hp} : ∀ {ds : List D} {vs : List V}, RDs K S H ds vs → ds.length = vs.length
  | _, _, .nil => rfl
  | _, _, .cons _ b => congrArg (· + 1) (rds_len b)
theorem ce_tup {x1 : Nat} (h : PA X es (tEs X.K ex Wx fn cs)) : PE X (.Tuple es x1 pos) (tE X.K ex Wx fn (.tup cs)) := by
  refine (pe_tup h).weak fun σ H Q h => ?_
  obtain ⟨S, M, ρ, w, sl, aw⟩ := h
  simp only [evE] at aw
  refine ⟨S, M, ρ, w, sl, aw.bind.imp fun ds M1 S1 H1 t1 w1 aw1 vs rs => ?_⟩
  split at aw1
  · rename_i xs M2 hf
    split at aw1
    · rename_i hz
      obtain ⟨S2, w2, t2, r2⟩ := frzPs_ok w1 rs hf
      refine ⟨by rw [← r2.length]; exact sz_le hz, fun p np => ?_⟩
      have af : Aft X.K S2 H1 (.p (.tuple xs)) M2 Q := fun S' H' v t w r => aw1 S' H' (t2.trans t) w v r
      exact af.tup w2 r2 np
    · exact aw1.elim
  · exact aw1.elim
theorem ce_lst {mt : Bool} (h : PA X es (tEs X.K ex Wx fn cs)) : PE X (.List es pos) (tE X.K ex Wx fn (.lst mt cs)) := by
  refine (pe_lst h).weak fun σ H Q h => ?_
  obtain ⟨S, M, ρ, w, sl, aw⟩ := h
  simp only [evE] at aw
  refine ⟨S, M, ρ, w, sl, aw.bind.imp fun ds M1 S1 H1 t1 w1 aw1 vs rs => ?_⟩
  split at aw1
  · rename_i xs M2 hf
    split at aw1
    · rename_i hz
      obtain ⟨S2, w2, t2, r2⟩ := frzPs_ok w1 rs hf
      obtain ⟨r, M3, hb, af⟩ := aw1.ok alloc_ne
      exact ⟨by rw [← r2.length]; exact sz_le hz, fun p np => Aft.new w2 hb r2 (fun S' H' v t w r => af S' H' (t2.trans t) w v r) np⟩
    · exact aw1.elim
  · exact aw1.elim
theorem ce_idx {i : Expr} {ci : CE} (ha : PE X a (tE X.K ex Wx fn ca)) (hi : PE X i (tE X.K ex Wx fn ci)) (hs : PlainIx i) : PE X (.Subscript a i pos) (tE X.K ex Wx fn (.idx ca ci)) := by
  refine (pe_ix ix_any ha hi hs).weak fun σ H Q h => ?_
  obtain ⟨S, M, ρ, w, sl, aw⟩ := h
  simp only [evE] at aw
  refine ⟨S, M, ρ, w, sl, aw.bind.imp fun d M1 S1 H1 t1 w1 aw1 v1 r1 => ?_⟩
  refine ⟨S1, M1, ρ, w1, sl.mono t1, aw1.bind.imp fun d2 M2 S2 H2 t2 w2 aw2 v2 r2 => ?_⟩
  obtain ⟨r, M3, hb, af⟩ := aw2.ok idxop_ne
  exact ⟨S2, M2, d, d2, r, M3, w2, r1.mono t2, r2, hb, fun S' H' v t w r => af S' H' t w v r⟩
theorem _root_.L2.PO.weak {X : Cx} {e : Option Expr} {t t' : TO} (h : PO X e t) (f : ∀ σ H Q, t' σ H Q → t σ H Q) : PO X e t' := ⟨fun pins s σ H Q I q => h.run pins s σ H Q I (f σ H Q q)⟩
theorem co_none : PO X none (tO X.K ex Wx fn .no) := by
  refine L2.PO.weak po_none fun σ H Q h => ?_
  obtain ⟨S, M, ρ, w, sl, aw⟩ := h
  simp only [evO] at aw
  exact aw.of_ok w
theorem co_some (ha : PE X a (tE X.K ex Wx fn ca)) : PO X (some a) (tO X.K ex Wx fn (.yes ca)) := by
  refine L2.PO.weak (po_some ha) fun σ H Q h => ?_
  obtain ⟨S, M, ρ, w, sl, aw⟩ := h
  simp only [evO] at aw
  refine ⟨S, M, ρ, w, sl, aw.bind.imp fun d M1 S1 H1 t1 w1 aw1 v1 r1 => ?_⟩
  split at aw1
  · rename_i i hi
    unfold partI at hi
    split at hi
    · cases hi
      exact ⟨i, rp_int r1, aw1.of_ok w1⟩
    · cases hi
  · exact aw1.elim
theorem ce_rev {mt : Bool} {k : Nat} {p1 p2 p3 : Pos} (ha : PE X a (tE X.K ex Wx fn ca)) : PE X (.Subscript a (.Slice none none (some (.UnaryOp .USub (.Constant (.int 1) k p1) p2)) p3) pos) (tE X.K ex Wx fn (.rev mt ca)) := by
  refine (pe_back (rv_any mt) ha).weak fun σ H Q h => ?_
  obtain ⟨S, M, ρ, w, sl, aw⟩ := h
  simp only [evE] at aw
  refine ⟨S, M, ρ, w, sl, aw.bind.imp fun d M1 S1 H1 t1 w1 aw1 v1 r1 => ?_⟩
  obtain ⟨r, M4, hb, af⟩ := aw1.ok revop_ne
  exact ⟨S1, M1, d, r, M4, w1, r1, hb, fun S' H' v t w r => af S' H' t w v r⟩
theorem ce_slc {mt : Bool} {lo hi : Option Expr} {cl ch : CEo} {p2 : Pos} (ha : PE X a (tE X.K ex Wx fn ca)) (hl : PO X lo (tO X.K ex Wx fn cl)) (hh : PO X hi (tO X.K ex Wx fn ch)) : PE X (.Subscript a (.Slice lo hi none p2) pos) (tE X.K ex Wx fn (.slc mt ca cl ch)) := by
  refine (pe_slice (sl_any mt) ha hl hh).weak fun σ H Q h => ?_
  obtain ⟨S, M, ρ, w, sl, aw⟩ := h
  simp only [evE] at aw
  refine ⟨S, M, ρ, w, sl, aw.bind.imp fun d M1 S1 H1 t1 w1 aw1 v1 r1 => ?_⟩
  refine ⟨S1, M1, ρ, w1, sl.mono t1, aw1.bind.imp fun l M2 S2 H2 t2 w2 aw2 => ?_⟩
  refine ⟨S2, M2, ρ, w2, sl.mono (t1.trans t2), aw2.bind.imp fun h M3 S3 H3 t3 w3 aw3 => ?_⟩
  obtain ⟨r, M4, hb, af⟩ := aw3.ok slcop_ne
  exact ⟨S3, M3, d, r, M4, w3, r1.mono (t2.trans t3), hb, fun S' H' v t w r => af S' H' t w v r⟩
/-! ### calls -/
theorem backTo_any {pos : Pos} : ∀ l : List (Bool × Sem Value), l.any (·.1) = false → (backTo pos l).any (·.1) = false
  | [], _ => rfl
  | (b, x) :: l, h => by
    simp only [List.any_cons, Bool.or_eq_false_iff] at h
    unfold backTo
    simp only [List.map_cons, List.any_cons, Bool.or_eq_false_iff]
    refine ⟨h.1, ?_⟩
    have := backTo_any (pos := pos) l h.2
    unfold backTo at this
    exact this
def NoStar (e : Expr) : Prop := ∀ (rest : List Expr) (env : PySem.Env), starEach (e :: rest) env = (false, eval e env) :: starEach rest env
theorem noStar_any : ∀ {es : List Expr} {env : PySem.Env}, (∀ e ∈ es, NoStar e) → (starEach es env).any (·.1) = false
  | [], _, _ => by simp [starEach]
  | e :: es, env, h => by
    rw [h e List.mem_cons_self es env, List.any_cons, noStar_any fun x hx => h x (List.mem_cons_of_mem _ hx)]
    rfl
theorem call_red {f n : Nat} {σ : L2.St} {H : Hp} {Q : VK} (hlen : ∀ ρ M ds M', evEs fn cs ρ M = .ok ds M' → ds.length = n) (h : tE X.K ex Wx fn (.call f cs) σ H Q) : tCallG (spF X.K ex fn f n) [] Wx (tEs X.K ex Wx fn cs) σ H Q := by
  obtain ⟨S, M, ρ, w, sl, aw⟩ := h
  simp only [evE] at aw
  have hl := hlen ρ M
  refine ⟨S, M, ρ, w, sl, ?_⟩
  have aw := aw.bind
  cases e : evEs fn cs ρ M with
  | bad => rw [e] at aw; exact aw
  | exc c M => rw [e] at aw; exact aw
  | ok ds M1 =>
    rw [e] at aw
    intro S1 H1 t1 w1 vs rs
    rw [List.append_nil]
    refine ⟨S1, M1, ds, w1, rs, hl ds M1 e, ?_⟩
    have aw1 : Aw X.K ex Wx S1 H1 σ (fn f ds M1) _ := aw S1 H1 t1 w1
    cases e2 : fn f ds M1 with
    | bad => rw [e2] at aw1; exact aw1
    | exc c M => rw [e2] at aw1; exact aw1
    | ok d M2 => rw [e2] at aw1; exact aw1
theorem ce_call {k f n : Nat} {fa : Addr} {fd : FuncData} {ps : List Str} {x : Str} {p : Pos} (F : FnG X.prog X.w X.K X.mg X.base k fa fd ps (spF X.K ex fn f n)) (hgd : X.A.guards = some []) (hr : Room k X.A) (hg : Gl X x) (hm : X.mg x = some (.ref fa)) (hk : PySem.W.keepIn X.K (.ref fa) = true)
    (hb : Binds X.K fd ps []) (tk : Takes X Wx) (ha : PA X (e :: es) (tEs X.K ex Wx fn cs)) (hdb : (x == ("__debug__" : Str)) = false) (hst : ∀ y ∈ e :: es, NoStar y) (hlen : ∀ ρ M ds M', evEs fn cs ρ M = .ok ds M' → ds.length = n) :
    PE X (.Call (.Name x p) (e :: es) [] pos) (tE X.K ex Wx fn (.call f cs)) :=
  (pe_callG F hgd hr hg hm hk hb .nil tk ha hdb (hst e List.mem_cons_self es X.env) (backTo_any _ (noStar_any fun y hy => hst y (List.mem_cons_of_mem _ hy)))).weak fun σ H Q h => call_red hlen h
theorem ce_call0 {k f : Nat} {fa : Addr} {fd : FuncData} {ps : List Str} {x : Str} {p : Pos} (F : FnG X.prog X.w X.K X.mg X.base k fa fd ps (spF X.K ex fn f 0)) (hgd : X.A.guards = some []) (hr : Room k X.A) (hg : Gl X x) (hm : X.mg x = some (.ref fa)) (hk : PySem.W.keepIn X.K (.ref fa) = true)
    (hb : Binds X.K fd ps []) (tk : Takes X Wx) (hdb : (x == ("__debug__" : Str)) = false) : PE X (.Call (.Name x p) [] [] pos) (tE X.K ex Wx fn (.call f .nil)) := by
  refine (pe_callG0 F hgd hr hg hm hk hb .nil tk hdb).weak fun σ H Q h => ?_
  obtain ⟨S, M, ρ, w, sl, aw⟩ := call_red (X := X) (cs := .nil) (n := 0) (fun ρ M ds M' e => by simp only [evEs] at e; cases e; rfl) h
  simp only [evEs] at aw
  exact aw.of_ok w [] .nil
theorem blt_red {b : BF} {r : List V → Hp → VK → Prop} {σ : L2.St} {H : Hp} {Q : VK} (hr : ∀ vs H Q, rCD X.K (bltop b) vs H Q → r vs H Q) (h : tE X.K ex Wx fn (.blt b cs) σ H Q) : tCB r (tEs X.K ex Wx fn cs) σ H Q := by
  obtain ⟨S, M, ρ, w, sl, aw⟩ := h
  simp only [evE] at aw
  refine ⟨S, M, ρ, w, sl, aw.bind.imp fun ds M1 S1 H1 t1 w1 aw1 vs rs => hr _ _ _ ?_⟩
  obtain ⟨r, M4, hb, af⟩ := aw1.ok bltop_ne
  exact ⟨S1, M1, ds, r, M4, w1, rs, hb, fun S' H' v t w r => af S' H' t w v r⟩
theorem ce_bltB {b : BF} {x : Str} {id : String} {p : Pos} (hc : CallR X (.builtin id) (rCD X.K (bltop b))) (hg : Gl X x) (hm : X.mg x = none) (hv : bootBuiltins x = some (.builtin id)) (ha : PA X (e :: es) (tEs X.K ex Wx fn cs)) (hn : x ≠ "__name__") (hdb : (x == ("__debug__" : Str)) = false) (hst : ∀ y ∈ e :: es, NoStar y) :
    PE X (.Call (.Name x p) (e :: es) [] pos) (tE X.K ex Wx fn (.blt b cs)) :=
  (pe_callB hc hg hm hv ha hn hdb (hst e List.mem_cons_self es X.env) (backTo_any _ (noStar_any fun y hy => hst y (List.mem_cons_of_mem _ hy)))).weak fun σ H Q h => blt_red (fun _ _ _ h => h) h
theorem ce_bltT {b : BF} {x : Str} {id : String} {p : Pos} (hc : CallR X (.type id) (rCD X.K (bltop b))) (hg : Gl X x) (hm : X.mg x = none) (hv : bootBuiltins x = some (.type id)) (ha : PA X (e :: es) (tEs X.K ex Wx fn cs)) (hn : x ≠ "__name__") (hdb : (x == ("__debug__" : Str)) = false) (hst : ∀ y ∈ e :: es, NoStar y) :
    PE X (.Call (.Name x p) (e :: es) [] pos) (tE X.K ex Wx fn (.blt b cs)) :=
  (pe_callTy hc hg hm hv ha hn hdb (hst e List.mem_cons_self es X.env) (backTo_any _ (noStar_any fun y hy => hst y (List.mem_cons_of_mem _ hy)))).weak fun σ H Q h => blt_red (fun _ _ _ h => h) h
/-- isinstance(a, T) -/
theorem ce_isi {t : Ty} {p p2 : Pos} {T : Str} (hg : Gl X "isinstance") (hm : X.mg "isinstance" = none) (hg2 : Gl X T) (hm2 : X.mg T = none) (hv2 : bootBuiltins T = some (.type (tyName t))) (hn2 : T ≠ "__name__") (hd2 : (T == ("__debug__" : Str)) = false) (ha : PE X a (tE X.K ex Wx fn ca)) (hst : NoStar a) :
    PE X (.Call (.Name "isinstance" p) [a, .Name T p2] [] pos) (tE X.K ex Wx fn (.blt (.isi t) (.cons ca .nil))) := by
  refine (pe_callB (b_isi t) hg hm (by decide +kernel) (pa_cons ha (pa_cons (pe_bltn (v := .ty (tyName t)) hg2 hm2 hv2 rfl hn2 hd2) pa_nil rfl) (hst _ _)) (by decide) (by decide) (hst _ _) rfl).weak fun σ H Q h => ?_
  obtain ⟨S, M, ρ, w, sl, aw⟩ := h
  simp only [evE, evEs] at aw
  have aw := aw.bind
  refine ⟨S, M, ρ, w, sl, aw.bind.imp fun d M1 S1 H1 t1 w1 aw1 v1 r1 => ?_⟩
  refine ⟨v1, rfl, ?_⟩
  have aw1 := aw1.of_ok w1
  obtain ⟨r, M4, hb, af⟩ := aw1.ok bltop_ne
  exact ⟨S1, M1, [d], r, M4, w1, .cons r1 .nil, hb, fun S' H' v t w r => af S' H' t w v r⟩
/-! ### methods of lists -/
theorem recv_ty {K : Kf} {S : Sk} {M : Mem} {H : Hp} {d : D} {v : V} (w : W K S M H) (r : RD K S H d v) (h : recv d M = true) : tyV K "list" v H := by
  unfold recv at h
  split at h
  · rename_i xs hd
    obtain ⟨a, vs, e1, q1, _⟩ := rd_lst w r hd
    subst e1
    exact .inl ⟨rfl, vs, .inl q1⟩
  · cases h
theorem ce_mth {m : MF} {name : Str} {id : String} {o : Expr} {co : CE} {apos : Pos} (slot : Slot "list" name id) (hty : typeOf (.builtin id) = pure (.type "method_descriptor"))
    (hm : MtM X id (fun x vs H Q => ∃ S M o ds r M', W X.K S M H ∧ RD X.K S H o x ∧ RDs X.K S H ds vs ∧ mthop m o ds M = .ok r M' ∧ Aft X.K S H r M' Q)) (hne : ∀ o ds M c M', mthop m o ds M ≠ .exc c M')
    (ho : PE X o (tE X.K ex Wx fn co)) (ha : PA X (e :: es) (tEs X.K ex Wx fn cs)) (hbase : attributeBase o name X.env (eval o X.env) = eval o X.env) (hline : (apos.endLine == pos.line) = true) (hfew : (e :: es).length < 30) (hst : ∀ y ∈ e :: es, NoStar y) :
    PE X (.Call (.Attribute o name apos) (e :: es) [] pos) (tE X.K ex Wx fn (.mth m co cs)) := by
  have nost := backTo_any (pos := pos) _ (noStar_any (env := X.env) hst)
  have few : ((backTo pos (starEach (e :: es) X.env)).all (fun x => !x.1) && (backToKw pos (keywordEach [] X.env)).all (fun x => x.1.isSome) && decide ((e :: es).length + ([] : List Keyword).length + (if ([] : List Keyword).isEmpty then 0 else 1) < 30)) = true := by
    have h1 : (backTo pos (starEach (e :: es) X.env)).all (fun x => !x.1) = true := by
      rw [List.all_eq_true]
      intro y hy
      have := List.any_eq_false.mp nost y hy
      simpa using this
    have h2 : (backToKw pos (keywordEach [] X.env)).all (fun x => x.1.isSome) = true := by simp [keywordEach, backToKw]
    have h3 : (e :: es).length + ([] : List Keyword).length + (if ([] : List Keyword).isEmpty then 0 else 1) < 30 := by
      show (e :: es).length + 0 + 0 < 30
      omega
    rw [h1, h2, decide_eq_true h3]
    rfl
  refine (pe_bm PySem.F.plainAttrs_list slot hty hm ho ha hbase few hline (hst e List.mem_cons_self es X.env) (backTo_any _ (noStar_any fun y hy => hst y (List.mem_cons_of_mem _ hy)))).weak fun σ H Q h => ?_
  obtain ⟨S, M, ρ, w, sl, aw⟩ := h
  simp only [evE] at aw
  refine ⟨S, M, ρ, w, sl, aw.bind.imp fun d M1 S1 H1 t1 w1 aw1 v1 r1 => ?_⟩
  split at aw1
  · rename_i hr
    refine ⟨recv_ty w1 r1 hr, S1, M1, ρ, w1, sl.mono t1, aw1.bind.imp fun ds M2 S2 H2 t2 w2 aw2 vs rs => ?_⟩
    obtain ⟨r, M4, hb, af⟩ := aw2.ok (hne _ _ _)
    exact ⟨S2, M2, d, ds, r, M4, w2, r1.mono t2, rs, hb, fun S' H' v t w r => af S' H' t w v r⟩
  · exact aw1.elim
end
end Mi

set_option Elab.async false
set_option linter.all false
set_option maxRecDepth 100000
set_option maxHeartbeats 1000000
/-! Mi: targets, what is walked, comprehensions. -/
namespace Mi
open PySem PySem.Spec PyProof.Rows L2

/-! ### targets -/
def Off (is : List Nat) (σ σ' : L2.St) : Prop := σ'.length = σ.length ∧ ∀ i, i ∉ is → σ'[i]? = σ[i]?
def tgSlots : Tg → List Nat
  | .nm i => [i]
  | .tp is => is
def tG (K : Kf) (t : Tg) : TG := fun v σ H Q => ∃ S M ρ x ρ', W K S M H ∧ Sl K S H ρ σ ∧ RP K S H x v ∧ bindT t x ρ = some ρ' ∧ ∀ σ', Sl K S H ρ' σ' → Off (tgSlots t) σ σ' → Q σ' H
theorem _root_.L2.PG.weak {X : Cx} {e : Expr} {t t' : TG} (h : PG X e t) (f : ∀ v σ H Q, t' v σ H Q → t v σ H Q) : PG X e t' := ⟨fun pins s σ H v u Q I r q => h.run pins s σ H v u Q I r (f v σ H Q q)⟩
theorem off_set {i : Nat} {v : Option V} {σ : L2.St} : Off [i] σ (σ.set i v) := ⟨by simp, fun j hj => List.getElem?_set_ne (fun e => hj (by simp [e]))⟩
theorem Off.trans {a b : List Nat} {σ σ' σ'' : L2.St} (h : Off a σ σ') (h' : Off b σ' σ'') : Off (a ++ b) σ σ'' :=
  ⟨h'.1.trans h.1, fun i hi => (h'.2 i (fun z => hi (List.mem_append_right _ z))).trans (h.2 i fun z => hi (List.mem_append_left _ z))⟩
theorem wipe_get {σ : L2.St} {i : Nat} : ∀ {vs : List Nat}, (L2.wipe σ vs)[i]? = if i ∈ vs ∧ i < σ.length then some none else σ[i]?
  | [] => by simp [L2.wipe]
  | v :: vs => by
    unfold L2.wipe
    by_cases h : v = i
    · subst h
      by_cases hl : v < σ.length
      · rw [List.getElem?_set_self (by rw [wipe_length]; exact hl), if_pos ⟨List.mem_cons_self, hl⟩]
      · rw [List.getElem?_eq_none (by simp [wipe_length]; omega), if_neg (fun z => hl z.2), List.getElem?_eq_none (by omega)]
    · rw [List.getElem?_set_ne h, wipe_get]
      have : (i ∈ v :: vs) ↔ i ∈ vs := by simp [Ne.symm h]
      simp only [this]
theorem off_wipe {is vs : List Nat} {σ σ' : L2.St} (h : Off is (L2.wipe σ vs) σ') (hs : ∀ i ∈ is, i ∈ vs) : L2.wipe σ' vs = L2.wipe σ vs := by
  have hl : σ'.length = σ.length := by rw [h.1, wipe_length]
  apply List.ext_getElem?
  intro i
  rw [wipe_get, wipe_get, hl]
  by_cases hi : i ∈ vs
  · by_cases hil : i < σ.length
    · rw [if_pos ⟨hi, hil⟩, if_pos ⟨hi, hil⟩]
    · rw [if_neg (fun z => hil z.2), if_neg (fun z => hil z.2), List.getElem?_eq_none (by omega), List.getElem?_eq_none (by omega)]
  · rw [if_neg (fun z => hi z.1), if_neg (fun z => hi z.1), h.2 i (fun z => hi (hs i z)), wipe_get, if_neg (fun z => hi z.1)]
section
variable {X : Cx}
theorem cg_name {i : Nat} {x : Str} {pos : Pos} (hN : X.N.Nodup) (hi : X.N[i]? = some x) (hx : Loc X.env.scope x) (hf : X.fn x = true ∨ X.env.scope.names.lookup x = some .local) : PG X (.Name x pos) (tG X.K (.nm i)) := by
  refine (pg_name hN hi hx hf).weak fun v σ H Q h => ?_
  obtain ⟨S, M, ρ, x, ρ', w, sl, r, hb, q⟩ := h
  cases hb
  exact q _ (sl.set i r) off_set
/-- names of a tuple target, from the left -/
structure NmsOk (X : Cx) (es : List Expr) (is : List Nat) : Prop where
  go : PGs X es (fun vs σ H Q => ∃ S M ρ xs ρ', W X.K S M H ∧ Sl X.K S H ρ σ ∧ RPs X.K S H xs vs ∧ setAll is xs ρ = some ρ' ∧ ∀ σ', Sl X.K S H ρ' σ' → Off is σ σ' → Q σ' H)
  len : ∀ env, (assignEach es env).length = is.length
  star : ∀ env, (assignEach es env).findIdx? (·.1) = none
theorem _root_.L2.PGs.weak {X : Cx} {e : List Expr} {t t' : TGs} (h : PGs X e t) (f : ∀ v σ H Q, t' v σ H Q → t v σ H Q) : PGs X e t' := ⟨fun pins s σ H v u Q I r q => h.run pins s σ H v u Q I r (f v σ H Q q)⟩
theorem nms_nil : NmsOk X [] [] := by
  refine ⟨pgs_nil.weak fun vs σ H Q h => ?_, fun env => rfl, fun env => rfl⟩
  obtain ⟨S, M, ρ, xs, ρ', w, sl, r, hb, q⟩ := h
  cases xs with
  | nil =>
    cases r
    cases hb
    exact ⟨rfl, q σ sl ⟨rfl, fun _ _ => rfl⟩⟩
  | cons a b => cases hb
theorem nms_cons {i : Nat} {is : List Nat} {x : Str} {pos : Pos} {es : List Expr} (h1 : PG X (.Name x pos) (tG X.K (.nm i))) (h2 : NmsOk X es is) : NmsOk X (.Name x pos :: es) (i :: is) := by
  refine ⟨(pgs_cons h1 h2.go rfl).weak fun vs σ H Q h => ?_, fun env => ?_, fun env => ?_⟩
  · obtain ⟨S, M, ρ, xs, ρ', w, sl, r, hb, q⟩ := h
    cases r with
    | nil => cases hb
    | cons a b =>
      refine ⟨_, _, rfl, S, M, ρ, _, _, w, sl, a, rfl, fun σ' sl' off => ?_⟩
      exact ⟨S, M, _, _, ρ', w, sl', b, hb, fun σ'' sl'' off'' => q σ'' sl'' (off.trans off'')⟩
  · show (assignEach es env).length + 1 = _
    rw [h2.len env]; rfl
  · show ((false, assign (.Name x pos) env) :: assignEach es env).findIdx? (·.1) = none
    rw [List.findIdx?_cons]
    simp [h2.star env]
theorem cg_tup {es : List Expr} {is : List Nat} {k : Nat} {pos : Pos} (hc : X.calm = true) (h : NmsOk X es is) : PG X (.Tuple es k pos) (tG X.K (.tp is)) := by
  refine (pg_tup hc h.go (h.len _) (h.star _)).weak fun v σ H Q hh => ?_
  obtain ⟨S, M, ρ, x, ρ', w, sl, r, hb, q⟩ := hh
  unfold bindT at hb
  dsimp only at hb
  split at hb
  · rename_i xs
    cases r with
    | tup h1 h2 =>
      have hl : ∀ (is : List Nat) (xs : List PyData) (ρ ρ' : Env), setAll is xs ρ = some ρ' → xs.length = is.length := by
        intro is
        induction is with
        | nil => intro xs ρ ρ' h; cases xs with
          | nil => rfl
          | cons a b => cases h
        | cons i is ih => intro xs ρ ρ' h; cases xs with
          | nil => cases h
          | cons a b => simp only [setAll] at h; simp [ih _ _ _ h]
      exact ⟨_, _, rfl, h1.sq, by rw [← h2.length]; exact hl _ _ _ _ hb, S, M, ρ, xs, ρ', w, sl, h2, hb, q⟩
  · cases hb
end

/-! ### what is walked -/
/-- jt gives the items xs, whatever happens that is a step from here -/
structure ItR (K : Kf) (S : Sk) (H : Hp) (xs : List PyData) (jt : L2.It) : Prop where
  go : ∀ i S1 H1, i < xs.length → Stp S H S1 H1 → jt.go i H1
  stop : ∀ S1 H1, Stp S H S1 H1 → jt.stop xs.length H1
  yld : ∀ i S1 H1 M1 x H2 y, xs[i]? = some y → Stp S H S1 H1 → W K S1 M1 H1 → jt.yld i H1 x H2 → Stp S1 H1 S1 H2 ∧ W K S1 M1 H2 ∧ RP K S1 H2 y x
def IterOk (K : Kf) (S : Sk) (H : Hp) : It → L2.It → Prop
  | .items xs, jt => ItR K S H xs jt
  | .live j, jt => ∃ a, S.L[j]? = some (some a) ∧ jt = Itl K a
def tI (K : Kf) (ex : Nat → Value) (Wx : WX) (fn : Fn) (c : CI) : TI := fun σ H R => ∃ S M ρ, W K S M H ∧ Sl K S H ρ σ ∧ Aw K ex Wx S H σ (evI fn c ρ M) fun J _ S' H' => ∀ jt, IterOk K S' H' J jt → R jt H'
theorem _root_.L2.PI.weak {X : Cx} {tg e : Expr} {t t' : TI} (h : PI X tg e t) (f : ∀ σ H R, t' σ H R → t σ H R) : PI X tg e t' := ⟨fun pins s σ H R I q => h.run pins s σ H R I (f σ H R q)⟩
section
variable {K : Kf} {S : Sk} {H : Hp}
theorem itr_list {a : Addr} {vs : List V} {xs : List PyData} (h : Rd H a (.lst vs)) (n : S.no a) (r : RPs K S H xs vs) : ItR K S H xs (Itl K a) := by
  have at' : ∀ {S1 H1}, Stp S H S1 H1 → SqL K H1 a vs := fun t => .inl (t.kp.rd h n)
  refine ⟨fun i S1 H1 hi t => ?_, fun S1 H1 t => ⟨vs, at' t, by rw [r.length]; exact Nat.le_refl _⟩, fun i S1 H1 M1 x H2 y hy t w hyl => ?_⟩
  · obtain ⟨u, hu, _⟩ := r.get (List.getElem?_eq_getElem hi)
    exact ⟨vs, u, at' t, hu⟩
  · obtain ⟨rfl, hx⟩ := hyl
    obtain ⟨u, hu, ru⟩ := r.get hy
    have := hx vs (at' t)
    rw [hu] at this
    cases this
    exact ⟨.refl, w, ru.mono t⟩
theorem itr_tup {a : Addr} {vs : List V} {xs : List PyData} (h : SqT' K S H a vs) (r : RPs K S H xs vs) : ItR K S H xs (Itt K a) := by
  have at' : ∀ {S1 H1}, Stp S H S1 H1 → SqT K H1 a vs := fun t => by
    rcases h with ⟨h, n⟩ | h
    · exact .inl (t.kp.rd h n)
    · exact .inr h
  refine ⟨fun i S1 H1 hi t => ?_, fun S1 H1 t => ⟨vs, at' t, by rw [r.length]; exact Nat.le_refl _⟩, fun i S1 H1 M1 x H2 y hy t w hyl => ?_⟩
  · obtain ⟨u, hu, _⟩ := r.get (List.getElem?_eq_getElem hi)
    exact ⟨vs, u, at' t, hu⟩
  · obtain ⟨rfl, hx⟩ := hyl
    obtain ⟨u, hu, ru⟩ := r.get hy
    have := hx vs (at' t)
    rw [hu] at this
    cases this
    exact ⟨.refl, w, ru.mono t⟩
theorem rngP_len (a b : Int) : (rngP a b).length = (b - a).toNat := by unfold rngP; simp
theorem itr_rng {a b : Int} : ItR K S H (rngP a b) (Itr a (b - a).toNat) := by
  refine ⟨fun i S1 H1 hi t => by rw [rngP_len] at hi; exact hi, fun S1 H1 t => by rw [rngP_len]; exact Nat.le_refl _, fun i S1 H1 M1 x H2 y hy t w hyl => ?_⟩
  obtain ⟨rfl, rfl⟩ := hyl
  unfold rngP at hy
  rw [List.getElem?_map] at hy
  by_cases hi : i < (b - a).toNat
  · rw [List.getElem?_range hi] at hy
    cases hy
    exact ⟨.refl, w, .int _⟩
  · rw [List.getElem?_eq_none (by simpa using hi)] at hy
    cases hy
/-- a new pair -/
theorem pair_new {M1 : Mem} {S1 : Sk} {H1 : Hp} {T : Addr} {d1 d2 : PyData} {x y : V} (w : W K S1 M1 H1) (n : H1 T = none) (r1 : RP K S1 H1 d1 x) (r2 : RP K S1 H1 d2 y) :
    Stp S1 H1 S1 (upd H1 T (.tup [x, y])) ∧ W K S1 M1 (upd H1 T (.tup [x, y])) ∧ RP K S1 (upd H1 T (.tup [x, y])) (.tuple [d1, d2]) (.ref T) := by
  have t : Stp S1 H1 S1 (upd H1 T (.tup [x, y])) := .fresh n
  exact ⟨t, w.fresh n, .tup (.inl ⟨.inl upd_same, fun h => w.al T h n, fun h => w.zl T h n⟩) (.cons (r1.mono t) (.cons (r2.mono t) .nil))⟩
theorem enumP_get : ∀ {xs : List PyData} {k i : Nat} {y : PyData}, (enumP k xs)[i]? = some y → ∃ x, xs[i]? = some x ∧ y = .tuple [.int ((k + i : Nat) : Int), x]
  | [], k, i, y, h => by simp [enumP] at h
  | x :: xs, k, 0, y, h => by
    simp only [enumP, List.getElem?_cons_zero, Option.some.injEq] at h
    exact ⟨x, rfl, h.symm⟩
  | x :: xs, k, i + 1, y, h => by
    simp only [enumP, List.getElem?_cons_succ] at h
    obtain ⟨z, h1, h2⟩ := enumP_get h
    exact ⟨z, by simpa using h1, by rw [h2]; congr 3; omega⟩
theorem enumP_len : ∀ (xs : List PyData) (k : Nat), (enumP k xs).length = xs.length
  | [], _ => rfl
  | x :: xs, k => by simp [enumP, enumP_len xs]
theorem itr_enum {a : Addr} {vs : List V} {xs : List PyData} (h : Rd H a (.lst vs)) (n : S.no a) (r : RPs K S H xs vs) : ItR K S H (enumP 0 xs) (Ite K a) := by
  have at' : ∀ {S1 H1}, Stp S H S1 H1 → SqL K H1 a vs := fun t => .inl (t.kp.rd h n)
  have wk := walk_enum (K := K) (a := a) (xs := vs)
  refine ⟨fun i S1 H1 hi t => wk.goes i H1 (by rw [enumP_len, r.length] at hi; exact hi) (at' t), fun S1 H1 t => by rw [enumP_len, r.length]; exact wk.stops H1 (at' t), fun i S1 H1 M1 x H2 y hy t w hyl => ?_⟩
  obtain ⟨d, hd, rfl⟩ := enumP_get hy
  obtain ⟨u, hu, ru⟩ := r.get hd
  have hi : i < vs.length := (List.getElem?_eq_some_iff.mp hu).1
  obtain ⟨T, x1, x2, rfl, nT, rfl, e1, e2⟩ := wk.yields i H1 x H2 hi (at' t) hyl
  cases e1
  have e2 : vs[i]? = some x2 := e2
  rw [hu] at e2
  cases e2
  rw [Nat.zero_add]
  exact pair_new w nT (.int _) (ru.mono t)
theorem zipP_get : ∀ {xs ys : List PyData} {i : Nat} {z : PyData}, (zipP xs ys)[i]? = some z → ∃ x y, xs[i]? = some x ∧ ys[i]? = some y ∧ z = .tuple [x, y]
  | [], _, i, z, h => by simp [zipP] at h
  | x :: xs, [], i, z, h => by simp [zipP] at h
  | x :: xs, y :: ys, 0, z, h => by
    simp only [zipP, List.getElem?_cons_zero, Option.some.injEq] at h
    exact ⟨x, y, rfl, rfl, h.symm⟩
  | x :: xs, y :: ys, i + 1, z, h => by
    simp only [zipP, List.getElem?_cons_succ] at h
    obtain ⟨a, b, h1, h2, h3⟩ := zipP_get h
    exact ⟨a, b, by simpa using h1, by simpa using h2, h3⟩
theorem zipP_len : ∀ (xs ys : List PyData), (zipP xs ys).length = min xs.length ys.length
  | [], ys => by simp [zipP]
  | x :: xs, [] => by simp [zipP]
  | x :: xs, y :: ys => by simp only [zipP, List.length_cons, zipP_len xs ys]; omega
theorem itr_zip {a b : Addr} {vs us : List V} {xs ys : List PyData} (h : Rd H a (.lst vs)) (n : S.no a) (r : RPs K S H xs vs) (h' : Rd H b (.lst us)) (n' : S.no b) (r' : RPs K S H ys us) : ItR K S H (zipP xs ys) (Itz K a b) := by
  have at' : ∀ {S1 H1}, Stp S H S1 H1 → SqL K H1 a vs ∧ SqL K H1 b us := fun t => ⟨.inl (t.kp.rd h n), .inl (t.kp.rd h' n')⟩
  have wk := walk_zip (K := K) (a := a) (b := b) (xs := vs) (ys := us) rfl
  have hlen : (zipP xs ys).length = min vs.length us.length := by rw [zipP_len, r.length, r'.length]
  refine ⟨fun i S1 H1 hi t => wk.goes i H1 (by rw [← hlen]; exact hi) (at' t), fun S1 H1 t => by rw [hlen]; exact wk.stops H1 (at' t), fun i S1 H1 M1 x H2 y hy t w hyl => ?_⟩
  have hi : i < min vs.length us.length := by rw [← hlen]; exact (List.getElem?_eq_some_iff.mp hy).1
  obtain ⟨d, e, hd, he, rfl⟩ := zipP_get hy
  obtain ⟨u, hu, ru⟩ := r.get hd
  obtain ⟨u', hu', ru'⟩ := r'.get he
  obtain ⟨T, x1, x2, rfl, nT, rfl, e1, e2⟩ := wk.yields i H1 x H2 hi (at' t) hyl
  have e1 : vs[i]? = some x1 := e1
  have e2 : us[i]? = some x2 := e2
  rw [hu] at e1
  rw [hu'] at e2
  cases e1
  cases e2
  exact pair_new w nT (ru.mono t) (ru'.mono t)
theorem itr_zipT {a b : Addr} {vs us : List V} {xs ys : List PyData} (h : SqT' K S H a vs) (r : RPs K S H xs vs) (h' : SqT' K S H b us) (r' : RPs K S H ys us) : ItR K S H (zipP xs ys) (RZ.ItzT K a b) := by
  have one : ∀ {a : Addr} {vs : List V} {S1 H1}, SqT' K S H a vs → Stp S H S1 H1 → SqT K H1 a vs := fun h t => by
    rcases h with ⟨h, n⟩ | h
    · exact .inl (t.kp.rd h n)
    · exact .inr h
  have hlen : (zipP xs ys).length = min vs.length us.length := by rw [zipP_len, r.length, r'.length]
  refine ⟨fun i S1 H1 hi t => ?_, fun S1 H1 t => ?_, fun i S1 H1 M1 x H2 y hy t w hyl => ?_⟩
  · rw [hlen] at hi
    have h1 : i < vs.length := by omega
    have h2 : i < us.length := by omega
    exact ⟨vs, us, vs[i], us[i], one h t, one h' t, by simp [h1], by simp [h2]⟩
  · refine ⟨vs, us, one h t, one h' t, ?_⟩
    rw [hlen]; omega
  · obtain ⟨d, e, hd, he, rfl⟩ := zipP_get hy
    obtain ⟨u, hu, ru⟩ := r.get hd
    obtain ⟨u', hu', ru'⟩ := r'.get he
    obtain ⟨T, x1, x2, rfl, nT, rfl, e1, e2⟩ := hyl
    have e1 := e1 vs (one h t)
    have e2 := e2 us (one h' t)
    rw [hu] at e1
    rw [hu'] at e2
    cases e1
    cases e2
    exact pair_new w nT (ru.mono t) (ru'.mono t)
end
section
variable {X : Cx} {ex : Nat → Value} {Wx : WX} {fn : Fn} {a b e tg : Expr} {ca cb cc : CE} {pos : Pos}
theorem pi_sq {te : TE} (he : PE X e te) : PI X tg e (fun σ H R => te σ H fun x H1 => ∃ a, x = .ref a ∧ (((∃ xs, SqL X.K H1 a xs) ∧ R (Itl X.K a) H1) ∨ ((∃ xs, SqT X.K H1 a xs) ∧ R (Itt X.K a) H1))) := by
  refine ⟨fun pins s σ H R I h => thn (he.run pins s σ H _ I h) fun v s1 ⟨x, H1, I1, r1, a, ea, q⟩ => ?_⟩
  subst ea
  cases r1
  rcases q with ⟨⟨xs, hq⟩, q⟩ | ⟨⟨xs, hq⟩, q⟩
  · obtain ⟨its, _, pl, _⟩ := I1.list hq
    refine wpAny_pyIter_list pl.isList ⟨s1.heap.objs.size, [s1.heap.objs.size], _, _, H1, rfl, I1.kept (t' := s1.toks) fun b o z => Heap.get?_push_of_some _ z, turn_list a _, ⟨_, Heap.get?_push_size _ rfl, rfl, rfl⟩, fun b hb => ?_, q⟩
    obtain rfl : b = s1.heap.objs.size := by simpa using hb
    exact I1.fpOk (Nat.le_refl _) (I1.hok.fresh (Nat.le_refl _))
  · obtain ⟨its, _, pl, _⟩ := I1.tuple hq
    refine wpAny_pyIter_tuple (show s1.heap.IsTuple a its.toArray from pl) ⟨s1.heap.objs.size, [s1.heap.objs.size], _, _, H1, rfl, I1.kept (t' := s1.toks) fun b o z => Heap.get?_push_of_some _ z, turn_tuple a _, ⟨_, Heap.get?_push_size _ rfl, rfl, rfl⟩, fun b hb => ?_, q⟩
    obtain rfl : b = s1.heap.objs.size := by simpa using hb
    exact I1.fpOk (Nat.le_refl _) (I1.hok.fresh (Nat.le_refl _))
theorem ci_seq (he : PE X e (tE X.K ex Wx fn ca)) : PI X tg e (tI X.K ex Wx fn (.seq ca)) := by
  refine (pi_sq he).weak fun σ H R h => ?_
  obtain ⟨S, M, ρ, w, sl, aw⟩ := h
  simp only [evI] at aw
  refine ⟨S, M, ρ, w, sl, aw.bind.imp fun d M1 S1 H1 t1 w1 aw1 v1 r1 => ?_⟩
  split at aw1
  · rename_i J hJ
    have q := aw1.of_ok w1
    unfold seqOf at hJ
    split at hJ
    · rename_i xs
      cases hJ
      cases (show RP X.K S1 H1 (.list xs) v1 from r1) with
      | lst h1 h2 h3 => exact ⟨_, rfl, .inl ⟨⟨_, .inl h1⟩, q _ (itr_list h1 h2 h3)⟩⟩
    · rename_i xs
      cases hJ
      cases (show RP X.K S1 H1 (.tuple xs) v1 from r1) with
      | tup h1 h2 => exact ⟨_, rfl, .inr ⟨⟨_, h1.sq⟩, q _ (itr_tup h1 h2)⟩⟩
    · rename_i i
      split at hJ
      · rename_i xs hm
        cases hJ
        obtain ⟨a, ha⟩ := w1.lv i xs hm
        obtain ⟨vs, h1, h2⟩ := w1.ob i a xs ha hm
        exact ⟨a, r1.2 a ha, .inl ⟨⟨vs, .inl (.inl h1)⟩, q _ ⟨a, ha, rfl⟩⟩⟩
      · cases hJ
    · cases hJ
  · exact aw1.elim
theorem rngOk_of {j : Int} (h : rngOk j = true) : -(2 ^ 62) ≤ j ∧ j < 2 ^ 62 := by
  unfold rngOk at h
  simp only [Bool.and_eq_true, decide_eq_true_eq] at h
  exact h
theorem ci_rng {p : Pos} (hg : Gl X "range") (hm : X.mg "range" = none) (ha : PE X a (tE X.K ex Wx fn ca)) (hs : NoStar a) : PI X tg (.Call (.Name "range" p) [a] [] pos) (tI X.K ex Wx fn (.rng ca)) := by
  refine (pi_range1 hg hm (pa_cons ha pa_nil (hs _ _)) (hs _ _)).weak fun σ H R h => ?_
  obtain ⟨S, M, ρ, w, sl, aw⟩ := h
  simp only [evI] at aw
  refine ⟨S, M, ρ, w, sl, aw.bind.imp fun d M1 S1 H1 t1 w1 aw1 v1 r1 => ?_⟩
  split at aw1
  · rename_i j
    split at aw1
    · rename_i hj
      obtain ⟨h1, h2⟩ := rngOk_of hj
      have q := itr_rng (K := X.K) (S := S1) (H := H1) (a := 0) (b := j)
      rw [Int.sub_zero] at q
      exact ⟨j, by rw [rp_int r1], h1, h2, aw1.of_ok w1 _ q⟩
    · exact aw1.elim
  · exact aw1.elim
theorem ci_rng2 {p : Pos} (hg : Gl X "range") (hm : X.mg "range" = none) (ha : PE X a (tE X.K ex Wx fn ca)) (hb : PE X b (tE X.K ex Wx fn cb)) (hs : NoStar a) (hs2 : NoStar b) : PI X tg (.Call (.Name "range" p) [a, b] [] pos) (tI X.K ex Wx fn (.rng2 ca cb)) := by
  refine (pi_range2 hg hm (pa_cons ha (pa_cons hb pa_nil (hs2 _ _)) (hs _ _)) (by rw [hs, hs2]; rfl) (by rw [hs2]; rfl)).weak fun σ H R h => ?_
  obtain ⟨S, M, ρ, w, sl, aw⟩ := h
  simp only [evI] at aw
  refine ⟨S, M, ρ, w, sl, aw.bind.imp fun d M1 S1 H1 t1 w1 aw1 v1 r1 => ?_⟩
  refine ⟨S1, M1, ρ, w1, sl.mono t1, aw1.bind.imp fun d2 M2 S2 H2 t2 w2 aw2 v2 r2 => ?_⟩
  split at aw2
  · rename_i i j
    split at aw2
    · rename_i hj
      simp only [Bool.and_eq_true] at hj
      obtain ⟨h1, h2⟩ := rngOk_of hj.1
      obtain ⟨h3, h4⟩ := rngOk_of hj.2
      exact ⟨i, j, by rw [rp_int r1, rp_int r2], ⟨h1, h2, h3, h4⟩, aw2.of_ok w2 _ itr_rng⟩
    · exact aw2.elim
  · exact aw2.elim
theorem ci_enum {p tpos : Pos} {elts : List Expr} {kk : Nat} (hg : Gl X "enumerate") (hm : X.mg "enumerate" = none) (ha : PE X a (tE X.K ex Wx fn ca)) (hs : NoStar a) : PI X (.Tuple elts kk tpos) (.Call (.Name "enumerate" p) [a] [] pos) (tI X.K ex Wx fn (.enum ca)) := by
  refine (pi_enum hg hm (pa_cons ha pa_nil (hs _ _)) (hs _ _)).weak fun σ H R h => ?_
  obtain ⟨S, M, ρ, w, sl, aw⟩ := h
  simp only [evI] at aw
  refine ⟨S, M, ρ, w, sl, aw.bind.imp fun d M1 S1 H1 t1 w1 aw1 v1 r1 => ?_⟩
  split at aw1
  · rename_i xs
    cases (show RP X.K S1 H1 (.list xs) v1 from r1) with
    | lst h1 h2 h3 => exact ⟨_, _, rfl, .inl h1, aw1.of_ok w1 _ (itr_enum h1 h2 h3)⟩
  · exact aw1.elim
theorem ci_zip {p tpos : Pos} {elts : List Expr} {kk : Nat} (hg : Gl X "zip") (hm : X.mg "zip" = none) (ha : PE X a (tE X.K ex Wx fn ca)) (hb : PE X b (tE X.K ex Wx fn cb)) (hs : NoStar a) (hs2 : NoStar b) : PI X (.Tuple elts kk tpos) (.Call (.Name "zip" p) [a, b] [] pos) (tI X.K ex Wx fn (.zip ca cb)) := by
  refine (RZ.pi_zipA hg hm (pa_cons ha (pa_cons hb pa_nil (hs2 _ _)) (hs _ _)) (hs _ _) (by rw [hs2]; rfl)).weak fun σ H R h => ?_
  obtain ⟨S, M, ρ, w, sl, aw⟩ := h
  simp only [evI] at aw
  refine ⟨S, M, ρ, w, sl, aw.bind.imp fun d M1 S1 H1 t1 w1 aw1 v1 r1 => ?_⟩
  refine ⟨S1, M1, ρ, w1, sl.mono t1, aw1.bind.imp fun d2 M2 S2 H2 t2 w2 aw2 v2 r2 => ?_⟩
  split at aw2
  · rename_i xs ys
    cases (show RP X.K S2 H2 (.list xs) v1 from RD.mono (d := .p (.list xs)) t2 r1) with
    | lst h1 h2 h3 =>
      cases (show RP X.K S2 H2 (.list ys) v2 from r2) with
      | lst g1 g2 g3 => exact ⟨_, _, _, _, rfl, .inl ⟨.inl h1, .inl g1, aw2.of_ok w2 _ (itr_zip h1 h2 h3 g1 g2 g3)⟩⟩
  · rename_i xs ys
    cases (show RP X.K S2 H2 (.tuple xs) v1 from RD.mono (d := .p (.tuple xs)) t2 r1) with
    | tup h1 h3 =>
      cases (show RP X.K S2 H2 (.tuple ys) v2 from r2) with
      | tup g1 g3 => exact ⟨_, _, _, _, rfl, .inr ⟨h1.sq, g1.sq, aw2.of_ok w2 _ (itr_zipT h1 h3 g1 g3)⟩⟩
  · exact aw2.elim
/-! ### comprehensions -/
/-- the tests of a comprehension -/
def tC1 (K : Kf) (ex : Nat → Value) (Wx : WX) (fn : Fn) (c : CEo) : TT := fun σ H Q => ∃ S M ρ, W K S M H ∧ Sl K S H ρ σ ∧ Aw K ex Wx S H σ (evC fn c ρ M) fun b M' S' H' => Q b H'
theorem _root_.L2.PTs.weak {X : Cx} {e : List Expr} {t t' : TT} (h : PTs X e t) (f : ∀ σ H Q, t' σ H Q → t σ H Q) : PTs X e t' := ⟨fun pins s σ H Q I q => h.run pins s σ H Q I (f σ H Q q)⟩
theorem cc_nil : PTs X [] (tC1 X.K ex Wx fn .no) := by
  refine pts_nil.weak fun σ H Q h => ?_
  obtain ⟨S, M, ρ, w, sl, aw⟩ := h
  simp only [evC] at aw
  exact aw.of_ok w
theorem cc_one (ha : PT X a (tT X.K ex Wx fn ca)) : PTs X [a] (tC1 X.K ex Wx fn (.yes ca)) := by
  refine (pts_one ha).weak fun σ H Q h => ?_
  obtain ⟨S, M, ρ, w, sl, aw⟩ := h
  simp only [evC] at aw
  refine ⟨S, M, ρ, w, sl, aw.bind.imp fun d M1 S1 H1 t1 w1 aw1 => ?_⟩
  obtain ⟨b, hb, q⟩ := toB_ok aw1 w1
  exact ⟨b, hb, q⟩
theorem kp_upd {S : Sk} {H : Hp} {p : Addr} {o : HO} (h : p ∈ S.Z) : Kp S H S (upd H p o) := ⟨fun _ _ n => n, fun a u e n => by rw [upd_ne (fun z : a = p => n.2 (by rw [z]; exact h))]; exact e⟩
theorem W.zupd {K : Kf} {S : Sk} {M : Mem} {H : Hp} (w : W K S M H) {p : Addr} {o : HO} (h : p ∈ S.Z) : W K S M (upd H p o) := by
  have lv : ∀ a, H a ≠ none → upd H p o a ≠ none := fun a ha => by
    by_cases e : a = p
    · subst e; rw [upd_same]; exact Option.some_ne_none _
    · rw [upd_ne e]; exact ha
  refine ⟨w.len, w.nd, fun i a xs h1 h2 => ?_, fun a ha => lv a (w.al a ha), fun a ha => lv a (w.zl a ha), w.dj, w.lv⟩
  obtain ⟨vs, q1, q2⟩ := w.ob i a xs h1 h2
  refine ⟨vs, ?_, q2.kp (kp_upd h)⟩
  rw [upd_ne (fun e => w.dj p h (by rw [← e]; exact L_mem h1))]
  exact q1
theorem Stp.zupd {S S' : Sk} {H H' : Hp} (t : Stp S H S' H') {p : Addr} {o : HO} (n : H p = none) : Stp S H S' (upd H' p o) :=
  ⟨t.len, t.old, t.new, t.z, fun a u h nl => by rw [upd_ne (ne_of_none h n)]; exact t.keep a u h nl, fun a h => by
    by_cases e : a = p
    · subst e; exact n
    · rw [upd_ne e] at h; exact t.live a h⟩
def rmv (H : Hp) (p : Addr) : Hp := fun a => if a = p then none else H a
theorem rmv_same {H : Hp} {p : Addr} : rmv H p p = none := by unfold rmv; rw [if_pos rfl]
theorem rmv_ne {H : Hp} {p a : Addr} (h : a ≠ p) : rmv H p a = H a := by unfold rmv; rw [if_neg h]
theorem upd_rmv {H : Hp} {p : Addr} {o : HO} (h : H p = some o) : upd (rmv H p) p o = H := by
  funext a
  by_cases e : a = p
  · subst e; rw [upd_same, h]
  · rw [upd_ne e, rmv_ne e]
theorem kp_rmv {S : Sk} {H : Hp} {p : Addr} {Z0 : List Addr} (h : p ∈ S.Z) (hz : ∀ a ∈ Z0, a ∈ S.Z) : Kp S H ⟨S.L, Z0⟩ (rmv H p) :=
  ⟨fun a _ n => ⟨n.1, fun z => n.2 (hz a z)⟩, fun a o e n => by rw [rmv_ne (fun z : a = p => n.2 (by rw [z]; exact h))]; exact e⟩
theorem W.rmv {K : Kf} {S : Sk} {M : Mem} {H : Hp} (w : W K S M H) {p : Addr} {Z0 : List Addr} (h : p ∈ S.Z) (hz : ∀ a ∈ Z0, a ∈ S.Z) (n : p ∉ Z0) : W K ⟨S.L, Z0⟩ M (rmv H p) := by
  have nl : ∀ a, some a ∈ S.L → a ≠ p := fun a ha e => w.dj p h (by rw [← e]; exact ha)
  refine ⟨w.len, w.nd, fun i a xs h1 h2 => ?_, fun a ha => by rw [rmv_ne (nl a ha)]; exact w.al a ha, fun a ha => by rw [rmv_ne (fun e => n (by rw [← e]; exact ha))]; exact w.zl a (hz a ha), fun a ha => w.dj a (hz a ha), w.lv⟩
  obtain ⟨vs, q1, q2⟩ := w.ob i a xs h1 h2
  exact ⟨vs, by rw [rmv_ne (nl a (L_mem h1))]; exact q1, q2.kp (kp_rmv h hz)⟩
theorem Stp.rmv {S0 S : Sk} {H0 H : Hp} (t : Stp S0 H0 S H) {p : Addr} (n0 : H0 p = none) : Stp S0 H0 ⟨S.L, S0.Z⟩ (rmv H p) :=
  ⟨t.len, t.old, t.new, ⟨fun _ h => h, fun _ h => .inl h⟩, fun a o h nl => by rw [rmv_ne (ne_of_none h n0)]; exact t.keep a o h nl, fun a h => by
    by_cases e : a = p
    · subst e; exact n0
    · rw [rmv_ne e] at h; exact t.live a h⟩
abbrev W0 : WX := fun _ _ _ _ => False
theorem ce_comp {mt : Bool} {ws : List Nat} {t : Tg} {ci : CI} {cc : CEo} {ce : CE} {elt tg iter : Expr} {ifs : List Expr} {scope : Scope} {own : List (Str × Nat)} (hc : X.calm = true) (hN : X.N.Nodup) (hi : PI X tg iter (tI X.K ex Wx fn ci)) (ok : BlkOk X.N X.env.scope scope own)
    (hws : ws = own.map (·.2)) (hts : ∀ i ∈ tgSlots t, i ∈ ws)
    (hg : ∀ (s : Shared) (H : Hp) (C : Addr) (cl : List (Str × Addr)) (fp : List Addr), PG (X.blk s H scope (compEnvC scope cl C X.env) fp) tg (tG X.K t))
    (ht : ∀ (s : Shared) (H : Hp) (C : Addr) (cl : List (Str × Addr)) (fp : List Addr), PTs (X.blk s H scope (compEnvC scope cl C X.env) fp) ifs (tC1 X.K ex W0 fn cc))
    (he : ∀ (s : Shared) (H : Hp) (C : Addr) (cl : List (Str × Addr)) (fp : List Addr), PE (X.blk s H scope (compEnvC scope cl C X.env) fp) elt (tE X.K ex W0 fn ce)) {σ : L2.St} {H : Hp} {Q : VK}
    (h : tE X.K ex Wx fn (.comp mt ws t ci cc ce) σ H Q) : tLc (tI X.K ex Wx fn ci) (tG X.K t) (tC1 X.K ex W0 fn cc) (tE X.K ex W0 fn ce) (own.map (·.2)) σ H Q := by
  obtain ⟨S, M, ρ, w, sl, aw⟩ := h
  simp only [evE] at aw
  refine ⟨S, M, ρ, w, sl, aw.bind.imp fun J M1 S1 H1 t1 w1 aw1 jt hj => ?_⟩
  subst hws
  intro D nD
  cases J with
  | live j => exact aw1.elim
  | items xs =>
    have aw1 := aw1.bind
    -- the loop gives a list
    generalize hf : (fun x M => match bindT t x (wipeE ρ (own.map (·.2))) with
        | some ρ' => (evC fn cc ρ' M).bind fun k M => if k = true then (evE fn ce ρ' M).bind fun d M => match frzP d M with
            | some (y, M) => Res.ok (some y) M
            | none => Res.bad
          else Res.ok none M
        | none => Res.bad) = f at aw1
    have nex : ∀ (xs acc : List PyData) (M : Mem) (c : Nat) (M' : Mem), compLoop f xs acc M ≠ .exc c M' := by
      intro xs
      induction xs with
      | nil => intro acc M c M' z; cases z
      | cons x xs ih =>
        intro acc M c M' z
        unfold compLoop at z
        split at z
        · split at z
          · exact ih _ _ _ _ z
          · cases z
        · exact ih _ _ _ _ z
        · cases z
    obtain ⟨ys, M2, hloop, fin⟩ := aw1.ok (nex xs [] M1)
    let Pv : Nat → Hp → Prop := fun i H' => ∃ S' M' acc av, D ∈ S'.Z ∧ Stp S1 H1 S' H' ∧ W X.K S' M' H' ∧ H' D = some (.lst av) ∧ RPs X.K S' H' acc av ∧ compLoop f (xs.drop i) acc M' = .ok ys M2
    refine ⟨fun i m H' => m = xs.length - i ∧ i ≤ xs.length ∧ Pv i H', ⟨xs.length, by simp, Nat.zero_le _, ?_⟩, ?_⟩
    · have st : Stp S1 H1 S1 (upd H1 D (.lst [])) := .fresh nD
      refine ⟨⟨S1.L, D :: S1.Z⟩, M1, [], [], List.mem_cons_self, ⟨st.len, st.old, st.new, ⟨fun a h => List.mem_cons_of_mem _ h, fun a h => ?_⟩, st.keep, st.live⟩, ?_, upd_same, .nil, hloop⟩
      · rcases List.mem_cons.mp h with e | e
        · exact .inr (e ▸ nD)
        · exact .inl e
      · have w2 := w1.fresh (p := D) (o := .lst []) nD
        have nl : some D ∉ S1.L := fun h => w1.al D h nD
        refine ⟨w2.len, w2.nd, fun i a zs h1 h2 => ?_, w2.al, fun a h => ?_, fun a h => ?_, w2.lv⟩
        · obtain ⟨us, q1, q2⟩ := w1.ob i a zs h1 h2
          have kk : Kp S1 H1 ⟨S1.L, D :: S1.Z⟩ (upd H1 D (.lst [])) := ⟨fun b hb n => ⟨n.1, fun z => by
            rcases List.mem_cons.mp z with e | e
            · subst e; exact hb nD
            · exact n.2 e⟩, fun b o e n => by rw [upd_ne (ne_of_none e nD)]; exact e⟩
          exact ⟨us, by rw [upd_ne (ne_of_none q1 nD)]; exact q1, q2.kp kk⟩
        · rcases List.mem_cons.mp h with e | e
          · subst e; rw [upd_same]; exact Option.some_ne_none _
          · exact w2.zl a e
        · rcases List.mem_cons.mp h with e | e
          · subst e; exact nl
          · exact w1.dj a e
    · rintro i m H' ⟨rfl, hle, S', M', acc, av, hD, st, wS, hav, ra, hl⟩
      by_cases hlt : i < xs.length
      · refine .inr ⟨hj.go i S' H' hlt st, fun H'' => Pv (i + 1) H'', fun H'' p => ⟨xs.length - (i + 1), by omega, rfl, hlt, p⟩, fun x H2 hy => ?_⟩
        have hx : xs[i]? = some xs[i] := List.getElem?_eq_getElem hlt
        obtain ⟨s2, w2, rx⟩ := hj.yld i S' H' M' x H2 xs[i] hx st wS hy
        have hdrop : xs.drop i = xs[i] :: xs.drop (i + 1) := List.drop_eq_getElem_cons hlt
        rw [hdrop] at hl
        unfold compLoop at hl
        -- the target
        have stA := st.trans s2
        have slA : Sl X.K S' H2 (wipeE ρ (own.map (·.2))) (L2.wipe σ (own.map (·.2))) := ((sl.mono t1).mono stA).wipe _
        cases hbd : bindT t xs[i] (wipeE ρ (own.map (·.2))) with
        | none =>
          have : f xs[i] M' = .bad := by rw [← hf]; simp only [hbd]
          rw [this] at hl
          cases hl
        | some ρ' =>
          have hfx : f xs[i] M' = (evC fn cc ρ' M').bind fun k M => if k = true then (evE fn ce ρ' M).bind fun d M => match frzP d M with
              | some (y, M) => Res.ok (some y) M
              | none => Res.bad
            else Res.ok none M := by rw [← hf]; simp only [hbd]
          rw [hfx] at hl
          have hD2 : H2 D = some (.lst av) := s2.keep D _ hav (wS.dj D hD)
          refine ⟨S', M', _, xs[i], ρ', w2, slA, rx, hbd, fun σ2 sl2 off => ⟨off_wipe off hts, S', M', ρ', w2, sl2, ?_⟩⟩
          cases hcv : evC fn cc ρ' M' with
          | bad => rw [hcv] at hl; cases hl
          | exc c M3 => rw [hcv] at hl; cases hl
          | ok k M3 =>
            rw [hcv] at hl
            intro S3 H3 t3 w3
            cases k with
            | false =>
              refine iteF ⟨S3, M3, acc, av, t3.z.1 D hD, stA.trans t3, w3, t3.keep D _ hD2 (w2.dj D hD), (ra.mono s2).mono t3, hl⟩
            | true =>
              refine iteT ⟨S3, M3, ρ', w3, sl2.mono t3, ?_⟩
              have hl : (match ((evE fn ce ρ' M3).bind fun d M => match frzP d M with
                  | some (y, M) => Res.ok (some y) M
                  | none => Res.bad) with
                | .ok (some y) M => if acc.length < 16777216 then compLoop f (xs.drop (i + 1)) (acc ++ [y]) M else .bad
                | .ok none M => compLoop f (xs.drop (i + 1)) acc M
                | _ => .bad) = Res.ok ys M2 := hl
              cases hev : evE fn ce ρ' M3 with
              | bad => rw [hev] at hl; cases hl
              | exc c M4 => rw [hev] at hl; cases hl
              | ok d M4 =>
                rw [hev] at hl
                intro S4 H4 t4 w4 y ry
                simp only [Res.bind] at hl
                cases hfz : frzP d M4 with
                | none => rw [hfz] at hl; cases hl
                | some yM =>
                  obtain ⟨yd, M5⟩ := yM
                  rw [hfz] at hl
                  dsimp only at hl
                  split at hl
                  · rename_i hz
                    obtain ⟨S5, w5, t5, r5⟩ := frzP_ok w4 ry hfz
                    have tA := t3.trans (t4.trans t5)
                    have hD4 : H4 D = some (.lst av) := tA.keep D _ hD2 (w2.dj D hD)
                    have hD5 : D ∈ S5.Z := tA.z.1 D hD
                    have ra5 : RPs X.K S5 H4 acc av := (ra.mono s2).mono tA
                    have hlen := ra5.length
                    refine ⟨av, hD4, by rw [← hlen]; exact sz_lt hz, S5, M5, acc ++ [yd], av ++ [y], hD5, (stA.trans tA).zupd nD, w5.zupd hD5, upd_same, (ra5.app (.cons r5 .nil)).kp (kp_upd hD5), hl⟩
                  · cases hl
      · have hi' : i = xs.length := by omega
        subst hi'
        refine .inl ⟨hj.stop S' H' st, ?_⟩
        rw [List.drop_length] at hl
        unfold compLoop at hl
        obtain ⟨e1, e2⟩ : acc = ys ∧ M' = M2 := by simpa using hl
        rw [e1] at ra
        rw [e2] at wS
        have nZ : D ∉ S1.Z := fun h => w1.zl D h nD
        have wr := wS.rmv hD st.z.1 nZ
        have fin : Aw X.K ex Wx ⟨S'.L, S1.Z⟩ (Mi.rmv H' D) σ (alloc mt ys M2) fun d _ S' H' => ∀ v, RD X.K S' H' d v → Q v H' := fin _ _ (st.rmv nD) wr
        obtain ⟨d, M3, ha, af⟩ := fin.ok alloc_ne
        have q := Aft.new (Q := Q) wr ha (ra.kp (kp_rmv hD st.z.1)) (fun S' H' v t w r => af S' H' t w v r) (p := D) rmv_same
        rw [upd_rmv hav] at q
        exact q
end
end Mi

set_option Elab.async false
set_option linter.all false
set_option maxRecDepth 100000
set_option maxHeartbeats 1000000
/-! Mi: statements. -/
namespace Mi
open PySem PySem.Spec PyProof.Rows L2
def FlP (K : Kf) (ex : Nat → Value) (Wx : WX) (D : Ends) (fl : Fl) (S : Sk) (H : Hp) : Prop := match fl with
  | .nx ρ => ∀ σ, Sl K S H ρ σ → D.nx σ H
  | .rt d => ∀ v, RD K S H d v → D.rt v H
  | .bk ρ => ∀ σ, Sl K S H ρ σ → D.bk σ H
  | .ct ρ => ∀ σ, Sl K S H ρ σ → D.ct σ H
  | .ex c ρ => ∀ σ, Sl K S H ρ σ → Wx (ex c) none σ H
def AwF (K : Kf) (ex : Nat → Value) (Wx : WX) (S : Sk) (H : Hp) (r : Res Fl) (D : Ends) : Prop := match r with
  | .ok fl M => ∀ S' H', Stp S H S' H' → W K S' M H' → FlP K ex Wx D fl S' H'
  | .exc _ _ => False
  | .bad => False
def tS (K : Kf) (ex : Nat → Value) (Wx : WX) (fn : Fn) (fuel : Nat) (c : CS) : TS := fun D σ H => ∃ S M ρ, W K S M H ∧ Sl K S H ρ σ ∧ AwF K ex Wx S H (evS fn fuel c ρ M) D
def tSs (K : Kf) (ex : Nat → Value) (Wx : WX) (fn : Fn) (fuel : Nat) (c : CSs) : TS := fun D σ H => ∃ S M ρ, W K S M H ∧ Sl K S H ρ σ ∧ AwF K ex Wx S H (evSs fn fuel c ρ M) D
theorem _root_.L2.PS.weak {X : Cx} {e : Stmt} {t t' : TS} (h : PS X e t) (f : ∀ D σ H, t' D σ H → t D σ H) : PS X e t' := ⟨fun pins s σ H D I q => h.run pins s σ H D I (f D σ H q)⟩
theorem _root_.L2.PSs.weak {X : Cx} {e : List Stmt} {t t' : TS} (h : PSs X e t) (f : ∀ D σ H, t' D σ H → t D σ H) : PSs X e t' := ⟨fun pins s σ H D I q => h.run pins s σ H D I (f D σ H q)⟩
section
variable {α : Type} {K : Kf} {ex : Nat → Value} {Wx : WX} {S : Sk} {H : Hp} {σ : L2.St} {ρ : Env} {D : Ends}
theorem AwF.mono {r : Res Fl} (h : AwF K ex Wx S H r D) {S1 : Sk} {H1 : Hp} (t : Stp S H S1 H1) : AwF K ex Wx S1 H1 r D := by
  cases r with
  | ok fl M => exact fun S' H' t' w => h S' H' (t.trans t') w
  | exc c M => exact h
  | bad => exact h
theorem AwF.of_ok {fl : Fl} {M : Mem} (h : AwF K ex Wx S H (.ok fl M) D) (w : W K S M H) : FlP K ex Wx D fl S H := h S H .refl w
theorem AwF.onto {r : Res α} {f : α → Mem → Res Fl} (sl : Sl K S H ρ σ) (h : AwF K ex Wx S H (r.onto f (evX ρ)) D) : Aw K ex Wx S H σ r fun a M S1 H1 => AwF K ex Wx S1 H1 (f a M) D := by
  cases r with
  | ok a M =>
    intro S1 H1 t1 w1
    have h' : AwF K ex Wx S H (f a M) D := h
    exact h'.mono t1
  | exc c M => exact fun S' H' t w => h S' H' t w σ (sl.mono t)
  | bad => exact h
end
section
variable {X : Cx} {ex : Nat → Value} {Wx : WX} {fn : Fn} {fuel : Nat} {a b e tg : Expr} {ca cb cc : CE} {cs : CEs} {pos : Pos}
theorem cs_pass : PS X (.Pass pos) (tS X.K ex Wx fn fuel .pass) := ps_pass.weak fun D σ H ⟨S, M, ρ, w, sl, aw⟩ => by simp only [evS] at aw; exact aw.of_ok w σ sl
theorem cs_brk : PS X (.Break pos) (tS X.K ex Wx fn fuel .brk) := ps_break.weak fun D σ H ⟨S, M, ρ, w, sl, aw⟩ => by simp only [evS] at aw; exact aw.of_ok w σ sl
theorem cs_cont : PS X (.Continue pos) (tS X.K ex Wx fn fuel .cont) := ps_continue.weak fun D σ H ⟨S, M, ρ, w, sl, aw⟩ => by simp only [evS] at aw; exact aw.of_ok w σ sl
theorem cs_never {st : Stmt} : PS X st (tS X.K ex Wx fn fuel .never) := ps_never.weak fun D σ H ⟨S, M, ρ, w, sl, aw⟩ => by simp only [evS] at aw; exact aw
theorem cs_retN : PS X (.Return none pos) (tS X.K ex Wx fn fuel .retN) := ps_retN.weak fun D σ H ⟨S, M, ρ, w, sl, aw⟩ => by simp only [evS] at aw; exact aw.of_ok w _ .non
theorem cs_expr (he : PE X e (tE X.K ex Wx fn ca)) (hs : swapsWith e none pos.line X.env = pure false) : PS X (.Expr e pos) (tS X.K ex Wx fn fuel (.expr ca)) := by
  refine (ps_expr he hs).weak fun D σ H ⟨S, M, ρ, w, sl, aw⟩ => ?_
  simp only [evS] at aw
  exact ⟨S, M, ρ, w, sl, (aw.onto sl).imp fun d M1 S1 H1 t1 w1 q v r => q.of_ok w1 σ (sl.mono t1)⟩
theorem cs_ret (he : PE X e (tE X.K ex Wx fn ca)) : PS X (.Return (some e) pos) (tS X.K ex Wx fn fuel (.ret ca)) := by
  refine (ps_ret he).weak fun D σ H ⟨S, M, ρ, w, sl, aw⟩ => ?_
  simp only [evS] at aw
  exact ⟨S, M, ρ, w, sl, (aw.onto sl).imp fun d M1 S1 H1 t1 w1 q v r => q.of_ok w1 v r⟩
theorem cs_if {c : Expr} {p q : List Stmt} {cp cq : CSs} (hc : PT X c (tT X.K ex Wx fn cc)) (hp : PSs X p (tSs X.K ex Wx fn fuel cp)) (hq : PSs X q (tSs X.K ex Wx fn fuel cq)) : PS X (.If c p q pos) (tS X.K ex Wx fn fuel (.ife cc cp cq)) := by
  refine (ps_if hc hp hq).weak fun D σ H ⟨S, M, ρ, w, sl, aw⟩ => ?_
  simp only [evS] at aw
  refine ⟨S, M, ρ, w, sl, (aw.onto sl).imp fun d M1 S1 H1 t1 w1 q => ?_⟩
  obtain ⟨k, hk, q'⟩ := toB_ok (AwF.onto (sl.mono t1) q) w1
  refine ⟨k, hk, ?_⟩
  cases k with
  | true => exact iteT ⟨S1, M1, ρ, w1, sl.mono t1, q'⟩
  | false => exact iteF ⟨S1, M1, ρ, w1, sl.mono t1, q'⟩
theorem css_nil : PSs X [] (tSs X.K ex Wx fn fuel .nil) := pss_nil.weak fun D σ H ⟨S, M, ρ, w, sl, aw⟩ => by simp only [evSs] at aw; exact aw.of_ok w σ sl
theorem css_cons {st : Stmt} {rest : List Stmt} {c : CS} {cs : CSs} (h1 : PS X st (tS X.K ex Wx fn fuel c)) (h2 : PSs X rest (tSs X.K ex Wx fn fuel cs)) : PSs X (st :: rest) (tSs X.K ex Wx fn fuel (.cons c cs)) := by
  refine (pss_cons h1 h2).weak fun D σ H ⟨S, M, ρ, w, sl, aw⟩ => ?_
  simp only [evSs] at aw
  refine ⟨S, M, ρ, w, sl, ?_⟩
  cases e : evS fn fuel c ρ M with
  | bad => rw [e] at aw; exact aw
  | exc c M => rw [e] at aw; exact aw
  | ok fl M1 =>
    rw [e] at aw
    intro S1 H1 t1 w1
    cases fl with
    | nx ρ1 => exact fun σ1 sl1 => ⟨S1, M1, ρ1, w1, sl1, AwF.mono aw t1⟩
    | rt d => exact aw S1 H1 t1 w1
    | bk d => exact aw S1 H1 t1 w1
    | ct d => exact aw S1 H1 t1 w1
    | ex c d => exact aw S1 H1 t1 w1
/-! ### assignments -/
theorem cs_set {i : Nat} {x : Str} {pos' : Pos} (hN : X.N.Nodup) (hi : X.N[i]? = some x) (hx : Loc X.env.scope x) (he : PE X e (tE X.K ex Wx fn ca)) (hs : swapsWith e (some (.Name x pos')) pos.line X.env = pure false) (hf : X.fn x = true ∨ X.env.scope.names.lookup x = some .local) :
    PS X (.Assign [.Name x pos'] e pos) (tS X.K ex Wx fn fuel (.asg (.nm i) ca)) := by
  refine (ps_set hN hi hx he hs hf).weak fun D σ H ⟨S, M, ρ, w, sl, aw⟩ => ?_
  simp only [evS] at aw
  exact ⟨S, M, ρ, w, sl, (aw.onto sl).imp fun d M1 S1 H1 t1 w1 q v r => q.of_ok w1 _ ((sl.mono t1).set i r)⟩
theorem cs_asgT {is : List Nat} {es : List Expr} {k : Nat} {tpos : Pos} (hc : X.calm = true) (h : NmsOk X es is) (he : PE X e (tE X.K ex Wx fn ca)) (hs : swapsWith e (some (.Tuple es k tpos)) pos.line X.env = pure false) (hw : swappedStores [.Tuple es k tpos] e X.env = pure none) :
    PS X (.Assign [.Tuple es k tpos] e pos) (tS X.K ex Wx fn fuel (.asg (.tp is) ca)) := by
  refine (ps_asg he (cg_tup hc h) hs hw rfl).weak fun D σ H ⟨S, M, ρ, w, sl, aw⟩ => ?_
  simp only [evS] at aw
  refine ⟨S, M, ρ, w, sl, (aw.onto sl).imp fun d M1 S1 H1 t1 w1 q v r => ?_⟩
  unfold asgT at q
  dsimp only at q
  split at q
  · rename_i xs
    split at q
    · rename_i ρ' hb
      exact ⟨S1, M1, ρ, .tuple xs, ρ', w1, sl.mono t1, r, hb, fun σ' sl' _ => q.of_ok w1 σ' sl'⟩
    · exact q.elim
  · exact q.elim
/-- several names from as many values -/
theorem setDs_ok {K : Kf} {S : Sk} {H : Hp} : ∀ {is : List Nat} {ds : List D} {vs : List V} {ρ ρ' : Env} {σ : L2.St}, Sl K S H ρ σ → RDs K S H ds vs → setDs is ds ρ = some ρ' → ∃ σ', Sl K S H ρ' σ' ∧ is.length = vs.length ∧ σ' = (is.zip vs).foldl (fun s p => s.set p.1 (some p.2)) σ
  | [], _, _, ρ, ρ', σ, sl, .nil, e => by cases e; exact ⟨σ, sl, rfl, rfl⟩
  | i :: is, _, _, ρ, ρ', σ, sl, .cons a b, e => by
    simp only [setDs] at e
    obtain ⟨σ', h1, h2, h3⟩ := setDs_ok (sl.set i a) b e
    exact ⟨σ', h1, by simp [h2], by rw [h3]; rfl⟩
  | [], _, _, ρ, ρ', σ, sl, .cons a b, e => by cases e
  | i :: is, _, _, ρ, ρ', σ, sl, .nil, e => by cases e
theorem cs_par2 {i j : Nat} {x y : Str} {px py pt : Pos} {kt k2 : Nat} {pt2 : Pos} (hc : X.calm = true) (hN : X.N.Nodup) (hi : X.N[i]? = some x) (hj : X.N[j]? = some y) (hij : i ≠ j) (hx : X.env.scope.names.lookup x = some .local) (hy : X.env.scope.names.lookup y = some .local) (ha : PA X [a, b] (tEs X.K ex Wx fn cs))
    (hw : swappedStores [.Tuple [.Name x px, .Name y py] kt pt] (.Tuple [a, b] k2 pt2) X.env = pure (some [x, y])) : PS X (.Assign [.Tuple [.Name x px, .Name y py] kt pt] (.Tuple [a, b] k2 pt2) pos) (tS X.K ex Wx fn fuel (.par [i, j] cs)) := by
  refine (ps_par hc hN hi hj hij hx hy ha hw rfl).weak fun D σ H ⟨S, M, ρ, w, sl, aw⟩ => ?_
  simp only [evS] at aw
  refine ⟨S, M, ρ, w, sl, (aw.onto sl).imp fun ds M1 S1 H1 t1 w1 q vs rs => ?_⟩
  split at q
  · rename_i ρ' hb
    obtain ⟨σ', h1, h2, h3⟩ := setDs_ok (sl.mono t1) rs hb
    match vs, h2, h3 with
    | [u, v], _, h3 => exact ⟨u, v, rfl, by have z := q.of_ok w1 σ' h1; rw [h3] at z; exact z⟩
  · exact q.elim
theorem cs_par3 {i j l : Nat} {x y z : Str} {c : Expr} {px py pz pt : Pos} {kt k2 : Nat} {pt2 : Pos} (hc : X.calm = true) (hN : X.N.Nodup) (hi : X.N[i]? = some x) (hj : X.N[j]? = some y) (hl : X.N[l]? = some z) (hij : i ≠ j) (hil : i ≠ l) (hjl : j ≠ l) (hx : X.env.scope.names.lookup x = some .local) (hy : X.env.scope.names.lookup y = some .local) (hz : X.env.scope.names.lookup z = some .local) (ha : PA X [a, b, c] (tEs X.K ex Wx fn cs))
    (hw : swappedStores [.Tuple [.Name x px, .Name y py, .Name z pz] kt pt] (.Tuple [a, b, c] k2 pt2) X.env = pure (some [x, y, z])) : PS X (.Assign [.Tuple [.Name x px, .Name y py, .Name z pz] kt pt] (.Tuple [a, b, c] k2 pt2) pos) (tS X.K ex Wx fn fuel (.par [i, j, l] cs)) := by
  refine (ps_par3 hc hN hi hj hl hij hil hjl hx hy hz ha hw rfl).weak fun D σ H ⟨S, M, ρ, w, sl, aw⟩ => ?_
  simp only [evS] at aw
  refine ⟨S, M, ρ, w, sl, (aw.onto sl).imp fun ds M1 S1 H1 t1 w1 q vs rs => ?_⟩
  split at q
  · rename_i ρ' hb
    obtain ⟨σ', h1, h2, h3⟩ := setDs_ok (sl.mono t1) rs hb
    match vs, h2, h3 with
    | [u, v, w], _, h3 => exact ⟨u, v, w, rfl, by have z := q.of_ok w1 σ' h1; rw [h3] at z; exact z⟩
  · exact q.elim
/-- names from values, through a tuple -/
structure NmsD (X : Cx) (es : List Expr) (is : List Nat) : Prop where
  go : PGs X es (fun vs σ H Q => ∃ S M ρ ds ρ', W X.K S M H ∧ Sl X.K S H ρ σ ∧ RDs X.K S H ds vs ∧ setDs is ds ρ = some ρ' ∧ ∀ σ', Sl X.K S H ρ' σ' → Q σ' H)
  len : ∀ env, (assignEach es env).length = is.length
  star : ∀ env, (assignEach es env).findIdx? (·.1) = none
theorem nmd_nil : NmsD X [] [] := by
  refine ⟨pgs_nil.weak fun vs σ H Q ⟨S, M, ρ, ds, ρ', w, sl, r, hb, q⟩ => ?_, fun env => rfl, fun env => rfl⟩
  cases ds with
  | nil => cases r; cases hb; exact ⟨rfl, q σ sl⟩
  | cons a b => cases hb
theorem nmd_cons {i : Nat} {is : List Nat} {x : Str} {es : List Expr} (hN : X.N.Nodup) (hi : X.N[i]? = some x) (hx : Loc X.env.scope x) (hf : X.fn x = true ∨ X.env.scope.names.lookup x = some .local) (h2 : NmsD X es is) : NmsD X (.Name x pos :: es) (i :: is) := by
  refine ⟨(pgs_cons (pg_name hN hi hx hf) h2.go rfl).weak fun vs σ H Q ⟨S, M, ρ, ds, ρ', w, sl, r, hb, q⟩ => ?_, fun env => ?_, fun env => ?_⟩
  · cases r with
    | nil => cases hb
    | cons a b => exact ⟨_, _, rfl, S, M, _, _, ρ', w, sl.set i a, b, hb, q⟩
  · show (assignEach es env).length + 1 = _
    rw [h2.len env]; rfl
  · show ((false, assign (.Name x pos) env) :: assignEach es env).findIdx? (·.1) = none
    rw [List.findIdx?_cons]
    simp [h2.star env]
theorem cs_parT {is : List Nat} {ts vs : List Expr} {k k2 : Nat} {tpos vpos : Pos} (hc : X.calm = true) (h : NmsD X ts is) (ha : PA X vs (tEs X.K ex Wx fn cs)) (hz : is.length ≤ 16777216) (hw : swappedStores [.Tuple ts k tpos] (.Tuple vs k2 vpos) X.env = pure none) :
    PS X (.Assign [.Tuple ts k tpos] (.Tuple vs k2 vpos) pos) (tS X.K ex Wx fn fuel (.par is cs)) := by
  refine (ps_asg (pe_tup ha) (pg_tup hc h.go (h.len _) (h.star _)) rfl hw rfl).weak fun D σ H ⟨S, M, ρ, w, sl, aw⟩ => ?_
  simp only [evS] at aw
  refine ⟨S, M, ρ, w, sl, (aw.onto sl).imp fun ds M1 S1 H1 t1 w1 q us rs => ?_⟩
  split at q
  · rename_i ρ' hb
    obtain ⟨σ', h1, h2, h3⟩ := setDs_ok (sl.mono t1) rs hb
    refine ⟨by rw [← h2]; exact sz_le hz, fun p np => ⟨p, us, rfl, .inl (.inl upd_same), h2.symm, S1, M1, ρ, ds, ρ', w1.fresh np, (sl.mono t1).mono (.fresh np), RDs.mono (.fresh np) rs, hb, fun σ'' sl'' => ?_⟩⟩
    exact (AwF.mono q (.fresh np)).of_ok (w1.fresh np) σ'' sl''
  · exact q.elim
/-! ### o[i] = v -/
theorem subop_ne {o i v : D} {M : Mem} (c : Nat) (M' : Mem) : subop o i v M ≠ .exc c M' := by
  intro h; unfold subop at h
  split at h <;> (try split at h) <;> (try split at h) <;> (try split at h) <;> cases h
theorem set_sub : PSet X (fun o i v H Q => ∃ S M od id vd M', W X.K S M H ∧ RD X.K S H od o ∧ RD X.K S H id i ∧ RD X.K S H vd v ∧ subop od id vd M = .ok () M' ∧ ∀ S' H', Stp S H S' H' → W X.K S' M' H' → Q H') := by
  intro pins s σ H o i v ov iv u Q I ro ri rv h
  obtain ⟨S, M, od, id, vd, M', w, rod, rid, rvd, hb, q⟩ := h
  unfold subop at hb
  split at hb
  · rename_i x M1 hf
    obtain ⟨S1, w1, t1, r1⟩ := frzP_ok w rvd hf
    split at hb
    · rename_i j k
      split at hb
      · rename_i xs hm
        split at hb
        · rename_i n hn
          cases hb
          obtain ⟨p, hp⟩ := w1.lv j xs hm
          obtain ⟨vs, g1, g2⟩ := w1.ob j p xs hp hm
          obtain ⟨w2, t2⟩ := w1.write hp hm (g2.set r1 n)
          have ro1 : RD X.K S1 H (.ref j) o := rod.mono t1
          exact set_list pins s σ H o i v ov iv u Q I ro ri rv ⟨p, vs, k, n, ro1.2 p hp, rp_int rid, g1, by rw [← g2.length]; exact hn, q S1 _ (t1.trans t2) w2⟩
        · cases hb
      · cases hb
    · cases hb
  · cases hb
theorem cs_sub {o i : Expr} {co ci cv : CE} {tpos : Pos} (hv : PE X e (tE X.K ex Wx fn cv)) (ho : PE X o (tE X.K ex Wx fn co)) (hi : PE X i (tE X.K ex Wx fn ci)) (hs : swapsWith e (some (.Subscript o i tpos)) pos.line X.env = pure false)
    (ha : ∀ v, assign (.Subscript o i tpos) X.env v = (do
      let ov ← holding [v] (eval o X.env)
      let iv ← holding [v, ov] (eval i X.env)
      standAt tpos
      holding [v, ov, iv] (setItem ov iv v)
      release [v, ov, iv] [])) : PS X (.Assign [.Subscript o i tpos] e pos) (tS X.K ex Wx fn fuel (.sub co ci cv)) := by
  refine (ps_asg hv (pg_sub ho hi set_sub ha) hs rfl rfl).weak fun D σ H ⟨S, M, ρ, w, sl, aw⟩ => ?_
  simp only [evS] at aw
  refine ⟨S, M, ρ, w, sl, (aw.onto sl).imp fun d M1 S1 H1 t1 w1 q v r => ?_⟩
  refine ⟨S1, M1, ρ, w1, sl.mono t1, (AwF.onto (sl.mono t1) q).imp fun d2 M2 S2 H2 t2 w2 q2 v2 r2 => ?_⟩
  refine ⟨S2, M2, ρ, w2, sl.mono (t1.trans t2), (AwF.onto (sl.mono (t1.trans t2)) q2).imp fun d3 M3 S3 H3 t3 w3 q3 v3 r3 => ?_⟩
  have t13 := t1.trans (t2.trans t3)
  obtain ⟨u, M4, hb, af⟩ := (AwF.onto (sl.mono t13) q3).ok subop_ne
  refine ⟨S3, M3, d2, d3, d, M4, w3, r2.mono t3, r3, r.mono (t2.trans t3), hb, fun S' H' t w => ?_⟩
  exact (af S' H' t w).of_ok w σ ((sl.mono t13).mono t)
/-! ### loops -/
theorem cs_for {iter : Expr} {body : List Stmt} {t : Tg} {ci : CI} {cb : CSs} (hp : PassesOwn (model X.prog X.w) X.A X.env X.xe) (hc : X.calm = true) (hi : PI X tg iter (tI X.K ex Wx fn ci)) (hg : PG X tg (tG X.K t)) (hb : PSs X body (tSs X.K ex Wx fn fuel cb)) (hs : ∀ x, foldedSetIterable iter X.env x = pure x) :
    PS X (.For tg iter body [] pos) (tS X.K ex Wx fn fuel (.loop t ci cb)) := by
  refine (ps_for hp hc hi hg hb hs).weak fun D σ H ⟨S, M, ρ, w, sl, aw⟩ => ?_
  simp only [evS] at aw
  refine ⟨S, M, ρ, w, sl, (aw.onto sl).imp fun J M1 S1 H1 t1 w1 q jt hj => ?_⟩
  generalize hf : (fun x ρ M => match bindT t x ρ with
        | some ρ => evSs fn fuel cb ρ M
        | none => Res.bad) = f at q
  -- one turn of the body
  have turn : ∀ (x : PyData) (S' : Sk) (M' : Mem) (ρ' : Env) (H2 : Hp) (v : V) (σ' : L2.St) (N B : L2.St → Hp → Prop), W X.K S' M' H2 → Sl X.K S' H2 ρ' σ' → RP X.K S' H2 x v → 
      AwF X.K ex Wx S' H2 (f x ρ' M') { D with nx := N, ct := N, bk := B } → tG X.K t v σ' H2 fun σ2 H3 => tSs X.K ex Wx fn fuel cb { D with nx := N, ct := N, bk := B } σ2 H3 := fun x S' M' ρ' H2 v σ' N B w2 sl2 rx aw2 => by
    cases hbd : bindT t x ρ' with
    | none =>
      have : f x ρ' M' = .bad := by rw [← hf]; simp only [hbd]
      rw [this] at aw2
      exact aw2.elim
    | some ρ2 =>
      have : f x ρ' M' = evSs fn fuel cb ρ2 M' := by rw [← hf]; simp only [hbd]
      rw [this] at aw2
      exact ⟨S', M', ρ', x, ρ2, w2, sl2, rx, hbd, fun σ2 sl3 _ => ⟨S', M', ρ2, w2, sl3, aw2⟩⟩
  cases J with
  | items xs =>
    let Pv : Nat → L2.St → Hp → Prop := fun i σ' H' => ∃ S' M' ρ', Stp S1 H1 S' H' ∧ W X.K S' M' H' ∧ Sl X.K S' H' ρ' σ' ∧ AwF X.K ex Wx S' H' (forLoop f (xs.drop i) ρ' M') D
    refine ⟨fun i m σ' H' => m = xs.length - i ∧ i ≤ xs.length ∧ Pv i σ' H', ⟨xs.length, by simp, Nat.zero_le _, S1, M1, ρ, .refl, w1, sl.mono t1, q⟩, ?_⟩
    rintro i m σ' H' ⟨rfl, hle, S', M', ρ', st, wS, slS, aw1⟩
    by_cases hlt : i < xs.length
    · refine .inr ⟨hj.go i S' H' hlt st, Pv (i + 1), fun σ2 H2 p => ⟨xs.length - (i + 1), by omega, rfl, hlt, p⟩, fun x H2 hy => ?_⟩
      have hx : xs[i]? = some xs[i] := List.getElem?_eq_getElem hlt
      obtain ⟨s2, w2, rx⟩ := hj.yld i S' H' M' x H2 xs[i] hx st wS hy
      rw [List.drop_eq_getElem_cons hlt] at aw1
      unfold forLoop at aw1
      refine turn xs[i] S' M' ρ' H2 x σ' _ _ w2 (slS.mono s2) rx ?_
      have aw1 := aw1.mono s2
      cases e : f xs[i] ρ' M' with
      | bad => rw [e] at aw1; exact aw1
      | exc c M => rw [e] at aw1; exact aw1
      | ok fl M3 =>
        rw [e] at aw1
        intro S3 H3 t3 w3
        cases fl with
        | nx ρ3 => exact fun σ3 sl3 => ⟨S3, M3, ρ3, st.trans (s2.trans t3), w3, sl3, AwF.mono aw1 t3⟩
        | ct ρ3 => exact fun σ3 sl3 => ⟨S3, M3, ρ3, st.trans (s2.trans t3), w3, sl3, AwF.mono aw1 t3⟩
        | bk ρ3 => exact aw1 S3 H3 t3 w3
        | rt d => exact aw1 S3 H3 t3 w3
        | ex c d => exact aw1 S3 H3 t3 w3
    · have hi' : i = xs.length := by omega
      subst hi'
      refine .inl ⟨hj.stop S' H' st, ?_⟩
      rw [List.drop_length] at aw1
      unfold forLoop at aw1
      exact aw1.of_ok wS σ' slS
  | live j =>
    obtain ⟨p, hp, rfl⟩ := hj
    let Pv : Nat → Nat → L2.St → Hp → Prop := fun i n σ' H' => ∃ S' M' ρ', Stp S1 H1 S' H' ∧ W X.K S' M' H' ∧ Sl X.K S' H' ρ' σ' ∧ AwF X.K ex Wx S' H' (liveLoop f j n i ρ' M') D
    refine ⟨Pv, ⟨fuel, S1, M1, ρ, .refl, w1, sl.mono t1, q⟩, ?_⟩
    rintro i m σ' H' ⟨S', M', ρ', st, wS, slS, aw1⟩
    cases m with
    | zero => exact aw1.elim
    | succ n =>
      unfold liveLoop at aw1
      split at aw1
      · rename_i xs hm
        obtain ⟨p', hp'⟩ := wS.lv j xs hm
        have ep : p' = p := by
          have := st.old j p' (List.getElem?_eq_some_iff.mp hp).1 hp'
          rw [hp] at this
          cases this; rfl
        subst ep
        obtain ⟨vs, g1, g2⟩ := wS.ob j p' xs hp' hm
        have hsq : SqL X.K H' p' vs := .inl (.inl g1)
        split at aw1
        · rename_i hn
          refine .inl ⟨⟨vs, hsq, ?_⟩, aw1.of_ok wS σ' slS⟩
          rw [← g2.length]
          exact List.getElem?_eq_none_iff.mp hn
        · rename_i x hx
          obtain ⟨u, hu, ru⟩ := g2.get hx
          refine .inr ⟨⟨vs, u, hsq, hu⟩, fun σ2 H2 => Pv (i + 1) n σ2 H2, fun σ2 H2 p => ⟨n, Nat.lt_succ_self n, p⟩, fun v H2 hy => ?_⟩
          obtain ⟨rfl, hv⟩ := hy
          have := hv vs hsq
          rw [hu] at this
          cases this
          refine turn x S' M' ρ' _ u σ' _ _ wS slS ru ?_
          cases e : f x ρ' M' with
          | bad => rw [e] at aw1; exact aw1
          | exc c M => rw [e] at aw1; exact aw1
          | ok fl M3 =>
            rw [e] at aw1
            intro S3 H3 t3 w3
            cases fl with
            | nx ρ3 => exact fun σ3 sl3 => ⟨S3, M3, ρ3, st.trans t3, w3, sl3, AwF.mono aw1 t3⟩
            | ct ρ3 => exact fun σ3 sl3 => ⟨S3, M3, ρ3, st.trans t3, w3, sl3, AwF.mono aw1 t3⟩
            | bk ρ3 => exact aw1 S3 H3 t3 w3
            | rt d => exact aw1 S3 H3 t3 w3
            | ex c d => exact aw1 S3 H3 t3 w3
      · exact aw1.elim
theorem cs_while {c : Expr} {body : List Stmt} {cb : CSs} (hp : PassesOwn (model X.prog X.w) X.A X.env X.xe) (hc : PT X c (tT X.K ex Wx fn cc)) (hb : PSs X body (tSs X.K ex Wx fn fuel cb)) : PS X (.While c body [] pos) (tS X.K ex Wx fn fuel (.whl cc cb)) := by
  refine (ps_while hp hc hb).weak fun D σ H ⟨S, M, ρ, w, sl, aw⟩ => ?_
  simp only [evS] at aw
  refine ⟨fun n σ' H' => ∃ S' M' ρ', W X.K S' M' H' ∧ Sl X.K S' H' ρ' σ' ∧ AwF X.K ex Wx S' H' (whileLoop (fun ρ M => (evE fn cc ρ M).bind fun d M => toB M d) (fun ρ M => evSs fn fuel cb ρ M) n ρ' M') D, ⟨fuel, S, M, ρ, w, sl, aw⟩, ?_⟩
  rintro m σ' H' ⟨S', M', ρ', wS, slS, aw1⟩
  cases m with
  | zero => exact aw1.elim
  | succ n =>
    unfold whileLoop at aw1
    refine ⟨S', M', ρ', wS, slS, ?_⟩
    cases e : evE fn cc ρ' M' with
    | bad => rw [e] at aw1; exact aw1
    | exc x M2 => rw [e] at aw1; exact fun S2 H2 t2 w2 => aw1 S2 H2 t2 w2 σ' (slS.mono t2)
    | ok d M2 =>
      rw [e] at aw1
      intro S2 H2 t2 w2
      have aw1 := aw1.mono t2
      simp only [Res.bind] at aw1
      unfold toB at aw1
      cases e2 : truth M2 d with
      | none => rw [e2] at aw1; exact aw1.elim
      | some k =>
        rw [e2] at aw1
        refine ⟨k, rfl, ?_⟩
        cases k with
        | false => exact iteF (aw1.of_ok w2 σ' (slS.mono t2))
        | true =>
          refine iteT ⟨_, fun σ3 H3 z => ⟨n, Nat.lt_succ_self n, z⟩, S2, M2, ρ', w2, slS.mono t2, ?_⟩
          dsimp only at aw1
          cases e3 : evSs fn fuel cb ρ' M2 with
          | bad => rw [e3] at aw1; exact aw1
          | exc x M3 => rw [e3] at aw1; exact aw1
          | ok fl M3 =>
            rw [e3] at aw1
            intro S3 H3 t3 w3
            cases fl with
            | nx ρ3 => exact fun σ3 sl3 => ⟨S3, M3, ρ3, w3, sl3, AwF.mono aw1 t3⟩
            | ct ρ3 => exact fun σ3 sl3 => ⟨S3, M3, ρ3, w3, sl3, AwF.mono aw1 t3⟩
            | bk ρ3 => exact aw1 S3 H3 t3 w3
            | rt d => exact aw1 S3 H3 t3 w3
            | ex c d => exact aw1 S3 H3 t3 w3
end
end Mi

set_option Elab.async false
set_option linter.all false
set_option maxRecDepth 100000
set_option maxHeartbeats 1000000
/-! Mi: from the model's own syntax to the small one. -/
namespace Mi
open PySem PySem.Spec PyProof.Rows L2
/-- ids: the defs by name, with a number and how many parameters; cs: constants of the module; fr: names that the module does not bind -/
structure Gt where
  ids : List (Str × (Nat × Nat))
  cs : List (Str × PyData)
  fr : List Str
def slotOf : List Str → Str → Option Nat
  | [], _ => none
  | y :: ys, x => if y = x then some 0 else match slotOf ys x with
    | some i => some (i + 1)
    | none => none
theorem slotOf_get : ∀ {N : List Str} {x : Str} {i : Nat}, slotOf N x = some i → N[i]? = some x
  | [], _, _, h => by cases h
  | y :: ys, x, i, h => by
    unfold slotOf at h
    split at h
    · rename_i e; cases h; rw [e]; rfl
    · split at h
      · rename_i j hj; cases h; exact (show ys[j]? = some x from slotOf_get hj)
      · cases h
def visB (sc : Scope) (x : Str) : Bool := match sc.names.lookup x with
  | some .local => true
  | some .cell => true
  | some .free => true
  | _ => false
def gloB (sc : Scope) (x : Str) : Bool := match sc.names.lookup x with
  | some .globalImplicit => true
  | _ => false
def ownB (own : Option Scope) (x : Str) : Bool := match own with
  | none => true
  | some s => match s.names.lookup x with
    | some .cell => true
    | _ => false
def stoB (sc : Scope) (own : Option Scope) (x : Str) : Bool := match sc.names.lookup x with
  | some .local => true
  | some .cell => ownB own x
  | _ => false
def okx : Expr → Bool
  | .Starred .. => false
  | .Set .. => false
  | .Slice .. => false
  | _ => true
def constP : Const → Option PyData
  | .none => some .none
  | .bool b => some (.bool b)
  | .int i => some (.int i)
  | .str x => some (.str x)
  | _ => none
def bopOf : Operator → Option BOp
  | .Add => some .add
  | .Sub => some .sub
  | .Mult => some .mul
  | .FloorDiv => some .fdiv
  | .Mod => some .mod
  | .Pow => some .pow
  | _ => none
def cpOf : CmpOp → COp
  | .Eq => .eq
  | .NotEq => .ne
  | .Lt => .lt
  | .LtE => .le
  | .Gt => .gt
  | .GtE => .ge
  | .Is => .is
  | .IsNot => .isnot
  | .In => .isin
  | .NotIn => .notin
theorem cpOf_of (o : CmpOp) : copOf (cpOf o) = o := by cases o <;> rfl
theorem bopOf_of {o : Operator} {b : BOp} (h : bopOf o = some b) : opOf b = o := by cases o <;> cases h <;> rfl
structure Rec where
  e : Scope → Option Scope → Bool → Expr → Option CE
  t : Scope → Option Scope → Expr → Option CE
section
variable (T : Gt) (N : List Str) (R : Rec) (sc : Scope) (own : Option Scope)
def cName (x : Str) : Option CE :=
  if (x == ("__debug__" : Str)) then none else if visB sc x then (if (x == ("__classdict__" : Str)) then none else match slotOf N x with
    | some i => some (.var i)
    | none => none)
  else if gloB sc x then match T.cs.lookup x with
    | some d => some (.cst d)
    | none => none
  else none
def cEs : List Expr → Option CEs
  | [] => some .nil
  | e :: es => match R.e sc own false e with
    | some c => match cEs es with
      | some cs => some (.cons c cs)
      | none => none
    | none => none
def cBool (op : BoolOp) : List Expr → Option CE
  | [] => none
  | [a] => R.e sc own false a
  | a :: rest => match R.e sc own false a with
    | some c => match cBool op rest with
      | some cr => some (match op with | .And => .and c cr | .Or => .or c cr)
      | none => none
    | none => none
def cBoolT (op : BoolOp) : List Expr → Option CE
  | [] => none
  | [a] => R.t sc own a
  | a :: rest => match R.t sc own a with
    | some c => match cBoolT op rest with
      | some cr => some (match op with | .And => .and c cr | .Or => .or c cr)
      | none => none
    | none => none
def cCmp (a : Expr) (ops : List CmpOp) (bs : List Expr) : Option CE := match ops, bs with
  | [o], [b] => match R.e sc own false a, R.e sc own false b with
    | some ca, some cb => some (.cmp (cpOf o) ca cb)
    | _, _ => none
  | [o, o'], [b, c] => match R.e sc own false a, R.e sc own false b, R.e sc own false c with
    | some ca, some cb, some cc => some (.chn (cpOf o) (cpOf o') ca cb cc)
    | _, _, _ => none
  | _, _ => none
def cOpt : Option Expr → Option CEo
  | none => some .no
  | some e => match R.e sc own false e with
    | some c => some (.yes c)
    | none => none
def isBack : Expr → Bool
  | .UnaryOp .USub (.Constant (.int i) _ _) _ => i == 1
  | _ => false
def isNo : Option Expr → Bool
  | none => true
  | some _ => false
def cSub (mt : Bool) (a i : Expr) : Option CE := match i with
  | .Slice lo hi st _ => match st with
    | none => match R.e sc own false a, cOpt R sc own lo, cOpt R sc own hi with
      | some ca, some cl, some ch => some (.slc mt ca cl ch)
      | _, _, _ => none
    | some st => if isBack st && isNo lo && isNo hi then match R.e sc own false a with
        | some ca => some (.rev mt ca)
        | none => none
      else none
  | i => match R.e sc own false a, R.e sc own false i with
    | some ca, some ci => some (.idx ca ci)
    | _, _ => none
def tyOf (x : Str) : Option Ty :=
  if x = "int" then some .int else if x = "bool" then some .bool else if x = "str" then some .str else if x = "tuple" then some .tuple else if x = "list" then some .list else if x = "dict" then some .dict else none
def bfOf (mt : Bool) (x : Str) : Option BF :=
  if x = "len" then some .len else if x = "min" then some .min else if x = "max" then some .max else if x = "abs" then some .abs else if x = "sum" then some .sum else if x = "all" then some .all
  else if x = "any" then some .any else if x = "tuple" then some .tuple else if x = "list" then some (.list mt) else if x = "repr" then some .repr else if x = "str" then some .str else if x = "sorted" then some (.sorted mt) else none
def cCall (mt : Bool) (x : Str) (args : List Expr) : Option CE :=
  if gloB sc x && !(x == ("__debug__" : Str)) then match T.ids.lookup x with
    | some (f, n) => if args.length = n then match cEs R sc own args with
        | some cs => some (.call f cs)
        | none => none
      else none
    | none => if T.fr.contains x then
        (if x = "isinstance" then match args with
          | [a, .Name t _] => if gloB sc t && T.fr.contains t then match R.e sc own false a, tyOf t with
              | some ca, some ty => some (.blt (.isi ty) (.cons ca .nil))
              | _, _ => none
            else none
          | _ => none
        else if args.isEmpty then none else match bfOf mt x, cEs R sc own args with
          | some b, some cs => some (.blt b cs)
          | _, _ => none)
      else none
  else none
def isCall : Expr → Bool
  | .Call .. => true
  | _ => false
def cMeth (o : Expr) (m : Str) (args : List Expr) (ap cp : Pos) : Option CE :=
  if !isCall o && (ap.endLine == cp.line) && !args.isEmpty && decide (args.length < 30) then match R.e sc own false o, cEs R sc own args with
    | some co, some cs => if m = "append" then some (.mth .append co cs) else if m = "count" then some (.mth .count co cs) else none
    | _, _ => none
  else none
def cNms : List Expr → Option (List Nat)
  | [] => some []
  | .Name x _ :: es => if stoB sc own x then match slotOf N x, cNms es with
      | some i, some is => some (i :: is)
      | _, _ => none
    else none
  | _ => none
def cTg : Expr → Option Tg
  | .Name x _ => if stoB sc own x then match slotOf N x with
      | some i => some (.nm i)
      | none => none
    else none
  | .Tuple es _ _ => match cNms N sc own es with
    | some is => some (.tp is)
    | none => none
  | _ => none
def isTup : Expr → Bool
  | .Tuple .. => true
  | _ => false
def cIter (tg iter : Expr) : Option CI := match iter with
  | .Call (.Name x _) args [] _ =>
    if gloB sc x && T.fr.contains x && decide (x = "range") then match args with
      | [a] => match R.e sc own false a with
        | some c => some (.rng c)
        | none => none
      | [a, b] => match R.e sc own false a, R.e sc own false b with
        | some c, some d => some (.rng2 c d)
        | _, _ => none
      | _ => none
    else if gloB sc x && T.fr.contains x && decide (x = "enumerate") then match args with
      | [a] => if isTup tg then match R.e sc own false a with
          | some c => some (.enum c)
          | none => none
        else none
      | _ => none
    else if gloB sc x && T.fr.contains x && decide (x = "zip") then match args with
      | [a, b] => if isTup tg then match R.e sc own false a, R.e sc own false b with
          | some c, some d => some (.zip c d)
          | _, _ => none
        else none
      | _ => none
    else match R.e sc own false iter with
      | some c => some (.seq c)
      | none => none
  | iter => match R.e sc own false iter with
    | some c => some (.seq c)
    | none => none
def ownFrom (scope : Scope) : Nat → List Str → List (Str × Nat)
  | _, [] => []
  | i, x :: xs => match scope.names.lookup x with
    | some .local => (x, i) :: ownFrom scope (i + 1) xs
    | some .cell => (x, i) :: ownFrom scope (i + 1) xs
    | _ => ownFrom scope (i + 1) xs
def ownOf (scope : Scope) : List (Str × Nat) := ownFrom scope 0 N
def cLC (mt : Bool) (elt tg iter : Expr) (ifs : List Expr) (scope : Scope) : Option CE :=
  if blkC N sc scope (ownOf N scope) then
    match cIter T R sc own tg iter, cTg N (relS scope sc) (some scope) tg, (match ifs with
      | [] => some CEo.no
      | [c] => (match R.t (relS scope sc) (some scope) c with
        | some c => some (CEo.yes c)
        | none => none)
      | _ => none), R.e (relS scope sc) (some scope) false elt with
    | some ci, some t, some cc, some ce => if (tgSlots t).all fun i => decide (i ∈ (ownOf N scope).map (·.2)) then some (.comp mt ((ownOf N scope).map (·.2)) t ci cc ce) else none
    | _, _, _, _ => none
  else none
def cDict (ks : List (Option Expr)) (vs : List Expr) : Option CE := match ks, vs with
  | [], [] => some (.dct .nil .nil)
  | [some (.Constant k _ _)], [.Constant v _ _] => match constP k, constP v with
    | some kd, some vd => if keyOk kd then some (.dct (.cons (.cst kd) .nil) (.cons (.cst vd) .nil)) else none
    | _, _ => none
  | _, _ => none
def stepE (mt : Bool) (e : Expr) : Option CE :=
  match e with
  | .Constant c _ _ => (match constP c with
    | some d => some (.cst d)
    | none => none)
  | .Name x _ => cName T N sc x
  | .BinOp a op b _ => (match bopOf op, R.e sc own false a, R.e sc own false b with
    | some o, some ca, some cb => some (.bin o mt ca cb)
    | _, _, _ => none)
  | .UnaryOp op a _ => (match op with
    | .USub => (match R.e sc own false a with
      | some c => some (.neg c)
      | none => none)
    | .Not => (match R.e sc own false a with
      | some c => some (.not c)
      | none => none)
    | _ => none)
  | .BoolOp op vs _ => cBool R sc own op vs
  | .Compare a ops bs _ => cCmp R sc own a ops bs
  | .IfExp c a b _ => (match R.t sc own c, R.e sc own mt a, R.e sc own mt b with
    | some cc, some ca, some cb => some (.ife cc ca cb)
    | _, _, _ => none)
  | .Tuple es _ _ => (match cEs R sc own es with
    | some cs => some (.tup cs)
    | none => none)
  | .List es _ => (match cEs R sc own es with
    | some cs => some (.lst mt cs)
    | none => none)
  | .Dict ks vs _ => cDict ks vs
  | .Subscript a i _ => cSub R sc own mt a i
  | .Call f args kws cp => (match f, kws with
    | .Name x _, [] => cCall T R sc own mt x args
    | .Attribute o m ap, [] => cMeth R sc own o m args ap cp
    | _, _ => none)
  | .ListComp elt gs scope _ => (match gs with
    | [⟨tg, iter, ifs, 0⟩] => cLC T N R sc own mt elt tg iter ifs scope
    | _ => none)
  | _ => none
def stepT (e : Expr) : Option CE :=
  match e with
  | .BoolOp op vs _ => cBoolT R sc own op vs
  | .UnaryOp .Not a _ => (match R.t sc own a with
    | some c => some (.not c)
    | none => none)
  | .IfExp .. => none
  | e => R.e sc own false e
end
def recs (T : Gt) (N : List Str) : Nat → Rec
  | 0 => ⟨fun _ _ _ _ => none, fun _ _ _ => none⟩
  | n + 1 => ⟨fun sc own mt e => stepE T N (recs T N n) sc own mt e, fun sc own e => stepT (recs T N n) sc own e⟩
end Mi

set_option Elab.async false
set_option linter.all false
set_option maxRecDepth 100000
set_option maxHeartbeats 1000000
/-! Mi: whatever is compiled is so. -/
namespace Mi
open PySem PySem.Spec PyProof.Rows L2
structure Cok (T : Gt) (N : List Str) (ex : Nat → Value) (fn : Fn) (k : Nat) (sc : Scope) (own : Option Scope) (Wx : WX) (X : Cx) : Prop where
  hN : X.N = N
  hs : X.env.scope = sc
  nd : N.Nodup
  calm : X.calm = true
  tk : Takes X Wx
  po : PassesOwn (model X.prog X.w) X.A X.env X.xe
  rm : Room k X.A
  gd : X.A.guards = some []
  fnq : ∀ x, ownB own x = true → X.fn x = true
  kd : sc.kind = .function
  fs : ∀ x f n, T.ids.lookup x = some (f, n) → ∃ a fd ps, X.mg x = some (.ref a) ∧ PySem.W.keepIn X.K (.ref a) = true ∧ Binds X.K fd ps [] ∧ FnG X.prog X.w X.K X.mg X.base k a fd ps (spF X.K ex fn f n)
  cs : ∀ x d, T.cs.lookup x = some d → ∃ v u, X.mg x = some u ∧ RelV v u ∧ ∀ S H, RP X.K S H d v
  fr : ∀ x, x ∈ T.fr → X.mg x = none
/-- a test that is the truth of a value -/
def tstB : Expr → Bool
  | .BoolOp .. => false
  | .UnaryOp .Not _ _ => false
  | .IfExp .. => false
  | _ => true
structure RecOk (T : Gt) (N : List Str) (ex : Nat → Value) (fn : Fn) (k : Nat) (R : Rec) : Prop where
  e : ∀ {sc own Wx X}, Cok T N ex fn k sc own Wx X → ∀ {mt e c}, R.e sc own mt e = some c → okx e = true ∧ PE X e (tE X.K ex Wx fn c) ∧ (tstB e = true → PT X e (tT X.K ex Wx fn c))
  t : ∀ {sc own Wx X}, Cok T N ex fn k sc own Wx X → ∀ {e c}, R.t sc own e = some c → PT X e (tT X.K ex Wx fn c)
theorem okx_star {e : Expr} (h : okx e = true) : NoStar e := by
  intro rest env
  cases e <;> first | rfl | cases h
theorem okx_marks {e : Expr} (h : okx e = true) (o : CmpOp) : behindInMarks o e = false := by
  cases e <;> first | rfl | cases h
theorem okx_last {b c : Expr} (h : okx c = true) (o o' : CmpOp) : lastMarks [o, o'] [b, c] = false := by
  show behindInMarks o' c = false
  exact okx_marks h o'
theorem okx_ix {e : Expr} (h : okx e = true) : PlainIx e := by
  intro o i
  cases e <;> first | rfl | cases h
theorem okx_set {e : Expr} (h : okx e = true) (env : PySem.Env) : ∀ x, foldedSetIterable e env x = pure x := by
  intro x
  cases e <;> first | rfl | cases h
section
variable {T : Gt} {N : List Str} {ex : Nat → Value} {fn : Fn} {k : Nat} {R : Rec} {sc : Scope} {own : Option Scope} {Wx : WX} {X : Cx}
theorem vis_of (C : Cok T N ex fn k sc own Wx X) {x : Str} (h : visB sc x = true) : Vis X.env.scope x := by
  unfold visB at h
  rw [C.hs]
  unfold Vis
  split at h
  · rename_i e; exact .inl e
  · rename_i e; exact .inr (.inl e)
  · rename_i e; exact .inr (.inr e)
  · cases h
theorem glo_of (C : Cok T N ex fn k sc own Wx X) {x : Str} (h : gloB sc x = true) : Gl X x := by
  unfold gloB at h
  show X.env.scope.names.lookup x = some .globalImplicit
  rw [C.hs]
  split at h
  · rename_i e; exact e
  · cases h
theorem sto_of (C : Cok T N ex fn k sc own Wx X) {x : Str} (h : stoB sc own x = true) : Loc X.env.scope x ∧ (X.fn x = true ∨ X.env.scope.names.lookup x = some .local) := by
  unfold stoB at h
  rw [C.hs]
  split at h
  · rename_i e; exact ⟨.inl e, .inr e⟩
  · rename_i e; exact ⟨.inr e, .inl (C.fnq x h)⟩
  · cases h
theorem units_of (C : Cok T N ex fn k sc own Wx X) : X.A.units + 64 < cLine := C.rm.units
theorem cEs_ok (O : RecOk T N ex fn k R) (C : Cok T N ex fn k sc own Wx X) : ∀ {es : List Expr} {cs : CEs}, cEs R sc own es = some cs → PA X es (tEs X.K ex Wx fn cs) ∧ (∀ y ∈ es, NoStar y) ∧ ∀ ρ M ds M', evEs fn cs ρ M = .ok ds M' → ds.length = es.length
  | [], cs, h => by
    cases h
    refine ⟨ca_nil, fun y hy => absurd hy List.not_mem_nil, fun ρ M ds M' e => ?_⟩
    simp only [evEs] at e
    cases e
    rfl
  | e :: es, cs, h => by
    unfold cEs at h
    split at h
    · rename_i c hc
      split at h
      · rename_i cs' hcs
        cases h
        obtain ⟨h1, h2, _⟩ := O.e C hc
        obtain ⟨g1, g2, g3⟩ := cEs_ok O C hcs
        refine ⟨ca_cons h2 g1 (okx_star h1 _ _), fun y hy => ?_, fun ρ M ds M' e => ?_⟩
        · rcases List.mem_cons.mp hy with z | z
          · rw [z]; exact okx_star h1
          · exact g2 y z
        · simp only [evEs] at e
          cases e1 : evE fn c ρ M with
          | bad => rw [e1] at e; cases e
          | exc x M1 => rw [e1] at e; cases e
          | ok d M1 =>
            rw [e1] at e
            simp only [Res.bind] at e
            cases e2 : evEs fn cs' ρ M1 with
            | bad => rw [e2] at e; cases e
            | exc x M2 => rw [e2] at e; cases e
            | ok ds' m2 =>
              rw [e2] at e
              have hl := g3 ρ M1 ds' m2 e2
              cases e
              simp [hl]
      · cases h
    · cases h
theorem cBool_ok (O : RecOk T N ex fn k R) (C : Cok T N ex fn k sc own Wx X) {op : BoolOp} {pos : Pos} : ∀ {es : List Expr} {c : CE}, cBool R sc own op es = some c → PE X (.BoolOp op es pos) (tE X.K ex Wx fn c)
  | [], c, h => by cases h
  | [a], c, h => ce_one (O.e C h).2.1
  | a :: b :: rest, c, h => by
    unfold cBool at h
    split at h
    · rename_i ca hca
      split at h
      · rename_i cr hcr
        cases h
        cases op with
        | And => exact ce_and (O.e C hca).2.1 (cBool_ok O C hcr)
        | Or => exact ce_or (O.e C hca).2.1 (cBool_ok O C hcr)
      · cases h
    · cases h
theorem cBoolT_ok (O : RecOk T N ex fn k R) (C : Cok T N ex fn k sc own Wx X) {op : BoolOp} {pos : Pos} : ∀ {es : List Expr} {c : CE}, cBoolT R sc own op es = some c → PW X (.BoolOp op es pos) (tT X.K ex Wx fn c)
  | [], c, h => by cases h
  | [a], c, h => cw_one (O.t C h)
  | a :: b :: rest, c, h => by
    unfold cBoolT at h
    split at h
    · rename_i ca hca
      split at h
      · rename_i cr hcr
        cases h
        cases op with
        | And => exact cw_and (O.t C hca) (cBoolT_ok O C hcr)
        | Or => exact cw_or (O.t C hca) (cBoolT_ok O C hcr)
      · cases h
    · cases h
theorem cCmp_ok (O : RecOk T N ex fn k R) (C : Cok T N ex fn k sc own Wx X) {a : Expr} {ops : List CmpOp} {bs : List Expr} {c : CE} {pos : Pos} (h : cCmp R sc own a ops bs = some c) : PE X (.Compare a ops bs pos) (tE X.K ex Wx fn c) ∧ PT X (.Compare a ops bs pos) (tT X.K ex Wx fn c) := by
  unfold cCmp at h
  split at h
  · rename_i o b
    split at h
    · rename_i ca cb h1 h2
      cases h
      obtain ⟨_, p1, _⟩ := O.e C h1
      obtain ⟨k2, p2, _⟩ := O.e C h2
      have e := cpOf_of o
      have r1 := ce_cmp (pos := pos) (units_of C) (o := cpOf o) p1 p2 (okx_marks k2 _)
      have r2 := ct_cmp (pos := pos) (units_of C) (o := cpOf o) p1 p2 (okx_marks k2 _)
      rw [e] at r1 r2
      exact ⟨r1, r2⟩
    · cases h
  · rename_i o o' b c'
    split at h
    · rename_i ca cb cc h1 h2 h3
      cases h
      obtain ⟨_, p1, _⟩ := O.e C h1
      obtain ⟨_, p2, _⟩ := O.e C h2
      obtain ⟨k3, p3, _⟩ := O.e C h3
      have e := cpOf_of o
      have e' := cpOf_of o'
      have r1 := ce_chn (pos := pos) (units_of C) (o := cpOf o) (o' := cpOf o') p1 p2 p3 (okx_last k3 _ _)
      have r2 := ct_chn (pos := pos) (units_of C) (o := cpOf o) (o' := cpOf o') p1 p2 p3 (okx_last k3 _ _)
      rw [e, e'] at r1 r2
      exact ⟨r1, r2⟩
    · cases h
  · cases h
theorem cOpt_ok (O : RecOk T N ex fn k R) (C : Cok T N ex fn k sc own Wx X) {e : Option Expr} {c : CEo} (h : cOpt R sc own e = some c) : PO X e (tO X.K ex Wx fn c) := by
  unfold cOpt at h
  split at h
  · cases h; exact co_none
  · split at h
    · rename_i c' hc
      cases h
      exact co_some (O.e C hc).2.1
    · cases h
theorem isBack_ok {e : Expr} (h : isBack e = true) : ∃ k p1 p2, e = .UnaryOp .USub (.Constant (.int 1) k p1) p2 := by
  unfold isBack at h
  split at h
  · rename_i i k p1 p2
    rw [eq_of_beq h]
    exact ⟨_, _, _, rfl⟩
  · cases h
theorem isNo_ok {e : Option Expr} (h : isNo e = true) : e = none := by
  cases e with
  | none => rfl
  | some _ => cases h
theorem cSub_ok (O : RecOk T N ex fn k R) (C : Cok T N ex fn k sc own Wx X) {mt : Bool} {a i : Expr} {c : CE} {pos : Pos} (h : cSub R sc own mt a i = some c) : PE X (.Subscript a i pos) (tE X.K ex Wx fn c) := by
  unfold cSub at h
  split at h
  · split at h
    · split at h
      · rename_i h1 h2 h3
        cases h
        exact ce_slc (O.e C h1).2.1 (cOpt_ok O C h2) (cOpt_ok O C h3)
      · cases h
    · split at h
      · rename_i hb
        simp only [Bool.and_eq_true] at hb
        obtain ⟨k', p1, p2, e1⟩ := isBack_ok hb.1.1
        have e2 := isNo_ok hb.1.2
        have e3 := isNo_ok hb.2
        subst e1 e2 e3
        split at h
        · rename_i h1
          cases h
          exact ce_rev (O.e C h1).2.1
        · cases h
      · cases h
  · split at h
    · rename_i h1 h2
      cases h
      obtain ⟨k2, p2, _⟩ := O.e C h2
      exact ce_idx (O.e C h1).2.1 p2 (okx_ix k2)
    · cases h
theorem tyOf_ok {x : Str} {t : Ty} (h : tyOf x = some t) : bootBuiltins x = some (.type (tyName t)) ∧ x ≠ "__name__" ∧ (x == ("__debug__" : Str)) = false := by
  unfold tyOf at h
  split at h
  · rename_i e; cases h; rw [e]; exact ⟨by decide +kernel, by decide, by decide⟩
  split at h
  · rename_i e; cases h; rw [e]; exact ⟨by decide +kernel, by decide, by decide⟩
  split at h
  · rename_i e; cases h; rw [e]; exact ⟨by decide +kernel, by decide, by decide⟩
  split at h
  · rename_i e; cases h; rw [e]; exact ⟨by decide +kernel, by decide, by decide⟩
  split at h
  · rename_i e; cases h; rw [e]; exact ⟨by decide +kernel, by decide, by decide⟩
  split at h
  · rename_i e; cases h; rw [e]; exact ⟨by decide +kernel, by decide, by decide⟩
  · cases h
theorem cBlt_ok (C : Cok T N ex fn k sc own Wx X) {mt : Bool} {x : Str} {b : BF} {e : Expr} {es : List Expr} {cs : CEs} {p pos : Pos} (hb : bfOf mt x = some b) (hg : Gl X x) (hm : X.mg x = none) (hdb : (x == ("__debug__" : Str)) = false) (ha : PA X (e :: es) (tEs X.K ex Wx fn cs)) (hst : ∀ y ∈ e :: es, NoStar y) :
    PE X (.Call (.Name x p) (e :: es) [] pos) (tE X.K ex Wx fn (.blt b cs)) := by
  unfold bfOf at hb
  split at hb
  · rename_i e; cases hb; subst e; exact ce_bltB b_len hg hm (by decide +kernel) ha (by decide) hdb hst
  split at hb
  · rename_i e; cases hb; subst e; exact ce_bltB (b_min C.calm) hg hm (by decide +kernel) ha (by decide) hdb hst
  split at hb
  · rename_i e; cases hb; subst e; exact ce_bltB (b_max C.calm) hg hm (by decide +kernel) ha (by decide) hdb hst
  split at hb
  · rename_i e; cases hb; subst e; exact ce_bltB b_abs hg hm (by decide +kernel) ha (by decide) hdb hst
  split at hb
  · rename_i e; cases hb; subst e; exact ce_bltB (b_sum C.calm) hg hm (by decide +kernel) ha (by decide) hdb hst
  split at hb
  · rename_i e; cases hb; subst e; exact ce_bltB (b_all C.calm) hg hm (by decide +kernel) ha (by decide) hdb hst
  split at hb
  · rename_i e; cases hb; subst e; exact ce_bltB (b_any C.calm) hg hm (by decide +kernel) ha (by decide) hdb hst
  split at hb
  · rename_i e; cases hb; subst e; exact ce_bltT b_tuple hg hm (by decide +kernel) ha (by decide) hdb hst
  split at hb
  · rename_i e; cases hb; subst e; exact ce_bltT (b_list mt) hg hm (by decide +kernel) ha (by decide) hdb hst
  split at hb
  · rename_i e; cases hb; subst e; exact ce_bltB (b_repr C.gd (units_of C)) hg hm (by decide +kernel) ha (by decide) hdb hst
  split at hb
  · rename_i e; cases hb; subst e; exact ce_bltT b_str hg hm (by decide +kernel) ha (by decide) hdb hst
  split at hb
  · rename_i e; cases hb; subst e; exact ce_bltB (b_sorted mt) hg hm (by decide +kernel) ha (by decide) hdb hst
  · cases hb
theorem fr_of (C : Cok T N ex fn k sc own Wx X) {x : Str} (h : T.fr.contains x = true) : X.mg x = none := C.fr x (List.contains_iff_mem.mp h)
theorem cCall_ok (O : RecOk T N ex fn k R) (C : Cok T N ex fn k sc own Wx X) {mt : Bool} {x : Str} {args : List Expr} {c : CE} {p pos : Pos} (h : cCall T R sc own mt x args = some c) : PE X (.Call (.Name x p) args [] pos) (tE X.K ex Wx fn c) := by
  unfold cCall at h
  split at h
  · rename_i hgd
    simp only [Bool.and_eq_true, Bool.not_eq_true'] at hgd
    have hg := glo_of C hgd.1
    split at h
    · rename_i f n hid
      obtain ⟨a, fd, ps, m1, m2, m3, F⟩ := C.fs x f n hid
      split at h
      · rename_i hn
        split at h
        · rename_i cs hcs
          cases h
          obtain ⟨g1, g2, g3⟩ := cEs_ok O C hcs
          cases args with
          | nil =>
            cases hcs
            subst hn
            exact ce_call0 F C.gd C.rm hg m1 m2 m3 C.tk hgd.2
          | cons e es => exact ce_call F C.gd C.rm hg m1 m2 m3 C.tk g1 hgd.2 g2 (fun ρ M ds M' e => (g3 ρ M ds M' e).trans hn)
        · cases h
      · cases h
    · split at h
      · rename_i hfr
        have hm := fr_of C hfr
        split at h
        · rename_i ex'
          subst ex'
          split at h
          · rename_i a t p2
            split at h
            · rename_i hgt
              simp only [Bool.and_eq_true] at hgt
              split at h
              · rename_i ca ty h1 h2
                cases h
                obtain ⟨k1, p1, _⟩ := O.e C h1
                obtain ⟨t1, t2, t3⟩ := tyOf_ok h2
                exact ce_isi hg hm (glo_of C hgt.1) (fr_of C hgt.2) t1 t2 t3 p1 (okx_star k1)
              · cases h
            · cases h
          · cases h
        · split at h
          · cases h
          · split at h
            · rename_i b cs h1 h2
              cases h
              obtain ⟨g1, g2, _⟩ := cEs_ok O C h2
              cases args with
              | nil => rename_i hne _; exact absurd rfl hne
              | cons e es => exact cBlt_ok C h1 hg hm hgd.2 g1 g2
            · cases h
      · cases h
  · cases h
theorem attr_of {o : Expr} (h : isCall o = false) (m : Str) (env : PySem.Env) : attributeBase o m env (eval o env) = eval o env := by
  cases o <;> first | rfl | cases h
theorem cMeth_ok (O : RecOk T N ex fn k R) (C : Cok T N ex fn k sc own Wx X) {o : Expr} {m : Str} {args : List Expr} {ap cp : Pos} {c : CE} (h : cMeth R sc own o m args ap cp = some c) : PE X (.Call (.Attribute o m ap) args [] cp) (tE X.K ex Wx fn c) := by
  unfold cMeth at h
  split at h
  · rename_i hh
    simp only [Bool.and_eq_true, Bool.not_eq_true', decide_eq_true_eq] at hh
    obtain ⟨⟨⟨h1, h2⟩, h3⟩, h4⟩ := hh
    split at h
    · rename_i co cs hc1 hc2
      obtain ⟨_, p1, _⟩ := O.e C hc1
      obtain ⟨g1, g2, _⟩ := cEs_ok O C hc2
      cases args with
      | nil => cases h3
      | cons e es =>
        split at h
        · rename_i em
          subst em
          cases h
          exact ce_mth (m := .append) PySem.F.slot_list_append PySem.F.type_list_append m_append (fun o ds M c M' => mAppend_ne c M') p1 g1 (attr_of h1 _ _) h2 h4 g2
        · split at h
          · rename_i em
            subst em
            cases h
            exact ce_mth (m := .count) PySem.F.slot_list_count PySem.F.type_list_count (m_two (b_count (units_of C))) (fun o ds M c M' => two_ne (fun x y M c M' h => by unfold bCount at h; split at h <;> (try split at h) <;> cases h) c M') p1 g1 (attr_of h1 _ _) h2 h4 g2
          · cases h
    · cases h
  · cases h
theorem cNms_ok (C : Cok T N ex fn k sc own Wx X) : ∀ {es : List Expr} {is : List Nat}, cNms N sc own es = some is → NmsOk X es is ∧ NmsD X es is
  | [], is, h => by
    unfold cNms at h
    cases h
    exact ⟨nms_nil, nmd_nil⟩
  | e :: es, is, h => by
    cases e <;> try (simp [cNms] at h; done)
    rename_i x pos
    unfold cNms at h
    split at h
    · rename_i hs
      split at h
      · rename_i i is' h1 h2
        cases h
        obtain ⟨g1, g2⟩ := cNms_ok C h2
        obtain ⟨l1, l2⟩ := sto_of C hs
        have hN : X.N.Nodup := by rw [C.hN]; exact C.nd
        have hi : X.N[i]? = some x := by rw [C.hN]; exact slotOf_get h1
        exact ⟨nms_cons (cg_name hN hi l1 l2) g1, nmd_cons hN hi l1 l2 g2⟩
      · cases h
    · cases h
theorem cTg_ok (C : Cok T N ex fn k sc own Wx X) {e : Expr} {t : Tg} (h : cTg N sc own e = some t) : PG X e (tG X.K t) := by
  unfold cTg at h
  split at h
  · split at h
    · rename_i hs
      split at h
      · rename_i i hi
        cases h
        obtain ⟨l1, l2⟩ := sto_of C hs
        exact cg_name (by rw [C.hN]; exact C.nd) (by rw [C.hN]; exact slotOf_get hi) l1 l2
      · cases h
    · cases h
  · split at h
    · rename_i is hi
      cases h
      exact cg_tup C.calm (cNms_ok C hi).1
    · cases h
  · cases h
theorem cIter_ok (O : RecOk T N ex fn k R) (C : Cok T N ex fn k sc own Wx X) {tg iter : Expr} {ci : CI} (h : cIter T R sc own tg iter = some ci) : PI X tg iter (tI X.K ex Wx fn ci) ∧ ∀ x, foldedSetIterable iter X.env x = pure x := by
  have seq : ∀ {e : Expr} {c : CE}, R.e sc own false e = some c → PI X tg e (tI X.K ex Wx fn (.seq c)) ∧ ∀ x, foldedSetIterable e X.env x = pure x := fun hc => ⟨ci_seq (O.e C hc).2.1, okx_set (O.e C hc).1 _⟩
  unfold cIter at h
  split at h
  · rename_i x p args pos
    refine ⟨?_, fun _ => rfl⟩
    split at h
    · rename_i hh
      simp only [Bool.and_eq_true, decide_eq_true_eq] at hh
      obtain ⟨⟨h1, h2⟩, rfl⟩ := hh
      split at h
      · split at h
        · rename_i a c hc
          cases h
          obtain ⟨k1, p1, _⟩ := O.e C hc
          exact ci_rng (glo_of C h1) (fr_of C h2) p1 (okx_star k1)
        · cases h
      · split at h
        · rename_i a b c d hc hd
          cases h
          obtain ⟨k1, p1, _⟩ := O.e C hc
          obtain ⟨k2, p2, _⟩ := O.e C hd
          exact ci_rng2 (glo_of C h1) (fr_of C h2) p1 p2 (okx_star k1) (okx_star k2)
        · cases h
      · cases h
    · split at h
      · rename_i hh
        simp only [Bool.and_eq_true, decide_eq_true_eq] at hh
        obtain ⟨⟨h1, h2⟩, rfl⟩ := hh
        split at h
        · split at h
          · rename_i ht
            split at h
            · rename_i c hc
              cases h
              obtain ⟨k1, p1, _⟩ := O.e C hc
              cases tg <;> first | cases ht | skip
              exact ci_enum (glo_of C h1) (fr_of C h2) p1 (okx_star k1)
            · cases h
          · cases h
        · cases h
      · split at h
        · rename_i hh
          simp only [Bool.and_eq_true, decide_eq_true_eq] at hh
          obtain ⟨⟨h1, h2⟩, rfl⟩ := hh
          split at h
          · split at h
            · rename_i ht
              split at h
              · rename_i c d hc hd
                cases h
                obtain ⟨k1, p1, _⟩ := O.e C hc
                obtain ⟨k2, p2, _⟩ := O.e C hd
                cases tg <;> first | cases ht | skip
                exact ci_zip (glo_of C h1) (fr_of C h2) p1 p2 (okx_star k1) (okx_star k2)
              · cases h
            · cases h
          · cases h
        · split at h
          · rename_i c hc
            cases h
            exact (seq hc).1
          · cases h
  · split at h
    · rename_i c hc
      cases h
      exact seq hc
    · cases h
/-- a comprehension's block -/
theorem blk_ok (C : Cok T N ex fn k sc own Wx X) {scope : Scope} (hk : scope.kind = .function) (s : Shared) (H : Hp) (D : Addr) (cl : List (Str × Addr)) (fp : List Addr) : Cok T N ex fn k (relS scope sc) (some scope) W0 (X.blk s H scope (compEnvC scope cl D X.env) fp) where
  hN := C.hN
  hs := by rw [← C.hs]; rfl
  nd := C.nd
  calm := C.calm
  tk := fun u s' h => by
    obtain ⟨_, _, _, _, _, _, _, _, _, _, _, _, _, _, _, _, z⟩ := h
    exact z.elim
  po := PassesOwn.never
  rm := C.rm
  gd := C.gd
  fnq := fun x h => by
    show (scope.names.lookup x == some .cell) = true
    unfold ownB at h
    dsimp only at h
    split at h
    · rename_i e; rw [e]; rfl
    · cases h
  kd := hk
  fs := C.fs
  cs := C.cs
  fr := C.fr
structure LCok (X : Cx) (ex : Nat → Value) (Wx : WX) (fn : Fn) (elt tg iter : Expr) (ifs : List Expr) (scope : Scope) (c : CE) : Prop where
  ok : ∃ (own : List (Str × Nat)) (wi : TI) (g : TG) (tt : TT) (te : TE), X.calm = true ∧ X.N.Nodup ∧ PI X tg iter wi ∧ BlkOk X.N X.env.scope scope own ∧
    (∀ (s : Shared) (H : Hp) (C : Addr) (cl : List (Str × Addr)) (fp : List Addr), PG (X.blk s H scope (compEnvC scope cl C X.env) fp) tg g) ∧ (∀ (s : Shared) (H : Hp) (C : Addr) (cl : List (Str × Addr)) (fp : List Addr), PTs (X.blk s H scope (compEnvC scope cl C X.env) fp) ifs tt) ∧
    (∀ (s : Shared) (H : Hp) (C : Addr) (cl : List (Str × Addr)) (fp : List Addr), PE (X.blk s H scope (compEnvC scope cl C X.env) fp) elt te) ∧ (∀ x, foldedSetIterable iter X.env x = pure x) ∧
    ∀ σ H Q, tE X.K ex Wx fn c σ H Q → tLc wi g tt te (own.map (·.2)) σ H Q
theorem cLC_ok (O : RecOk T N ex fn k R) (C : Cok T N ex fn k sc own Wx X) {mt : Bool} {elt tg iter : Expr} {ifs : List Expr} {scope : Scope} {c : CE} (h : cLC T N R sc own mt elt tg iter ifs scope = some c) : LCok X ex Wx fn elt tg iter ifs scope c := by
  unfold cLC at h
  split at h
  · rename_i hb
    have bk := blkOk_by hb
    split at h
    · rename_i ci t cc ce h1 h2 h3 h4
      split at h
      · rename_i hts
        cases h
        obtain ⟨i1, i2⟩ := cIter_ok O C h1
        have bk' : BlkOk X.N X.env.scope scope (ownOf N scope) := by rw [C.hN, C.hs]; exact bk
        have hN : X.N.Nodup := by rw [C.hN]; exact C.nd
        have B := fun s H D cl fp => blk_ok C bk.kind s H D cl fp
        have hg : ∀ (s : Shared) (H : Hp) (C : Addr) (cl : List (Str × Addr)) (fp : List Addr), PG (X.blk s H scope (compEnvC scope cl C X.env) fp) tg (tG X.K t) := fun s H D cl fp => cTg_ok (B s H D cl fp) h2
        have ht : ∀ (s : Shared) (H : Hp) (C : Addr) (cl : List (Str × Addr)) (fp : List Addr), PTs (X.blk s H scope (compEnvC scope cl C X.env) fp) ifs (tC1 X.K ex W0 fn cc) := fun s H D cl fp => by
          split at h3
          · cases h3; exact cc_nil
          · split at h3
            · rename_i c' hc'
              cases h3
              exact cc_one (O.t (B s H D cl fp) hc')
            · cases h3
          · cases h3
        have he : ∀ (s : Shared) (H : Hp) (C : Addr) (cl : List (Str × Addr)) (fp : List Addr), PE (X.blk s H scope (compEnvC scope cl C X.env) fp) elt (tE X.K ex W0 fn ce) := fun s H D cl fp => (O.e (B s H D cl fp) h4).2.1
        refine ⟨_, _, _, _, _, C.calm, hN, i1, bk', hg, ht, he, i2, fun σ H Q hq => ce_comp C.calm hN i1 bk' rfl (fun i hi => ?_) hg ht he hq⟩
        exact of_decide_eq_true (List.all_eq_true.mp hts i hi)
      · cases h
    · cases h
  · cases h
theorem LCok.pe {elt tg iter : Expr} {ifs : List Expr} {scope : Scope} {c : CE} {pos : Pos} (h : LCok X ex Wx fn elt tg iter ifs scope c) : PE X (.ListComp elt [⟨tg, iter, ifs, 0⟩] scope pos) (tE X.K ex Wx fn c) := by
  obtain ⟨own, wi, g, tt, te, h1, h2, h3, h4, h5, h6, h7, h8, h9⟩ := h.ok
  exact (pe_lc h1 h2 h3 h4 h5 h6 h7 h8).weak h9
theorem LCok.ps {elt tg iter : Expr} {ifs : List Expr} {scope : Scope} {c : CE} {pos spos py : Pos} {i fuel : Nat} {y : Str} (h : LCok X ex Wx fn elt tg iter ifs scope c) (hy : X.N[i]? = some y) (hyl : X.env.scope.names.lookup y = some .local)
    (hsw : swapsWith (.ListComp elt [⟨tg, iter, ifs, 0⟩] scope pos) (some (.Name y py)) spos.line X.env = pure true) : PS X (.Assign [.Name y py] (.ListComp elt [⟨tg, iter, ifs, 0⟩] scope pos) spos) (tS X.K ex Wx fn fuel (.asg (.nm i) c)) := by
  obtain ⟨own, wi, g, tt, te, h1, h2, h3, h4, h5, h6, h7, h8, h9⟩ := h.ok
  refine (ps_setLc h1 h2 hy hyl hsw h3 h4 h5 h6 h7 h8).weak fun D σ H ⟨S, M, ρ, w, sl, aw⟩ => h9 _ _ _ ?_
  simp only [evS] at aw
  exact ⟨S, M, ρ, w, sl, (aw.onto sl).imp fun d M1 S1 H1 t1 w1 q v r => q.of_ok w1 _ ((sl.mono t1).set i r)⟩
theorem const_ok {c : Const} {d : PyData} {j : Nat} {pos : Pos} (h : constP c = some d) : ∃ v, PE X (.Constant c j pos) (tC v) ∧ ∀ S H, RP X.K S H d v := by
  cases c <;> try (simp [constP] at h; done)
  · cases h; exact ⟨.non, pe_non, fun _ _ => .non⟩
  · cases h; exact ⟨_, pe_bl, fun _ _ => .bl _⟩
  · cases h; exact ⟨_, pe_int, fun _ _ => .int _⟩
  · cases h; exact ⟨_, pe_str, fun _ _ => .str _⟩
theorem cDict_ok {ks : List (Option Expr)} {vs : List Expr} {c : CE} {pos : Pos} (h : cDict ks vs = some c) : PE X (.Dict ks vs pos) (tE X.K ex Wx fn c) := by
  unfold cDict at h
  split at h
  · cases h
    refine pe_dnewK.weak fun σ H Q hq p np => ?_
    obtain ⟨S, M, ρ, w, sl, aw⟩ := hq
    simp only [evE, evEs, Res.bind, dctop, frzPs] at aw
    rw [if_pos (by simp)] at aw
    have st : Stp S H S (upd H p (.dK [])) := .fresh np
    exact aw S _ st (w.fresh np) _ (.dct upd_same ⟨fun z => w.al p z np, fun z => w.zl p z np⟩ .nil)
  · split at h
    · rename_i kd vd h1 h2
      split at h
      · rename_i hk
        cases h
        obtain ⟨kv, pk, rk⟩ := const_ok (X := X) h1
        obtain ⟨vv, pv, rv⟩ := const_ok (X := X) h2
        refine (pe_disp (pps_cons pk pv pps_nil) rfl rfl (fun z => by cases z) (by show 1 ≤ 15; decide)).weak fun σ H Q hq p np => ?_
        obtain ⟨S, M, ρ, w, sl, aw⟩ := hq
        simp only [evE, evEs, Res.bind, dctop, frzPs, frzP] at aw
        rw [if_pos (by simp [hk])] at aw
        have kq : ∃ kk : Key, kv = kV kk ∧ RKs X.K S (upd H p (.dK [(kk, vv)])) [(kd, vd)] [(kk, vv)] := by
          have rk' := rk S H
          cases kd <;> try (cases hk; done)
          · cases rk'; exact ⟨.inl _, rfl, .int (rv _ _) .nil⟩
          · cases rk'; exact ⟨.inr _, rfl, .str (rv _ _) .nil⟩
        obtain ⟨kk, rfl, kr⟩ := kq
        refine ⟨upd_same, [(kk, vv)], rfl, by show 1 ≤ 15; decide, ?_⟩
        have e1 : mergeK [] [(kk, vv)] = [(kk, vv)] := by
          unfold mergeK
          simp [putK]
        rw [e1, upd_upd]
        have st : Stp S H S (upd H p (.dK [(kk, vv)])) := .fresh np
        exact aw S _ st (w.fresh np) _ (.dct upd_same ⟨fun z => w.al p z np, fun z => w.zl p z np⟩ kr)
      · cases h
    · cases h
  · cases h
theorem plainTest {e : Expr} (h : tstB e = true) (hc : ∀ a o b p, e ≠ .Compare a o b p) (env : PySem.Env) : ∀ whole, isTrue e env whole = (do let v ← whole; standAt e.pos; holding [v] (truthy v)) := by
  intro whole
  cases e
  case UnaryOp op a p => cases op <;> first | rfl | cases h
  case Compare a o b p => exact absurd rfl (hc a o b p)
  all_goals first | rfl | cases h
theorem stepE_ok (O : RecOk T N ex fn k R) (C : Cok T N ex fn k sc own Wx X) {mt : Bool} {e : Expr} {c : CE} (h : stepE T N R sc own mt e = some c) : okx e = true ∧ PE X e (tE X.K ex Wx fn c) ∧ (tstB e = true → PT X e (tT X.K ex Wx fn c)) := by
  have go : ∀ (okk : okx e = true) (p : PE X e (tE X.K ex Wx fn c)) (hc : ∀ a o b p, e ≠ .Compare a o b p), okx e = true ∧ PE X e (tE X.K ex Wx fn c) ∧ (tstB e = true → PT X e (tT X.K ex Wx fn c)) := fun okk p hc => ⟨okk, p, fun ht => ct_any p (plainTest ht hc _)⟩
  cases e <;> try (simp [stepE] at h; done)
  case BoolOp op vs pos => exact go rfl (cBool_ok O C h) (fun _ _ _ _ z => by cases z)
  case BinOp a op b pos =>
    simp only [stepE] at h
    split at h
    · rename_i o ca cb h1 h2 h3
      cases h
      have e := bopOf_of h1
      have r := ce_bin (pos := pos) (o := o) (mt := mt) (O.e C h2).2.1 (O.e C h3).2.1
      rw [e] at r
      exact go rfl r (fun _ _ _ _ z => by cases z)
    · cases h
  case UnaryOp op a pos =>
    simp only [stepE] at h
    split at h
    · split at h
      · rename_i c' hc'
        cases h
        exact go rfl (ce_neg (O.e C hc').2.1) (fun _ _ _ _ z => by cases z)
      · cases h
    · split at h
      · rename_i c' hc'
        cases h
        exact go rfl (ce_not (O.e C hc').2.1) (fun _ _ _ _ z => by cases z)
      · cases h
    · cases h
  case IfExp t a b pos =>
    simp only [stepE] at h
    split at h
    · rename_i h1 h2 h3
      cases h
      exact go rfl (ce_ife (O.t C h1) (O.e C h2).2.1 (O.e C h3).2.1) (fun _ _ _ _ z => by cases z)
    · cases h
  case Dict ks vs pos => exact go rfl (cDict_ok h) (fun _ _ _ _ z => by cases z)
  case ListComp elt gs scope pos =>
    simp only [stepE] at h
    split at h
    · exact go rfl (cLC_ok O C h).pe (fun _ _ _ _ z => by cases z)
    · cases h
  case Compare a ops bs pos =>
    obtain ⟨r1, r2⟩ := cCmp_ok O C (pos := pos) h
    exact ⟨rfl, r1, fun _ => r2⟩
  case Call f args kws pos =>
    simp only [stepE] at h
    split at h
    · exact go rfl (cCall_ok O C h) (fun _ _ _ _ z => by cases z)
    · exact go rfl (cMeth_ok O C h) (fun _ _ _ _ z => by cases z)
    · cases h
  case Constant c' j pos =>
    simp only [stepE] at h
    split at h
    · rename_i d hd
      cases h
      obtain ⟨v, p, r⟩ := const_ok (X := X) hd
      exact go rfl (ce_cst p r) (fun _ _ _ _ z => by cases z)
    · cases h
  case Subscript a i pos => exact go rfl (cSub_ok O C h) (fun _ _ _ _ z => by cases z)
  case Name x pos =>
    simp only [stepE, cName] at h
    split at h
    · cases h
    · rename_i hd
      have hd : (x == ("__debug__" : Str)) = false := by simpa using hd
      split at h
      · rename_i hv
        split at h
        · cases h
        · rename_i hcd
          split at h
          · rename_i i hi
            cases h
            exact go rfl (ce_var (by rw [C.hN]; exact slotOf_get hi) (vis_of C hv) hd (by simpa using hcd)) (fun _ _ _ _ z => by cases z)
          · cases h
      · split at h
        · rename_i hg
          split at h
          · rename_i d hcs
            cases h
            obtain ⟨v, u, m, r, rp⟩ := C.cs x d hcs
            exact go rfl (ce_cst (pe_glob (glo_of C hg) m r hd) rp) (fun _ _ _ _ z => by cases z)
          · cases h
        · cases h
  case List es pos =>
    simp only [stepE] at h
    split at h
    · rename_i hcs
      cases h
      exact go rfl (ce_lst (cEs_ok O C hcs).1) (fun _ _ _ _ z => by cases z)
    · cases h
  case Tuple es x1 pos =>
    simp only [stepE] at h
    split at h
    · rename_i hcs
      cases h
      exact go rfl (ce_tup (cEs_ok O C hcs).1) (fun _ _ _ _ z => by cases z)
    · cases h
theorem stepT_ok (O : RecOk T N ex fn k R) (C : Cok T N ex fn k sc own Wx X) {e : Expr} {c : CE} (h : stepT R sc own e = some c) : PT X e (tT X.K ex Wx fn c) := by
  have gen : tstB e = true → R.e sc own false e = some c → PT X e (tT X.K ex Wx fn c) := fun ht hc => (O.e C hc).2.2 ht
  cases e <;> try exact gen rfl h
  case BoolOp op vs pos => exact (cBoolT_ok O C h).pt
  case UnaryOp op a pos =>
    cases op <;> try exact gen rfl h
    simp only [stepT] at h
    split at h
    · rename_i c' hc'
      cases h
      exact ct_not (O.t C hc')
    · cases h
  case IfExp t a b pos => cases h
theorem recs_ok : ∀ n, RecOk T N ex fn k (recs T N n) := by
  intro n
  induction n with
  | zero =>
    constructor
    · intro sc own Wx X C mt e c h; cases h
    · intro sc own Wx X C e c h; cases h
  | succ n ih =>
    constructor
    · intro sc own Wx X C mt e c h; exact stepE_ok ih C h
    · intro sc own Wx X C e c h; exact stepT_ok ih C h
end
end Mi

set_option Elab.async false
set_option linter.all false
set_option maxRecDepth 100000
set_option maxHeartbeats 1000000
/-! Mi: statements compiled; a def's promise; a law's end. -/
namespace Mi
open PySem PySem.Spec PyProof.Rows L2
/-! ### which way a, b = x, y goes -/
def env0 (sc : Scope) : PySem.Env := { scope := sc, locals := 0, globals := 0, cells := [] }
def pos0 : Pos := ⟨0, 0, 0, 0⟩
def semOf {α : Type} : Sem α → Option α
  | .pure a => some a
  | _ => none
theorem semOf_ok {α : Type} {x : Sem α} {a : α} (h : semOf x = some a) : x = pure a := by
  cases x <;> cases h
  rfl
def swq (sc : Scope) (ts vs : List Expr) : Option (Option (List Str)) := semOf (swappedStores [.Tuple ts 0 pos0] (.Tuple vs 0 pos0) (env0 sc))
theorem swq_ok {sc : Scope} {ts vs : List Expr} {r : Option (List Str)} {env : PySem.Env} {k k2 : Nat} {tp vp : Pos} (hs : env.scope = sc) (h : swq sc ts vs = some r) : swappedStores [.Tuple ts k tp] (.Tuple vs k2 vp) env = pure r := by
  subst hs
  exact semOf_ok h
def swB (sc : Scope) (y : Str) (py : Pos) (e : Expr) : Option Bool := semOf (swapsWith e (some (.Name y py)) 0 (env0 sc))
theorem swB_ok {sc : Scope} {y : Str} {py : Pos} {e : Expr} {b : Bool} {env : PySem.Env} {l : Nat} (hs : env.scope = sc) (h : swB sc y py e = some b) : swapsWith e (some (.Name y py)) l env = pure b := by
  subst hs
  exact semOf_ok h
def locNm (sc : Scope) : List Expr → Option (List Str)
  | [] => some []
  | .Name x _ :: r => (match sc.names.lookup x, locNm sc r with
    | some .local, some xs => some (x :: xs)
    | _, _ => none)
  | _ => none
def isLC : Expr → Bool
  | .ListComp .. => true
  | _ => false
def isLoc (sc : Scope) (x : Str) : Bool := match sc.names.lookup x with
  | some .local => true
  | _ => false
/-! ### statements -/
structure Fs where
  muts : List Str
  retm : Bool
section
variable (T : Gt) (N : List Str) (sc : Scope) (F : Fs) (R : Rec)
def noComp : Expr → Bool
  | .ListComp .. => false
  | .SetComp .. => false
  | .DictComp .. => false
  | _ => true
/-- the values of a parallel assignment: those that go to mutable names are made mutable -/
def cPar : List Expr → List Expr → Option CEs
  | .Name x _ :: ts, e :: es => match R.e sc none (F.muts.contains x) e, cPar ts es with
    | some c, some cs => some (.cons c cs)
    | _, _ => none
  | [], [] => some .nil
  | _, _ => none
def cAsg (t e : Expr) : Option CS := match t with
  | .Name x px => if stoB sc none x then match slotOf N x, swB sc x px e, R.e sc none (F.muts.contains x) e with
      | some i, some sw, some c => if !sw || (isLC e && isLoc sc x) then some (.asg (.nm i) c) else none
      | _, _, _ => none
    else none
  | .Tuple ts _ _ => (match e with
    | .Tuple vs _ _ => (match swq sc ts vs, cNms N sc none ts, cPar sc F R ts vs with
      | some none, some is, some cs => if is.length ≤ 16777216 then some (.par is cs) else none
      | some (some nm), some is, some cs => if decide (is.Nodup) && decide (locNm sc ts = some nm) && (decide (ts.length = 2) || decide (ts.length = 3)) && decide (vs.length = ts.length) then some (.par is cs) else none
      | _, _, _ => none)
    | e => if noComp e then (match cNms N sc none ts, R.e sc none false e with
      | some is, some c => some (.asg (.tp is) c)
      | _, _ => none) else none)
  | .Subscript o i _ => if noComp e && okx i then (match R.e sc none false o, R.e sc none false i, R.e sc none false e with
    | some co, some ci, some cv => some (.sub co ci cv)
    | _, _, _ => none) else none
  | _ => none
end
mutual
def cS (T : Gt) (N : List Str) (sc : Scope) (F : Fs) : Nat → Stmt → CS
  | 0, _ => .never
  | n + 1, st => match st with
    | .Expr e _ => if noComp e then (match (recs T N n).e sc none false e with
      | some c => .expr c
      | none => .never) else .never
    | .Assign ts e _ => (match ts with
      | [t] => (match cAsg N sc F (recs T N n) t e with
        | some c => c
        | none => .never)
      | _ => .never)
    | .Return e _ => (match e with
      | none => .retN
      | some e => (match (recs T N n).e sc none F.retm e with
        | some c => .ret c
        | none => .never))
    | .If c a b _ => (match (recs T N n).t sc none c with
      | some cc => .ife cc (cSs T N sc F n a) (cSs T N sc F n b)
      | none => .never)
    | .For tg it body orelse _ => (match orelse with
      | [] => (match cIter T (recs T N n) sc none tg it, cTg N sc none tg with
        | some ci, some t => .loop t ci (cSs T N sc F n body)
        | _, _ => .never)
      | _ => .never)
    | .While c body orelse _ => (match orelse with
      | [] => (match (recs T N n).t sc none c with
        | some cc => .whl cc (cSs T N sc F n body)
        | none => .never)
      | _ => .never)
    | .Pass _ => .pass
    | .Break _ => .brk
    | .Continue _ => .cont
    | _ => .never
def cSs (T : Gt) (N : List Str) (sc : Scope) (F : Fs) : Nat → List Stmt → CSs
  | 0, _ => .cons .never .nil
  | n + 1, sts => match sts with
    | [] => .nil
    | st :: rest => .cons (cS T N sc F n st) (cSs T N sc F n rest)
end
section
variable {T : Gt} {N : List Str} {ex : Nat → Value} {fn : Fn} {fuel k : Nat} {R : Rec} {sc : Scope} {Wx : WX} {X : Cx} {F : Fs}
theorem noComp_sw {e : Expr} (h : noComp e = true) {t : Option Expr} {l : Nat} {env : PySem.Env} : swapsWith e t l env = pure false := by
  cases e <;> first | rfl | cases h
theorem cPar_ok (O : RecOk T N ex fn k R) (C : Cok T N ex fn k sc none Wx X) : ∀ {ts es : List Expr} {cs : CEs}, cPar sc F R ts es = some cs → PA X es (tEs X.K ex Wx fn cs)
  | [], [], cs, h => by unfold cPar at h; cases h; exact ca_nil
  | [], e :: es, cs, h => by unfold cPar at h; cases h
  | t :: ts, [], cs, h => by cases t <;> (unfold cPar at h; cases h)
  | t :: ts, e :: es, cs, h => by
    cases t <;> try (unfold cPar at h; cases h; done)
    rename_i x p
    unfold cPar at h
    split at h
    · rename_i c cs' h1 h2
      cases h
      obtain ⟨k1, p1, _⟩ := O.e C h1
      exact ca_cons p1 (cPar_ok O C h2) (okx_star k1 _ _)
    · cases h
theorem cAsg_ok (O : RecOk T N ex fn k R) (hR : ∀ sc own mt elt gs scope pos c, R.e sc own mt (.ListComp elt gs scope pos) = some c → ∃ R' tg iter ifs, gs = [⟨tg, iter, ifs, 0⟩] ∧ RecOk T N ex fn k R' ∧ cLC T N R' sc own mt elt tg iter ifs scope = some c) (C : Cok T N ex fn k sc none Wx X) {t e : Expr} {c : CS} {pos : Pos} (h : cAsg N sc F R t e = some c) :
    PS X (.Assign [t] e pos) (tS X.K ex Wx fn fuel c) := by
  have hN : X.N.Nodup := by rw [C.hN]; exact C.nd
  unfold cAsg at h
  split at h
  · rename_i x px
    split at h
    · rename_i hs
      split at h
      · rename_i i sw c' hi hsw hc
        have hX : X.N[i]? = some x := by rw [C.hN]; exact slotOf_get hi
        obtain ⟨l1, l2⟩ := sto_of C hs
        have sws := swB_ok (l := pos.line) C.hs hsw
        split at h
        · rename_i hlc0
          cases h
          cases sw with
          | false => exact cs_set hN hX l1 (O.e C hc).2.1 sws l2
          | true =>
            simp only [Bool.not_true, Bool.false_or, Bool.and_eq_true] at hlc0
            cases e <;> try (cases hlc0.1; done)
            rename_i elt gs scope p2
            obtain ⟨R', tg, iter, ifs, rfl, O', hlc⟩ := hR _ _ _ _ _ _ _ _ hc
            have hl : X.env.scope.names.lookup x = some .local := by
              rw [C.hs]
              have := hlc0.2
              unfold isLoc at this
              split at this
              · rename_i q; exact q
              · cases this
            exact (cLC_ok O' C hlc).ps hX hl sws
        · cases h
      · cases h
    · cases h
  · rename_i ts kt tp
    split at h
    · rename_i vs k2 vp
      split at h
      · rename_i is cs h1 h2 h3
        split at h
        · rename_i hz
          cases h
          exact cs_parT C.calm (cNms_ok C h2).2 (cPar_ok O C h3) hz (swq_ok C.hs h1)
        · cases h
      · rename_i nm is cs h1 h2 h3
        split at h
        · rename_i hnd
          cases h
          simp only [Bool.and_eq_true, Bool.or_eq_true, decide_eq_true_eq] at hnd
          obtain ⟨⟨⟨hnd, hln⟩, lens⟩, vl⟩ := hnd
          have hw := fun (k k2 : Nat) (tp vp : Pos) => swq_ok (k := k) (k2 := k2) (tp := tp) (vp := vp) C.hs h1
          have ha := cPar_ok O C h3
          have one : ∀ {t : Expr} {r : List Expr} {nm : List Str} {is : List Nat}, locNm sc (t :: r) = some nm → cNms N sc none (t :: r) = some is → ∃ x p nm' i is', t = .Name x p ∧ nm = x :: nm' ∧ is = i :: is' ∧ X.env.scope.names.lookup x = some .local ∧ X.N[i]? = some x ∧ locNm sc r = some nm' ∧ cNms N sc none r = some is' := fun {t r nm is} g1 g2 => by
            cases t <;> try (unfold locNm at g1; cases g1; done)
            rename_i x p
            unfold locNm at g1
            unfold cNms at g2
            split at g1
            · rename_i xs q1 q2
              cases g1
              split at g2
              · split at g2
                · rename_i i is' q3 q4
                  cases g2
                  exact ⟨x, p, _, i, is', rfl, rfl, rfl, by rw [C.hs]; exact q1, by rw [C.hN]; exact slotOf_get q3, q2, q4⟩
                · cases g2
              · cases g2
            · cases g1
          have nil1 : ∀ {nm : List Str}, locNm sc [] = some nm → nm = [] := fun g => by unfold locNm at g; cases g; rfl
          have nil2 : ∀ {is : List Nat}, cNms N sc none [] = some is → is = [] := fun g => by unfold cNms at g; cases g; rfl
          rcases lens with l2 | l3
          · match ts, l2, vs, vl with
            | [t1, t2], _, [v1, v2], _ =>
              obtain ⟨x1, p1, n1, i1, is1, rfl, rfl, rfl, e1, s1, g1, f1⟩ := one hln h2
              obtain ⟨x2, p2, n2, i2, is2, rfl, rfl, rfl, e2, s2, g2, f2⟩ := one g1 f1
              cases nil1 g2
              cases nil2 f2
              have n12 : i1 ≠ i2 := by simp at hnd; exact hnd
              exact cs_par2 C.calm hN s1 s2 n12 e1 e2 ha (hw _ _ _ _)
          · match ts, l3, vs, vl with
            | [t1, t2, t3], _, [v1, v2, v3], _ =>
              obtain ⟨x1, p1, n1, i1, is1, rfl, rfl, rfl, e1, s1, g1, f1⟩ := one hln h2
              obtain ⟨x2, p2, n2, i2, is2, rfl, rfl, rfl, e2, s2, g2, f2⟩ := one g1 f1
              obtain ⟨x3, p3, n3, i3, is3, rfl, rfl, rfl, e3, s3, g3, f3⟩ := one g2 f2
              cases nil1 g3
              cases nil2 f3
              simp at hnd
              exact cs_par3 C.calm hN s1 s2 s3 hnd.1.1 hnd.1.2 hnd.2 e1 e2 e3 ha (hw _ _ _ _)
        · cases h
      · cases h
    · rename_i hnt
      split at h
      · rename_i hnc
        split at h
        · rename_i is c' h1 h2
          cases h
          refine cs_asgT C.calm (cNms_ok C h1).1 (O.e C h2).2.1 (noComp_sw hnc) ?_
          cases e <;> first | rfl | exact absurd rfl (hnt _ _ _)
        · cases h
      · cases h
  · split at h
    · rename_i hh
      simp only [Bool.and_eq_true] at hh
      split at h
      · rename_i co ci cv h1 h2 h3
        cases h
        refine cs_sub (O.e C h3).2.1 (O.e C h1).2.1 (O.e C h2).2.1 (noComp_sw hh.1) ?_
        intro v
        rename_i o i tp _ _ _
        have := hh.2
        cases i <;> first | rfl | cases this
      · cases h
    · cases h
  · cases h
theorem recs_lc {n : Nat} : ∀ sc own mt elt gs scope pos c, (recs T N n).e sc own mt (.ListComp elt gs scope pos) = some c → ∃ R' tg iter ifs, gs = [⟨tg, iter, ifs, 0⟩] ∧ RecOk T N ex fn k R' ∧ cLC T N R' sc own mt elt tg iter ifs scope = some c := by
  intro sc own mt elt gs scope pos c h
  cases n with
  | zero => cases h
  | succ n =>
    have h : stepE T N (recs T N n) sc own mt (.ListComp elt gs scope pos) = some c := h
    simp only [stepE] at h
    split at h
    · exact ⟨_, _, _, _, rfl, recs_ok n, h⟩
    · cases h
theorem cS_ok (C : Cok T N ex fn k sc none Wx X) : ∀ n, (∀ st, PS X st (tS X.K ex Wx fn fuel (cS T N sc F n st))) ∧ ∀ sts, PSs X sts (tSs X.K ex Wx fn fuel (cSs T N sc F n sts)) := by
  intro n
  induction n with
  | zero =>
    refine ⟨fun st => cs_never, fun sts => ?_⟩
    refine ⟨fun pins s σ H D I h => ?_⟩
    obtain ⟨S, M, ρ, w, sl, aw⟩ := h
    simp only [cSs, evSs, evS] at aw
    exact aw.elim
  | succ n ih =>
    obtain ⟨ih1, ih2⟩ := ih
    have O := recs_ok (T := T) (N := N) (ex := ex) (fn := fn) (k := k) n
    refine ⟨fun st => ?_, fun sts => ?_⟩
    · cases st <;> try exact cs_never
      case Return e pos =>
        cases e with
        | none => exact cs_retN
        | some e =>
          simp only [cS]
          split
          · rename_i c hc
            exact cs_ret (O.e C hc).2.1
          · exact cs_never
      case Assign ts e pos =>
        simp only [cS]
        split
        · split
          · rename_i c hc
            exact cAsg_ok O recs_lc C hc
          · exact cs_never
        · exact cs_never
      case For tg it body orelse pos =>
        simp only [cS]
        split
        · split
          · rename_i ci t h1 h2
            obtain ⟨i1, i2⟩ := cIter_ok O C h1
            exact cs_for C.po C.calm i1 (cTg_ok C h2) (ih2 body) i2
          · exact cs_never
        · exact cs_never
      case While c body orelse pos =>
        simp only [cS]
        split
        · split
          · rename_i cc hc
            exact cs_while C.po (O.t C hc) (ih2 body)
          · exact cs_never
        · exact cs_never
      case If c a b pos =>
        simp only [cS]
        split
        · rename_i cc hc
          exact cs_if (O.t C hc) (ih2 a) (ih2 b)
        · exact cs_never
      case Expr e pos =>
        simp only [cS]
        split
        · rename_i hnc
          split
          · rename_i c hc
            exact cs_expr (O.e C hc).2.1 (noComp_sw hnc)
          · exact cs_never
        · exact cs_never
      case Pass pos => exact cs_pass
      case Break pos => exact cs_brk
      case Continue pos => exact cs_cont
    · cases sts with
      | nil => exact css_nil
      | cons st rest => exact css_cons (ih1 st) (ih2 rest)
end
/-! ### defs and laws -/
structure DefI where
  name : Str
  st : Stmt
  N : List Str
  ps : List Str
  id : Nat
  F : Fs
  frz : Bool
  body : CSs
def DefI.fd (d : DefI) : FD := ⟨d.ps.length, d.N.length, d.frz, d.body⟩
structure LawI (T : Gt) (Tb : Nat → Option FD) (defs : List DefI) : Prop where
  ids : ∀ x f n, T.ids.lookup x = some (f, n) → ∃ d ∈ defs, d.name = x ∧ d.id = f ∧ d.ps.length = n
  tb : ∀ d ∈ defs, Tb d.id = some d.fd
  sc : ∀ d ∈ defs, FnScope d.N d.ps (defScope d.st)
  cp : ∀ d ∈ defs, cSs T d.N (defScope d.st) d.F 60 (defBody d.st) = d.body
structure GlobI (K : Kf) (mg : Str → Option Value) (T : Gt) (defs : List DefI) : Prop where
  fn : ∀ d ∈ defs, ∃ f fd, mg d.name = some (.ref f) ∧ Fun K d.name d.name d.st f fd ∧ Binds K fd d.ps []
  cs : ∀ x d, T.cs.lookup x = some d → ∃ v u, mg x = some u ∧ RelV v u ∧ ∀ S H, RP K S H d v
  fr : ∀ x, x ∈ T.fr → mg x = none
theorem sl_enter {K : Kf} {S : Sk} {H : Hp} {ds : List D} {vs : List V} {fd : FD} {N : List Str} (r : RDs K S H ds vs) (hs : fd.slots = N.length) (hn : ds.length = fd.n) : Sl K S H (enter fd ds) (L2.start N vs) := by
  have hl := rds_len r
  refine ⟨by unfold enter L2.start; simp [hs, hl, ← hn], fun i d h => ?_⟩
  unfold enter at h
  unfold L2.start
  by_cases hi : i < ds.length
  · rw [List.getElem?_append_left (by simpa using hi), List.getElem?_map] at h
    have : ∀ {ds : List D} {vs : List V} {i : Nat} {d : D}, RDs K S H ds vs → ds[i]? = some d → ∃ v, vs[i]? = some v ∧ RD K S H d v := by
      intro ds vs i d r
      induction r generalizing i with
      | nil => intro h; simp at h
      | cons a b ih =>
        intro h
        cases i with
        | zero => simp at h; subst h; exact ⟨_, rfl, a⟩
        | succ i =>
          obtain ⟨v, h1, h2⟩ := ih (by simpa using h)
          exact ⟨v, by simpa using h1, h2⟩
    cases e : ds[i]? with
    | none => rw [e] at h; cases h
    | some d' =>
      rw [e] at h
      cases h
      obtain ⟨v, h1, h2⟩ := this r e
      exact ⟨v, by rw [List.getElem?_append_left (by simp; omega), List.getElem?_map, h1]; rfl, h2⟩
  · rw [List.getElem?_append_right (by simpa using hi), List.getElem?_replicate] at h
    split at h <;> cases h
theorem levels {P : Program} {w : World} {K : Kf} {mg : Str → Option Value} {base : Heap} {T : Gt} {Tb : Nat → Option FD} {defs : List DefI} {ex : Nat → Value} {fuel : Nat} (L : LawI T Tb defs) (G : GlobI K mg T defs) :
    ∀ k, ∀ d ∈ defs, ∀ f fd, mg d.name = some (.ref f) → Fun K d.name d.name d.st f fd → FnG P w K mg base k f fd d.ps (spF K ex (run Tb fuel k) d.id d.ps.length) := by
  intro k
  induction k with
  | zero =>
    intro d hd f fd hm F
    have no : ∀ vs H Q E, ¬ spF K ex (run Tb fuel 0) d.id d.ps.length vs H Q E := fun vs H Q E h => by
      obtain ⟨S, M, ds, _, _, _, aw⟩ := h
      exact aw
    exact ⟨fun vs H Q E h => (no vs H Q E h).elim, fun A outer s H args us vs Q E _ _ _ _ _ h => (no vs H Q E h).elim⟩
  | succ k ih =>
    intro d hd f fd hm F
    refine fnG_of F (L.sc d hd) (fun vs H Q E h => ?_) (fun cdv A outer s H vs Q E hg hr h => ?_)
    · obtain ⟨S, M, ds, _, r, hl, _⟩ := h
      rw [← rds_len r, hl]
    · obtain ⟨S, M, ds, wS, r, hl, aw⟩ := h
      have C : Cok T d.N ex (run Tb fuel k) k (defScope d.st) none (fun cls dd _ H => E cls dd H) (cxOf (CXm P w) P w K mg base d.N d.name (defScope d.st) f cdv A outer s H E) := by
        refine ⟨rfl, rfl, (L.sc d hd).nd, rfl, takes_of rfl rfl rfl rfl, passes_of rfl, hr, hg, fun x _ => rfl, (L.sc d hd).kind, fun x i n hx => ?_, G.cs, G.fr⟩
        obtain ⟨d', hd', e1, e2, e3⟩ := L.ids x i n hx
        obtain ⟨f', fd', m1, F', B'⟩ := G.fn d' hd'
        subst e1 e2 e3
        exact ⟨f', fd', d'.ps, m1, F'.kp, B', ih d' hd' f' fd' m1 F'⟩
      refine ⟨_, (cS_ok (fuel := fuel) (F := d.F) C 60).2 (defBody d.st), S, M, enter d.fd ds, wS, sl_enter r rfl hl, ?_⟩
      rw [L.cp d hd]
      have hrun : run Tb fuel (k + 1) d.id ds M = callF (run Tb fuel k) fuel d.fd ds M := by
        show (match Tb d.id with | some fd => callF (run Tb fuel k) fuel fd ds M | none => .bad) = _
        rw [L.tb d hd]
      rw [hrun] at aw
      unfold callF at aw
      rw [if_pos (show ds.length = d.fd.n from hl)] at aw
      have eb : d.fd.body = d.body := rfl
      rw [eb] at aw
      cases e : evSs (run Tb fuel k) fuel d.body (enter d.fd ds) M with
      | bad => rw [e] at aw; exact aw
      | exc c M1 => rw [e] at aw; exact aw
      | ok fl M1 =>
        rw [e] at aw
        intro S1 H1 t1 w1
        have hn : M.length = S.L.length := wS.len.symm
        cases fl with
        | nx ρ =>
          intro σ1 sl1
          dsimp only at aw
          cases ef : fin d.fd.frz M.length (.p .none) M1 with
          | bad => rw [ef] at aw; exact aw.elim
          | exc c M2 => unfold fin at ef; split at ef <;> cases ef
          | ok d2 M2 =>
            rw [ef] at aw
            obtain ⟨S2, t2, w2, r2⟩ := fin_ok (d := .p .none) (v := .non) w1 t1 hn RP.non ef
            exact aw S2 H1 t2 w2 _ r2
        | rt dv =>
          intro v rv
          dsimp only at aw
          cases ef : fin d.fd.frz M.length dv M1 with
          | bad => rw [ef] at aw; exact aw.elim
          | exc c M2 => unfold fin at ef; split at ef <;> (try split at ef) <;> (try split at ef) <;> (try split at ef) <;> cases ef
          | ok d2 M2 =>
            rw [ef] at aw
            obtain ⟨S2, t2, w2, r2⟩ := fin_ok w1 t1 hn rv ef
            exact aw S2 H1 t2 w2 _ r2
        | bk ρ => exact aw.elim
        | ct ρ => exact aw.elim
        | ex c ρ =>
          intro σ1 sl1
          dsimp only at aw
          cases hz : d.fd.frz with
          | false => rw [hz] at aw; exact aw S1 H1 t1 w1
          | true =>
            rw [hz] at aw
            have := t1.len
            exact aw _ H1 t1.cutBack (by rw [hn]; exact w1.cutBack this)
/-- the law's end: the interpreter says True of every script -/
theorem law_of {l : PySem.W.OpenLaw} {q : Program} {loose : List Str} {XP : (Str → Option Value) → Heap → Prop} {YP : World → Heap → Prop} {dr : DefRec} {K : Params → Kf} {T : Gt} {Tb : Nat → Option FD} {defs : List DefI} {fuel k : Nat} {d : DefI} {x : Str}
    (hn : l.most = some 63) (hdf : dr.params.defaults = []) (hr : Room k callerA) (hY : ∀ (w : World) (h : Heap), YP w h → (K w.params).In h) (L : LawI T Tb defs) (hd : d ∈ defs) (hname : dr.name = d.name) (hps : d.ps = [x])
    (hbd : ∀ (kV doc pm : Value) (an : Option Addr) (cdv ct u : Value), bindArgs (PySem.W.fnOf d.name d.name (defArgs d.st) (defBody d.st) (defScope d.st) .none kV doc pm an cdv ct) ⟨[u], []⟩ = pure [(x, u)])
    (G : ∀ (w : World) (mg : Str → Option Value) (h : Heap), (K w.params).In h → h.Ns mainGlobals mg → GlobI (K w.params) mg T defs)
    (main : ∀ ns : List Int, ns.length ≤ 63 → ∃ M, run Tb fuel k d.id [.scr ns] [] = .ok (.p (.bool true)) M) :
    PySem.W.WalkO q loose XP YP l.row.toRowW dr [] (fun f vs => PySem.call f vs) := by
  refine walkG (n := 63) (k := k) (K := K) (x := x) (sp := fun w => spF (K w.params) (fun _ => .none) (run Tb fuel k) d.id 1) hn (by decide) hdf hr hY (fun w mg fa h KX Gn hmg => ?_) (fun w H a ns hl hS => ?_)
  · have g := G w mg h KX Gn
    obtain ⟨f, fd, m1, F, B⟩ := g.fn d hd
    have ef : f = fa := by
      rw [hname, m1] at hmg
      cases hmg
      rfl
    subst ef
    refine ⟨fd, fun s u => ?_, fun base kb gb => ?_⟩
    · obtain ⟨oc, od, kV, doc, pm, an, cdv, ct, osl, rfl, _, _⟩ := F.ex
      exact .of_eq (hbd kV doc pm an cdv ct u)
    · have lv := levels (P := l.prog) (w := w) (base := base) (ex := fun _ => Value.none) (fuel := fuel) L (G w mg base kb gb) k d hd f fd m1 F
      rw [hps] at lv
      exact lv
  · obtain ⟨M, hm⟩ := main ns hl
    refine ⟨S0, [], [.scr ns], ⟨rfl, fun i j a h => by simp at h, fun i a xs h => by simp at h, fun a h => by simp at h, fun a h => by simp at h, fun a h => by simp at h, fun i xs h => by simp at h⟩, .cons ⟨a, rfl, ?_⟩ .nil, rfl, ?_⟩
    · rcases hS with hS | hS
      · exact .inl ⟨hS, no0 a⟩
      · exact .inr hS
    · rw [hm]
      intro S' H' t w v r
      cases (show RP _ S' H' (.bool true) v from r)
      rfl
end Mi

set_option Elab.async false
set_option linter.all false
set_option maxRecDepth 100000
set_option maxHeartbeats 1000000
/-! Mi: words for a law's own text. -/
namespace Mi
open PySem PySem.Spec PyProof.Rows L2
theorem all_nil {α : Type} {P : α → Prop} : ∀ d ∈ ([] : List α), P d := fun _ h => absurd h List.not_mem_nil
theorem all_cons {α : Type} {P : α → Prop} {a : α} {l : List α} (h : P a) (t : ∀ d ∈ l, P d) : ∀ d ∈ a :: l, P d := fun d hd => by
  rcases List.mem_cons.mp hd with z | z
  · rw [z]; exact h
  · exact t d z
theorem ids_of {defs : List DefI} : ∀ x f n, (defs.map fun d => (d.name, (d.id, d.ps.length))).lookup x = some (f, n) → ∃ d ∈ defs, d.name = x ∧ d.id = f ∧ d.ps.length = n := by
  intro x f n h
  induction defs with
  | nil => cases h
  | cons d r ih =>
    rw [List.map_cons, List.lookup_cons] at h
    split at h
    · rename_i e
      have e := beq_iff_eq.mp e
      cases h
      exact ⟨d, List.mem_cons_self, e.symm, rfl, rfl⟩
    · obtain ⟨d', h1, h2⟩ := ih h
      exact ⟨d', List.mem_cons_of_mem _ h1, h2⟩
def scopeC (N P : List Str) (sc : Scope) : Bool :=
  (match sc.kind with | .function => true | _ => false) && !sc.isCoroutine && !sc.isGenerator && decide (N.Nodup) && decide (N.take P.length = P) && (P.all fun x => match sc.names.lookup x with | some .local => true | some .cell => true | _ => false) && (sc.names.all fun y => match y.2 with | .free => false | _ => true)
theorem scope_of {N P : List Str} {sc : Scope} (h : scopeC N P sc = true) : FnScope N P sc := by
  unfold scopeC at h
  simp only [Bool.and_eq_true, Bool.not_eq_true', decide_eq_true_eq, List.all_eq_true] at h
  obtain ⟨⟨⟨⟨⟨⟨h1, h2⟩, h3⟩, h4⟩, h5⟩, h6⟩, h7⟩ := h
  refine ⟨?_, h2, h3, h4, h5, fun x hx => ?_, fun y hy e => ?_⟩
  · split at h1
    · assumption
    · cases h1
  · have := h6 x hx
    split at this
    · rename_i e; exact .inl e
    · rename_i e; exact .inr e
    · cases this
  · have := h7 y hy
    rw [e] at this
    cases this
section
variable {K : Kf} {mg : Str → Option Value} {h : Heap}
theorem fn_of1 {d : DefI} {f : Addr} {od an : Option Addr} {sl : Array (Option Value)} {oc kV dc pm cd ct : Value} (X : K.In h) (G : h.Ns mainGlobals mg) (a : PySem.W.nsIn K mainGlobals d.name = some (some (.ref f)))
    (l : K.lookup f = some ⟨oc, od, .func (PySem.W.fnOf d.name d.name (defArgs d.st) (defBody d.st) (defScope d.st) .none kV dc pm an cd ct), sl⟩) (c : PySem.W.codeIn K cd d.name = true) (k : PySem.W.keepIn K (.ref f) = true)
    (b : ∀ (kV doc pm : Value) (an : Option Addr) (cdv ct : Value) (us : List Value), us.length = d.ps.length → bindArgs (PySem.W.fnOf d.name d.name (defArgs d.st) (defBody d.st) (defScope d.st) .none kV doc pm an cdv ct) ⟨us, []⟩ = pure (d.ps.zip us)) :
    ∃ f fd, mg d.name = some (.ref f) ∧ Fun K d.name d.name d.st f fd ∧ Binds K fd d.ps [] := by
  have F := fun_mk (st := d.st) l c k
  exact ⟨f, _, PySem.W.mg_of X G a, F, F.binds b⟩
theorem cs_int {x : Str} {i : Int} {t : Tok} (X : K.In h) (G : h.Ns mainGlobals mg) (a : PySem.W.nsIn K mainGlobals x = some (some (.int i t))) : ∃ v u, mg x = some u ∧ RelV v u ∧ ∀ S H, RP K S H (.int i) v :=
  ⟨.int i, _, PySem.W.mg_of X G a, ⟨t, rfl⟩, fun _ _ => .int i⟩
theorem cs_str {x : Str} {i : Str} {t : Tok} (X : K.In h) (G : h.Ns mainGlobals mg) (a : PySem.W.nsIn K mainGlobals x = some (some (.str i t))) : ∃ v u, mg x = some u ∧ RelV v u ∧ ∀ S H, RP K S H (.str i) v :=
  ⟨.str i, _, PySem.W.mg_of X G a, ⟨t, rfl⟩, fun _ _ => .str i⟩
theorem fr_nil : ∀ x : Str, x ∈ ([] : List Str) → mg x = none := fun _ h => absurd h List.not_mem_nil
theorem fr_cons {y : Str} {l : List Str} (X : K.In h) (G : h.Ns mainGlobals mg) (a : PySem.W.nsIn K mainGlobals y = some none) (t : ∀ x, x ∈ l → mg x = none) : ∀ x, x ∈ y :: l → mg x = none := fun x hx => by
  rcases List.mem_cons.mp hx with z | z
  · rw [z]; exact PySem.W.mg_none_of X G a
  · exact t x z
theorem cs_nil : ∀ x d, ([] : List (Str × PyData)).lookup x = some d → ∃ v u, mg x = some u ∧ RelV v u ∧ ∀ S H, RP K S H d v := fun _ _ h => by cases h
theorem cs_cons {y : Str} {e : PyData} {l : List (Str × PyData)} (a : ∃ v u, mg y = some u ∧ RelV v u ∧ ∀ S H, RP K S H e v) (t : ∀ x d, l.lookup x = some d → ∃ v u, mg x = some u ∧ RelV v u ∧ ∀ S H, RP K S H d v) :
    ∀ x d, ((y, e) :: l).lookup x = some d → ∃ v u, mg x = some u ∧ RelV v u ∧ ∀ S H, RP K S H d v := fun x d hx => by
  rw [List.lookup_cons] at hx
  split at hx
  · rename_i q
    have q := beq_iff_eq.mp q
    cases hx
    rw [q]; exact a
  · exact t x d hx
end
end Mi

set_option Elab.async false
set_option linter.all false
/-! Mi: what a run ends with, by a wish about its end. -/
namespace Mi
open PySem

inductive Ok {α : Type} (r : Res α) (Q : α → Mem → Prop) : Prop where
  | intro (a : α) (M : Mem) (h : r = .ok a M) (q : Q a M) : Ok r Q
theorem Ok_ok {α : Type} (a : α) (M : Mem) (Q : α → Mem → Prop) : Ok (.ok a M) Q = Q a M := by
  apply propext
  constructor
  · rintro ⟨_, _, h, q⟩; cases h; exact q
  · intro q; exact ⟨_, _, rfl, q⟩
theorem Ok_bind {α β : Type} (r : Res α) (f : α → Mem → Res β) (Q : β → Mem → Prop) : Ok (r.bind f) Q = Ok r (fun a M => Ok (f a M) Q) := by
  apply propext
  constructor
  · rintro ⟨b, N, h, q⟩
    cases r with
    | ok a M => exact ⟨a, M, rfl, b, N, h, q⟩
    | exc c M => exact absurd h (by simp [Res.bind])
    | bad => exact absurd h (by simp [Res.bind])
  · rintro ⟨a, M, h, b, N, k, q⟩; subst h; exact ⟨b, N, k, q⟩
theorem Ok_onto {α β : Type} (r : Res α) (f : α → Mem → Res β) (g : Nat → Mem → Res β) (Q : β → Mem → Prop) (h : Ok r (fun a M => Ok (f a M) Q)) : Ok (r.onto f g) Q := by
  obtain ⟨a, M, h, b, N, k, q⟩ := h
  subst h; exact ⟨b, N, k, q⟩
theorem Ok.mono {α : Type} {r : Res α} {P Q : α → Mem → Prop} (h : Ok r P) (k : ∀ a M, P a M → Q a M) : Ok r Q := by
  obtain ⟨a, M, e, p⟩ := h
  exact ⟨a, M, e, k a M p⟩
theorem Ok.eq {α : Type} {r : Res α} {a : α} {M : Mem} {Q : α → Mem → Prop} (h : r = .ok a M) (q : Q a M) : Ok r Q := ⟨a, M, h, q⟩

/-! ### statements: what holds when a row of them has gone on, or given back -/
theorem Ok_ss {fn : Fn} {fuel : Nat} {s : CS} {ss : CSs} {ρ : Env} {M : Mem} {Q : Fl → Mem → Prop}
    (h : Ok (evS fn fuel s ρ M) (fun f N => match f with
      | .nx ρ' => Ok (evSs fn fuel ss ρ' N) Q
      | f => Q f N)) : Ok (evSs fn fuel (.cons s ss) ρ M) Q := by
  obtain ⟨f, N, e, q⟩ := h
  cases f with
  | nx ρ' =>
    obtain ⟨g, K, e', q'⟩ := q
    exact ⟨g, K, by rw [evSs, e]; exact e', q'⟩
  | rt d => exact ⟨_, _, by rw [evSs, e], q⟩
  | bk ρ' => exact ⟨_, _, by rw [evSs, e], q⟩
  | ct ρ' => exact ⟨_, _, by rw [evSs, e], q⟩
  | ex c ρ' => exact ⟨_, _, by rw [evSs, e], q⟩
def Go (k : Env → Mem → Prop) (Q : Fl → Mem → Prop) (f : Fl) (N : Mem) : Prop := match f with
  | .nx ρ' => k ρ' N
  | f => Q f N
theorem Ok_cons {fn : Fn} {fuel : Nat} {s : CS} {ss : CSs} {ρ : Env} {M : Mem} {Q : Fl → Mem → Prop}
    (h : Ok (evS fn fuel s ρ M) (Go (fun ρ' N => Ok (evSs fn fuel ss ρ' N) Q) Q)) : Ok (evSs fn fuel (.cons s ss) ρ M) Q := by
  refine Ok_ss (h.mono ?_)
  intro f N h
  cases f <;> exact h
theorem Ok_nil {fn : Fn} {fuel : Nat} {ρ : Env} {M : Mem} {Q : Fl → Mem → Prop} (h : Q (.nx ρ) M) : Ok (evSs fn fuel .nil ρ M) Q := ⟨_, _, by rw [evSs], h⟩
theorem Ok_asg {fn : Fn} {fuel : Nat} {i : Nat} {e : CE} {ρ : Env} {M : Mem} {Q : Fl → Mem → Prop}
    (h : Ok (evE fn e ρ M) (fun d N => Q (.nx (ρ.set i (some d))) N)) : Ok (evS fn fuel (.asg (.nm i) e) ρ M) Q := by
  obtain ⟨d, N, e, q⟩ := h
  exact ⟨_, N, by rw [evS, e]; rfl, q⟩
theorem Ok_expr {fn : Fn} {fuel : Nat} {e : CE} {ρ : Env} {M : Mem} {Q : Fl → Mem → Prop}
    (h : Ok (evE fn e ρ M) (fun _ N => Q (.nx ρ) N)) : Ok (evS fn fuel (.expr e) ρ M) Q := by
  obtain ⟨d, N, e, q⟩ := h
  exact ⟨_, N, by rw [evS, e]; rfl, q⟩
theorem Ok_ret {fn : Fn} {fuel : Nat} {e : CE} {ρ : Env} {M : Mem} {Q : Fl → Mem → Prop}
    (h : Ok (evE fn e ρ M) (fun d N => Q (.rt d) N)) : Ok (evS fn fuel (.ret e) ρ M) Q := by
  obtain ⟨d, N, e, q⟩ := h
  exact ⟨_, N, by rw [evS, e]; rfl, q⟩
theorem Ok_sub {fn : Fn} {fuel : Nat} {o i v : CE} {ρ : Env} {M : Mem} {Q : Fl → Mem → Prop}
    (h : Ok (evE fn v ρ M) (fun v M => Ok (evE fn o ρ M) fun o M => Ok (evE fn i ρ M) fun i M => Ok (subop o i v M) fun _ N => Q (.nx ρ) N)) : Ok (evS fn fuel (.sub o i v) ρ M) Q := by
  obtain ⟨v, M1, e1, o, M2, e2, i, M3, e3, u, M4, e4, q⟩ := h
  exact ⟨_, M4, by rw [evS, e1]; simp only [Res.onto, e2, e3, e4], q⟩
theorem Ok_ife {fn : Fn} {fuel : Nat} {c : CE} {a b : CSs} {ρ : Env} {M : Mem} {Q : Fl → Mem → Prop}
    (h : Ok (evE fn c ρ M) (fun d N => Ok (toB N d) (fun k N => Ok (if k then evSs fn fuel a ρ N else evSs fn fuel b ρ N) Q))) : Ok (evS fn fuel (.ife c a b) ρ M) Q := by
  obtain ⟨d, N, e, k, N', e', f, K, e'', q⟩ := h
  exact ⟨f, K, by rw [evS, e]; simp only [Res.onto, e']; exact e'', q⟩

def cmpBody (fn : Fn) (ws : List Nat) (t : Tg) (c : CEo) (e : CE) (ρ : Env) (x : PyData) (M : Mem) : Res (Option PyData) := match bindT t x (wipeE ρ ws) with
  | some ρ' => (evC fn c ρ' M).bind fun k M => if k then (evE fn e ρ' M).bind fun d M => match frzP d M with
      | some (y, M) => .ok (some y) M
      | none => .bad
    else .ok none M
  | none => .bad
theorem Ok_comp {fn : Fn} {mt : Bool} {ws : List Nat} {t : Tg} {it : CI} {c : CEo} {e : CE} {ρ : Env} {M : Mem} {Q : D → Mem → Prop}
    (h : Ok (evI fn it ρ M) (fun J N => ∃ xs, J = .items xs ∧ Ok (compLoop (cmpBody fn ws t c e ρ) xs [] N) (fun ys N => Ok (alloc mt ys N) Q))) : Ok (evE fn (.comp mt ws t it c e) ρ M) Q := by
  obtain ⟨J, N, e, xs, rfl, ⟨ys, K, e', ⟨d, L, e'', q⟩⟩⟩ := h
  exact ⟨d, L, by rw [evE, e]; exact (congrArg (fun r => Res.bind r fun ys M => alloc mt ys M) e').trans e'', q⟩
theorem Ok_body {fn : Fn} {ws : List Nat} {t : Tg} {e : CE} {ρ ρ' : Env} {x : PyData} {M : Mem} {Q : Option PyData → Mem → Prop} (hb : bindT t x (wipeE ρ ws) = some ρ')
    (h : Ok (evE fn e ρ' M) (fun d M => ∃ y N, frzP d M = some (y, N) ∧ Q (some y) N)) : Ok (cmpBody fn ws t .no e ρ x M) Q := by
  obtain ⟨d, N, e', y, K, e'', q⟩ := h
  exact ⟨_, K, by simp only [cmpBody, hb, evC, Res.bind, e', e'', if_true], q⟩
theorem Ok_bodyC {fn : Fn} {ws : List Nat} {t : Tg} {c e : CE} {ρ ρ' : Env} {x : PyData} {M : Mem} {Q : Option PyData → Mem → Prop} (hb : bindT t x (wipeE ρ ws) = some ρ')
    (h : Ok (evE fn c ρ' M) (fun d N => Ok (toB N d) (fun k N => (k = true → Ok (evE fn e ρ' N) (fun d M => ∃ y N, frzP d M = some (y, N) ∧ Q (some y) N)) ∧ (k = false → Q none N)))) : Ok (cmpBody fn ws t (.yes c) e ρ x M) Q := by
  obtain ⟨d, N, e1, k, K, e2, h1, h2⟩ := h
  cases k with
  | false => exact ⟨_, K, by simp only [cmpBody, hb, evC, Res.bind, e1, e2, Bool.false_eq_true, if_false], h2 rfl⟩
  | true =>
    obtain ⟨d', N', e', y, K', e'', q⟩ := h1 rfl
    exact ⟨_, K', by simp only [cmpBody, hb, evC, Res.bind, e1, e2, e', e'', if_true], q⟩
theorem Ok.out {α : Type} {r : Res α} {a : α} {M : Mem} (h : Ok r (fun b N => b = a ∧ N = M)) : r = .ok a M := by
  obtain ⟨_, _, e, rfl, rfl⟩ := h
  exact e

/-- a comprehension whose items each give one value and may move the memory -/
theorem comp_all {f : PyData → Mem → Res (Option PyData)} (B : Nat) (I : Nat → Mem → Prop) (G : PyData → Prop) :
    ∀ (xs acc : List PyData) (n : Nat) (M : Mem), n + xs.length ≤ B → (∀ x ∈ xs, ∀ n M, n < B → I n M → Ok (f x M) (fun o N => I (n + 1) N ∧ ∃ y, o = some y ∧ G y)) → acc.length + xs.length ≤ 16777216 → I n M →
    Ok (compLoop f xs acc M) (fun ys N => I (n + xs.length) N ∧ ∃ zs, ys = acc ++ zs ∧ zs.length = xs.length ∧ ∀ z ∈ zs, G z)
  | [], acc, n, M, hB, hf, hl, hI => ⟨acc, M, by rw [compLoop], hI, [], by simp, rfl, by simp⟩
  | x :: xs, acc, n, M, hB, hf, hl, hI => by
    rw [List.length_cons] at hB
    obtain ⟨o, N, e, hN, y, rfl, hy⟩ := hf x List.mem_cons_self n M (by omega) hI
    have hl' : acc.length + (xs.length + 1) ≤ 16777216 := hl
    obtain ⟨ys, K, e', hK, zs, rfl, hz, hg⟩ := comp_all B I G xs (acc ++ [y]) (n + 1) N (by omega) (fun x' hx => hf x' (List.mem_cons_of_mem _ hx)) (by rw [List.length_append, List.length_singleton]; omega) hN
    refine ⟨_, K, by rw [compLoop, e]; simp only; rw [if_pos (by omega)]; exact e', ?_, y :: zs, by simp, by simp [hz], ?_⟩
    · rw [List.length_cons, Nat.add_comm xs.length 1, ← Nat.add_assoc]; exact hK
    · intro z hz'
      cases hz' with
      | head => exact hy
      | tail _ h => exact hg z h
/-- a comprehension that leaves the memory as it is -/
theorem comp_pure {f : PyData → Mem → Res (Option PyData)} (g : PyData → Option PyData) (M : Mem) :
    ∀ (xs acc : List PyData), (∀ x ∈ xs, f x M = .ok (g x) M) → acc.length + xs.length ≤ 16777216 →
    compLoop f xs acc M = .ok (acc ++ xs.filterMap g) M
  | [], acc, hf, hl => by rw [compLoop]; simp
  | x :: xs, acc, hf, hl => by
    have hl' : acc.length + (xs.length + 1) ≤ 16777216 := hl
    rw [compLoop, hf x List.mem_cons_self]
    cases e : g x with
    | none =>
      simp only
      rw [comp_pure g M xs acc (fun x' hx => hf x' (List.mem_cons_of_mem _ hx)) (by omega), List.filterMap_cons, e]
    | some y =>
      simp only
      rw [if_pos (by omega), comp_pure g M xs (acc ++ [y]) (fun x' hx => hf x' (List.mem_cons_of_mem _ hx)) (by rw [List.length_append, List.length_singleton]; omega), List.filterMap_cons, e]
      simp
theorem comp_ok {f : PyData → Mem → Res (Option PyData)} (g : PyData → Option PyData) {M : Mem} {xs : List PyData} {Q : List PyData → Mem → Prop} (hf : ∀ x ∈ xs, Ok (f x M) (fun o N => o = g x ∧ N = M)) (hl : xs.length ≤ 16777216) (q : Q (xs.filterMap g) M) : Ok (compLoop f xs [] M) Q :=
  Ok.eq (comp_pure g M xs [] (fun x hx => (hf x hx).out) (by rw [List.length_nil]; omega)) (by rw [List.nil_append]; exact q)
/-- a loop whose body goes on at every item -/
theorem for_all {f : PyData → Env → Mem → Res Fl} (B : Nat) (I : Nat → Env → Mem → Prop) :
    ∀ (xs : List PyData) (n : Nat) (ρ : Env) (M : Mem), n + xs.length ≤ B → (∀ x ∈ xs, ∀ n ρ M, n < B → I n ρ M → Ok (f x ρ M) (fun o N => ∃ ρ', o = .nx ρ' ∧ I (n + 1) ρ' N)) → I n ρ M →
    Ok (forLoop f xs ρ M) (fun o N => ∃ ρ', o = .nx ρ' ∧ I (n + xs.length) ρ' N)
  | [], n, ρ, M, hB, hf, hI => ⟨_, M, by rw [forLoop], _, rfl, hI⟩
  | x :: xs, n, ρ, M, hB, hf, hI => by
    rw [List.length_cons] at hB
    obtain ⟨o, N, e, ρ', rfl, hN⟩ := hf x List.mem_cons_self n ρ M (by omega) hI
    obtain ⟨o', K, e', ρ'', rfl, hK⟩ := for_all B I xs (n + 1) ρ' N (by omega) (fun x' hx n ρ M h hI => hf x' (List.mem_cons_of_mem _ hx) n ρ M h hI) hN
    refine ⟨_, K, by rw [forLoop, e]; exact e', _, rfl, ?_⟩
    rw [List.length_cons, Nat.add_comm xs.length 1, ← Nat.add_assoc]; exact hK
theorem Ok_loop {fn : Fn} {fuel : Nat} {t : Tg} {it : CI} {b : CSs} {ρ : Env} {M : Mem} {Q : Fl → Mem → Prop} (I : Nat → Env → Mem → Prop)
    (h : Ok (evI fn it ρ M) (fun J N => ∃ xs, J = .items xs ∧ I 0 ρ N ∧
      (∀ x ∈ xs, ∀ n ρ M, n < xs.length → I n ρ M → ∃ ρ', bindT t x ρ = some ρ' ∧ Ok (evSs fn fuel b ρ' M) (fun o N => ∃ ρ', o = .nx ρ' ∧ I (n + 1) ρ' N)) ∧
      ∀ ρ' N, I xs.length ρ' N → Q (.nx ρ') N)) : Ok (evS fn fuel (.loop t it b) ρ M) Q := by
  obtain ⟨J, N, e, xs, rfl, h0, hs, hq⟩ := h
  obtain ⟨o, K, e', ρ', rfl, hK⟩ := for_all (f := fun x ρ M => match bindT t x ρ with
        | some ρ => evSs fn fuel b ρ M
        | none => .bad) xs.length I xs 0 ρ N (by omega) (by
    intro x hx n ρ M hn hI
    obtain ⟨ρ', e1, h1⟩ := hs x hx n ρ M hn hI
    simp only [e1]
    exact h1) h0
  rw [Nat.zero_add] at hK
  exact ⟨_, K, by rw [evS, e]; exact e', hq _ _ hK⟩
/-- what a function's end asks of what is given back -/
inductive EndQ (frz : Bool) (n : Nat) (d : D) (N : Mem) (Q : D → Mem → Prop) : Prop where
  | intro (h : Ok (fin frz n d N) Q) : EndQ frz n d N Q
/-- a call: from the body's end -/
theorem Ok_call {T : Nat → Option FD} {fuel k f : Nat} {fd : FD} {ds : List D} {M : Mem} {Q : D → Mem → Prop} (hT : T f = some fd) (hn : ds.length = fd.n)
    (h : Ok (evSs (run T fuel k) fuel fd.body (enter fd ds) M) (fun o N => ∃ d, o = .rt d ∧ EndQ fd.frz M.length d N Q)) : Ok (run T fuel (k + 1) f ds M) Q := by
  obtain ⟨o, N, e, d, rfl, ⟨d', K, e', q⟩⟩ := h
  exact ⟨d', K, by rw [run, hT]; simp only [callF]; rw [if_pos hn, e]; exact e', q⟩

theorem Go_nx {k : Env → Mem → Prop} {Q : Fl → Mem → Prop} {ρ : Env} {N : Mem} (h : k ρ N) : Go k Q (.nx ρ) N := h
theorem Go_rt {k : Env → Mem → Prop} {Q : Fl → Mem → Prop} {d : D} {N : Mem} (h : Q (.rt d) N) : Go k Q (.rt d) N := h
theorem Ok_if1 {α : Type} {a b : Res α} {Q : α → Mem → Prop} (h : Ok a Q) : Ok (if true = true then a else b) Q := h
theorem Ok_if0 {α : Type} {a b : Res α} {Q : α → Mem → Prop} (h : Ok b Q) : Ok (if false = true then a else b) Q := h
theorem Ok_if {α : Type} {c : Bool} {a b : Res α} {Q : α → Mem → Prop} (h : c = true → Ok a Q) (h' : c = false → Ok b Q) : Ok (if c = true then a else b) Q := by
  cases c
  · exact h' rfl
  · exact h rfl
theorem Ok_ift {α : Type} {c : Bool} {a b : Res α} {Q : α → Mem → Prop} (h : c = true) (q : Ok a Q) : Ok (if c = true then a else b) Q := by subst h; exact q
theorem Ok_iff {α : Type} {c : Bool} {a b : Res α} {Q : α → Mem → Prop} (h : c = false) (q : Ok b Q) : Ok (if c = true then a else b) Q := by subst h; exact q
section
variable {fn : Fn} {ρ : Env} {M : Mem} {Q : D → Mem → Prop}
theorem Ok_var {i : Nat} {d : D} (h : ρ[i]? = some (some d)) (q : Q d M) : Ok (evE fn (.var i) ρ M) Q := ⟨d, M, by rw [evE, h], q⟩
theorem Ok_cst {x : PyData} (q : Q (.p x) M) : Ok (evE fn (.cst x) ρ M) Q := ⟨_, M, by rw [evE], q⟩
theorem Ok_bin {op : BOp} {mt : Bool} {a b : CE} (h : Ok (evE fn a ρ M) fun x M => Ok (evE fn b ρ M) fun y M => Ok (binop op mt x y M) Q) : Ok (evE fn (.bin op mt a b) ρ M) Q := by
  rw [evE]; simp only [Ok_bind]; exact h
theorem Ok_neg {a : CE} (h : Ok (evE fn a ρ M) fun x M => ∃ i, x = .p (.int i) ∧ Q (.p (.int (-i))) M) : Ok (evE fn (.neg a) ρ M) Q := by
  rw [evE]; simp only [Ok_bind]
  refine h.mono ?_
  rintro x M ⟨i, rfl, q⟩
  exact ⟨_, _, rfl, q⟩
theorem Ok_not {a : CE} (h : Ok (evE fn a ρ M) fun x M => Ok (toB M x) fun b M => Q (.p (.bool (!b))) M) : Ok (evE fn (.not a) ρ M) Q := by
  rw [evE]; simp only [Ok_bind, Ok_ok]; exact h
theorem Ok_cmp {op : COp} {a b : CE} (h : Ok (evE fn a ρ M) fun x M => Ok (evE fn b ρ M) fun y M => Ok (cmpop op x y M) Q) : Ok (evE fn (.cmp op a b) ρ M) Q := by
  rw [evE]; simp only [Ok_bind]; exact h
theorem Ok_chn {op op' : COp} {a b c : CE} (h : Ok (evE fn a ρ M) fun x M => Ok (evE fn b ρ M) fun y M => Ok (cmpop op x y M) fun k M => Ok (isB M k) fun k M => Ok (if k = true then (evE fn c ρ M).bind fun z M => cmpop op' y z M else .ok (.p (.bool false)) M) Q) : Ok (evE fn (.chn op op' a b c) ρ M) Q := by
  rw [evE]; simp only [Ok_bind]; exact h
theorem Ok_and {a b : CE} (h : Ok (evE fn a ρ M) fun x M => Ok (isB M x) fun k M => Ok (if k = true then evE fn b ρ M else .ok (.p (.bool false)) M) Q) : Ok (evE fn (.and a b) ρ M) Q := by
  rw [evE]; simp only [Ok_bind]; exact h
theorem Ok_or {a b : CE} (h : Ok (evE fn a ρ M) fun x M => Ok (isB M x) fun k M => Ok (if k = true then .ok (.p (.bool true)) M else evE fn b ρ M) Q) : Ok (evE fn (.or a b) ρ M) Q := by
  rw [evE]; simp only [Ok_bind]; exact h
theorem Ok_ifx {c a b : CE} (h : Ok (evE fn c ρ M) fun x M => Ok (toB M x) fun k M => Ok (if k = true then evE fn a ρ M else evE fn b ρ M) Q) : Ok (evE fn (.ife c a b) ρ M) Q := by
  rw [evE]; simp only [Ok_bind]; exact h
theorem Ok_tup {es : CEs} (h : Ok (evEs fn es ρ M) fun ds M => ∃ xs N, frzPs ds M = some (xs, N) ∧ xs.length ≤ 16777216 ∧ Q (.p (.tuple xs)) N) : Ok (evE fn (.tup es) ρ M) Q := by
  rw [evE]; simp only [Ok_bind]
  refine h.mono ?_
  rintro ds M ⟨xs, N, e, l, q⟩
  refine ⟨_, N, by rw [e]; simp only; rw [if_pos l], q⟩
theorem Ok_lst {mt : Bool} {es : CEs} (h : Ok (evEs fn es ρ M) fun ds M => ∃ xs N, frzPs ds M = some (xs, N) ∧ xs.length ≤ 16777216 ∧ Ok (alloc mt xs N) Q) : Ok (evE fn (.lst mt es) ρ M) Q := by
  rw [evE]; simp only [Ok_bind]
  refine h.mono ?_
  rintro ds M ⟨xs, N, e, l, q⟩
  rw [e]; simp only; rw [if_pos l]; exact q
theorem Ok_dct {ks vs : CEs} (h : Ok (evEs fn ks ρ M) fun ks M => Ok (evEs fn vs ρ M) fun vs M => Ok (dctop ks vs M) Q) : Ok (evE fn (.dct ks vs) ρ M) Q := by
  rw [evE]; simp only [Ok_bind]; exact h
theorem Ok_idx {a i : CE} (h : Ok (evE fn a ρ M) fun x M => Ok (evE fn i ρ M) fun y M => Ok (idxop x y M) Q) : Ok (evE fn (.idx a i) ρ M) Q := by
  rw [evE]; simp only [Ok_bind]; exact h
theorem Ok_slc {mt : Bool} {a : CE} {lo hi : CEo} (h : Ok (evE fn a ρ M) fun x M => Ok (evO fn lo ρ M) fun l M => Ok (evO fn hi ρ M) fun h M => Ok (slcop mt x l h M) Q) : Ok (evE fn (.slc mt a lo hi) ρ M) Q := by
  rw [evE]; simp only [Ok_bind]; exact h
theorem Ok_callE {f : Nat} {es : CEs} (h : Ok (evEs fn es ρ M) fun ds M => Ok (fn f ds M) Q) : Ok (evE fn (.call f es) ρ M) Q := by
  rw [evE]; simp only [Ok_bind]; exact h
theorem Ok_blt {b : BF} {es : CEs} (h : Ok (evEs fn es ρ M) fun ds M => Ok (bltop b ds M) Q) : Ok (evE fn (.blt b es) ρ M) Q := by
  rw [evE]; simp only [Ok_bind]; exact h
theorem Ok_esn {Q : List D → Mem → Prop} (q : Q [] M) : Ok (evEs fn .nil ρ M) Q := ⟨_, M, by rw [evEs], q⟩
theorem Ok_esc {e : CE} {es : CEs} {Q : List D → Mem → Prop} (h : Ok (evE fn e ρ M) fun d M => Ok (evEs fn es ρ M) fun ds M => Q (d :: ds) M) : Ok (evEs fn (.cons e es) ρ M) Q := by
  rw [evEs]; simp only [Ok_bind, Ok_ok]; exact h
theorem Ok_ono {Q : Option Int → Mem → Prop} (q : Q none M) : Ok (evO fn .no ρ M) Q := ⟨_, M, by rw [evO], q⟩
theorem Ok_oye {e : CE} {Q : Option Int → Mem → Prop} (h : Ok (evE fn e ρ M) fun d M => ∃ i, d = .p (.int i) ∧ Q (some i) M) : Ok (evO fn (.yes e) ρ M) Q := by
  rw [evO]; simp only [Ok_bind]
  refine h.mono ?_
  rintro d M ⟨i, rfl, q⟩
  exact ⟨_, _, rfl, q⟩
theorem Ok_cno {Q : Bool → Mem → Prop} (q : Q true M) : Ok (evC fn .no ρ M) Q := ⟨_, M, by rw [evC], q⟩
theorem Ok_cye {e : CE} {Q : Bool → Mem → Prop} (h : Ok (evE fn e ρ M) fun d M => Ok (toB M d) Q) : Ok (evC fn (.yes e) ρ M) Q := by
  rw [evC]; simp only [Ok_bind]; exact h
theorem Ok_seq {e : CE} {Q : It → Mem → Prop} (h : Ok (evE fn e ρ M) fun d M => ∃ J, seqOf d M = some J ∧ Q J M) : Ok (evI fn (.seq e) ρ M) Q := by
  rw [evI]; simp only [Ok_bind]
  refine h.mono ?_
  rintro d M ⟨J, e, q⟩
  exact ⟨J, M, by rw [e], q⟩
theorem Ok_rng {e : CE} {Q : It → Mem → Prop} (h : Ok (evE fn e ρ M) fun d M => ∃ j, d = .p (.int j) ∧ rngOk j = true ∧ Q (.items (rngP 0 j)) M) : Ok (evI fn (.rng e) ρ M) Q := by
  rw [evI]; simp only [Ok_bind]
  refine h.mono ?_
  rintro d M ⟨j, rfl, r, q⟩
  exact ⟨_, M, by simp only; rw [if_pos r], q⟩
theorem Ok_toB {b : Bool} {Q : Bool → Mem → Prop} (q : Q b M) : Ok (toB M (.p (.bool b))) Q := ⟨_, M, rfl, q⟩
theorem Ok_isB {b : Bool} {Q : Bool → Mem → Prop} (q : Q b M) : Ok (isB M (.p (.bool b))) Q := ⟨_, M, rfl, q⟩
theorem Ok_lt {i j : Int} (q : Q (.p (.bool (decide (i < j)))) M) : Ok (cmpop .lt (.p (.int i)) (.p (.int j)) M) Q := ⟨_, M, rfl, q⟩
theorem Ok_le {i j : Int} (q : Q (.p (.bool (decide (i ≤ j)))) M) : Ok (cmpop .le (.p (.int i)) (.p (.int j)) M) Q := ⟨_, M, rfl, q⟩
theorem Ok_gt {i j : Int} (q : Q (.p (.bool (decide (j < i)))) M) : Ok (cmpop .gt (.p (.int i)) (.p (.int j)) M) Q := ⟨_, M, rfl, q⟩
theorem Ok_ge {i j : Int} (q : Q (.p (.bool (decide (j ≤ i)))) M) : Ok (cmpop .ge (.p (.int i)) (.p (.int j)) M) Q := ⟨_, M, rfl, q⟩
theorem Ok_eqP {x y : PyData} (hx : x.plain = true) (hy : y.plain = true) (hd : x.depth ≤ 60) (q : Q (.p (.bool (PyData.eqv x y))) M) : Ok (cmpop .eq (.p x) (.p y) M) Q :=
  ⟨_, M, by simp only [cmpop, dat, cmpB, hx, hy, hd, decide_true, Bool.and_self, if_true], q⟩
theorem Ok_neP {x y : PyData} (hx : x.plain = true) (hy : y.plain = true) (hd : x.depth ≤ 60) (q : Q (.p (.bool (!PyData.eqv x y))) M) : Ok (cmpop .ne (.p x) (.p y) M) Q :=
  ⟨_, M, by simp only [cmpop, dat, cmpB, hx, hy, hd, decide_true, Bool.and_self, if_true], q⟩
theorem Ok_add {mt : Bool} {i j : Int} (q : Q (.p (.int (i + j))) M) : Ok (binop .add mt (.p (.int i)) (.p (.int j)) M) Q := ⟨_, M, rfl, q⟩
theorem Ok_sb {mt : Bool} {i j : Int} (q : Q (.p (.int (i - j))) M) : Ok (binop .sub mt (.p (.int i)) (.p (.int j)) M) Q := ⟨_, M, rfl, q⟩
theorem Ok_mul {mt : Bool} {i j : Int} (h : (-(2 ^ 64) < i ∧ i < 2 ^ 64) ∨ (-(2 ^ 64) < j ∧ j < 2 ^ 64)) (q : Q (.p (.int (i * j))) M) : Ok (binop .mul mt (.p (.int i)) (.p (.int j)) M) Q := ⟨_, M, by simp only [binop, dat]; rw [if_pos h], q⟩
theorem Ok_fdv {mt : Bool} {i j : Int} (h : 0 < j ∧ j < 1073741824) (q : Q (.p (.int (i / j))) M) : Ok (binop .fdiv mt (.p (.int i)) (.p (.int j)) M) Q := ⟨_, M, by simp only [binop, dat]; rw [if_pos h], q⟩
theorem Ok_mod {mt : Bool} {i j : Int} (h : 0 < j) (q : Q (.p (.int (i % j))) M) : Ok (binop .mod mt (.p (.int i)) (.p (.int j)) M) Q := ⟨_, M, by simp only [binop, dat]; rw [if_pos h], q⟩
theorem Ok_pow {mt : Bool} {i j : Int} (h : 0 ≤ j ∧ j ≤ 1000000 ∧ i.natAbs < 2 ^ 64) (q : Q (.p (.int (i ^ j.toNat))) M) : Ok (binop .pow mt (.p (.int i)) (.p (.int j)) M) Q := ⟨_, M, by simp only [binop, dat]; rw [if_pos h], q⟩
theorem Ok_addT {mt : Bool} {xs ys : List PyData} (h : xs.length + ys.length ≤ 16777216) (q : Q (.p (.tuple (xs ++ ys))) M) : Ok (binop .add mt (.p (.tuple xs)) (.p (.tuple ys)) M) Q := ⟨_, M, by simp only [binop, dat]; rw [if_pos h], q⟩
theorem Ok_addL {xs ys : List PyData} (h : xs.length + ys.length ≤ 16777216) (q : Q (.p (.list (xs ++ ys))) M) : Ok (binop .add false (.p (.list xs)) (.p (.list ys)) M) Q := ⟨_, M, by simp only [binop, dat]; rw [if_pos h]; rfl, q⟩
theorem Ok_mulT {mt : Bool} {xs : List PyData} {k : Int} (h : -(2 ^ 63) ≤ k ∧ k < 2 ^ 63 ∧ xs.length * k.toNat ≤ 16777216) (q : Q (.p (.tuple (List.replicate k.toNat xs).flatten)) M) : Ok (binop .mul mt (.p (.tuple xs)) (.p (.int k)) M) Q := ⟨_, M, by simp only [binop, dat]; rw [if_pos h], q⟩
theorem Ok_ixR {j : Nat} {k : Int} {xs : List PyData} {x : PyData} (h : M[j]? = some (.lst xs)) (e : L2.atI xs k = some x) (q : Q (.p x) M) : Ok (idxop (.ref j) (.p (.int k)) M) Q := ⟨_, M, by simp only [idxop, dat, h, e], q⟩
theorem Ok_ixL {k : Int} {xs : List PyData} {x : PyData} (e : L2.atI xs k = some x) (q : Q (.p x) M) : Ok (idxop (.p (.list xs)) (.p (.int k)) M) Q := ⟨_, M, by simp only [idxop, dat, e], q⟩
theorem Ok_ixT {k : Int} {xs : List PyData} {x : PyData} (e : L2.atI xs k = some x) (q : Q (.p x) M) : Ok (idxop (.p (.tuple xs)) (.p (.int k)) M) Q := ⟨_, M, by simp only [idxop, dat, e], q⟩
theorem Ok_ixS {k : Int} {xs : List Int} {x : Int} (e : L2.atI xs k = some x) (q : Q (.p (.int x)) M) : Ok (idxop (.scr xs) (.p (.int k)) M) Q := ⟨_, M, by simp only [idxop, e], q⟩
theorem Ok_subR {j : Nat} {k : Int} {xs : List PyData} {n : Nat} {x : PyData} {Q : Unit → Mem → Prop} (h : M[j]? = some (.lst xs)) (e : L2.ixN xs.length k = some n) (q : Q () (M.set j (.lst (xs.set n x)))) : Ok (subop (.ref j) (.p (.int k)) (.p x) M) Q := ⟨_, _, by simp only [subop, frzP, h, e], q⟩
theorem Ok_allF {xs : List PyData} (q : Q (.p (.list xs)) M) : Ok (alloc false xs M) Q := ⟨_, M, rfl, q⟩
theorem Ok_allT {xs : List PyData} (q : Q (.ref M.length) (M ++ [.lst xs])) : Ok (alloc true xs M) Q := ⟨_, _, rfl, q⟩
theorem Ok_slT {mt : Bool} {xs : List PyData} {lo hi : Option Int} (q : Q (.p (.tuple (cut xs lo hi))) M) : Ok (slcop mt (.p (.tuple xs)) lo hi M) Q := ⟨_, M, rfl, q⟩
theorem Ok_lenS {ns : List Int} (q : Q (.p (.int ns.length)) M) : Ok (bltop .len [.scr ns] M) Q := ⟨_, M, rfl, q⟩
theorem Ok_lenT {xs : List PyData} (q : Q (.p (.int xs.length)) M) : Ok (bltop .len [.p (.tuple xs)] M) Q := ⟨_, M, rfl, q⟩
theorem Ok_lenL {xs : List PyData} (q : Q (.p (.int xs.length)) M) : Ok (bltop .len [.p (.list xs)] M) Q := ⟨_, M, rfl, q⟩
theorem Ok_min {i j : Int} (q : Q (.p (.int (if j < i then j else i))) M) : Ok (bltop .min [.p (.int i), .p (.int j)] M) Q := ⟨_, M, rfl, q⟩
theorem Ok_max {i j : Int} (q : Q (.p (.int (if j > i then j else i))) M) : Ok (bltop .max [.p (.int i), .p (.int j)] M) Q := ⟨_, M, rfl, q⟩
theorem Ok_tuL {xs : List PyData} (q : Q (.p (.tuple xs)) M) : Ok (bltop .tuple [.p (.list xs)] M) Q := ⟨_, M, rfl, q⟩
theorem Ok_liT {xs : List PyData} (q : Q (.p (.list xs)) M) : Ok (bltop (.list false) [.p (.tuple xs)] M) Q := ⟨_, M, rfl, q⟩
theorem Ok_isi {t : Ty} {x : PyData} (q : Q (.p (.bool (isTy t x))) M) : Ok (bltop (.isi t) [.p x] M) Q := ⟨_, M, rfl, q⟩
theorem Ok_rev {mt : Bool} {a : CE} (h : Ok (evE fn a ρ M) fun x M => Ok (revop mt x M) Q) : Ok (evE fn (.rev mt a) ρ M) Q := by
  rw [evE]; simp only [Ok_bind]; exact h
theorem Ok_mth {m : MF} {o : CE} {es : CEs} (h : Ok (evE fn o ρ M) fun x M => recv x M = true ∧ Ok (evEs fn es ρ M) fun ds M => Ok (mthop m x ds M) Q) : Ok (evE fn (.mth m o es) ρ M) Q := by
  rw [evE]; simp only [Ok_bind]
  refine h.mono ?_
  rintro x M ⟨e, q⟩
  rw [if_pos e]; simp only [Ok_bind]; exact q
theorem Ok_rvT {mt : Bool} {xs : List PyData} (q : Q (.p (.tuple xs.reverse)) M) : Ok (revop mt (.p (.tuple xs)) M) Q := ⟨_, M, rfl, q⟩
theorem Ok_rvL {xs : List PyData} (q : Q (.p (.list xs.reverse)) M) : Ok (revop false (.p (.list xs)) M) Q := ⟨_, M, rfl, q⟩
theorem Ok_srt {xs : List PyData} {ns : List Int} (h : asInts xs = some ns) (q : Q (.p (.list ((sortI ns).map PyData.int))) M) : Ok (bltop (.sorted false) [.p (.list xs)] M) Q := ⟨_, M, by simp only [bltop, one, dat, bSorted, h]; rfl, q⟩
theorem Ok_app {j : Nat} {xs : List PyData} {x : PyData} (h : M[j]? = some (.lst xs)) (hl : xs.length < 16777216) (q : Q (.p .none) (M.set j (.lst (xs ++ [x])))) : Ok (mthop .append (.ref j) [.p x] M) Q :=
  ⟨_, _, by simp only [mthop, mAppend, frzP, h]; rw [if_pos hl], q⟩
theorem Ok_addR {mt : Bool} {j : Nat} {xs ys : List PyData} (h : M[j]? = some (.lst xs)) (hl : xs.length + ys.length ≤ 16777216) (q : Ok (alloc mt (xs ++ ys) M) Q) : Ok (binop .add mt (.ref j) (.p (.list ys)) M) Q := by
  simp only [binop, dat, h]
  rw [if_pos hl]; exact q
theorem Ok_isN {x : PyData} (q : Q (.p (.bool (isNone x))) M) : Ok (cmpop .is (.p x) (.p .none) M) Q := ⟨_, M, by cases x <;> rfl, q⟩
theorem Ok_isNN {x : PyData} (q : Q (.p (.bool (!isNone x))) M) : Ok (cmpop .isnot (.p x) (.p .none) M) Q := ⟨_, M, by cases x <;> rfl, q⟩
theorem Ok_eqI {i j : Int} (q : Q (.p (.bool (i == j))) M) : Ok (cmpop .eq (.p (.int i)) (.p (.int j)) M) Q := ⟨_, M, by simp only [cmpop, dat, cmpB, PyData.plain, PyData.depth, PyData.eqv]; rfl, q⟩
theorem Ok_neI {i j : Int} (q : Q (.p (.bool (!(i == j)))) M) : Ok (cmpop .ne (.p (.int i)) (.p (.int j)) M) Q := ⟨_, M, by simp only [cmpop, dat, cmpB, PyData.plain, PyData.depth, PyData.eqv]; rfl, q⟩
theorem Ok_par {fuel : Nat} {is : List Nat} {es : CEs} {Q : Fl → Mem → Prop} (h : Ok (evEs fn es ρ M) fun ds N => ∃ ρ', setDs is ds ρ = some ρ' ∧ Q (.nx ρ') N) : Ok (evS fn fuel (.par is es) ρ M) Q := by
  obtain ⟨ds, N, e, ρ', e', q⟩ := h
  exact ⟨_, N, by rw [evS, e]; simp only [Res.onto, e'], q⟩
theorem Ok_asgT {fuel : Nat} {is : List Nat} {e : CE} {Q : Fl → Mem → Prop} (h : Ok (evE fn e ρ M) fun d N => ∃ xs, d = .p (.tuple xs) ∧ ∃ ρ', setAll is xs ρ = some ρ' ∧ Q (.nx ρ') N) : Ok (evS fn fuel (.asg (.tp is) e) ρ M) Q := by
  obtain ⟨d, N, e, xs, rfl, ρ', e', q⟩ := h
  exact ⟨_, N, by rw [evS, e]; simp only [Res.onto, asgT, e'], q⟩
theorem Ok_cl0 {f : PyData → Mem → Res (Option PyData)} {acc : List PyData} {Q : List PyData → Mem → Prop} (q : Q acc M) : Ok (compLoop f [] acc M) Q := ⟨_, M, by rw [compLoop], q⟩
theorem Ok_cl1 {f : PyData → Mem → Res (Option PyData)} {x : PyData} {xs acc : List PyData} {Q : List PyData → Mem → Prop} (hl : acc.length < 16777216) (h : Ok (f x M) fun o N => Ok (compLoop f xs (match o with | some y => acc ++ [y] | none => acc) N) Q) : Ok (compLoop f (x :: xs) acc M) Q := by
  obtain ⟨o, N, e, ys, K, e', q⟩ := h
  refine ⟨ys, K, ?_, q⟩
  rw [compLoop, e]
  cases o with
  | none => exact e'
  | some y => simp only; rw [if_pos hl]; exact e'
theorem Ok_okI {α : Type} {a : α} {Q : α → Mem → Prop} (q : Q a M) : Ok (.ok a M) Q := ⟨_, M, rfl, q⟩
theorem Ok_bnd {α β : Type} {r : Res α} {f : α → Mem → Res β} {Q : β → Mem → Prop} (h : Ok r fun a M => Ok (f a M) Q) : Ok (r.bind f) Q := by rw [Ok_bind]; exact h
end
end Mi

set_option Elab.async false
set_option linter.all false
set_option maxRecDepth 100000
/-! Mi: the pen, and what is drawn with it. -/
namespace Mi
open PySem
def bCell : CSs :=
  (.cons (.ife (.cmp .lt (.var 1) (.blt .len (.cons (.var 0) .nil))) (.cons (.ret (.idx (.var 0) (.var 1))) .nil) .nil) (.cons (.ret (.cst (.int 0))) .nil))
def bPen : CSs :=
  (.cons (.ret (.lst true (.cons (.blt .max (.cons (.cst (.int 0)) (.cons (.bin .sub false (.var 0) (.bin .pow false (.cst (.int 10)) (.cst (.int 18)))) .nil))) (.cons (.bin .mod false (.var 0) (.cst (.int 1000000007))) (.cons (.cst (.int 0)) .nil))))) .nil)
def bDraw : CSs :=
  (.cons (.ife (.cmp .gt (.idx (.var 0) (.cst (.int 0))) (.cst (.int 0))) (.cons (.asg (.nm 2) (.bin .mod false (.idx (.var 0) (.cst (.int 0))) (.var 1))) (.cons (.sub (.var 0) (.cst (.int 0)) (.bin .fdiv false (.idx (.var 0) (.cst (.int 0))) (.var 1))) (.cons (.ret (.var 2)) .nil))) .nil) (.cons (.sub (.var 0) (.cst (.int 2)) (.bin .add false (.idx (.var 0) (.cst (.int 2))) (.cst (.int 1)))) (.cons (.asg (.nm 3) (.bin .mod false (.bin .mul false (.bin .add false (.idx (.var 0) (.cst (.int 1))) (.bin .mul false (.cst (.int 17)) (.idx (.var 0) (.cst (.int 2))))) (.bin .add false (.cst (.int 69621)) (.bin .mul false (.cst (.int 2)) (.idx (.var 0) (.cst (.int 2)))))) (.cst (.int 2147483647)))) (.cons (.asg (.nm 3) (.bin .mod false (.bin .add false (.bin .add false (.bin .mul false (.var 3) (.var 3)) (.bin .mul false (.cst (.int 40503)) (.idx (.var 0) (.cst (.int 2))))) (.cst (.int 5))) (.cst (.int 2147483629)))) (.cons (.ret (.bin .mod false (.bin .fdiv false (.bin .mod false (.bin .mul false (.var 3) (.cst (.int 48271))) (.cst (.int 2147483647))) (.cst (.int 32))) (.var 1))) .nil)))))
def bPick : CSs :=
  (.cons (.ret (.idx (.var 1) (.call 5 (.cons (.var 0) (.cons (.blt .len (.cons (.var 1) .nil)) .nil))))) .nil)
def bSame : CSs :=
  (.cons (.ret (.cmp .eq (.blt .repr (.cons (.var 0) .nil)) (.blt .repr (.cons (.var 1) .nil)))) .nil)
def bWhole : CSs :=
  (.cons (.ret (.and (.blt (.isi .int) (.cons (.var 0) .nil)) (.and (.not (.blt (.isi .bool) (.cons (.var 0) .nil))) (.chn .le .le (.var 1) (.var 0) (.var 2))))) .nil)
def penO (a b c : Int) : MO := .lst [.int a, .int b, .int c]
/-- the memory is `M0`, but that the pen at `i` has been used at most `t` times -/
def PenS (M0 : Mem) (i t : Nat) (M : Mem) : Prop := i < M0.length ∧ ∃ a b c : Int, M = M0.set i (penO a b c) ∧ 0 ≤ c ∧ c ≤ t
theorem PenS.len {M0 M : Mem} {i t : Nat} (h : PenS M0 i t M) : M.length = M0.length := by
  obtain ⟨_, a, b, c, rfl, _, _⟩ := h
  exact List.length_set
theorem PenS.at {M0 M : Mem} {i t : Nat} (h : PenS M0 i t M) : ∃ a b c : Int, M[i]? = some (penO a b c) ∧ 0 ≤ c ∧ c ≤ t := by
  obtain ⟨hi, a, b, c, rfl, h1, h2⟩ := h
  exact ⟨a, b, c, by rw [List.getElem?_set_self (by simpa using hi)], h1, h2⟩
theorem PenS.put {M0 M : Mem} {i t : Nat} (h : PenS M0 i t M) (a b c : Int) {u : Nat} (h1 : 0 ≤ c) (h2 : c ≤ u) : PenS M0 i u (M.set i (penO a b c)) := by
  obtain ⟨hi, a', b', c', rfl, _, _⟩ := h
  exact ⟨hi, a, b, c, by rw [List.set_set], h1, h2⟩
theorem PenS.mono {M0 M : Mem} {i t u : Nat} (h : PenS M0 i t M) (hu : t ≤ u) : PenS M0 i u M := by
  obtain ⟨hi, a', b', c', rfl, h1, h2⟩ := h
  exact ⟨hi, _, _, _, rfl, h1, by omega⟩
theorem pen_new (M : Mem) (a b : Int) : PenS (M ++ [penO a b 0]) M.length 0 (M ++ [penO a b 0]) :=
  ⟨by simp, a, b, 0, by rw [List.set_append_right _ _ (Nat.le_refl _), Nat.sub_self]; rfl, Int.le_refl 0, Int.le_refl 0⟩
theorem fin_p {n : Nat} {x : PyData} {M : Mem} {Q : D → Mem → Prop} (h : M.length ≤ n) (q : Q (.p x) M) : EndQ true n (.p x) M Q :=
  ⟨⟨_, _, by simp only [fin, if_true]; rw [List.take_of_length_le h], q⟩⟩
theorem fin_d {n : Nat} {d : D} {M : Mem} {Q : D → Mem → Prop} (q : Q d M) : EndQ false n d M Q := ⟨⟨_, _, rfl, q⟩⟩
section
variable {T : Nat → Option FD} {fuel k : Nat}
theorem draw_ok (hT : T 5 = some ⟨2, 4, true, bDraw⟩) {M0 M : Mem} {i t : Nat} {n : Int} (hM : PenS M0 i t M) (ht : t < 2 ^ 60) (h0 : 0 < n) (h1 : n < 1073741824) :
    Ok (run T fuel (k + 1) 5 [.ref i, .p (.int n)] M) (fun d N => ∃ r : Int, d = .p (.int r) ∧ 0 ≤ r ∧ r < n ∧ PenS M0 i (t + 1) N) := by
  refine Ok_call hT rfl ?_
  obtain ⟨a, b, c, hp, hc0, hc1⟩ := hM.at
  have hi : i < M.length := (List.getElem?_eq_some_iff.mp hp).1
  have hq : ∀ a b c : Int, (M.set i (penO a b c))[i]? = some (.lst [.int a, .int b, .int c]) := fun a b c => by rw [List.getElem?_set_self hi]; rfl
  simp only [bDraw, enter, List.map_cons, List.map_nil, List.replicate, List.cons_append, List.nil_append]
  repeat' (first
    | ((with_reducible apply Ok_var); (exact rfl))
    | with_reducible refine Ok_cons ?_ | with_reducible refine Ok_nil ?_ | with_reducible refine Ok_asg ?_ | with_reducible refine Ok_ret ?_ | with_reducible refine Ok_sub ?_ | with_reducible refine Ok_ife ?_
    | with_reducible refine Ok_expr ?_ | with_reducible refine Go_nx ?_ | with_reducible refine Go_rt ?_ | with_reducible refine Ok_cst ?_ | with_reducible refine Ok_bin ?_ | with_reducible refine Ok_idx ?_
    | with_reducible refine Ok_cmp ?_ | with_reducible refine Ok_chn ?_ | with_reducible refine Ok_and ?_ | with_reducible refine Ok_or ?_ | with_reducible refine Ok_not ?_ | with_reducible refine Ok_blt ?_
    | with_reducible refine Ok_callE ?_ | with_reducible refine Ok_slc ?_ | with_reducible refine Ok_ifx ?_ | with_reducible refine Ok_neg ?_ | with_reducible refine Ok_esc ?_ | with_reducible refine Ok_esn ?_
    | with_reducible refine Ok_ono ?_ | with_reducible refine Ok_oye ?_ | with_reducible refine Ok_cno ?_ | with_reducible refine Ok_cye ?_ | with_reducible refine Ok_tup ?_ | with_reducible refine Ok_lst ?_
    | with_reducible refine Ok_toB ?_ | with_reducible refine Ok_isB ?_ | with_reducible refine Ok_lt ?_ | with_reducible refine Ok_le ?_ | with_reducible refine Ok_gt ?_ | with_reducible refine Ok_ge ?_
    | with_reducible refine Ok_add ?_ | with_reducible refine Ok_sb ?_ | with_reducible refine Ok_lenS ?_ | with_reducible refine Ok_lenT ?_ | with_reducible refine Ok_lenL ?_ | with_reducible refine Ok_min ?_
    | with_reducible refine Ok_max ?_ | with_reducible refine Ok_tuL ?_ | with_reducible refine Ok_liT ?_ | with_reducible refine Ok_isi ?_ | with_reducible refine Ok_allF ?_ | with_reducible refine Ok_allT ?_
    | with_reducible refine Ok_slT ?_ | with_reducible refine Ok_comp ?_ | with_reducible refine Ok_seq ?_ | with_reducible refine Ok_rev ?_ | with_reducible refine Ok_rvT ?_ | with_reducible refine Ok_rvL ?_
    | with_reducible refine Ok_isN ?_ | with_reducible refine Ok_isNN ?_ | with_reducible refine Ok_eqI ?_ | with_reducible refine Ok_neI ?_ | with_reducible refine Ok_par ?_ | with_reducible refine Ok_asgT ?_
    | with_reducible refine Ok_mth ?_ | with_reducible refine Ok_dct ?_ | with_reducible refine Ok_okI ?_ | with_reducible refine Ok_bnd ?_
    | ((with_reducible refine Ok_ift ?_ ?_); (exact rfl)) | ((with_reducible refine Ok_iff ?_ ?_); (exact rfl))
    | refine Exists.intro _ (And.intro rfl ?_) | refine Exists.intro _ (Exists.intro _ (And.intro rfl (And.intro (show List.length _ ≤ _ by first | decide | simp) ?_))))
  refine Ok_ixR hp rfl ?_
  repeat' (first
    | ((with_reducible apply Ok_var); (exact rfl))
    | with_reducible refine Ok_cons ?_ | with_reducible refine Ok_nil ?_ | with_reducible refine Ok_asg ?_ | with_reducible refine Ok_ret ?_ | with_reducible refine Ok_sub ?_ | with_reducible refine Ok_ife ?_
    | with_reducible refine Ok_expr ?_ | with_reducible refine Go_nx ?_ | with_reducible refine Go_rt ?_ | with_reducible refine Ok_cst ?_ | with_reducible refine Ok_bin ?_ | with_reducible refine Ok_idx ?_
    | with_reducible refine Ok_cmp ?_ | with_reducible refine Ok_chn ?_ | with_reducible refine Ok_and ?_ | with_reducible refine Ok_or ?_ | with_reducible refine Ok_not ?_ | with_reducible refine Ok_blt ?_
    | with_reducible refine Ok_callE ?_ | with_reducible refine Ok_slc ?_ | with_reducible refine Ok_ifx ?_ | with_reducible refine Ok_neg ?_ | with_reducible refine Ok_esc ?_ | with_reducible refine Ok_esn ?_
    | with_reducible refine Ok_ono ?_ | with_reducible refine Ok_oye ?_ | with_reducible refine Ok_cno ?_ | with_reducible refine Ok_cye ?_ | with_reducible refine Ok_tup ?_ | with_reducible refine Ok_lst ?_
    | with_reducible refine Ok_toB ?_ | with_reducible refine Ok_isB ?_ | with_reducible refine Ok_lt ?_ | with_reducible refine Ok_le ?_ | with_reducible refine Ok_gt ?_ | with_reducible refine Ok_ge ?_
    | with_reducible refine Ok_add ?_ | with_reducible refine Ok_sb ?_ | with_reducible refine Ok_lenS ?_ | with_reducible refine Ok_lenT ?_ | with_reducible refine Ok_lenL ?_ | with_reducible refine Ok_min ?_
    | with_reducible refine Ok_max ?_ | with_reducible refine Ok_tuL ?_ | with_reducible refine Ok_liT ?_ | with_reducible refine Ok_isi ?_ | with_reducible refine Ok_allF ?_ | with_reducible refine Ok_allT ?_
    | with_reducible refine Ok_slT ?_ | with_reducible refine Ok_comp ?_ | with_reducible refine Ok_seq ?_ | with_reducible refine Ok_rev ?_ | with_reducible refine Ok_rvT ?_ | with_reducible refine Ok_rvL ?_
    | with_reducible refine Ok_isN ?_ | with_reducible refine Ok_isNN ?_ | with_reducible refine Ok_eqI ?_ | with_reducible refine Ok_neI ?_ | with_reducible refine Ok_par ?_ | with_reducible refine Ok_asgT ?_
    | with_reducible refine Ok_mth ?_ | with_reducible refine Ok_dct ?_ | with_reducible refine Ok_okI ?_ | with_reducible refine Ok_bnd ?_
    | ((with_reducible refine Ok_ift ?_ ?_); (exact rfl)) | ((with_reducible refine Ok_iff ?_ ?_); (exact rfl))
    | refine Exists.intro _ (And.intro rfl ?_) | refine Exists.intro _ (Exists.intro _ (And.intro rfl (And.intro (show List.length _ ≤ _ by first | decide | simp) ?_))))
  refine Ok_if (fun ha => ?_) (fun ha => ?_)
  · repeat' (first
    | ((with_reducible apply Ok_var); (exact rfl))
    | with_reducible refine Ok_cons ?_ | with_reducible refine Ok_nil ?_ | with_reducible refine Ok_asg ?_ | with_reducible refine Ok_ret ?_ | with_reducible refine Ok_sub ?_ | with_reducible refine Ok_ife ?_
    | with_reducible refine Ok_expr ?_ | with_reducible refine Go_nx ?_ | with_reducible refine Go_rt ?_ | with_reducible refine Ok_cst ?_ | with_reducible refine Ok_bin ?_ | with_reducible refine Ok_idx ?_
    | with_reducible refine Ok_cmp ?_ | with_reducible refine Ok_chn ?_ | with_reducible refine Ok_and ?_ | with_reducible refine Ok_or ?_ | with_reducible refine Ok_not ?_ | with_reducible refine Ok_blt ?_
    | with_reducible refine Ok_callE ?_ | with_reducible refine Ok_slc ?_ | with_reducible refine Ok_ifx ?_ | with_reducible refine Ok_neg ?_ | with_reducible refine Ok_esc ?_ | with_reducible refine Ok_esn ?_
    | with_reducible refine Ok_ono ?_ | with_reducible refine Ok_oye ?_ | with_reducible refine Ok_cno ?_ | with_reducible refine Ok_cye ?_ | with_reducible refine Ok_tup ?_ | with_reducible refine Ok_lst ?_
    | with_reducible refine Ok_toB ?_ | with_reducible refine Ok_isB ?_ | with_reducible refine Ok_lt ?_ | with_reducible refine Ok_le ?_ | with_reducible refine Ok_gt ?_ | with_reducible refine Ok_ge ?_
    | with_reducible refine Ok_add ?_ | with_reducible refine Ok_sb ?_ | with_reducible refine Ok_lenS ?_ | with_reducible refine Ok_lenT ?_ | with_reducible refine Ok_lenL ?_ | with_reducible refine Ok_min ?_
    | with_reducible refine Ok_max ?_ | with_reducible refine Ok_tuL ?_ | with_reducible refine Ok_liT ?_ | with_reducible refine Ok_isi ?_ | with_reducible refine Ok_allF ?_ | with_reducible refine Ok_allT ?_
    | with_reducible refine Ok_slT ?_ | with_reducible refine Ok_comp ?_ | with_reducible refine Ok_seq ?_ | with_reducible refine Ok_rev ?_ | with_reducible refine Ok_rvT ?_ | with_reducible refine Ok_rvL ?_
    | with_reducible refine Ok_isN ?_ | with_reducible refine Ok_isNN ?_ | with_reducible refine Ok_eqI ?_ | with_reducible refine Ok_neI ?_ | with_reducible refine Ok_par ?_ | with_reducible refine Ok_asgT ?_
    | with_reducible refine Ok_mth ?_ | with_reducible refine Ok_dct ?_ | with_reducible refine Ok_okI ?_ | with_reducible refine Ok_bnd ?_
    | ((with_reducible refine Ok_ift ?_ ?_); (exact rfl)) | ((with_reducible refine Ok_iff ?_ ?_); (exact rfl))
    | refine Exists.intro _ (And.intro rfl ?_) | refine Exists.intro _ (Exists.intro _ (And.intro rfl (And.intro (show List.length _ ≤ _ by first | decide | simp) ?_))))
    refine Ok_ixR hp rfl ?_
    repeat' (first
    | ((with_reducible apply Ok_var); (exact rfl))
    | with_reducible refine Ok_cons ?_ | with_reducible refine Ok_nil ?_ | with_reducible refine Ok_asg ?_ | with_reducible refine Ok_ret ?_ | with_reducible refine Ok_sub ?_ | with_reducible refine Ok_ife ?_
    | with_reducible refine Ok_expr ?_ | with_reducible refine Go_nx ?_ | with_reducible refine Go_rt ?_ | with_reducible refine Ok_cst ?_ | with_reducible refine Ok_bin ?_ | with_reducible refine Ok_idx ?_
    | with_reducible refine Ok_cmp ?_ | with_reducible refine Ok_chn ?_ | with_reducible refine Ok_and ?_ | with_reducible refine Ok_or ?_ | with_reducible refine Ok_not ?_ | with_reducible refine Ok_blt ?_
    | with_reducible refine Ok_callE ?_ | with_reducible refine Ok_slc ?_ | with_reducible refine Ok_ifx ?_ | with_reducible refine Ok_neg ?_ | with_reducible refine Ok_esc ?_ | with_reducible refine Ok_esn ?_
    | with_reducible refine Ok_ono ?_ | with_reducible refine Ok_oye ?_ | with_reducible refine Ok_cno ?_ | with_reducible refine Ok_cye ?_ | with_reducible refine Ok_tup ?_ | with_reducible refine Ok_lst ?_
    | with_reducible refine Ok_toB ?_ | with_reducible refine Ok_isB ?_ | with_reducible refine Ok_lt ?_ | with_reducible refine Ok_le ?_ | with_reducible refine Ok_gt ?_ | with_reducible refine Ok_ge ?_
    | with_reducible refine Ok_add ?_ | with_reducible refine Ok_sb ?_ | with_reducible refine Ok_lenS ?_ | with_reducible refine Ok_lenT ?_ | with_reducible refine Ok_lenL ?_ | with_reducible refine Ok_min ?_
    | with_reducible refine Ok_max ?_ | with_reducible refine Ok_tuL ?_ | with_reducible refine Ok_liT ?_ | with_reducible refine Ok_isi ?_ | with_reducible refine Ok_allF ?_ | with_reducible refine Ok_allT ?_
    | with_reducible refine Ok_slT ?_ | with_reducible refine Ok_comp ?_ | with_reducible refine Ok_seq ?_ | with_reducible refine Ok_rev ?_ | with_reducible refine Ok_rvT ?_ | with_reducible refine Ok_rvL ?_
    | with_reducible refine Ok_isN ?_ | with_reducible refine Ok_isNN ?_ | with_reducible refine Ok_eqI ?_ | with_reducible refine Ok_neI ?_ | with_reducible refine Ok_par ?_ | with_reducible refine Ok_asgT ?_
    | with_reducible refine Ok_mth ?_ | with_reducible refine Ok_dct ?_ | with_reducible refine Ok_okI ?_ | with_reducible refine Ok_bnd ?_
    | ((with_reducible refine Ok_ift ?_ ?_); (exact rfl)) | ((with_reducible refine Ok_iff ?_ ?_); (exact rfl))
    | refine Exists.intro _ (And.intro rfl ?_) | refine Exists.intro _ (Exists.intro _ (And.intro rfl (And.intro (show List.length _ ≤ _ by first | decide | simp) ?_))))
    refine Ok_mod h0 ?_
    repeat' (first
    | ((with_reducible apply Ok_var); (exact rfl))
    | with_reducible refine Ok_cons ?_ | with_reducible refine Ok_nil ?_ | with_reducible refine Ok_asg ?_ | with_reducible refine Ok_ret ?_ | with_reducible refine Ok_sub ?_ | with_reducible refine Ok_ife ?_
    | with_reducible refine Ok_expr ?_ | with_reducible refine Go_nx ?_ | with_reducible refine Go_rt ?_ | with_reducible refine Ok_cst ?_ | with_reducible refine Ok_bin ?_ | with_reducible refine Ok_idx ?_
    | with_reducible refine Ok_cmp ?_ | with_reducible refine Ok_chn ?_ | with_reducible refine Ok_and ?_ | with_reducible refine Ok_or ?_ | with_reducible refine Ok_not ?_ | with_reducible refine Ok_blt ?_
    | with_reducible refine Ok_callE ?_ | with_reducible refine Ok_slc ?_ | with_reducible refine Ok_ifx ?_ | with_reducible refine Ok_neg ?_ | with_reducible refine Ok_esc ?_ | with_reducible refine Ok_esn ?_
    | with_reducible refine Ok_ono ?_ | with_reducible refine Ok_oye ?_ | with_reducible refine Ok_cno ?_ | with_reducible refine Ok_cye ?_ | with_reducible refine Ok_tup ?_ | with_reducible refine Ok_lst ?_
    | with_reducible refine Ok_toB ?_ | with_reducible refine Ok_isB ?_ | with_reducible refine Ok_lt ?_ | with_reducible refine Ok_le ?_ | with_reducible refine Ok_gt ?_ | with_reducible refine Ok_ge ?_
    | with_reducible refine Ok_add ?_ | with_reducible refine Ok_sb ?_ | with_reducible refine Ok_lenS ?_ | with_reducible refine Ok_lenT ?_ | with_reducible refine Ok_lenL ?_ | with_reducible refine Ok_min ?_
    | with_reducible refine Ok_max ?_ | with_reducible refine Ok_tuL ?_ | with_reducible refine Ok_liT ?_ | with_reducible refine Ok_isi ?_ | with_reducible refine Ok_allF ?_ | with_reducible refine Ok_allT ?_
    | with_reducible refine Ok_slT ?_ | with_reducible refine Ok_comp ?_ | with_reducible refine Ok_seq ?_ | with_reducible refine Ok_rev ?_ | with_reducible refine Ok_rvT ?_ | with_reducible refine Ok_rvL ?_
    | with_reducible refine Ok_isN ?_ | with_reducible refine Ok_isNN ?_ | with_reducible refine Ok_eqI ?_ | with_reducible refine Ok_neI ?_ | with_reducible refine Ok_par ?_ | with_reducible refine Ok_asgT ?_
    | with_reducible refine Ok_mth ?_ | with_reducible refine Ok_dct ?_ | with_reducible refine Ok_okI ?_ | with_reducible refine Ok_bnd ?_
    | ((with_reducible refine Ok_ift ?_ ?_); (exact rfl)) | ((with_reducible refine Ok_iff ?_ ?_); (exact rfl))
    | refine Exists.intro _ (And.intro rfl ?_) | refine Exists.intro _ (Exists.intro _ (And.intro rfl (And.intro (show List.length _ ≤ _ by first | decide | simp) ?_))))
    refine Ok_ixR hp rfl ?_
    repeat' (first
    | ((with_reducible apply Ok_var); (exact rfl))
    | with_reducible refine Ok_cons ?_ | with_reducible refine Ok_nil ?_ | with_reducible refine Ok_asg ?_ | with_reducible refine Ok_ret ?_ | with_reducible refine Ok_sub ?_ | with_reducible refine Ok_ife ?_
    | with_reducible refine Ok_expr ?_ | with_reducible refine Go_nx ?_ | with_reducible refine Go_rt ?_ | with_reducible refine Ok_cst ?_ | with_reducible refine Ok_bin ?_ | with_reducible refine Ok_idx ?_
    | with_reducible refine Ok_cmp ?_ | with_reducible refine Ok_chn ?_ | with_reducible refine Ok_and ?_ | with_reducible refine Ok_or ?_ | with_reducible refine Ok_not ?_ | with_reducible refine Ok_blt ?_
    | with_reducible refine Ok_callE ?_ | with_reducible refine Ok_slc ?_ | with_reducible refine Ok_ifx ?_ | with_reducible refine Ok_neg ?_ | with_reducible refine Ok_esc ?_ | with_reducible refine Ok_esn ?_
    | with_reducible refine Ok_ono ?_ | with_reducible refine Ok_oye ?_ | with_reducible refine Ok_cno ?_ | with_reducible refine Ok_cye ?_ | with_reducible refine Ok_tup ?_ | with_reducible refine Ok_lst ?_
    | with_reducible refine Ok_toB ?_ | with_reducible refine Ok_isB ?_ | with_reducible refine Ok_lt ?_ | with_reducible refine Ok_le ?_ | with_reducible refine Ok_gt ?_ | with_reducible refine Ok_ge ?_
    | with_reducible refine Ok_add ?_ | with_reducible refine Ok_sb ?_ | with_reducible refine Ok_lenS ?_ | with_reducible refine Ok_lenT ?_ | with_reducible refine Ok_lenL ?_ | with_reducible refine Ok_min ?_
    | with_reducible refine Ok_max ?_ | with_reducible refine Ok_tuL ?_ | with_reducible refine Ok_liT ?_ | with_reducible refine Ok_isi ?_ | with_reducible refine Ok_allF ?_ | with_reducible refine Ok_allT ?_
    | with_reducible refine Ok_slT ?_ | with_reducible refine Ok_comp ?_ | with_reducible refine Ok_seq ?_ | with_reducible refine Ok_rev ?_ | with_reducible refine Ok_rvT ?_ | with_reducible refine Ok_rvL ?_
    | with_reducible refine Ok_isN ?_ | with_reducible refine Ok_isNN ?_ | with_reducible refine Ok_eqI ?_ | with_reducible refine Ok_neI ?_ | with_reducible refine Ok_par ?_ | with_reducible refine Ok_asgT ?_
    | with_reducible refine Ok_mth ?_ | with_reducible refine Ok_dct ?_ | with_reducible refine Ok_okI ?_ | with_reducible refine Ok_bnd ?_
    | ((with_reducible refine Ok_ift ?_ ?_); (exact rfl)) | ((with_reducible refine Ok_iff ?_ ?_); (exact rfl))
    | refine Exists.intro _ (And.intro rfl ?_) | refine Exists.intro _ (Exists.intro _ (And.intro rfl (And.intro (show List.length _ ≤ _ by first | decide | simp) ?_))))
    refine Ok_fdv ⟨h0, h1⟩ ?_
    repeat' (first
    | ((with_reducible apply Ok_var); (exact rfl))
    | with_reducible refine Ok_cons ?_ | with_reducible refine Ok_nil ?_ | with_reducible refine Ok_asg ?_ | with_reducible refine Ok_ret ?_ | with_reducible refine Ok_sub ?_ | with_reducible refine Ok_ife ?_
    | with_reducible refine Ok_expr ?_ | with_reducible refine Go_nx ?_ | with_reducible refine Go_rt ?_ | with_reducible refine Ok_cst ?_ | with_reducible refine Ok_bin ?_ | with_reducible refine Ok_idx ?_
    | with_reducible refine Ok_cmp ?_ | with_reducible refine Ok_chn ?_ | with_reducible refine Ok_and ?_ | with_reducible refine Ok_or ?_ | with_reducible refine Ok_not ?_ | with_reducible refine Ok_blt ?_
    | with_reducible refine Ok_callE ?_ | with_reducible refine Ok_slc ?_ | with_reducible refine Ok_ifx ?_ | with_reducible refine Ok_neg ?_ | with_reducible refine Ok_esc ?_ | with_reducible refine Ok_esn ?_
    | with_reducible refine Ok_ono ?_ | with_reducible refine Ok_oye ?_ | with_reducible refine Ok_cno ?_ | with_reducible refine Ok_cye ?_ | with_reducible refine Ok_tup ?_ | with_reducible refine Ok_lst ?_
    | with_reducible refine Ok_toB ?_ | with_reducible refine Ok_isB ?_ | with_reducible refine Ok_lt ?_ | with_reducible refine Ok_le ?_ | with_reducible refine Ok_gt ?_ | with_reducible refine Ok_ge ?_
    | with_reducible refine Ok_add ?_ | with_reducible refine Ok_sb ?_ | with_reducible refine Ok_lenS ?_ | with_reducible refine Ok_lenT ?_ | with_reducible refine Ok_lenL ?_ | with_reducible refine Ok_min ?_
    | with_reducible refine Ok_max ?_ | with_reducible refine Ok_tuL ?_ | with_reducible refine Ok_liT ?_ | with_reducible refine Ok_isi ?_ | with_reducible refine Ok_allF ?_ | with_reducible refine Ok_allT ?_
    | with_reducible refine Ok_slT ?_ | with_reducible refine Ok_comp ?_ | with_reducible refine Ok_seq ?_ | with_reducible refine Ok_rev ?_ | with_reducible refine Ok_rvT ?_ | with_reducible refine Ok_rvL ?_
    | with_reducible refine Ok_isN ?_ | with_reducible refine Ok_isNN ?_ | with_reducible refine Ok_eqI ?_ | with_reducible refine Ok_neI ?_ | with_reducible refine Ok_par ?_ | with_reducible refine Ok_asgT ?_
    | with_reducible refine Ok_mth ?_ | with_reducible refine Ok_dct ?_ | with_reducible refine Ok_okI ?_ | with_reducible refine Ok_bnd ?_
    | ((with_reducible refine Ok_ift ?_ ?_); (exact rfl)) | ((with_reducible refine Ok_iff ?_ ?_); (exact rfl))
    | refine Exists.intro _ (And.intro rfl ?_) | refine Exists.intro _ (Exists.intro _ (And.intro rfl (And.intro (show List.length _ ≤ _ by first | decide | simp) ?_))))
    refine Ok_subR hp rfl ?_
    repeat' (first
    | ((with_reducible apply Ok_var); (exact rfl))
    | with_reducible refine Ok_cons ?_ | with_reducible refine Ok_nil ?_ | with_reducible refine Ok_asg ?_ | with_reducible refine Ok_ret ?_ | with_reducible refine Ok_sub ?_ | with_reducible refine Ok_ife ?_
    | with_reducible refine Ok_expr ?_ | with_reducible refine Go_nx ?_ | with_reducible refine Go_rt ?_ | with_reducible refine Ok_cst ?_ | with_reducible refine Ok_bin ?_ | with_reducible refine Ok_idx ?_
    | with_reducible refine Ok_cmp ?_ | with_reducible refine Ok_chn ?_ | with_reducible refine Ok_and ?_ | with_reducible refine Ok_or ?_ | with_reducible refine Ok_not ?_ | with_reducible refine Ok_blt ?_
    | with_reducible refine Ok_callE ?_ | with_reducible refine Ok_slc ?_ | with_reducible refine Ok_ifx ?_ | with_reducible refine Ok_neg ?_ | with_reducible refine Ok_esc ?_ | with_reducible refine Ok_esn ?_
    | with_reducible refine Ok_ono ?_ | with_reducible refine Ok_oye ?_ | with_reducible refine Ok_cno ?_ | with_reducible refine Ok_cye ?_ | with_reducible refine Ok_tup ?_ | with_reducible refine Ok_lst ?_
    | with_reducible refine Ok_toB ?_ | with_reducible refine Ok_isB ?_ | with_reducible refine Ok_lt ?_ | with_reducible refine Ok_le ?_ | with_reducible refine Ok_gt ?_ | with_reducible refine Ok_ge ?_
    | with_reducible refine Ok_add ?_ | with_reducible refine Ok_sb ?_ | with_reducible refine Ok_lenS ?_ | with_reducible refine Ok_lenT ?_ | with_reducible refine Ok_lenL ?_ | with_reducible refine Ok_min ?_
    | with_reducible refine Ok_max ?_ | with_reducible refine Ok_tuL ?_ | with_reducible refine Ok_liT ?_ | with_reducible refine Ok_isi ?_ | with_reducible refine Ok_allF ?_ | with_reducible refine Ok_allT ?_
    | with_reducible refine Ok_slT ?_ | with_reducible refine Ok_comp ?_ | with_reducible refine Ok_seq ?_ | with_reducible refine Ok_rev ?_ | with_reducible refine Ok_rvT ?_ | with_reducible refine Ok_rvL ?_
    | with_reducible refine Ok_isN ?_ | with_reducible refine Ok_isNN ?_ | with_reducible refine Ok_eqI ?_ | with_reducible refine Ok_neI ?_ | with_reducible refine Ok_par ?_ | with_reducible refine Ok_asgT ?_
    | with_reducible refine Ok_mth ?_ | with_reducible refine Ok_dct ?_ | with_reducible refine Ok_okI ?_ | with_reducible refine Ok_bnd ?_
    | ((with_reducible refine Ok_ift ?_ ?_); (exact rfl)) | ((with_reducible refine Ok_iff ?_ ?_); (exact rfl))
    | refine Exists.intro _ (And.intro rfl ?_) | refine Exists.intro _ (Exists.intro _ (And.intro rfl (And.intro (show List.length _ ≤ _ by first | decide | simp) ?_))))
    refine fin_p (Nat.le_of_eq List.length_set) ?_
    exact ⟨_, rfl, Int.emod_nonneg _ (by omega), Int.emod_lt_of_pos _ h0, hM.put _ _ _ hc0 (by omega)⟩
  · repeat' (first
    | ((with_reducible apply Ok_var); (exact rfl))
    | with_reducible refine Ok_cons ?_ | with_reducible refine Ok_nil ?_ | with_reducible refine Ok_asg ?_ | with_reducible refine Ok_ret ?_ | with_reducible refine Ok_sub ?_ | with_reducible refine Ok_ife ?_
    | with_reducible refine Ok_expr ?_ | with_reducible refine Go_nx ?_ | with_reducible refine Go_rt ?_ | with_reducible refine Ok_cst ?_ | with_reducible refine Ok_bin ?_ | with_reducible refine Ok_idx ?_
    | with_reducible refine Ok_cmp ?_ | with_reducible refine Ok_chn ?_ | with_reducible refine Ok_and ?_ | with_reducible refine Ok_or ?_ | with_reducible refine Ok_not ?_ | with_reducible refine Ok_blt ?_
    | with_reducible refine Ok_callE ?_ | with_reducible refine Ok_slc ?_ | with_reducible refine Ok_ifx ?_ | with_reducible refine Ok_neg ?_ | with_reducible refine Ok_esc ?_ | with_reducible refine Ok_esn ?_
    | with_reducible refine Ok_ono ?_ | with_reducible refine Ok_oye ?_ | with_reducible refine Ok_cno ?_ | with_reducible refine Ok_cye ?_ | with_reducible refine Ok_tup ?_ | with_reducible refine Ok_lst ?_
    | with_reducible refine Ok_toB ?_ | with_reducible refine Ok_isB ?_ | with_reducible refine Ok_lt ?_ | with_reducible refine Ok_le ?_ | with_reducible refine Ok_gt ?_ | with_reducible refine Ok_ge ?_
    | with_reducible refine Ok_add ?_ | with_reducible refine Ok_sb ?_ | with_reducible refine Ok_lenS ?_ | with_reducible refine Ok_lenT ?_ | with_reducible refine Ok_lenL ?_ | with_reducible refine Ok_min ?_
    | with_reducible refine Ok_max ?_ | with_reducible refine Ok_tuL ?_ | with_reducible refine Ok_liT ?_ | with_reducible refine Ok_isi ?_ | with_reducible refine Ok_allF ?_ | with_reducible refine Ok_allT ?_
    | with_reducible refine Ok_slT ?_ | with_reducible refine Ok_comp ?_ | with_reducible refine Ok_seq ?_ | with_reducible refine Ok_rev ?_ | with_reducible refine Ok_rvT ?_ | with_reducible refine Ok_rvL ?_
    | with_reducible refine Ok_isN ?_ | with_reducible refine Ok_isNN ?_ | with_reducible refine Ok_eqI ?_ | with_reducible refine Ok_neI ?_ | with_reducible refine Ok_par ?_ | with_reducible refine Ok_asgT ?_
    | with_reducible refine Ok_mth ?_ | with_reducible refine Ok_dct ?_ | with_reducible refine Ok_okI ?_ | with_reducible refine Ok_bnd ?_
    | ((with_reducible refine Ok_ift ?_ ?_); (exact rfl)) | ((with_reducible refine Ok_iff ?_ ?_); (exact rfl))
    | refine Exists.intro _ (And.intro rfl ?_) | refine Exists.intro _ (Exists.intro _ (And.intro rfl (And.intro (show List.length _ ≤ _ by first | decide | simp) ?_))))
    refine Ok_ixR hp rfl ?_
    repeat' (first
    | ((with_reducible apply Ok_var); (exact rfl))
    | with_reducible refine Ok_cons ?_ | with_reducible refine Ok_nil ?_ | with_reducible refine Ok_asg ?_ | with_reducible refine Ok_ret ?_ | with_reducible refine Ok_sub ?_ | with_reducible refine Ok_ife ?_
    | with_reducible refine Ok_expr ?_ | with_reducible refine Go_nx ?_ | with_reducible refine Go_rt ?_ | with_reducible refine Ok_cst ?_ | with_reducible refine Ok_bin ?_ | with_reducible refine Ok_idx ?_
    | with_reducible refine Ok_cmp ?_ | with_reducible refine Ok_chn ?_ | with_reducible refine Ok_and ?_ | with_reducible refine Ok_or ?_ | with_reducible refine Ok_not ?_ | with_reducible refine Ok_blt ?_
    | with_reducible refine Ok_callE ?_ | with_reducible refine Ok_slc ?_ | with_reducible refine Ok_ifx ?_ | with_reducible refine Ok_neg ?_ | with_reducible refine Ok_esc ?_ | with_reducible refine Ok_esn ?_
    | with_reducible refine Ok_ono ?_ | with_reducible refine Ok_oye ?_ | with_reducible refine Ok_cno ?_ | with_reducible refine Ok_cye ?_ | with_reducible refine Ok_tup ?_ | with_reducible refine Ok_lst ?_
    | with_reducible refine Ok_toB ?_ | with_reducible refine Ok_isB ?_ | with_reducible refine Ok_lt ?_ | with_reducible refine Ok_le ?_ | with_reducible refine Ok_gt ?_ | with_reducible refine Ok_ge ?_
    | with_reducible refine Ok_add ?_ | with_reducible refine Ok_sb ?_ | with_reducible refine Ok_lenS ?_ | with_reducible refine Ok_lenT ?_ | with_reducible refine Ok_lenL ?_ | with_reducible refine Ok_min ?_
    | with_reducible refine Ok_max ?_ | with_reducible refine Ok_tuL ?_ | with_reducible refine Ok_liT ?_ | with_reducible refine Ok_isi ?_ | with_reducible refine Ok_allF ?_ | with_reducible refine Ok_allT ?_
    | with_reducible refine Ok_slT ?_ | with_reducible refine Ok_comp ?_ | with_reducible refine Ok_seq ?_ | with_reducible refine Ok_rev ?_ | with_reducible refine Ok_rvT ?_ | with_reducible refine Ok_rvL ?_
    | with_reducible refine Ok_isN ?_ | with_reducible refine Ok_isNN ?_ | with_reducible refine Ok_eqI ?_ | with_reducible refine Ok_neI ?_ | with_reducible refine Ok_par ?_ | with_reducible refine Ok_asgT ?_
    | with_reducible refine Ok_mth ?_ | with_reducible refine Ok_dct ?_ | with_reducible refine Ok_okI ?_ | with_reducible refine Ok_bnd ?_
    | ((with_reducible refine Ok_ift ?_ ?_); (exact rfl)) | ((with_reducible refine Ok_iff ?_ ?_); (exact rfl))
    | refine Exists.intro _ (And.intro rfl ?_) | refine Exists.intro _ (Exists.intro _ (And.intro rfl (And.intro (show List.length _ ≤ _ by first | decide | simp) ?_))))
    refine Ok_subR hp rfl ?_
    repeat' (first
    | ((with_reducible apply Ok_var); (exact rfl))
    | with_reducible refine Ok_cons ?_ | with_reducible refine Ok_nil ?_ | with_reducible refine Ok_asg ?_ | with_reducible refine Ok_ret ?_ | with_reducible refine Ok_sub ?_ | with_reducible refine Ok_ife ?_
    | with_reducible refine Ok_expr ?_ | with_reducible refine Go_nx ?_ | with_reducible refine Go_rt ?_ | with_reducible refine Ok_cst ?_ | with_reducible refine Ok_bin ?_ | with_reducible refine Ok_idx ?_
    | with_reducible refine Ok_cmp ?_ | with_reducible refine Ok_chn ?_ | with_reducible refine Ok_and ?_ | with_reducible refine Ok_or ?_ | with_reducible refine Ok_not ?_ | with_reducible refine Ok_blt ?_
    | with_reducible refine Ok_callE ?_ | with_reducible refine Ok_slc ?_ | with_reducible refine Ok_ifx ?_ | with_reducible refine Ok_neg ?_ | with_reducible refine Ok_esc ?_ | with_reducible refine Ok_esn ?_
    | with_reducible refine Ok_ono ?_ | with_reducible refine Ok_oye ?_ | with_reducible refine Ok_cno ?_ | with_reducible refine Ok_cye ?_ | with_reducible refine Ok_tup ?_ | with_reducible refine Ok_lst ?_
    | with_reducible refine Ok_toB ?_ | with_reducible refine Ok_isB ?_ | with_reducible refine Ok_lt ?_ | with_reducible refine Ok_le ?_ | with_reducible refine Ok_gt ?_ | with_reducible refine Ok_ge ?_
    | with_reducible refine Ok_add ?_ | with_reducible refine Ok_sb ?_ | with_reducible refine Ok_lenS ?_ | with_reducible refine Ok_lenT ?_ | with_reducible refine Ok_lenL ?_ | with_reducible refine Ok_min ?_
    | with_reducible refine Ok_max ?_ | with_reducible refine Ok_tuL ?_ | with_reducible refine Ok_liT ?_ | with_reducible refine Ok_isi ?_ | with_reducible refine Ok_allF ?_ | with_reducible refine Ok_allT ?_
    | with_reducible refine Ok_slT ?_ | with_reducible refine Ok_comp ?_ | with_reducible refine Ok_seq ?_ | with_reducible refine Ok_rev ?_ | with_reducible refine Ok_rvT ?_ | with_reducible refine Ok_rvL ?_
    | with_reducible refine Ok_isN ?_ | with_reducible refine Ok_isNN ?_ | with_reducible refine Ok_eqI ?_ | with_reducible refine Ok_neI ?_ | with_reducible refine Ok_par ?_ | with_reducible refine Ok_asgT ?_
    | with_reducible refine Ok_mth ?_ | with_reducible refine Ok_dct ?_ | with_reducible refine Ok_okI ?_ | with_reducible refine Ok_bnd ?_
    | ((with_reducible refine Ok_ift ?_ ?_); (exact rfl)) | ((with_reducible refine Ok_iff ?_ ?_); (exact rfl))
    | refine Exists.intro _ (And.intro rfl ?_) | refine Exists.intro _ (Exists.intro _ (And.intro rfl (And.intro (show List.length _ ≤ _ by first | decide | simp) ?_))))
    refine Ok_ixR (hq _ _ _) rfl ?_
    repeat' (first
    | ((with_reducible apply Ok_var); (exact rfl))
    | with_reducible refine Ok_cons ?_ | with_reducible refine Ok_nil ?_ | with_reducible refine Ok_asg ?_ | with_reducible refine Ok_ret ?_ | with_reducible refine Ok_sub ?_ | with_reducible refine Ok_ife ?_
    | with_reducible refine Ok_expr ?_ | with_reducible refine Go_nx ?_ | with_reducible refine Go_rt ?_ | with_reducible refine Ok_cst ?_ | with_reducible refine Ok_bin ?_ | with_reducible refine Ok_idx ?_
    | with_reducible refine Ok_cmp ?_ | with_reducible refine Ok_chn ?_ | with_reducible refine Ok_and ?_ | with_reducible refine Ok_or ?_ | with_reducible refine Ok_not ?_ | with_reducible refine Ok_blt ?_
    | with_reducible refine Ok_callE ?_ | with_reducible refine Ok_slc ?_ | with_reducible refine Ok_ifx ?_ | with_reducible refine Ok_neg ?_ | with_reducible refine Ok_esc ?_ | with_reducible refine Ok_esn ?_
    | with_reducible refine Ok_ono ?_ | with_reducible refine Ok_oye ?_ | with_reducible refine Ok_cno ?_ | with_reducible refine Ok_cye ?_ | with_reducible refine Ok_tup ?_ | with_reducible refine Ok_lst ?_
    | with_reducible refine Ok_toB ?_ | with_reducible refine Ok_isB ?_ | with_reducible refine Ok_lt ?_ | with_reducible refine Ok_le ?_ | with_reducible refine Ok_gt ?_ | with_reducible refine Ok_ge ?_
    | with_reducible refine Ok_add ?_ | with_reducible refine Ok_sb ?_ | with_reducible refine Ok_lenS ?_ | with_reducible refine Ok_lenT ?_ | with_reducible refine Ok_lenL ?_ | with_reducible refine Ok_min ?_
    | with_reducible refine Ok_max ?_ | with_reducible refine Ok_tuL ?_ | with_reducible refine Ok_liT ?_ | with_reducible refine Ok_isi ?_ | with_reducible refine Ok_allF ?_ | with_reducible refine Ok_allT ?_
    | with_reducible refine Ok_slT ?_ | with_reducible refine Ok_comp ?_ | with_reducible refine Ok_seq ?_ | with_reducible refine Ok_rev ?_ | with_reducible refine Ok_rvT ?_ | with_reducible refine Ok_rvL ?_
    | with_reducible refine Ok_isN ?_ | with_reducible refine Ok_isNN ?_ | with_reducible refine Ok_eqI ?_ | with_reducible refine Ok_neI ?_ | with_reducible refine Ok_par ?_ | with_reducible refine Ok_asgT ?_
    | with_reducible refine Ok_mth ?_ | with_reducible refine Ok_dct ?_ | with_reducible refine Ok_okI ?_ | with_reducible refine Ok_bnd ?_
    | ((with_reducible refine Ok_ift ?_ ?_); (exact rfl)) | ((with_reducible refine Ok_iff ?_ ?_); (exact rfl))
    | refine Exists.intro _ (And.intro rfl ?_) | refine Exists.intro _ (Exists.intro _ (And.intro rfl (And.intro (show List.length _ ≤ _ by first | decide | simp) ?_))))
    refine Ok_ixR (hq _ _ _) rfl ?_
    repeat' (first
    | ((with_reducible apply Ok_var); (exact rfl))
    | with_reducible refine Ok_cons ?_ | with_reducible refine Ok_nil ?_ | with_reducible refine Ok_asg ?_ | with_reducible refine Ok_ret ?_ | with_reducible refine Ok_sub ?_ | with_reducible refine Ok_ife ?_
    | with_reducible refine Ok_expr ?_ | with_reducible refine Go_nx ?_ | with_reducible refine Go_rt ?_ | with_reducible refine Ok_cst ?_ | with_reducible refine Ok_bin ?_ | with_reducible refine Ok_idx ?_
    | with_reducible refine Ok_cmp ?_ | with_reducible refine Ok_chn ?_ | with_reducible refine Ok_and ?_ | with_reducible refine Ok_or ?_ | with_reducible refine Ok_not ?_ | with_reducible refine Ok_blt ?_
    | with_reducible refine Ok_callE ?_ | with_reducible refine Ok_slc ?_ | with_reducible refine Ok_ifx ?_ | with_reducible refine Ok_neg ?_ | with_reducible refine Ok_esc ?_ | with_reducible refine Ok_esn ?_
    | with_reducible refine Ok_ono ?_ | with_reducible refine Ok_oye ?_ | with_reducible refine Ok_cno ?_ | with_reducible refine Ok_cye ?_ | with_reducible refine Ok_tup ?_ | with_reducible refine Ok_lst ?_
    | with_reducible refine Ok_toB ?_ | with_reducible refine Ok_isB ?_ | with_reducible refine Ok_lt ?_ | with_reducible refine Ok_le ?_ | with_reducible refine Ok_gt ?_ | with_reducible refine Ok_ge ?_
    | with_reducible refine Ok_add ?_ | with_reducible refine Ok_sb ?_ | with_reducible refine Ok_lenS ?_ | with_reducible refine Ok_lenT ?_ | with_reducible refine Ok_lenL ?_ | with_reducible refine Ok_min ?_
    | with_reducible refine Ok_max ?_ | with_reducible refine Ok_tuL ?_ | with_reducible refine Ok_liT ?_ | with_reducible refine Ok_isi ?_ | with_reducible refine Ok_allF ?_ | with_reducible refine Ok_allT ?_
    | with_reducible refine Ok_slT ?_ | with_reducible refine Ok_comp ?_ | with_reducible refine Ok_seq ?_ | with_reducible refine Ok_rev ?_ | with_reducible refine Ok_rvT ?_ | with_reducible refine Ok_rvL ?_
    | with_reducible refine Ok_isN ?_ | with_reducible refine Ok_isNN ?_ | with_reducible refine Ok_eqI ?_ | with_reducible refine Ok_neI ?_ | with_reducible refine Ok_par ?_ | with_reducible refine Ok_asgT ?_
    | with_reducible refine Ok_mth ?_ | with_reducible refine Ok_dct ?_ | with_reducible refine Ok_okI ?_ | with_reducible refine Ok_bnd ?_
    | ((with_reducible refine Ok_ift ?_ ?_); (exact rfl)) | ((with_reducible refine Ok_iff ?_ ?_); (exact rfl))
    | refine Exists.intro _ (And.intro rfl ?_) | refine Exists.intro _ (Exists.intro _ (And.intro rfl (And.intro (show List.length _ ≤ _ by first | decide | simp) ?_))))
    refine Ok_mul (.inl (by omega)) ?_
    repeat' (first
    | ((with_reducible apply Ok_var); (exact rfl))
    | with_reducible refine Ok_cons ?_ | with_reducible refine Ok_nil ?_ | with_reducible refine Ok_asg ?_ | with_reducible refine Ok_ret ?_ | with_reducible refine Ok_sub ?_ | with_reducible refine Ok_ife ?_
    | with_reducible refine Ok_expr ?_ | with_reducible refine Go_nx ?_ | with_reducible refine Go_rt ?_ | with_reducible refine Ok_cst ?_ | with_reducible refine Ok_bin ?_ | with_reducible refine Ok_idx ?_
    | with_reducible refine Ok_cmp ?_ | with_reducible refine Ok_chn ?_ | with_reducible refine Ok_and ?_ | with_reducible refine Ok_or ?_ | with_reducible refine Ok_not ?_ | with_reducible refine Ok_blt ?_
    | with_reducible refine Ok_callE ?_ | with_reducible refine Ok_slc ?_ | with_reducible refine Ok_ifx ?_ | with_reducible refine Ok_neg ?_ | with_reducible refine Ok_esc ?_ | with_reducible refine Ok_esn ?_
    | with_reducible refine Ok_ono ?_ | with_reducible refine Ok_oye ?_ | with_reducible refine Ok_cno ?_ | with_reducible refine Ok_cye ?_ | with_reducible refine Ok_tup ?_ | with_reducible refine Ok_lst ?_
    | with_reducible refine Ok_toB ?_ | with_reducible refine Ok_isB ?_ | with_reducible refine Ok_lt ?_ | with_reducible refine Ok_le ?_ | with_reducible refine Ok_gt ?_ | with_reducible refine Ok_ge ?_
    | with_reducible refine Ok_add ?_ | with_reducible refine Ok_sb ?_ | with_reducible refine Ok_lenS ?_ | with_reducible refine Ok_lenT ?_ | with_reducible refine Ok_lenL ?_ | with_reducible refine Ok_min ?_
    | with_reducible refine Ok_max ?_ | with_reducible refine Ok_tuL ?_ | with_reducible refine Ok_liT ?_ | with_reducible refine Ok_isi ?_ | with_reducible refine Ok_allF ?_ | with_reducible refine Ok_allT ?_
    | with_reducible refine Ok_slT ?_ | with_reducible refine Ok_comp ?_ | with_reducible refine Ok_seq ?_ | with_reducible refine Ok_rev ?_ | with_reducible refine Ok_rvT ?_ | with_reducible refine Ok_rvL ?_
    | with_reducible refine Ok_isN ?_ | with_reducible refine Ok_isNN ?_ | with_reducible refine Ok_eqI ?_ | with_reducible refine Ok_neI ?_ | with_reducible refine Ok_par ?_ | with_reducible refine Ok_asgT ?_
    | with_reducible refine Ok_mth ?_ | with_reducible refine Ok_dct ?_ | with_reducible refine Ok_okI ?_ | with_reducible refine Ok_bnd ?_
    | ((with_reducible refine Ok_ift ?_ ?_); (exact rfl)) | ((with_reducible refine Ok_iff ?_ ?_); (exact rfl))
    | refine Exists.intro _ (And.intro rfl ?_) | refine Exists.intro _ (Exists.intro _ (And.intro rfl (And.intro (show List.length _ ≤ _ by first | decide | simp) ?_))))
    refine Ok_ixR (hq _ _ _) rfl ?_
    repeat' (first
    | ((with_reducible apply Ok_var); (exact rfl))
    | with_reducible refine Ok_cons ?_ | with_reducible refine Ok_nil ?_ | with_reducible refine Ok_asg ?_ | with_reducible refine Ok_ret ?_ | with_reducible refine Ok_sub ?_ | with_reducible refine Ok_ife ?_
    | with_reducible refine Ok_expr ?_ | with_reducible refine Go_nx ?_ | with_reducible refine Go_rt ?_ | with_reducible refine Ok_cst ?_ | with_reducible refine Ok_bin ?_ | with_reducible refine Ok_idx ?_
    | with_reducible refine Ok_cmp ?_ | with_reducible refine Ok_chn ?_ | with_reducible refine Ok_and ?_ | with_reducible refine Ok_or ?_ | with_reducible refine Ok_not ?_ | with_reducible refine Ok_blt ?_
    | with_reducible refine Ok_callE ?_ | with_reducible refine Ok_slc ?_ | with_reducible refine Ok_ifx ?_ | with_reducible refine Ok_neg ?_ | with_reducible refine Ok_esc ?_ | with_reducible refine Ok_esn ?_
    | with_reducible refine Ok_ono ?_ | with_reducible refine Ok_oye ?_ | with_reducible refine Ok_cno ?_ | with_reducible refine Ok_cye ?_ | with_reducible refine Ok_tup ?_ | with_reducible refine Ok_lst ?_
    | with_reducible refine Ok_toB ?_ | with_reducible refine Ok_isB ?_ | with_reducible refine Ok_lt ?_ | with_reducible refine Ok_le ?_ | with_reducible refine Ok_gt ?_ | with_reducible refine Ok_ge ?_
    | with_reducible refine Ok_add ?_ | with_reducible refine Ok_sb ?_ | with_reducible refine Ok_lenS ?_ | with_reducible refine Ok_lenT ?_ | with_reducible refine Ok_lenL ?_ | with_reducible refine Ok_min ?_
    | with_reducible refine Ok_max ?_ | with_reducible refine Ok_tuL ?_ | with_reducible refine Ok_liT ?_ | with_reducible refine Ok_isi ?_ | with_reducible refine Ok_allF ?_ | with_reducible refine Ok_allT ?_
    | with_reducible refine Ok_slT ?_ | with_reducible refine Ok_comp ?_ | with_reducible refine Ok_seq ?_ | with_reducible refine Ok_rev ?_ | with_reducible refine Ok_rvT ?_ | with_reducible refine Ok_rvL ?_
    | with_reducible refine Ok_isN ?_ | with_reducible refine Ok_isNN ?_ | with_reducible refine Ok_eqI ?_ | with_reducible refine Ok_neI ?_ | with_reducible refine Ok_par ?_ | with_reducible refine Ok_asgT ?_
    | with_reducible refine Ok_mth ?_ | with_reducible refine Ok_dct ?_ | with_reducible refine Ok_okI ?_ | with_reducible refine Ok_bnd ?_
    | ((with_reducible refine Ok_ift ?_ ?_); (exact rfl)) | ((with_reducible refine Ok_iff ?_ ?_); (exact rfl))
    | refine Exists.intro _ (And.intro rfl ?_) | refine Exists.intro _ (Exists.intro _ (And.intro rfl (And.intro (show List.length _ ≤ _ by first | decide | simp) ?_))))
    refine Ok_mul (.inl (by omega)) ?_
    repeat' (first
    | ((with_reducible apply Ok_var); (exact rfl))
    | with_reducible refine Ok_cons ?_ | with_reducible refine Ok_nil ?_ | with_reducible refine Ok_asg ?_ | with_reducible refine Ok_ret ?_ | with_reducible refine Ok_sub ?_ | with_reducible refine Ok_ife ?_
    | with_reducible refine Ok_expr ?_ | with_reducible refine Go_nx ?_ | with_reducible refine Go_rt ?_ | with_reducible refine Ok_cst ?_ | with_reducible refine Ok_bin ?_ | with_reducible refine Ok_idx ?_
    | with_reducible refine Ok_cmp ?_ | with_reducible refine Ok_chn ?_ | with_reducible refine Ok_and ?_ | with_reducible refine Ok_or ?_ | with_reducible refine Ok_not ?_ | with_reducible refine Ok_blt ?_
    | with_reducible refine Ok_callE ?_ | with_reducible refine Ok_slc ?_ | with_reducible refine Ok_ifx ?_ | with_reducible refine Ok_neg ?_ | with_reducible refine Ok_esc ?_ | with_reducible refine Ok_esn ?_
    | with_reducible refine Ok_ono ?_ | with_reducible refine Ok_oye ?_ | with_reducible refine Ok_cno ?_ | with_reducible refine Ok_cye ?_ | with_reducible refine Ok_tup ?_ | with_reducible refine Ok_lst ?_
    | with_reducible refine Ok_toB ?_ | with_reducible refine Ok_isB ?_ | with_reducible refine Ok_lt ?_ | with_reducible refine Ok_le ?_ | with_reducible refine Ok_gt ?_ | with_reducible refine Ok_ge ?_
    | with_reducible refine Ok_add ?_ | with_reducible refine Ok_sb ?_ | with_reducible refine Ok_lenS ?_ | with_reducible refine Ok_lenT ?_ | with_reducible refine Ok_lenL ?_ | with_reducible refine Ok_min ?_
    | with_reducible refine Ok_max ?_ | with_reducible refine Ok_tuL ?_ | with_reducible refine Ok_liT ?_ | with_reducible refine Ok_isi ?_ | with_reducible refine Ok_allF ?_ | with_reducible refine Ok_allT ?_
    | with_reducible refine Ok_slT ?_ | with_reducible refine Ok_comp ?_ | with_reducible refine Ok_seq ?_ | with_reducible refine Ok_rev ?_ | with_reducible refine Ok_rvT ?_ | with_reducible refine Ok_rvL ?_
    | with_reducible refine Ok_isN ?_ | with_reducible refine Ok_isNN ?_ | with_reducible refine Ok_eqI ?_ | with_reducible refine Ok_neI ?_ | with_reducible refine Ok_par ?_ | with_reducible refine Ok_asgT ?_
    | with_reducible refine Ok_mth ?_ | with_reducible refine Ok_dct ?_ | with_reducible refine Ok_okI ?_ | with_reducible refine Ok_bnd ?_
    | ((with_reducible refine Ok_ift ?_ ?_); (exact rfl)) | ((with_reducible refine Ok_iff ?_ ?_); (exact rfl))
    | refine Exists.intro _ (And.intro rfl ?_) | refine Exists.intro _ (Exists.intro _ (And.intro rfl (And.intro (show List.length _ ≤ _ by first | decide | simp) ?_))))
    refine Ok_mul (.inr (by omega)) ?_
    repeat' (first
    | ((with_reducible apply Ok_var); (exact rfl))
    | with_reducible refine Ok_cons ?_ | with_reducible refine Ok_nil ?_ | with_reducible refine Ok_asg ?_ | with_reducible refine Ok_ret ?_ | with_reducible refine Ok_sub ?_ | with_reducible refine Ok_ife ?_
    | with_reducible refine Ok_expr ?_ | with_reducible refine Go_nx ?_ | with_reducible refine Go_rt ?_ | with_reducible refine Ok_cst ?_ | with_reducible refine Ok_bin ?_ | with_reducible refine Ok_idx ?_
    | with_reducible refine Ok_cmp ?_ | with_reducible refine Ok_chn ?_ | with_reducible refine Ok_and ?_ | with_reducible refine Ok_or ?_ | with_reducible refine Ok_not ?_ | with_reducible refine Ok_blt ?_
    | with_reducible refine Ok_callE ?_ | with_reducible refine Ok_slc ?_ | with_reducible refine Ok_ifx ?_ | with_reducible refine Ok_neg ?_ | with_reducible refine Ok_esc ?_ | with_reducible refine Ok_esn ?_
    | with_reducible refine Ok_ono ?_ | with_reducible refine Ok_oye ?_ | with_reducible refine Ok_cno ?_ | with_reducible refine Ok_cye ?_ | with_reducible refine Ok_tup ?_ | with_reducible refine Ok_lst ?_
    | with_reducible refine Ok_toB ?_ | with_reducible refine Ok_isB ?_ | with_reducible refine Ok_lt ?_ | with_reducible refine Ok_le ?_ | with_reducible refine Ok_gt ?_ | with_reducible refine Ok_ge ?_
    | with_reducible refine Ok_add ?_ | with_reducible refine Ok_sb ?_ | with_reducible refine Ok_lenS ?_ | with_reducible refine Ok_lenT ?_ | with_reducible refine Ok_lenL ?_ | with_reducible refine Ok_min ?_
    | with_reducible refine Ok_max ?_ | with_reducible refine Ok_tuL ?_ | with_reducible refine Ok_liT ?_ | with_reducible refine Ok_isi ?_ | with_reducible refine Ok_allF ?_ | with_reducible refine Ok_allT ?_
    | with_reducible refine Ok_slT ?_ | with_reducible refine Ok_comp ?_ | with_reducible refine Ok_seq ?_ | with_reducible refine Ok_rev ?_ | with_reducible refine Ok_rvT ?_ | with_reducible refine Ok_rvL ?_
    | with_reducible refine Ok_isN ?_ | with_reducible refine Ok_isNN ?_ | with_reducible refine Ok_eqI ?_ | with_reducible refine Ok_neI ?_ | with_reducible refine Ok_par ?_ | with_reducible refine Ok_asgT ?_
    | with_reducible refine Ok_mth ?_ | with_reducible refine Ok_dct ?_ | with_reducible refine Ok_okI ?_ | with_reducible refine Ok_bnd ?_
    | ((with_reducible refine Ok_ift ?_ ?_); (exact rfl)) | ((with_reducible refine Ok_iff ?_ ?_); (exact rfl))
    | refine Exists.intro _ (And.intro rfl ?_) | refine Exists.intro _ (Exists.intro _ (And.intro rfl (And.intro (show List.length _ ≤ _ by first | decide | simp) ?_))))
    refine Ok_mod (by omega) ?_
    repeat' (first
    | ((with_reducible apply Ok_var); (exact rfl))
    | with_reducible refine Ok_cons ?_ | with_reducible refine Ok_nil ?_ | with_reducible refine Ok_asg ?_ | with_reducible refine Ok_ret ?_ | with_reducible refine Ok_sub ?_ | with_reducible refine Ok_ife ?_
    | with_reducible refine Ok_expr ?_ | with_reducible refine Go_nx ?_ | with_reducible refine Go_rt ?_ | with_reducible refine Ok_cst ?_ | with_reducible refine Ok_bin ?_ | with_reducible refine Ok_idx ?_
    | with_reducible refine Ok_cmp ?_ | with_reducible refine Ok_chn ?_ | with_reducible refine Ok_and ?_ | with_reducible refine Ok_or ?_ | with_reducible refine Ok_not ?_ | with_reducible refine Ok_blt ?_
    | with_reducible refine Ok_callE ?_ | with_reducible refine Ok_slc ?_ | with_reducible refine Ok_ifx ?_ | with_reducible refine Ok_neg ?_ | with_reducible refine Ok_esc ?_ | with_reducible refine Ok_esn ?_
    | with_reducible refine Ok_ono ?_ | with_reducible refine Ok_oye ?_ | with_reducible refine Ok_cno ?_ | with_reducible refine Ok_cye ?_ | with_reducible refine Ok_tup ?_ | with_reducible refine Ok_lst ?_
    | with_reducible refine Ok_toB ?_ | with_reducible refine Ok_isB ?_ | with_reducible refine Ok_lt ?_ | with_reducible refine Ok_le ?_ | with_reducible refine Ok_gt ?_ | with_reducible refine Ok_ge ?_
    | with_reducible refine Ok_add ?_ | with_reducible refine Ok_sb ?_ | with_reducible refine Ok_lenS ?_ | with_reducible refine Ok_lenT ?_ | with_reducible refine Ok_lenL ?_ | with_reducible refine Ok_min ?_
    | with_reducible refine Ok_max ?_ | with_reducible refine Ok_tuL ?_ | with_reducible refine Ok_liT ?_ | with_reducible refine Ok_isi ?_ | with_reducible refine Ok_allF ?_ | with_reducible refine Ok_allT ?_
    | with_reducible refine Ok_slT ?_ | with_reducible refine Ok_comp ?_ | with_reducible refine Ok_seq ?_ | with_reducible refine Ok_rev ?_ | with_reducible refine Ok_rvT ?_ | with_reducible refine Ok_rvL ?_
    | with_reducible refine Ok_isN ?_ | with_reducible refine Ok_isNN ?_ | with_reducible refine Ok_eqI ?_ | with_reducible refine Ok_neI ?_ | with_reducible refine Ok_par ?_ | with_reducible refine Ok_asgT ?_
    | with_reducible refine Ok_mth ?_ | with_reducible refine Ok_dct ?_ | with_reducible refine Ok_okI ?_ | with_reducible refine Ok_bnd ?_
    | ((with_reducible refine Ok_ift ?_ ?_); (exact rfl)) | ((with_reducible refine Ok_iff ?_ ?_); (exact rfl))
    | refine Exists.intro _ (And.intro rfl ?_) | refine Exists.intro _ (Exists.intro _ (And.intro rfl (And.intro (show List.length _ ≤ _ by first | decide | simp) ?_))))
    refine Ok_mul (.inr (by omega)) ?_
    repeat' (first
    | ((with_reducible apply Ok_var); (exact rfl))
    | with_reducible refine Ok_cons ?_ | with_reducible refine Ok_nil ?_ | with_reducible refine Ok_asg ?_ | with_reducible refine Ok_ret ?_ | with_reducible refine Ok_sub ?_ | with_reducible refine Ok_ife ?_
    | with_reducible refine Ok_expr ?_ | with_reducible refine Go_nx ?_ | with_reducible refine Go_rt ?_ | with_reducible refine Ok_cst ?_ | with_reducible refine Ok_bin ?_ | with_reducible refine Ok_idx ?_
    | with_reducible refine Ok_cmp ?_ | with_reducible refine Ok_chn ?_ | with_reducible refine Ok_and ?_ | with_reducible refine Ok_or ?_ | with_reducible refine Ok_not ?_ | with_reducible refine Ok_blt ?_
    | with_reducible refine Ok_callE ?_ | with_reducible refine Ok_slc ?_ | with_reducible refine Ok_ifx ?_ | with_reducible refine Ok_neg ?_ | with_reducible refine Ok_esc ?_ | with_reducible refine Ok_esn ?_
    | with_reducible refine Ok_ono ?_ | with_reducible refine Ok_oye ?_ | with_reducible refine Ok_cno ?_ | with_reducible refine Ok_cye ?_ | with_reducible refine Ok_tup ?_ | with_reducible refine Ok_lst ?_
    | with_reducible refine Ok_toB ?_ | with_reducible refine Ok_isB ?_ | with_reducible refine Ok_lt ?_ | with_reducible refine Ok_le ?_ | with_reducible refine Ok_gt ?_ | with_reducible refine Ok_ge ?_
    | with_reducible refine Ok_add ?_ | with_reducible refine Ok_sb ?_ | with_reducible refine Ok_lenS ?_ | with_reducible refine Ok_lenT ?_ | with_reducible refine Ok_lenL ?_ | with_reducible refine Ok_min ?_
    | with_reducible refine Ok_max ?_ | with_reducible refine Ok_tuL ?_ | with_reducible refine Ok_liT ?_ | with_reducible refine Ok_isi ?_ | with_reducible refine Ok_allF ?_ | with_reducible refine Ok_allT ?_
    | with_reducible refine Ok_slT ?_ | with_reducible refine Ok_comp ?_ | with_reducible refine Ok_seq ?_ | with_reducible refine Ok_rev ?_ | with_reducible refine Ok_rvT ?_ | with_reducible refine Ok_rvL ?_
    | with_reducible refine Ok_isN ?_ | with_reducible refine Ok_isNN ?_ | with_reducible refine Ok_eqI ?_ | with_reducible refine Ok_neI ?_ | with_reducible refine Ok_par ?_ | with_reducible refine Ok_asgT ?_
    | with_reducible refine Ok_mth ?_ | with_reducible refine Ok_dct ?_ | with_reducible refine Ok_okI ?_ | with_reducible refine Ok_bnd ?_
    | ((with_reducible refine Ok_ift ?_ ?_); (exact rfl)) | ((with_reducible refine Ok_iff ?_ ?_); (exact rfl))
    | refine Exists.intro _ (And.intro rfl ?_) | refine Exists.intro _ (Exists.intro _ (And.intro rfl (And.intro (show List.length _ ≤ _ by first | decide | simp) ?_))))
    refine Ok_ixR (hq _ _ _) rfl ?_
    repeat' (first
    | ((with_reducible apply Ok_var); (exact rfl))
    | with_reducible refine Ok_cons ?_ | with_reducible refine Ok_nil ?_ | with_reducible refine Ok_asg ?_ | with_reducible refine Ok_ret ?_ | with_reducible refine Ok_sub ?_ | with_reducible refine Ok_ife ?_
    | with_reducible refine Ok_expr ?_ | with_reducible refine Go_nx ?_ | with_reducible refine Go_rt ?_ | with_reducible refine Ok_cst ?_ | with_reducible refine Ok_bin ?_ | with_reducible refine Ok_idx ?_
    | with_reducible refine Ok_cmp ?_ | with_reducible refine Ok_chn ?_ | with_reducible refine Ok_and ?_ | with_reducible refine Ok_or ?_ | with_reducible refine Ok_not ?_ | with_reducible refine Ok_blt ?_
    | with_reducible refine Ok_callE ?_ | with_reducible refine Ok_slc ?_ | with_reducible refine Ok_ifx ?_ | with_reducible refine Ok_neg ?_ | with_reducible refine Ok_esc ?_ | with_reducible refine Ok_esn ?_
    | with_reducible refine Ok_ono ?_ | with_reducible refine Ok_oye ?_ | with_reducible refine Ok_cno ?_ | with_reducible refine Ok_cye ?_ | with_reducible refine Ok_tup ?_ | with_reducible refine Ok_lst ?_
    | with_reducible refine Ok_toB ?_ | with_reducible refine Ok_isB ?_ | with_reducible refine Ok_lt ?_ | with_reducible refine Ok_le ?_ | with_reducible refine Ok_gt ?_ | with_reducible refine Ok_ge ?_
    | with_reducible refine Ok_add ?_ | with_reducible refine Ok_sb ?_ | with_reducible refine Ok_lenS ?_ | with_reducible refine Ok_lenT ?_ | with_reducible refine Ok_lenL ?_ | with_reducible refine Ok_min ?_
    | with_reducible refine Ok_max ?_ | with_reducible refine Ok_tuL ?_ | with_reducible refine Ok_liT ?_ | with_reducible refine Ok_isi ?_ | with_reducible refine Ok_allF ?_ | with_reducible refine Ok_allT ?_
    | with_reducible refine Ok_slT ?_ | with_reducible refine Ok_comp ?_ | with_reducible refine Ok_seq ?_ | with_reducible refine Ok_rev ?_ | with_reducible refine Ok_rvT ?_ | with_reducible refine Ok_rvL ?_
    | with_reducible refine Ok_isN ?_ | with_reducible refine Ok_isNN ?_ | with_reducible refine Ok_eqI ?_ | with_reducible refine Ok_neI ?_ | with_reducible refine Ok_par ?_ | with_reducible refine Ok_asgT ?_
    | with_reducible refine Ok_mth ?_ | with_reducible refine Ok_dct ?_ | with_reducible refine Ok_okI ?_ | with_reducible refine Ok_bnd ?_
    | ((with_reducible refine Ok_ift ?_ ?_); (exact rfl)) | ((with_reducible refine Ok_iff ?_ ?_); (exact rfl))
    | refine Exists.intro _ (And.intro rfl ?_) | refine Exists.intro _ (Exists.intro _ (And.intro rfl (And.intro (show List.length _ ≤ _ by first | decide | simp) ?_))))
    refine Ok_mul (.inl (by omega)) ?_
    repeat' (first
    | ((with_reducible apply Ok_var); (exact rfl))
    | with_reducible refine Ok_cons ?_ | with_reducible refine Ok_nil ?_ | with_reducible refine Ok_asg ?_ | with_reducible refine Ok_ret ?_ | with_reducible refine Ok_sub ?_ | with_reducible refine Ok_ife ?_
    | with_reducible refine Ok_expr ?_ | with_reducible refine Go_nx ?_ | with_reducible refine Go_rt ?_ | with_reducible refine Ok_cst ?_ | with_reducible refine Ok_bin ?_ | with_reducible refine Ok_idx ?_
    | with_reducible refine Ok_cmp ?_ | with_reducible refine Ok_chn ?_ | with_reducible refine Ok_and ?_ | with_reducible refine Ok_or ?_ | with_reducible refine Ok_not ?_ | with_reducible refine Ok_blt ?_
    | with_reducible refine Ok_callE ?_ | with_reducible refine Ok_slc ?_ | with_reducible refine Ok_ifx ?_ | with_reducible refine Ok_neg ?_ | with_reducible refine Ok_esc ?_ | with_reducible refine Ok_esn ?_
    | with_reducible refine Ok_ono ?_ | with_reducible refine Ok_oye ?_ | with_reducible refine Ok_cno ?_ | with_reducible refine Ok_cye ?_ | with_reducible refine Ok_tup ?_ | with_reducible refine Ok_lst ?_
    | with_reducible refine Ok_toB ?_ | with_reducible refine Ok_isB ?_ | with_reducible refine Ok_lt ?_ | with_reducible refine Ok_le ?_ | with_reducible refine Ok_gt ?_ | with_reducible refine Ok_ge ?_
    | with_reducible refine Ok_add ?_ | with_reducible refine Ok_sb ?_ | with_reducible refine Ok_lenS ?_ | with_reducible refine Ok_lenT ?_ | with_reducible refine Ok_lenL ?_ | with_reducible refine Ok_min ?_
    | with_reducible refine Ok_max ?_ | with_reducible refine Ok_tuL ?_ | with_reducible refine Ok_liT ?_ | with_reducible refine Ok_isi ?_ | with_reducible refine Ok_allF ?_ | with_reducible refine Ok_allT ?_
    | with_reducible refine Ok_slT ?_ | with_reducible refine Ok_comp ?_ | with_reducible refine Ok_seq ?_ | with_reducible refine Ok_rev ?_ | with_reducible refine Ok_rvT ?_ | with_reducible refine Ok_rvL ?_
    | with_reducible refine Ok_isN ?_ | with_reducible refine Ok_isNN ?_ | with_reducible refine Ok_eqI ?_ | with_reducible refine Ok_neI ?_ | with_reducible refine Ok_par ?_ | with_reducible refine Ok_asgT ?_
    | with_reducible refine Ok_mth ?_ | with_reducible refine Ok_dct ?_ | with_reducible refine Ok_okI ?_ | with_reducible refine Ok_bnd ?_
    | ((with_reducible refine Ok_ift ?_ ?_); (exact rfl)) | ((with_reducible refine Ok_iff ?_ ?_); (exact rfl))
    | refine Exists.intro _ (And.intro rfl ?_) | refine Exists.intro _ (Exists.intro _ (And.intro rfl (And.intro (show List.length _ ≤ _ by first | decide | simp) ?_))))
    refine Ok_mod (by omega) ?_
    repeat' (first
    | ((with_reducible apply Ok_var); (exact rfl))
    | with_reducible refine Ok_cons ?_ | with_reducible refine Ok_nil ?_ | with_reducible refine Ok_asg ?_ | with_reducible refine Ok_ret ?_ | with_reducible refine Ok_sub ?_ | with_reducible refine Ok_ife ?_
    | with_reducible refine Ok_expr ?_ | with_reducible refine Go_nx ?_ | with_reducible refine Go_rt ?_ | with_reducible refine Ok_cst ?_ | with_reducible refine Ok_bin ?_ | with_reducible refine Ok_idx ?_
    | with_reducible refine Ok_cmp ?_ | with_reducible refine Ok_chn ?_ | with_reducible refine Ok_and ?_ | with_reducible refine Ok_or ?_ | with_reducible refine Ok_not ?_ | with_reducible refine Ok_blt ?_
    | with_reducible refine Ok_callE ?_ | with_reducible refine Ok_slc ?_ | with_reducible refine Ok_ifx ?_ | with_reducible refine Ok_neg ?_ | with_reducible refine Ok_esc ?_ | with_reducible refine Ok_esn ?_
    | with_reducible refine Ok_ono ?_ | with_reducible refine Ok_oye ?_ | with_reducible refine Ok_cno ?_ | with_reducible refine Ok_cye ?_ | with_reducible refine Ok_tup ?_ | with_reducible refine Ok_lst ?_
    | with_reducible refine Ok_toB ?_ | with_reducible refine Ok_isB ?_ | with_reducible refine Ok_lt ?_ | with_reducible refine Ok_le ?_ | with_reducible refine Ok_gt ?_ | with_reducible refine Ok_ge ?_
    | with_reducible refine Ok_add ?_ | with_reducible refine Ok_sb ?_ | with_reducible refine Ok_lenS ?_ | with_reducible refine Ok_lenT ?_ | with_reducible refine Ok_lenL ?_ | with_reducible refine Ok_min ?_
    | with_reducible refine Ok_max ?_ | with_reducible refine Ok_tuL ?_ | with_reducible refine Ok_liT ?_ | with_reducible refine Ok_isi ?_ | with_reducible refine Ok_allF ?_ | with_reducible refine Ok_allT ?_
    | with_reducible refine Ok_slT ?_ | with_reducible refine Ok_comp ?_ | with_reducible refine Ok_seq ?_ | with_reducible refine Ok_rev ?_ | with_reducible refine Ok_rvT ?_ | with_reducible refine Ok_rvL ?_
    | with_reducible refine Ok_isN ?_ | with_reducible refine Ok_isNN ?_ | with_reducible refine Ok_eqI ?_ | with_reducible refine Ok_neI ?_ | with_reducible refine Ok_par ?_ | with_reducible refine Ok_asgT ?_
    | with_reducible refine Ok_mth ?_ | with_reducible refine Ok_dct ?_ | with_reducible refine Ok_okI ?_ | with_reducible refine Ok_bnd ?_
    | ((with_reducible refine Ok_ift ?_ ?_); (exact rfl)) | ((with_reducible refine Ok_iff ?_ ?_); (exact rfl))
    | refine Exists.intro _ (And.intro rfl ?_) | refine Exists.intro _ (Exists.intro _ (And.intro rfl (And.intro (show List.length _ ≤ _ by first | decide | simp) ?_))))
    refine Ok_mul (.inr (by omega)) ?_
    repeat' (first
    | ((with_reducible apply Ok_var); (exact rfl))
    | with_reducible refine Ok_cons ?_ | with_reducible refine Ok_nil ?_ | with_reducible refine Ok_asg ?_ | with_reducible refine Ok_ret ?_ | with_reducible refine Ok_sub ?_ | with_reducible refine Ok_ife ?_
    | with_reducible refine Ok_expr ?_ | with_reducible refine Go_nx ?_ | with_reducible refine Go_rt ?_ | with_reducible refine Ok_cst ?_ | with_reducible refine Ok_bin ?_ | with_reducible refine Ok_idx ?_
    | with_reducible refine Ok_cmp ?_ | with_reducible refine Ok_chn ?_ | with_reducible refine Ok_and ?_ | with_reducible refine Ok_or ?_ | with_reducible refine Ok_not ?_ | with_reducible refine Ok_blt ?_
    | with_reducible refine Ok_callE ?_ | with_reducible refine Ok_slc ?_ | with_reducible refine Ok_ifx ?_ | with_reducible refine Ok_neg ?_ | with_reducible refine Ok_esc ?_ | with_reducible refine Ok_esn ?_
    | with_reducible refine Ok_ono ?_ | with_reducible refine Ok_oye ?_ | with_reducible refine Ok_cno ?_ | with_reducible refine Ok_cye ?_ | with_reducible refine Ok_tup ?_ | with_reducible refine Ok_lst ?_
    | with_reducible refine Ok_toB ?_ | with_reducible refine Ok_isB ?_ | with_reducible refine Ok_lt ?_ | with_reducible refine Ok_le ?_ | with_reducible refine Ok_gt ?_ | with_reducible refine Ok_ge ?_
    | with_reducible refine Ok_add ?_ | with_reducible refine Ok_sb ?_ | with_reducible refine Ok_lenS ?_ | with_reducible refine Ok_lenT ?_ | with_reducible refine Ok_lenL ?_ | with_reducible refine Ok_min ?_
    | with_reducible refine Ok_max ?_ | with_reducible refine Ok_tuL ?_ | with_reducible refine Ok_liT ?_ | with_reducible refine Ok_isi ?_ | with_reducible refine Ok_allF ?_ | with_reducible refine Ok_allT ?_
    | with_reducible refine Ok_slT ?_ | with_reducible refine Ok_comp ?_ | with_reducible refine Ok_seq ?_ | with_reducible refine Ok_rev ?_ | with_reducible refine Ok_rvT ?_ | with_reducible refine Ok_rvL ?_
    | with_reducible refine Ok_isN ?_ | with_reducible refine Ok_isNN ?_ | with_reducible refine Ok_eqI ?_ | with_reducible refine Ok_neI ?_ | with_reducible refine Ok_par ?_ | with_reducible refine Ok_asgT ?_
    | with_reducible refine Ok_mth ?_ | with_reducible refine Ok_dct ?_ | with_reducible refine Ok_okI ?_ | with_reducible refine Ok_bnd ?_
    | ((with_reducible refine Ok_ift ?_ ?_); (exact rfl)) | ((with_reducible refine Ok_iff ?_ ?_); (exact rfl))
    | refine Exists.intro _ (And.intro rfl ?_) | refine Exists.intro _ (Exists.intro _ (And.intro rfl (And.intro (show List.length _ ≤ _ by first | decide | simp) ?_))))
    refine Ok_mod (by omega) ?_
    repeat' (first
    | ((with_reducible apply Ok_var); (exact rfl))
    | with_reducible refine Ok_cons ?_ | with_reducible refine Ok_nil ?_ | with_reducible refine Ok_asg ?_ | with_reducible refine Ok_ret ?_ | with_reducible refine Ok_sub ?_ | with_reducible refine Ok_ife ?_
    | with_reducible refine Ok_expr ?_ | with_reducible refine Go_nx ?_ | with_reducible refine Go_rt ?_ | with_reducible refine Ok_cst ?_ | with_reducible refine Ok_bin ?_ | with_reducible refine Ok_idx ?_
    | with_reducible refine Ok_cmp ?_ | with_reducible refine Ok_chn ?_ | with_reducible refine Ok_and ?_ | with_reducible refine Ok_or ?_ | with_reducible refine Ok_not ?_ | with_reducible refine Ok_blt ?_
    | with_reducible refine Ok_callE ?_ | with_reducible refine Ok_slc ?_ | with_reducible refine Ok_ifx ?_ | with_reducible refine Ok_neg ?_ | with_reducible refine Ok_esc ?_ | with_reducible refine Ok_esn ?_
    | with_reducible refine Ok_ono ?_ | with_reducible refine Ok_oye ?_ | with_reducible refine Ok_cno ?_ | with_reducible refine Ok_cye ?_ | with_reducible refine Ok_tup ?_ | with_reducible refine Ok_lst ?_
    | with_reducible refine Ok_toB ?_ | with_reducible refine Ok_isB ?_ | with_reducible refine Ok_lt ?_ | with_reducible refine Ok_le ?_ | with_reducible refine Ok_gt ?_ | with_reducible refine Ok_ge ?_
    | with_reducible refine Ok_add ?_ | with_reducible refine Ok_sb ?_ | with_reducible refine Ok_lenS ?_ | with_reducible refine Ok_lenT ?_ | with_reducible refine Ok_lenL ?_ | with_reducible refine Ok_min ?_
    | with_reducible refine Ok_max ?_ | with_reducible refine Ok_tuL ?_ | with_reducible refine Ok_liT ?_ | with_reducible refine Ok_isi ?_ | with_reducible refine Ok_allF ?_ | with_reducible refine Ok_allT ?_
    | with_reducible refine Ok_slT ?_ | with_reducible refine Ok_comp ?_ | with_reducible refine Ok_seq ?_ | with_reducible refine Ok_rev ?_ | with_reducible refine Ok_rvT ?_ | with_reducible refine Ok_rvL ?_
    | with_reducible refine Ok_isN ?_ | with_reducible refine Ok_isNN ?_ | with_reducible refine Ok_eqI ?_ | with_reducible refine Ok_neI ?_ | with_reducible refine Ok_par ?_ | with_reducible refine Ok_asgT ?_
    | with_reducible refine Ok_mth ?_ | with_reducible refine Ok_dct ?_ | with_reducible refine Ok_okI ?_ | with_reducible refine Ok_bnd ?_
    | ((with_reducible refine Ok_ift ?_ ?_); (exact rfl)) | ((with_reducible refine Ok_iff ?_ ?_); (exact rfl))
    | refine Exists.intro _ (And.intro rfl ?_) | refine Exists.intro _ (Exists.intro _ (And.intro rfl (And.intro (show List.length _ ≤ _ by first | decide | simp) ?_))))
    refine Ok_fdv (by omega) ?_
    repeat' (first
    | ((with_reducible apply Ok_var); (exact rfl))
    | with_reducible refine Ok_cons ?_ | with_reducible refine Ok_nil ?_ | with_reducible refine Ok_asg ?_ | with_reducible refine Ok_ret ?_ | with_reducible refine Ok_sub ?_ | with_reducible refine Ok_ife ?_
    | with_reducible refine Ok_expr ?_ | with_reducible refine Go_nx ?_ | with_reducible refine Go_rt ?_ | with_reducible refine Ok_cst ?_ | with_reducible refine Ok_bin ?_ | with_reducible refine Ok_idx ?_
    | with_reducible refine Ok_cmp ?_ | with_reducible refine Ok_chn ?_ | with_reducible refine Ok_and ?_ | with_reducible refine Ok_or ?_ | with_reducible refine Ok_not ?_ | with_reducible refine Ok_blt ?_
    | with_reducible refine Ok_callE ?_ | with_reducible refine Ok_slc ?_ | with_reducible refine Ok_ifx ?_ | with_reducible refine Ok_neg ?_ | with_reducible refine Ok_esc ?_ | with_reducible refine Ok_esn ?_
    | with_reducible refine Ok_ono ?_ | with_reducible refine Ok_oye ?_ | with_reducible refine Ok_cno ?_ | with_reducible refine Ok_cye ?_ | with_reducible refine Ok_tup ?_ | with_reducible refine Ok_lst ?_
    | with_reducible refine Ok_toB ?_ | with_reducible refine Ok_isB ?_ | with_reducible refine Ok_lt ?_ | with_reducible refine Ok_le ?_ | with_reducible refine Ok_gt ?_ | with_reducible refine Ok_ge ?_
    | with_reducible refine Ok_add ?_ | with_reducible refine Ok_sb ?_ | with_reducible refine Ok_lenS ?_ | with_reducible refine Ok_lenT ?_ | with_reducible refine Ok_lenL ?_ | with_reducible refine Ok_min ?_
    | with_reducible refine Ok_max ?_ | with_reducible refine Ok_tuL ?_ | with_reducible refine Ok_liT ?_ | with_reducible refine Ok_isi ?_ | with_reducible refine Ok_allF ?_ | with_reducible refine Ok_allT ?_
    | with_reducible refine Ok_slT ?_ | with_reducible refine Ok_comp ?_ | with_reducible refine Ok_seq ?_ | with_reducible refine Ok_rev ?_ | with_reducible refine Ok_rvT ?_ | with_reducible refine Ok_rvL ?_
    | with_reducible refine Ok_isN ?_ | with_reducible refine Ok_isNN ?_ | with_reducible refine Ok_eqI ?_ | with_reducible refine Ok_neI ?_ | with_reducible refine Ok_par ?_ | with_reducible refine Ok_asgT ?_
    | with_reducible refine Ok_mth ?_ | with_reducible refine Ok_dct ?_ | with_reducible refine Ok_okI ?_ | with_reducible refine Ok_bnd ?_
    | ((with_reducible refine Ok_ift ?_ ?_); (exact rfl)) | ((with_reducible refine Ok_iff ?_ ?_); (exact rfl))
    | refine Exists.intro _ (And.intro rfl ?_) | refine Exists.intro _ (Exists.intro _ (And.intro rfl (And.intro (show List.length _ ≤ _ by first | decide | simp) ?_))))
    refine Ok_mod h0 ?_
    repeat' (first
    | ((with_reducible apply Ok_var); (exact rfl))
    | with_reducible refine Ok_cons ?_ | with_reducible refine Ok_nil ?_ | with_reducible refine Ok_asg ?_ | with_reducible refine Ok_ret ?_ | with_reducible refine Ok_sub ?_ | with_reducible refine Ok_ife ?_
    | with_reducible refine Ok_expr ?_ | with_reducible refine Go_nx ?_ | with_reducible refine Go_rt ?_ | with_reducible refine Ok_cst ?_ | with_reducible refine Ok_bin ?_ | with_reducible refine Ok_idx ?_
    | with_reducible refine Ok_cmp ?_ | with_reducible refine Ok_chn ?_ | with_reducible refine Ok_and ?_ | with_reducible refine Ok_or ?_ | with_reducible refine Ok_not ?_ | with_reducible refine Ok_blt ?_
    | with_reducible refine Ok_callE ?_ | with_reducible refine Ok_slc ?_ | with_reducible refine Ok_ifx ?_ | with_reducible refine Ok_neg ?_ | with_reducible refine Ok_esc ?_ | with_reducible refine Ok_esn ?_
    | with_reducible refine Ok_ono ?_ | with_reducible refine Ok_oye ?_ | with_reducible refine Ok_cno ?_ | with_reducible refine Ok_cye ?_ | with_reducible refine Ok_tup ?_ | with_reducible refine Ok_lst ?_
    | with_reducible refine Ok_toB ?_ | with_reducible refine Ok_isB ?_ | with_reducible refine Ok_lt ?_ | with_reducible refine Ok_le ?_ | with_reducible refine Ok_gt ?_ | with_reducible refine Ok_ge ?_
    | with_reducible refine Ok_add ?_ | with_reducible refine Ok_sb ?_ | with_reducible refine Ok_lenS ?_ | with_reducible refine Ok_lenT ?_ | with_reducible refine Ok_lenL ?_ | with_reducible refine Ok_min ?_
    | with_reducible refine Ok_max ?_ | with_reducible refine Ok_tuL ?_ | with_reducible refine Ok_liT ?_ | with_reducible refine Ok_isi ?_ | with_reducible refine Ok_allF ?_ | with_reducible refine Ok_allT ?_
    | with_reducible refine Ok_slT ?_ | with_reducible refine Ok_comp ?_ | with_reducible refine Ok_seq ?_ | with_reducible refine Ok_rev ?_ | with_reducible refine Ok_rvT ?_ | with_reducible refine Ok_rvL ?_
    | with_reducible refine Ok_isN ?_ | with_reducible refine Ok_isNN ?_ | with_reducible refine Ok_eqI ?_ | with_reducible refine Ok_neI ?_ | with_reducible refine Ok_par ?_ | with_reducible refine Ok_asgT ?_
    | with_reducible refine Ok_mth ?_ | with_reducible refine Ok_dct ?_ | with_reducible refine Ok_okI ?_ | with_reducible refine Ok_bnd ?_
    | ((with_reducible refine Ok_ift ?_ ?_); (exact rfl)) | ((with_reducible refine Ok_iff ?_ ?_); (exact rfl))
    | refine Exists.intro _ (And.intro rfl ?_) | refine Exists.intro _ (Exists.intro _ (And.intro rfl (And.intro (show List.length _ ≤ _ by first | decide | simp) ?_))))
    refine fin_p (Nat.le_of_eq List.length_set) ?_
    exact ⟨_, rfl, Int.emod_nonneg _ (by omega), Int.emod_lt_of_pos _ h0, hM.put _ _ _ (by omega) (by omega)⟩

theorem atI_in {α : Type} {xs : List α} {j : Int} (h0 : 0 ≤ j) (h1 : j < xs.length) : ∃ x, L2.atI xs j = some x ∧ x ∈ xs := by
  have h2 : j.toNat < xs.length := by omega
  refine ⟨xs[j.toNat], ?_, List.getElem_mem h2⟩
  have h3 := L2.atI_nat (List.getElem?_eq_getElem h2)
  rwa [show ((j.toNat : Nat) : Int) = j by omega] at h3
theorem cell_ok (hT : T 3 = some ⟨2, 2, true, bCell⟩) {M : Mem} {ns : List Int} {j : Int} (h0 : 0 ≤ j) :
    Ok (run T fuel (k + 1) 3 [.scr ns, .p (.int j)] M) (fun d N => ∃ r : Int, d = .p (.int r) ∧ N = M) := by
  refine Ok_call hT rfl ?_
  simp only [bCell, enter, List.map_cons, List.map_nil, List.replicate, List.cons_append, List.nil_append, Nat.sub_self, List.append_nil]
  repeat' (first
    | ((with_reducible apply Ok_var); (exact rfl))
    | with_reducible refine Ok_cons ?_ | with_reducible refine Ok_nil ?_ | with_reducible refine Ok_asg ?_ | with_reducible refine Ok_ret ?_ | with_reducible refine Ok_sub ?_ | with_reducible refine Ok_ife ?_
    | with_reducible refine Ok_expr ?_ | with_reducible refine Go_nx ?_ | with_reducible refine Go_rt ?_ | with_reducible refine Ok_cst ?_ | with_reducible refine Ok_bin ?_ | with_reducible refine Ok_idx ?_
    | with_reducible refine Ok_cmp ?_ | with_reducible refine Ok_chn ?_ | with_reducible refine Ok_and ?_ | with_reducible refine Ok_or ?_ | with_reducible refine Ok_not ?_ | with_reducible refine Ok_blt ?_
    | with_reducible refine Ok_callE ?_ | with_reducible refine Ok_slc ?_ | with_reducible refine Ok_ifx ?_ | with_reducible refine Ok_neg ?_ | with_reducible refine Ok_esc ?_ | with_reducible refine Ok_esn ?_
    | with_reducible refine Ok_ono ?_ | with_reducible refine Ok_oye ?_ | with_reducible refine Ok_cno ?_ | with_reducible refine Ok_cye ?_ | with_reducible refine Ok_tup ?_ | with_reducible refine Ok_lst ?_
    | with_reducible refine Ok_toB ?_ | with_reducible refine Ok_isB ?_ | with_reducible refine Ok_lt ?_ | with_reducible refine Ok_le ?_ | with_reducible refine Ok_gt ?_ | with_reducible refine Ok_ge ?_
    | with_reducible refine Ok_add ?_ | with_reducible refine Ok_sb ?_ | with_reducible refine Ok_lenS ?_ | with_reducible refine Ok_lenT ?_ | with_reducible refine Ok_lenL ?_ | with_reducible refine Ok_min ?_
    | with_reducible refine Ok_max ?_ | with_reducible refine Ok_tuL ?_ | with_reducible refine Ok_liT ?_ | with_reducible refine Ok_isi ?_ | with_reducible refine Ok_allF ?_ | with_reducible refine Ok_allT ?_
    | with_reducible refine Ok_slT ?_ | with_reducible refine Ok_comp ?_ | with_reducible refine Ok_seq ?_ | with_reducible refine Ok_rev ?_ | with_reducible refine Ok_rvT ?_ | with_reducible refine Ok_rvL ?_
    | with_reducible refine Ok_isN ?_ | with_reducible refine Ok_isNN ?_ | with_reducible refine Ok_eqI ?_ | with_reducible refine Ok_neI ?_ | with_reducible refine Ok_par ?_ | with_reducible refine Ok_asgT ?_
    | with_reducible refine Ok_mth ?_ | with_reducible refine Ok_dct ?_ | with_reducible refine Ok_okI ?_ | with_reducible refine Ok_bnd ?_
    | ((with_reducible refine Ok_ift ?_ ?_); (exact rfl)) | ((with_reducible refine Ok_iff ?_ ?_); (exact rfl))
    | refine Exists.intro _ (And.intro rfl ?_) | refine Exists.intro _ (Exists.intro _ (And.intro rfl (And.intro (show List.length _ ≤ _ by first | decide | simp) ?_))))
  refine Ok_if (fun ha => ?_) (fun ha => ?_)
  · obtain ⟨x, hx, _⟩ := atI_in h0 (of_decide_eq_true ha)
    repeat' (first
    | ((with_reducible apply Ok_var); (exact rfl))
    | with_reducible refine Ok_cons ?_ | with_reducible refine Ok_nil ?_ | with_reducible refine Ok_asg ?_ | with_reducible refine Ok_ret ?_ | with_reducible refine Ok_sub ?_ | with_reducible refine Ok_ife ?_
    | with_reducible refine Ok_expr ?_ | with_reducible refine Go_nx ?_ | with_reducible refine Go_rt ?_ | with_reducible refine Ok_cst ?_ | with_reducible refine Ok_bin ?_ | with_reducible refine Ok_idx ?_
    | with_reducible refine Ok_cmp ?_ | with_reducible refine Ok_chn ?_ | with_reducible refine Ok_and ?_ | with_reducible refine Ok_or ?_ | with_reducible refine Ok_not ?_ | with_reducible refine Ok_blt ?_
    | with_reducible refine Ok_callE ?_ | with_reducible refine Ok_slc ?_ | with_reducible refine Ok_ifx ?_ | with_reducible refine Ok_neg ?_ | with_reducible refine Ok_esc ?_ | with_reducible refine Ok_esn ?_
    | with_reducible refine Ok_ono ?_ | with_reducible refine Ok_oye ?_ | with_reducible refine Ok_cno ?_ | with_reducible refine Ok_cye ?_ | with_reducible refine Ok_tup ?_ | with_reducible refine Ok_lst ?_
    | with_reducible refine Ok_toB ?_ | with_reducible refine Ok_isB ?_ | with_reducible refine Ok_lt ?_ | with_reducible refine Ok_le ?_ | with_reducible refine Ok_gt ?_ | with_reducible refine Ok_ge ?_
    | with_reducible refine Ok_add ?_ | with_reducible refine Ok_sb ?_ | with_reducible refine Ok_lenS ?_ | with_reducible refine Ok_lenT ?_ | with_reducible refine Ok_lenL ?_ | with_reducible refine Ok_min ?_
    | with_reducible refine Ok_max ?_ | with_reducible refine Ok_tuL ?_ | with_reducible refine Ok_liT ?_ | with_reducible refine Ok_isi ?_ | with_reducible refine Ok_allF ?_ | with_reducible refine Ok_allT ?_
    | with_reducible refine Ok_slT ?_ | with_reducible refine Ok_comp ?_ | with_reducible refine Ok_seq ?_ | with_reducible refine Ok_rev ?_ | with_reducible refine Ok_rvT ?_ | with_reducible refine Ok_rvL ?_
    | with_reducible refine Ok_isN ?_ | with_reducible refine Ok_isNN ?_ | with_reducible refine Ok_eqI ?_ | with_reducible refine Ok_neI ?_ | with_reducible refine Ok_par ?_ | with_reducible refine Ok_asgT ?_
    | with_reducible refine Ok_mth ?_ | with_reducible refine Ok_dct ?_ | with_reducible refine Ok_okI ?_ | with_reducible refine Ok_bnd ?_
    | ((with_reducible refine Ok_ift ?_ ?_); (exact rfl)) | ((with_reducible refine Ok_iff ?_ ?_); (exact rfl))
    | refine Exists.intro _ (And.intro rfl ?_) | refine Exists.intro _ (Exists.intro _ (And.intro rfl (And.intro (show List.length _ ≤ _ by first | decide | simp) ?_))))
    refine Ok_ixS hx ?_
    repeat' (first
    | ((with_reducible apply Ok_var); (exact rfl))
    | with_reducible refine Ok_cons ?_ | with_reducible refine Ok_nil ?_ | with_reducible refine Ok_asg ?_ | with_reducible refine Ok_ret ?_ | with_reducible refine Ok_sub ?_ | with_reducible refine Ok_ife ?_
    | with_reducible refine Ok_expr ?_ | with_reducible refine Go_nx ?_ | with_reducible refine Go_rt ?_ | with_reducible refine Ok_cst ?_ | with_reducible refine Ok_bin ?_ | with_reducible refine Ok_idx ?_
    | with_reducible refine Ok_cmp ?_ | with_reducible refine Ok_chn ?_ | with_reducible refine Ok_and ?_ | with_reducible refine Ok_or ?_ | with_reducible refine Ok_not ?_ | with_reducible refine Ok_blt ?_
    | with_reducible refine Ok_callE ?_ | with_reducible refine Ok_slc ?_ | with_reducible refine Ok_ifx ?_ | with_reducible refine Ok_neg ?_ | with_reducible refine Ok_esc ?_ | with_reducible refine Ok_esn ?_
    | with_reducible refine Ok_ono ?_ | with_reducible refine Ok_oye ?_ | with_reducible refine Ok_cno ?_ | with_reducible refine Ok_cye ?_ | with_reducible refine Ok_tup ?_ | with_reducible refine Ok_lst ?_
    | with_reducible refine Ok_toB ?_ | with_reducible refine Ok_isB ?_ | with_reducible refine Ok_lt ?_ | with_reducible refine Ok_le ?_ | with_reducible refine Ok_gt ?_ | with_reducible refine Ok_ge ?_
    | with_reducible refine Ok_add ?_ | with_reducible refine Ok_sb ?_ | with_reducible refine Ok_lenS ?_ | with_reducible refine Ok_lenT ?_ | with_reducible refine Ok_lenL ?_ | with_reducible refine Ok_min ?_
    | with_reducible refine Ok_max ?_ | with_reducible refine Ok_tuL ?_ | with_reducible refine Ok_liT ?_ | with_reducible refine Ok_isi ?_ | with_reducible refine Ok_allF ?_ | with_reducible refine Ok_allT ?_
    | with_reducible refine Ok_slT ?_ | with_reducible refine Ok_comp ?_ | with_reducible refine Ok_seq ?_ | with_reducible refine Ok_rev ?_ | with_reducible refine Ok_rvT ?_ | with_reducible refine Ok_rvL ?_
    | with_reducible refine Ok_isN ?_ | with_reducible refine Ok_isNN ?_ | with_reducible refine Ok_eqI ?_ | with_reducible refine Ok_neI ?_ | with_reducible refine Ok_par ?_ | with_reducible refine Ok_asgT ?_
    | with_reducible refine Ok_mth ?_ | with_reducible refine Ok_dct ?_ | with_reducible refine Ok_okI ?_ | with_reducible refine Ok_bnd ?_
    | ((with_reducible refine Ok_ift ?_ ?_); (exact rfl)) | ((with_reducible refine Ok_iff ?_ ?_); (exact rfl))
    | refine Exists.intro _ (And.intro rfl ?_) | refine Exists.intro _ (Exists.intro _ (And.intro rfl (And.intro (show List.length _ ≤ _ by first | decide | simp) ?_))))
    refine fin_p (Nat.le_refl _) ?_
    exact ⟨_, rfl, rfl⟩
  · repeat' (first
    | ((with_reducible apply Ok_var); (exact rfl))
    | with_reducible refine Ok_cons ?_ | with_reducible refine Ok_nil ?_ | with_reducible refine Ok_asg ?_ | with_reducible refine Ok_ret ?_ | with_reducible refine Ok_sub ?_ | with_reducible refine Ok_ife ?_
    | with_reducible refine Ok_expr ?_ | with_reducible refine Go_nx ?_ | with_reducible refine Go_rt ?_ | with_reducible refine Ok_cst ?_ | with_reducible refine Ok_bin ?_ | with_reducible refine Ok_idx ?_
    | with_reducible refine Ok_cmp ?_ | with_reducible refine Ok_chn ?_ | with_reducible refine Ok_and ?_ | with_reducible refine Ok_or ?_ | with_reducible refine Ok_not ?_ | with_reducible refine Ok_blt ?_
    | with_reducible refine Ok_callE ?_ | with_reducible refine Ok_slc ?_ | with_reducible refine Ok_ifx ?_ | with_reducible refine Ok_neg ?_ | with_reducible refine Ok_esc ?_ | with_reducible refine Ok_esn ?_
    | with_reducible refine Ok_ono ?_ | with_reducible refine Ok_oye ?_ | with_reducible refine Ok_cno ?_ | with_reducible refine Ok_cye ?_ | with_reducible refine Ok_tup ?_ | with_reducible refine Ok_lst ?_
    | with_reducible refine Ok_toB ?_ | with_reducible refine Ok_isB ?_ | with_reducible refine Ok_lt ?_ | with_reducible refine Ok_le ?_ | with_reducible refine Ok_gt ?_ | with_reducible refine Ok_ge ?_
    | with_reducible refine Ok_add ?_ | with_reducible refine Ok_sb ?_ | with_reducible refine Ok_lenS ?_ | with_reducible refine Ok_lenT ?_ | with_reducible refine Ok_lenL ?_ | with_reducible refine Ok_min ?_
    | with_reducible refine Ok_max ?_ | with_reducible refine Ok_tuL ?_ | with_reducible refine Ok_liT ?_ | with_reducible refine Ok_isi ?_ | with_reducible refine Ok_allF ?_ | with_reducible refine Ok_allT ?_
    | with_reducible refine Ok_slT ?_ | with_reducible refine Ok_comp ?_ | with_reducible refine Ok_seq ?_ | with_reducible refine Ok_rev ?_ | with_reducible refine Ok_rvT ?_ | with_reducible refine Ok_rvL ?_
    | with_reducible refine Ok_isN ?_ | with_reducible refine Ok_isNN ?_ | with_reducible refine Ok_eqI ?_ | with_reducible refine Ok_neI ?_ | with_reducible refine Ok_par ?_ | with_reducible refine Ok_asgT ?_
    | with_reducible refine Ok_mth ?_ | with_reducible refine Ok_dct ?_ | with_reducible refine Ok_okI ?_ | with_reducible refine Ok_bnd ?_
    | ((with_reducible refine Ok_ift ?_ ?_); (exact rfl)) | ((with_reducible refine Ok_iff ?_ ?_); (exact rfl))
    | refine Exists.intro _ (And.intro rfl ?_) | refine Exists.intro _ (Exists.intro _ (And.intro rfl (And.intro (show List.length _ ≤ _ by first | decide | simp) ?_))))
    refine fin_p (Nat.le_refl _) ?_
    exact ⟨_, rfl, rfl⟩
theorem pen_ok (hT : T 4 = some ⟨1, 1, false, bPen⟩) {M : Mem} {j : Int} :
    Ok (run T fuel (k + 1) 4 [.p (.int j)] M) (fun d N => d = .ref M.length ∧ ∃ x, N = M ++ [x] ∧ PenS N M.length 0 N) := by
  refine Ok_call hT rfl ?_
  simp only [bPen, enter, List.map_cons, List.map_nil, List.replicate, List.cons_append, List.nil_append, Nat.sub_self, List.append_nil]
  repeat' (first
    | ((with_reducible apply Ok_var); (exact rfl))
    | with_reducible refine Ok_cons ?_ | with_reducible refine Ok_nil ?_ | with_reducible refine Ok_asg ?_ | with_reducible refine Ok_ret ?_ | with_reducible refine Ok_sub ?_ | with_reducible refine Ok_ife ?_
    | with_reducible refine Ok_expr ?_ | with_reducible refine Go_nx ?_ | with_reducible refine Go_rt ?_ | with_reducible refine Ok_cst ?_ | with_reducible refine Ok_bin ?_ | with_reducible refine Ok_idx ?_
    | with_reducible refine Ok_cmp ?_ | with_reducible refine Ok_chn ?_ | with_reducible refine Ok_and ?_ | with_reducible refine Ok_or ?_ | with_reducible refine Ok_not ?_ | with_reducible refine Ok_blt ?_
    | with_reducible refine Ok_callE ?_ | with_reducible refine Ok_slc ?_ | with_reducible refine Ok_ifx ?_ | with_reducible refine Ok_neg ?_ | with_reducible refine Ok_esc ?_ | with_reducible refine Ok_esn ?_
    | with_reducible refine Ok_ono ?_ | with_reducible refine Ok_oye ?_ | with_reducible refine Ok_cno ?_ | with_reducible refine Ok_cye ?_ | with_reducible refine Ok_tup ?_ | with_reducible refine Ok_lst ?_
    | with_reducible refine Ok_toB ?_ | with_reducible refine Ok_isB ?_ | with_reducible refine Ok_lt ?_ | with_reducible refine Ok_le ?_ | with_reducible refine Ok_gt ?_ | with_reducible refine Ok_ge ?_
    | with_reducible refine Ok_add ?_ | with_reducible refine Ok_sb ?_ | with_reducible refine Ok_lenS ?_ | with_reducible refine Ok_lenT ?_ | with_reducible refine Ok_lenL ?_ | with_reducible refine Ok_min ?_
    | with_reducible refine Ok_max ?_ | with_reducible refine Ok_tuL ?_ | with_reducible refine Ok_liT ?_ | with_reducible refine Ok_isi ?_ | with_reducible refine Ok_allF ?_ | with_reducible refine Ok_allT ?_
    | with_reducible refine Ok_slT ?_ | with_reducible refine Ok_comp ?_ | with_reducible refine Ok_seq ?_ | with_reducible refine Ok_rev ?_ | with_reducible refine Ok_rvT ?_ | with_reducible refine Ok_rvL ?_
    | with_reducible refine Ok_isN ?_ | with_reducible refine Ok_isNN ?_ | with_reducible refine Ok_eqI ?_ | with_reducible refine Ok_neI ?_ | with_reducible refine Ok_par ?_ | with_reducible refine Ok_asgT ?_
    | with_reducible refine Ok_mth ?_ | with_reducible refine Ok_dct ?_ | with_reducible refine Ok_okI ?_ | with_reducible refine Ok_bnd ?_
    | ((with_reducible refine Ok_ift ?_ ?_); (exact rfl)) | ((with_reducible refine Ok_iff ?_ ?_); (exact rfl))
    | refine Exists.intro _ (And.intro rfl ?_) | refine Exists.intro _ (Exists.intro _ (And.intro rfl (And.intro (show List.length _ ≤ _ by first | decide | simp) ?_))))
  refine Ok_pow (by decide) ?_
  repeat' (first
    | ((with_reducible apply Ok_var); (exact rfl))
    | with_reducible refine Ok_cons ?_ | with_reducible refine Ok_nil ?_ | with_reducible refine Ok_asg ?_ | with_reducible refine Ok_ret ?_ | with_reducible refine Ok_sub ?_ | with_reducible refine Ok_ife ?_
    | with_reducible refine Ok_expr ?_ | with_reducible refine Go_nx ?_ | with_reducible refine Go_rt ?_ | with_reducible refine Ok_cst ?_ | with_reducible refine Ok_bin ?_ | with_reducible refine Ok_idx ?_
    | with_reducible refine Ok_cmp ?_ | with_reducible refine Ok_chn ?_ | with_reducible refine Ok_and ?_ | with_reducible refine Ok_or ?_ | with_reducible refine Ok_not ?_ | with_reducible refine Ok_blt ?_
    | with_reducible refine Ok_callE ?_ | with_reducible refine Ok_slc ?_ | with_reducible refine Ok_ifx ?_ | with_reducible refine Ok_neg ?_ | with_reducible refine Ok_esc ?_ | with_reducible refine Ok_esn ?_
    | with_reducible refine Ok_ono ?_ | with_reducible refine Ok_oye ?_ | with_reducible refine Ok_cno ?_ | with_reducible refine Ok_cye ?_ | with_reducible refine Ok_tup ?_ | with_reducible refine Ok_lst ?_
    | with_reducible refine Ok_toB ?_ | with_reducible refine Ok_isB ?_ | with_reducible refine Ok_lt ?_ | with_reducible refine Ok_le ?_ | with_reducible refine Ok_gt ?_ | with_reducible refine Ok_ge ?_
    | with_reducible refine Ok_add ?_ | with_reducible refine Ok_sb ?_ | with_reducible refine Ok_lenS ?_ | with_reducible refine Ok_lenT ?_ | with_reducible refine Ok_lenL ?_ | with_reducible refine Ok_min ?_
    | with_reducible refine Ok_max ?_ | with_reducible refine Ok_tuL ?_ | with_reducible refine Ok_liT ?_ | with_reducible refine Ok_isi ?_ | with_reducible refine Ok_allF ?_ | with_reducible refine Ok_allT ?_
    | with_reducible refine Ok_slT ?_ | with_reducible refine Ok_comp ?_ | with_reducible refine Ok_seq ?_ | with_reducible refine Ok_rev ?_ | with_reducible refine Ok_rvT ?_ | with_reducible refine Ok_rvL ?_
    | with_reducible refine Ok_isN ?_ | with_reducible refine Ok_isNN ?_ | with_reducible refine Ok_eqI ?_ | with_reducible refine Ok_neI ?_ | with_reducible refine Ok_par ?_ | with_reducible refine Ok_asgT ?_
    | with_reducible refine Ok_mth ?_ | with_reducible refine Ok_dct ?_ | with_reducible refine Ok_okI ?_ | with_reducible refine Ok_bnd ?_
    | ((with_reducible refine Ok_ift ?_ ?_); (exact rfl)) | ((with_reducible refine Ok_iff ?_ ?_); (exact rfl))
    | refine Exists.intro _ (And.intro rfl ?_) | refine Exists.intro _ (Exists.intro _ (And.intro rfl (And.intro (show List.length _ ≤ _ by first | decide | simp) ?_))))
  refine Ok_mod (by decide) ?_
  repeat' (first
    | ((with_reducible apply Ok_var); (exact rfl))
    | with_reducible refine Ok_cons ?_ | with_reducible refine Ok_nil ?_ | with_reducible refine Ok_asg ?_ | with_reducible refine Ok_ret ?_ | with_reducible refine Ok_sub ?_ | with_reducible refine Ok_ife ?_
    | with_reducible refine Ok_expr ?_ | with_reducible refine Go_nx ?_ | with_reducible refine Go_rt ?_ | with_reducible refine Ok_cst ?_ | with_reducible refine Ok_bin ?_ | with_reducible refine Ok_idx ?_
    | with_reducible refine Ok_cmp ?_ | with_reducible refine Ok_chn ?_ | with_reducible refine Ok_and ?_ | with_reducible refine Ok_or ?_ | with_reducible refine Ok_not ?_ | with_reducible refine Ok_blt ?_
    | with_reducible refine Ok_callE ?_ | with_reducible refine Ok_slc ?_ | with_reducible refine Ok_ifx ?_ | with_reducible refine Ok_neg ?_ | with_reducible refine Ok_esc ?_ | with_reducible refine Ok_esn ?_
    | with_reducible refine Ok_ono ?_ | with_reducible refine Ok_oye ?_ | with_reducible refine Ok_cno ?_ | with_reducible refine Ok_cye ?_ | with_reducible refine Ok_tup ?_ | with_reducible refine Ok_lst ?_
    | with_reducible refine Ok_toB ?_ | with_reducible refine Ok_isB ?_ | with_reducible refine Ok_lt ?_ | with_reducible refine Ok_le ?_ | with_reducible refine Ok_gt ?_ | with_reducible refine Ok_ge ?_
    | with_reducible refine Ok_add ?_ | with_reducible refine Ok_sb ?_ | with_reducible refine Ok_lenS ?_ | with_reducible refine Ok_lenT ?_ | with_reducible refine Ok_lenL ?_ | with_reducible refine Ok_min ?_
    | with_reducible refine Ok_max ?_ | with_reducible refine Ok_tuL ?_ | with_reducible refine Ok_liT ?_ | with_reducible refine Ok_isi ?_ | with_reducible refine Ok_allF ?_ | with_reducible refine Ok_allT ?_
    | with_reducible refine Ok_slT ?_ | with_reducible refine Ok_comp ?_ | with_reducible refine Ok_seq ?_ | with_reducible refine Ok_rev ?_ | with_reducible refine Ok_rvT ?_ | with_reducible refine Ok_rvL ?_
    | with_reducible refine Ok_isN ?_ | with_reducible refine Ok_isNN ?_ | with_reducible refine Ok_eqI ?_ | with_reducible refine Ok_neI ?_ | with_reducible refine Ok_par ?_ | with_reducible refine Ok_asgT ?_
    | with_reducible refine Ok_mth ?_ | with_reducible refine Ok_dct ?_ | with_reducible refine Ok_okI ?_ | with_reducible refine Ok_bnd ?_
    | ((with_reducible refine Ok_ift ?_ ?_); (exact rfl)) | ((with_reducible refine Ok_iff ?_ ?_); (exact rfl))
    | refine Exists.intro _ (And.intro rfl ?_) | refine Exists.intro _ (Exists.intro _ (And.intro rfl (And.intro (show List.length _ ≤ _ by first | decide | simp) ?_))))
  exact fin_d ⟨rfl, _, rfl, pen_new M _ _⟩
theorem pick_ok (hD : T 5 = some ⟨2, 4, true, bDraw⟩) (hT : T 6 = some ⟨2, 2, true, bPick⟩) {M0 M : Mem} {i t : Nat} {xs : List PyData} (hM : PenS M0 i t M) (ht : t < 2 ^ 60) (h0 : 0 < xs.length) (h1 : xs.length < 1073741824) :
    Ok (run T fuel (k + 1 + 1) 6 [.ref i, .p (.list xs)] M) (fun d N => ∃ x ∈ xs, d = .p x ∧ PenS M0 i (t + 1) N) := by
  refine Ok_call hT rfl ?_
  simp only [bPick, enter, List.map_cons, List.map_nil, List.replicate, List.cons_append, List.nil_append, Nat.sub_self, List.append_nil]
  repeat' (first
    | ((with_reducible apply Ok_var); (exact rfl))
    | with_reducible refine Ok_cons ?_ | with_reducible refine Ok_nil ?_ | with_reducible refine Ok_asg ?_ | with_reducible refine Ok_ret ?_ | with_reducible refine Ok_sub ?_ | with_reducible refine Ok_ife ?_
    | with_reducible refine Ok_expr ?_ | with_reducible refine Go_nx ?_ | with_reducible refine Go_rt ?_ | with_reducible refine Ok_cst ?_ | with_reducible refine Ok_bin ?_ | with_reducible refine Ok_idx ?_
    | with_reducible refine Ok_cmp ?_ | with_reducible refine Ok_chn ?_ | with_reducible refine Ok_and ?_ | with_reducible refine Ok_or ?_ | with_reducible refine Ok_not ?_ | with_reducible refine Ok_blt ?_
    | with_reducible refine Ok_callE ?_ | with_reducible refine Ok_slc ?_ | with_reducible refine Ok_ifx ?_ | with_reducible refine Ok_neg ?_ | with_reducible refine Ok_esc ?_ | with_reducible refine Ok_esn ?_
    | with_reducible refine Ok_ono ?_ | with_reducible refine Ok_oye ?_ | with_reducible refine Ok_cno ?_ | with_reducible refine Ok_cye ?_ | with_reducible refine Ok_tup ?_ | with_reducible refine Ok_lst ?_
    | with_reducible refine Ok_toB ?_ | with_reducible refine Ok_isB ?_ | with_reducible refine Ok_lt ?_ | with_reducible refine Ok_le ?_ | with_reducible refine Ok_gt ?_ | with_reducible refine Ok_ge ?_
    | with_reducible refine Ok_add ?_ | with_reducible refine Ok_sb ?_ | with_reducible refine Ok_lenS ?_ | with_reducible refine Ok_lenT ?_ | with_reducible refine Ok_lenL ?_ | with_reducible refine Ok_min ?_
    | with_reducible refine Ok_max ?_ | with_reducible refine Ok_tuL ?_ | with_reducible refine Ok_liT ?_ | with_reducible refine Ok_isi ?_ | with_reducible refine Ok_allF ?_ | with_reducible refine Ok_allT ?_
    | with_reducible refine Ok_slT ?_ | with_reducible refine Ok_comp ?_ | with_reducible refine Ok_seq ?_ | with_reducible refine Ok_rev ?_ | with_reducible refine Ok_rvT ?_ | with_reducible refine Ok_rvL ?_
    | with_reducible refine Ok_isN ?_ | with_reducible refine Ok_isNN ?_ | with_reducible refine Ok_eqI ?_ | with_reducible refine Ok_neI ?_ | with_reducible refine Ok_par ?_ | with_reducible refine Ok_asgT ?_
    | with_reducible refine Ok_mth ?_ | with_reducible refine Ok_dct ?_ | with_reducible refine Ok_okI ?_ | with_reducible refine Ok_bnd ?_
    | ((with_reducible refine Ok_ift ?_ ?_); (exact rfl)) | ((with_reducible refine Ok_iff ?_ ?_); (exact rfl))
    | refine Exists.intro _ (And.intro rfl ?_) | refine Exists.intro _ (Exists.intro _ (And.intro rfl (And.intro (show List.length _ ≤ _ by first | decide | simp) ?_))))
  refine (draw_ok hD hM ht (n := xs.length) (by omega) (by omega)).mono ?_
  rintro d N ⟨r, rfl, r0, r1, hN⟩
  obtain ⟨x, hx, hm⟩ := atI_in r0 r1
  refine Ok_ixL hx ?_
  repeat' (first
    | ((with_reducible apply Ok_var); (exact rfl))
    | with_reducible refine Ok_cons ?_ | with_reducible refine Ok_nil ?_ | with_reducible refine Ok_asg ?_ | with_reducible refine Ok_ret ?_ | with_reducible refine Ok_sub ?_ | with_reducible refine Ok_ife ?_
    | with_reducible refine Ok_expr ?_ | with_reducible refine Go_nx ?_ | with_reducible refine Go_rt ?_ | with_reducible refine Ok_cst ?_ | with_reducible refine Ok_bin ?_ | with_reducible refine Ok_idx ?_
    | with_reducible refine Ok_cmp ?_ | with_reducible refine Ok_chn ?_ | with_reducible refine Ok_and ?_ | with_reducible refine Ok_or ?_ | with_reducible refine Ok_not ?_ | with_reducible refine Ok_blt ?_
    | with_reducible refine Ok_callE ?_ | with_reducible refine Ok_slc ?_ | with_reducible refine Ok_ifx ?_ | with_reducible refine Ok_neg ?_ | with_reducible refine Ok_esc ?_ | with_reducible refine Ok_esn ?_
    | with_reducible refine Ok_ono ?_ | with_reducible refine Ok_oye ?_ | with_reducible refine Ok_cno ?_ | with_reducible refine Ok_cye ?_ | with_reducible refine Ok_tup ?_ | with_reducible refine Ok_lst ?_
    | with_reducible refine Ok_toB ?_ | with_reducible refine Ok_isB ?_ | with_reducible refine Ok_lt ?_ | with_reducible refine Ok_le ?_ | with_reducible refine Ok_gt ?_ | with_reducible refine Ok_ge ?_
    | with_reducible refine Ok_add ?_ | with_reducible refine Ok_sb ?_ | with_reducible refine Ok_lenS ?_ | with_reducible refine Ok_lenT ?_ | with_reducible refine Ok_lenL ?_ | with_reducible refine Ok_min ?_
    | with_reducible refine Ok_max ?_ | with_reducible refine Ok_tuL ?_ | with_reducible refine Ok_liT ?_ | with_reducible refine Ok_isi ?_ | with_reducible refine Ok_allF ?_ | with_reducible refine Ok_allT ?_
    | with_reducible refine Ok_slT ?_ | with_reducible refine Ok_comp ?_ | with_reducible refine Ok_seq ?_ | with_reducible refine Ok_rev ?_ | with_reducible refine Ok_rvT ?_ | with_reducible refine Ok_rvL ?_
    | with_reducible refine Ok_isN ?_ | with_reducible refine Ok_isNN ?_ | with_reducible refine Ok_eqI ?_ | with_reducible refine Ok_neI ?_ | with_reducible refine Ok_par ?_ | with_reducible refine Ok_asgT ?_
    | with_reducible refine Ok_mth ?_ | with_reducible refine Ok_dct ?_ | with_reducible refine Ok_okI ?_ | with_reducible refine Ok_bnd ?_
    | ((with_reducible refine Ok_ift ?_ ?_); (exact rfl)) | ((with_reducible refine Ok_iff ?_ ?_); (exact rfl))
    | refine Exists.intro _ (And.intro rfl ?_) | refine Exists.intro _ (Exists.intro _ (And.intro rfl (And.intro (show List.length _ ≤ _ by first | decide | simp) ?_))))
  refine fin_p (by rw [hN.len, hM.len]; exact Nat.le_refl _) ?_
  exact ⟨x, hm, rfl, hN⟩
theorem pickT_ok (hD : T 5 = some ⟨2, 4, true, bDraw⟩) (hT : T 6 = some ⟨2, 2, true, bPick⟩) {M0 M : Mem} {i t : Nat} {xs : List PyData} (hM : PenS M0 i t M) (ht : t < 2 ^ 60) (h0 : 0 < xs.length) (h1 : xs.length < 1073741824) :
    Ok (run T fuel (k + 1 + 1) 6 [.ref i, .p (.tuple xs)] M) (fun d N => ∃ x ∈ xs, d = .p x ∧ PenS M0 i (t + 1) N) := by
  refine Ok_call hT rfl ?_
  simp only [bPick, enter, List.map_cons, List.map_nil, List.replicate, List.cons_append, List.nil_append, Nat.sub_self, List.append_nil]
  repeat' (first
    | ((with_reducible apply Ok_var); (exact rfl))
    | with_reducible refine Ok_cons ?_ | with_reducible refine Ok_nil ?_ | with_reducible refine Ok_asg ?_ | with_reducible refine Ok_ret ?_ | with_reducible refine Ok_sub ?_ | with_reducible refine Ok_ife ?_
    | with_reducible refine Ok_expr ?_ | with_reducible refine Go_nx ?_ | with_reducible refine Go_rt ?_ | with_reducible refine Ok_cst ?_ | with_reducible refine Ok_bin ?_ | with_reducible refine Ok_idx ?_
    | with_reducible refine Ok_cmp ?_ | with_reducible refine Ok_chn ?_ | with_reducible refine Ok_and ?_ | with_reducible refine Ok_or ?_ | with_reducible refine Ok_not ?_ | with_reducible refine Ok_blt ?_
    | with_reducible refine Ok_callE ?_ | with_reducible refine Ok_slc ?_ | with_reducible refine Ok_ifx ?_ | with_reducible refine Ok_neg ?_ | with_reducible refine Ok_esc ?_ | with_reducible refine Ok_esn ?_
    | with_reducible refine Ok_ono ?_ | with_reducible refine Ok_oye ?_ | with_reducible refine Ok_cno ?_ | with_reducible refine Ok_cye ?_ | with_reducible refine Ok_tup ?_ | with_reducible refine Ok_lst ?_
    | with_reducible refine Ok_toB ?_ | with_reducible refine Ok_isB ?_ | with_reducible refine Ok_lt ?_ | with_reducible refine Ok_le ?_ | with_reducible refine Ok_gt ?_ | with_reducible refine Ok_ge ?_
    | with_reducible refine Ok_add ?_ | with_reducible refine Ok_sb ?_ | with_reducible refine Ok_lenS ?_ | with_reducible refine Ok_lenT ?_ | with_reducible refine Ok_lenL ?_ | with_reducible refine Ok_min ?_
    | with_reducible refine Ok_max ?_ | with_reducible refine Ok_tuL ?_ | with_reducible refine Ok_liT ?_ | with_reducible refine Ok_isi ?_ | with_reducible refine Ok_allF ?_ | with_reducible refine Ok_allT ?_
    | with_reducible refine Ok_slT ?_ | with_reducible refine Ok_comp ?_ | with_reducible refine Ok_seq ?_ | with_reducible refine Ok_rev ?_ | with_reducible refine Ok_rvT ?_ | with_reducible refine Ok_rvL ?_
    | with_reducible refine Ok_isN ?_ | with_reducible refine Ok_isNN ?_ | with_reducible refine Ok_eqI ?_ | with_reducible refine Ok_neI ?_ | with_reducible refine Ok_par ?_ | with_reducible refine Ok_asgT ?_
    | with_reducible refine Ok_mth ?_ | with_reducible refine Ok_dct ?_ | with_reducible refine Ok_okI ?_ | with_reducible refine Ok_bnd ?_
    | ((with_reducible refine Ok_ift ?_ ?_); (exact rfl)) | ((with_reducible refine Ok_iff ?_ ?_); (exact rfl))
    | refine Exists.intro _ (And.intro rfl ?_) | refine Exists.intro _ (Exists.intro _ (And.intro rfl (And.intro (show List.length _ ≤ _ by first | decide | simp) ?_))))
  refine (draw_ok hD hM ht (n := xs.length) (by omega) (by omega)).mono ?_
  rintro d N ⟨r, rfl, r0, r1, hN⟩
  obtain ⟨x, hx, hm⟩ := atI_in r0 r1
  refine Ok_ixT hx ?_
  repeat' (first
    | ((with_reducible apply Ok_var); (exact rfl))
    | with_reducible refine Ok_cons ?_ | with_reducible refine Ok_nil ?_ | with_reducible refine Ok_asg ?_ | with_reducible refine Ok_ret ?_ | with_reducible refine Ok_sub ?_ | with_reducible refine Ok_ife ?_
    | with_reducible refine Ok_expr ?_ | with_reducible refine Go_nx ?_ | with_reducible refine Go_rt ?_ | with_reducible refine Ok_cst ?_ | with_reducible refine Ok_bin ?_ | with_reducible refine Ok_idx ?_
    | with_reducible refine Ok_cmp ?_ | with_reducible refine Ok_chn ?_ | with_reducible refine Ok_and ?_ | with_reducible refine Ok_or ?_ | with_reducible refine Ok_not ?_ | with_reducible refine Ok_blt ?_
    | with_reducible refine Ok_callE ?_ | with_reducible refine Ok_slc ?_ | with_reducible refine Ok_ifx ?_ | with_reducible refine Ok_neg ?_ | with_reducible refine Ok_esc ?_ | with_reducible refine Ok_esn ?_
    | with_reducible refine Ok_ono ?_ | with_reducible refine Ok_oye ?_ | with_reducible refine Ok_cno ?_ | with_reducible refine Ok_cye ?_ | with_reducible refine Ok_tup ?_ | with_reducible refine Ok_lst ?_
    | with_reducible refine Ok_toB ?_ | with_reducible refine Ok_isB ?_ | with_reducible refine Ok_lt ?_ | with_reducible refine Ok_le ?_ | with_reducible refine Ok_gt ?_ | with_reducible refine Ok_ge ?_
    | with_reducible refine Ok_add ?_ | with_reducible refine Ok_sb ?_ | with_reducible refine Ok_lenS ?_ | with_reducible refine Ok_lenT ?_ | with_reducible refine Ok_lenL ?_ | with_reducible refine Ok_min ?_
    | with_reducible refine Ok_max ?_ | with_reducible refine Ok_tuL ?_ | with_reducible refine Ok_liT ?_ | with_reducible refine Ok_isi ?_ | with_reducible refine Ok_allF ?_ | with_reducible refine Ok_allT ?_
    | with_reducible refine Ok_slT ?_ | with_reducible refine Ok_comp ?_ | with_reducible refine Ok_seq ?_ | with_reducible refine Ok_rev ?_ | with_reducible refine Ok_rvT ?_ | with_reducible refine Ok_rvL ?_
    | with_reducible refine Ok_isN ?_ | with_reducible refine Ok_isNN ?_ | with_reducible refine Ok_eqI ?_ | with_reducible refine Ok_neI ?_ | with_reducible refine Ok_par ?_ | with_reducible refine Ok_asgT ?_
    | with_reducible refine Ok_mth ?_ | with_reducible refine Ok_dct ?_ | with_reducible refine Ok_okI ?_ | with_reducible refine Ok_bnd ?_
    | ((with_reducible refine Ok_ift ?_ ?_); (exact rfl)) | ((with_reducible refine Ok_iff ?_ ?_); (exact rfl))
    | refine Exists.intro _ (And.intro rfl ?_) | refine Exists.intro _ (Exists.intro _ (And.intro rfl (And.intro (show List.length _ ≤ _ by first | decide | simp) ?_))))
  refine fin_p (by rw [hN.len, hM.len]; exact Nat.le_refl _) ?_
  exact ⟨x, hm, rfl, hN⟩
def isW (x : PyData) (lo hi : Int) : Bool := match x with
  | .int i => decide (lo ≤ i) && decide (i ≤ hi)
  | _ => false
theorem whole_ok {f : Nat} (hT : T f = some ⟨3, 3, true, bWhole⟩) {M : Mem} (x : PyData) (lo hi : Int) :
    run T fuel (k + 1) f [.p x, .p (.int lo), .p (.int hi)] M = .ok (.p (.bool (isW x lo hi))) M := by
  suffices h : Ok (run T fuel (k + 1) f [.p x, .p (.int lo), .p (.int hi)] M) (fun d N => d = .p (.bool (isW x lo hi)) ∧ N = M) by
    obtain ⟨d, N, e, rfl, rfl⟩ := h
    exact e
  refine Ok_call hT rfl ?_
  simp only [bWhole, enter, List.map_cons, List.map_nil, List.replicate, List.cons_append, List.nil_append, Nat.sub_self, List.append_nil]
  cases x with
  | int i =>
    repeat' (first
    | ((with_reducible apply Ok_var); (exact rfl))
    | with_reducible refine Ok_cons ?_ | with_reducible refine Ok_nil ?_ | with_reducible refine Ok_asg ?_ | with_reducible refine Ok_ret ?_ | with_reducible refine Ok_sub ?_ | with_reducible refine Ok_ife ?_
    | with_reducible refine Ok_expr ?_ | with_reducible refine Go_nx ?_ | with_reducible refine Go_rt ?_ | with_reducible refine Ok_cst ?_ | with_reducible refine Ok_bin ?_ | with_reducible refine Ok_idx ?_
    | with_reducible refine Ok_cmp ?_ | with_reducible refine Ok_chn ?_ | with_reducible refine Ok_and ?_ | with_reducible refine Ok_or ?_ | with_reducible refine Ok_not ?_ | with_reducible refine Ok_blt ?_
    | with_reducible refine Ok_callE ?_ | with_reducible refine Ok_slc ?_ | with_reducible refine Ok_ifx ?_ | with_reducible refine Ok_neg ?_ | with_reducible refine Ok_esc ?_ | with_reducible refine Ok_esn ?_
    | with_reducible refine Ok_ono ?_ | with_reducible refine Ok_oye ?_ | with_reducible refine Ok_cno ?_ | with_reducible refine Ok_cye ?_ | with_reducible refine Ok_tup ?_ | with_reducible refine Ok_lst ?_
    | with_reducible refine Ok_toB ?_ | with_reducible refine Ok_isB ?_ | with_reducible refine Ok_lt ?_ | with_reducible refine Ok_le ?_ | with_reducible refine Ok_gt ?_ | with_reducible refine Ok_ge ?_
    | with_reducible refine Ok_add ?_ | with_reducible refine Ok_sb ?_ | with_reducible refine Ok_lenS ?_ | with_reducible refine Ok_lenT ?_ | with_reducible refine Ok_lenL ?_ | with_reducible refine Ok_min ?_
    | with_reducible refine Ok_max ?_ | with_reducible refine Ok_tuL ?_ | with_reducible refine Ok_liT ?_ | with_reducible refine Ok_isi ?_ | with_reducible refine Ok_allF ?_ | with_reducible refine Ok_allT ?_
    | with_reducible refine Ok_slT ?_ | with_reducible refine Ok_comp ?_ | with_reducible refine Ok_seq ?_ | with_reducible refine Ok_rev ?_ | with_reducible refine Ok_rvT ?_ | with_reducible refine Ok_rvL ?_
    | with_reducible refine Ok_isN ?_ | with_reducible refine Ok_isNN ?_ | with_reducible refine Ok_eqI ?_ | with_reducible refine Ok_neI ?_ | with_reducible refine Ok_par ?_ | with_reducible refine Ok_asgT ?_
    | with_reducible refine Ok_mth ?_ | with_reducible refine Ok_dct ?_ | with_reducible refine Ok_okI ?_ | with_reducible refine Ok_bnd ?_
    | ((with_reducible refine Ok_ift ?_ ?_); (exact rfl)) | ((with_reducible refine Ok_iff ?_ ?_); (exact rfl))
    | refine Exists.intro _ (And.intro rfl ?_) | refine Exists.intro _ (Exists.intro _ (And.intro rfl (And.intro (show List.length _ ≤ _ by first | decide | simp) ?_))))
    refine Ok_if (fun ha => ?_) (fun ha => ?_)
    · repeat' (first
    | ((with_reducible apply Ok_var); (exact rfl))
    | with_reducible refine Ok_cons ?_ | with_reducible refine Ok_nil ?_ | with_reducible refine Ok_asg ?_ | with_reducible refine Ok_ret ?_ | with_reducible refine Ok_sub ?_ | with_reducible refine Ok_ife ?_
    | with_reducible refine Ok_expr ?_ | with_reducible refine Go_nx ?_ | with_reducible refine Go_rt ?_ | with_reducible refine Ok_cst ?_ | with_reducible refine Ok_bin ?_ | with_reducible refine Ok_idx ?_
    | with_reducible refine Ok_cmp ?_ | with_reducible refine Ok_chn ?_ | with_reducible refine Ok_and ?_ | with_reducible refine Ok_or ?_ | with_reducible refine Ok_not ?_ | with_reducible refine Ok_blt ?_
    | with_reducible refine Ok_callE ?_ | with_reducible refine Ok_slc ?_ | with_reducible refine Ok_ifx ?_ | with_reducible refine Ok_neg ?_ | with_reducible refine Ok_esc ?_ | with_reducible refine Ok_esn ?_
    | with_reducible refine Ok_ono ?_ | with_reducible refine Ok_oye ?_ | with_reducible refine Ok_cno ?_ | with_reducible refine Ok_cye ?_ | with_reducible refine Ok_tup ?_ | with_reducible refine Ok_lst ?_
    | with_reducible refine Ok_toB ?_ | with_reducible refine Ok_isB ?_ | with_reducible refine Ok_lt ?_ | with_reducible refine Ok_le ?_ | with_reducible refine Ok_gt ?_ | with_reducible refine Ok_ge ?_
    | with_reducible refine Ok_add ?_ | with_reducible refine Ok_sb ?_ | with_reducible refine Ok_lenS ?_ | with_reducible refine Ok_lenT ?_ | with_reducible refine Ok_lenL ?_ | with_reducible refine Ok_min ?_
    | with_reducible refine Ok_max ?_ | with_reducible refine Ok_tuL ?_ | with_reducible refine Ok_liT ?_ | with_reducible refine Ok_isi ?_ | with_reducible refine Ok_allF ?_ | with_reducible refine Ok_allT ?_
    | with_reducible refine Ok_slT ?_ | with_reducible refine Ok_comp ?_ | with_reducible refine Ok_seq ?_ | with_reducible refine Ok_rev ?_ | with_reducible refine Ok_rvT ?_ | with_reducible refine Ok_rvL ?_
    | with_reducible refine Ok_isN ?_ | with_reducible refine Ok_isNN ?_ | with_reducible refine Ok_eqI ?_ | with_reducible refine Ok_neI ?_ | with_reducible refine Ok_par ?_ | with_reducible refine Ok_asgT ?_
    | with_reducible refine Ok_mth ?_ | with_reducible refine Ok_dct ?_ | with_reducible refine Ok_okI ?_ | with_reducible refine Ok_bnd ?_
    | ((with_reducible refine Ok_ift ?_ ?_); (exact rfl)) | ((with_reducible refine Ok_iff ?_ ?_); (exact rfl))
    | refine Exists.intro _ (And.intro rfl ?_) | refine Exists.intro _ (Exists.intro _ (And.intro rfl (And.intro (show List.length _ ≤ _ by first | decide | simp) ?_))))
      refine fin_p (Nat.le_refl _) ?_
      exact ⟨by simp only [isW, ha, Bool.true_and], rfl⟩
    · repeat' (first
    | ((with_reducible apply Ok_var); (exact rfl))
    | with_reducible refine Ok_cons ?_ | with_reducible refine Ok_nil ?_ | with_reducible refine Ok_asg ?_ | with_reducible refine Ok_ret ?_ | with_reducible refine Ok_sub ?_ | with_reducible refine Ok_ife ?_
    | with_reducible refine Ok_expr ?_ | with_reducible refine Go_nx ?_ | with_reducible refine Go_rt ?_ | with_reducible refine Ok_cst ?_ | with_reducible refine Ok_bin ?_ | with_reducible refine Ok_idx ?_
    | with_reducible refine Ok_cmp ?_ | with_reducible refine Ok_chn ?_ | with_reducible refine Ok_and ?_ | with_reducible refine Ok_or ?_ | with_reducible refine Ok_not ?_ | with_reducible refine Ok_blt ?_
    | with_reducible refine Ok_callE ?_ | with_reducible refine Ok_slc ?_ | with_reducible refine Ok_ifx ?_ | with_reducible refine Ok_neg ?_ | with_reducible refine Ok_esc ?_ | with_reducible refine Ok_esn ?_
    | with_reducible refine Ok_ono ?_ | with_reducible refine Ok_oye ?_ | with_reducible refine Ok_cno ?_ | with_reducible refine Ok_cye ?_ | with_reducible refine Ok_tup ?_ | with_reducible refine Ok_lst ?_
    | with_reducible refine Ok_toB ?_ | with_reducible refine Ok_isB ?_ | with_reducible refine Ok_lt ?_ | with_reducible refine Ok_le ?_ | with_reducible refine Ok_gt ?_ | with_reducible refine Ok_ge ?_
    | with_reducible refine Ok_add ?_ | with_reducible refine Ok_sb ?_ | with_reducible refine Ok_lenS ?_ | with_reducible refine Ok_lenT ?_ | with_reducible refine Ok_lenL ?_ | with_reducible refine Ok_min ?_
    | with_reducible refine Ok_max ?_ | with_reducible refine Ok_tuL ?_ | with_reducible refine Ok_liT ?_ | with_reducible refine Ok_isi ?_ | with_reducible refine Ok_allF ?_ | with_reducible refine Ok_allT ?_
    | with_reducible refine Ok_slT ?_ | with_reducible refine Ok_comp ?_ | with_reducible refine Ok_seq ?_ | with_reducible refine Ok_rev ?_ | with_reducible refine Ok_rvT ?_ | with_reducible refine Ok_rvL ?_
    | with_reducible refine Ok_isN ?_ | with_reducible refine Ok_isNN ?_ | with_reducible refine Ok_eqI ?_ | with_reducible refine Ok_neI ?_ | with_reducible refine Ok_par ?_ | with_reducible refine Ok_asgT ?_
    | with_reducible refine Ok_mth ?_ | with_reducible refine Ok_dct ?_ | with_reducible refine Ok_okI ?_ | with_reducible refine Ok_bnd ?_
    | ((with_reducible refine Ok_ift ?_ ?_); (exact rfl)) | ((with_reducible refine Ok_iff ?_ ?_); (exact rfl))
    | refine Exists.intro _ (And.intro rfl ?_) | refine Exists.intro _ (Exists.intro _ (And.intro rfl (And.intro (show List.length _ ≤ _ by first | decide | simp) ?_))))
      refine fin_p (Nat.le_refl _) ?_
      exact ⟨by simp only [isW, ha, Bool.false_and], rfl⟩
  | bool i =>
    repeat' (first
    | ((with_reducible apply Ok_var); (exact rfl))
    | with_reducible refine Ok_cons ?_ | with_reducible refine Ok_nil ?_ | with_reducible refine Ok_asg ?_ | with_reducible refine Ok_ret ?_ | with_reducible refine Ok_sub ?_ | with_reducible refine Ok_ife ?_
    | with_reducible refine Ok_expr ?_ | with_reducible refine Go_nx ?_ | with_reducible refine Go_rt ?_ | with_reducible refine Ok_cst ?_ | with_reducible refine Ok_bin ?_ | with_reducible refine Ok_idx ?_
    | with_reducible refine Ok_cmp ?_ | with_reducible refine Ok_chn ?_ | with_reducible refine Ok_and ?_ | with_reducible refine Ok_or ?_ | with_reducible refine Ok_not ?_ | with_reducible refine Ok_blt ?_
    | with_reducible refine Ok_callE ?_ | with_reducible refine Ok_slc ?_ | with_reducible refine Ok_ifx ?_ | with_reducible refine Ok_neg ?_ | with_reducible refine Ok_esc ?_ | with_reducible refine Ok_esn ?_
    | with_reducible refine Ok_ono ?_ | with_reducible refine Ok_oye ?_ | with_reducible refine Ok_cno ?_ | with_reducible refine Ok_cye ?_ | with_reducible refine Ok_tup ?_ | with_reducible refine Ok_lst ?_
    | with_reducible refine Ok_toB ?_ | with_reducible refine Ok_isB ?_ | with_reducible refine Ok_lt ?_ | with_reducible refine Ok_le ?_ | with_reducible refine Ok_gt ?_ | with_reducible refine Ok_ge ?_
    | with_reducible refine Ok_add ?_ | with_reducible refine Ok_sb ?_ | with_reducible refine Ok_lenS ?_ | with_reducible refine Ok_lenT ?_ | with_reducible refine Ok_lenL ?_ | with_reducible refine Ok_min ?_
    | with_reducible refine Ok_max ?_ | with_reducible refine Ok_tuL ?_ | with_reducible refine Ok_liT ?_ | with_reducible refine Ok_isi ?_ | with_reducible refine Ok_allF ?_ | with_reducible refine Ok_allT ?_
    | with_reducible refine Ok_slT ?_ | with_reducible refine Ok_comp ?_ | with_reducible refine Ok_seq ?_ | with_reducible refine Ok_rev ?_ | with_reducible refine Ok_rvT ?_ | with_reducible refine Ok_rvL ?_
    | with_reducible refine Ok_isN ?_ | with_reducible refine Ok_isNN ?_ | with_reducible refine Ok_eqI ?_ | with_reducible refine Ok_neI ?_ | with_reducible refine Ok_par ?_ | with_reducible refine Ok_asgT ?_
    | with_reducible refine Ok_mth ?_ | with_reducible refine Ok_dct ?_ | with_reducible refine Ok_okI ?_ | with_reducible refine Ok_bnd ?_
    | ((with_reducible refine Ok_ift ?_ ?_); (exact rfl)) | ((with_reducible refine Ok_iff ?_ ?_); (exact rfl))
    | refine Exists.intro _ (And.intro rfl ?_) | refine Exists.intro _ (Exists.intro _ (And.intro rfl (And.intro (show List.length _ ≤ _ by first | decide | simp) ?_))))
    exact fin_p (Nat.le_refl _) ⟨rfl, rfl⟩
  | _ =>
    repeat' (first
    | ((with_reducible apply Ok_var); (exact rfl))
    | with_reducible refine Ok_cons ?_ | with_reducible refine Ok_nil ?_ | with_reducible refine Ok_asg ?_ | with_reducible refine Ok_ret ?_ | with_reducible refine Ok_sub ?_ | with_reducible refine Ok_ife ?_
    | with_reducible refine Ok_expr ?_ | with_reducible refine Go_nx ?_ | with_reducible refine Go_rt ?_ | with_reducible refine Ok_cst ?_ | with_reducible refine Ok_bin ?_ | with_reducible refine Ok_idx ?_
    | with_reducible refine Ok_cmp ?_ | with_reducible refine Ok_chn ?_ | with_reducible refine Ok_and ?_ | with_reducible refine Ok_or ?_ | with_reducible refine Ok_not ?_ | with_reducible refine Ok_blt ?_
    | with_reducible refine Ok_callE ?_ | with_reducible refine Ok_slc ?_ | with_reducible refine Ok_ifx ?_ | with_reducible refine Ok_neg ?_ | with_reducible refine Ok_esc ?_ | with_reducible refine Ok_esn ?_
    | with_reducible refine Ok_ono ?_ | with_reducible refine Ok_oye ?_ | with_reducible refine Ok_cno ?_ | with_reducible refine Ok_cye ?_ | with_reducible refine Ok_tup ?_ | with_reducible refine Ok_lst ?_
    | with_reducible refine Ok_toB ?_ | with_reducible refine Ok_isB ?_ | with_reducible refine Ok_lt ?_ | with_reducible refine Ok_le ?_ | with_reducible refine Ok_gt ?_ | with_reducible refine Ok_ge ?_
    | with_reducible refine Ok_add ?_ | with_reducible refine Ok_sb ?_ | with_reducible refine Ok_lenS ?_ | with_reducible refine Ok_lenT ?_ | with_reducible refine Ok_lenL ?_ | with_reducible refine Ok_min ?_
    | with_reducible refine Ok_max ?_ | with_reducible refine Ok_tuL ?_ | with_reducible refine Ok_liT ?_ | with_reducible refine Ok_isi ?_ | with_reducible refine Ok_allF ?_ | with_reducible refine Ok_allT ?_
    | with_reducible refine Ok_slT ?_ | with_reducible refine Ok_comp ?_ | with_reducible refine Ok_seq ?_ | with_reducible refine Ok_rev ?_ | with_reducible refine Ok_rvT ?_ | with_reducible refine Ok_rvL ?_
    | with_reducible refine Ok_isN ?_ | with_reducible refine Ok_isNN ?_ | with_reducible refine Ok_eqI ?_ | with_reducible refine Ok_neI ?_ | with_reducible refine Ok_par ?_ | with_reducible refine Ok_asgT ?_
    | with_reducible refine Ok_mth ?_ | with_reducible refine Ok_dct ?_ | with_reducible refine Ok_okI ?_ | with_reducible refine Ok_bnd ?_
    | ((with_reducible refine Ok_ift ?_ ?_); (exact rfl)) | ((with_reducible refine Ok_iff ?_ ?_); (exact rfl))
    | refine Exists.intro _ (And.intro rfl ?_) | refine Exists.intro _ (Exists.intro _ (And.intro rfl (And.intro (show List.length _ ≤ _ by first | decide | simp) ?_))))
    exact fin_p (Nat.le_refl _) ⟨rfl, rfl⟩
/-- what repr takes -/
def Shw (x : PyData) : Bool := x.showable && decide (x.depth ≤ 60) && decide (x.shown.length ≤ 16777216) && (!x.hasDict || noLst x)
theorem Ok_repr {x : PyData} {M : Mem} {Q : D → Mem → Prop} (h : Shw x = true) (q : Q (.p (.str x.shown)) M) : Ok (bltop .repr [.p x] M) Q :=
  ⟨_, M, by simp only [bltop, one, dat, bRepr]; exact if_pos h, q⟩
theorem same_ok (hT : T 7 = some ⟨2, 2, true, bSame⟩) {M : Mem} {x y : PyData} (hx : Shw x = true) (hy : Shw y = true) :
    run T fuel (k + 1) 7 [.p x, .p y] M = .ok (.p (.bool (PyData.eqv (.str x.shown) (.str y.shown)))) M := by
  suffices h : Ok (run T fuel (k + 1) 7 [.p x, .p y] M) (fun d N => d = .p (.bool (PyData.eqv (.str x.shown) (.str y.shown))) ∧ N = M) by
    obtain ⟨d, N, e, rfl, rfl⟩ := h
    exact e
  refine Ok_call hT rfl ?_
  simp only [bSame, enter, List.map_cons, List.map_nil, List.replicate, List.cons_append, List.nil_append, Nat.sub_self, List.append_nil]
  repeat' (first
    | ((with_reducible apply Ok_var); (exact rfl))
    | with_reducible refine Ok_cons ?_ | with_reducible refine Ok_nil ?_ | with_reducible refine Ok_asg ?_ | with_reducible refine Ok_ret ?_ | with_reducible refine Ok_sub ?_ | with_reducible refine Ok_ife ?_
    | with_reducible refine Ok_expr ?_ | with_reducible refine Go_nx ?_ | with_reducible refine Go_rt ?_ | with_reducible refine Ok_cst ?_ | with_reducible refine Ok_bin ?_ | with_reducible refine Ok_idx ?_
    | with_reducible refine Ok_cmp ?_ | with_reducible refine Ok_chn ?_ | with_reducible refine Ok_and ?_ | with_reducible refine Ok_or ?_ | with_reducible refine Ok_not ?_ | with_reducible refine Ok_blt ?_
    | with_reducible refine Ok_callE ?_ | with_reducible refine Ok_slc ?_ | with_reducible refine Ok_ifx ?_ | with_reducible refine Ok_neg ?_ | with_reducible refine Ok_esc ?_ | with_reducible refine Ok_esn ?_
    | with_reducible refine Ok_ono ?_ | with_reducible refine Ok_oye ?_ | with_reducible refine Ok_cno ?_ | with_reducible refine Ok_cye ?_ | with_reducible refine Ok_tup ?_ | with_reducible refine Ok_lst ?_
    | with_reducible refine Ok_toB ?_ | with_reducible refine Ok_isB ?_ | with_reducible refine Ok_lt ?_ | with_reducible refine Ok_le ?_ | with_reducible refine Ok_gt ?_ | with_reducible refine Ok_ge ?_
    | with_reducible refine Ok_add ?_ | with_reducible refine Ok_sb ?_ | with_reducible refine Ok_lenS ?_ | with_reducible refine Ok_lenT ?_ | with_reducible refine Ok_lenL ?_ | with_reducible refine Ok_min ?_
    | with_reducible refine Ok_max ?_ | with_reducible refine Ok_tuL ?_ | with_reducible refine Ok_liT ?_ | with_reducible refine Ok_isi ?_ | with_reducible refine Ok_allF ?_ | with_reducible refine Ok_allT ?_
    | with_reducible refine Ok_slT ?_ | with_reducible refine Ok_comp ?_ | with_reducible refine Ok_seq ?_ | with_reducible refine Ok_rev ?_ | with_reducible refine Ok_rvT ?_ | with_reducible refine Ok_rvL ?_
    | with_reducible refine Ok_isN ?_ | with_reducible refine Ok_isNN ?_ | with_reducible refine Ok_eqI ?_ | with_reducible refine Ok_neI ?_ | with_reducible refine Ok_par ?_ | with_reducible refine Ok_asgT ?_
    | with_reducible refine Ok_mth ?_ | with_reducible refine Ok_dct ?_ | with_reducible refine Ok_okI ?_ | with_reducible refine Ok_bnd ?_
    | ((with_reducible refine Ok_ift ?_ ?_); (exact rfl)) | ((with_reducible refine Ok_iff ?_ ?_); (exact rfl))
    | refine Exists.intro _ (And.intro rfl ?_) | refine Exists.intro _ (Exists.intro _ (And.intro rfl (And.intro (show List.length _ ≤ _ by first | decide | simp) ?_))))
  refine Ok_repr hx ?_
  repeat' (first
    | ((with_reducible apply Ok_var); (exact rfl))
    | with_reducible refine Ok_cons ?_ | with_reducible refine Ok_nil ?_ | with_reducible refine Ok_asg ?_ | with_reducible refine Ok_ret ?_ | with_reducible refine Ok_sub ?_ | with_reducible refine Ok_ife ?_
    | with_reducible refine Ok_expr ?_ | with_reducible refine Go_nx ?_ | with_reducible refine Go_rt ?_ | with_reducible refine Ok_cst ?_ | with_reducible refine Ok_bin ?_ | with_reducible refine Ok_idx ?_
    | with_reducible refine Ok_cmp ?_ | with_reducible refine Ok_chn ?_ | with_reducible refine Ok_and ?_ | with_reducible refine Ok_or ?_ | with_reducible refine Ok_not ?_ | with_reducible refine Ok_blt ?_
    | with_reducible refine Ok_callE ?_ | with_reducible refine Ok_slc ?_ | with_reducible refine Ok_ifx ?_ | with_reducible refine Ok_neg ?_ | with_reducible refine Ok_esc ?_ | with_reducible refine Ok_esn ?_
    | with_reducible refine Ok_ono ?_ | with_reducible refine Ok_oye ?_ | with_reducible refine Ok_cno ?_ | with_reducible refine Ok_cye ?_ | with_reducible refine Ok_tup ?_ | with_reducible refine Ok_lst ?_
    | with_reducible refine Ok_toB ?_ | with_reducible refine Ok_isB ?_ | with_reducible refine Ok_lt ?_ | with_reducible refine Ok_le ?_ | with_reducible refine Ok_gt ?_ | with_reducible refine Ok_ge ?_
    | with_reducible refine Ok_add ?_ | with_reducible refine Ok_sb ?_ | with_reducible refine Ok_lenS ?_ | with_reducible refine Ok_lenT ?_ | with_reducible refine Ok_lenL ?_ | with_reducible refine Ok_min ?_
    | with_reducible refine Ok_max ?_ | with_reducible refine Ok_tuL ?_ | with_reducible refine Ok_liT ?_ | with_reducible refine Ok_isi ?_ | with_reducible refine Ok_allF ?_ | with_reducible refine Ok_allT ?_
    | with_reducible refine Ok_slT ?_ | with_reducible refine Ok_comp ?_ | with_reducible refine Ok_seq ?_ | with_reducible refine Ok_rev ?_ | with_reducible refine Ok_rvT ?_ | with_reducible refine Ok_rvL ?_
    | with_reducible refine Ok_isN ?_ | with_reducible refine Ok_isNN ?_ | with_reducible refine Ok_eqI ?_ | with_reducible refine Ok_neI ?_ | with_reducible refine Ok_par ?_ | with_reducible refine Ok_asgT ?_
    | with_reducible refine Ok_mth ?_ | with_reducible refine Ok_dct ?_ | with_reducible refine Ok_okI ?_ | with_reducible refine Ok_bnd ?_
    | ((with_reducible refine Ok_ift ?_ ?_); (exact rfl)) | ((with_reducible refine Ok_iff ?_ ?_); (exact rfl))
    | refine Exists.intro _ (And.intro rfl ?_) | refine Exists.intro _ (Exists.intro _ (And.intro rfl (And.intro (show List.length _ ≤ _ by first | decide | simp) ?_))))
  refine Ok_repr hy ?_
  repeat' (first
    | ((with_reducible apply Ok_var); (exact rfl))
    | with_reducible refine Ok_cons ?_ | with_reducible refine Ok_nil ?_ | with_reducible refine Ok_asg ?_ | with_reducible refine Ok_ret ?_ | with_reducible refine Ok_sub ?_ | with_reducible refine Ok_ife ?_
    | with_reducible refine Ok_expr ?_ | with_reducible refine Go_nx ?_ | with_reducible refine Go_rt ?_ | with_reducible refine Ok_cst ?_ | with_reducible refine Ok_bin ?_ | with_reducible refine Ok_idx ?_
    | with_reducible refine Ok_cmp ?_ | with_reducible refine Ok_chn ?_ | with_reducible refine Ok_and ?_ | with_reducible refine Ok_or ?_ | with_reducible refine Ok_not ?_ | with_reducible refine Ok_blt ?_
    | with_reducible refine Ok_callE ?_ | with_reducible refine Ok_slc ?_ | with_reducible refine Ok_ifx ?_ | with_reducible refine Ok_neg ?_ | with_reducible refine Ok_esc ?_ | with_reducible refine Ok_esn ?_
    | with_reducible refine Ok_ono ?_ | with_reducible refine Ok_oye ?_ | with_reducible refine Ok_cno ?_ | with_reducible refine Ok_cye ?_ | with_reducible refine Ok_tup ?_ | with_reducible refine Ok_lst ?_
    | with_reducible refine Ok_toB ?_ | with_reducible refine Ok_isB ?_ | with_reducible refine Ok_lt ?_ | with_reducible refine Ok_le ?_ | with_reducible refine Ok_gt ?_ | with_reducible refine Ok_ge ?_
    | with_reducible refine Ok_add ?_ | with_reducible refine Ok_sb ?_ | with_reducible refine Ok_lenS ?_ | with_reducible refine Ok_lenT ?_ | with_reducible refine Ok_lenL ?_ | with_reducible refine Ok_min ?_
    | with_reducible refine Ok_max ?_ | with_reducible refine Ok_tuL ?_ | with_reducible refine Ok_liT ?_ | with_reducible refine Ok_isi ?_ | with_reducible refine Ok_allF ?_ | with_reducible refine Ok_allT ?_
    | with_reducible refine Ok_slT ?_ | with_reducible refine Ok_comp ?_ | with_reducible refine Ok_seq ?_ | with_reducible refine Ok_rev ?_ | with_reducible refine Ok_rvT ?_ | with_reducible refine Ok_rvL ?_
    | with_reducible refine Ok_isN ?_ | with_reducible refine Ok_isNN ?_ | with_reducible refine Ok_eqI ?_ | with_reducible refine Ok_neI ?_ | with_reducible refine Ok_par ?_ | with_reducible refine Ok_asgT ?_
    | with_reducible refine Ok_mth ?_ | with_reducible refine Ok_dct ?_ | with_reducible refine Ok_okI ?_ | with_reducible refine Ok_bnd ?_
    | ((with_reducible refine Ok_ift ?_ ?_); (exact rfl)) | ((with_reducible refine Ok_iff ?_ ?_); (exact rfl))
    | refine Exists.intro _ (And.intro rfl ?_) | refine Exists.intro _ (Exists.intro _ (And.intro rfl (And.intro (show List.length _ ≤ _ by first | decide | simp) ?_))))
  refine Ok_eqP rfl rfl (Nat.zero_le _) ?_
  repeat' (first
    | ((with_reducible apply Ok_var); (exact rfl))
    | with_reducible refine Ok_cons ?_ | with_reducible refine Ok_nil ?_ | with_reducible refine Ok_asg ?_ | with_reducible refine Ok_ret ?_ | with_reducible refine Ok_sub ?_ | with_reducible refine Ok_ife ?_
    | with_reducible refine Ok_expr ?_ | with_reducible refine Go_nx ?_ | with_reducible refine Go_rt ?_ | with_reducible refine Ok_cst ?_ | with_reducible refine Ok_bin ?_ | with_reducible refine Ok_idx ?_
    | with_reducible refine Ok_cmp ?_ | with_reducible refine Ok_chn ?_ | with_reducible refine Ok_and ?_ | with_reducible refine Ok_or ?_ | with_reducible refine Ok_not ?_ | with_reducible refine Ok_blt ?_
    | with_reducible refine Ok_callE ?_ | with_reducible refine Ok_slc ?_ | with_reducible refine Ok_ifx ?_ | with_reducible refine Ok_neg ?_ | with_reducible refine Ok_esc ?_ | with_reducible refine Ok_esn ?_
    | with_reducible refine Ok_ono ?_ | with_reducible refine Ok_oye ?_ | with_reducible refine Ok_cno ?_ | with_reducible refine Ok_cye ?_ | with_reducible refine Ok_tup ?_ | with_reducible refine Ok_lst ?_
    | with_reducible refine Ok_toB ?_ | with_reducible refine Ok_isB ?_ | with_reducible refine Ok_lt ?_ | with_reducible refine Ok_le ?_ | with_reducible refine Ok_gt ?_ | with_reducible refine Ok_ge ?_
    | with_reducible refine Ok_add ?_ | with_reducible refine Ok_sb ?_ | with_reducible refine Ok_lenS ?_ | with_reducible refine Ok_lenT ?_ | with_reducible refine Ok_lenL ?_ | with_reducible refine Ok_min ?_
    | with_reducible refine Ok_max ?_ | with_reducible refine Ok_tuL ?_ | with_reducible refine Ok_liT ?_ | with_reducible refine Ok_isi ?_ | with_reducible refine Ok_allF ?_ | with_reducible refine Ok_allT ?_
    | with_reducible refine Ok_slT ?_ | with_reducible refine Ok_comp ?_ | with_reducible refine Ok_seq ?_ | with_reducible refine Ok_rev ?_ | with_reducible refine Ok_rvT ?_ | with_reducible refine Ok_rvL ?_
    | with_reducible refine Ok_isN ?_ | with_reducible refine Ok_isNN ?_ | with_reducible refine Ok_eqI ?_ | with_reducible refine Ok_neI ?_ | with_reducible refine Ok_par ?_ | with_reducible refine Ok_asgT ?_
    | with_reducible refine Ok_mth ?_ | with_reducible refine Ok_dct ?_ | with_reducible refine Ok_okI ?_ | with_reducible refine Ok_bnd ?_
    | ((with_reducible refine Ok_ift ?_ ?_); (exact rfl)) | ((with_reducible refine Ok_iff ?_ ?_); (exact rfl))
    | refine Exists.intro _ (And.intro rfl ?_) | refine Exists.intro _ (Exists.intro _ (And.intro rfl (And.intro (show List.length _ ≤ _ by first | decide | simp) ?_))))
  exact fin_p (Nat.le_refl _) ⟨rfl, rfl⟩
theorem eqv_str (x : Str) : PyData.eqv (.str x) (.str x) = true := SeqAt.eqv_refl_plain _ rfl
theorem same_refl (hT : T 7 = some ⟨2, 2, true, bSame⟩) {M : Mem} {x : PyData} (hx : Shw x = true) : run T fuel (k + 1) 7 [.p x, .p x] M = .ok (.p (.bool true)) M := by
  rw [same_ok hT hx hx, eqv_str]
end
end Mi

set_option Elab.async false
set_option linter.all false
/-! Mi: data with small leaves, and that repr takes it. -/
namespace Mi
open PySem
mutual
def sm : PyData → Bool
  | .none => true
  | .bool _ => true
  | .int i => decide (i.natAbs < 10 ^ 12)
  | .str x => x.cps.toList.all fun c => decide (c < 16 ^ 8)
  | .list xs => smA xs
  | .tuple xs => smA xs
  | .dict kvs => smK kvs
def smA : List PyData → Bool
  | [] => true
  | x :: xs => sm x && smA xs
def smK : List (PyData × PyData) → Bool
  | [] => true
  | (a, b) :: r => sm a && sm b && smK r
end
theorem log_small {i : Int} (h : i.natAbs < 10 ^ 12) : i.natAbs.log2 < 40 := by
  by_cases h0 : i.natAbs = 0
  · rw [h0]; decide
  · rw [Nat.log2_lt h0]; omega
mutual
theorem sm_show : ∀ x : PyData, sm x = true → x.showable = true ∧ x.leavesShort 13 = true
  | .none, _ => ⟨rfl, rfl⟩
  | .bool _, _ => ⟨rfl, rfl⟩
  | .int i, h => by
    have h' : i.natAbs < 10 ^ 12 := by simpa only [sm, decide_eq_true_eq] using h
    refine ⟨?_, ?_⟩
    · simp only [PyData.showable, decide_eq_true_eq]
      have := log_small h'
      omega
    · simp only [PyData.leavesShort, decide_eq_true_eq]
      exact PyData.shown_int_le h'
  | .str x, h => ⟨rfl, by simpa only [sm, PyData.leavesShort] using h⟩
  | .list xs, h => by
    have := smA_show xs (by simpa only [sm] using h)
    simpa only [PyData.showable, PyData.leavesShort] using this
  | .tuple xs, h => by
    have := smA_show xs (by simpa only [sm] using h)
    simpa only [PyData.showable, PyData.leavesShort] using this
  | .dict kvs, h => by
    have := smK_show kvs (by simpa only [sm] using h)
    simpa only [PyData.showable, PyData.leavesShort] using this
theorem smA_show : ∀ xs : List PyData, smA xs = true → PyData.showableAll xs = true ∧ PyData.leavesShortAll 13 xs = true
  | [], _ => ⟨rfl, rfl⟩
  | x :: xs, h => by
    have h' : sm x = true ∧ smA xs = true := by simpa only [smA, Bool.and_eq_true] using h
    have h1 := sm_show x h'.1
    have h2 := smA_show xs h'.2
    simp only [PyData.showableAll, PyData.leavesShortAll, h1, h2, Bool.and_self, and_self]
theorem smK_show : ∀ xs : List (PyData × PyData), smK xs = true → PyData.showableKv xs = true ∧ PyData.leavesShortKv 13 xs = true
  | [], _ => ⟨rfl, rfl⟩
  | (a, b) :: xs, h => by
    have h' : (sm a = true ∧ sm b = true) ∧ smK xs = true := by simpa only [smK, Bool.and_eq_true] using h
    have h1 := sm_show a h'.1.1
    have h2 := sm_show b h'.1.2
    have h3 := smK_show xs h'.2
    simp only [PyData.showableKv, PyData.leavesShortKv, h1, h2, h3, Bool.and_self, and_self]
end
/-- small in depth and in weight -/
def Sz (n w : Nat) (x : PyData) : Prop := sm x = true ∧ x.depth ≤ n ∧ x.weight ≤ w
def SzA (n w : Nat) (xs : List PyData) : Prop := smA xs = true ∧ PyData.depthAll xs ≤ n ∧ PyData.weightAll xs ≤ w
def szB (n w : Nat) (x : PyData) : Bool := sm x && decide (x.depth ≤ n) && decide (x.weight ≤ w)
theorem Sz.of {n w : Nat} {x : PyData} (h : szB n w x = true) : Sz n w x := by
  simp only [szB, Bool.and_eq_true, decide_eq_true_eq] at h
  exact ⟨h.1.1, h.1.2, h.2⟩
theorem Sz.shw {n w : Nat} {x : PyData} (h : Sz n w x) (hn : n ≤ 60) (hw : w ≤ 2 ^ 20) (hd : x.hasDict = false ∨ noLst x = true) : Shw x = true := by
  have h1 := sm_show x h.1
  have h2 := PyData.shown_fits (B := 13) (by decide) (by decide) h1.2 (Nat.le_trans h.2.2 hw)
  rw [sizeLine_eq] at h2
  have h3 : x.depth ≤ 60 := Nat.le_trans h.2.1 hn
  have h4 : (!x.hasDict || noLst x) = true := by cases hd with
    | inl h => rw [h]; rfl
    | inr h => rw [h, Bool.or_true]
  simp only [Shw, h1.1, h3, h2, h4, decide_true, Bool.and_self]
theorem SzA.tup {n w : Nat} {xs : List PyData} (h : SzA n w xs) : Sz (n + 1) w (.tuple xs) :=
  ⟨by simpa only [sm] using h.1, by simp only [PyData.depth]; exact Nat.succ_le_succ h.2.1, by simpa only [PyData.weight] using h.2.2⟩
theorem SzA.lst {n w : Nat} {xs : List PyData} (h : SzA n w xs) : Sz (n + 1) w (.list xs) :=
  ⟨by simpa only [sm] using h.1, by simp only [PyData.depth]; exact Nat.succ_le_succ h.2.1, by simpa only [PyData.weight] using h.2.2⟩
theorem SzA.nil {n w : Nat} : SzA n w [] := ⟨rfl, Nat.zero_le _, Nat.zero_le _⟩
theorem SzA.cons {n w w' : Nat} {x : PyData} {xs : List PyData} (h : Sz n w x) (h' : SzA n w' xs) : SzA n (w + 1 + w') (x :: xs) :=
  ⟨by simp only [smA, h.1, h'.1, Bool.and_self], by simp only [PyData.depthAll]; exact Nat.max_le.2 ⟨h.2.1, h'.2.1⟩, by simp only [PyData.weightAll]; have := h.2.2; have := h'.2.2; omega⟩
theorem SzA.app {n w w' : Nat} : ∀ {xs ys : List PyData}, SzA n w xs → SzA n w' ys → SzA n (w + w') (xs ++ ys)
  | [], ys, h, h' => ⟨h'.1, h'.2.1, Nat.le_trans h'.2.2 (Nat.le_add_left _ _)⟩
  | x :: xs, ys, h, h' => by
    have h1 : (sm x = true ∧ smA xs = true) ∧ (x.depth ≤ n ∧ PyData.depthAll xs ≤ n) ∧ x.weight + 1 + PyData.weightAll xs ≤ w := by
      have := h
      simp only [SzA, smA, PyData.depthAll, PyData.weightAll, Bool.and_eq_true, Nat.max_le] at this
      exact this
    have h2 : SzA n (w - (x.weight + 1) + w') (xs ++ ys) := SzA.app ⟨h1.1.2, h1.2.1.2, by omega⟩ h'
    have h3 := SzA.cons (n := n) (w := x.weight) (x := x) ⟨h1.1.1, h1.2.1.1, Nat.le_refl _⟩ h2
    rw [List.cons_append]
    exact ⟨h3.1, h3.2.1, by have := h3.2.2; omega⟩
theorem SzA.mono {n w n' w' : Nat} {xs : List PyData} (h : SzA n w xs) (hn : n ≤ n') (hw : w ≤ w') : SzA n' w' xs := ⟨h.1, Nat.le_trans h.2.1 hn, Nat.le_trans h.2.2 hw⟩
theorem Sz.mono {n w n' w' : Nat} {x : PyData} (h : Sz n w x) (hn : n ≤ n') (hw : w ≤ w') : Sz n' w' x := ⟨h.1, Nat.le_trans h.2.1 hn, Nat.le_trans h.2.2 hw⟩
theorem SzA.of_all {n w : Nat} : ∀ {xs : List PyData}, (∀ x ∈ xs, Sz n w x) → SzA n ((w + 1) * xs.length) xs
  | [], _ => SzA.nil
  | x :: xs, h => by
    have h1 := SzA.cons (h x List.mem_cons_self) (SzA.of_all (xs := xs) fun y hy => h y (List.mem_cons_of_mem _ hy))
    exact h1.mono (Nat.le_refl _) (by rw [List.length_cons, Nat.mul_add]; omega)
theorem Sz.int {i : Int} {n : Nat} (h : i.natAbs < 10 ^ 12) : Sz n 40 (.int i) := by
  refine ⟨by simpa only [sm, decide_eq_true_eq] using h, Nat.zero_le _, ?_⟩
  simp only [PyData.weight]
  have := log_small h
  split <;> omega
/-! no dict, or no list, within -/
def ndA (xs : List PyData) : Bool := xs.all fun x => !x.hasDict
theorem hasDictAll_of {xs : List PyData} (h : ∀ x ∈ xs, x.hasDict = false) : PyData.hasDictAll xs = false := by
  induction xs with
  | nil => rfl
  | cons x xs ih =>
    rw [PyData.hasDictAll, h x List.mem_cons_self, ih fun y hy => h y (List.mem_cons_of_mem _ hy)]; rfl
theorem noLstA_of {xs : List PyData} (h : ∀ x ∈ xs, noLst x = true) : noLstA xs = true := by
  induction xs with
  | nil => rfl
  | cons x xs ih =>
    rw [noLstA, h x List.mem_cons_self, ih fun y hy => h y (List.mem_cons_of_mem _ hy)]; rfl

/-! `[1 for x in xs if not p(x)]` -/
def ones (p : PyData → Bool) (xs : List PyData) : List PyData := xs.filterMap fun y => if p y then none else some (.int 1)
theorem ones_eqv (p : PyData → Bool) (xs : List PyData) : PyData.eqv (.list (ones p xs)) (.list []) = xs.all p := by
  unfold ones
  induction xs with
  | nil => rfl
  | cons x xs ih =>
    rw [List.filterMap_cons, List.all_cons]
    cases p x
    · simp [PyData.eqv, PyData.eqvAll]
    · simpa using ih
theorem ones_plain (p : PyData → Bool) (xs : List PyData) : PyData.plain (.list (ones p xs)) = true ∧ PyData.depth (.list (ones p xs)) ≤ 60 := by
  suffices h : PyData.plainAll (ones p xs) = true ∧ PyData.depthAll (ones p xs) = 0 by
    simp only [PyData.plain, PyData.depth, h, true_and]; decide
  unfold ones
  induction xs with
  | nil => exact ⟨rfl, rfl⟩
  | cons x xs ih =>
    rw [List.filterMap_cons]
    cases p x
    · simpa [PyData.plainAll, PyData.depthAll, PyData.plain, PyData.depth] using ih
    · simpa using ih
theorem Ok_neO {p : PyData → Bool} {xs : List PyData} {M : Mem} {Q : D → Mem → Prop} (q : Q (.p (.bool (!xs.all p))) M) : Ok (cmpop .ne (.p (.list (ones p xs))) (.p (.list [])) M) Q := by
  refine Ok_neP (ones_plain p xs).1 rfl (ones_plain p xs).2 ?_
  rw [ones_eqv]; exact q
theorem Ok_eqO {p : PyData → Bool} {xs : List PyData} {M : Mem} {Q : D → Mem → Prop} (q : Q (.p (.bool (xs.all p))) M) : Ok (cmpop .eq (.p (.list (ones p xs))) (.p (.list [])) M) Q := by
  refine Ok_eqP (ones_plain p xs).1 rfl (ones_plain p xs).2 ?_
  rw [ones_eqv]; exact q
theorem comp_not {fn : Fn} {ws : List Nat} {t : Tg} {c : CE} {ρ : Env} (p : PyData → Bool) {M : Mem} {xs : List PyData} {Q : List PyData → Mem → Prop}
    (hf : ∀ x ∈ xs, ∃ ρ', bindT t x (wipeE ρ ws) = some ρ' ∧ Ok (evE fn c ρ' M) (fun d N => d = .p (.bool (p x)) ∧ N = M)) (hl : xs.length ≤ 16777216) (q : Q (ones p xs) M) :
    Ok (compLoop (cmpBody fn ws t (.yes (.not c)) (.cst (.int 1)) ρ) xs [] M) Q := by
  refine comp_ok (fun y => if p y then none else some (.int 1)) (fun x hx => ?_) hl q
  obtain ⟨ρ', e, h⟩ := hf x hx
  refine Ok_bodyC e (Ok_not (h.mono ?_))
  rintro d N ⟨rfl, rfl⟩
  refine Ok_toB (Ok_toB ⟨fun h => Ok_cst ⟨_, _, rfl, ?_, rfl⟩, fun h => ⟨?_, rfl⟩⟩)
  · rw [show p x = false by cases e : p x <;> simp_all]; rfl
  · rw [show p x = true by cases e : p x <;> simp_all]; rfl
end Mi

set_option Elab.async false
set_option linter.all false
set_option maxRecDepth 100000
set_option maxHeartbeats 4000000
/-! Mi: settings, known and drawn. -/
namespace Mi
open PySem
def bIsF : CSs :=
  (.cons (.ife (.cmp .is (.var 0) (.cst .none)) (.cons (.ret (.cst (.bool true))) .nil) .nil) (.cons (.ife (.or (.not (.blt (.isi .tuple) (.cons (.var 0) .nil))) (.cmp .ne (.blt .len (.cons (.var 0) .nil)) (.cst (.int 2)))) (.cons (.ret (.cst (.bool false))) .nil) .nil) (.cons (.ret (.and (.call 1 (.cons (.idx (.var 0) (.cst (.int 0))) (.cons (.cst (.int 1)) (.cons (.cst (.int 3)) .nil)))) (.call 1 (.cons (.idx (.var 0) (.cst (.int 1))) (.cons (.cst (.int 1)) (.cons (.cst (.int 3)) .nil)))))) .nil)))
def bIsS : CSs :=
  (.cons (.ife (.or (.not (.blt (.isi .tuple) (.cons (.var 0) .nil))) (.cmp .ne (.blt .len (.cons (.var 0) .nil)) (.cst (.int 9)))) (.cons (.ret (.cst (.bool false))) .nil) .nil) (.cons (.asg (.tp [1, 2, 3, 4, 5, 6, 7, 8, 9]) (.var 0)) (.cons (.ife (.or (.not (.call 1 (.cons (.var 1) (.cons (.cst (.int 1)) (.cons (.cst (.int 3)) .nil))))) (.not (.call 1 (.cons (.var 2) (.cons (.cst (.int 1)) (.cons (.cst (.int 5)) .nil)))))) (.cons (.ret (.cst (.bool false))) .nil) .nil) (.cons (.ife (.or (.not (.call 1 (.cons (.var 3) (.cons (.cst (.int 1)) (.cons (.cst (.int 4)) .nil))))) (.not (.call 1 (.cons (.var 4) (.cons (.cst (.int 1)) (.cons (.cst (.int 3)) .nil)))))) (.cons (.ret (.cst (.bool false))) .nil) .nil) (.cons (.ife (.not (.call 1 (.cons (.var 5) (.cons (.cst (.int 1)) (.cons (.cst (.int 3)) .nil))))) (.cons (.ret (.cst (.bool false))) .nil) .nil) (.cons (.ife (.or (.not (.blt (.isi .str) (.cons (.var 6) .nil))) (.or (.cmp .notin (.var 6) (.cst (.tuple [(.str (Str.ofString "oldest")), (.str (Str.ofString "newest"))]))) (.not (.blt (.isi .bool) (.cons (.var 7) .nil))))) (.cons (.ret (.cst (.bool false))) .nil) .nil) (.cons (.ret (.and (.or (.cmp .is (.var 8) (.cst .none)) (.call 1 (.cons (.var 8) (.cons (.cst (.int 0)) (.cons (.cst (.int 4)) .nil))))) (.call 13 (.cons (.var 9) .nil)))) .nil)))))))
def bStg : CSs :=
  (.cons (.par [1, 2, 3] (.cons (.bin .add false (.cst (.int 1)) (.call 5 (.cons (.var 0) (.cons (.cst (.int 3)) .nil)))) (.cons (.bin .add false (.cst (.int 1)) (.call 5 (.cons (.var 0) (.cons (.cst (.int 5)) .nil)))) (.cons (.bin .add false (.cst (.int 1)) (.call 5 (.cons (.var 0) (.cons (.cst (.int 4)) .nil)))) .nil)))) (.cons (.par [4, 5] (.cons (.bin .add false (.cst (.int 1)) (.call 5 (.cons (.var 0) (.cons (.cst (.int 3)) .nil)))) (.cons (.bin .add false (.cst (.int 1)) (.call 5 (.cons (.var 0) (.cons (.cst (.int 3)) .nil)))) .nil))) (.cons (.par [6, 7] (.cons (.call 6 (.cons (.var 0) (.cons (.lst false (.cons (.cst (.str (Str.ofString "oldest"))) (.cons (.cst (.str (Str.ofString "newest"))) .nil))) .nil))) (.cons (.cmp .eq (.call 5 (.cons (.var 0) (.cons (.cst (.int 2)) .nil))) (.cst (.int 0))) .nil))) (.cons (.par [8, 9] (.cons (.call 6 (.cons (.var 0) (.cons (.lst false (.cons (.cst .none) (.cons (.cst .none) (.cons (.cst (.int 0)) (.cons (.cst (.int 1)) (.cons (.cst (.int 2)) (.cons (.cst (.int 3)) (.cons (.cst (.int 4)) .nil)))))))) .nil))) (.cons (.tup (.cons (.bin .add false (.cst (.int 1)) (.call 5 (.cons (.var 0) (.cons (.cst (.int 3)) .nil)))) (.cons (.bin .add false (.cst (.int 1)) (.call 5 (.cons (.var 0) (.cons (.cst (.int 3)) .nil)))) .nil))) .nil))) (.cons (.ret (.tup (.cons (.var 1) (.cons (.var 2) (.cons (.var 3) (.cons (.var 4) (.cons (.var 5) (.cons (.var 6) (.cons (.var 7) (.cons (.var 8) (.cons (.call 6 (.cons (.var 0) (.cons (.lst false (.cons (.cst .none) (.cons (.cst .none) (.cons (.var 9) .nil)))) .nil))) .nil))))))))))) .nil)))))
def bFst : CSs :=
  (.cons (.par [1, 2, 3] (.cons (.idx (.var 0) (.cst (.int 3))) (.cons (.idx (.var 0) (.cst (.int 4))) (.cons (.idx (.var 0) (.cst (.int 7))) .nil)))) (.cons (.ret (.tup (.cons (.cst (.int 0)) (.cons (.tup .nil) (.cons (.bin .mul false (.tup (.cons (.bin .mul false (.tup (.cons (.cst (.int 0)) .nil)) (.bin .sub false (.var 1) (.cst (.int 1)))) .nil)) (.var 2)) (.cons (.ife (.cmp .is (.var 3) (.cst .none)) (.cst (.int 0)) (.var 3)) (.cons (.cst (.int 0)) .nil))))))) .nil))
def bOdds : CSs :=
  (.cons (.asg (.nm 0) (.lst false (.cons (.cst .none) (.cons (.cst (.bool true)) (.cons (.cst (.bool false)) (.cons (.cst (.int 0)) (.cons (.cst (.int 1)) (.cons (.neg (.cst (.int 1))) (.cons (.cst (.int 2)) (.cons (.cst (.int 3)) (.cons (.cst (.int 4)) (.cons (.cst (.int 5)) (.cons (.cst (.int 6)) (.cons (.bin .pow false (.cst (.int 10)) (.cst (.int 11))) (.cons (.neg (.bin .pow false (.cst (.int 10)) (.cst (.int 11)))) (.cons (.cst (.str (Str.ofString ""))) (.cons (.cst (.str (Str.ofString "oldest"))) (.cons (.cst (.str (Str.ofString "newest"))) (.cons (.cst (.str (Str.ofString "Oldest"))) .nil))))))))))))))))))) (.cons (.asg (.nm 0) (.bin .add false (.var 0) (.lst false (.cons (.cst (.str (Str.ofString "yes"))) (.cons (.cst (.str (Str.ofString "2"))) (.cons (.tup .nil) (.cons (.lst false .nil) (.cons (.dct .nil .nil) (.cons (.tup (.cons (.cst (.int 1)) .nil)) (.cons (.tup (.cons (.cst (.int 1)) (.cons (.cst (.int 1)) .nil))) (.cons (.tup (.cons (.cst (.int 3)) (.cons (.cst (.int 3)) .nil))) (.cons (.tup (.cons (.cst (.int 0)) (.cons (.cst (.int 1)) .nil))) (.cons (.tup (.cons (.cst (.int 1)) (.cons (.cst (.int 0)) .nil))) (.cons (.tup (.cons (.cst (.int 4)) (.cons (.cst (.int 1)) .nil))) (.cons (.tup (.cons (.cst (.int 1)) (.cons (.cst (.int 4)) .nil))) (.cons (.tup (.cons (.cst (.int 1)) (.cons (.cst (.int 1)) (.cons (.cst (.int 1)) .nil)))) .nil)))))))))))))))) (.cons (.asg (.nm 0) (.bin .add false (.var 0) (.lst false (.cons (.lst false (.cons (.cst (.int 1)) (.cons (.cst (.int 1)) .nil))) (.cons (.tup (.cons (.cst (.bool true)) (.cons (.cst (.int 1)) .nil))) (.cons (.tup (.cons (.cst (.int 1)) (.cons (.cst (.bool true)) .nil))) (.cons (.tup (.cons (.cst .none) (.cons (.cst (.int 1)) .nil))) (.cons (.tup (.cons (.cst (.str (Str.ofString "1"))) (.cons (.cst (.int 1)) .nil))) (.cons (.tup (.cons (.tup (.cons (.cst (.int 1)) (.cons (.cst (.int 1)) .nil))) .nil)) (.cons (.lst false (.cons (.tup (.cons (.cst (.int 1)) (.cons (.cst (.int 1)) .nil))) .nil)) (.cons (.dct (.cons (.cst (.int 1)) .nil) (.cons (.cst (.int 1)) .nil)) .nil))))))))))) (.cons (.ret (.bin .add false (.var 0) (.lst false (.cons (.tup (.cons (.cst (.int 0)) .nil)) (.cons (.tup (.cons (.tup .nil) .nil)) (.cons (.tup (.cons (.tup (.cons (.cst (.int 0)) .nil)) .nil)) .nil)))))) .nil))))
def bLIsS : CSs :=
  (.cons (.ife (.or (.not (.blt (.isi .tuple) (.cons (.var 0) .nil))) (.cmp .ne (.blt .len (.cons (.var 0) .nil)) (.cst (.int 9)))) (.cons (.ret (.cst (.bool false))) .nil) .nil) (.cons (.ife (.cmp .ne (.comp false [1] (.nm 1) (.rng (.cst (.int 5))) (.yes (.not (.call 8 (.cons (.idx (.var 0) (.var 1)) (.cons (.cst (.int 1)) (.cons (.idx (.lst false (.cons (.cst (.int 3)) (.cons (.cst (.int 5)) (.cons (.cst (.int 4)) (.cons (.cst (.int 3)) (.cons (.cst (.int 3)) .nil)))))) (.var 1)) .nil)))))) (.cst (.int 1))) (.lst false .nil)) (.cons (.ret (.cst (.bool false))) .nil) .nil) (.cons (.ife (.or (.not (.blt (.isi .str) (.cons (.idx (.var 0) (.cst (.int 5))) .nil))) (.or (.cmp .notin (.idx (.var 0) (.cst (.int 5))) (.tup (.cons (.cst (.str (Str.ofString "oldest"))) (.cons (.cst (.str (Str.ofString "newest"))) .nil)))) (.not (.blt (.isi .bool) (.cons (.idx (.var 0) (.cst (.int 6))) .nil))))) (.cons (.ret (.cst (.bool false))) .nil) .nil) (.cons (.ife (.and (.cmp .isnot (.idx (.var 0) (.cst (.int 7))) (.cst .none)) (.not (.call 8 (.cons (.idx (.var 0) (.cst (.int 7))) (.cons (.cst (.int 0)) (.cons (.cst (.int 4)) .nil)))))) (.cons (.ret (.cst (.bool false))) .nil) .nil) (.cons (.ife (.cmp .is (.idx (.var 0) (.cst (.int 8))) (.cst .none)) (.cons (.ret (.cst (.bool true))) .nil) .nil) (.cons (.ret (.and (.blt (.isi .tuple) (.cons (.idx (.var 0) (.cst (.int 8))) .nil)) (.and (.cmp .eq (.blt .len (.cons (.idx (.var 0) (.cst (.int 8))) .nil)) (.cst (.int 2))) (.blt .all (.cons (.comp false [2] (.nm 2) (.seq (.idx (.var 0) (.cst (.int 8)))) .no (.call 8 (.cons (.var 2) (.cons (.cst (.int 1)) (.cons (.cst (.int 3)) .nil))))) .nil))))) .nil))))))
def isF (x : PyData) : Bool := match x with
  | .none => true
  | .tuple [a, b] => isW a 1 3 && isW b 1 3
  | _ => false
def isWay (x : PyData) : Bool := match x with
  | .str y => [PyData.str (Str.ofString "oldest"), .str (Str.ofString "newest")].any fun z => PyData.eqv z (.str y)
  | _ => false
def isBl (x : PyData) : Bool := match x with
  | .bool _ => true
  | _ => false
def isS (x : PyData) : Bool := match x with
  | .tuple [a, b, c, d, e, f, g, h, i] => isW a 1 3 && isW b 1 5 && isW c 1 4 && isW d 1 3 && isW e 1 3 && isWay f && isBl g && (isNone h || isW h 0 4) && isF i
  | _ => false
theorem isTyB (x : PyData) : isTy .bool x = isBl x := by cases x <;> rfl
theorem isF_len {xs : List PyData} (h : ¬ ((xs.length : Int) = 2)) : isF (.tuple xs) = false := by
  match xs, h with
  | [], _ => rfl
  | [_], _ => rfl
  | [a, b], h => exact absurd rfl h
  | _ :: _ :: _ :: _, _ => rfl
theorem isS_len {xs : List PyData} (h : ¬ ((xs.length : Int) = 9)) : isS (.tuple xs) = false := by
  unfold isS
  split
  · rename_i e; cases e; exact absurd rfl h
  · rfl
section
variable {T : Nat → Option FD} {fuel k : Nat}
theorem fuse_ok (h1 : T 1 = some ⟨3, 3, true, bWhole⟩) (h13 : T 13 = some ⟨1, 1, true, bIsF⟩) {M : Mem} (x : PyData) : run T fuel (k + 1 + 1) 13 [.p x] M = .ok (.p (.bool (isF x))) M := by
  refine Ok.out ?_
  refine Ok_call h13 rfl ?_
  simp only [bIsF, enter, List.map_cons, List.map_nil, List.replicate, List.cons_append, List.nil_append, Nat.sub_self, List.append_nil]
  have hW : ∀ M x lo hi, run T fuel (k + 1) 1 [.p x, .p (.int lo), .p (.int hi)] M = .ok (.p (.bool (isW x lo hi))) M := fun M x lo hi => whole_ok h1 x lo hi
  generalize run T fuel (k + 1) = fn at *
  cases x with
  | tuple xs =>
    by_cases hl : (xs.length : Int) = 2
    · obtain ⟨a, b, rfl⟩ : ∃ a b, xs = [a, b] := by
        match xs, hl with
        | [a, b], _ => exact ⟨a, b, rfl⟩
        | [], h => exact absurd h (by decide)
        | [_], h => exact absurd h (by simp)
        | _ :: _ :: _ :: _, h => simp at h; omega
      repeat' (first
    | ((with_reducible apply Ok_var); (exact rfl))
    | with_reducible refine Ok_cons ?_ | with_reducible refine Ok_nil ?_ | with_reducible refine Ok_asg ?_ | with_reducible refine Ok_ret ?_ | with_reducible refine Ok_sub ?_ | with_reducible refine Ok_ife ?_
    | with_reducible refine Ok_expr ?_ | with_reducible refine Go_nx ?_ | with_reducible refine Go_rt ?_ | with_reducible refine Ok_cst ?_ | with_reducible refine Ok_bin ?_ | with_reducible refine Ok_idx ?_
    | with_reducible refine Ok_cmp ?_ | with_reducible refine Ok_chn ?_ | with_reducible refine Ok_and ?_ | with_reducible refine Ok_or ?_ | with_reducible refine Ok_not ?_ | with_reducible refine Ok_blt ?_
    | with_reducible refine Ok_callE ?_ | with_reducible refine Ok_slc ?_ | with_reducible refine Ok_ifx ?_ | with_reducible refine Ok_neg ?_ | with_reducible refine Ok_esc ?_ | with_reducible refine Ok_esn ?_
    | with_reducible refine Ok_ono ?_ | with_reducible refine Ok_oye ?_ | with_reducible refine Ok_cno ?_ | with_reducible refine Ok_cye ?_ | with_reducible refine Ok_tup ?_ | with_reducible refine Ok_lst ?_
    | with_reducible refine Ok_toB ?_ | with_reducible refine Ok_isB ?_ | with_reducible refine Ok_lt ?_ | with_reducible refine Ok_le ?_ | with_reducible refine Ok_gt ?_ | with_reducible refine Ok_ge ?_
    | with_reducible refine Ok_add ?_ | with_reducible refine Ok_sb ?_ | with_reducible refine Ok_lenS ?_ | with_reducible refine Ok_lenT ?_ | with_reducible refine Ok_lenL ?_ | with_reducible refine Ok_min ?_
    | with_reducible refine Ok_max ?_ | with_reducible refine Ok_tuL ?_ | with_reducible refine Ok_liT ?_ | with_reducible refine Ok_isi ?_ | with_reducible refine Ok_allF ?_ | with_reducible refine Ok_allT ?_
    | with_reducible refine Ok_slT ?_ | with_reducible refine Ok_comp ?_ | with_reducible refine Ok_seq ?_ | with_reducible refine Ok_rev ?_ | with_reducible refine Ok_rvT ?_ | with_reducible refine Ok_rvL ?_
    | with_reducible refine Ok_isN ?_ | with_reducible refine Ok_isNN ?_ | with_reducible refine Ok_eqI ?_ | with_reducible refine Ok_neI ?_ | with_reducible refine Ok_par ?_ | with_reducible refine Ok_asgT ?_
    | with_reducible refine Ok_mth ?_ | with_reducible refine Ok_dct ?_ | with_reducible refine Ok_okI ?_ | with_reducible refine Ok_bnd ?_
    | with_reducible refine Ok.eq (hW _ _ _ _) ?_ | with_reducible refine Ok_ixT rfl ?_
    | ((with_reducible refine Ok_ift ?_ ?_); (exact rfl)) | ((with_reducible refine Ok_iff ?_ ?_); (exact rfl))
    | refine Exists.intro _ (And.intro rfl ?_) | refine Exists.intro _ (Exists.intro _ (And.intro rfl (And.intro (show List.length _ ≤ _ by first | decide | simp) ?_)))
    | with_reducible refine Ok_if (fun hc => ?_) (fun hc => ?_))
      all_goals first | (exfalso; simp_all; done) | (refine fin_p (Nat.le_refl _) (And.intro ?_ rfl); simp_all [isF, isF_len])
    · rw [isF_len hl]
      repeat' (first
    | ((with_reducible apply Ok_var); (exact rfl))
    | with_reducible refine Ok_cons ?_ | with_reducible refine Ok_nil ?_ | with_reducible refine Ok_asg ?_ | with_reducible refine Ok_ret ?_ | with_reducible refine Ok_sub ?_ | with_reducible refine Ok_ife ?_
    | with_reducible refine Ok_expr ?_ | with_reducible refine Go_nx ?_ | with_reducible refine Go_rt ?_ | with_reducible refine Ok_cst ?_ | with_reducible refine Ok_bin ?_ | with_reducible refine Ok_idx ?_
    | with_reducible refine Ok_cmp ?_ | with_reducible refine Ok_chn ?_ | with_reducible refine Ok_and ?_ | with_reducible refine Ok_or ?_ | with_reducible refine Ok_not ?_ | with_reducible refine Ok_blt ?_
    | with_reducible refine Ok_callE ?_ | with_reducible refine Ok_slc ?_ | with_reducible refine Ok_ifx ?_ | with_reducible refine Ok_neg ?_ | with_reducible refine Ok_esc ?_ | with_reducible refine Ok_esn ?_
    | with_reducible refine Ok_ono ?_ | with_reducible refine Ok_oye ?_ | with_reducible refine Ok_cno ?_ | with_reducible refine Ok_cye ?_ | with_reducible refine Ok_tup ?_ | with_reducible refine Ok_lst ?_
    | with_reducible refine Ok_toB ?_ | with_reducible refine Ok_isB ?_ | with_reducible refine Ok_lt ?_ | with_reducible refine Ok_le ?_ | with_reducible refine Ok_gt ?_ | with_reducible refine Ok_ge ?_
    | with_reducible refine Ok_add ?_ | with_reducible refine Ok_sb ?_ | with_reducible refine Ok_lenS ?_ | with_reducible refine Ok_lenT ?_ | with_reducible refine Ok_lenL ?_ | with_reducible refine Ok_min ?_
    | with_reducible refine Ok_max ?_ | with_reducible refine Ok_tuL ?_ | with_reducible refine Ok_liT ?_ | with_reducible refine Ok_isi ?_ | with_reducible refine Ok_allF ?_ | with_reducible refine Ok_allT ?_
    | with_reducible refine Ok_slT ?_ | with_reducible refine Ok_comp ?_ | with_reducible refine Ok_seq ?_ | with_reducible refine Ok_rev ?_ | with_reducible refine Ok_rvT ?_ | with_reducible refine Ok_rvL ?_
    | with_reducible refine Ok_isN ?_ | with_reducible refine Ok_isNN ?_ | with_reducible refine Ok_eqI ?_ | with_reducible refine Ok_neI ?_ | with_reducible refine Ok_par ?_ | with_reducible refine Ok_asgT ?_
    | with_reducible refine Ok_mth ?_ | with_reducible refine Ok_dct ?_ | with_reducible refine Ok_okI ?_ | with_reducible refine Ok_bnd ?_
    | with_reducible refine Ok.eq (hW _ _ _ _) ?_ | with_reducible refine Ok_ixT rfl ?_
    | ((with_reducible refine Ok_ift ?_ ?_); (exact rfl)) | ((with_reducible refine Ok_iff ?_ ?_); (exact rfl))
    | refine Exists.intro _ (And.intro rfl ?_) | refine Exists.intro _ (Exists.intro _ (And.intro rfl (And.intro (show List.length _ ≤ _ by first | decide | simp) ?_)))
    | with_reducible refine Ok_if (fun hc => ?_) (fun hc => ?_))
      all_goals first | (exfalso; simp_all; done) | exact fin_p (Nat.le_refl _) (And.intro rfl rfl)
  | _ =>
    repeat' (first
    | ((with_reducible apply Ok_var); (exact rfl))
    | with_reducible refine Ok_cons ?_ | with_reducible refine Ok_nil ?_ | with_reducible refine Ok_asg ?_ | with_reducible refine Ok_ret ?_ | with_reducible refine Ok_sub ?_ | with_reducible refine Ok_ife ?_
    | with_reducible refine Ok_expr ?_ | with_reducible refine Go_nx ?_ | with_reducible refine Go_rt ?_ | with_reducible refine Ok_cst ?_ | with_reducible refine Ok_bin ?_ | with_reducible refine Ok_idx ?_
    | with_reducible refine Ok_cmp ?_ | with_reducible refine Ok_chn ?_ | with_reducible refine Ok_and ?_ | with_reducible refine Ok_or ?_ | with_reducible refine Ok_not ?_ | with_reducible refine Ok_blt ?_
    | with_reducible refine Ok_callE ?_ | with_reducible refine Ok_slc ?_ | with_reducible refine Ok_ifx ?_ | with_reducible refine Ok_neg ?_ | with_reducible refine Ok_esc ?_ | with_reducible refine Ok_esn ?_
    | with_reducible refine Ok_ono ?_ | with_reducible refine Ok_oye ?_ | with_reducible refine Ok_cno ?_ | with_reducible refine Ok_cye ?_ | with_reducible refine Ok_tup ?_ | with_reducible refine Ok_lst ?_
    | with_reducible refine Ok_toB ?_ | with_reducible refine Ok_isB ?_ | with_reducible refine Ok_lt ?_ | with_reducible refine Ok_le ?_ | with_reducible refine Ok_gt ?_ | with_reducible refine Ok_ge ?_
    | with_reducible refine Ok_add ?_ | with_reducible refine Ok_sb ?_ | with_reducible refine Ok_lenS ?_ | with_reducible refine Ok_lenT ?_ | with_reducible refine Ok_lenL ?_ | with_reducible refine Ok_min ?_
    | with_reducible refine Ok_max ?_ | with_reducible refine Ok_tuL ?_ | with_reducible refine Ok_liT ?_ | with_reducible refine Ok_isi ?_ | with_reducible refine Ok_allF ?_ | with_reducible refine Ok_allT ?_
    | with_reducible refine Ok_slT ?_ | with_reducible refine Ok_comp ?_ | with_reducible refine Ok_seq ?_ | with_reducible refine Ok_rev ?_ | with_reducible refine Ok_rvT ?_ | with_reducible refine Ok_rvL ?_
    | with_reducible refine Ok_isN ?_ | with_reducible refine Ok_isNN ?_ | with_reducible refine Ok_eqI ?_ | with_reducible refine Ok_neI ?_ | with_reducible refine Ok_par ?_ | with_reducible refine Ok_asgT ?_
    | with_reducible refine Ok_mth ?_ | with_reducible refine Ok_dct ?_ | with_reducible refine Ok_okI ?_ | with_reducible refine Ok_bnd ?_
    | with_reducible refine Ok.eq (hW _ _ _ _) ?_
    | ((with_reducible refine Ok_ift ?_ ?_); (exact rfl)) | ((with_reducible refine Ok_iff ?_ ?_); (exact rfl))
    | refine Exists.intro _ (And.intro rfl ?_) | refine Exists.intro _ (Exists.intro _ (And.intro rfl (And.intro (show List.length _ ≤ _ by first | decide | simp) ?_)))
    | with_reducible refine Ok_if (fun hc => ?_) (fun hc => ?_))
    all_goals first | (exfalso; simp_all; done) | (refine fin_p (Nat.le_refl _) (And.intro ?_ rfl); simp_all [isF, isF_len])
theorem isWay_any (y : Str) : ([PyData.str (Str.ofString "oldest"), .str (Str.ofString "newest")].any fun z => PyData.eqv z (.str y)) = isWay (.str y) := rfl
theorem Ok_notin {M : Mem} {Q : D → Mem → Prop} {x : PyData} {xs : List PyData} (h : (PyData.plainAll xs && x.plain && decide (x.depth ≤ 60)) = true) (q : Q (.p (.bool (!xs.any fun y => PyData.eqv y x))) M) : Ok (cmpop .notin (.p x) (.p (.tuple xs)) M) Q :=
  ⟨_, M, by simp only [cmpop, dat, cmpB]; rw [if_pos h], q⟩
theorem set_ok (h1 : T 1 = some ⟨3, 3, true, bWhole⟩) (h13 : T 13 = some ⟨1, 1, true, bIsF⟩) (h14 : T 14 = some ⟨1, 10, true, bIsS⟩) {M : Mem} (x : PyData) : run T fuel (k + 1 + 1 + 1) 14 [.p x] M = .ok (.p (.bool (isS x))) M := by
  refine Ok.out ?_
  refine Ok_call h14 rfl ?_
  simp only [bIsS, enter, List.map_cons, List.map_nil, List.replicate, List.cons_append, List.nil_append, Nat.sub_self, List.append_nil]
  have hW : ∀ M x lo hi, run T fuel (k + 1 + 1) 1 [.p x, .p (.int lo), .p (.int hi)] M = .ok (.p (.bool (isW x lo hi))) M := fun M x lo hi => whole_ok h1 x lo hi
  have hF : ∀ M x, run T fuel (k + 1 + 1) 13 [.p x] M = .ok (.p (.bool (isF x))) M := fun M x => fuse_ok h1 h13 x
  generalize run T fuel (k + 1 + 1) = fn at *
  cases x with
  | tuple xs =>
    by_cases hl : (xs.length : Int) = 9
    · obtain ⟨a, b, c, d, e, f, g, h, i, rfl⟩ : ∃ a b c d e f g h i, xs = [a, b, c, d, e, f, g, h, i] := by
        match xs, hl with
        | [a, b, c, d, e, f, g, h, i], _ => exact ⟨a, b, c, d, e, f, g, h, i, rfl⟩
        | [], h | [_], h | [_, _], h | [_, _, _], h | [_, _, _, _], h | [_, _, _, _, _], h | [_, _, _, _, _, _], h | [_, _, _, _, _, _, _], h | [_, _, _, _, _, _, _, _], h => exact absurd h (by simp)
        | _ :: _ :: _ :: _ :: _ :: _ :: _ :: _ :: _ :: _ :: _, h => simp at h; omega
      cases f with
      | str y =>
        repeat' (first
    | ((with_reducible apply Ok_var); (exact rfl))
    | with_reducible refine Ok_cons ?_ | with_reducible refine Ok_nil ?_ | with_reducible refine Ok_asg ?_ | with_reducible refine Ok_ret ?_ | with_reducible refine Ok_sub ?_ | with_reducible refine Ok_ife ?_
    | with_reducible refine Ok_expr ?_ | with_reducible refine Go_nx ?_ | with_reducible refine Go_rt ?_ | with_reducible refine Ok_cst ?_ | with_reducible refine Ok_bin ?_ | with_reducible refine Ok_idx ?_
    | with_reducible refine Ok_cmp ?_ | with_reducible refine Ok_chn ?_ | with_reducible refine Ok_and ?_ | with_reducible refine Ok_or ?_ | with_reducible refine Ok_not ?_ | with_reducible refine Ok_blt ?_
    | with_reducible refine Ok_callE ?_ | with_reducible refine Ok_slc ?_ | with_reducible refine Ok_ifx ?_ | with_reducible refine Ok_neg ?_ | with_reducible refine Ok_esc ?_ | with_reducible refine Ok_esn ?_
    | with_reducible refine Ok_ono ?_ | with_reducible refine Ok_oye ?_ | with_reducible refine Ok_cno ?_ | with_reducible refine Ok_cye ?_ | with_reducible refine Ok_tup ?_ | with_reducible refine Ok_lst ?_
    | with_reducible refine Ok_toB ?_ | with_reducible refine Ok_isB ?_ | with_reducible refine Ok_lt ?_ | with_reducible refine Ok_le ?_ | with_reducible refine Ok_gt ?_ | with_reducible refine Ok_ge ?_
    | with_reducible refine Ok_add ?_ | with_reducible refine Ok_sb ?_ | with_reducible refine Ok_lenS ?_ | with_reducible refine Ok_lenT ?_ | with_reducible refine Ok_lenL ?_ | with_reducible refine Ok_min ?_
    | with_reducible refine Ok_max ?_ | with_reducible refine Ok_tuL ?_ | with_reducible refine Ok_liT ?_ | with_reducible refine Ok_isi ?_ | with_reducible refine Ok_allF ?_ | with_reducible refine Ok_allT ?_
    | with_reducible refine Ok_slT ?_ | with_reducible refine Ok_comp ?_ | with_reducible refine Ok_seq ?_ | with_reducible refine Ok_rev ?_ | with_reducible refine Ok_rvT ?_ | with_reducible refine Ok_rvL ?_
    | with_reducible refine Ok_isN ?_ | with_reducible refine Ok_isNN ?_ | with_reducible refine Ok_eqI ?_ | with_reducible refine Ok_neI ?_ | with_reducible refine Ok_par ?_ | with_reducible refine Ok_asgT ?_
    | with_reducible refine Ok_mth ?_ | with_reducible refine Ok_dct ?_ | with_reducible refine Ok_okI ?_ | with_reducible refine Ok_bnd ?_
    | with_reducible refine Ok.eq (hW _ _ _ _) ?_ | with_reducible refine Ok.eq (hF _ _) ?_ | with_reducible refine Ok_notin rfl ?_
    | ((with_reducible refine Ok_ift ?_ ?_); (exact rfl)) | ((with_reducible refine Ok_iff ?_ ?_); (exact rfl))
    | refine Exists.intro _ (And.intro rfl ?_) | refine Exists.intro _ (Exists.intro _ (And.intro rfl (And.intro (show List.length _ ≤ _ by first | decide | simp) ?_)))
    | with_reducible refine Ok_if (fun hc => ?_) (fun hc => ?_))
        all_goals first | (exfalso; simp_all; done) | (refine fin_p (Nat.le_refl _) (And.intro ?_ rfl); simp_all [isS, isWay, isTyB]; done) | (refine fin_p (Nat.le_refl _) (And.intro ?_ rfl); simp only [isWay_any, isTyB, Bool.not_eq_false'] at *; simp only [isS, *, Bool.true_and, Bool.true_or, Bool.false_or, Bool.or_true, Bool.and_true])
      | _ =>
        repeat' (first
    | ((with_reducible apply Ok_var); (exact rfl))
    | with_reducible refine Ok_cons ?_ | with_reducible refine Ok_nil ?_ | with_reducible refine Ok_asg ?_ | with_reducible refine Ok_ret ?_ | with_reducible refine Ok_sub ?_ | with_reducible refine Ok_ife ?_
    | with_reducible refine Ok_expr ?_ | with_reducible refine Go_nx ?_ | with_reducible refine Go_rt ?_ | with_reducible refine Ok_cst ?_ | with_reducible refine Ok_bin ?_ | with_reducible refine Ok_idx ?_
    | with_reducible refine Ok_cmp ?_ | with_reducible refine Ok_chn ?_ | with_reducible refine Ok_and ?_ | with_reducible refine Ok_or ?_ | with_reducible refine Ok_not ?_ | with_reducible refine Ok_blt ?_
    | with_reducible refine Ok_callE ?_ | with_reducible refine Ok_slc ?_ | with_reducible refine Ok_ifx ?_ | with_reducible refine Ok_neg ?_ | with_reducible refine Ok_esc ?_ | with_reducible refine Ok_esn ?_
    | with_reducible refine Ok_ono ?_ | with_reducible refine Ok_oye ?_ | with_reducible refine Ok_cno ?_ | with_reducible refine Ok_cye ?_ | with_reducible refine Ok_tup ?_ | with_reducible refine Ok_lst ?_
    | with_reducible refine Ok_toB ?_ | with_reducible refine Ok_isB ?_ | with_reducible refine Ok_lt ?_ | with_reducible refine Ok_le ?_ | with_reducible refine Ok_gt ?_ | with_reducible refine Ok_ge ?_
    | with_reducible refine Ok_add ?_ | with_reducible refine Ok_sb ?_ | with_reducible refine Ok_lenS ?_ | with_reducible refine Ok_lenT ?_ | with_reducible refine Ok_lenL ?_ | with_reducible refine Ok_min ?_
    | with_reducible refine Ok_max ?_ | with_reducible refine Ok_tuL ?_ | with_reducible refine Ok_liT ?_ | with_reducible refine Ok_isi ?_ | with_reducible refine Ok_allF ?_ | with_reducible refine Ok_allT ?_
    | with_reducible refine Ok_slT ?_ | with_reducible refine Ok_comp ?_ | with_reducible refine Ok_seq ?_ | with_reducible refine Ok_rev ?_ | with_reducible refine Ok_rvT ?_ | with_reducible refine Ok_rvL ?_
    | with_reducible refine Ok_isN ?_ | with_reducible refine Ok_isNN ?_ | with_reducible refine Ok_eqI ?_ | with_reducible refine Ok_neI ?_ | with_reducible refine Ok_par ?_ | with_reducible refine Ok_asgT ?_
    | with_reducible refine Ok_mth ?_ | with_reducible refine Ok_dct ?_ | with_reducible refine Ok_okI ?_ | with_reducible refine Ok_bnd ?_
    | with_reducible refine Ok.eq (hW _ _ _ _) ?_ | with_reducible refine Ok.eq (hF _ _) ?_
    | ((with_reducible refine Ok_ift ?_ ?_); (exact rfl)) | ((with_reducible refine Ok_iff ?_ ?_); (exact rfl))
    | refine Exists.intro _ (And.intro rfl ?_) | refine Exists.intro _ (Exists.intro _ (And.intro rfl (And.intro (show List.length _ ≤ _ by first | decide | simp) ?_)))
    | with_reducible refine Ok_if (fun hc => ?_) (fun hc => ?_))
        all_goals first | (exfalso; simp_all; done) | (refine fin_p (Nat.le_refl _) (And.intro ?_ rfl); simp_all [isS, isWay, isTyB]; done)
    · rw [isS_len hl]
      repeat' (first
    | ((with_reducible apply Ok_var); (exact rfl))
    | with_reducible refine Ok_cons ?_ | with_reducible refine Ok_nil ?_ | with_reducible refine Ok_asg ?_ | with_reducible refine Ok_ret ?_ | with_reducible refine Ok_sub ?_ | with_reducible refine Ok_ife ?_
    | with_reducible refine Ok_expr ?_ | with_reducible refine Go_nx ?_ | with_reducible refine Go_rt ?_ | with_reducible refine Ok_cst ?_ | with_reducible refine Ok_bin ?_ | with_reducible refine Ok_idx ?_
    | with_reducible refine Ok_cmp ?_ | with_reducible refine Ok_chn ?_ | with_reducible refine Ok_and ?_ | with_reducible refine Ok_or ?_ | with_reducible refine Ok_not ?_ | with_reducible refine Ok_blt ?_
    | with_reducible refine Ok_callE ?_ | with_reducible refine Ok_slc ?_ | with_reducible refine Ok_ifx ?_ | with_reducible refine Ok_neg ?_ | with_reducible refine Ok_esc ?_ | with_reducible refine Ok_esn ?_
    | with_reducible refine Ok_ono ?_ | with_reducible refine Ok_oye ?_ | with_reducible refine Ok_cno ?_ | with_reducible refine Ok_cye ?_ | with_reducible refine Ok_tup ?_ | with_reducible refine Ok_lst ?_
    | with_reducible refine Ok_toB ?_ | with_reducible refine Ok_isB ?_ | with_reducible refine Ok_lt ?_ | with_reducible refine Ok_le ?_ | with_reducible refine Ok_gt ?_ | with_reducible refine Ok_ge ?_
    | with_reducible refine Ok_add ?_ | with_reducible refine Ok_sb ?_ | with_reducible refine Ok_lenS ?_ | with_reducible refine Ok_lenT ?_ | with_reducible refine Ok_lenL ?_ | with_reducible refine Ok_min ?_
    | with_reducible refine Ok_max ?_ | with_reducible refine Ok_tuL ?_ | with_reducible refine Ok_liT ?_ | with_reducible refine Ok_isi ?_ | with_reducible refine Ok_allF ?_ | with_reducible refine Ok_allT ?_
    | with_reducible refine Ok_slT ?_ | with_reducible refine Ok_comp ?_ | with_reducible refine Ok_seq ?_ | with_reducible refine Ok_rev ?_ | with_reducible refine Ok_rvT ?_ | with_reducible refine Ok_rvL ?_
    | with_reducible refine Ok_isN ?_ | with_reducible refine Ok_isNN ?_ | with_reducible refine Ok_eqI ?_ | with_reducible refine Ok_neI ?_ | with_reducible refine Ok_par ?_ | with_reducible refine Ok_asgT ?_
    | with_reducible refine Ok_mth ?_ | with_reducible refine Ok_dct ?_ | with_reducible refine Ok_okI ?_ | with_reducible refine Ok_bnd ?_
    | ((with_reducible refine Ok_ift ?_ ?_); (exact rfl)) | ((with_reducible refine Ok_iff ?_ ?_); (exact rfl))
    | refine Exists.intro _ (And.intro rfl ?_) | refine Exists.intro _ (Exists.intro _ (And.intro rfl (And.intro (show List.length _ ≤ _ by first | decide | simp) ?_)))
    | with_reducible refine Ok_if (fun hc => ?_) (fun hc => ?_))
      all_goals first | (exfalso; simp_all; done) | exact fin_p (Nat.le_refl _) (And.intro rfl rfl)
  | _ =>
    repeat' (first
    | ((with_reducible apply Ok_var); (exact rfl))
    | with_reducible refine Ok_cons ?_ | with_reducible refine Ok_nil ?_ | with_reducible refine Ok_asg ?_ | with_reducible refine Ok_ret ?_ | with_reducible refine Ok_sub ?_ | with_reducible refine Ok_ife ?_
    | with_reducible refine Ok_expr ?_ | with_reducible refine Go_nx ?_ | with_reducible refine Go_rt ?_ | with_reducible refine Ok_cst ?_ | with_reducible refine Ok_bin ?_ | with_reducible refine Ok_idx ?_
    | with_reducible refine Ok_cmp ?_ | with_reducible refine Ok_chn ?_ | with_reducible refine Ok_and ?_ | with_reducible refine Ok_or ?_ | with_reducible refine Ok_not ?_ | with_reducible refine Ok_blt ?_
    | with_reducible refine Ok_callE ?_ | with_reducible refine Ok_slc ?_ | with_reducible refine Ok_ifx ?_ | with_reducible refine Ok_neg ?_ | with_reducible refine Ok_esc ?_ | with_reducible refine Ok_esn ?_
    | with_reducible refine Ok_ono ?_ | with_reducible refine Ok_oye ?_ | with_reducible refine Ok_cno ?_ | with_reducible refine Ok_cye ?_ | with_reducible refine Ok_tup ?_ | with_reducible refine Ok_lst ?_
    | with_reducible refine Ok_toB ?_ | with_reducible refine Ok_isB ?_ | with_reducible refine Ok_lt ?_ | with_reducible refine Ok_le ?_ | with_reducible refine Ok_gt ?_ | with_reducible refine Ok_ge ?_
    | with_reducible refine Ok_add ?_ | with_reducible refine Ok_sb ?_ | with_reducible refine Ok_lenS ?_ | with_reducible refine Ok_lenT ?_ | with_reducible refine Ok_lenL ?_ | with_reducible refine Ok_min ?_
    | with_reducible refine Ok_max ?_ | with_reducible refine Ok_tuL ?_ | with_reducible refine Ok_liT ?_ | with_reducible refine Ok_isi ?_ | with_reducible refine Ok_allF ?_ | with_reducible refine Ok_allT ?_
    | with_reducible refine Ok_slT ?_ | with_reducible refine Ok_comp ?_ | with_reducible refine Ok_seq ?_ | with_reducible refine Ok_rev ?_ | with_reducible refine Ok_rvT ?_ | with_reducible refine Ok_rvL ?_
    | with_reducible refine Ok_isN ?_ | with_reducible refine Ok_isNN ?_ | with_reducible refine Ok_eqI ?_ | with_reducible refine Ok_neI ?_ | with_reducible refine Ok_par ?_ | with_reducible refine Ok_asgT ?_
    | with_reducible refine Ok_mth ?_ | with_reducible refine Ok_dct ?_ | with_reducible refine Ok_okI ?_ | with_reducible refine Ok_bnd ?_
    | ((with_reducible refine Ok_ift ?_ ?_); (exact rfl)) | ((with_reducible refine Ok_iff ?_ ?_); (exact rfl))
    | refine Exists.intro _ (And.intro rfl ?_) | refine Exists.intro _ (Exists.intro _ (And.intro rfl (And.intro (show List.length _ ≤ _ by first | decide | simp) ?_)))
    | with_reducible refine Ok_if (fun hc => ?_) (fun hc => ?_))
    all_goals first | (exfalso; simp_all; done) | (refine fin_p (Nat.le_refl _) (And.intro ?_ rfl); simp_all [isS, isS_len])
end
end Mi

set_option Elab.async false
set_option linter.all false
set_option maxRecDepth 100000
set_option maxHeartbeats 4000000
namespace Mi
open PySem
section
variable {T : Nat → Option FD} {fuel k : Nat}
theorem asBools_map (f : PyData → Bool) : ∀ xs : List PyData, asBools (xs.map fun x => .bool (f x)) = some (xs.map f)
  | [] => rfl
  | x :: xs => by simp only [List.map_cons, asBools, asBools_map f xs, Option.map_some]
theorem Ok_allB {f : PyData → Bool} {xs : List PyData} {M : Mem} {Q : D → Mem → Prop} (q : Q (.p (.bool (xs.all f))) M) : Ok (bltop .all [.p (.list (xs.map fun x => .bool (f x)))] M) Q :=
  ⟨_, M, by simp only [bltop, one, dat, bAll, asBools_map, List.all_map]; rfl, q⟩
theorem isF_all (xs : List PyData) : (xs.length == 2 && xs.all fun y => isW y 1 3) = isF (.tuple xs) := by
  match xs with
  | [] => rfl
  | [_] => rfl
  | [a, b] => simp [isF]
  | _ :: _ :: _ :: _ => simp [isF]
theorem lset_ok (h8 : T 8 = some ⟨3, 3, true, bWhole⟩) (h17 : T 17 = some ⟨1, 3, true, bLIsS⟩) {M : Mem} (x : PyData) (hx : ∀ xs, x = .tuple xs → ∀ ys, PyData.tuple ys ∈ xs → ys.length ≤ 16777216) : run T fuel (k + 1 + 1) 17 [.p x] M = .ok (.p (.bool (isS x))) M := by
  refine Ok.out ?_
  refine Ok_call h17 rfl ?_
  simp only [bLIsS, enter, List.map_cons, List.map_nil, List.replicate, List.cons_append, List.nil_append, Nat.sub_self, List.append_nil]
  have hW : ∀ M x lo hi, run T fuel (k + 1) 8 [.p x, .p (.int lo), .p (.int hi)] M = .ok (.p (.bool (isW x lo hi))) M := fun M x lo hi => whole_ok h8 x lo hi
  generalize run T fuel (k + 1) = fn at *
  cases x with
  | tuple xs =>
    by_cases hl : (xs.length : Int) = 9
    · obtain ⟨a, b, c, d, e, f, g, h, i, rfl⟩ : ∃ a b c d e f g h i, xs = [a, b, c, d, e, f, g, h, i] := by
        match xs, hl with
        | [a, b, c, d, e, f, g, h, i], _ => exact ⟨a, b, c, d, e, f, g, h, i, rfl⟩
        | [], h | [_], h | [_, _], h | [_, _, _], h | [_, _, _, _], h | [_, _, _, _, _], h | [_, _, _, _, _, _], h | [_, _, _, _, _, _, _], h | [_, _, _, _, _, _, _, _], h => exact absurd h (by simp)
        | _ :: _ :: _ :: _ :: _ :: _ :: _ :: _ :: _ :: _ :: _, h => simp at h; omega
      repeat' (first
    | ((with_reducible apply Ok_var); (exact rfl))
    | with_reducible refine Ok_cons ?_ | with_reducible refine Ok_nil ?_ | with_reducible refine Ok_asg ?_ | with_reducible refine Ok_ret ?_ | with_reducible refine Ok_sub ?_ | with_reducible refine Ok_ife ?_
    | with_reducible refine Ok_expr ?_ | with_reducible refine Go_nx ?_ | with_reducible refine Go_rt ?_ | with_reducible refine Ok_cst ?_ | with_reducible refine Ok_bin ?_ | with_reducible refine Ok_idx ?_
    | with_reducible refine Ok_cmp ?_ | with_reducible refine Ok_chn ?_ | with_reducible refine Ok_and ?_ | with_reducible refine Ok_or ?_ | with_reducible refine Ok_not ?_ | with_reducible refine Ok_blt ?_
    | with_reducible refine Ok_callE ?_ | with_reducible refine Ok_slc ?_ | with_reducible refine Ok_ifx ?_ | with_reducible refine Ok_neg ?_ | with_reducible refine Ok_esc ?_ | with_reducible refine Ok_esn ?_
    | with_reducible refine Ok_ono ?_ | with_reducible refine Ok_oye ?_ | with_reducible refine Ok_cno ?_ | with_reducible refine Ok_cye ?_ | with_reducible refine Ok_tup ?_ | with_reducible refine Ok_lst ?_
    | with_reducible refine Ok_toB ?_ | with_reducible refine Ok_isB ?_ | with_reducible refine Ok_lt ?_ | with_reducible refine Ok_le ?_ | with_reducible refine Ok_gt ?_ | with_reducible refine Ok_ge ?_
    | with_reducible refine Ok_add ?_ | with_reducible refine Ok_sb ?_ | with_reducible refine Ok_lenS ?_ | with_reducible refine Ok_lenT ?_ | with_reducible refine Ok_lenL ?_ | with_reducible refine Ok_min ?_
    | with_reducible refine Ok_max ?_ | with_reducible refine Ok_tuL ?_ | with_reducible refine Ok_liT ?_ | with_reducible refine Ok_isi ?_ | with_reducible refine Ok_allF ?_ | with_reducible refine Ok_allT ?_
    | with_reducible refine Ok_slT ?_ | with_reducible refine Ok_comp ?_ | with_reducible refine Ok_seq ?_ | with_reducible refine Ok_rev ?_ | with_reducible refine Ok_rvT ?_ | with_reducible refine Ok_rvL ?_
    | with_reducible refine Ok_isN ?_ | with_reducible refine Ok_isNN ?_ | with_reducible refine Ok_eqI ?_ | with_reducible refine Ok_neI ?_ | with_reducible refine Ok_par ?_ | with_reducible refine Ok_asgT ?_
    | with_reducible refine Ok_mth ?_ | with_reducible refine Ok_dct ?_ | with_reducible refine Ok_okI ?_ | with_reducible refine Ok_bnd ?_
    | ((with_reducible refine Ok_ift ?_ ?_); (exact rfl)) | ((with_reducible refine Ok_iff ?_ ?_); (exact rfl))
    | refine Exists.intro _ (And.intro rfl ?_) | refine Exists.intro _ (Exists.intro _ (And.intro rfl (And.intro (show List.length _ ≤ _ by first | decide | simp) ?_))))
      refine Ok_rng ?_
      repeat' (first
    | ((with_reducible apply Ok_var); (exact rfl))
    | with_reducible refine Ok_cons ?_ | with_reducible refine Ok_nil ?_ | with_reducible refine Ok_asg ?_ | with_reducible refine Ok_ret ?_ | with_reducible refine Ok_sub ?_ | with_reducible refine Ok_ife ?_
    | with_reducible refine Ok_expr ?_ | with_reducible refine Go_nx ?_ | with_reducible refine Go_rt ?_ | with_reducible refine Ok_cst ?_ | with_reducible refine Ok_bin ?_ | with_reducible refine Ok_idx ?_
    | with_reducible refine Ok_cmp ?_ | with_reducible refine Ok_chn ?_ | with_reducible refine Ok_and ?_ | with_reducible refine Ok_or ?_ | with_reducible refine Ok_not ?_ | with_reducible refine Ok_blt ?_
    | with_reducible refine Ok_callE ?_ | with_reducible refine Ok_slc ?_ | with_reducible refine Ok_ifx ?_ | with_reducible refine Ok_neg ?_ | with_reducible refine Ok_esc ?_ | with_reducible refine Ok_esn ?_
    | with_reducible refine Ok_ono ?_ | with_reducible refine Ok_oye ?_ | with_reducible refine Ok_cno ?_ | with_reducible refine Ok_cye ?_ | with_reducible refine Ok_tup ?_ | with_reducible refine Ok_lst ?_
    | with_reducible refine Ok_toB ?_ | with_reducible refine Ok_isB ?_ | with_reducible refine Ok_lt ?_ | with_reducible refine Ok_le ?_ | with_reducible refine Ok_gt ?_ | with_reducible refine Ok_ge ?_
    | with_reducible refine Ok_add ?_ | with_reducible refine Ok_sb ?_ | with_reducible refine Ok_lenS ?_ | with_reducible refine Ok_lenT ?_ | with_reducible refine Ok_lenL ?_ | with_reducible refine Ok_min ?_
    | with_reducible refine Ok_max ?_ | with_reducible refine Ok_tuL ?_ | with_reducible refine Ok_liT ?_ | with_reducible refine Ok_isi ?_ | with_reducible refine Ok_allF ?_ | with_reducible refine Ok_allT ?_
    | with_reducible refine Ok_slT ?_ | with_reducible refine Ok_comp ?_ | with_reducible refine Ok_seq ?_ | with_reducible refine Ok_rev ?_ | with_reducible refine Ok_rvT ?_ | with_reducible refine Ok_rvL ?_
    | with_reducible refine Ok_isN ?_ | with_reducible refine Ok_isNN ?_ | with_reducible refine Ok_eqI ?_ | with_reducible refine Ok_neI ?_ | with_reducible refine Ok_par ?_ | with_reducible refine Ok_asgT ?_
    | with_reducible refine Ok_mth ?_ | with_reducible refine Ok_dct ?_ | with_reducible refine Ok_okI ?_ | with_reducible refine Ok_bnd ?_
    | ((with_reducible refine Ok_ift ?_ ?_); (exact rfl)) | ((with_reducible refine Ok_iff ?_ ?_); (exact rfl))
    | refine Exists.intro _ (And.intro rfl ?_) | refine Exists.intro _ (Exists.intro _ (And.intro rfl (And.intro (show List.length _ ≤ _ by first | decide | simp) ?_))))
      refine ⟨by decide, ?_⟩
      repeat' (first
    | ((with_reducible apply Ok_var); (exact rfl))
    | with_reducible refine Ok_cons ?_ | with_reducible refine Ok_nil ?_ | with_reducible refine Ok_asg ?_ | with_reducible refine Ok_ret ?_ | with_reducible refine Ok_sub ?_ | with_reducible refine Ok_ife ?_
    | with_reducible refine Ok_expr ?_ | with_reducible refine Go_nx ?_ | with_reducible refine Go_rt ?_ | with_reducible refine Ok_cst ?_ | with_reducible refine Ok_bin ?_ | with_reducible refine Ok_idx ?_
    | with_reducible refine Ok_cmp ?_ | with_reducible refine Ok_chn ?_ | with_reducible refine Ok_and ?_ | with_reducible refine Ok_or ?_ | with_reducible refine Ok_not ?_ | with_reducible refine Ok_blt ?_
    | with_reducible refine Ok_callE ?_ | with_reducible refine Ok_slc ?_ | with_reducible refine Ok_ifx ?_ | with_reducible refine Ok_neg ?_ | with_reducible refine Ok_esc ?_ | with_reducible refine Ok_esn ?_
    | with_reducible refine Ok_ono ?_ | with_reducible refine Ok_oye ?_ | with_reducible refine Ok_cno ?_ | with_reducible refine Ok_cye ?_ | with_reducible refine Ok_tup ?_ | with_reducible refine Ok_lst ?_
    | with_reducible refine Ok_toB ?_ | with_reducible refine Ok_isB ?_ | with_reducible refine Ok_lt ?_ | with_reducible refine Ok_le ?_ | with_reducible refine Ok_gt ?_ | with_reducible refine Ok_ge ?_
    | with_reducible refine Ok_add ?_ | with_reducible refine Ok_sb ?_ | with_reducible refine Ok_lenS ?_ | with_reducible refine Ok_lenT ?_ | with_reducible refine Ok_lenL ?_ | with_reducible refine Ok_min ?_
    | with_reducible refine Ok_max ?_ | with_reducible refine Ok_tuL ?_ | with_reducible refine Ok_liT ?_ | with_reducible refine Ok_isi ?_ | with_reducible refine Ok_allF ?_ | with_reducible refine Ok_allT ?_
    | with_reducible refine Ok_slT ?_ | with_reducible refine Ok_comp ?_ | with_reducible refine Ok_seq ?_ | with_reducible refine Ok_rev ?_ | with_reducible refine Ok_rvT ?_ | with_reducible refine Ok_rvL ?_
    | with_reducible refine Ok_isN ?_ | with_reducible refine Ok_isNN ?_ | with_reducible refine Ok_eqI ?_ | with_reducible refine Ok_neI ?_ | with_reducible refine Ok_par ?_ | with_reducible refine Ok_asgT ?_
    | with_reducible refine Ok_mth ?_ | with_reducible refine Ok_dct ?_ | with_reducible refine Ok_okI ?_ | with_reducible refine Ok_bnd ?_
    | ((with_reducible refine Ok_ift ?_ ?_); (exact rfl)) | ((with_reducible refine Ok_iff ?_ ?_); (exact rfl))
    | refine Exists.intro _ (And.intro rfl ?_) | refine Exists.intro _ (Exists.intro _ (And.intro rfl (And.intro (show List.length _ ≤ _ by first | decide | simp) ?_))))
      refine comp_not (fun y => match y with | .int 0 => isW a 1 3 | .int 1 => isW b 1 5 | .int 2 => isW c 1 4 | .int 3 => isW d 1 3 | _ => isW e 1 3) ?_ (by decide) ?_
      · intro y hy
        have hy' : y ∈ [PyData.int 0, .int 1, .int 2, .int 3, .int 4] := hy
        simp only [List.mem_cons, List.not_mem_nil, or_false] at hy'
        rcases hy' with rfl | rfl | rfl | rfl | rfl
        all_goals
          refine ⟨_, rfl, ?_⟩
          repeat' (first
    | ((with_reducible apply Ok_var); (exact rfl))
    | with_reducible refine Ok_cons ?_ | with_reducible refine Ok_nil ?_ | with_reducible refine Ok_asg ?_ | with_reducible refine Ok_ret ?_ | with_reducible refine Ok_sub ?_ | with_reducible refine Ok_ife ?_
    | with_reducible refine Ok_expr ?_ | with_reducible refine Go_nx ?_ | with_reducible refine Go_rt ?_ | with_reducible refine Ok_cst ?_ | with_reducible refine Ok_bin ?_ | with_reducible refine Ok_idx ?_
    | with_reducible refine Ok_cmp ?_ | with_reducible refine Ok_chn ?_ | with_reducible refine Ok_and ?_ | with_reducible refine Ok_or ?_ | with_reducible refine Ok_not ?_ | with_reducible refine Ok_blt ?_
    | with_reducible refine Ok_callE ?_ | with_reducible refine Ok_slc ?_ | with_reducible refine Ok_ifx ?_ | with_reducible refine Ok_neg ?_ | with_reducible refine Ok_esc ?_ | with_reducible refine Ok_esn ?_
    | with_reducible refine Ok_ono ?_ | with_reducible refine Ok_oye ?_ | with_reducible refine Ok_cno ?_ | with_reducible refine Ok_cye ?_ | with_reducible refine Ok_tup ?_ | with_reducible refine Ok_lst ?_
    | with_reducible refine Ok_toB ?_ | with_reducible refine Ok_isB ?_ | with_reducible refine Ok_lt ?_ | with_reducible refine Ok_le ?_ | with_reducible refine Ok_gt ?_ | with_reducible refine Ok_ge ?_
    | with_reducible refine Ok_add ?_ | with_reducible refine Ok_sb ?_ | with_reducible refine Ok_lenS ?_ | with_reducible refine Ok_lenT ?_ | with_reducible refine Ok_lenL ?_ | with_reducible refine Ok_min ?_
    | with_reducible refine Ok_max ?_ | with_reducible refine Ok_tuL ?_ | with_reducible refine Ok_liT ?_ | with_reducible refine Ok_isi ?_ | with_reducible refine Ok_allF ?_ | with_reducible refine Ok_allT ?_
    | with_reducible refine Ok_slT ?_ | with_reducible refine Ok_comp ?_ | with_reducible refine Ok_seq ?_ | with_reducible refine Ok_rev ?_ | with_reducible refine Ok_rvT ?_ | with_reducible refine Ok_rvL ?_
    | with_reducible refine Ok_isN ?_ | with_reducible refine Ok_isNN ?_ | with_reducible refine Ok_eqI ?_ | with_reducible refine Ok_neI ?_ | with_reducible refine Ok_par ?_ | with_reducible refine Ok_asgT ?_
    | with_reducible refine Ok_mth ?_ | with_reducible refine Ok_dct ?_ | with_reducible refine Ok_okI ?_ | with_reducible refine Ok_bnd ?_
    | with_reducible refine Ok.eq (hW _ _ _ _) ?_ | with_reducible refine Ok_ixT rfl ?_ | with_reducible refine Ok_ixL rfl ?_
    | ((with_reducible refine Ok_ift ?_ ?_); (exact rfl)) | ((with_reducible refine Ok_iff ?_ ?_); (exact rfl))
    | refine Exists.intro _ (And.intro rfl ?_) | refine Exists.intro _ (Exists.intro _ (And.intro rfl (And.intro (show List.length _ ≤ _ by first | decide | simp) ?_))))
          exact ⟨rfl, rfl⟩
      repeat' (first
    | ((with_reducible apply Ok_var); (exact rfl))
    | with_reducible refine Ok_cons ?_ | with_reducible refine Ok_nil ?_ | with_reducible refine Ok_asg ?_ | with_reducible refine Ok_ret ?_ | with_reducible refine Ok_sub ?_ | with_reducible refine Ok_ife ?_
    | with_reducible refine Ok_expr ?_ | with_reducible refine Go_nx ?_ | with_reducible refine Go_rt ?_ | with_reducible refine Ok_cst ?_ | with_reducible refine Ok_bin ?_ | with_reducible refine Ok_idx ?_
    | with_reducible refine Ok_cmp ?_ | with_reducible refine Ok_chn ?_ | with_reducible refine Ok_and ?_ | with_reducible refine Ok_or ?_ | with_reducible refine Ok_not ?_ | with_reducible refine Ok_blt ?_
    | with_reducible refine Ok_callE ?_ | with_reducible refine Ok_slc ?_ | with_reducible refine Ok_ifx ?_ | with_reducible refine Ok_neg ?_ | with_reducible refine Ok_esc ?_ | with_reducible refine Ok_esn ?_
    | with_reducible refine Ok_ono ?_ | with_reducible refine Ok_oye ?_ | with_reducible refine Ok_cno ?_ | with_reducible refine Ok_cye ?_ | with_reducible refine Ok_tup ?_ | with_reducible refine Ok_lst ?_
    | with_reducible refine Ok_toB ?_ | with_reducible refine Ok_isB ?_ | with_reducible refine Ok_lt ?_ | with_reducible refine Ok_le ?_ | with_reducible refine Ok_gt ?_ | with_reducible refine Ok_ge ?_
    | with_reducible refine Ok_add ?_ | with_reducible refine Ok_sb ?_ | with_reducible refine Ok_lenS ?_ | with_reducible refine Ok_lenT ?_ | with_reducible refine Ok_lenL ?_ | with_reducible refine Ok_min ?_
    | with_reducible refine Ok_max ?_ | with_reducible refine Ok_tuL ?_ | with_reducible refine Ok_liT ?_ | with_reducible refine Ok_isi ?_ | with_reducible refine Ok_allF ?_ | with_reducible refine Ok_allT ?_
    | with_reducible refine Ok_slT ?_ | with_reducible refine Ok_comp ?_ | with_reducible refine Ok_seq ?_ | with_reducible refine Ok_rev ?_ | with_reducible refine Ok_rvT ?_ | with_reducible refine Ok_rvL ?_
    | with_reducible refine Ok_isN ?_ | with_reducible refine Ok_isNN ?_ | with_reducible refine Ok_eqI ?_ | with_reducible refine Ok_neI ?_ | with_reducible refine Ok_par ?_ | with_reducible refine Ok_asgT ?_
    | with_reducible refine Ok_mth ?_ | with_reducible refine Ok_dct ?_ | with_reducible refine Ok_okI ?_ | with_reducible refine Ok_bnd ?_
    | ((with_reducible refine Ok_ift ?_ ?_); (exact rfl)) | ((with_reducible refine Ok_iff ?_ ?_); (exact rfl))
    | refine Exists.intro _ (And.intro rfl ?_) | refine Exists.intro _ (Exists.intro _ (And.intro rfl (And.intro (show List.length _ ≤ _ by first | decide | simp) ?_))))
      refine Ok_neO ?_
      have e5 : ((rngP 0 5).all fun y => match y with | .int 0 => isW a 1 3 | .int 1 => isW b 1 5 | .int 2 => isW c 1 4 | .int 3 => isW d 1 3 | _ => isW e 1 3) = (isW a 1 3 && (isW b 1 5 && (isW c 1 4 && (isW d 1 3 && (isW e 1 3 && true))))) := rfl
      rw [e5]
      repeat' (first
    | ((with_reducible apply Ok_var); (exact rfl))
    | with_reducible refine Ok_cons ?_ | with_reducible refine Ok_nil ?_ | with_reducible refine Ok_asg ?_ | with_reducible refine Ok_ret ?_ | with_reducible refine Ok_sub ?_ | with_reducible refine Ok_ife ?_
    | with_reducible refine Ok_expr ?_ | with_reducible refine Go_nx ?_ | with_reducible refine Go_rt ?_ | with_reducible refine Ok_cst ?_ | with_reducible refine Ok_bin ?_ | with_reducible refine Ok_idx ?_
    | with_reducible refine Ok_cmp ?_ | with_reducible refine Ok_chn ?_ | with_reducible refine Ok_and ?_ | with_reducible refine Ok_or ?_ | with_reducible refine Ok_not ?_ | with_reducible refine Ok_blt ?_
    | with_reducible refine Ok_callE ?_ | with_reducible refine Ok_slc ?_ | with_reducible refine Ok_ifx ?_ | with_reducible refine Ok_neg ?_ | with_reducible refine Ok_esc ?_ | with_reducible refine Ok_esn ?_
    | with_reducible refine Ok_ono ?_ | with_reducible refine Ok_oye ?_ | with_reducible refine Ok_cno ?_ | with_reducible refine Ok_cye ?_ | with_reducible refine Ok_tup ?_ | with_reducible refine Ok_lst ?_
    | with_reducible refine Ok_toB ?_ | with_reducible refine Ok_isB ?_ | with_reducible refine Ok_lt ?_ | with_reducible refine Ok_le ?_ | with_reducible refine Ok_gt ?_ | with_reducible refine Ok_ge ?_
    | with_reducible refine Ok_add ?_ | with_reducible refine Ok_sb ?_ | with_reducible refine Ok_lenS ?_ | with_reducible refine Ok_lenT ?_ | with_reducible refine Ok_lenL ?_ | with_reducible refine Ok_min ?_
    | with_reducible refine Ok_max ?_ | with_reducible refine Ok_tuL ?_ | with_reducible refine Ok_liT ?_ | with_reducible refine Ok_isi ?_ | with_reducible refine Ok_allF ?_ | with_reducible refine Ok_allT ?_
    | with_reducible refine Ok_slT ?_ | with_reducible refine Ok_comp ?_ | with_reducible refine Ok_seq ?_ | with_reducible refine Ok_rev ?_ | with_reducible refine Ok_rvT ?_ | with_reducible refine Ok_rvL ?_
    | with_reducible refine Ok_isN ?_ | with_reducible refine Ok_isNN ?_ | with_reducible refine Ok_eqI ?_ | with_reducible refine Ok_neI ?_ | with_reducible refine Ok_par ?_ | with_reducible refine Ok_asgT ?_
    | with_reducible refine Ok_mth ?_ | with_reducible refine Ok_dct ?_ | with_reducible refine Ok_okI ?_ | with_reducible refine Ok_bnd ?_
    | ((with_reducible refine Ok_ift ?_ ?_); (exact rfl)) | ((with_reducible refine Ok_iff ?_ ?_); (exact rfl))
    | refine Exists.intro _ (And.intro rfl ?_) | refine Exists.intro _ (Exists.intro _ (And.intro rfl (And.intro (show List.length _ ≤ _ by first | decide | simp) ?_))))
      refine Ok_if (fun h5 => ?_) (fun h5 => ?_)
      · repeat' (first
    | ((with_reducible apply Ok_var); (exact rfl))
    | with_reducible refine Ok_cons ?_ | with_reducible refine Ok_nil ?_ | with_reducible refine Ok_asg ?_ | with_reducible refine Ok_ret ?_ | with_reducible refine Ok_sub ?_ | with_reducible refine Ok_ife ?_
    | with_reducible refine Ok_expr ?_ | with_reducible refine Go_nx ?_ | with_reducible refine Go_rt ?_ | with_reducible refine Ok_cst ?_ | with_reducible refine Ok_bin ?_ | with_reducible refine Ok_idx ?_
    | with_reducible refine Ok_cmp ?_ | with_reducible refine Ok_chn ?_ | with_reducible refine Ok_and ?_ | with_reducible refine Ok_or ?_ | with_reducible refine Ok_not ?_ | with_reducible refine Ok_blt ?_
    | with_reducible refine Ok_callE ?_ | with_reducible refine Ok_slc ?_ | with_reducible refine Ok_ifx ?_ | with_reducible refine Ok_neg ?_ | with_reducible refine Ok_esc ?_ | with_reducible refine Ok_esn ?_
    | with_reducible refine Ok_ono ?_ | with_reducible refine Ok_oye ?_ | with_reducible refine Ok_cno ?_ | with_reducible refine Ok_cye ?_ | with_reducible refine Ok_tup ?_ | with_reducible refine Ok_lst ?_
    | with_reducible refine Ok_toB ?_ | with_reducible refine Ok_isB ?_ | with_reducible refine Ok_lt ?_ | with_reducible refine Ok_le ?_ | with_reducible refine Ok_gt ?_ | with_reducible refine Ok_ge ?_
    | with_reducible refine Ok_add ?_ | with_reducible refine Ok_sb ?_ | with_reducible refine Ok_lenS ?_ | with_reducible refine Ok_lenT ?_ | with_reducible refine Ok_lenL ?_ | with_reducible refine Ok_min ?_
    | with_reducible refine Ok_max ?_ | with_reducible refine Ok_tuL ?_ | with_reducible refine Ok_liT ?_ | with_reducible refine Ok_isi ?_ | with_reducible refine Ok_allF ?_ | with_reducible refine Ok_allT ?_
    | with_reducible refine Ok_slT ?_ | with_reducible refine Ok_comp ?_ | with_reducible refine Ok_seq ?_ | with_reducible refine Ok_rev ?_ | with_reducible refine Ok_rvT ?_ | with_reducible refine Ok_rvL ?_
    | with_reducible refine Ok_isN ?_ | with_reducible refine Ok_isNN ?_ | with_reducible refine Ok_eqI ?_ | with_reducible refine Ok_neI ?_ | with_reducible refine Ok_par ?_ | with_reducible refine Ok_asgT ?_
    | with_reducible refine Ok_mth ?_ | with_reducible refine Ok_dct ?_ | with_reducible refine Ok_okI ?_ | with_reducible refine Ok_bnd ?_
    | ((with_reducible refine Ok_ift ?_ ?_); (exact rfl)) | ((with_reducible refine Ok_iff ?_ ?_); (exact rfl))
    | refine Exists.intro _ (And.intro rfl ?_) | refine Exists.intro _ (Exists.intro _ (And.intro rfl (And.intro (show List.length _ ≤ _ by first | decide | simp) ?_))))
        refine fin_p (Nat.le_refl _) (And.intro ?_ rfl)
        simp only [isS]
        revert h5
        cases isW a 1 3 <;> cases isW b 1 5 <;> cases isW c 1 4 <;> cases isW d 1 3 <;> cases isW e 1 3 <;> simp
      simp only [Bool.and_true, Bool.not_eq_false', Bool.and_eq_true] at h5
      obtain ⟨w1, w2, w3, w4, w5⟩ := h5
      have hS : isS (.tuple [a, b, c, d, e, f, g, h, i]) = (isWay f && isBl g && (isNone h || isW h 0 4) && isF i) := by simp only [isS, w1, w2, w3, w4, w5, Bool.true_and]
      rw [hS]
      cases f with
      | str y =>
        cases i with
        | tuple zs =>
          have hz : zs.length ≤ 16777216 := hx _ rfl zs (by simp)
          clear hx e5
          repeat' (first
    | ((with_reducible apply Ok_var); (exact rfl))
    | with_reducible refine Ok_cons ?_ | with_reducible refine Ok_nil ?_ | with_reducible refine Ok_asg ?_ | with_reducible refine Ok_ret ?_ | with_reducible refine Ok_sub ?_ | with_reducible refine Ok_ife ?_
    | with_reducible refine Ok_expr ?_ | with_reducible refine Go_nx ?_ | with_reducible refine Go_rt ?_ | with_reducible refine Ok_cst ?_ | with_reducible refine Ok_bin ?_ | with_reducible refine Ok_idx ?_
    | with_reducible refine Ok_cmp ?_ | with_reducible refine Ok_chn ?_ | with_reducible refine Ok_and ?_ | with_reducible refine Ok_or ?_ | with_reducible refine Ok_not ?_ | with_reducible refine Ok_blt ?_
    | with_reducible refine Ok_callE ?_ | with_reducible refine Ok_slc ?_ | with_reducible refine Ok_ifx ?_ | with_reducible refine Ok_neg ?_ | with_reducible refine Ok_esc ?_ | with_reducible refine Ok_esn ?_
    | with_reducible refine Ok_ono ?_ | with_reducible refine Ok_oye ?_ | with_reducible refine Ok_cno ?_ | with_reducible refine Ok_cye ?_ | with_reducible refine Ok_tup ?_ | with_reducible refine Ok_lst ?_
    | with_reducible refine Ok_toB ?_ | with_reducible refine Ok_isB ?_ | with_reducible refine Ok_lt ?_ | with_reducible refine Ok_le ?_ | with_reducible refine Ok_gt ?_ | with_reducible refine Ok_ge ?_
    | with_reducible refine Ok_add ?_ | with_reducible refine Ok_sb ?_ | with_reducible refine Ok_lenS ?_ | with_reducible refine Ok_lenT ?_ | with_reducible refine Ok_lenL ?_ | with_reducible refine Ok_min ?_
    | with_reducible refine Ok_max ?_ | with_reducible refine Ok_tuL ?_ | with_reducible refine Ok_liT ?_ | with_reducible refine Ok_isi ?_ | with_reducible refine Ok_allF ?_ | with_reducible refine Ok_allT ?_
    | with_reducible refine Ok_slT ?_ | with_reducible refine Ok_comp ?_ | with_reducible refine Ok_seq ?_ | with_reducible refine Ok_rev ?_ | with_reducible refine Ok_rvT ?_ | with_reducible refine Ok_rvL ?_
    | with_reducible refine Ok_isN ?_ | with_reducible refine Ok_isNN ?_ | with_reducible refine Ok_eqI ?_ | with_reducible refine Ok_neI ?_ | with_reducible refine Ok_par ?_ | with_reducible refine Ok_asgT ?_
    | with_reducible refine Ok_mth ?_ | with_reducible refine Ok_dct ?_ | with_reducible refine Ok_okI ?_ | with_reducible refine Ok_bnd ?_
    | with_reducible refine Ok.eq (hW _ _ _ _) ?_ | with_reducible refine Ok_ixT rfl ?_ | with_reducible refine Ok_notin rfl ?_
    | ((with_reducible refine Ok_ift ?_ ?_); (exact rfl)) | ((with_reducible refine Ok_iff ?_ ?_); (exact rfl))
    | refine Exists.intro _ (And.intro rfl ?_) | refine Exists.intro _ (Exists.intro _ (And.intro rfl (And.intro (show List.length _ ≤ _ by first | decide | simp) ?_)))
    | with_reducible refine Ok_if (fun hc => ?_) (fun hc => ?_))
          all_goals simp only [isWay_any, isTyB, Bool.not_eq_false', Bool.not_eq_true'] at *
          all_goals first
            | (exfalso; simp_all; done)
            | (refine fin_p (Nat.le_refl _) (And.intro ?_ rfl); rw [← isF_all]; simp_all; done)
            | (refine fin_p (Nat.le_refl _) (And.intro ?_ rfl); rw [← isF_all]; simp_all; omega)
            | (refine comp_ok (fun y => some (.bool (isW y 1 3))) (fun y hy => Ok_body rfl ?_) hz ?_
               · repeat' (first
    | ((with_reducible apply Ok_var); (exact rfl))
    | with_reducible refine Ok_cons ?_ | with_reducible refine Ok_nil ?_ | with_reducible refine Ok_asg ?_ | with_reducible refine Ok_ret ?_ | with_reducible refine Ok_sub ?_ | with_reducible refine Ok_ife ?_
    | with_reducible refine Ok_expr ?_ | with_reducible refine Go_nx ?_ | with_reducible refine Go_rt ?_ | with_reducible refine Ok_cst ?_ | with_reducible refine Ok_bin ?_ | with_reducible refine Ok_idx ?_
    | with_reducible refine Ok_cmp ?_ | with_reducible refine Ok_chn ?_ | with_reducible refine Ok_and ?_ | with_reducible refine Ok_or ?_ | with_reducible refine Ok_not ?_ | with_reducible refine Ok_blt ?_
    | with_reducible refine Ok_callE ?_ | with_reducible refine Ok_slc ?_ | with_reducible refine Ok_ifx ?_ | with_reducible refine Ok_neg ?_ | with_reducible refine Ok_esc ?_ | with_reducible refine Ok_esn ?_
    | with_reducible refine Ok_ono ?_ | with_reducible refine Ok_oye ?_ | with_reducible refine Ok_cno ?_ | with_reducible refine Ok_cye ?_ | with_reducible refine Ok_tup ?_ | with_reducible refine Ok_lst ?_
    | with_reducible refine Ok_toB ?_ | with_reducible refine Ok_isB ?_ | with_reducible refine Ok_lt ?_ | with_reducible refine Ok_le ?_ | with_reducible refine Ok_gt ?_ | with_reducible refine Ok_ge ?_
    | with_reducible refine Ok_add ?_ | with_reducible refine Ok_sb ?_ | with_reducible refine Ok_lenS ?_ | with_reducible refine Ok_lenT ?_ | with_reducible refine Ok_lenL ?_ | with_reducible refine Ok_min ?_
    | with_reducible refine Ok_max ?_ | with_reducible refine Ok_tuL ?_ | with_reducible refine Ok_liT ?_ | with_reducible refine Ok_isi ?_ | with_reducible refine Ok_allF ?_ | with_reducible refine Ok_allT ?_
    | with_reducible refine Ok_slT ?_ | with_reducible refine Ok_comp ?_ | with_reducible refine Ok_seq ?_ | with_reducible refine Ok_rev ?_ | with_reducible refine Ok_rvT ?_ | with_reducible refine Ok_rvL ?_
    | with_reducible refine Ok_isN ?_ | with_reducible refine Ok_isNN ?_ | with_reducible refine Ok_eqI ?_ | with_reducible refine Ok_neI ?_ | with_reducible refine Ok_par ?_ | with_reducible refine Ok_asgT ?_
    | with_reducible refine Ok_mth ?_ | with_reducible refine Ok_dct ?_ | with_reducible refine Ok_okI ?_ | with_reducible refine Ok_bnd ?_
    | with_reducible refine Ok.eq (hW _ _ _ _) ?_
    | ((with_reducible refine Ok_ift ?_ ?_); (exact rfl)) | ((with_reducible refine Ok_iff ?_ ?_); (exact rfl))
    | refine Exists.intro _ (And.intro rfl ?_) | refine Exists.intro _ (Exists.intro _ (And.intro rfl (And.intro (show List.length _ ≤ _ by first | decide | simp) ?_))))
                 exact ⟨_, _, rfl, rfl, rfl⟩
               · rw [List.filterMap_eq_map']
                 repeat' (first
    | ((with_reducible apply Ok_var); (exact rfl))
    | with_reducible refine Ok_cons ?_ | with_reducible refine Ok_nil ?_ | with_reducible refine Ok_asg ?_ | with_reducible refine Ok_ret ?_ | with_reducible refine Ok_sub ?_ | with_reducible refine Ok_ife ?_
    | with_reducible refine Ok_expr ?_ | with_reducible refine Go_nx ?_ | with_reducible refine Go_rt ?_ | with_reducible refine Ok_cst ?_ | with_reducible refine Ok_bin ?_ | with_reducible refine Ok_idx ?_
    | with_reducible refine Ok_cmp ?_ | with_reducible refine Ok_chn ?_ | with_reducible refine Ok_and ?_ | with_reducible refine Ok_or ?_ | with_reducible refine Ok_not ?_ | with_reducible refine Ok_blt ?_
    | with_reducible refine Ok_callE ?_ | with_reducible refine Ok_slc ?_ | with_reducible refine Ok_ifx ?_ | with_reducible refine Ok_neg ?_ | with_reducible refine Ok_esc ?_ | with_reducible refine Ok_esn ?_
    | with_reducible refine Ok_ono ?_ | with_reducible refine Ok_oye ?_ | with_reducible refine Ok_cno ?_ | with_reducible refine Ok_cye ?_ | with_reducible refine Ok_tup ?_ | with_reducible refine Ok_lst ?_
    | with_reducible refine Ok_toB ?_ | with_reducible refine Ok_isB ?_ | with_reducible refine Ok_lt ?_ | with_reducible refine Ok_le ?_ | with_reducible refine Ok_gt ?_ | with_reducible refine Ok_ge ?_
    | with_reducible refine Ok_add ?_ | with_reducible refine Ok_sb ?_ | with_reducible refine Ok_lenS ?_ | with_reducible refine Ok_lenT ?_ | with_reducible refine Ok_lenL ?_ | with_reducible refine Ok_min ?_
    | with_reducible refine Ok_max ?_ | with_reducible refine Ok_tuL ?_ | with_reducible refine Ok_liT ?_ | with_reducible refine Ok_isi ?_ | with_reducible refine Ok_allF ?_ | with_reducible refine Ok_allT ?_
    | with_reducible refine Ok_slT ?_ | with_reducible refine Ok_comp ?_ | with_reducible refine Ok_seq ?_ | with_reducible refine Ok_rev ?_ | with_reducible refine Ok_rvT ?_ | with_reducible refine Ok_rvL ?_
    | with_reducible refine Ok_isN ?_ | with_reducible refine Ok_isNN ?_ | with_reducible refine Ok_eqI ?_ | with_reducible refine Ok_neI ?_ | with_reducible refine Ok_par ?_ | with_reducible refine Ok_asgT ?_
    | with_reducible refine Ok_mth ?_ | with_reducible refine Ok_dct ?_ | with_reducible refine Ok_okI ?_ | with_reducible refine Ok_bnd ?_
    | ((with_reducible refine Ok_ift ?_ ?_); (exact rfl)) | ((with_reducible refine Ok_iff ?_ ?_); (exact rfl))
    | refine Exists.intro _ (And.intro rfl ?_) | refine Exists.intro _ (Exists.intro _ (And.intro rfl (And.intro (show List.length _ ≤ _ by first | decide | simp) ?_))))
                 refine Ok_allB ?_
                 repeat' (first
    | ((with_reducible apply Ok_var); (exact rfl))
    | with_reducible refine Ok_cons ?_ | with_reducible refine Ok_nil ?_ | with_reducible refine Ok_asg ?_ | with_reducible refine Ok_ret ?_ | with_reducible refine Ok_sub ?_ | with_reducible refine Ok_ife ?_
    | with_reducible refine Ok_expr ?_ | with_reducible refine Go_nx ?_ | with_reducible refine Go_rt ?_ | with_reducible refine Ok_cst ?_ | with_reducible refine Ok_bin ?_ | with_reducible refine Ok_idx ?_
    | with_reducible refine Ok_cmp ?_ | with_reducible refine Ok_chn ?_ | with_reducible refine Ok_and ?_ | with_reducible refine Ok_or ?_ | with_reducible refine Ok_not ?_ | with_reducible refine Ok_blt ?_
    | with_reducible refine Ok_callE ?_ | with_reducible refine Ok_slc ?_ | with_reducible refine Ok_ifx ?_ | with_reducible refine Ok_neg ?_ | with_reducible refine Ok_esc ?_ | with_reducible refine Ok_esn ?_
    | with_reducible refine Ok_ono ?_ | with_reducible refine Ok_oye ?_ | with_reducible refine Ok_cno ?_ | with_reducible refine Ok_cye ?_ | with_reducible refine Ok_tup ?_ | with_reducible refine Ok_lst ?_
    | with_reducible refine Ok_toB ?_ | with_reducible refine Ok_isB ?_ | with_reducible refine Ok_lt ?_ | with_reducible refine Ok_le ?_ | with_reducible refine Ok_gt ?_ | with_reducible refine Ok_ge ?_
    | with_reducible refine Ok_add ?_ | with_reducible refine Ok_sb ?_ | with_reducible refine Ok_lenS ?_ | with_reducible refine Ok_lenT ?_ | with_reducible refine Ok_lenL ?_ | with_reducible refine Ok_min ?_
    | with_reducible refine Ok_max ?_ | with_reducible refine Ok_tuL ?_ | with_reducible refine Ok_liT ?_ | with_reducible refine Ok_isi ?_ | with_reducible refine Ok_allF ?_ | with_reducible refine Ok_allT ?_
    | with_reducible refine Ok_slT ?_ | with_reducible refine Ok_comp ?_ | with_reducible refine Ok_seq ?_ | with_reducible refine Ok_rev ?_ | with_reducible refine Ok_rvT ?_ | with_reducible refine Ok_rvL ?_
    | with_reducible refine Ok_isN ?_ | with_reducible refine Ok_isNN ?_ | with_reducible refine Ok_eqI ?_ | with_reducible refine Ok_neI ?_ | with_reducible refine Ok_par ?_ | with_reducible refine Ok_asgT ?_
    | with_reducible refine Ok_mth ?_ | with_reducible refine Ok_dct ?_ | with_reducible refine Ok_okI ?_ | with_reducible refine Ok_bnd ?_
    | ((with_reducible refine Ok_ift ?_ ?_); (exact rfl)) | ((with_reducible refine Ok_iff ?_ ?_); (exact rfl))
    | refine Exists.intro _ (And.intro rfl ?_) | refine Exists.intro _ (Exists.intro _ (And.intro rfl (And.intro (show List.length _ ≤ _ by first | decide | simp) ?_))))
                 refine fin_p (Nat.le_refl _) (And.intro ?_ rfl)
                 rw [← isF_all]
                 have hz2 : zs.length = 2 := by have := eq_of_beq (by assumption : ((zs.length : Int) == 2) = true); omega
                 simp_all)
        | _ =>
          clear hx e5
          repeat' (first
    | ((with_reducible apply Ok_var); (exact rfl))
    | with_reducible refine Ok_cons ?_ | with_reducible refine Ok_nil ?_ | with_reducible refine Ok_asg ?_ | with_reducible refine Ok_ret ?_ | with_reducible refine Ok_sub ?_ | with_reducible refine Ok_ife ?_
    | with_reducible refine Ok_expr ?_ | with_reducible refine Go_nx ?_ | with_reducible refine Go_rt ?_ | with_reducible refine Ok_cst ?_ | with_reducible refine Ok_bin ?_ | with_reducible refine Ok_idx ?_
    | with_reducible refine Ok_cmp ?_ | with_reducible refine Ok_chn ?_ | with_reducible refine Ok_and ?_ | with_reducible refine Ok_or ?_ | with_reducible refine Ok_not ?_ | with_reducible refine Ok_blt ?_
    | with_reducible refine Ok_callE ?_ | with_reducible refine Ok_slc ?_ | with_reducible refine Ok_ifx ?_ | with_reducible refine Ok_neg ?_ | with_reducible refine Ok_esc ?_ | with_reducible refine Ok_esn ?_
    | with_reducible refine Ok_ono ?_ | with_reducible refine Ok_oye ?_ | with_reducible refine Ok_cno ?_ | with_reducible refine Ok_cye ?_ | with_reducible refine Ok_tup ?_ | with_reducible refine Ok_lst ?_
    | with_reducible refine Ok_toB ?_ | with_reducible refine Ok_isB ?_ | with_reducible refine Ok_lt ?_ | with_reducible refine Ok_le ?_ | with_reducible refine Ok_gt ?_ | with_reducible refine Ok_ge ?_
    | with_reducible refine Ok_add ?_ | with_reducible refine Ok_sb ?_ | with_reducible refine Ok_lenS ?_ | with_reducible refine Ok_lenT ?_ | with_reducible refine Ok_lenL ?_ | with_reducible refine Ok_min ?_
    | with_reducible refine Ok_max ?_ | with_reducible refine Ok_tuL ?_ | with_reducible refine Ok_liT ?_ | with_reducible refine Ok_isi ?_ | with_reducible refine Ok_allF ?_ | with_reducible refine Ok_allT ?_
    | with_reducible refine Ok_slT ?_ | with_reducible refine Ok_comp ?_ | with_reducible refine Ok_seq ?_ | with_reducible refine Ok_rev ?_ | with_reducible refine Ok_rvT ?_ | with_reducible refine Ok_rvL ?_
    | with_reducible refine Ok_isN ?_ | with_reducible refine Ok_isNN ?_ | with_reducible refine Ok_eqI ?_ | with_reducible refine Ok_neI ?_ | with_reducible refine Ok_par ?_ | with_reducible refine Ok_asgT ?_
    | with_reducible refine Ok_mth ?_ | with_reducible refine Ok_dct ?_ | with_reducible refine Ok_okI ?_ | with_reducible refine Ok_bnd ?_
    | with_reducible refine Ok.eq (hW _ _ _ _) ?_ | with_reducible refine Ok_ixT rfl ?_ | with_reducible refine Ok_notin rfl ?_
    | ((with_reducible refine Ok_ift ?_ ?_); (exact rfl)) | ((with_reducible refine Ok_iff ?_ ?_); (exact rfl))
    | refine Exists.intro _ (And.intro rfl ?_) | refine Exists.intro _ (Exists.intro _ (And.intro rfl (And.intro (show List.length _ ≤ _ by first | decide | simp) ?_)))
    | with_reducible refine Ok_if (fun hc => ?_) (fun hc => ?_))
          all_goals simp only [isWay_any, isTyB, Bool.not_eq_false', Bool.not_eq_true'] at *
          all_goals first
            | (exfalso; simp_all; done)
            | (refine fin_p (Nat.le_refl _) (And.intro ?_ rfl); simp_all [isF]; done)
      | _ =>
        repeat' (first
    | ((with_reducible apply Ok_var); (exact rfl))
    | with_reducible refine Ok_cons ?_ | with_reducible refine Ok_nil ?_ | with_reducible refine Ok_asg ?_ | with_reducible refine Ok_ret ?_ | with_reducible refine Ok_sub ?_ | with_reducible refine Ok_ife ?_
    | with_reducible refine Ok_expr ?_ | with_reducible refine Go_nx ?_ | with_reducible refine Go_rt ?_ | with_reducible refine Ok_cst ?_ | with_reducible refine Ok_bin ?_ | with_reducible refine Ok_idx ?_
    | with_reducible refine Ok_cmp ?_ | with_reducible refine Ok_chn ?_ | with_reducible refine Ok_and ?_ | with_reducible refine Ok_or ?_ | with_reducible refine Ok_not ?_ | with_reducible refine Ok_blt ?_
    | with_reducible refine Ok_callE ?_ | with_reducible refine Ok_slc ?_ | with_reducible refine Ok_ifx ?_ | with_reducible refine Ok_neg ?_ | with_reducible refine Ok_esc ?_ | with_reducible refine Ok_esn ?_
    | with_reducible refine Ok_ono ?_ | with_reducible refine Ok_oye ?_ | with_reducible refine Ok_cno ?_ | with_reducible refine Ok_cye ?_ | with_reducible refine Ok_tup ?_ | with_reducible refine Ok_lst ?_
    | with_reducible refine Ok_toB ?_ | with_reducible refine Ok_isB ?_ | with_reducible refine Ok_lt ?_ | with_reducible refine Ok_le ?_ | with_reducible refine Ok_gt ?_ | with_reducible refine Ok_ge ?_
    | with_reducible refine Ok_add ?_ | with_reducible refine Ok_sb ?_ | with_reducible refine Ok_lenS ?_ | with_reducible refine Ok_lenT ?_ | with_reducible refine Ok_lenL ?_ | with_reducible refine Ok_min ?_
    | with_reducible refine Ok_max ?_ | with_reducible refine Ok_tuL ?_ | with_reducible refine Ok_liT ?_ | with_reducible refine Ok_isi ?_ | with_reducible refine Ok_allF ?_ | with_reducible refine Ok_allT ?_
    | with_reducible refine Ok_slT ?_ | with_reducible refine Ok_comp ?_ | with_reducible refine Ok_seq ?_ | with_reducible refine Ok_rev ?_ | with_reducible refine Ok_rvT ?_ | with_reducible refine Ok_rvL ?_
    | with_reducible refine Ok_isN ?_ | with_reducible refine Ok_isNN ?_ | with_reducible refine Ok_eqI ?_ | with_reducible refine Ok_neI ?_ | with_reducible refine Ok_par ?_ | with_reducible refine Ok_asgT ?_
    | with_reducible refine Ok_mth ?_ | with_reducible refine Ok_dct ?_ | with_reducible refine Ok_okI ?_ | with_reducible refine Ok_bnd ?_
    | with_reducible refine Ok.eq (hW _ _ _ _) ?_ | with_reducible refine Ok_ixT rfl ?_
    | ((with_reducible refine Ok_ift ?_ ?_); (exact rfl)) | ((with_reducible refine Ok_iff ?_ ?_); (exact rfl))
    | refine Exists.intro _ (And.intro rfl ?_) | refine Exists.intro _ (Exists.intro _ (And.intro rfl (And.intro (show List.length _ ≤ _ by first | decide | simp) ?_)))
    | with_reducible refine Ok_if (fun hc => ?_) (fun hc => ?_))
        all_goals first | (exfalso; simp_all; done) | (refine fin_p (Nat.le_refl _) (And.intro ?_ rfl); simp_all [isWay]; done)
    · rw [isS_len hl]
      repeat' (first
    | ((with_reducible apply Ok_var); (exact rfl))
    | with_reducible refine Ok_cons ?_ | with_reducible refine Ok_nil ?_ | with_reducible refine Ok_asg ?_ | with_reducible refine Ok_ret ?_ | with_reducible refine Ok_sub ?_ | with_reducible refine Ok_ife ?_
    | with_reducible refine Ok_expr ?_ | with_reducible refine Go_nx ?_ | with_reducible refine Go_rt ?_ | with_reducible refine Ok_cst ?_ | with_reducible refine Ok_bin ?_ | with_reducible refine Ok_idx ?_
    | with_reducible refine Ok_cmp ?_ | with_reducible refine Ok_chn ?_ | with_reducible refine Ok_and ?_ | with_reducible refine Ok_or ?_ | with_reducible refine Ok_not ?_ | with_reducible refine Ok_blt ?_
    | with_reducible refine Ok_callE ?_ | with_reducible refine Ok_slc ?_ | with_reducible refine Ok_ifx ?_ | with_reducible refine Ok_neg ?_ | with_reducible refine Ok_esc ?_ | with_reducible refine Ok_esn ?_
    | with_reducible refine Ok_ono ?_ | with_reducible refine Ok_oye ?_ | with_reducible refine Ok_cno ?_ | with_reducible refine Ok_cye ?_ | with_reducible refine Ok_tup ?_ | with_reducible refine Ok_lst ?_
    | with_reducible refine Ok_toB ?_ | with_reducible refine Ok_isB ?_ | with_reducible refine Ok_lt ?_ | with_reducible refine Ok_le ?_ | with_reducible refine Ok_gt ?_ | with_reducible refine Ok_ge ?_
    | with_reducible refine Ok_add ?_ | with_reducible refine Ok_sb ?_ | with_reducible refine Ok_lenS ?_ | with_reducible refine Ok_lenT ?_ | with_reducible refine Ok_lenL ?_ | with_reducible refine Ok_min ?_
    | with_reducible refine Ok_max ?_ | with_reducible refine Ok_tuL ?_ | with_reducible refine Ok_liT ?_ | with_reducible refine Ok_isi ?_ | with_reducible refine Ok_allF ?_ | with_reducible refine Ok_allT ?_
    | with_reducible refine Ok_slT ?_ | with_reducible refine Ok_comp ?_ | with_reducible refine Ok_seq ?_ | with_reducible refine Ok_rev ?_ | with_reducible refine Ok_rvT ?_ | with_reducible refine Ok_rvL ?_
    | with_reducible refine Ok_isN ?_ | with_reducible refine Ok_isNN ?_ | with_reducible refine Ok_eqI ?_ | with_reducible refine Ok_neI ?_ | with_reducible refine Ok_par ?_ | with_reducible refine Ok_asgT ?_
    | with_reducible refine Ok_mth ?_ | with_reducible refine Ok_dct ?_ | with_reducible refine Ok_okI ?_ | with_reducible refine Ok_bnd ?_
    | ((with_reducible refine Ok_ift ?_ ?_); (exact rfl)) | ((with_reducible refine Ok_iff ?_ ?_); (exact rfl))
    | refine Exists.intro _ (And.intro rfl ?_) | refine Exists.intro _ (Exists.intro _ (And.intro rfl (And.intro (show List.length _ ≤ _ by first | decide | simp) ?_)))
    | with_reducible refine Ok_if (fun hc => ?_) (fun hc => ?_))
      all_goals first | (exfalso; simp_all; done) | exact fin_p (Nat.le_refl _) (And.intro rfl rfl)
  | _ =>
    repeat' (first
    | ((with_reducible apply Ok_var); (exact rfl))
    | with_reducible refine Ok_cons ?_ | with_reducible refine Ok_nil ?_ | with_reducible refine Ok_asg ?_ | with_reducible refine Ok_ret ?_ | with_reducible refine Ok_sub ?_ | with_reducible refine Ok_ife ?_
    | with_reducible refine Ok_expr ?_ | with_reducible refine Go_nx ?_ | with_reducible refine Go_rt ?_ | with_reducible refine Ok_cst ?_ | with_reducible refine Ok_bin ?_ | with_reducible refine Ok_idx ?_
    | with_reducible refine Ok_cmp ?_ | with_reducible refine Ok_chn ?_ | with_reducible refine Ok_and ?_ | with_reducible refine Ok_or ?_ | with_reducible refine Ok_not ?_ | with_reducible refine Ok_blt ?_
    | with_reducible refine Ok_callE ?_ | with_reducible refine Ok_slc ?_ | with_reducible refine Ok_ifx ?_ | with_reducible refine Ok_neg ?_ | with_reducible refine Ok_esc ?_ | with_reducible refine Ok_esn ?_
    | with_reducible refine Ok_ono ?_ | with_reducible refine Ok_oye ?_ | with_reducible refine Ok_cno ?_ | with_reducible refine Ok_cye ?_ | with_reducible refine Ok_tup ?_ | with_reducible refine Ok_lst ?_
    | with_reducible refine Ok_toB ?_ | with_reducible refine Ok_isB ?_ | with_reducible refine Ok_lt ?_ | with_reducible refine Ok_le ?_ | with_reducible refine Ok_gt ?_ | with_reducible refine Ok_ge ?_
    | with_reducible refine Ok_add ?_ | with_reducible refine Ok_sb ?_ | with_reducible refine Ok_lenS ?_ | with_reducible refine Ok_lenT ?_ | with_reducible refine Ok_lenL ?_ | with_reducible refine Ok_min ?_
    | with_reducible refine Ok_max ?_ | with_reducible refine Ok_tuL ?_ | with_reducible refine Ok_liT ?_ | with_reducible refine Ok_isi ?_ | with_reducible refine Ok_allF ?_ | with_reducible refine Ok_allT ?_
    | with_reducible refine Ok_slT ?_ | with_reducible refine Ok_comp ?_ | with_reducible refine Ok_seq ?_ | with_reducible refine Ok_rev ?_ | with_reducible refine Ok_rvT ?_ | with_reducible refine Ok_rvL ?_
    | with_reducible refine Ok_isN ?_ | with_reducible refine Ok_isNN ?_ | with_reducible refine Ok_eqI ?_ | with_reducible refine Ok_neI ?_ | with_reducible refine Ok_par ?_ | with_reducible refine Ok_asgT ?_
    | with_reducible refine Ok_mth ?_ | with_reducible refine Ok_dct ?_ | with_reducible refine Ok_okI ?_ | with_reducible refine Ok_bnd ?_
    | ((with_reducible refine Ok_ift ?_ ?_); (exact rfl)) | ((with_reducible refine Ok_iff ?_ ?_); (exact rfl))
    | refine Exists.intro _ (And.intro rfl ?_) | refine Exists.intro _ (Exists.intro _ (And.intro rfl (And.intro (show List.length _ ≤ _ by first | decide | simp) ?_)))
    | with_reducible refine Ok_if (fun hc => ?_) (fun hc => ?_))
    all_goals first | (exfalso; simp_all; done) | (refine fin_p (Nat.le_refl _) (And.intro ?_ rfl); simp_all [isS, isS_len])
end
end Mi

set_option Elab.async false
set_option linter.all false
set_option maxRecDepth 100000
set_option maxHeartbeats 4000000
namespace Mi
open PySem
/-- a setting, as it is drawn -/
structure Stg where
  work : Int
  room : Int
  pat : Int
  tries : Int
  wait : Int
  way : Str
  dead : Bool
  tok : Option Int
  fuse : Option (Int × Int)
def Stg.tokD (s : Stg) : PyData := match s.tok with
  | none => .none
  | some k => .int k
def Stg.fuseD (s : Stg) : PyData := match s.fuse with
  | none => .none
  | some (a, b) => .tuple [.int a, .int b]
def Stg.d (s : Stg) : PyData := .tuple [.int s.work, .int s.room, .int s.pat, .int s.tries, .int s.wait, .str s.way, .bool s.dead, s.tokD, s.fuseD]
structure Stg.Ok (s : Stg) : Prop where
  work : 1 ≤ s.work ∧ s.work ≤ 3
  room : 1 ≤ s.room ∧ s.room ≤ 5
  pat : 1 ≤ s.pat ∧ s.pat ≤ 4
  tries : 1 ≤ s.tries ∧ s.tries ≤ 3
  wait : 1 ≤ s.wait ∧ s.wait ≤ 3
  way : s.way = Str.ofString "oldest" ∨ s.way = Str.ofString "newest"
  tok : ∀ k, s.tok = some k → 0 ≤ k ∧ k ≤ 4
  fuse : ∀ a b, s.fuse = some (a, b) → (1 ≤ a ∧ a ≤ 3) ∧ 1 ≤ b ∧ b ≤ 3
section
variable {T : Nat → Option FD} {fuel k : Nat}
theorem stg_ok (hT5 : T 5 = some ⟨2, 4, true, bDraw⟩) (hT6 : T 6 = some ⟨2, 2, true, bPick⟩) (h15 : T 15 = some ⟨1, 10, true, bStg⟩) {M0 M : Mem} {i t : Nat} (hM : PenS M0 i t M) (ht : t + 20 < 2 ^ 60) :
    Mi.Ok (run T fuel (k + 1 + 1 + 1) 15 [.ref i] M) (fun d N => ∃ s : Stg, s.Ok ∧ d = .p s.d ∧ PenS M0 i (t + 11) N) := by
  refine Ok_call h15 rfl ?_
  simp only [bStg, enter, List.map_cons, List.map_nil, List.replicate, List.cons_append, List.nil_append, Nat.sub_self, List.append_nil]
  have h5 : ∀ {M0 M : Mem} {i t : Nat} {n : Int}, PenS M0 i t M → t < 2 ^ 60 → 0 < n → n < 1073741824 → Mi.Ok (run T fuel (k + 1 + 1) 5 [.ref i, .p (.int n)] M) (fun d N => ∃ r : Int, d = .p (.int r) ∧ 0 ≤ r ∧ r < n ∧ PenS M0 i (t + 1) N) := fun h h1 h2 h3 => draw_ok hT5 h h1 h2 h3
  have h6 : ∀ {M0 M : Mem} {i t : Nat} {xs : List PyData}, PenS M0 i t M → t < 2 ^ 60 → 0 < xs.length → xs.length < 1073741824 → Mi.Ok (run T fuel (k + 1 + 1) 6 [.ref i, .p (.list xs)] M) (fun d N => ∃ x ∈ xs, d = .p x ∧ PenS M0 i (t + 1) N) := fun h h1 h2 h3 => pick_ok hT5 hT6 h h1 h2 h3
  generalize run T fuel (k + 1 + 1) = fn at *
  repeat' (first
    | ((with_reducible apply Ok_var); (exact rfl))
    | with_reducible refine Ok_cons ?_ | with_reducible refine Ok_nil ?_ | with_reducible refine Ok_asg ?_ | with_reducible refine Ok_ret ?_ | with_reducible refine Ok_sub ?_ | with_reducible refine Ok_ife ?_
    | with_reducible refine Ok_expr ?_ | with_reducible refine Go_nx ?_ | with_reducible refine Go_rt ?_ | with_reducible refine Ok_cst ?_ | with_reducible refine Ok_bin ?_ | with_reducible refine Ok_idx ?_
    | with_reducible refine Ok_cmp ?_ | with_reducible refine Ok_chn ?_ | with_reducible refine Ok_and ?_ | with_reducible refine Ok_or ?_ | with_reducible refine Ok_not ?_ | with_reducible refine Ok_blt ?_
    | with_reducible refine Ok_callE ?_ | with_reducible refine Ok_slc ?_ | with_reducible refine Ok_ifx ?_ | with_reducible refine Ok_neg ?_ | with_reducible refine Ok_esc ?_ | with_reducible refine Ok_esn ?_
    | with_reducible refine Ok_ono ?_ | with_reducible refine Ok_oye ?_ | with_reducible refine Ok_cno ?_ | with_reducible refine Ok_cye ?_ | with_reducible refine Ok_tup ?_ | with_reducible refine Ok_lst ?_
    | with_reducible refine Ok_toB ?_ | with_reducible refine Ok_isB ?_ | with_reducible refine Ok_lt ?_ | with_reducible refine Ok_le ?_ | with_reducible refine Ok_gt ?_ | with_reducible refine Ok_ge ?_
    | with_reducible refine Ok_add ?_ | with_reducible refine Ok_sb ?_ | with_reducible refine Ok_lenS ?_ | with_reducible refine Ok_lenT ?_ | with_reducible refine Ok_lenL ?_ | with_reducible refine Ok_min ?_
    | with_reducible refine Ok_max ?_ | with_reducible refine Ok_tuL ?_ | with_reducible refine Ok_liT ?_ | with_reducible refine Ok_isi ?_ | with_reducible refine Ok_allF ?_ | with_reducible refine Ok_allT ?_
    | with_reducible refine Ok_slT ?_ | with_reducible refine Ok_comp ?_ | with_reducible refine Ok_seq ?_ | with_reducible refine Ok_rev ?_ | with_reducible refine Ok_rvT ?_ | with_reducible refine Ok_rvL ?_
    | with_reducible refine Ok_isN ?_ | with_reducible refine Ok_isNN ?_ | with_reducible refine Ok_eqI ?_ | with_reducible refine Ok_neI ?_ | with_reducible refine Ok_par ?_ | with_reducible refine Ok_asgT ?_
    | with_reducible refine Ok_mth ?_ | with_reducible refine Ok_dct ?_ | with_reducible refine Ok_okI ?_ | with_reducible refine Ok_bnd ?_
    | ((with_reducible refine Ok_ift ?_ ?_); (exact rfl)) | ((with_reducible refine Ok_iff ?_ ?_); (exact rfl))
    | refine Exists.intro _ (And.intro rfl ?_) | refine Exists.intro _ (Exists.intro _ (And.intro rfl (And.intro (show List.length _ ≤ _ by first | decide | simp) ?_))))
  refine (h5 hM (by omega) (by decide) (by decide)).mono ?_
  rintro _ M1 ⟨r1, rfl, a1, b1, hM1⟩
  repeat' (first
    | ((with_reducible apply Ok_var); (exact rfl))
    | with_reducible refine Ok_cons ?_ | with_reducible refine Ok_nil ?_ | with_reducible refine Ok_asg ?_ | with_reducible refine Ok_ret ?_ | with_reducible refine Ok_sub ?_ | with_reducible refine Ok_ife ?_
    | with_reducible refine Ok_expr ?_ | with_reducible refine Go_nx ?_ | with_reducible refine Go_rt ?_ | with_reducible refine Ok_cst ?_ | with_reducible refine Ok_bin ?_ | with_reducible refine Ok_idx ?_
    | with_reducible refine Ok_cmp ?_ | with_reducible refine Ok_chn ?_ | with_reducible refine Ok_and ?_ | with_reducible refine Ok_or ?_ | with_reducible refine Ok_not ?_ | with_reducible refine Ok_blt ?_
    | with_reducible refine Ok_callE ?_ | with_reducible refine Ok_slc ?_ | with_reducible refine Ok_ifx ?_ | with_reducible refine Ok_neg ?_ | with_reducible refine Ok_esc ?_ | with_reducible refine Ok_esn ?_
    | with_reducible refine Ok_ono ?_ | with_reducible refine Ok_oye ?_ | with_reducible refine Ok_cno ?_ | with_reducible refine Ok_cye ?_ | with_reducible refine Ok_tup ?_ | with_reducible refine Ok_lst ?_
    | with_reducible refine Ok_toB ?_ | with_reducible refine Ok_isB ?_ | with_reducible refine Ok_lt ?_ | with_reducible refine Ok_le ?_ | with_reducible refine Ok_gt ?_ | with_reducible refine Ok_ge ?_
    | with_reducible refine Ok_add ?_ | with_reducible refine Ok_sb ?_ | with_reducible refine Ok_lenS ?_ | with_reducible refine Ok_lenT ?_ | with_reducible refine Ok_lenL ?_ | with_reducible refine Ok_min ?_
    | with_reducible refine Ok_max ?_ | with_reducible refine Ok_tuL ?_ | with_reducible refine Ok_liT ?_ | with_reducible refine Ok_isi ?_ | with_reducible refine Ok_allF ?_ | with_reducible refine Ok_allT ?_
    | with_reducible refine Ok_slT ?_ | with_reducible refine Ok_comp ?_ | with_reducible refine Ok_seq ?_ | with_reducible refine Ok_rev ?_ | with_reducible refine Ok_rvT ?_ | with_reducible refine Ok_rvL ?_
    | with_reducible refine Ok_isN ?_ | with_reducible refine Ok_isNN ?_ | with_reducible refine Ok_eqI ?_ | with_reducible refine Ok_neI ?_ | with_reducible refine Ok_par ?_ | with_reducible refine Ok_asgT ?_
    | with_reducible refine Ok_mth ?_ | with_reducible refine Ok_dct ?_ | with_reducible refine Ok_okI ?_ | with_reducible refine Ok_bnd ?_
    | ((with_reducible refine Ok_ift ?_ ?_); (exact rfl)) | ((with_reducible refine Ok_iff ?_ ?_); (exact rfl))
    | refine Exists.intro _ (And.intro rfl ?_) | refine Exists.intro _ (Exists.intro _ (And.intro rfl (And.intro (show List.length _ ≤ _ by first | decide | simp) ?_))))
  refine (h5 hM1 (by omega) (by decide) (by decide)).mono ?_
  rintro _ M2 ⟨r2, rfl, a2, b2, hM2⟩
  repeat' (first
    | ((with_reducible apply Ok_var); (exact rfl))
    | with_reducible refine Ok_cons ?_ | with_reducible refine Ok_nil ?_ | with_reducible refine Ok_asg ?_ | with_reducible refine Ok_ret ?_ | with_reducible refine Ok_sub ?_ | with_reducible refine Ok_ife ?_
    | with_reducible refine Ok_expr ?_ | with_reducible refine Go_nx ?_ | with_reducible refine Go_rt ?_ | with_reducible refine Ok_cst ?_ | with_reducible refine Ok_bin ?_ | with_reducible refine Ok_idx ?_
    | with_reducible refine Ok_cmp ?_ | with_reducible refine Ok_chn ?_ | with_reducible refine Ok_and ?_ | with_reducible refine Ok_or ?_ | with_reducible refine Ok_not ?_ | with_reducible refine Ok_blt ?_
    | with_reducible refine Ok_callE ?_ | with_reducible refine Ok_slc ?_ | with_reducible refine Ok_ifx ?_ | with_reducible refine Ok_neg ?_ | with_reducible refine Ok_esc ?_ | with_reducible refine Ok_esn ?_
    | with_reducible refine Ok_ono ?_ | with_reducible refine Ok_oye ?_ | with_reducible refine Ok_cno ?_ | with_reducible refine Ok_cye ?_ | with_reducible refine Ok_tup ?_ | with_reducible refine Ok_lst ?_
    | with_reducible refine Ok_toB ?_ | with_reducible refine Ok_isB ?_ | with_reducible refine Ok_lt ?_ | with_reducible refine Ok_le ?_ | with_reducible refine Ok_gt ?_ | with_reducible refine Ok_ge ?_
    | with_reducible refine Ok_add ?_ | with_reducible refine Ok_sb ?_ | with_reducible refine Ok_lenS ?_ | with_reducible refine Ok_lenT ?_ | with_reducible refine Ok_lenL ?_ | with_reducible refine Ok_min ?_
    | with_reducible refine Ok_max ?_ | with_reducible refine Ok_tuL ?_ | with_reducible refine Ok_liT ?_ | with_reducible refine Ok_isi ?_ | with_reducible refine Ok_allF ?_ | with_reducible refine Ok_allT ?_
    | with_reducible refine Ok_slT ?_ | with_reducible refine Ok_comp ?_ | with_reducible refine Ok_seq ?_ | with_reducible refine Ok_rev ?_ | with_reducible refine Ok_rvT ?_ | with_reducible refine Ok_rvL ?_
    | with_reducible refine Ok_isN ?_ | with_reducible refine Ok_isNN ?_ | with_reducible refine Ok_eqI ?_ | with_reducible refine Ok_neI ?_ | with_reducible refine Ok_par ?_ | with_reducible refine Ok_asgT ?_
    | with_reducible refine Ok_mth ?_ | with_reducible refine Ok_dct ?_ | with_reducible refine Ok_okI ?_ | with_reducible refine Ok_bnd ?_
    | ((with_reducible refine Ok_ift ?_ ?_); (exact rfl)) | ((with_reducible refine Ok_iff ?_ ?_); (exact rfl))
    | refine Exists.intro _ (And.intro rfl ?_) | refine Exists.intro _ (Exists.intro _ (And.intro rfl (And.intro (show List.length _ ≤ _ by first | decide | simp) ?_))))
  refine (h5 hM2 (by omega) (by decide) (by decide)).mono ?_
  rintro _ M3 ⟨r3, rfl, a3, b3, hM3⟩
  repeat' (first
    | ((with_reducible apply Ok_var); (exact rfl))
    | with_reducible refine Ok_cons ?_ | with_reducible refine Ok_nil ?_ | with_reducible refine Ok_asg ?_ | with_reducible refine Ok_ret ?_ | with_reducible refine Ok_sub ?_ | with_reducible refine Ok_ife ?_
    | with_reducible refine Ok_expr ?_ | with_reducible refine Go_nx ?_ | with_reducible refine Go_rt ?_ | with_reducible refine Ok_cst ?_ | with_reducible refine Ok_bin ?_ | with_reducible refine Ok_idx ?_
    | with_reducible refine Ok_cmp ?_ | with_reducible refine Ok_chn ?_ | with_reducible refine Ok_and ?_ | with_reducible refine Ok_or ?_ | with_reducible refine Ok_not ?_ | with_reducible refine Ok_blt ?_
    | with_reducible refine Ok_callE ?_ | with_reducible refine Ok_slc ?_ | with_reducible refine Ok_ifx ?_ | with_reducible refine Ok_neg ?_ | with_reducible refine Ok_esc ?_ | with_reducible refine Ok_esn ?_
    | with_reducible refine Ok_ono ?_ | with_reducible refine Ok_oye ?_ | with_reducible refine Ok_cno ?_ | with_reducible refine Ok_cye ?_ | with_reducible refine Ok_tup ?_ | with_reducible refine Ok_lst ?_
    | with_reducible refine Ok_toB ?_ | with_reducible refine Ok_isB ?_ | with_reducible refine Ok_lt ?_ | with_reducible refine Ok_le ?_ | with_reducible refine Ok_gt ?_ | with_reducible refine Ok_ge ?_
    | with_reducible refine Ok_add ?_ | with_reducible refine Ok_sb ?_ | with_reducible refine Ok_lenS ?_ | with_reducible refine Ok_lenT ?_ | with_reducible refine Ok_lenL ?_ | with_reducible refine Ok_min ?_
    | with_reducible refine Ok_max ?_ | with_reducible refine Ok_tuL ?_ | with_reducible refine Ok_liT ?_ | with_reducible refine Ok_isi ?_ | with_reducible refine Ok_allF ?_ | with_reducible refine Ok_allT ?_
    | with_reducible refine Ok_slT ?_ | with_reducible refine Ok_comp ?_ | with_reducible refine Ok_seq ?_ | with_reducible refine Ok_rev ?_ | with_reducible refine Ok_rvT ?_ | with_reducible refine Ok_rvL ?_
    | with_reducible refine Ok_isN ?_ | with_reducible refine Ok_isNN ?_ | with_reducible refine Ok_eqI ?_ | with_reducible refine Ok_neI ?_ | with_reducible refine Ok_par ?_ | with_reducible refine Ok_asgT ?_
    | with_reducible refine Ok_mth ?_ | with_reducible refine Ok_dct ?_ | with_reducible refine Ok_okI ?_ | with_reducible refine Ok_bnd ?_
    | ((with_reducible refine Ok_ift ?_ ?_); (exact rfl)) | ((with_reducible refine Ok_iff ?_ ?_); (exact rfl))
    | refine Exists.intro _ (And.intro rfl ?_) | refine Exists.intro _ (Exists.intro _ (And.intro rfl (And.intro (show List.length _ ≤ _ by first | decide | simp) ?_))))
  refine (h5 hM3 (by omega) (by decide) (by decide)).mono ?_
  rintro _ M4 ⟨r4, rfl, a4, b4, hM4⟩
  repeat' (first
    | ((with_reducible apply Ok_var); (exact rfl))
    | with_reducible refine Ok_cons ?_ | with_reducible refine Ok_nil ?_ | with_reducible refine Ok_asg ?_ | with_reducible refine Ok_ret ?_ | with_reducible refine Ok_sub ?_ | with_reducible refine Ok_ife ?_
    | with_reducible refine Ok_expr ?_ | with_reducible refine Go_nx ?_ | with_reducible refine Go_rt ?_ | with_reducible refine Ok_cst ?_ | with_reducible refine Ok_bin ?_ | with_reducible refine Ok_idx ?_
    | with_reducible refine Ok_cmp ?_ | with_reducible refine Ok_chn ?_ | with_reducible refine Ok_and ?_ | with_reducible refine Ok_or ?_ | with_reducible refine Ok_not ?_ | with_reducible refine Ok_blt ?_
    | with_reducible refine Ok_callE ?_ | with_reducible refine Ok_slc ?_ | with_reducible refine Ok_ifx ?_ | with_reducible refine Ok_neg ?_ | with_reducible refine Ok_esc ?_ | with_reducible refine Ok_esn ?_
    | with_reducible refine Ok_ono ?_ | with_reducible refine Ok_oye ?_ | with_reducible refine Ok_cno ?_ | with_reducible refine Ok_cye ?_ | with_reducible refine Ok_tup ?_ | with_reducible refine Ok_lst ?_
    | with_reducible refine Ok_toB ?_ | with_reducible refine Ok_isB ?_ | with_reducible refine Ok_lt ?_ | with_reducible refine Ok_le ?_ | with_reducible refine Ok_gt ?_ | with_reducible refine Ok_ge ?_
    | with_reducible refine Ok_add ?_ | with_reducible refine Ok_sb ?_ | with_reducible refine Ok_lenS ?_ | with_reducible refine Ok_lenT ?_ | with_reducible refine Ok_lenL ?_ | with_reducible refine Ok_min ?_
    | with_reducible refine Ok_max ?_ | with_reducible refine Ok_tuL ?_ | with_reducible refine Ok_liT ?_ | with_reducible refine Ok_isi ?_ | with_reducible refine Ok_allF ?_ | with_reducible refine Ok_allT ?_
    | with_reducible refine Ok_slT ?_ | with_reducible refine Ok_comp ?_ | with_reducible refine Ok_seq ?_ | with_reducible refine Ok_rev ?_ | with_reducible refine Ok_rvT ?_ | with_reducible refine Ok_rvL ?_
    | with_reducible refine Ok_isN ?_ | with_reducible refine Ok_isNN ?_ | with_reducible refine Ok_eqI ?_ | with_reducible refine Ok_neI ?_ | with_reducible refine Ok_par ?_ | with_reducible refine Ok_asgT ?_
    | with_reducible refine Ok_mth ?_ | with_reducible refine Ok_dct ?_ | with_reducible refine Ok_okI ?_ | with_reducible refine Ok_bnd ?_
    | ((with_reducible refine Ok_ift ?_ ?_); (exact rfl)) | ((with_reducible refine Ok_iff ?_ ?_); (exact rfl))
    | refine Exists.intro _ (And.intro rfl ?_) | refine Exists.intro _ (Exists.intro _ (And.intro rfl (And.intro (show List.length _ ≤ _ by first | decide | simp) ?_))))
  refine (h5 hM4 (by omega) (by decide) (by decide)).mono ?_
  rintro _ M5 ⟨r5, rfl, a5, b5, hM5⟩
  repeat' (first
    | ((with_reducible apply Ok_var); (exact rfl))
    | with_reducible refine Ok_cons ?_ | with_reducible refine Ok_nil ?_ | with_reducible refine Ok_asg ?_ | with_reducible refine Ok_ret ?_ | with_reducible refine Ok_sub ?_ | with_reducible refine Ok_ife ?_
    | with_reducible refine Ok_expr ?_ | with_reducible refine Go_nx ?_ | with_reducible refine Go_rt ?_ | with_reducible refine Ok_cst ?_ | with_reducible refine Ok_bin ?_ | with_reducible refine Ok_idx ?_
    | with_reducible refine Ok_cmp ?_ | with_reducible refine Ok_chn ?_ | with_reducible refine Ok_and ?_ | with_reducible refine Ok_or ?_ | with_reducible refine Ok_not ?_ | with_reducible refine Ok_blt ?_
    | with_reducible refine Ok_callE ?_ | with_reducible refine Ok_slc ?_ | with_reducible refine Ok_ifx ?_ | with_reducible refine Ok_neg ?_ | with_reducible refine Ok_esc ?_ | with_reducible refine Ok_esn ?_
    | with_reducible refine Ok_ono ?_ | with_reducible refine Ok_oye ?_ | with_reducible refine Ok_cno ?_ | with_reducible refine Ok_cye ?_ | with_reducible refine Ok_tup ?_ | with_reducible refine Ok_lst ?_
    | with_reducible refine Ok_toB ?_ | with_reducible refine Ok_isB ?_ | with_reducible refine Ok_lt ?_ | with_reducible refine Ok_le ?_ | with_reducible refine Ok_gt ?_ | with_reducible refine Ok_ge ?_
    | with_reducible refine Ok_add ?_ | with_reducible refine Ok_sb ?_ | with_reducible refine Ok_lenS ?_ | with_reducible refine Ok_lenT ?_ | with_reducible refine Ok_lenL ?_ | with_reducible refine Ok_min ?_
    | with_reducible refine Ok_max ?_ | with_reducible refine Ok_tuL ?_ | with_reducible refine Ok_liT ?_ | with_reducible refine Ok_isi ?_ | with_reducible refine Ok_allF ?_ | with_reducible refine Ok_allT ?_
    | with_reducible refine Ok_slT ?_ | with_reducible refine Ok_comp ?_ | with_reducible refine Ok_seq ?_ | with_reducible refine Ok_rev ?_ | with_reducible refine Ok_rvT ?_ | with_reducible refine Ok_rvL ?_
    | with_reducible refine Ok_isN ?_ | with_reducible refine Ok_isNN ?_ | with_reducible refine Ok_eqI ?_ | with_reducible refine Ok_neI ?_ | with_reducible refine Ok_par ?_ | with_reducible refine Ok_asgT ?_
    | with_reducible refine Ok_mth ?_ | with_reducible refine Ok_dct ?_ | with_reducible refine Ok_okI ?_ | with_reducible refine Ok_bnd ?_
    | ((with_reducible refine Ok_ift ?_ ?_); (exact rfl)) | ((with_reducible refine Ok_iff ?_ ?_); (exact rfl))
    | refine Exists.intro _ (And.intro rfl ?_) | refine Exists.intro _ (Exists.intro _ (And.intro rfl (And.intro (show List.length _ ≤ _ by first | decide | simp) ?_))))
  refine (h6 hM5 (by omega) (by decide) (by decide)).mono ?_
  rintro _ M6 ⟨x6, m6, rfl, hM6⟩
  repeat' (first
    | ((with_reducible apply Ok_var); (exact rfl))
    | with_reducible refine Ok_cons ?_ | with_reducible refine Ok_nil ?_ | with_reducible refine Ok_asg ?_ | with_reducible refine Ok_ret ?_ | with_reducible refine Ok_sub ?_ | with_reducible refine Ok_ife ?_
    | with_reducible refine Ok_expr ?_ | with_reducible refine Go_nx ?_ | with_reducible refine Go_rt ?_ | with_reducible refine Ok_cst ?_ | with_reducible refine Ok_bin ?_ | with_reducible refine Ok_idx ?_
    | with_reducible refine Ok_cmp ?_ | with_reducible refine Ok_chn ?_ | with_reducible refine Ok_and ?_ | with_reducible refine Ok_or ?_ | with_reducible refine Ok_not ?_ | with_reducible refine Ok_blt ?_
    | with_reducible refine Ok_callE ?_ | with_reducible refine Ok_slc ?_ | with_reducible refine Ok_ifx ?_ | with_reducible refine Ok_neg ?_ | with_reducible refine Ok_esc ?_ | with_reducible refine Ok_esn ?_
    | with_reducible refine Ok_ono ?_ | with_reducible refine Ok_oye ?_ | with_reducible refine Ok_cno ?_ | with_reducible refine Ok_cye ?_ | with_reducible refine Ok_tup ?_ | with_reducible refine Ok_lst ?_
    | with_reducible refine Ok_toB ?_ | with_reducible refine Ok_isB ?_ | with_reducible refine Ok_lt ?_ | with_reducible refine Ok_le ?_ | with_reducible refine Ok_gt ?_ | with_reducible refine Ok_ge ?_
    | with_reducible refine Ok_add ?_ | with_reducible refine Ok_sb ?_ | with_reducible refine Ok_lenS ?_ | with_reducible refine Ok_lenT ?_ | with_reducible refine Ok_lenL ?_ | with_reducible refine Ok_min ?_
    | with_reducible refine Ok_max ?_ | with_reducible refine Ok_tuL ?_ | with_reducible refine Ok_liT ?_ | with_reducible refine Ok_isi ?_ | with_reducible refine Ok_allF ?_ | with_reducible refine Ok_allT ?_
    | with_reducible refine Ok_slT ?_ | with_reducible refine Ok_comp ?_ | with_reducible refine Ok_seq ?_ | with_reducible refine Ok_rev ?_ | with_reducible refine Ok_rvT ?_ | with_reducible refine Ok_rvL ?_
    | with_reducible refine Ok_isN ?_ | with_reducible refine Ok_isNN ?_ | with_reducible refine Ok_eqI ?_ | with_reducible refine Ok_neI ?_ | with_reducible refine Ok_par ?_ | with_reducible refine Ok_asgT ?_
    | with_reducible refine Ok_mth ?_ | with_reducible refine Ok_dct ?_ | with_reducible refine Ok_okI ?_ | with_reducible refine Ok_bnd ?_
    | ((with_reducible refine Ok_ift ?_ ?_); (exact rfl)) | ((with_reducible refine Ok_iff ?_ ?_); (exact rfl))
    | refine Exists.intro _ (And.intro rfl ?_) | refine Exists.intro _ (Exists.intro _ (And.intro rfl (And.intro (show List.length _ ≤ _ by first | decide | simp) ?_))))
  refine (h5 hM6 (by omega) (by decide) (by decide)).mono ?_
  rintro _ M7 ⟨r7, rfl, a7, b7, hM7⟩
  repeat' (first
    | ((with_reducible apply Ok_var); (exact rfl))
    | with_reducible refine Ok_cons ?_ | with_reducible refine Ok_nil ?_ | with_reducible refine Ok_asg ?_ | with_reducible refine Ok_ret ?_ | with_reducible refine Ok_sub ?_ | with_reducible refine Ok_ife ?_
    | with_reducible refine Ok_expr ?_ | with_reducible refine Go_nx ?_ | with_reducible refine Go_rt ?_ | with_reducible refine Ok_cst ?_ | with_reducible refine Ok_bin ?_ | with_reducible refine Ok_idx ?_
    | with_reducible refine Ok_cmp ?_ | with_reducible refine Ok_chn ?_ | with_reducible refine Ok_and ?_ | with_reducible refine Ok_or ?_ | with_reducible refine Ok_not ?_ | with_reducible refine Ok_blt ?_
    | with_reducible refine Ok_callE ?_ | with_reducible refine Ok_slc ?_ | with_reducible refine Ok_ifx ?_ | with_reducible refine Ok_neg ?_ | with_reducible refine Ok_esc ?_ | with_reducible refine Ok_esn ?_
    | with_reducible refine Ok_ono ?_ | with_reducible refine Ok_oye ?_ | with_reducible refine Ok_cno ?_ | with_reducible refine Ok_cye ?_ | with_reducible refine Ok_tup ?_ | with_reducible refine Ok_lst ?_
    | with_reducible refine Ok_toB ?_ | with_reducible refine Ok_isB ?_ | with_reducible refine Ok_lt ?_ | with_reducible refine Ok_le ?_ | with_reducible refine Ok_gt ?_ | with_reducible refine Ok_ge ?_
    | with_reducible refine Ok_add ?_ | with_reducible refine Ok_sb ?_ | with_reducible refine Ok_lenS ?_ | with_reducible refine Ok_lenT ?_ | with_reducible refine Ok_lenL ?_ | with_reducible refine Ok_min ?_
    | with_reducible refine Ok_max ?_ | with_reducible refine Ok_tuL ?_ | with_reducible refine Ok_liT ?_ | with_reducible refine Ok_isi ?_ | with_reducible refine Ok_allF ?_ | with_reducible refine Ok_allT ?_
    | with_reducible refine Ok_slT ?_ | with_reducible refine Ok_comp ?_ | with_reducible refine Ok_seq ?_ | with_reducible refine Ok_rev ?_ | with_reducible refine Ok_rvT ?_ | with_reducible refine Ok_rvL ?_
    | with_reducible refine Ok_isN ?_ | with_reducible refine Ok_isNN ?_ | with_reducible refine Ok_eqI ?_ | with_reducible refine Ok_neI ?_ | with_reducible refine Ok_par ?_ | with_reducible refine Ok_asgT ?_
    | with_reducible refine Ok_mth ?_ | with_reducible refine Ok_dct ?_ | with_reducible refine Ok_okI ?_ | with_reducible refine Ok_bnd ?_
    | ((with_reducible refine Ok_ift ?_ ?_); (exact rfl)) | ((with_reducible refine Ok_iff ?_ ?_); (exact rfl))
    | refine Exists.intro _ (And.intro rfl ?_) | refine Exists.intro _ (Exists.intro _ (And.intro rfl (And.intro (show List.length _ ≤ _ by first | decide | simp) ?_))))
  refine (h6 hM7 (by omega) (by decide) (by decide)).mono ?_
  rintro _ M8 ⟨x8, m8, rfl, hM8⟩
  repeat' (first
    | ((with_reducible apply Ok_var); (exact rfl))
    | with_reducible refine Ok_cons ?_ | with_reducible refine Ok_nil ?_ | with_reducible refine Ok_asg ?_ | with_reducible refine Ok_ret ?_ | with_reducible refine Ok_sub ?_ | with_reducible refine Ok_ife ?_
    | with_reducible refine Ok_expr ?_ | with_reducible refine Go_nx ?_ | with_reducible refine Go_rt ?_ | with_reducible refine Ok_cst ?_ | with_reducible refine Ok_bin ?_ | with_reducible refine Ok_idx ?_
    | with_reducible refine Ok_cmp ?_ | with_reducible refine Ok_chn ?_ | with_reducible refine Ok_and ?_ | with_reducible refine Ok_or ?_ | with_reducible refine Ok_not ?_ | with_reducible refine Ok_blt ?_
    | with_reducible refine Ok_callE ?_ | with_reducible refine Ok_slc ?_ | with_reducible refine Ok_ifx ?_ | with_reducible refine Ok_neg ?_ | with_reducible refine Ok_esc ?_ | with_reducible refine Ok_esn ?_
    | with_reducible refine Ok_ono ?_ | with_reducible refine Ok_oye ?_ | with_reducible refine Ok_cno ?_ | with_reducible refine Ok_cye ?_ | with_reducible refine Ok_tup ?_ | with_reducible refine Ok_lst ?_
    | with_reducible refine Ok_toB ?_ | with_reducible refine Ok_isB ?_ | with_reducible refine Ok_lt ?_ | with_reducible refine Ok_le ?_ | with_reducible refine Ok_gt ?_ | with_reducible refine Ok_ge ?_
    | with_reducible refine Ok_add ?_ | with_reducible refine Ok_sb ?_ | with_reducible refine Ok_lenS ?_ | with_reducible refine Ok_lenT ?_ | with_reducible refine Ok_lenL ?_ | with_reducible refine Ok_min ?_
    | with_reducible refine Ok_max ?_ | with_reducible refine Ok_tuL ?_ | with_reducible refine Ok_liT ?_ | with_reducible refine Ok_isi ?_ | with_reducible refine Ok_allF ?_ | with_reducible refine Ok_allT ?_
    | with_reducible refine Ok_slT ?_ | with_reducible refine Ok_comp ?_ | with_reducible refine Ok_seq ?_ | with_reducible refine Ok_rev ?_ | with_reducible refine Ok_rvT ?_ | with_reducible refine Ok_rvL ?_
    | with_reducible refine Ok_isN ?_ | with_reducible refine Ok_isNN ?_ | with_reducible refine Ok_eqI ?_ | with_reducible refine Ok_neI ?_ | with_reducible refine Ok_par ?_ | with_reducible refine Ok_asgT ?_
    | with_reducible refine Ok_mth ?_ | with_reducible refine Ok_dct ?_ | with_reducible refine Ok_okI ?_ | with_reducible refine Ok_bnd ?_
    | ((with_reducible refine Ok_ift ?_ ?_); (exact rfl)) | ((with_reducible refine Ok_iff ?_ ?_); (exact rfl))
    | refine Exists.intro _ (And.intro rfl ?_) | refine Exists.intro _ (Exists.intro _ (And.intro rfl (And.intro (show List.length _ ≤ _ by first | decide | simp) ?_))))
  refine (h5 hM8 (by omega) (by decide) (by decide)).mono ?_
  rintro _ M9 ⟨r9, rfl, a9, b9, hM9⟩
  repeat' (first
    | ((with_reducible apply Ok_var); (exact rfl))
    | with_reducible refine Ok_cons ?_ | with_reducible refine Ok_nil ?_ | with_reducible refine Ok_asg ?_ | with_reducible refine Ok_ret ?_ | with_reducible refine Ok_sub ?_ | with_reducible refine Ok_ife ?_
    | with_reducible refine Ok_expr ?_ | with_reducible refine Go_nx ?_ | with_reducible refine Go_rt ?_ | with_reducible refine Ok_cst ?_ | with_reducible refine Ok_bin ?_ | with_reducible refine Ok_idx ?_
    | with_reducible refine Ok_cmp ?_ | with_reducible refine Ok_chn ?_ | with_reducible refine Ok_and ?_ | with_reducible refine Ok_or ?_ | with_reducible refine Ok_not ?_ | with_reducible refine Ok_blt ?_
    | with_reducible refine Ok_callE ?_ | with_reducible refine Ok_slc ?_ | with_reducible refine Ok_ifx ?_ | with_reducible refine Ok_neg ?_ | with_reducible refine Ok_esc ?_ | with_reducible refine Ok_esn ?_
    | with_reducible refine Ok_ono ?_ | with_reducible refine Ok_oye ?_ | with_reducible refine Ok_cno ?_ | with_reducible refine Ok_cye ?_ | with_reducible refine Ok_tup ?_ | with_reducible refine Ok_lst ?_
    | with_reducible refine Ok_toB ?_ | with_reducible refine Ok_isB ?_ | with_reducible refine Ok_lt ?_ | with_reducible refine Ok_le ?_ | with_reducible refine Ok_gt ?_ | with_reducible refine Ok_ge ?_
    | with_reducible refine Ok_add ?_ | with_reducible refine Ok_sb ?_ | with_reducible refine Ok_lenS ?_ | with_reducible refine Ok_lenT ?_ | with_reducible refine Ok_lenL ?_ | with_reducible refine Ok_min ?_
    | with_reducible refine Ok_max ?_ | with_reducible refine Ok_tuL ?_ | with_reducible refine Ok_liT ?_ | with_reducible refine Ok_isi ?_ | with_reducible refine Ok_allF ?_ | with_reducible refine Ok_allT ?_
    | with_reducible refine Ok_slT ?_ | with_reducible refine Ok_comp ?_ | with_reducible refine Ok_seq ?_ | with_reducible refine Ok_rev ?_ | with_reducible refine Ok_rvT ?_ | with_reducible refine Ok_rvL ?_
    | with_reducible refine Ok_isN ?_ | with_reducible refine Ok_isNN ?_ | with_reducible refine Ok_eqI ?_ | with_reducible refine Ok_neI ?_ | with_reducible refine Ok_par ?_ | with_reducible refine Ok_asgT ?_
    | with_reducible refine Ok_mth ?_ | with_reducible refine Ok_dct ?_ | with_reducible refine Ok_okI ?_ | with_reducible refine Ok_bnd ?_
    | ((with_reducible refine Ok_ift ?_ ?_); (exact rfl)) | ((with_reducible refine Ok_iff ?_ ?_); (exact rfl))
    | refine Exists.intro _ (And.intro rfl ?_) | refine Exists.intro _ (Exists.intro _ (And.intro rfl (And.intro (show List.length _ ≤ _ by first | decide | simp) ?_))))
  refine (h5 hM9 (by omega) (by decide) (by decide)).mono ?_
  rintro _ M10 ⟨r10, rfl, a10, b10, hM10⟩
  repeat' (first
    | ((with_reducible apply Ok_var); (exact rfl))
    | with_reducible refine Ok_cons ?_ | with_reducible refine Ok_nil ?_ | with_reducible refine Ok_asg ?_ | with_reducible refine Ok_ret ?_ | with_reducible refine Ok_sub ?_ | with_reducible refine Ok_ife ?_
    | with_reducible refine Ok_expr ?_ | with_reducible refine Go_nx ?_ | with_reducible refine Go_rt ?_ | with_reducible refine Ok_cst ?_ | with_reducible refine Ok_bin ?_ | with_reducible refine Ok_idx ?_
    | with_reducible refine Ok_cmp ?_ | with_reducible refine Ok_chn ?_ | with_reducible refine Ok_and ?_ | with_reducible refine Ok_or ?_ | with_reducible refine Ok_not ?_ | with_reducible refine Ok_blt ?_
    | with_reducible refine Ok_callE ?_ | with_reducible refine Ok_slc ?_ | with_reducible refine Ok_ifx ?_ | with_reducible refine Ok_neg ?_ | with_reducible refine Ok_esc ?_ | with_reducible refine Ok_esn ?_
    | with_reducible refine Ok_ono ?_ | with_reducible refine Ok_oye ?_ | with_reducible refine Ok_cno ?_ | with_reducible refine Ok_cye ?_ | with_reducible refine Ok_tup ?_ | with_reducible refine Ok_lst ?_
    | with_reducible refine Ok_toB ?_ | with_reducible refine Ok_isB ?_ | with_reducible refine Ok_lt ?_ | with_reducible refine Ok_le ?_ | with_reducible refine Ok_gt ?_ | with_reducible refine Ok_ge ?_
    | with_reducible refine Ok_add ?_ | with_reducible refine Ok_sb ?_ | with_reducible refine Ok_lenS ?_ | with_reducible refine Ok_lenT ?_ | with_reducible refine Ok_lenL ?_ | with_reducible refine Ok_min ?_
    | with_reducible refine Ok_max ?_ | with_reducible refine Ok_tuL ?_ | with_reducible refine Ok_liT ?_ | with_reducible refine Ok_isi ?_ | with_reducible refine Ok_allF ?_ | with_reducible refine Ok_allT ?_
    | with_reducible refine Ok_slT ?_ | with_reducible refine Ok_comp ?_ | with_reducible refine Ok_seq ?_ | with_reducible refine Ok_rev ?_ | with_reducible refine Ok_rvT ?_ | with_reducible refine Ok_rvL ?_
    | with_reducible refine Ok_isN ?_ | with_reducible refine Ok_isNN ?_ | with_reducible refine Ok_eqI ?_ | with_reducible refine Ok_neI ?_ | with_reducible refine Ok_par ?_ | with_reducible refine Ok_asgT ?_
    | with_reducible refine Ok_mth ?_ | with_reducible refine Ok_dct ?_ | with_reducible refine Ok_okI ?_ | with_reducible refine Ok_bnd ?_
    | ((with_reducible refine Ok_ift ?_ ?_); (exact rfl)) | ((with_reducible refine Ok_iff ?_ ?_); (exact rfl))
    | refine Exists.intro _ (And.intro rfl ?_) | refine Exists.intro _ (Exists.intro _ (And.intro rfl (And.intro (show List.length _ ≤ _ by first | decide | simp) ?_))))
  refine (h6 hM10 (by omega) (by simp) (by simp)).mono ?_
  rintro _ M11 ⟨x11, m11, rfl, hM11⟩
  repeat' (first
    | ((with_reducible apply Ok_var); (exact rfl))
    | with_reducible refine Ok_cons ?_ | with_reducible refine Ok_nil ?_ | with_reducible refine Ok_asg ?_ | with_reducible refine Ok_ret ?_ | with_reducible refine Ok_sub ?_ | with_reducible refine Ok_ife ?_
    | with_reducible refine Ok_expr ?_ | with_reducible refine Go_nx ?_ | with_reducible refine Go_rt ?_ | with_reducible refine Ok_cst ?_ | with_reducible refine Ok_bin ?_ | with_reducible refine Ok_idx ?_
    | with_reducible refine Ok_cmp ?_ | with_reducible refine Ok_chn ?_ | with_reducible refine Ok_and ?_ | with_reducible refine Ok_or ?_ | with_reducible refine Ok_not ?_ | with_reducible refine Ok_blt ?_
    | with_reducible refine Ok_callE ?_ | with_reducible refine Ok_slc ?_ | with_reducible refine Ok_ifx ?_ | with_reducible refine Ok_neg ?_ | with_reducible refine Ok_esc ?_ | with_reducible refine Ok_esn ?_
    | with_reducible refine Ok_ono ?_ | with_reducible refine Ok_oye ?_ | with_reducible refine Ok_cno ?_ | with_reducible refine Ok_cye ?_ | with_reducible refine Ok_tup ?_ | with_reducible refine Ok_lst ?_
    | with_reducible refine Ok_toB ?_ | with_reducible refine Ok_isB ?_ | with_reducible refine Ok_lt ?_ | with_reducible refine Ok_le ?_ | with_reducible refine Ok_gt ?_ | with_reducible refine Ok_ge ?_
    | with_reducible refine Ok_add ?_ | with_reducible refine Ok_sb ?_ | with_reducible refine Ok_lenS ?_ | with_reducible refine Ok_lenT ?_ | with_reducible refine Ok_lenL ?_ | with_reducible refine Ok_min ?_
    | with_reducible refine Ok_max ?_ | with_reducible refine Ok_tuL ?_ | with_reducible refine Ok_liT ?_ | with_reducible refine Ok_isi ?_ | with_reducible refine Ok_allF ?_ | with_reducible refine Ok_allT ?_
    | with_reducible refine Ok_slT ?_ | with_reducible refine Ok_comp ?_ | with_reducible refine Ok_seq ?_ | with_reducible refine Ok_rev ?_ | with_reducible refine Ok_rvT ?_ | with_reducible refine Ok_rvL ?_
    | with_reducible refine Ok_isN ?_ | with_reducible refine Ok_isNN ?_ | with_reducible refine Ok_eqI ?_ | with_reducible refine Ok_neI ?_ | with_reducible refine Ok_par ?_ | with_reducible refine Ok_asgT ?_
    | with_reducible refine Ok_mth ?_ | with_reducible refine Ok_dct ?_ | with_reducible refine Ok_okI ?_ | with_reducible refine Ok_bnd ?_
    | ((with_reducible refine Ok_ift ?_ ?_); (exact rfl)) | ((with_reducible refine Ok_iff ?_ ?_); (exact rfl))
    | refine Exists.intro _ (And.intro rfl ?_) | refine Exists.intro _ (Exists.intro _ (And.intro rfl (And.intro (show List.length _ ≤ _ by first | decide | simp) ?_))))
  refine fin_p (by rw [hM11.len, hM.len]; exact Nat.le_refl _) ?_
  obtain ⟨y, hy, hy'⟩ : ∃ y, x6 = .str y ∧ (y = Str.ofString "oldest" ∨ y = Str.ofString "newest") := by
    simp only [List.mem_cons, List.not_mem_nil, or_false] at m6
    rcases m6 with h | h
    · exact ⟨_, h, .inl rfl⟩
    · exact ⟨_, h, .inr rfl⟩
  obtain ⟨tk, htk, htk'⟩ : ∃ tk : Option Int, x8 = (match tk with | none => PyData.none | some k => .int k) ∧ ∀ k, tk = some k → 0 ≤ k ∧ k ≤ 4 := by
    simp only [List.mem_cons, List.not_mem_nil, or_false] at m8
    rcases m8 with h | h | h | h | h | h | h
    · exact ⟨none, h, fun k e => by cases e⟩
    · exact ⟨none, h, fun k e => by cases e⟩
    · exact ⟨some 0, h, fun k e => by cases e; decide⟩
    · exact ⟨some 1, h, fun k e => by cases e; decide⟩
    · exact ⟨some 2, h, fun k e => by cases e; decide⟩
    · exact ⟨some 3, h, fun k e => by cases e; decide⟩
    · exact ⟨some 4, h, fun k e => by cases e; decide⟩
  obtain ⟨fu, hfu, hfu'⟩ : ∃ fu : Option (Int × Int), x11 = (match fu with | none => PyData.none | some (a, b) => .tuple [.int a, .int b]) ∧ ∀ a b, fu = some (a, b) → (1 ≤ a ∧ a ≤ 3) ∧ 1 ≤ b ∧ b ≤ 3 := by
    simp only [List.mem_cons, List.not_mem_nil, or_false] at m11
    rcases m11 with h | h | h
    · exact ⟨none, h, fun a b e => by cases e⟩
    · exact ⟨none, h, fun a b e => by cases e⟩
    · exact ⟨some (1 + r9, 1 + r10), h, fun a b e => by cases e; omega⟩
  subst hy htk hfu
  refine ⟨⟨1 + r1, 1 + r2, 1 + r3, 1 + r4, 1 + r5, y, r7 == 0, tk, fu⟩, ⟨⟨by show 1 ≤ 1 + r1; omega, by show 1 + r1 ≤ 3; omega⟩, ⟨by show 1 ≤ 1 + r2; omega, by show 1 + r2 ≤ 5; omega⟩, ⟨by show 1 ≤ 1 + r3; omega, by show 1 + r3 ≤ 4; omega⟩, ⟨by show 1 ≤ 1 + r4; omega, by show 1 + r4 ≤ 3; omega⟩, ⟨by show 1 ≤ 1 + r5; omega, by show 1 + r5 ≤ 3; omega⟩, hy', htk', hfu'⟩, rfl, hM11⟩

def Stg.tk (s : Stg) : Int := match s.tok with
  | none => 0
  | some k => k
/-- the first state of a setting -/
def Stg.first (s : Stg) : PyData := .tuple [.int 0, .tuple [], .tuple (List.replicate s.wait.toNat [PyData.tuple (List.replicate (s.tries - 1).toNat [PyData.int 0]).flatten]).flatten, .int s.tk, .int 0]
theorem first_ok (h16 : T 16 = some ⟨1, 4, true, bFst⟩) {M : Mem} (s : Stg) (hs : s.Ok) : run T fuel (k + 1) 16 [.p s.d] M = .ok (.p s.first) M := by
  refine Ok.out ?_
  refine Ok_call h16 rfl ?_
  simp only [bFst, enter, List.map_cons, List.map_nil, List.replicate, List.cons_append, List.nil_append, Nat.sub_self, List.append_nil, Stg.d]
  obtain ⟨h1, h2⟩ := hs.tries
  obtain ⟨h3, h4⟩ := hs.wait
  repeat' (first
    | ((with_reducible apply Ok_var); (exact rfl))
    | with_reducible refine Ok_cons ?_ | with_reducible refine Ok_nil ?_ | with_reducible refine Ok_asg ?_ | with_reducible refine Ok_ret ?_ | with_reducible refine Ok_sub ?_ | with_reducible refine Ok_ife ?_
    | with_reducible refine Ok_expr ?_ | with_reducible refine Go_nx ?_ | with_reducible refine Go_rt ?_ | with_reducible refine Ok_cst ?_ | with_reducible refine Ok_bin ?_ | with_reducible refine Ok_idx ?_
    | with_reducible refine Ok_cmp ?_ | with_reducible refine Ok_chn ?_ | with_reducible refine Ok_and ?_ | with_reducible refine Ok_or ?_ | with_reducible refine Ok_not ?_ | with_reducible refine Ok_blt ?_
    | with_reducible refine Ok_callE ?_ | with_reducible refine Ok_slc ?_ | with_reducible refine Ok_ifx ?_ | with_reducible refine Ok_neg ?_ | with_reducible refine Ok_esc ?_ | with_reducible refine Ok_esn ?_
    | with_reducible refine Ok_ono ?_ | with_reducible refine Ok_oye ?_ | with_reducible refine Ok_cno ?_ | with_reducible refine Ok_cye ?_ | with_reducible refine Ok_tup ?_ | with_reducible refine Ok_lst ?_
    | with_reducible refine Ok_toB ?_ | with_reducible refine Ok_isB ?_ | with_reducible refine Ok_lt ?_ | with_reducible refine Ok_le ?_ | with_reducible refine Ok_gt ?_ | with_reducible refine Ok_ge ?_
    | with_reducible refine Ok_add ?_ | with_reducible refine Ok_sb ?_ | with_reducible refine Ok_lenS ?_ | with_reducible refine Ok_lenT ?_ | with_reducible refine Ok_lenL ?_ | with_reducible refine Ok_min ?_
    | with_reducible refine Ok_max ?_ | with_reducible refine Ok_tuL ?_ | with_reducible refine Ok_liT ?_ | with_reducible refine Ok_isi ?_ | with_reducible refine Ok_allF ?_ | with_reducible refine Ok_allT ?_
    | with_reducible refine Ok_slT ?_ | with_reducible refine Ok_comp ?_ | with_reducible refine Ok_seq ?_ | with_reducible refine Ok_rev ?_ | with_reducible refine Ok_rvT ?_ | with_reducible refine Ok_rvL ?_
    | with_reducible refine Ok_isN ?_ | with_reducible refine Ok_isNN ?_ | with_reducible refine Ok_eqI ?_ | with_reducible refine Ok_neI ?_ | with_reducible refine Ok_par ?_ | with_reducible refine Ok_asgT ?_
    | with_reducible refine Ok_mth ?_ | with_reducible refine Ok_dct ?_ | with_reducible refine Ok_okI ?_ | with_reducible refine Ok_bnd ?_
    | with_reducible refine Ok_ixT rfl ?_
    | ((with_reducible refine Ok_ift ?_ ?_); (exact rfl)) | ((with_reducible refine Ok_iff ?_ ?_); (exact rfl))
    | refine Exists.intro _ (And.intro rfl ?_) | refine Exists.intro _ (Exists.intro _ (And.intro rfl (And.intro (show List.length _ ≤ _ by first | decide | simp) ?_))))
  refine Ok_mulT ⟨by omega, by omega, by simp only [List.length_singleton]; omega⟩ ?_
  repeat' (first
    | ((with_reducible apply Ok_var); (exact rfl))
    | with_reducible refine Ok_cons ?_ | with_reducible refine Ok_nil ?_ | with_reducible refine Ok_asg ?_ | with_reducible refine Ok_ret ?_ | with_reducible refine Ok_sub ?_ | with_reducible refine Ok_ife ?_
    | with_reducible refine Ok_expr ?_ | with_reducible refine Go_nx ?_ | with_reducible refine Go_rt ?_ | with_reducible refine Ok_cst ?_ | with_reducible refine Ok_bin ?_ | with_reducible refine Ok_idx ?_
    | with_reducible refine Ok_cmp ?_ | with_reducible refine Ok_chn ?_ | with_reducible refine Ok_and ?_ | with_reducible refine Ok_or ?_ | with_reducible refine Ok_not ?_ | with_reducible refine Ok_blt ?_
    | with_reducible refine Ok_callE ?_ | with_reducible refine Ok_slc ?_ | with_reducible refine Ok_ifx ?_ | with_reducible refine Ok_neg ?_ | with_reducible refine Ok_esc ?_ | with_reducible refine Ok_esn ?_
    | with_reducible refine Ok_ono ?_ | with_reducible refine Ok_oye ?_ | with_reducible refine Ok_cno ?_ | with_reducible refine Ok_cye ?_ | with_reducible refine Ok_tup ?_ | with_reducible refine Ok_lst ?_
    | with_reducible refine Ok_toB ?_ | with_reducible refine Ok_isB ?_ | with_reducible refine Ok_lt ?_ | with_reducible refine Ok_le ?_ | with_reducible refine Ok_gt ?_ | with_reducible refine Ok_ge ?_
    | with_reducible refine Ok_add ?_ | with_reducible refine Ok_sb ?_ | with_reducible refine Ok_lenS ?_ | with_reducible refine Ok_lenT ?_ | with_reducible refine Ok_lenL ?_ | with_reducible refine Ok_min ?_
    | with_reducible refine Ok_max ?_ | with_reducible refine Ok_tuL ?_ | with_reducible refine Ok_liT ?_ | with_reducible refine Ok_isi ?_ | with_reducible refine Ok_allF ?_ | with_reducible refine Ok_allT ?_
    | with_reducible refine Ok_slT ?_ | with_reducible refine Ok_comp ?_ | with_reducible refine Ok_seq ?_ | with_reducible refine Ok_rev ?_ | with_reducible refine Ok_rvT ?_ | with_reducible refine Ok_rvL ?_
    | with_reducible refine Ok_isN ?_ | with_reducible refine Ok_isNN ?_ | with_reducible refine Ok_eqI ?_ | with_reducible refine Ok_neI ?_ | with_reducible refine Ok_par ?_ | with_reducible refine Ok_asgT ?_
    | with_reducible refine Ok_mth ?_ | with_reducible refine Ok_dct ?_ | with_reducible refine Ok_okI ?_ | with_reducible refine Ok_bnd ?_
    | ((with_reducible refine Ok_ift ?_ ?_); (exact rfl)) | ((with_reducible refine Ok_iff ?_ ?_); (exact rfl))
    | refine Exists.intro _ (And.intro rfl ?_) | refine Exists.intro _ (Exists.intro _ (And.intro rfl (And.intro (show List.length _ ≤ _ by first | decide | simp) ?_))))
  refine Ok_mulT ⟨by omega, by omega, by simp only [List.length_singleton]; omega⟩ ?_
  repeat' (first
    | ((with_reducible apply Ok_var); (exact rfl))
    | with_reducible refine Ok_cons ?_ | with_reducible refine Ok_nil ?_ | with_reducible refine Ok_asg ?_ | with_reducible refine Ok_ret ?_ | with_reducible refine Ok_sub ?_ | with_reducible refine Ok_ife ?_
    | with_reducible refine Ok_expr ?_ | with_reducible refine Go_nx ?_ | with_reducible refine Go_rt ?_ | with_reducible refine Ok_cst ?_ | with_reducible refine Ok_bin ?_ | with_reducible refine Ok_idx ?_
    | with_reducible refine Ok_cmp ?_ | with_reducible refine Ok_chn ?_ | with_reducible refine Ok_and ?_ | with_reducible refine Ok_or ?_ | with_reducible refine Ok_not ?_ | with_reducible refine Ok_blt ?_
    | with_reducible refine Ok_callE ?_ | with_reducible refine Ok_slc ?_ | with_reducible refine Ok_ifx ?_ | with_reducible refine Ok_neg ?_ | with_reducible refine Ok_esc ?_ | with_reducible refine Ok_esn ?_
    | with_reducible refine Ok_ono ?_ | with_reducible refine Ok_oye ?_ | with_reducible refine Ok_cno ?_ | with_reducible refine Ok_cye ?_ | with_reducible refine Ok_tup ?_ | with_reducible refine Ok_lst ?_
    | with_reducible refine Ok_toB ?_ | with_reducible refine Ok_isB ?_ | with_reducible refine Ok_lt ?_ | with_reducible refine Ok_le ?_ | with_reducible refine Ok_gt ?_ | with_reducible refine Ok_ge ?_
    | with_reducible refine Ok_add ?_ | with_reducible refine Ok_sb ?_ | with_reducible refine Ok_lenS ?_ | with_reducible refine Ok_lenT ?_ | with_reducible refine Ok_lenL ?_ | with_reducible refine Ok_min ?_
    | with_reducible refine Ok_max ?_ | with_reducible refine Ok_tuL ?_ | with_reducible refine Ok_liT ?_ | with_reducible refine Ok_isi ?_ | with_reducible refine Ok_allF ?_ | with_reducible refine Ok_allT ?_
    | with_reducible refine Ok_slT ?_ | with_reducible refine Ok_comp ?_ | with_reducible refine Ok_seq ?_ | with_reducible refine Ok_rev ?_ | with_reducible refine Ok_rvT ?_ | with_reducible refine Ok_rvL ?_
    | with_reducible refine Ok_isN ?_ | with_reducible refine Ok_isNN ?_ | with_reducible refine Ok_eqI ?_ | with_reducible refine Ok_neI ?_ | with_reducible refine Ok_par ?_ | with_reducible refine Ok_asgT ?_
    | with_reducible refine Ok_mth ?_ | with_reducible refine Ok_dct ?_ | with_reducible refine Ok_okI ?_ | with_reducible refine Ok_bnd ?_
    | ((with_reducible refine Ok_ift ?_ ?_); (exact rfl)) | ((with_reducible refine Ok_iff ?_ ?_); (exact rfl))
    | refine Exists.intro _ (And.intro rfl ?_) | refine Exists.intro _ (Exists.intro _ (And.intro rfl (And.intro (show List.length _ ≤ _ by first | decide | simp) ?_))))
  refine Ok_if (fun hn => ?_) (fun hn => ?_)
  · repeat' (first
    | ((with_reducible apply Ok_var); (exact rfl))
    | with_reducible refine Ok_cons ?_ | with_reducible refine Ok_nil ?_ | with_reducible refine Ok_asg ?_ | with_reducible refine Ok_ret ?_ | with_reducible refine Ok_sub ?_ | with_reducible refine Ok_ife ?_
    | with_reducible refine Ok_expr ?_ | with_reducible refine Go_nx ?_ | with_reducible refine Go_rt ?_ | with_reducible refine Ok_cst ?_ | with_reducible refine Ok_bin ?_ | with_reducible refine Ok_idx ?_
    | with_reducible refine Ok_cmp ?_ | with_reducible refine Ok_chn ?_ | with_reducible refine Ok_and ?_ | with_reducible refine Ok_or ?_ | with_reducible refine Ok_not ?_ | with_reducible refine Ok_blt ?_
    | with_reducible refine Ok_callE ?_ | with_reducible refine Ok_slc ?_ | with_reducible refine Ok_ifx ?_ | with_reducible refine Ok_neg ?_ | with_reducible refine Ok_esc ?_ | with_reducible refine Ok_esn ?_
    | with_reducible refine Ok_ono ?_ | with_reducible refine Ok_oye ?_ | with_reducible refine Ok_cno ?_ | with_reducible refine Ok_cye ?_ | with_reducible refine Ok_tup ?_ | with_reducible refine Ok_lst ?_
    | with_reducible refine Ok_toB ?_ | with_reducible refine Ok_isB ?_ | with_reducible refine Ok_lt ?_ | with_reducible refine Ok_le ?_ | with_reducible refine Ok_gt ?_ | with_reducible refine Ok_ge ?_
    | with_reducible refine Ok_add ?_ | with_reducible refine Ok_sb ?_ | with_reducible refine Ok_lenS ?_ | with_reducible refine Ok_lenT ?_ | with_reducible refine Ok_lenL ?_ | with_reducible refine Ok_min ?_
    | with_reducible refine Ok_max ?_ | with_reducible refine Ok_tuL ?_ | with_reducible refine Ok_liT ?_ | with_reducible refine Ok_isi ?_ | with_reducible refine Ok_allF ?_ | with_reducible refine Ok_allT ?_
    | with_reducible refine Ok_slT ?_ | with_reducible refine Ok_comp ?_ | with_reducible refine Ok_seq ?_ | with_reducible refine Ok_rev ?_ | with_reducible refine Ok_rvT ?_ | with_reducible refine Ok_rvL ?_
    | with_reducible refine Ok_isN ?_ | with_reducible refine Ok_isNN ?_ | with_reducible refine Ok_eqI ?_ | with_reducible refine Ok_neI ?_ | with_reducible refine Ok_par ?_ | with_reducible refine Ok_asgT ?_
    | with_reducible refine Ok_mth ?_ | with_reducible refine Ok_dct ?_ | with_reducible refine Ok_okI ?_ | with_reducible refine Ok_bnd ?_
    | ((with_reducible refine Ok_ift ?_ ?_); (exact rfl)) | ((with_reducible refine Ok_iff ?_ ?_); (exact rfl))
    | refine Exists.intro _ (And.intro rfl ?_) | refine Exists.intro _ (Exists.intro _ (And.intro rfl (And.intro (show List.length _ ≤ _ by first | decide | simp) ?_))))
    refine fin_p (Nat.le_refl _) (And.intro ?_ rfl)
    have : s.tk = 0 := by
      unfold Stg.tokD at hn
      unfold Stg.tk
      split at hn <;> simp_all [isNone]
    simp only [Stg.first, this]
  · repeat' (first
    | ((with_reducible apply Ok_var); (exact rfl))
    | with_reducible refine Ok_cons ?_ | with_reducible refine Ok_nil ?_ | with_reducible refine Ok_asg ?_ | with_reducible refine Ok_ret ?_ | with_reducible refine Ok_sub ?_ | with_reducible refine Ok_ife ?_
    | with_reducible refine Ok_expr ?_ | with_reducible refine Go_nx ?_ | with_reducible refine Go_rt ?_ | with_reducible refine Ok_cst ?_ | with_reducible refine Ok_bin ?_ | with_reducible refine Ok_idx ?_
    | with_reducible refine Ok_cmp ?_ | with_reducible refine Ok_chn ?_ | with_reducible refine Ok_and ?_ | with_reducible refine Ok_or ?_ | with_reducible refine Ok_not ?_ | with_reducible refine Ok_blt ?_
    | with_reducible refine Ok_callE ?_ | with_reducible refine Ok_slc ?_ | with_reducible refine Ok_ifx ?_ | with_reducible refine Ok_neg ?_ | with_reducible refine Ok_esc ?_ | with_reducible refine Ok_esn ?_
    | with_reducible refine Ok_ono ?_ | with_reducible refine Ok_oye ?_ | with_reducible refine Ok_cno ?_ | with_reducible refine Ok_cye ?_ | with_reducible refine Ok_tup ?_ | with_reducible refine Ok_lst ?_
    | with_reducible refine Ok_toB ?_ | with_reducible refine Ok_isB ?_ | with_reducible refine Ok_lt ?_ | with_reducible refine Ok_le ?_ | with_reducible refine Ok_gt ?_ | with_reducible refine Ok_ge ?_
    | with_reducible refine Ok_add ?_ | with_reducible refine Ok_sb ?_ | with_reducible refine Ok_lenS ?_ | with_reducible refine Ok_lenT ?_ | with_reducible refine Ok_lenL ?_ | with_reducible refine Ok_min ?_
    | with_reducible refine Ok_max ?_ | with_reducible refine Ok_tuL ?_ | with_reducible refine Ok_liT ?_ | with_reducible refine Ok_isi ?_ | with_reducible refine Ok_allF ?_ | with_reducible refine Ok_allT ?_
    | with_reducible refine Ok_slT ?_ | with_reducible refine Ok_comp ?_ | with_reducible refine Ok_seq ?_ | with_reducible refine Ok_rev ?_ | with_reducible refine Ok_rvT ?_ | with_reducible refine Ok_rvL ?_
    | with_reducible refine Ok_isN ?_ | with_reducible refine Ok_isNN ?_ | with_reducible refine Ok_eqI ?_ | with_reducible refine Ok_neI ?_ | with_reducible refine Ok_par ?_ | with_reducible refine Ok_asgT ?_
    | with_reducible refine Ok_mth ?_ | with_reducible refine Ok_dct ?_ | with_reducible refine Ok_okI ?_ | with_reducible refine Ok_bnd ?_
    | ((with_reducible refine Ok_ift ?_ ?_); (exact rfl)) | ((with_reducible refine Ok_iff ?_ ?_); (exact rfl))
    | refine Exists.intro _ (And.intro rfl ?_) | refine Exists.intro _ (Exists.intro _ (And.intro rfl (And.intro (show List.length _ ≤ _ by first | decide | simp) ?_))))
    refine fin_p (Nat.le_refl _) (And.intro ?_ rfl)
    have : s.tokD = .int s.tk := by
      unfold Stg.tokD at hn ⊢
      unfold Stg.tk
      split at hn <;> simp_all [isNone]
    simp only [Stg.first, this]
def odds : List PyData := [.none, .bool true, .bool false, .int 0, .int 1, .int (-1), .int 2, .int 3, .int 4, .int 5, .int 6, .int 100000000000, .int (-100000000000),
  .str (Str.ofString ""), .str (Str.ofString "oldest"), .str (Str.ofString "newest"), .str (Str.ofString "Oldest"), .str (Str.ofString "yes"), .str (Str.ofString "2"),
  .tuple [], .list [], .dict [], .tuple [.int 1], .tuple [.int 1, .int 1], .tuple [.int 3, .int 3], .tuple [.int 0, .int 1], .tuple [.int 1, .int 0], .tuple [.int 4, .int 1], .tuple [.int 1, .int 4], .tuple [.int 1, .int 1, .int 1],
  .list [.int 1, .int 1], .tuple [.bool true, .int 1], .tuple [.int 1, .bool true], .tuple [.none, .int 1], .tuple [.str (Str.ofString "1"), .int 1], .tuple [.tuple [.int 1, .int 1]], .list [.tuple [.int 1, .int 1]], .dict [(.int 1, .int 1)],
  .tuple [.int 0], .tuple [.tuple []], .tuple [.tuple [.int 0]]]
theorem odds_ok (h10 : T 10 = some ⟨0, 1, true, bOdds⟩) {M : Mem} : run T fuel (k + 1) 10 [] M = .ok (.p (.list odds)) M := by
  have h : evSs (run T fuel k) fuel bOdds (enter ⟨0, 1, true, bOdds⟩ []) M = .ok (.rt (.p (.list odds))) M := rfl
  rw [run, h10]
  simp only [callF, List.length_nil, if_true, h, fin, List.take_length]
end
end Mi

set_option Elab.async false
set_option linter.all false
set_option maxRecDepth 100000
set_option maxHeartbeats 4000000
namespace K01
open PySem PySem.Spec PyProof.Rows L2 Mi
def topS (i : Nat) : Stmt := PySem.Challenge.pw_comesback_k01_settings_known.main.body.getD i (.Pass ⟨0, 0, 0, 0⟩)
def b1 : CSs :=
  (.cons (.ret (.and (.blt (.isi .int) (.cons (.var 0) .nil)) (.and (.not (.blt (.isi .bool) (.cons (.var 0) .nil))) (.chn .le .le (.var 1) (.var 0) (.var 2))))) .nil)
def d1 : DefI := ⟨"is_whole", topS 9, ["thing", "low", "high"], ["thing", "low", "high"], 1, ⟨[], false⟩, true, b1⟩
def b13 : CSs :=
  (.cons (.ife (.cmp .is (.var 0) (.cst .none)) (.cons (.ret (.cst (.bool true))) .nil) .nil) (.cons (.ife (.or (.not (.blt (.isi .tuple) (.cons (.var 0) .nil))) (.cmp .ne (.blt .len (.cons (.var 0) .nil)) (.cst (.int 2)))) (.cons (.ret (.cst (.bool false))) .nil) .nil) (.cons (.ret (.and (.call 1 (.cons (.idx (.var 0) (.cst (.int 0))) (.cons (.cst (.int 1)) (.cons (.cst (.int 3)) .nil)))) (.call 1 (.cons (.idx (.var 0) (.cst (.int 1))) (.cons (.cst (.int 1)) (.cons (.cst (.int 3)) .nil)))))) .nil)))
def d13 : DefI := ⟨"is_fuse", topS 10, ["thing"], ["thing"], 13, ⟨[], false⟩, true, b13⟩
def b14 : CSs :=
  (.cons (.ife (.or (.not (.blt (.isi .tuple) (.cons (.var 0) .nil))) (.cmp .ne (.blt .len (.cons (.var 0) .nil)) (.cst (.int 9)))) (.cons (.ret (.cst (.bool false))) .nil) .nil) (.cons (.asg (.tp [1, 2, 3, 4, 5, 6, 7, 8, 9]) (.var 0)) (.cons (.ife (.or (.not (.call 1 (.cons (.var 1) (.cons (.cst (.int 1)) (.cons (.cst (.int 3)) .nil))))) (.not (.call 1 (.cons (.var 2) (.cons (.cst (.int 1)) (.cons (.cst (.int 5)) .nil)))))) (.cons (.ret (.cst (.bool false))) .nil) .nil) (.cons (.ife (.or (.not (.call 1 (.cons (.var 3) (.cons (.cst (.int 1)) (.cons (.cst (.int 4)) .nil))))) (.not (.call 1 (.cons (.var 4) (.cons (.cst (.int 1)) (.cons (.cst (.int 3)) .nil)))))) (.cons (.ret (.cst (.bool false))) .nil) .nil) (.cons (.ife (.not (.call 1 (.cons (.var 5) (.cons (.cst (.int 1)) (.cons (.cst (.int 3)) .nil))))) (.cons (.ret (.cst (.bool false))) .nil) .nil) (.cons (.ife (.or (.not (.blt (.isi .str) (.cons (.var 6) .nil))) (.or (.cmp .notin (.var 6) (.cst (.tuple [(.str (Str.ofString "oldest")), (.str (Str.ofString "newest"))]))) (.not (.blt (.isi .bool) (.cons (.var 7) .nil))))) (.cons (.ret (.cst (.bool false))) .nil) .nil) (.cons (.ret (.and (.or (.cmp .is (.var 8) (.cst .none)) (.call 1 (.cons (.var 8) (.cons (.cst (.int 0)) (.cons (.cst (.int 4)) .nil))))) (.call 13 (.cons (.var 9) .nil)))) .nil)))))))
def d14 : DefI := ⟨"is_setting", topS 11, ["thing", "work", "room", "patience", "tries", "wait", "way", "dead", "tokens", "fuse"], ["thing"], 14, ⟨[], false⟩, true, b14⟩
def b3 : CSs :=
  (.cons (.ife (.cmp .lt (.var 1) (.blt .len (.cons (.var 0) .nil))) (.cons (.ret (.idx (.var 0) (.var 1))) .nil) .nil) (.cons (.ret (.cst (.int 0))) .nil))
def d3 : DefI := ⟨"_law_cell_at", topS 13, ["_law_script", "_law_k"], ["_law_script", "_law_k"], 3, ⟨[], false⟩, true, b3⟩
def b4 : CSs :=
  (.cons (.ret (.lst true (.cons (.blt .max (.cons (.cst (.int 0)) (.cons (.bin .sub false (.var 0) (.bin .pow false (.cst (.int 10)) (.cst (.int 18)))) .nil))) (.cons (.bin .mod false (.var 0) (.cst (.int 1000000007))) (.cons (.cst (.int 0)) .nil))))) .nil)
def d4 : DefI := ⟨"_law_pen", topS 14, ["_law_cell"], ["_law_cell"], 4, ⟨[], true⟩, false, b4⟩
def b5 : CSs :=
  (.cons (.ife (.cmp .gt (.idx (.var 0) (.cst (.int 0))) (.cst (.int 0))) (.cons (.asg (.nm 2) (.bin .mod false (.idx (.var 0) (.cst (.int 0))) (.var 1))) (.cons (.sub (.var 0) (.cst (.int 0)) (.bin .fdiv false (.idx (.var 0) (.cst (.int 0))) (.var 1))) (.cons (.ret (.var 2)) .nil))) .nil) (.cons (.sub (.var 0) (.cst (.int 2)) (.bin .add false (.idx (.var 0) (.cst (.int 2))) (.cst (.int 1)))) (.cons (.asg (.nm 3) (.bin .mod false (.bin .mul false (.bin .add false (.idx (.var 0) (.cst (.int 1))) (.bin .mul false (.cst (.int 17)) (.idx (.var 0) (.cst (.int 2))))) (.bin .add false (.cst (.int 69621)) (.bin .mul false (.cst (.int 2)) (.idx (.var 0) (.cst (.int 2)))))) (.cst (.int 2147483647)))) (.cons (.asg (.nm 3) (.bin .mod false (.bin .add false (.bin .add false (.bin .mul false (.var 3) (.var 3)) (.bin .mul false (.cst (.int 40503)) (.idx (.var 0) (.cst (.int 2))))) (.cst (.int 5))) (.cst (.int 2147483629)))) (.cons (.ret (.bin .mod false (.bin .fdiv false (.bin .mod false (.bin .mul false (.var 3) (.cst (.int 48271))) (.cst (.int 2147483647))) (.cst (.int 32))) (.var 1))) .nil)))))
def d5 : DefI := ⟨"_law_draw", topS 15, ["_law_pen_here", "_law_many", "_law_digit", "_law_stir"], ["_law_pen_here", "_law_many"], 5, ⟨[], false⟩, true, b5⟩
def b6 : CSs :=
  (.cons (.ret (.idx (.var 1) (.call 5 (.cons (.var 0) (.cons (.blt .len (.cons (.var 1) .nil)) .nil))))) .nil)
def d6 : DefI := ⟨"_law_pick", topS 16, ["_law_pen_here", "_law_things"], ["_law_pen_here", "_law_things"], 6, ⟨[], false⟩, true, b6⟩
def b7 : CSs :=
  (.cons (.ret (.cmp .eq (.blt .repr (.cons (.var 0) .nil)) (.blt .repr (.cons (.var 1) .nil)))) .nil)
def d7 : DefI := ⟨"_law_same", topS 17, ["_law_found", "_law_due"], ["_law_found", "_law_due"], 7, ⟨[], false⟩, true, b7⟩
def b8 : CSs :=
  (.cons (.ret (.and (.blt (.isi .int) (.cons (.var 0) .nil)) (.and (.not (.blt (.isi .bool) (.cons (.var 0) .nil))) (.chn .le .le (.var 1) (.var 0) (.var 2))))) .nil)
def d8 : DefI := ⟨"_law_whole", topS 18, ["_law_thing", "_law_low", "_law_high"], ["_law_thing", "_law_low", "_law_high"], 8, ⟨[], false⟩, true, b8⟩
def b15 : CSs :=
  (.cons (.par [1, 2, 3] (.cons (.bin .add false (.cst (.int 1)) (.call 5 (.cons (.var 0) (.cons (.cst (.int 3)) .nil)))) (.cons (.bin .add false (.cst (.int 1)) (.call 5 (.cons (.var 0) (.cons (.cst (.int 5)) .nil)))) (.cons (.bin .add false (.cst (.int 1)) (.call 5 (.cons (.var 0) (.cons (.cst (.int 4)) .nil)))) .nil)))) (.cons (.par [4, 5] (.cons (.bin .add false (.cst (.int 1)) (.call 5 (.cons (.var 0) (.cons (.cst (.int 3)) .nil)))) (.cons (.bin .add false (.cst (.int 1)) (.call 5 (.cons (.var 0) (.cons (.cst (.int 3)) .nil)))) .nil))) (.cons (.par [6, 7] (.cons (.call 6 (.cons (.var 0) (.cons (.lst false (.cons (.cst (.str (Str.ofString "oldest"))) (.cons (.cst (.str (Str.ofString "newest"))) .nil))) .nil))) (.cons (.cmp .eq (.call 5 (.cons (.var 0) (.cons (.cst (.int 2)) .nil))) (.cst (.int 0))) .nil))) (.cons (.par [8, 9] (.cons (.call 6 (.cons (.var 0) (.cons (.lst false (.cons (.cst .none) (.cons (.cst .none) (.cons (.cst (.int 0)) (.cons (.cst (.int 1)) (.cons (.cst (.int 2)) (.cons (.cst (.int 3)) (.cons (.cst (.int 4)) .nil)))))))) .nil))) (.cons (.tup (.cons (.bin .add false (.cst (.int 1)) (.call 5 (.cons (.var 0) (.cons (.cst (.int 3)) .nil)))) (.cons (.bin .add false (.cst (.int 1)) (.call 5 (.cons (.var 0) (.cons (.cst (.int 3)) .nil)))) .nil))) .nil))) (.cons (.ret (.tup (.cons (.var 1) (.cons (.var 2) (.cons (.var 3) (.cons (.var 4) (.cons (.var 5) (.cons (.var 6) (.cons (.var 7) (.cons (.var 8) (.cons (.call 6 (.cons (.var 0) (.cons (.lst false (.cons (.cst .none) (.cons (.cst .none) (.cons (.var 9) .nil)))) .nil))) .nil))))))))))) .nil)))))
def d15 : DefI := ⟨"_law_setting", topS 19, ["_law_pen_here", "_law_work", "_law_room", "_law_patience", "_law_tries", "_law_wait", "_law_way", "_law_dead", "_law_tokens", "_law_trip"], ["_law_pen_here"], 15, ⟨[], false⟩, true, b15⟩
def b16 : CSs :=
  (.cons (.par [1, 2, 3] (.cons (.idx (.var 0) (.cst (.int 3))) (.cons (.idx (.var 0) (.cst (.int 4))) (.cons (.idx (.var 0) (.cst (.int 7))) .nil)))) (.cons (.ret (.tup (.cons (.cst (.int 0)) (.cons (.tup .nil) (.cons (.bin .mul false (.tup (.cons (.bin .mul false (.tup (.cons (.cst (.int 0)) .nil)) (.bin .sub false (.var 1) (.cst (.int 1)))) .nil)) (.var 2)) (.cons (.ife (.cmp .is (.var 3) (.cst .none)) (.cst (.int 0)) (.var 3)) (.cons (.cst (.int 0)) .nil))))))) .nil))
def d16 : DefI := ⟨"_law_first", topS 20, ["_law_setting_here", "_law_tries", "_law_wait", "_law_tokens"], ["_law_setting_here"], 16, ⟨[], false⟩, true, b16⟩
def b10 : CSs :=
  (.cons (.asg (.nm 0) (.lst false (.cons (.cst .none) (.cons (.cst (.bool true)) (.cons (.cst (.bool false)) (.cons (.cst (.int 0)) (.cons (.cst (.int 1)) (.cons (.neg (.cst (.int 1))) (.cons (.cst (.int 2)) (.cons (.cst (.int 3)) (.cons (.cst (.int 4)) (.cons (.cst (.int 5)) (.cons (.cst (.int 6)) (.cons (.bin .pow false (.cst (.int 10)) (.cst (.int 11))) (.cons (.neg (.bin .pow false (.cst (.int 10)) (.cst (.int 11)))) (.cons (.cst (.str (Str.ofString ""))) (.cons (.cst (.str (Str.ofString "oldest"))) (.cons (.cst (.str (Str.ofString "newest"))) (.cons (.cst (.str (Str.ofString "Oldest"))) .nil))))))))))))))))))) (.cons (.asg (.nm 0) (.bin .add false (.var 0) (.lst false (.cons (.cst (.str (Str.ofString "yes"))) (.cons (.cst (.str (Str.ofString "2"))) (.cons (.tup .nil) (.cons (.lst false .nil) (.cons (.dct .nil .nil) (.cons (.tup (.cons (.cst (.int 1)) .nil)) (.cons (.tup (.cons (.cst (.int 1)) (.cons (.cst (.int 1)) .nil))) (.cons (.tup (.cons (.cst (.int 3)) (.cons (.cst (.int 3)) .nil))) (.cons (.tup (.cons (.cst (.int 0)) (.cons (.cst (.int 1)) .nil))) (.cons (.tup (.cons (.cst (.int 1)) (.cons (.cst (.int 0)) .nil))) (.cons (.tup (.cons (.cst (.int 4)) (.cons (.cst (.int 1)) .nil))) (.cons (.tup (.cons (.cst (.int 1)) (.cons (.cst (.int 4)) .nil))) (.cons (.tup (.cons (.cst (.int 1)) (.cons (.cst (.int 1)) (.cons (.cst (.int 1)) .nil)))) .nil)))))))))))))))) (.cons (.asg (.nm 0) (.bin .add false (.var 0) (.lst false (.cons (.lst false (.cons (.cst (.int 1)) (.cons (.cst (.int 1)) .nil))) (.cons (.tup (.cons (.cst (.bool true)) (.cons (.cst (.int 1)) .nil))) (.cons (.tup (.cons (.cst (.int 1)) (.cons (.cst (.bool true)) .nil))) (.cons (.tup (.cons (.cst .none) (.cons (.cst (.int 1)) .nil))) (.cons (.tup (.cons (.cst (.str (Str.ofString "1"))) (.cons (.cst (.int 1)) .nil))) (.cons (.tup (.cons (.tup (.cons (.cst (.int 1)) (.cons (.cst (.int 1)) .nil))) .nil)) (.cons (.lst false (.cons (.tup (.cons (.cst (.int 1)) (.cons (.cst (.int 1)) .nil))) .nil)) (.cons (.dct (.cons (.cst (.int 1)) .nil) (.cons (.cst (.int 1)) .nil)) .nil))))))))))) (.cons (.ret (.bin .add false (.var 0) (.lst false (.cons (.tup (.cons (.cst (.int 0)) .nil)) (.cons (.tup (.cons (.tup .nil) .nil)) (.cons (.tup (.cons (.tup (.cons (.cst (.int 0)) .nil)) .nil)) .nil)))))) .nil))))
def d10 : DefI := ⟨"_law_odds", topS 21, ["_law_found"], [], 10, ⟨[], false⟩, true, b10⟩
def b17 : CSs :=
  (.cons (.ife (.or (.not (.blt (.isi .tuple) (.cons (.var 0) .nil))) (.cmp .ne (.blt .len (.cons (.var 0) .nil)) (.cst (.int 9)))) (.cons (.ret (.cst (.bool false))) .nil) .nil) (.cons (.ife (.cmp .ne (.comp false [1] (.nm 1) (.rng (.cst (.int 5))) (.yes (.not (.call 8 (.cons (.idx (.var 0) (.var 1)) (.cons (.cst (.int 1)) (.cons (.idx (.lst false (.cons (.cst (.int 3)) (.cons (.cst (.int 5)) (.cons (.cst (.int 4)) (.cons (.cst (.int 3)) (.cons (.cst (.int 3)) .nil)))))) (.var 1)) .nil)))))) (.cst (.int 1))) (.lst false .nil)) (.cons (.ret (.cst (.bool false))) .nil) .nil) (.cons (.ife (.or (.not (.blt (.isi .str) (.cons (.idx (.var 0) (.cst (.int 5))) .nil))) (.or (.cmp .notin (.idx (.var 0) (.cst (.int 5))) (.tup (.cons (.cst (.str (Str.ofString "oldest"))) (.cons (.cst (.str (Str.ofString "newest"))) .nil)))) (.not (.blt (.isi .bool) (.cons (.idx (.var 0) (.cst (.int 6))) .nil))))) (.cons (.ret (.cst (.bool false))) .nil) .nil) (.cons (.ife (.and (.cmp .isnot (.idx (.var 0) (.cst (.int 7))) (.cst .none)) (.not (.call 8 (.cons (.idx (.var 0) (.cst (.int 7))) (.cons (.cst (.int 0)) (.cons (.cst (.int 4)) .nil)))))) (.cons (.ret (.cst (.bool false))) .nil) .nil) (.cons (.ife (.cmp .is (.idx (.var 0) (.cst (.int 8))) (.cst .none)) (.cons (.ret (.cst (.bool true))) .nil) .nil) (.cons (.ret (.and (.blt (.isi .tuple) (.cons (.idx (.var 0) (.cst (.int 8))) .nil)) (.and (.cmp .eq (.blt .len (.cons (.idx (.var 0) (.cst (.int 8))) .nil)) (.cst (.int 2))) (.blt .all (.cons (.comp false [2] (.nm 2) (.seq (.idx (.var 0) (.cst (.int 8)))) .no (.call 8 (.cons (.var 2) (.cons (.cst (.int 1)) (.cons (.cst (.int 3)) .nil))))) .nil))))) .nil))))))
def d17 : DefI := ⟨"_law_is_setting", topS 22, ["_law_thing", "_law_at", "_law_one"], ["_law_thing"], 17, ⟨[], false⟩, true, b17⟩
def b11 : CSs :=
  (.cons (.par [1, 2] (.cons (.blt .repr (.cons (.var 0) .nil)) (.cons (.call 17 (.cons (.var 0) .nil)) .nil))) (.cons (.ret (.and (.call 7 (.cons (.lst false (.cons (.call 14 (.cons (.var 0) .nil)) (.cons (.call 14 (.cons (.var 0) .nil)) .nil))) (.cons (.lst false (.cons (.var 2) (.cons (.var 2) .nil))) .nil))) (.cmp .eq (.blt .repr (.cons (.var 0) .nil)) (.var 1)))) .nil))
def d11 : DefI := ⟨"_law_right", topS 23, ["_law_thing", "_law_kept", "_law_due"], ["_law_thing"], 11, ⟨[], false⟩, true, b11⟩
def b18 : CSs :=
  (.cons (.asg (.nm 2) (.lst true (.cons (.var 1) (.cons (.blt (.list false) (.cons (.var 1) .nil)) (.cons (.bin .add false (.var 1) (.tup (.cons (.cst .none) .nil))) (.cons (.slc false (.var 1) .no (.yes (.neg (.cst (.int 1))))) (.cons (.rev false (.var 1)) (.cons (.tup (.cons (.var 1) .nil)) (.cons (.lst false (.cons (.var 1) .nil)) .nil))))))))) (.cons (.expr (.mth .append (.var 2) (.cons (.blt .repr (.cons (.var 1) .nil)) .nil))) (.cons (.loop (.nm 3) (.rng (.cst (.int 9))) (.cons (.asg (.nm 2) (.bin .add true (.var 2) (.comp false [4] (.nm 4) (.seq (.call 10 .nil)) .no (.bin .add false (.bin .add false (.slc false (.var 1) .no (.yes (.var 3))) (.tup (.cons (.var 4) .nil))) (.slc false (.var 1) (.yes (.bin .add false (.var 3) (.cst (.int 1)))) .no))))) (.cons (.expr (.mth .append (.var 2) (.cons (.bin .add false (.slc false (.var 1) .no (.yes (.var 3))) (.slc false (.var 1) (.yes (.bin .add false (.var 3) (.cst (.int 1)))) .no)) .nil))) .nil))) (.cons (.ret (.cmp .eq (.comp false [5] (.nm 5) (.seq (.bin .add false (.var 2) (.lst false (.cons (.call 16 (.cons (.var 1) .nil)) .nil)))) (.yes (.not (.call 11 (.cons (.var 5) .nil)))) (.cst (.int 1))) (.lst false .nil))) .nil))))
def d18 : DefI := ⟨"_law_all_right", topS 24, ["_law_pen_here", "_law_setting_here", "_law_things", "_law_at", "_law_bad", "_law_thing"], ["_law_pen_here", "_law_setting_here"], 18, ⟨["_law_things"], false⟩, true, b18⟩
def b12 : CSs :=
  (.cons (.ife (.cmp .ne (.comp false [1] (.nm 1) (.seq (.call 10 .nil)) (.yes (.not (.call 11 (.cons (.var 1) .nil)))) (.cst (.int 1))) (.lst false .nil)) (.cons (.ret (.cst (.bool false))) .nil) .nil) (.cons (.loop (.nm 2) (.rng (.blt .max (.cons (.cst (.int 1)) (.cons (.blt .min (.cons (.blt .len (.cons (.var 0) .nil)) (.cons (.cst (.int 4)) .nil))) .nil)))) (.cons (.asg (.nm 3) (.call 4 (.cons (.call 3 (.cons (.var 0) (.cons (.var 2) .nil))) .nil))) (.cons (.loop (.nm 4) (.rng (.cst (.int 3))) (.cons (.ife (.not (.call 18 (.cons (.var 3) (.cons (.call 15 (.cons (.var 3) .nil)) .nil)))) (.cons (.ret (.cst (.bool false))) .nil) .nil) .nil)) .nil))) (.cons (.ret (.cst (.bool true))) .nil)))
def d12 : DefI := ⟨"law", topS 25, ["_law_script", "_law_thing", "_law_k", "_law_pen_here", "_law_lap"], ["_law_script"], 12, ⟨[], false⟩, true, b12⟩
def defs : List DefI := [d1, d13, d14, d3, d4, d5, d6, d7, d8, d15, d16, d10, d17, d11, d18, d12]
def T : Gt := ⟨[("is_whole", (1, 3)), ("is_fuse", (13, 1)), ("is_setting", (14, 1)), ("_law_cell_at", (3, 2)), ("_law_pen", (4, 1)), ("_law_draw", (5, 2)), ("_law_pick", (6, 2)), ("_law_same", (7, 2)), ("_law_whole", (8, 3)), ("_law_setting", (15, 1)), ("_law_first", (16, 1)), ("_law_odds", (10, 0)), ("_law_is_setting", (17, 1)), ("_law_right", (11, 1)), ("_law_all_right", (18, 2)), ("law", (12, 1))], [("WAYS", (.tuple [(.str (Str.ofString "oldest")), (.str (Str.ofString "newest"))])), ("MOST_WORK", (.int 3)), ("MOST_ROOM", (.int 5)), ("MOST_PATIENCE", (.int 4)), ("MOST_TRIES", (.int 3)), ("MOST_WAIT", (.int 3)), ("MOST_TOKENS", (.int 4)), ("MOST_OF_FUSE", (.int 3))], ["isinstance", "len", "min", "max", "all", "tuple", "list", "repr", "str", "range", "int", "bool"]⟩
def Tb : Nat → Option FD
  | 1 => some ⟨3, 3, true, b1⟩
  | 3 => some ⟨2, 2, true, b3⟩
  | 4 => some ⟨1, 1, false, b4⟩
  | 5 => some ⟨2, 4, true, b5⟩
  | 6 => some ⟨2, 2, true, b6⟩
  | 7 => some ⟨2, 2, true, b7⟩
  | 8 => some ⟨3, 3, true, b8⟩
  | 10 => some ⟨0, 1, true, b10⟩
  | 11 => some ⟨1, 3, true, b11⟩
  | 12 => some ⟨1, 5, true, b12⟩
  | 13 => some ⟨1, 1, true, b13⟩
  | 14 => some ⟨1, 10, true, b14⟩
  | 15 => some ⟨1, 10, true, b15⟩
  | 16 => some ⟨1, 4, true, b16⟩
  | 17 => some ⟨1, 3, true, b17⟩
  | 18 => some ⟨2, 6, true, b18⟩
  | _ => none
end K01

set_option Elab.async false
set_option linter.all false
set_option maxRecDepth 100000
set_option maxHeartbeats 4000000
namespace K01
open PySem PySem.Spec PyProof.Rows L2 Mi
theorem lawI : LawI T Tb defs where
  ids := ids_of (defs := defs)
  tb := (all_cons rfl (all_cons rfl (all_cons rfl (all_cons rfl (all_cons rfl (all_cons rfl (all_cons rfl (all_cons rfl (all_cons rfl (all_cons rfl (all_cons rfl (all_cons rfl (all_cons rfl (all_cons rfl (all_cons rfl (all_cons rfl all_nil))))))))))))))))
  sc := (all_cons (scope_of (by decide +kernel)) (all_cons (scope_of (by decide +kernel)) (all_cons (scope_of (by decide +kernel)) (all_cons (scope_of (by decide +kernel)) (all_cons (scope_of (by decide +kernel)) (all_cons (scope_of (by decide +kernel)) (all_cons (scope_of (by decide +kernel)) (all_cons (scope_of (by decide +kernel)) (all_cons (scope_of (by decide +kernel)) (all_cons (scope_of (by decide +kernel)) (all_cons (scope_of (by decide +kernel)) (all_cons (scope_of (by decide +kernel)) (all_cons (scope_of (by decide +kernel)) (all_cons (scope_of (by decide +kernel)) (all_cons (scope_of (by decide +kernel)) (all_cons (scope_of (by decide +kernel)) all_nil))))))))))))))))
  cp := (all_cons (by kernel_rfl) (all_cons (by kernel_rfl) (all_cons (by kernel_rfl) (all_cons (by kernel_rfl) (all_cons (by kernel_rfl) (all_cons (by kernel_rfl) (all_cons (by kernel_rfl) (all_cons (by kernel_rfl) (all_cons (by kernel_rfl) (all_cons (by kernel_rfl) (all_cons (by kernel_rfl) (all_cons (by kernel_rfl) (all_cons (by kernel_rfl) (all_cons (by kernel_rfl) (all_cons (by kernel_rfl) (all_cons (by kernel_rfl) all_nil))))))))))))))))
theorem globs {K : Kf} {h : Heap} {mg : Str → Option Value} (X : K.In h) (G : h.Ns mainGlobals mg)
    {f0 : Addr} {od0 an0 : Option Addr} {sl0 : Array (Option Value)} {oc0 kV0 dc0 pm0 cd0 ct0 : Value}
    (a0 : PySem.W.nsIn K mainGlobals "is_whole" = some (some (.ref f0))) (l0 : K.lookup f0 = some ⟨oc0, od0, .func (PySem.W.fnOf "is_whole" "is_whole" (defArgs (topS 9)) (defBody (topS 9)) (defScope (topS 9)) .none kV0 dc0 pm0 an0 cd0 ct0), sl0⟩) (c0 : PySem.W.codeIn K cd0 "is_whole" = true) (k0 : PySem.W.keepIn K (.ref f0) = true)
    {f1 : Addr} {od1 an1 : Option Addr} {sl1 : Array (Option Value)} {oc1 kV1 dc1 pm1 cd1 ct1 : Value}
    (a1 : PySem.W.nsIn K mainGlobals "is_fuse" = some (some (.ref f1))) (l1 : K.lookup f1 = some ⟨oc1, od1, .func (PySem.W.fnOf "is_fuse" "is_fuse" (defArgs (topS 10)) (defBody (topS 10)) (defScope (topS 10)) .none kV1 dc1 pm1 an1 cd1 ct1), sl1⟩) (c1 : PySem.W.codeIn K cd1 "is_fuse" = true) (k1 : PySem.W.keepIn K (.ref f1) = true)
    {f2 : Addr} {od2 an2 : Option Addr} {sl2 : Array (Option Value)} {oc2 kV2 dc2 pm2 cd2 ct2 : Value}
    (a2 : PySem.W.nsIn K mainGlobals "is_setting" = some (some (.ref f2))) (l2 : K.lookup f2 = some ⟨oc2, od2, .func (PySem.W.fnOf "is_setting" "is_setting" (defArgs (topS 11)) (defBody (topS 11)) (defScope (topS 11)) .none kV2 dc2 pm2 an2 cd2 ct2), sl2⟩) (c2 : PySem.W.codeIn K cd2 "is_setting" = true) (k2 : PySem.W.keepIn K (.ref f2) = true)
    {f3 : Addr} {od3 an3 : Option Addr} {sl3 : Array (Option Value)} {oc3 kV3 dc3 pm3 cd3 ct3 : Value}
    (a3 : PySem.W.nsIn K mainGlobals "_law_cell_at" = some (some (.ref f3))) (l3 : K.lookup f3 = some ⟨oc3, od3, .func (PySem.W.fnOf "_law_cell_at" "_law_cell_at" (defArgs (topS 13)) (defBody (topS 13)) (defScope (topS 13)) .none kV3 dc3 pm3 an3 cd3 ct3), sl3⟩) (c3 : PySem.W.codeIn K cd3 "_law_cell_at" = true) (k3 : PySem.W.keepIn K (.ref f3) = true)
    {f4 : Addr} {od4 an4 : Option Addr} {sl4 : Array (Option Value)} {oc4 kV4 dc4 pm4 cd4 ct4 : Value}
    (a4 : PySem.W.nsIn K mainGlobals "_law_pen" = some (some (.ref f4))) (l4 : K.lookup f4 = some ⟨oc4, od4, .func (PySem.W.fnOf "_law_pen" "_law_pen" (defArgs (topS 14)) (defBody (topS 14)) (defScope (topS 14)) .none kV4 dc4 pm4 an4 cd4 ct4), sl4⟩) (c4 : PySem.W.codeIn K cd4 "_law_pen" = true) (k4 : PySem.W.keepIn K (.ref f4) = true)
    {f5 : Addr} {od5 an5 : Option Addr} {sl5 : Array (Option Value)} {oc5 kV5 dc5 pm5 cd5 ct5 : Value}
    (a5 : PySem.W.nsIn K mainGlobals "_law_draw" = some (some (.ref f5))) (l5 : K.lookup f5 = some ⟨oc5, od5, .func (PySem.W.fnOf "_law_draw" "_law_draw" (defArgs (topS 15)) (defBody (topS 15)) (defScope (topS 15)) .none kV5 dc5 pm5 an5 cd5 ct5), sl5⟩) (c5 : PySem.W.codeIn K cd5 "_law_draw" = true) (k5 : PySem.W.keepIn K (.ref f5) = true)
    {f6 : Addr} {od6 an6 : Option Addr} {sl6 : Array (Option Value)} {oc6 kV6 dc6 pm6 cd6 ct6 : Value}
    (a6 : PySem.W.nsIn K mainGlobals "_law_pick" = some (some (.ref f6))) (l6 : K.lookup f6 = some ⟨oc6, od6, .func (PySem.W.fnOf "_law_pick" "_law_pick" (defArgs (topS 16)) (defBody (topS 16)) (defScope (topS 16)) .none kV6 dc6 pm6 an6 cd6 ct6), sl6⟩) (c6 : PySem.W.codeIn K cd6 "_law_pick" = true) (k6 : PySem.W.keepIn K (.ref f6) = true)
    {f7 : Addr} {od7 an7 : Option Addr} {sl7 : Array (Option Value)} {oc7 kV7 dc7 pm7 cd7 ct7 : Value}
    (a7 : PySem.W.nsIn K mainGlobals "_law_same" = some (some (.ref f7))) (l7 : K.lookup f7 = some ⟨oc7, od7, .func (PySem.W.fnOf "_law_same" "_law_same" (defArgs (topS 17)) (defBody (topS 17)) (defScope (topS 17)) .none kV7 dc7 pm7 an7 cd7 ct7), sl7⟩) (c7 : PySem.W.codeIn K cd7 "_law_same" = true) (k7 : PySem.W.keepIn K (.ref f7) = true)
    {f8 : Addr} {od8 an8 : Option Addr} {sl8 : Array (Option Value)} {oc8 kV8 dc8 pm8 cd8 ct8 : Value}
    (a8 : PySem.W.nsIn K mainGlobals "_law_whole" = some (some (.ref f8))) (l8 : K.lookup f8 = some ⟨oc8, od8, .func (PySem.W.fnOf "_law_whole" "_law_whole" (defArgs (topS 18)) (defBody (topS 18)) (defScope (topS 18)) .none kV8 dc8 pm8 an8 cd8 ct8), sl8⟩) (c8 : PySem.W.codeIn K cd8 "_law_whole" = true) (k8 : PySem.W.keepIn K (.ref f8) = true)
    {f9 : Addr} {od9 an9 : Option Addr} {sl9 : Array (Option Value)} {oc9 kV9 dc9 pm9 cd9 ct9 : Value}
    (a9 : PySem.W.nsIn K mainGlobals "_law_setting" = some (some (.ref f9))) (l9 : K.lookup f9 = some ⟨oc9, od9, .func (PySem.W.fnOf "_law_setting" "_law_setting" (defArgs (topS 19)) (defBody (topS 19)) (defScope (topS 19)) .none kV9 dc9 pm9 an9 cd9 ct9), sl9⟩) (c9 : PySem.W.codeIn K cd9 "_law_setting" = true) (k9 : PySem.W.keepIn K (.ref f9) = true)
    {f10 : Addr} {od10 an10 : Option Addr} {sl10 : Array (Option Value)} {oc10 kV10 dc10 pm10 cd10 ct10 : Value}
    (a10 : PySem.W.nsIn K mainGlobals "_law_first" = some (some (.ref f10))) (l10 : K.lookup f10 = some ⟨oc10, od10, .func (PySem.W.fnOf "_law_first" "_law_first" (defArgs (topS 20)) (defBody (topS 20)) (defScope (topS 20)) .none kV10 dc10 pm10 an10 cd10 ct10), sl10⟩) (c10 : PySem.W.codeIn K cd10 "_law_first" = true) (k10 : PySem.W.keepIn K (.ref f10) = true)
    {f11 : Addr} {od11 an11 : Option Addr} {sl11 : Array (Option Value)} {oc11 kV11 dc11 pm11 cd11 ct11 : Value}
    (a11 : PySem.W.nsIn K mainGlobals "_law_odds" = some (some (.ref f11))) (l11 : K.lookup f11 = some ⟨oc11, od11, .func (PySem.W.fnOf "_law_odds" "_law_odds" (defArgs (topS 21)) (defBody (topS 21)) (defScope (topS 21)) .none kV11 dc11 pm11 an11 cd11 ct11), sl11⟩) (c11 : PySem.W.codeIn K cd11 "_law_odds" = true) (k11 : PySem.W.keepIn K (.ref f11) = true)
    {f12 : Addr} {od12 an12 : Option Addr} {sl12 : Array (Option Value)} {oc12 kV12 dc12 pm12 cd12 ct12 : Value}
    (a12 : PySem.W.nsIn K mainGlobals "_law_is_setting" = some (some (.ref f12))) (l12 : K.lookup f12 = some ⟨oc12, od12, .func (PySem.W.fnOf "_law_is_setting" "_law_is_setting" (defArgs (topS 22)) (defBody (topS 22)) (defScope (topS 22)) .none kV12 dc12 pm12 an12 cd12 ct12), sl12⟩) (c12 : PySem.W.codeIn K cd12 "_law_is_setting" = true) (k12 : PySem.W.keepIn K (.ref f12) = true)
    {f13 : Addr} {od13 an13 : Option Addr} {sl13 : Array (Option Value)} {oc13 kV13 dc13 pm13 cd13 ct13 : Value}
    (a13 : PySem.W.nsIn K mainGlobals "_law_right" = some (some (.ref f13))) (l13 : K.lookup f13 = some ⟨oc13, od13, .func (PySem.W.fnOf "_law_right" "_law_right" (defArgs (topS 23)) (defBody (topS 23)) (defScope (topS 23)) .none kV13 dc13 pm13 an13 cd13 ct13), sl13⟩) (c13 : PySem.W.codeIn K cd13 "_law_right" = true) (k13 : PySem.W.keepIn K (.ref f13) = true)
    {f14 : Addr} {od14 an14 : Option Addr} {sl14 : Array (Option Value)} {oc14 kV14 dc14 pm14 cd14 ct14 : Value}
    (a14 : PySem.W.nsIn K mainGlobals "_law_all_right" = some (some (.ref f14))) (l14 : K.lookup f14 = some ⟨oc14, od14, .func (PySem.W.fnOf "_law_all_right" "_law_all_right" (defArgs (topS 24)) (defBody (topS 24)) (defScope (topS 24)) .none kV14 dc14 pm14 an14 cd14 ct14), sl14⟩) (c14 : PySem.W.codeIn K cd14 "_law_all_right" = true) (k14 : PySem.W.keepIn K (.ref f14) = true)
    {f15 : Addr} {od15 an15 : Option Addr} {sl15 : Array (Option Value)} {oc15 kV15 dc15 pm15 cd15 ct15 : Value}
    (a15 : PySem.W.nsIn K mainGlobals "law" = some (some (.ref f15))) (l15 : K.lookup f15 = some ⟨oc15, od15, .func (PySem.W.fnOf "law" "law" (defArgs (topS 25)) (defBody (topS 25)) (defScope (topS 25)) .none kV15 dc15 pm15 an15 cd15 ct15), sl15⟩) (c15 : PySem.W.codeIn K cd15 "law" = true) (k15 : PySem.W.keepIn K (.ref f15) = true)
    {g7 : Tok}
    (g7_ : PySem.W.nsIn K mainGlobals "MOST_OF_FUSE" = some (some (.int 3 g7)))
    {g6 : Tok}
    (g6_ : PySem.W.nsIn K mainGlobals "MOST_TOKENS" = some (some (.int 4 g6)))
    {g5 : Tok}
    (g5_ : PySem.W.nsIn K mainGlobals "MOST_WAIT" = some (some (.int 3 g5)))
    {g4 : Tok}
    (g4_ : PySem.W.nsIn K mainGlobals "MOST_TRIES" = some (some (.int 3 g4)))
    {g3 : Tok}
    (g3_ : PySem.W.nsIn K mainGlobals "MOST_PATIENCE" = some (some (.int 4 g3)))
    {g2 : Tok}
    (g2_ : PySem.W.nsIn K mainGlobals "MOST_ROOM" = some (some (.int 5 g2)))
    {g1 : Tok}
    (g1_ : PySem.W.nsIn K mainGlobals "MOST_WORK" = some (some (.int 3 g1)))
    {g0 : Addr}
    {go0 : Obj} {gn0 : Nat} {g0t0 g0t1 : Tok}
    (g0_ : PySem.W.nsIn K mainGlobals "WAYS" = some (some (.ref g0))) (gl0 : K.lookup g0 = some go0) (gc0 : go0.cls = .type "tuple") (gd0 : go0.data = .seq #[.str (Str.ofString "oldest") g0t0, .str (Str.ofString "newest") g0t1] gn0)
    (z0 : PySem.W.nsIn K mainGlobals "isinstance" = some none)
    (z1 : PySem.W.nsIn K mainGlobals "len" = some none)
    (z2 : PySem.W.nsIn K mainGlobals "min" = some none)
    (z3 : PySem.W.nsIn K mainGlobals "max" = some none)
    (z4 : PySem.W.nsIn K mainGlobals "all" = some none)
    (z5 : PySem.W.nsIn K mainGlobals "tuple" = some none)
    (z6 : PySem.W.nsIn K mainGlobals "list" = some none)
    (z7 : PySem.W.nsIn K mainGlobals "repr" = some none)
    (z8 : PySem.W.nsIn K mainGlobals "str" = some none)
    (z9 : PySem.W.nsIn K mainGlobals "range" = some none)
    (z10 : PySem.W.nsIn K mainGlobals "int" = some none)
    (z11 : PySem.W.nsIn K mainGlobals "bool" = some none) :
    GlobI K mg T defs where
  fn := (all_cons (fn_of1 (d := d1) X G a0 l0 c0 k0 (fun _ _ _ _ _ _ us hl => match us, hl with | [_, _, _], _ => rfl)) (all_cons (fn_of1 (d := d13) X G a1 l1 c1 k1 (fun _ _ _ _ _ _ us hl => match us, hl with | [_], _ => rfl)) (all_cons (fn_of1 (d := d14) X G a2 l2 c2 k2 (fun _ _ _ _ _ _ us hl => match us, hl with | [_], _ => rfl)) (all_cons (fn_of1 (d := d3) X G a3 l3 c3 k3 (fun _ _ _ _ _ _ us hl => match us, hl with | [_, _], _ => rfl)) (all_cons (fn_of1 (d := d4) X G a4 l4 c4 k4 (fun _ _ _ _ _ _ us hl => match us, hl with | [_], _ => rfl)) (all_cons (fn_of1 (d := d5) X G a5 l5 c5 k5 (fun _ _ _ _ _ _ us hl => match us, hl with | [_, _], _ => rfl)) (all_cons (fn_of1 (d := d6) X G a6 l6 c6 k6 (fun _ _ _ _ _ _ us hl => match us, hl with | [_, _], _ => rfl)) (all_cons (fn_of1 (d := d7) X G a7 l7 c7 k7 (fun _ _ _ _ _ _ us hl => match us, hl with | [_, _], _ => rfl)) (all_cons (fn_of1 (d := d8) X G a8 l8 c8 k8 (fun _ _ _ _ _ _ us hl => match us, hl with | [_, _, _], _ => rfl)) (all_cons (fn_of1 (d := d15) X G a9 l9 c9 k9 (fun _ _ _ _ _ _ us hl => match us, hl with | [_], _ => rfl)) (all_cons (fn_of1 (d := d16) X G a10 l10 c10 k10 (fun _ _ _ _ _ _ us hl => match us, hl with | [_], _ => rfl)) (all_cons (fn_of1 (d := d10) X G a11 l11 c11 k11 (fun _ _ _ _ _ _ us hl => match us, hl with | [], _ => rfl)) (all_cons (fn_of1 (d := d17) X G a12 l12 c12 k12 (fun _ _ _ _ _ _ us hl => match us, hl with | [_], _ => rfl)) (all_cons (fn_of1 (d := d11) X G a13 l13 c13 k13 (fun _ _ _ _ _ _ us hl => match us, hl with | [_], _ => rfl)) (all_cons (fn_of1 (d := d18) X G a14 l14 c14 k14 (fun _ _ _ _ _ _ us hl => match us, hl with | [_, _], _ => rfl)) (all_cons (fn_of1 (d := d12) X G a15 l15 c15 k15 (fun _ _ _ _ _ _ us hl => match us, hl with | [_], _ => rfl)) all_nil))))))))))))))))
  cs := (cs_cons ⟨.ref g0, _, PySem.W.mg_of X G g0_, rfl, fun _ _ => .tup (xs := [V.str (Str.ofString "oldest"), V.str (Str.ofString "newest")]) (.inr ⟨go0, _, gn0, gl0, gc0, gd0, (by show 2 ≤ sizeLine; decide), (.cons ⟨_, rfl⟩ (.cons ⟨_, rfl⟩ .nil))⟩) (.cons (.str _) (.cons (.str _) .nil))⟩ (cs_cons (cs_int X G g1_) (cs_cons (cs_int X G g2_) (cs_cons (cs_int X G g3_) (cs_cons (cs_int X G g4_) (cs_cons (cs_int X G g5_) (cs_cons (cs_int X G g6_) (cs_cons (cs_int X G g7_) cs_nil))))))))
  fr := (fr_cons X G z0 (fr_cons X G z1 (fr_cons X G z2 (fr_cons X G z3 (fr_cons X G z4 (fr_cons X G z5 (fr_cons X G z6 (fr_cons X G z7 (fr_cons X G z8 (fr_cons X G z9 (fr_cons X G z10 (fr_cons X G z11 fr_nil))))))))))))
end K01

set_option Elab.async false
set_option linter.all false
set_option maxRecDepth 100000
set_option maxHeartbeats 4000000
namespace Mi
open PySem
/-! texts with small signs -/
def SmS (x : Str) : Prop := ∀ c ∈ x.cps.toList, c < 16 ^ 8
instance (x : Str) : Decidable (SmS x) := List.decidableBAll (fun c => c < 16 ^ 8) x.cps.toList
theorem SmS.app {a b : Str} (h : SmS a) (h' : SmS b) : SmS (a ++ b) := by
  intro c hc
  have e : (a ++ b).cps = a.cps ++ b.cps := rfl
  rw [e, Array.toList_append] at hc
  rcases List.mem_append.1 hc with hc | hc
  · exact h c hc
  · exact h' c hc
theorem SmS.join {sep : Str} (hs : SmS sep) : ∀ {ts : List Str}, (∀ t ∈ ts, SmS t) → SmS (Str.join sep ts)
  | [], _ => by intro c hc; cases hc
  | [t], h => h t List.mem_cons_self
  | t :: u :: ts, h => by
    show SmS (t ++ sep ++ Str.join sep (u :: ts))
    exact ((h t List.mem_cons_self).app hs).app (SmS.join hs fun x hx => h x (List.mem_cons_of_mem _ hx))
theorem SmS.tup {ts : List Str} (h : ∀ t ∈ ts, SmS t) : SmS (tupleText ts) := by
  unfold tupleText
  refine SmS.app (SmS.app (by decide +kernel) (SmS.join (by decide +kernel) h)) ?_
  split <;> decide +kernel
theorem sms_small {i : Int} (h : 0 ≤ i ∧ i ≤ 5) : SmS (PyData.shown (.int i)) := by
  have : i = 0 ∨ i = 1 ∨ i = 2 ∨ i = 3 ∨ i = 4 ∨ i = 5 := by omega
  rcases this with rfl | rfl | rfl | rfl | rfl | rfl <;> decide +kernel
theorem Stg.sms {s : Stg} (h : s.Ok) : SmS (PyData.shown s.d) := by
  simp only [Stg.d, PyData.shown, PyData.shownAll]
  refine SmS.tup fun t ht => ?_
  simp only [List.mem_cons, List.not_mem_nil, or_false] at ht
  rcases ht with rfl | rfl | rfl | rfl | rfl | rfl | rfl | rfl | rfl
  · exact sms_small (by have := h.work; omega)
  · exact sms_small (by have := h.room; omega)
  · exact sms_small (by have := h.pat; omega)
  · exact sms_small (by have := h.tries; omega)
  · exact sms_small (by have := h.wait; omega)
  · rcases h.way with e | e <;> rw [e] <;> decide +kernel
  · cases s.dead <;> decide +kernel
  · unfold Stg.tokD
    split
    · decide +kernel
    · rename_i k hk; exact sms_small (by have := h.tok k hk; omega)
  · unfold Stg.fuseD
    split
    · decide +kernel
    · rename_i a b hf
      have := h.fuse a b hf
      simp only [PyData.shown, PyData.shownAll]
      refine SmS.tup fun t ht => ?_
      simp only [List.mem_cons, List.not_mem_nil, or_false] at ht
      rcases ht with rfl | rfl
      · exact sms_small (by omega)
      · exact sms_small (by omega)
/-! what is small enough to be shown -/
def El (y : PyData) : Prop := Sz 5 200 y ∧ y.hasDict = false ∧ noLst y = true
def Gd (x : PyData) : Prop := Sz 20 1000000 x ∧ (x.hasDict = false ∨ noLst x = true)
theorem Gd.shw {x : PyData} (h : Gd x) : Shw x = true := h.1.shw (by decide) (by decide) h.2
theorem weight_len : ∀ xs : List PyData, xs.length ≤ PyData.weightAll xs
  | [] => Nat.le_refl _
  | x :: xs => by have := weight_len xs; simp only [PyData.weightAll, List.length_cons]; omega
theorem weight_mem : ∀ {xs : List PyData} {x : PyData}, x ∈ xs → x.weight ≤ PyData.weightAll xs
  | y :: ys, x, h => by
    simp only [PyData.weightAll]
    cases h with
    | head => omega
    | tail _ h => have := weight_mem h; omega
theorem Gd.inner {x : PyData} (h : Gd x) : ∀ xs, x = .tuple xs → ∀ ys, PyData.tuple ys ∈ xs → ys.length ≤ 16777216 := by
  rintro xs rfl ys hy
  have h1 := h.1.2.2
  have h2 := weight_mem hy
  have h3 := weight_len ys
  simp only [PyData.weight] at h1 h2
  omega
def smallB (x : PyData) : Bool := szB 5 200 x && (!x.hasDict || noLst x)
theorem gd_small {x : PyData} (h : smallB x = true) : Gd x := by
  simp only [smallB, Bool.and_eq_true, Bool.or_eq_true, Bool.not_eq_true'] at h
  exact ⟨(Sz.of h.1).mono (by decide) (by decide), h.2⟩
theorem odds_small : odds.all smallB = true := by decide +kernel
theorem Sz.tupA {n w l : Nat} {xs : List PyData} (h : ∀ x ∈ xs, Sz n w x) (hl : xs.length ≤ l) : Sz (n + 1) ((w + 1) * l) (.tuple xs) :=
  ((SzA.of_all h).tup).mono (Nat.le_refl _) (Nat.mul_le_mul_left _ hl)
theorem Sz.lstA {n w l : Nat} {xs : List PyData} (h : ∀ x ∈ xs, Sz n w x) (hl : xs.length ≤ l) : Sz (n + 1) ((w + 1) * l) (.list xs) :=
  ((SzA.of_all h).lst).mono (Nat.le_refl _) (Nat.mul_le_mul_left _ hl)
theorem gd_tup {xs : List PyData} (h : ∀ x ∈ xs, El x) (hl : xs.length ≤ 3000) : Gd (.tuple xs) :=
  ⟨(Sz.tupA (fun x hx => (h x hx).1) hl).mono (by decide) (by decide), .inl (by rw [PyData.hasDict]; exact hasDictAll_of fun x hx => (h x hx).2.1)⟩
theorem gd_lst {xs : List PyData} (h : ∀ x ∈ xs, El x) (hl : xs.length ≤ 3000) : Gd (.list xs) :=
  ⟨(Sz.lstA (fun x hx => (h x hx).1) hl).mono (by decide) (by decide), .inl (by rw [PyData.hasDict]; exact hasDictAll_of fun x hx => (h x hx).2.1)⟩
theorem gd_mid {xs ys : List PyData} {b : PyData} (h : ∀ x ∈ xs, El x) (h' : ∀ x ∈ ys, El x) (hl : xs.length + ys.length ≤ 2000) (hb : smallB b = true) : Gd (.tuple (xs ++ [b] ++ ys)) := by
  simp only [smallB, Bool.and_eq_true, Bool.or_eq_true, Bool.not_eq_true'] at hb
  have hm : ∀ x ∈ xs ++ [b] ++ ys, El x ∨ x = b := by
    intro x hx
    simp only [List.mem_append, List.mem_singleton] at hx
    rcases hx with (hx | hx) | hx
    · exact .inl (h x hx)
    · exact .inr hx
    · exact .inl (h' x hx)
  refine ⟨(Sz.tupA (l := 3000) (fun x hx => ?_) (by simp only [List.length_append, List.length_singleton]; omega)).mono (n := 6) (w := (200 + 1) * 3000) (by decide) (by decide), ?_⟩
  · rcases hm x hx with hx | rfl
    · exact hx.1
    · exact Sz.of hb.1
  · rcases hb.2 with hd | hd
    · refine .inl ?_
      rw [PyData.hasDict]
      refine hasDictAll_of fun x hx => ?_
      rcases hm x hx with hx | rfl
      · exact hx.2.1
      · exact hd
    · refine .inr ?_
      rw [noLst]
      refine noLstA_of fun x hx => ?_
      rcases hm x hx with hx | rfl
      · exact hx.2.2
      · exact hd
theorem el_int {i : Int} (h : i.natAbs < 10 ^ 12) : El (.int i) := ⟨(Sz.int (n := 5) h).mono (by decide) (by decide), rfl, rfl⟩
def Stg.parts (s : Stg) : List PyData := [.int s.work, .int s.room, .int s.pat, .int s.tries, .int s.wait, .str s.way, .bool s.dead, s.tokD, s.fuseD]
theorem Stg.el {s : Stg} (h : s.Ok) : ∀ x ∈ s.parts, El x := by
  intro x hx
  simp only [Stg.parts, List.mem_cons, List.not_mem_nil, or_false] at hx
  rcases hx with rfl | rfl | rfl | rfl | rfl | rfl | rfl | rfl | rfl
  · exact el_int (by have := h.work; omega)
  · exact el_int (by have := h.room; omega)
  · exact el_int (by have := h.pat; omega)
  · exact el_int (by have := h.tries; omega)
  · exact el_int (by have := h.wait; omega)
  · refine ⟨?_, rfl, rfl⟩
    rcases h.way with e | e <;> rw [e] <;> exact Sz.of (by decide +kernel)
  · refine ⟨?_, rfl, rfl⟩
    cases s.dead <;> exact Sz.of (by decide +kernel)
  · unfold Stg.tokD
    split
    · exact ⟨Sz.of (by decide +kernel), rfl, rfl⟩
    · rename_i k hk; exact el_int (by have := h.tok k hk; omega)
  · unfold Stg.fuseD
    split
    · exact ⟨Sz.of (by decide +kernel), rfl, rfl⟩
    · rename_i a b hf
      have hab := h.fuse a b hf
      refine ⟨(Sz.tupA (xs := [.int a, .int b]) (n := 0) (w := 40) (l := 2) (fun x hx => ?_) (Nat.le_refl 2)).mono (by decide) (by decide), rfl, rfl⟩
      simp only [List.mem_cons, List.not_mem_nil, or_false] at hx
      rcases hx with rfl | rfl <;> exact Sz.int (by omega)
theorem Stg.sz {s : Stg} (h : s.Ok) : Sz 6 1809 s.d := Sz.tupA (l := 9) (fun x hx => (Stg.el h x hx).1) (Nat.le_refl 9)
theorem Stg.nd {s : Stg} (h : s.Ok) : s.d.hasDict = false := by
  show PyData.hasDictAll s.parts = false
  exact hasDictAll_of fun x hx => (Stg.el h x hx).2.1
theorem mem_cut {α : Type} {xs : List α} {lo hi : Option Int} {x : α} (h : x ∈ cut xs lo hi) : x ∈ xs := List.mem_of_mem_drop (List.mem_of_mem_take h)
theorem len_cut {α : Type} {xs : List α} {lo hi : Option Int} : (cut xs lo hi).length ≤ xs.length := by
  simp only [cut, List.length_take, List.length_drop]; omega
theorem gd_first {s : Stg} (h : s.Ok) : Gd s.first := by
  obtain ⟨h1, h2⟩ := h.tries
  obtain ⟨h3, h4⟩ := h.wait
  have a1 : ∀ x ∈ (List.replicate (s.tries - 1).toNat [PyData.int 0]).flatten, x = .int 0 := by
    intro x hx
    obtain ⟨ys, hy, hx⟩ := List.mem_flatten.1 hx
    rw [(List.mem_replicate.1 hy).2] at hx
    exact List.mem_singleton.1 hx
  have a2 : ∀ x ∈ (List.replicate s.wait.toNat [PyData.tuple (List.replicate (s.tries - 1).toNat [PyData.int 0]).flatten]).flatten, x = PyData.tuple (List.replicate (s.tries - 1).toNat [PyData.int 0]).flatten := by
    intro x hx
    obtain ⟨ys, hy, hx⟩ := List.mem_flatten.1 hx
    rw [(List.mem_replicate.1 hy).2] at hx
    exact List.mem_singleton.1 hx
  have b1 : Sz 1 82 (PyData.tuple (List.replicate (s.tries - 1).toNat [PyData.int 0]).flatten) := Sz.tupA (n := 0) (w := 40) (l := 2) (fun x hx => by rw [a1 x hx]; exact Sz.int (by decide)) (by simp; omega)
  have b2 : Sz 2 249 (PyData.tuple (List.replicate s.wait.toNat [PyData.tuple (List.replicate (s.tries - 1).toNat [PyData.int 0]).flatten]).flatten) := Sz.tupA (n := 1) (w := 82) (l := 3) (fun x hx => by rw [a2 x hx]; exact b1) (by simp; omega)
  have ht : s.tk.natAbs < 10 ^ 12 := by
    unfold Stg.tk
    split
    · decide
    · rename_i k hk; have := h.tok k hk; omega
  refine ⟨(Sz.tupA (n := 2) (w := 249) (l := 5) (fun x hx => ?_) (by simp)).mono (by decide) (by decide), .inl ?_⟩
  · simp only [List.mem_cons, List.not_mem_nil, or_false] at hx
    rcases hx with rfl | rfl | rfl | rfl | rfl
    · exact (Sz.int (n := 2) (by decide)).mono (by decide) (by decide)
    · exact Sz.of (by decide +kernel)
    · exact b2
    · exact (Sz.int (n := 2) ht).mono (by decide) (by decide)
    · exact (Sz.int (n := 2) (by decide)).mono (by decide) (by decide)
  · unfold Stg.first
    simp only [PyData.hasDict, PyData.hasDictAll, Bool.or_false, Bool.false_or]
    refine hasDictAll_of fun x hx => ?_
    rw [a2 x hx, PyData.hasDict]
    exact hasDictAll_of fun x hx => by rw [a1 x hx]; rfl
theorem gd_text {s : Stg} (h : s.Ok) : Gd (.str (PyData.shown s.d)) := by
  have h1 := (sm_show _ (Stg.sz h).1).2
  have h2 := PyData.shown_le 13 (by decide) s.d h1
  have h3 := (Stg.sz h).2.2
  refine ⟨⟨?_, Nat.zero_le _, ?_⟩, .inl rfl⟩
  · simp only [sm, List.all_eq_true, decide_eq_true_eq]
    exact Stg.sms h
  · simp only [PyData.weight]
    have e : (PyData.shown s.d).length = (PyData.shown s.d).cps.size := rfl
    omega
end Mi

set_option Elab.async false
set_option linter.all false
set_option maxRecDepth 100000
set_option maxHeartbeats 4000000
namespace K01
open PySem Mi
section
variable {fuel k : Nat}
theorem right_ok {M : Mem} {x : PyData} (hx : Gd x) : run Tb fuel (k + 4) 11 [.p x] M = .ok (.p (.bool true)) M := by
  refine Ok.out ?_
  refine Ok_call (show Tb 11 = some _ from rfl) rfl ?_
  simp only [b11, enter, List.map_cons, List.map_nil, List.replicate, List.cons_append, List.nil_append, Nat.sub_self, List.append_nil]
  have h14 : ∀ M x, run Tb fuel (k + 3) 14 [.p x] M = .ok (.p (.bool (isS x))) M := fun M x => set_ok (k := k) rfl rfl rfl x
  have h17 : ∀ M, run Tb fuel (k + 3) 17 [.p x] M = .ok (.p (.bool (isS x))) M := fun M => lset_ok (k := k + 1) rfl rfl x hx.inner
  have h7 : ∀ M (b : Bool), run Tb fuel (k + 3) 7 [.p (.list [.bool b, .bool b]), .p (.list [.bool b, .bool b])] M = .ok (.p (.bool true)) M := fun M b => same_refl (k := k + 2) rfl (by cases b <;> decide)
  generalize run Tb fuel (k + 3) = fn at *
  repeat' (first
    | ((with_reducible apply Ok_var); (exact rfl))
    | with_reducible refine Ok_cons ?_ | with_reducible refine Ok_nil ?_ | with_reducible refine Ok_asg ?_ | with_reducible refine Ok_ret ?_ | with_reducible refine Ok_sub ?_ | with_reducible refine Ok_ife ?_
    | with_reducible refine Ok_expr ?_ | with_reducible refine Go_nx ?_ | with_reducible refine Go_rt ?_ | with_reducible refine Ok_cst ?_ | with_reducible refine Ok_bin ?_ | with_reducible refine Ok_idx ?_
    | with_reducible refine Ok_cmp ?_ | with_reducible refine Ok_chn ?_ | with_reducible refine Ok_and ?_ | with_reducible refine Ok_or ?_ | with_reducible refine Ok_not ?_ | with_reducible refine Ok_blt ?_
    | with_reducible refine Ok_callE ?_ | with_reducible refine Ok_slc ?_ | with_reducible refine Ok_ifx ?_ | with_reducible refine Ok_neg ?_ | with_reducible refine Ok_esc ?_ | with_reducible refine Ok_esn ?_
    | with_reducible refine Ok_ono ?_ | with_reducible refine Ok_oye ?_ | with_reducible refine Ok_cno ?_ | with_reducible refine Ok_cye ?_ | with_reducible refine Ok_tup ?_ | with_reducible refine Ok_lst ?_
    | with_reducible refine Ok_toB ?_ | with_reducible refine Ok_isB ?_ | with_reducible refine Ok_lt ?_ | with_reducible refine Ok_le ?_ | with_reducible refine Ok_gt ?_ | with_reducible refine Ok_ge ?_
    | with_reducible refine Ok_add ?_ | with_reducible refine Ok_sb ?_ | with_reducible refine Ok_lenS ?_ | with_reducible refine Ok_lenT ?_ | with_reducible refine Ok_lenL ?_ | with_reducible refine Ok_min ?_
    | with_reducible refine Ok_max ?_ | with_reducible refine Ok_tuL ?_ | with_reducible refine Ok_liT ?_ | with_reducible refine Ok_isi ?_ | with_reducible refine Ok_allF ?_ | with_reducible refine Ok_allT ?_
    | with_reducible refine Ok_slT ?_ | with_reducible refine Ok_comp ?_ | with_reducible refine Ok_seq ?_ | with_reducible refine Ok_rev ?_ | with_reducible refine Ok_rvT ?_ | with_reducible refine Ok_rvL ?_
    | with_reducible refine Ok_isN ?_ | with_reducible refine Ok_isNN ?_ | with_reducible refine Ok_eqI ?_ | with_reducible refine Ok_neI ?_ | with_reducible refine Ok_par ?_ | with_reducible refine Ok_asgT ?_
    | with_reducible refine Ok_dct ?_ | with_reducible refine Ok_okI ?_ | with_reducible refine Ok_bnd ?_
    | with_reducible refine Ok.eq (h14 _ _) ?_ | with_reducible refine Ok.eq (h17 _) ?_ | with_reducible refine Ok_repr hx.shw ?_
    | ((with_reducible refine Ok_ift ?_ ?_); (exact rfl)) | ((with_reducible refine Ok_iff ?_ ?_); (exact rfl))
    | refine Exists.intro _ (And.intro rfl ?_) | refine Exists.intro _ (Exists.intro _ (And.intro rfl (And.intro (show List.length _ ≤ _ by first | decide | simp) ?_))))
  refine Ok.eq (h7 _ _) ?_
  repeat' (first
    | ((with_reducible apply Ok_var); (exact rfl))
    | with_reducible refine Ok_cons ?_ | with_reducible refine Ok_nil ?_ | with_reducible refine Ok_asg ?_ | with_reducible refine Ok_ret ?_ | with_reducible refine Ok_sub ?_ | with_reducible refine Ok_ife ?_
    | with_reducible refine Ok_expr ?_ | with_reducible refine Go_nx ?_ | with_reducible refine Go_rt ?_ | with_reducible refine Ok_cst ?_ | with_reducible refine Ok_bin ?_ | with_reducible refine Ok_idx ?_
    | with_reducible refine Ok_cmp ?_ | with_reducible refine Ok_chn ?_ | with_reducible refine Ok_and ?_ | with_reducible refine Ok_or ?_ | with_reducible refine Ok_not ?_ | with_reducible refine Ok_blt ?_
    | with_reducible refine Ok_callE ?_ | with_reducible refine Ok_slc ?_ | with_reducible refine Ok_ifx ?_ | with_reducible refine Ok_neg ?_ | with_reducible refine Ok_esc ?_ | with_reducible refine Ok_esn ?_
    | with_reducible refine Ok_ono ?_ | with_reducible refine Ok_oye ?_ | with_reducible refine Ok_cno ?_ | with_reducible refine Ok_cye ?_ | with_reducible refine Ok_tup ?_ | with_reducible refine Ok_lst ?_
    | with_reducible refine Ok_toB ?_ | with_reducible refine Ok_isB ?_ | with_reducible refine Ok_lt ?_ | with_reducible refine Ok_le ?_ | with_reducible refine Ok_gt ?_ | with_reducible refine Ok_ge ?_
    | with_reducible refine Ok_add ?_ | with_reducible refine Ok_sb ?_ | with_reducible refine Ok_lenS ?_ | with_reducible refine Ok_lenT ?_ | with_reducible refine Ok_lenL ?_ | with_reducible refine Ok_min ?_
    | with_reducible refine Ok_max ?_ | with_reducible refine Ok_tuL ?_ | with_reducible refine Ok_liT ?_ | with_reducible refine Ok_isi ?_ | with_reducible refine Ok_allF ?_ | with_reducible refine Ok_allT ?_
    | with_reducible refine Ok_slT ?_ | with_reducible refine Ok_comp ?_ | with_reducible refine Ok_seq ?_ | with_reducible refine Ok_rev ?_ | with_reducible refine Ok_rvT ?_ | with_reducible refine Ok_rvL ?_
    | with_reducible refine Ok_isN ?_ | with_reducible refine Ok_isNN ?_ | with_reducible refine Ok_eqI ?_ | with_reducible refine Ok_neI ?_ | with_reducible refine Ok_par ?_ | with_reducible refine Ok_asgT ?_
    | with_reducible refine Ok_dct ?_ | with_reducible refine Ok_okI ?_ | with_reducible refine Ok_bnd ?_
    | with_reducible refine Ok_repr hx.shw ?_
    | ((with_reducible refine Ok_ift ?_ ?_); (exact rfl)) | ((with_reducible refine Ok_iff ?_ ?_); (exact rfl))
    | refine Exists.intro _ (And.intro rfl ?_) | refine Exists.intro _ (Exists.intro _ (And.intro rfl (And.intro (show List.length _ ≤ _ by first | decide | simp) ?_))))
  refine Ok_eqP rfl rfl (Nat.zero_le _) ?_
  rw [eqv_str]
  repeat' (first
    | ((with_reducible apply Ok_var); (exact rfl))
    | with_reducible refine Ok_cons ?_ | with_reducible refine Ok_nil ?_ | with_reducible refine Ok_asg ?_ | with_reducible refine Ok_ret ?_ | with_reducible refine Ok_sub ?_ | with_reducible refine Ok_ife ?_
    | with_reducible refine Ok_expr ?_ | with_reducible refine Go_nx ?_ | with_reducible refine Go_rt ?_ | with_reducible refine Ok_cst ?_ | with_reducible refine Ok_bin ?_ | with_reducible refine Ok_idx ?_
    | with_reducible refine Ok_cmp ?_ | with_reducible refine Ok_chn ?_ | with_reducible refine Ok_and ?_ | with_reducible refine Ok_or ?_ | with_reducible refine Ok_not ?_ | with_reducible refine Ok_blt ?_
    | with_reducible refine Ok_callE ?_ | with_reducible refine Ok_slc ?_ | with_reducible refine Ok_ifx ?_ | with_reducible refine Ok_neg ?_ | with_reducible refine Ok_esc ?_ | with_reducible refine Ok_esn ?_
    | with_reducible refine Ok_ono ?_ | with_reducible refine Ok_oye ?_ | with_reducible refine Ok_cno ?_ | with_reducible refine Ok_cye ?_ | with_reducible refine Ok_tup ?_ | with_reducible refine Ok_lst ?_
    | with_reducible refine Ok_toB ?_ | with_reducible refine Ok_isB ?_ | with_reducible refine Ok_lt ?_ | with_reducible refine Ok_le ?_ | with_reducible refine Ok_gt ?_ | with_reducible refine Ok_ge ?_
    | with_reducible refine Ok_add ?_ | with_reducible refine Ok_sb ?_ | with_reducible refine Ok_lenS ?_ | with_reducible refine Ok_lenT ?_ | with_reducible refine Ok_lenL ?_ | with_reducible refine Ok_min ?_
    | with_reducible refine Ok_max ?_ | with_reducible refine Ok_tuL ?_ | with_reducible refine Ok_liT ?_ | with_reducible refine Ok_isi ?_ | with_reducible refine Ok_allF ?_ | with_reducible refine Ok_allT ?_
    | with_reducible refine Ok_slT ?_ | with_reducible refine Ok_comp ?_ | with_reducible refine Ok_seq ?_ | with_reducible refine Ok_rev ?_ | with_reducible refine Ok_rvT ?_ | with_reducible refine Ok_rvL ?_
    | with_reducible refine Ok_isN ?_ | with_reducible refine Ok_isNN ?_ | with_reducible refine Ok_eqI ?_ | with_reducible refine Ok_neI ?_ | with_reducible refine Ok_par ?_ | with_reducible refine Ok_asgT ?_
    | with_reducible refine Ok_dct ?_ | with_reducible refine Ok_okI ?_ | with_reducible refine Ok_bnd ?_
    | ((with_reducible refine Ok_ift ?_ ?_); (exact rfl)) | ((with_reducible refine Ok_iff ?_ ?_); (exact rfl))
    | refine Exists.intro _ (And.intro rfl ?_) | refine Exists.intro _ (Exists.intro _ (And.intro rfl (And.intro (show List.length _ ≤ _ by first | decide | simp) ?_))))
  exact fin_p (Nat.le_refl _) ⟨rfl, rfl⟩
theorem take_set {M N : Mem} {j : Nat} {o : MO} (h : N.take M.length = M) (hj : M.length ≤ j) : (N.set j o).take M.length = M := by
  rw [List.take_set_of_le hj, h]
def Th (M N : Mem) (j n : Nat) : Prop := M.length ≤ j ∧ N.take M.length = M ∧ ∃ ts, N[j]? = some (.lst ts) ∧ ts.length ≤ n ∧ ∀ y ∈ ts, Gd y
theorem Th.len {M N : Mem} {j n : Nat} (h : Th M N j n) : M.length ≤ N.length := by
  have e := congrArg List.length h.2.1
  rw [List.length_take] at e
  omega
theorem Th.new {M N : Mem} {ts : List PyData} {n : Nat} (h : N.take M.length = M) (hl : M.length ≤ N.length) (hn : ts.length ≤ n) (hg : ∀ y ∈ ts, Gd y) : Th M (N ++ [.lst ts]) N.length n :=
  ⟨hl, by rw [List.take_append_of_le_length hl, h], ts, by rw [List.getElem?_append_right (Nat.le_refl _), Nat.sub_self]; rfl, hn, hg⟩
theorem Th.app {M N : Mem} {j n : Nat} (h : Th M N j n) {ts : List PyData} (hts : N[j]? = some (.lst ts)) {y : PyData} (hy : Gd y) : Th M (N.set j (.lst (ts ++ [y]))) j (n + 1) := by
  obtain ⟨h1, h2, us, h3, h4, h5⟩ := h
  rw [hts] at h3
  cases h3
  have hj : j < N.length := (List.getElem?_eq_some_iff.mp hts).1
  refine ⟨h1, take_set h2 h1, _, List.getElem?_set_self hj, by rw [List.length_append, List.length_singleton]; omega, fun z hz => ?_⟩
  rcases List.mem_append.1 hz with hz | hz
  · exact h5 z hz
  · rw [List.mem_singleton.1 hz]; exact hy
theorem Th.mono {M N : Mem} {j n m : Nat} (h : Th M N j n) (hm : n ≤ m) : Th M N j m := by
  obtain ⟨h1, h2, us, h3, h4, h5⟩ := h
  exact ⟨h1, h2, us, h3, Nat.le_trans h4 hm, h5⟩
theorem recv_ref {M : Mem} {j : Nat} {ts : List PyData} (h : M[j]? = some (.lst ts)) : recv (.ref j) M = true := by
  simp only [recv, dat, h]
theorem rng_item {x : PyData} {j : Int} (h : x ∈ rngP 0 j) : ∃ i : Int, x = .int i ∧ 0 ≤ i := by
  simp only [rngP, List.mem_map] at h
  obtain ⟨i, _, rfl⟩ := h
  exact ⟨_, rfl, by omega⟩
theorem fin_t {n : Nat} {x : PyData} {M : Mem} {Q : D → Mem → Prop} (q : Q (.p x) (M.take n)) : EndQ true n (.p x) M Q := ⟨⟨_, _, rfl, q⟩⟩
theorem all_ok {M : Mem} {d : D} {s : Stg} (hs : s.Ok) : run Tb fuel (k + 5) 18 [d, .p s.d] M = .ok (.p (.bool true)) M := by
  refine Ok.out ?_
  refine Ok_call (show Tb 18 = some _ from rfl) rfl ?_
  simp only [b18, enter, List.map_cons, List.map_nil, List.replicate, List.cons_append, List.nil_append, Nat.sub_self, List.append_nil]
  have h11 : ∀ M x, Gd x → run Tb fuel (k + 4) 11 [.p x] M = .ok (.p (.bool true)) M := fun M x hx => right_ok hx
  have h16 : ∀ M, run Tb fuel (k + 4) 16 [.p s.d] M = .ok (.p s.first) M := fun M => first_ok (k := k + 3) rfl s hs
  have h10 : ∀ M, run Tb fuel (k + 4) 10 [] M = .ok (.p (.list odds)) M := fun M => odds_ok (k := k + 3) rfl
  generalize run Tb fuel (k + 4) = fn at *
  have hel := Stg.el hs
  have hd : s.d = .tuple s.parts := rfl
  have hl9 : s.parts.length = 9 := rfl
  have hgd : Gd s.d := ⟨(Stg.sz hs).mono (by decide) (by decide), .inl (Stg.nd hs)⟩
  have hsz := Stg.sz hs
  have hnd := Stg.nd hs
  have hgf := gd_first hs
  have hgt := gd_text hs
  rw [hd] at hgd hsz hnd hgt h16 ⊢
  generalize s.parts = ps at *
  repeat' (first
    | ((with_reducible apply Ok_var); (exact rfl))
    | with_reducible refine Ok_cons ?_ | with_reducible refine Ok_nil ?_ | with_reducible refine Ok_asg ?_ | with_reducible refine Ok_ret ?_ | with_reducible refine Ok_sub ?_ | with_reducible refine Ok_ife ?_
    | with_reducible refine Ok_expr ?_ | with_reducible refine Go_nx ?_ | with_reducible refine Go_rt ?_ | with_reducible refine Ok_cst ?_ | with_reducible refine Ok_bin ?_ | with_reducible refine Ok_idx ?_
    | with_reducible refine Ok_cmp ?_ | with_reducible refine Ok_chn ?_ | with_reducible refine Ok_and ?_ | with_reducible refine Ok_or ?_ | with_reducible refine Ok_not ?_ | with_reducible refine Ok_blt ?_
    | with_reducible refine Ok_callE ?_ | with_reducible refine Ok_slc ?_ | with_reducible refine Ok_ifx ?_ | with_reducible refine Ok_neg ?_ | with_reducible refine Ok_esc ?_ | with_reducible refine Ok_esn ?_
    | with_reducible refine Ok_ono ?_ | with_reducible refine Ok_oye ?_ | with_reducible refine Ok_cno ?_ | with_reducible refine Ok_cye ?_ | with_reducible refine Ok_tup ?_ | with_reducible refine Ok_lst ?_
    | with_reducible refine Ok_toB ?_ | with_reducible refine Ok_isB ?_ | with_reducible refine Ok_lt ?_ | with_reducible refine Ok_le ?_ | with_reducible refine Ok_gt ?_ | with_reducible refine Ok_ge ?_
    | with_reducible refine Ok_add ?_ | with_reducible refine Ok_sb ?_ | with_reducible refine Ok_lenS ?_ | with_reducible refine Ok_lenT ?_ | with_reducible refine Ok_lenL ?_ | with_reducible refine Ok_min ?_
    | with_reducible refine Ok_max ?_ | with_reducible refine Ok_tuL ?_ | with_reducible refine Ok_liT ?_ | with_reducible refine Ok_isi ?_ | with_reducible refine Ok_allF ?_ | with_reducible refine Ok_allT ?_
    | with_reducible refine Ok_slT ?_ | with_reducible refine Ok_comp ?_ | with_reducible refine Ok_seq ?_ | with_reducible refine Ok_rev ?_ | with_reducible refine Ok_rvT ?_ | with_reducible refine Ok_rvL ?_
    | with_reducible refine Ok_isN ?_ | with_reducible refine Ok_isNN ?_ | with_reducible refine Ok_eqI ?_ | with_reducible refine Ok_neI ?_ | with_reducible refine Ok_par ?_ | with_reducible refine Ok_asgT ?_
    | with_reducible refine Ok_dct ?_ | with_reducible refine Ok_okI ?_ | with_reducible refine Ok_bnd ?_
    | ((with_reducible refine Ok_ift ?_ ?_); (exact rfl)) | ((with_reducible refine Ok_iff ?_ ?_); (exact rfl))
    | refine Exists.intro _ (And.intro rfl ?_) | refine Exists.intro _ (Exists.intro _ (And.intro rfl (And.intro (show List.length _ ≤ _ by first | decide | simp) ?_))))
  refine Ok_addT (by simp only [List.length_singleton]; omega) ?_
  repeat' (first
    | ((with_reducible apply Ok_var); (exact rfl))
    | with_reducible refine Ok_cons ?_ | with_reducible refine Ok_nil ?_ | with_reducible refine Ok_asg ?_ | with_reducible refine Ok_ret ?_ | with_reducible refine Ok_sub ?_ | with_reducible refine Ok_ife ?_
    | with_reducible refine Ok_expr ?_ | with_reducible refine Go_nx ?_ | with_reducible refine Go_rt ?_ | with_reducible refine Ok_cst ?_ | with_reducible refine Ok_bin ?_ | with_reducible refine Ok_idx ?_
    | with_reducible refine Ok_cmp ?_ | with_reducible refine Ok_chn ?_ | with_reducible refine Ok_and ?_ | with_reducible refine Ok_or ?_ | with_reducible refine Ok_not ?_ | with_reducible refine Ok_blt ?_
    | with_reducible refine Ok_callE ?_ | with_reducible refine Ok_slc ?_ | with_reducible refine Ok_ifx ?_ | with_reducible refine Ok_neg ?_ | with_reducible refine Ok_esc ?_ | with_reducible refine Ok_esn ?_
    | with_reducible refine Ok_ono ?_ | with_reducible refine Ok_oye ?_ | with_reducible refine Ok_cno ?_ | with_reducible refine Ok_cye ?_ | with_reducible refine Ok_tup ?_ | with_reducible refine Ok_lst ?_
    | with_reducible refine Ok_toB ?_ | with_reducible refine Ok_isB ?_ | with_reducible refine Ok_lt ?_ | with_reducible refine Ok_le ?_ | with_reducible refine Ok_gt ?_ | with_reducible refine Ok_ge ?_
    | with_reducible refine Ok_add ?_ | with_reducible refine Ok_sb ?_ | with_reducible refine Ok_lenS ?_ | with_reducible refine Ok_lenT ?_ | with_reducible refine Ok_lenL ?_ | with_reducible refine Ok_min ?_
    | with_reducible refine Ok_max ?_ | with_reducible refine Ok_tuL ?_ | with_reducible refine Ok_liT ?_ | with_reducible refine Ok_isi ?_ | with_reducible refine Ok_allF ?_ | with_reducible refine Ok_allT ?_
    | with_reducible refine Ok_slT ?_ | with_reducible refine Ok_comp ?_ | with_reducible refine Ok_seq ?_ | with_reducible refine Ok_rev ?_ | with_reducible refine Ok_rvT ?_ | with_reducible refine Ok_rvL ?_
    | with_reducible refine Ok_isN ?_ | with_reducible refine Ok_isNN ?_ | with_reducible refine Ok_eqI ?_ | with_reducible refine Ok_neI ?_ | with_reducible refine Ok_par ?_ | with_reducible refine Ok_asgT ?_
    | with_reducible refine Ok_dct ?_ | with_reducible refine Ok_okI ?_ | with_reducible refine Ok_bnd ?_
    | ((with_reducible refine Ok_ift ?_ ?_); (exact rfl)) | ((with_reducible refine Ok_iff ?_ ?_); (exact rfl))
    | refine Exists.intro _ (And.intro rfl ?_) | refine Exists.intro _ (Exists.intro _ (And.intro rfl (And.intro (show List.length _ ≤ _ by first | decide | simp) ?_))))
  refine Ok_mth ?_
  repeat' (first
    | ((with_reducible apply Ok_var); (exact rfl))
    | with_reducible refine Ok_cons ?_ | with_reducible refine Ok_nil ?_ | with_reducible refine Ok_asg ?_ | with_reducible refine Ok_ret ?_ | with_reducible refine Ok_sub ?_ | with_reducible refine Ok_ife ?_
    | with_reducible refine Ok_expr ?_ | with_reducible refine Go_nx ?_ | with_reducible refine Go_rt ?_ | with_reducible refine Ok_cst ?_ | with_reducible refine Ok_bin ?_ | with_reducible refine Ok_idx ?_
    | with_reducible refine Ok_cmp ?_ | with_reducible refine Ok_chn ?_ | with_reducible refine Ok_and ?_ | with_reducible refine Ok_or ?_ | with_reducible refine Ok_not ?_ | with_reducible refine Ok_blt ?_
    | with_reducible refine Ok_callE ?_ | with_reducible refine Ok_slc ?_ | with_reducible refine Ok_ifx ?_ | with_reducible refine Ok_neg ?_ | with_reducible refine Ok_esc ?_ | with_reducible refine Ok_esn ?_
    | with_reducible refine Ok_ono ?_ | with_reducible refine Ok_oye ?_ | with_reducible refine Ok_cno ?_ | with_reducible refine Ok_cye ?_ | with_reducible refine Ok_tup ?_ | with_reducible refine Ok_lst ?_
    | with_reducible refine Ok_toB ?_ | with_reducible refine Ok_isB ?_ | with_reducible refine Ok_lt ?_ | with_reducible refine Ok_le ?_ | with_reducible refine Ok_gt ?_ | with_reducible refine Ok_ge ?_
    | with_reducible refine Ok_add ?_ | with_reducible refine Ok_sb ?_ | with_reducible refine Ok_lenS ?_ | with_reducible refine Ok_lenT ?_ | with_reducible refine Ok_lenL ?_ | with_reducible refine Ok_min ?_
    | with_reducible refine Ok_max ?_ | with_reducible refine Ok_tuL ?_ | with_reducible refine Ok_liT ?_ | with_reducible refine Ok_isi ?_ | with_reducible refine Ok_allF ?_ | with_reducible refine Ok_allT ?_
    | with_reducible refine Ok_slT ?_ | with_reducible refine Ok_comp ?_ | with_reducible refine Ok_seq ?_ | with_reducible refine Ok_rev ?_ | with_reducible refine Ok_rvT ?_ | with_reducible refine Ok_rvL ?_
    | with_reducible refine Ok_isN ?_ | with_reducible refine Ok_isNN ?_ | with_reducible refine Ok_eqI ?_ | with_reducible refine Ok_neI ?_ | with_reducible refine Ok_par ?_ | with_reducible refine Ok_asgT ?_
    | with_reducible refine Ok_dct ?_ | with_reducible refine Ok_okI ?_ | with_reducible refine Ok_bnd ?_
    | ((with_reducible refine Ok_ift ?_ ?_); (exact rfl)) | ((with_reducible refine Ok_iff ?_ ?_); (exact rfl))
    | refine Exists.intro _ (And.intro rfl ?_) | refine Exists.intro _ (Exists.intro _ (And.intro rfl (And.intro (show List.length _ ≤ _ by first | decide | simp) ?_))))
  have t0 : Th M (M ++ [.lst [.tuple ps, .list ps, .tuple (ps ++ [.none]), .tuple (cut ps none (some (-1))), .tuple ps.reverse, .tuple [.tuple ps], .list [.tuple ps]]]) M.length 7 := by
    refine Th.new (by rw [List.take_length]) (Nat.le_refl _) (Nat.le_refl _) ?_
    intro y hy
    simp only [List.mem_cons, List.not_mem_nil, or_false] at hy
    rcases hy with rfl | rfl | rfl | rfl | rfl | rfl | rfl
    · exact hgd
    · exact gd_lst hel (by omega)
    · exact gd_tup (fun x hx => by
        rcases List.mem_append.1 hx with hx | hx
        · exact hel x hx
        · rw [List.mem_singleton.1 hx]; exact ⟨Sz.of (by decide +kernel), rfl, rfl⟩) (by simp only [List.length_append, List.length_singleton]; omega)
    · exact gd_tup (fun x hx => hel x (mem_cut hx)) (by have := len_cut (xs := ps) (lo := none) (hi := some (-1)); omega)
    · exact gd_tup (fun x hx => hel x (List.mem_reverse.1 hx)) (by rw [List.length_reverse]; omega)
    · exact ⟨(Sz.tupA (n := 6) (w := 1809) (l := 1) (fun x hx => by rw [List.mem_singleton.1 hx]; exact hsz) (Nat.le_refl _)).mono (by decide) (by decide), .inl (by simp only [PyData.hasDict, PyData.hasDictAll] at hnd ⊢; rw [hnd]; rfl)⟩
    · exact ⟨(Sz.lstA (n := 6) (w := 1809) (l := 1) (fun x hx => by rw [List.mem_singleton.1 hx]; exact hsz) (Nat.le_refl _)).mono (by decide) (by decide), .inl (by simp only [PyData.hasDict, PyData.hasDictAll] at hnd ⊢; rw [hnd]; rfl)⟩
  obtain ⟨ts, hts, hn, _⟩ := id t0.2.2
  refine ⟨recv_ref hts, ?_⟩
  repeat' (first
    | ((with_reducible apply Ok_var); (exact rfl))
    | with_reducible refine Ok_cons ?_ | with_reducible refine Ok_nil ?_ | with_reducible refine Ok_asg ?_ | with_reducible refine Ok_ret ?_ | with_reducible refine Ok_sub ?_ | with_reducible refine Ok_ife ?_
    | with_reducible refine Ok_expr ?_ | with_reducible refine Go_nx ?_ | with_reducible refine Go_rt ?_ | with_reducible refine Ok_cst ?_ | with_reducible refine Ok_bin ?_ | with_reducible refine Ok_idx ?_
    | with_reducible refine Ok_cmp ?_ | with_reducible refine Ok_chn ?_ | with_reducible refine Ok_and ?_ | with_reducible refine Ok_or ?_ | with_reducible refine Ok_not ?_ | with_reducible refine Ok_blt ?_
    | with_reducible refine Ok_callE ?_ | with_reducible refine Ok_slc ?_ | with_reducible refine Ok_ifx ?_ | with_reducible refine Ok_neg ?_ | with_reducible refine Ok_esc ?_ | with_reducible refine Ok_esn ?_
    | with_reducible refine Ok_ono ?_ | with_reducible refine Ok_oye ?_ | with_reducible refine Ok_cno ?_ | with_reducible refine Ok_cye ?_ | with_reducible refine Ok_tup ?_ | with_reducible refine Ok_lst ?_
    | with_reducible refine Ok_toB ?_ | with_reducible refine Ok_isB ?_ | with_reducible refine Ok_lt ?_ | with_reducible refine Ok_le ?_ | with_reducible refine Ok_gt ?_ | with_reducible refine Ok_ge ?_
    | with_reducible refine Ok_add ?_ | with_reducible refine Ok_sb ?_ | with_reducible refine Ok_lenS ?_ | with_reducible refine Ok_lenT ?_ | with_reducible refine Ok_lenL ?_ | with_reducible refine Ok_min ?_
    | with_reducible refine Ok_max ?_ | with_reducible refine Ok_tuL ?_ | with_reducible refine Ok_liT ?_ | with_reducible refine Ok_isi ?_ | with_reducible refine Ok_allF ?_ | with_reducible refine Ok_allT ?_
    | with_reducible refine Ok_slT ?_ | with_reducible refine Ok_comp ?_ | with_reducible refine Ok_seq ?_ | with_reducible refine Ok_rev ?_ | with_reducible refine Ok_rvT ?_ | with_reducible refine Ok_rvL ?_
    | with_reducible refine Ok_isN ?_ | with_reducible refine Ok_isNN ?_ | with_reducible refine Ok_eqI ?_ | with_reducible refine Ok_neI ?_ | with_reducible refine Ok_par ?_ | with_reducible refine Ok_asgT ?_
    | with_reducible refine Ok_dct ?_ | with_reducible refine Ok_okI ?_ | with_reducible refine Ok_bnd ?_
    | with_reducible refine Ok_repr hgd.shw ?_
    | ((with_reducible refine Ok_ift ?_ ?_); (exact rfl)) | ((with_reducible refine Ok_iff ?_ ?_); (exact rfl))
    | refine Exists.intro _ (And.intro rfl ?_) | refine Exists.intro _ (Exists.intro _ (And.intro rfl (And.intro (show List.length _ ≤ _ by first | decide | simp) ?_))))
  refine Ok_app hts (by omega) ?_
  have t1 := t0.app hts hgt
  generalize List.set (M ++ _) _ _ = N1 at t1 ⊢
  repeat' (first
    | ((with_reducible apply Ok_var); (exact rfl))
    | with_reducible refine Ok_cons ?_ | with_reducible refine Ok_nil ?_ | with_reducible refine Ok_asg ?_ | with_reducible refine Ok_ret ?_ | with_reducible refine Ok_sub ?_ | with_reducible refine Ok_ife ?_
    | with_reducible refine Ok_expr ?_ | with_reducible refine Go_nx ?_ | with_reducible refine Go_rt ?_ | with_reducible refine Ok_cst ?_ | with_reducible refine Ok_bin ?_ | with_reducible refine Ok_idx ?_
    | with_reducible refine Ok_cmp ?_ | with_reducible refine Ok_chn ?_ | with_reducible refine Ok_and ?_ | with_reducible refine Ok_or ?_ | with_reducible refine Ok_not ?_ | with_reducible refine Ok_blt ?_
    | with_reducible refine Ok_callE ?_ | with_reducible refine Ok_slc ?_ | with_reducible refine Ok_ifx ?_ | with_reducible refine Ok_neg ?_ | with_reducible refine Ok_esc ?_ | with_reducible refine Ok_esn ?_
    | with_reducible refine Ok_ono ?_ | with_reducible refine Ok_oye ?_ | with_reducible refine Ok_cno ?_ | with_reducible refine Ok_cye ?_ | with_reducible refine Ok_tup ?_ | with_reducible refine Ok_lst ?_
    | with_reducible refine Ok_toB ?_ | with_reducible refine Ok_isB ?_ | with_reducible refine Ok_lt ?_ | with_reducible refine Ok_le ?_ | with_reducible refine Ok_gt ?_ | with_reducible refine Ok_ge ?_
    | with_reducible refine Ok_add ?_ | with_reducible refine Ok_sb ?_ | with_reducible refine Ok_lenS ?_ | with_reducible refine Ok_lenT ?_ | with_reducible refine Ok_lenL ?_ | with_reducible refine Ok_min ?_
    | with_reducible refine Ok_max ?_ | with_reducible refine Ok_tuL ?_ | with_reducible refine Ok_liT ?_ | with_reducible refine Ok_isi ?_ | with_reducible refine Ok_allF ?_ | with_reducible refine Ok_allT ?_
    | with_reducible refine Ok_slT ?_ | with_reducible refine Ok_comp ?_ | with_reducible refine Ok_seq ?_ | with_reducible refine Ok_rev ?_ | with_reducible refine Ok_rvT ?_ | with_reducible refine Ok_rvL ?_
    | with_reducible refine Ok_isN ?_ | with_reducible refine Ok_isNN ?_ | with_reducible refine Ok_eqI ?_ | with_reducible refine Ok_neI ?_ | with_reducible refine Ok_par ?_ | with_reducible refine Ok_asgT ?_
    | with_reducible refine Ok_dct ?_ | with_reducible refine Ok_okI ?_ | with_reducible refine Ok_bnd ?_
    | ((with_reducible refine Ok_ift ?_ ?_); (exact rfl)) | ((with_reducible refine Ok_iff ?_ ?_); (exact rfl))
    | refine Exists.intro _ (And.intro rfl ?_) | refine Exists.intro _ (Exists.intro _ (And.intro rfl (And.intro (show List.length _ ≤ _ by first | decide | simp) ?_))))
  refine Ok_loop (fun n ρ N => (∃ j x3 x4 x5, ρ = [some d, some (.p (.tuple ps)), some (.ref j), x3, x4, x5] ∧ Th M N j (8 + 42 * n))) ?_
  refine Ok_rng ?_
  repeat' (first
    | ((with_reducible apply Ok_var); (exact rfl))
    | with_reducible refine Ok_cons ?_ | with_reducible refine Ok_nil ?_ | with_reducible refine Ok_asg ?_ | with_reducible refine Ok_ret ?_ | with_reducible refine Ok_sub ?_ | with_reducible refine Ok_ife ?_
    | with_reducible refine Ok_expr ?_ | with_reducible refine Go_nx ?_ | with_reducible refine Go_rt ?_ | with_reducible refine Ok_cst ?_ | with_reducible refine Ok_bin ?_ | with_reducible refine Ok_idx ?_
    | with_reducible refine Ok_cmp ?_ | with_reducible refine Ok_chn ?_ | with_reducible refine Ok_and ?_ | with_reducible refine Ok_or ?_ | with_reducible refine Ok_not ?_ | with_reducible refine Ok_blt ?_
    | with_reducible refine Ok_callE ?_ | with_reducible refine Ok_slc ?_ | with_reducible refine Ok_ifx ?_ | with_reducible refine Ok_neg ?_ | with_reducible refine Ok_esc ?_ | with_reducible refine Ok_esn ?_
    | with_reducible refine Ok_ono ?_ | with_reducible refine Ok_oye ?_ | with_reducible refine Ok_cno ?_ | with_reducible refine Ok_cye ?_ | with_reducible refine Ok_tup ?_ | with_reducible refine Ok_lst ?_
    | with_reducible refine Ok_toB ?_ | with_reducible refine Ok_isB ?_ | with_reducible refine Ok_lt ?_ | with_reducible refine Ok_le ?_ | with_reducible refine Ok_gt ?_ | with_reducible refine Ok_ge ?_
    | with_reducible refine Ok_add ?_ | with_reducible refine Ok_sb ?_ | with_reducible refine Ok_lenS ?_ | with_reducible refine Ok_lenT ?_ | with_reducible refine Ok_lenL ?_ | with_reducible refine Ok_min ?_
    | with_reducible refine Ok_max ?_ | with_reducible refine Ok_tuL ?_ | with_reducible refine Ok_liT ?_ | with_reducible refine Ok_isi ?_ | with_reducible refine Ok_allF ?_ | with_reducible refine Ok_allT ?_
    | with_reducible refine Ok_slT ?_ | with_reducible refine Ok_comp ?_ | with_reducible refine Ok_seq ?_ | with_reducible refine Ok_rev ?_ | with_reducible refine Ok_rvT ?_ | with_reducible refine Ok_rvL ?_
    | with_reducible refine Ok_isN ?_ | with_reducible refine Ok_isNN ?_ | with_reducible refine Ok_eqI ?_ | with_reducible refine Ok_neI ?_ | with_reducible refine Ok_par ?_ | with_reducible refine Ok_asgT ?_
    | with_reducible refine Ok_dct ?_ | with_reducible refine Ok_okI ?_ | with_reducible refine Ok_bnd ?_
    | ((with_reducible refine Ok_ift ?_ ?_); (exact rfl)) | ((with_reducible refine Ok_iff ?_ ?_); (exact rfl))
    | refine Exists.intro _ (And.intro rfl ?_) | refine Exists.intro _ (Exists.intro _ (And.intro rfl (And.intro (show List.length _ ≤ _ by first | decide | simp) ?_))))
  refine ⟨by decide, ?_⟩
  repeat' (first
    | ((with_reducible apply Ok_var); (exact rfl))
    | with_reducible refine Ok_cons ?_ | with_reducible refine Ok_nil ?_ | with_reducible refine Ok_asg ?_ | with_reducible refine Ok_ret ?_ | with_reducible refine Ok_sub ?_ | with_reducible refine Ok_ife ?_
    | with_reducible refine Ok_expr ?_ | with_reducible refine Go_nx ?_ | with_reducible refine Go_rt ?_ | with_reducible refine Ok_cst ?_ | with_reducible refine Ok_bin ?_ | with_reducible refine Ok_idx ?_
    | with_reducible refine Ok_cmp ?_ | with_reducible refine Ok_chn ?_ | with_reducible refine Ok_and ?_ | with_reducible refine Ok_or ?_ | with_reducible refine Ok_not ?_ | with_reducible refine Ok_blt ?_
    | with_reducible refine Ok_callE ?_ | with_reducible refine Ok_slc ?_ | with_reducible refine Ok_ifx ?_ | with_reducible refine Ok_neg ?_ | with_reducible refine Ok_esc ?_ | with_reducible refine Ok_esn ?_
    | with_reducible refine Ok_ono ?_ | with_reducible refine Ok_oye ?_ | with_reducible refine Ok_cno ?_ | with_reducible refine Ok_cye ?_ | with_reducible refine Ok_tup ?_ | with_reducible refine Ok_lst ?_
    | with_reducible refine Ok_toB ?_ | with_reducible refine Ok_isB ?_ | with_reducible refine Ok_lt ?_ | with_reducible refine Ok_le ?_ | with_reducible refine Ok_gt ?_ | with_reducible refine Ok_ge ?_
    | with_reducible refine Ok_add ?_ | with_reducible refine Ok_sb ?_ | with_reducible refine Ok_lenS ?_ | with_reducible refine Ok_lenT ?_ | with_reducible refine Ok_lenL ?_ | with_reducible refine Ok_min ?_
    | with_reducible refine Ok_max ?_ | with_reducible refine Ok_tuL ?_ | with_reducible refine Ok_liT ?_ | with_reducible refine Ok_isi ?_ | with_reducible refine Ok_allF ?_ | with_reducible refine Ok_allT ?_
    | with_reducible refine Ok_slT ?_ | with_reducible refine Ok_comp ?_ | with_reducible refine Ok_seq ?_ | with_reducible refine Ok_rev ?_ | with_reducible refine Ok_rvT ?_ | with_reducible refine Ok_rvL ?_
    | with_reducible refine Ok_isN ?_ | with_reducible refine Ok_isNN ?_ | with_reducible refine Ok_eqI ?_ | with_reducible refine Ok_neI ?_ | with_reducible refine Ok_par ?_ | with_reducible refine Ok_asgT ?_
    | with_reducible refine Ok_dct ?_ | with_reducible refine Ok_okI ?_ | with_reducible refine Ok_bnd ?_
    | ((with_reducible refine Ok_ift ?_ ?_); (exact rfl)) | ((with_reducible refine Ok_iff ?_ ?_); (exact rfl))
    | refine Exists.intro _ (And.intro rfl ?_) | refine Exists.intro _ (Exists.intro _ (And.intro rfl (And.intro (show List.length _ ≤ _ by first | decide | simp) ?_))))
  refine ⟨⟨_, _, _, _, rfl, t1⟩, ?_, ?_⟩
  · rintro x hx n ρ N hn ⟨j, x3, x4, x5, rfl, th⟩
    have hn' : n < 9 := hn
    obtain ⟨i, rfl, hi⟩ := rng_item hx
    refine ⟨_, rfl, ?_⟩
    repeat' (first
    | ((with_reducible apply Ok_var); (exact rfl))
    | with_reducible refine Ok_cons ?_ | with_reducible refine Ok_nil ?_ | with_reducible refine Ok_asg ?_ | with_reducible refine Ok_ret ?_ | with_reducible refine Ok_sub ?_ | with_reducible refine Ok_ife ?_
    | with_reducible refine Ok_expr ?_ | with_reducible refine Go_nx ?_ | with_reducible refine Go_rt ?_ | with_reducible refine Ok_cst ?_ | with_reducible refine Ok_bin ?_ | with_reducible refine Ok_idx ?_
    | with_reducible refine Ok_cmp ?_ | with_reducible refine Ok_chn ?_ | with_reducible refine Ok_and ?_ | with_reducible refine Ok_or ?_ | with_reducible refine Ok_not ?_ | with_reducible refine Ok_blt ?_
    | with_reducible refine Ok_callE ?_ | with_reducible refine Ok_slc ?_ | with_reducible refine Ok_ifx ?_ | with_reducible refine Ok_neg ?_ | with_reducible refine Ok_esc ?_ | with_reducible refine Ok_esn ?_
    | with_reducible refine Ok_ono ?_ | with_reducible refine Ok_oye ?_ | with_reducible refine Ok_cno ?_ | with_reducible refine Ok_cye ?_ | with_reducible refine Ok_tup ?_ | with_reducible refine Ok_lst ?_
    | with_reducible refine Ok_toB ?_ | with_reducible refine Ok_isB ?_ | with_reducible refine Ok_lt ?_ | with_reducible refine Ok_le ?_ | with_reducible refine Ok_gt ?_ | with_reducible refine Ok_ge ?_
    | with_reducible refine Ok_add ?_ | with_reducible refine Ok_sb ?_ | with_reducible refine Ok_lenS ?_ | with_reducible refine Ok_lenT ?_ | with_reducible refine Ok_lenL ?_ | with_reducible refine Ok_min ?_
    | with_reducible refine Ok_max ?_ | with_reducible refine Ok_tuL ?_ | with_reducible refine Ok_liT ?_ | with_reducible refine Ok_isi ?_ | with_reducible refine Ok_allF ?_ | with_reducible refine Ok_allT ?_
    | with_reducible refine Ok_slT ?_ | with_reducible refine Ok_comp ?_ | with_reducible refine Ok_seq ?_ | with_reducible refine Ok_rev ?_ | with_reducible refine Ok_rvT ?_ | with_reducible refine Ok_rvL ?_
    | with_reducible refine Ok_isN ?_ | with_reducible refine Ok_isNN ?_ | with_reducible refine Ok_eqI ?_ | with_reducible refine Ok_neI ?_ | with_reducible refine Ok_par ?_ | with_reducible refine Ok_asgT ?_
    | with_reducible refine Ok_dct ?_ | with_reducible refine Ok_okI ?_ | with_reducible refine Ok_bnd ?_
    | with_reducible refine Ok.eq (h10 _) ?_
    | ((with_reducible refine Ok_ift ?_ ?_); (exact rfl)) | ((with_reducible refine Ok_iff ?_ ?_); (exact rfl))
    | refine Exists.intro _ (And.intro rfl ?_) | refine Exists.intro _ (Exists.intro _ (And.intro rfl (And.intro (show List.length _ ≤ _ by first | decide | simp) ?_))))
    refine comp_ok (fun b => some (.tuple (cut ps none (some i) ++ [b] ++ cut ps (some (i + 1)) none))) ?_ (by decide) ?_
    · intro b hb
      refine Ok_body rfl ?_
      repeat' (first
    | ((with_reducible apply Ok_var); (exact rfl))
    | with_reducible refine Ok_cons ?_ | with_reducible refine Ok_nil ?_ | with_reducible refine Ok_asg ?_ | with_reducible refine Ok_ret ?_ | with_reducible refine Ok_sub ?_ | with_reducible refine Ok_ife ?_
    | with_reducible refine Ok_expr ?_ | with_reducible refine Go_nx ?_ | with_reducible refine Go_rt ?_ | with_reducible refine Ok_cst ?_ | with_reducible refine Ok_bin ?_ | with_reducible refine Ok_idx ?_
    | with_reducible refine Ok_cmp ?_ | with_reducible refine Ok_chn ?_ | with_reducible refine Ok_and ?_ | with_reducible refine Ok_or ?_ | with_reducible refine Ok_not ?_ | with_reducible refine Ok_blt ?_
    | with_reducible refine Ok_callE ?_ | with_reducible refine Ok_slc ?_ | with_reducible refine Ok_ifx ?_ | with_reducible refine Ok_neg ?_ | with_reducible refine Ok_esc ?_ | with_reducible refine Ok_esn ?_
    | with_reducible refine Ok_ono ?_ | with_reducible refine Ok_oye ?_ | with_reducible refine Ok_cno ?_ | with_reducible refine Ok_cye ?_ | with_reducible refine Ok_tup ?_ | with_reducible refine Ok_lst ?_
    | with_reducible refine Ok_toB ?_ | with_reducible refine Ok_isB ?_ | with_reducible refine Ok_lt ?_ | with_reducible refine Ok_le ?_ | with_reducible refine Ok_gt ?_ | with_reducible refine Ok_ge ?_
    | with_reducible refine Ok_add ?_ | with_reducible refine Ok_sb ?_ | with_reducible refine Ok_lenS ?_ | with_reducible refine Ok_lenT ?_ | with_reducible refine Ok_lenL ?_ | with_reducible refine Ok_min ?_
    | with_reducible refine Ok_max ?_ | with_reducible refine Ok_tuL ?_ | with_reducible refine Ok_liT ?_ | with_reducible refine Ok_isi ?_ | with_reducible refine Ok_allF ?_ | with_reducible refine Ok_allT ?_
    | with_reducible refine Ok_slT ?_ | with_reducible refine Ok_comp ?_ | with_reducible refine Ok_seq ?_ | with_reducible refine Ok_rev ?_ | with_reducible refine Ok_rvT ?_ | with_reducible refine Ok_rvL ?_
    | with_reducible refine Ok_isN ?_ | with_reducible refine Ok_isNN ?_ | with_reducible refine Ok_eqI ?_ | with_reducible refine Ok_neI ?_ | with_reducible refine Ok_par ?_ | with_reducible refine Ok_asgT ?_
    | with_reducible refine Ok_dct ?_ | with_reducible refine Ok_okI ?_ | with_reducible refine Ok_bnd ?_
    | ((with_reducible refine Ok_ift ?_ ?_); (exact rfl)) | ((with_reducible refine Ok_iff ?_ ?_); (exact rfl))
    | refine Exists.intro _ (And.intro rfl ?_) | refine Exists.intro _ (Exists.intro _ (And.intro rfl (And.intro (show List.length _ ≤ _ by first | decide | simp) ?_))))
      have l1 := len_cut (xs := ps) (lo := none) (hi := some i)
      have l2 := len_cut (xs := ps) (lo := some (i + 1)) (hi := none)
      refine Ok_addT (by simp only [List.length_singleton]; omega) ?_
      repeat' (first
    | ((with_reducible apply Ok_var); (exact rfl))
    | with_reducible refine Ok_cons ?_ | with_reducible refine Ok_nil ?_ | with_reducible refine Ok_asg ?_ | with_reducible refine Ok_ret ?_ | with_reducible refine Ok_sub ?_ | with_reducible refine Ok_ife ?_
    | with_reducible refine Ok_expr ?_ | with_reducible refine Go_nx ?_ | with_reducible refine Go_rt ?_ | with_reducible refine Ok_cst ?_ | with_reducible refine Ok_bin ?_ | with_reducible refine Ok_idx ?_
    | with_reducible refine Ok_cmp ?_ | with_reducible refine Ok_chn ?_ | with_reducible refine Ok_and ?_ | with_reducible refine Ok_or ?_ | with_reducible refine Ok_not ?_ | with_reducible refine Ok_blt ?_
    | with_reducible refine Ok_callE ?_ | with_reducible refine Ok_slc ?_ | with_reducible refine Ok_ifx ?_ | with_reducible refine Ok_neg ?_ | with_reducible refine Ok_esc ?_ | with_reducible refine Ok_esn ?_
    | with_reducible refine Ok_ono ?_ | with_reducible refine Ok_oye ?_ | with_reducible refine Ok_cno ?_ | with_reducible refine Ok_cye ?_ | with_reducible refine Ok_tup ?_ | with_reducible refine Ok_lst ?_
    | with_reducible refine Ok_toB ?_ | with_reducible refine Ok_isB ?_ | with_reducible refine Ok_lt ?_ | with_reducible refine Ok_le ?_ | with_reducible refine Ok_gt ?_ | with_reducible refine Ok_ge ?_
    | with_reducible refine Ok_add ?_ | with_reducible refine Ok_sb ?_ | with_reducible refine Ok_lenS ?_ | with_reducible refine Ok_lenT ?_ | with_reducible refine Ok_lenL ?_ | with_reducible refine Ok_min ?_
    | with_reducible refine Ok_max ?_ | with_reducible refine Ok_tuL ?_ | with_reducible refine Ok_liT ?_ | with_reducible refine Ok_isi ?_ | with_reducible refine Ok_allF ?_ | with_reducible refine Ok_allT ?_
    | with_reducible refine Ok_slT ?_ | with_reducible refine Ok_comp ?_ | with_reducible refine Ok_seq ?_ | with_reducible refine Ok_rev ?_ | with_reducible refine Ok_rvT ?_ | with_reducible refine Ok_rvL ?_
    | with_reducible refine Ok_isN ?_ | with_reducible refine Ok_isNN ?_ | with_reducible refine Ok_eqI ?_ | with_reducible refine Ok_neI ?_ | with_reducible refine Ok_par ?_ | with_reducible refine Ok_asgT ?_
    | with_reducible refine Ok_dct ?_ | with_reducible refine Ok_okI ?_ | with_reducible refine Ok_bnd ?_
    | ((with_reducible refine Ok_ift ?_ ?_); (exact rfl)) | ((with_reducible refine Ok_iff ?_ ?_); (exact rfl))
    | refine Exists.intro _ (And.intro rfl ?_) | refine Exists.intro _ (Exists.intro _ (And.intro rfl (And.intro (show List.length _ ≤ _ by first | decide | simp) ?_))))
      refine Ok_addT (by simp only [List.length_append, List.length_singleton]; omega) ?_
      exact ⟨_, _, rfl, rfl, rfl⟩
    rw [List.filterMap_eq_map']
    repeat' (first
    | ((with_reducible apply Ok_var); (exact rfl))
    | with_reducible refine Ok_cons ?_ | with_reducible refine Ok_nil ?_ | with_reducible refine Ok_asg ?_ | with_reducible refine Ok_ret ?_ | with_reducible refine Ok_sub ?_ | with_reducible refine Ok_ife ?_
    | with_reducible refine Ok_expr ?_ | with_reducible refine Go_nx ?_ | with_reducible refine Go_rt ?_ | with_reducible refine Ok_cst ?_ | with_reducible refine Ok_bin ?_ | with_reducible refine Ok_idx ?_
    | with_reducible refine Ok_cmp ?_ | with_reducible refine Ok_chn ?_ | with_reducible refine Ok_and ?_ | with_reducible refine Ok_or ?_ | with_reducible refine Ok_not ?_ | with_reducible refine Ok_blt ?_
    | with_reducible refine Ok_callE ?_ | with_reducible refine Ok_slc ?_ | with_reducible refine Ok_ifx ?_ | with_reducible refine Ok_neg ?_ | with_reducible refine Ok_esc ?_ | with_reducible refine Ok_esn ?_
    | with_reducible refine Ok_ono ?_ | with_reducible refine Ok_oye ?_ | with_reducible refine Ok_cno ?_ | with_reducible refine Ok_cye ?_ | with_reducible refine Ok_tup ?_ | with_reducible refine Ok_lst ?_
    | with_reducible refine Ok_toB ?_ | with_reducible refine Ok_isB ?_ | with_reducible refine Ok_lt ?_ | with_reducible refine Ok_le ?_ | with_reducible refine Ok_gt ?_ | with_reducible refine Ok_ge ?_
    | with_reducible refine Ok_add ?_ | with_reducible refine Ok_sb ?_ | with_reducible refine Ok_lenS ?_ | with_reducible refine Ok_lenT ?_ | with_reducible refine Ok_lenL ?_ | with_reducible refine Ok_min ?_
    | with_reducible refine Ok_max ?_ | with_reducible refine Ok_tuL ?_ | with_reducible refine Ok_liT ?_ | with_reducible refine Ok_isi ?_ | with_reducible refine Ok_allF ?_ | with_reducible refine Ok_allT ?_
    | with_reducible refine Ok_slT ?_ | with_reducible refine Ok_comp ?_ | with_reducible refine Ok_seq ?_ | with_reducible refine Ok_rev ?_ | with_reducible refine Ok_rvT ?_ | with_reducible refine Ok_rvL ?_
    | with_reducible refine Ok_isN ?_ | with_reducible refine Ok_isNN ?_ | with_reducible refine Ok_eqI ?_ | with_reducible refine Ok_neI ?_ | with_reducible refine Ok_par ?_ | with_reducible refine Ok_asgT ?_
    | with_reducible refine Ok_dct ?_ | with_reducible refine Ok_okI ?_ | with_reducible refine Ok_bnd ?_
    | ((with_reducible refine Ok_ift ?_ ?_); (exact rfl)) | ((with_reducible refine Ok_iff ?_ ?_); (exact rfl))
    | refine Exists.intro _ (And.intro rfl ?_) | refine Exists.intro _ (Exists.intro _ (And.intro rfl (And.intro (show List.length _ ≤ _ by first | decide | simp) ?_))))
    obtain ⟨ts, hts, hn2, hg⟩ := id th.2.2
    have l1 := len_cut (xs := ps) (lo := none) (hi := some i)
    have l2 := len_cut (xs := ps) (lo := some (i + 1)) (hi := none)
    have lo : (List.map (fun b => PyData.tuple (cut ps none (some i) ++ [b] ++ cut ps (some (i + 1)) none)) odds).length = 41 := by rw [List.length_map]; rfl
    refine Ok_addR hts (by rw [lo]; omega) ?_
    have t2 : Th M (N ++ [.lst (ts ++ List.map (fun b => PyData.tuple (cut ps none (some i) ++ [b] ++ cut ps (some (i + 1)) none)) odds)]) N.length (8 + 42 * n + 41) := by
      refine Th.new th.2.1 th.len (by rw [List.length_append, lo]; omega) ?_
      intro y hy
      rcases List.mem_append.1 hy with hy | hy
      · exact hg y hy
      · obtain ⟨b, hb, rfl⟩ := List.mem_map.1 hy
        exact gd_mid (fun x hx => hel x (mem_cut hx)) (fun x hx => hel x (mem_cut hx)) (by omega) (List.all_eq_true.1 odds_small b hb)
    repeat' (first
    | ((with_reducible apply Ok_var); (exact rfl))
    | with_reducible refine Ok_cons ?_ | with_reducible refine Ok_nil ?_ | with_reducible refine Ok_asg ?_ | with_reducible refine Ok_ret ?_ | with_reducible refine Ok_sub ?_ | with_reducible refine Ok_ife ?_
    | with_reducible refine Ok_expr ?_ | with_reducible refine Go_nx ?_ | with_reducible refine Go_rt ?_ | with_reducible refine Ok_cst ?_ | with_reducible refine Ok_bin ?_ | with_reducible refine Ok_idx ?_
    | with_reducible refine Ok_cmp ?_ | with_reducible refine Ok_chn ?_ | with_reducible refine Ok_and ?_ | with_reducible refine Ok_or ?_ | with_reducible refine Ok_not ?_ | with_reducible refine Ok_blt ?_
    | with_reducible refine Ok_callE ?_ | with_reducible refine Ok_slc ?_ | with_reducible refine Ok_ifx ?_ | with_reducible refine Ok_neg ?_ | with_reducible refine Ok_esc ?_ | with_reducible refine Ok_esn ?_
    | with_reducible refine Ok_ono ?_ | with_reducible refine Ok_oye ?_ | with_reducible refine Ok_cno ?_ | with_reducible refine Ok_cye ?_ | with_reducible refine Ok_tup ?_ | with_reducible refine Ok_lst ?_
    | with_reducible refine Ok_toB ?_ | with_reducible refine Ok_isB ?_ | with_reducible refine Ok_lt ?_ | with_reducible refine Ok_le ?_ | with_reducible refine Ok_gt ?_ | with_reducible refine Ok_ge ?_
    | with_reducible refine Ok_add ?_ | with_reducible refine Ok_sb ?_ | with_reducible refine Ok_lenS ?_ | with_reducible refine Ok_lenT ?_ | with_reducible refine Ok_lenL ?_ | with_reducible refine Ok_min ?_
    | with_reducible refine Ok_max ?_ | with_reducible refine Ok_tuL ?_ | with_reducible refine Ok_liT ?_ | with_reducible refine Ok_isi ?_ | with_reducible refine Ok_allF ?_ | with_reducible refine Ok_allT ?_
    | with_reducible refine Ok_slT ?_ | with_reducible refine Ok_comp ?_ | with_reducible refine Ok_seq ?_ | with_reducible refine Ok_rev ?_ | with_reducible refine Ok_rvT ?_ | with_reducible refine Ok_rvL ?_
    | with_reducible refine Ok_isN ?_ | with_reducible refine Ok_isNN ?_ | with_reducible refine Ok_eqI ?_ | with_reducible refine Ok_neI ?_ | with_reducible refine Ok_par ?_ | with_reducible refine Ok_asgT ?_
    | with_reducible refine Ok_dct ?_ | with_reducible refine Ok_okI ?_ | with_reducible refine Ok_bnd ?_
    | ((with_reducible refine Ok_ift ?_ ?_); (exact rfl)) | ((with_reducible refine Ok_iff ?_ ?_); (exact rfl))
    | refine Exists.intro _ (And.intro rfl ?_) | refine Exists.intro _ (Exists.intro _ (And.intro rfl (And.intro (show List.length _ ≤ _ by first | decide | simp) ?_))))
    refine Ok_mth ?_
    generalize (N ++ [MO.lst (ts ++ _)] : Mem) = N2 at t2 ⊢
    generalize List.length N = j2 at t2 ⊢
    repeat' (first
    | ((with_reducible apply Ok_var); (exact rfl))
    | with_reducible refine Ok_cons ?_ | with_reducible refine Ok_nil ?_ | with_reducible refine Ok_asg ?_ | with_reducible refine Ok_ret ?_ | with_reducible refine Ok_sub ?_ | with_reducible refine Ok_ife ?_
    | with_reducible refine Ok_expr ?_ | with_reducible refine Go_nx ?_ | with_reducible refine Go_rt ?_ | with_reducible refine Ok_cst ?_ | with_reducible refine Ok_bin ?_ | with_reducible refine Ok_idx ?_
    | with_reducible refine Ok_cmp ?_ | with_reducible refine Ok_chn ?_ | with_reducible refine Ok_and ?_ | with_reducible refine Ok_or ?_ | with_reducible refine Ok_not ?_ | with_reducible refine Ok_blt ?_
    | with_reducible refine Ok_callE ?_ | with_reducible refine Ok_slc ?_ | with_reducible refine Ok_ifx ?_ | with_reducible refine Ok_neg ?_ | with_reducible refine Ok_esc ?_ | with_reducible refine Ok_esn ?_
    | with_reducible refine Ok_ono ?_ | with_reducible refine Ok_oye ?_ | with_reducible refine Ok_cno ?_ | with_reducible refine Ok_cye ?_ | with_reducible refine Ok_tup ?_ | with_reducible refine Ok_lst ?_
    | with_reducible refine Ok_toB ?_ | with_reducible refine Ok_isB ?_ | with_reducible refine Ok_lt ?_ | with_reducible refine Ok_le ?_ | with_reducible refine Ok_gt ?_ | with_reducible refine Ok_ge ?_
    | with_reducible refine Ok_add ?_ | with_reducible refine Ok_sb ?_ | with_reducible refine Ok_lenS ?_ | with_reducible refine Ok_lenT ?_ | with_reducible refine Ok_lenL ?_ | with_reducible refine Ok_min ?_
    | with_reducible refine Ok_max ?_ | with_reducible refine Ok_tuL ?_ | with_reducible refine Ok_liT ?_ | with_reducible refine Ok_isi ?_ | with_reducible refine Ok_allF ?_ | with_reducible refine Ok_allT ?_
    | with_reducible refine Ok_slT ?_ | with_reducible refine Ok_comp ?_ | with_reducible refine Ok_seq ?_ | with_reducible refine Ok_rev ?_ | with_reducible refine Ok_rvT ?_ | with_reducible refine Ok_rvL ?_
    | with_reducible refine Ok_isN ?_ | with_reducible refine Ok_isNN ?_ | with_reducible refine Ok_eqI ?_ | with_reducible refine Ok_neI ?_ | with_reducible refine Ok_par ?_ | with_reducible refine Ok_asgT ?_
    | with_reducible refine Ok_dct ?_ | with_reducible refine Ok_okI ?_ | with_reducible refine Ok_bnd ?_
    | ((with_reducible refine Ok_ift ?_ ?_); (exact rfl)) | ((with_reducible refine Ok_iff ?_ ?_); (exact rfl))
    | refine Exists.intro _ (And.intro rfl ?_) | refine Exists.intro _ (Exists.intro _ (And.intro rfl (And.intro (show List.length _ ≤ _ by first | decide | simp) ?_))))
    obtain ⟨ts2, hts2, hn3, hg2⟩ := id t2.2.2
    refine ⟨recv_ref hts2, ?_⟩
    repeat' (first
    | ((with_reducible apply Ok_var); (exact rfl))
    | with_reducible refine Ok_cons ?_ | with_reducible refine Ok_nil ?_ | with_reducible refine Ok_asg ?_ | with_reducible refine Ok_ret ?_ | with_reducible refine Ok_sub ?_ | with_reducible refine Ok_ife ?_
    | with_reducible refine Ok_expr ?_ | with_reducible refine Go_nx ?_ | with_reducible refine Go_rt ?_ | with_reducible refine Ok_cst ?_ | with_reducible refine Ok_bin ?_ | with_reducible refine Ok_idx ?_
    | with_reducible refine Ok_cmp ?_ | with_reducible refine Ok_chn ?_ | with_reducible refine Ok_and ?_ | with_reducible refine Ok_or ?_ | with_reducible refine Ok_not ?_ | with_reducible refine Ok_blt ?_
    | with_reducible refine Ok_callE ?_ | with_reducible refine Ok_slc ?_ | with_reducible refine Ok_ifx ?_ | with_reducible refine Ok_neg ?_ | with_reducible refine Ok_esc ?_ | with_reducible refine Ok_esn ?_
    | with_reducible refine Ok_ono ?_ | with_reducible refine Ok_oye ?_ | with_reducible refine Ok_cno ?_ | with_reducible refine Ok_cye ?_ | with_reducible refine Ok_tup ?_ | with_reducible refine Ok_lst ?_
    | with_reducible refine Ok_toB ?_ | with_reducible refine Ok_isB ?_ | with_reducible refine Ok_lt ?_ | with_reducible refine Ok_le ?_ | with_reducible refine Ok_gt ?_ | with_reducible refine Ok_ge ?_
    | with_reducible refine Ok_add ?_ | with_reducible refine Ok_sb ?_ | with_reducible refine Ok_lenS ?_ | with_reducible refine Ok_lenT ?_ | with_reducible refine Ok_lenL ?_ | with_reducible refine Ok_min ?_
    | with_reducible refine Ok_max ?_ | with_reducible refine Ok_tuL ?_ | with_reducible refine Ok_liT ?_ | with_reducible refine Ok_isi ?_ | with_reducible refine Ok_allF ?_ | with_reducible refine Ok_allT ?_
    | with_reducible refine Ok_slT ?_ | with_reducible refine Ok_comp ?_ | with_reducible refine Ok_seq ?_ | with_reducible refine Ok_rev ?_ | with_reducible refine Ok_rvT ?_ | with_reducible refine Ok_rvL ?_
    | with_reducible refine Ok_isN ?_ | with_reducible refine Ok_isNN ?_ | with_reducible refine Ok_eqI ?_ | with_reducible refine Ok_neI ?_ | with_reducible refine Ok_par ?_ | with_reducible refine Ok_asgT ?_
    | with_reducible refine Ok_dct ?_ | with_reducible refine Ok_okI ?_ | with_reducible refine Ok_bnd ?_
    | ((with_reducible refine Ok_ift ?_ ?_); (exact rfl)) | ((with_reducible refine Ok_iff ?_ ?_); (exact rfl))
    | refine Exists.intro _ (And.intro rfl ?_) | refine Exists.intro _ (Exists.intro _ (And.intro rfl (And.intro (show List.length _ ≤ _ by first | decide | simp) ?_))))
    refine Ok_addT (by omega) ?_
    repeat' (first
    | ((with_reducible apply Ok_var); (exact rfl))
    | with_reducible refine Ok_cons ?_ | with_reducible refine Ok_nil ?_ | with_reducible refine Ok_asg ?_ | with_reducible refine Ok_ret ?_ | with_reducible refine Ok_sub ?_ | with_reducible refine Ok_ife ?_
    | with_reducible refine Ok_expr ?_ | with_reducible refine Go_nx ?_ | with_reducible refine Go_rt ?_ | with_reducible refine Ok_cst ?_ | with_reducible refine Ok_bin ?_ | with_reducible refine Ok_idx ?_
    | with_reducible refine Ok_cmp ?_ | with_reducible refine Ok_chn ?_ | with_reducible refine Ok_and ?_ | with_reducible refine Ok_or ?_ | with_reducible refine Ok_not ?_ | with_reducible refine Ok_blt ?_
    | with_reducible refine Ok_callE ?_ | with_reducible refine Ok_slc ?_ | with_reducible refine Ok_ifx ?_ | with_reducible refine Ok_neg ?_ | with_reducible refine Ok_esc ?_ | with_reducible refine Ok_esn ?_
    | with_reducible refine Ok_ono ?_ | with_reducible refine Ok_oye ?_ | with_reducible refine Ok_cno ?_ | with_reducible refine Ok_cye ?_ | with_reducible refine Ok_tup ?_ | with_reducible refine Ok_lst ?_
    | with_reducible refine Ok_toB ?_ | with_reducible refine Ok_isB ?_ | with_reducible refine Ok_lt ?_ | with_reducible refine Ok_le ?_ | with_reducible refine Ok_gt ?_ | with_reducible refine Ok_ge ?_
    | with_reducible refine Ok_add ?_ | with_reducible refine Ok_sb ?_ | with_reducible refine Ok_lenS ?_ | with_reducible refine Ok_lenT ?_ | with_reducible refine Ok_lenL ?_ | with_reducible refine Ok_min ?_
    | with_reducible refine Ok_max ?_ | with_reducible refine Ok_tuL ?_ | with_reducible refine Ok_liT ?_ | with_reducible refine Ok_isi ?_ | with_reducible refine Ok_allF ?_ | with_reducible refine Ok_allT ?_
    | with_reducible refine Ok_slT ?_ | with_reducible refine Ok_comp ?_ | with_reducible refine Ok_seq ?_ | with_reducible refine Ok_rev ?_ | with_reducible refine Ok_rvT ?_ | with_reducible refine Ok_rvL ?_
    | with_reducible refine Ok_isN ?_ | with_reducible refine Ok_isNN ?_ | with_reducible refine Ok_eqI ?_ | with_reducible refine Ok_neI ?_ | with_reducible refine Ok_par ?_ | with_reducible refine Ok_asgT ?_
    | with_reducible refine Ok_dct ?_ | with_reducible refine Ok_okI ?_ | with_reducible refine Ok_bnd ?_
    | ((with_reducible refine Ok_ift ?_ ?_); (exact rfl)) | ((with_reducible refine Ok_iff ?_ ?_); (exact rfl))
    | refine Exists.intro _ (And.intro rfl ?_) | refine Exists.intro _ (Exists.intro _ (And.intro rfl (And.intro (show List.length _ ≤ _ by first | decide | simp) ?_))))
    refine Ok_app hts2 (by omega) ?_
    have t3 := t2.app hts2 (gd_tup (xs := cut ps none (some i) ++ cut ps (some (i + 1)) none) (fun x hx => by
        rcases List.mem_append.1 hx with hx | hx
        · exact hel x (mem_cut hx)
        · exact hel x (mem_cut hx)) (by rw [List.length_append]; omega))
    repeat' (first
    | ((with_reducible apply Ok_var); (exact rfl))
    | with_reducible refine Ok_cons ?_ | with_reducible refine Ok_nil ?_ | with_reducible refine Ok_asg ?_ | with_reducible refine Ok_ret ?_ | with_reducible refine Ok_sub ?_ | with_reducible refine Ok_ife ?_
    | with_reducible refine Ok_expr ?_ | with_reducible refine Go_nx ?_ | with_reducible refine Go_rt ?_ | with_reducible refine Ok_cst ?_ | with_reducible refine Ok_bin ?_ | with_reducible refine Ok_idx ?_
    | with_reducible refine Ok_cmp ?_ | with_reducible refine Ok_chn ?_ | with_reducible refine Ok_and ?_ | with_reducible refine Ok_or ?_ | with_reducible refine Ok_not ?_ | with_reducible refine Ok_blt ?_
    | with_reducible refine Ok_callE ?_ | with_reducible refine Ok_slc ?_ | with_reducible refine Ok_ifx ?_ | with_reducible refine Ok_neg ?_ | with_reducible refine Ok_esc ?_ | with_reducible refine Ok_esn ?_
    | with_reducible refine Ok_ono ?_ | with_reducible refine Ok_oye ?_ | with_reducible refine Ok_cno ?_ | with_reducible refine Ok_cye ?_ | with_reducible refine Ok_tup ?_ | with_reducible refine Ok_lst ?_
    | with_reducible refine Ok_toB ?_ | with_reducible refine Ok_isB ?_ | with_reducible refine Ok_lt ?_ | with_reducible refine Ok_le ?_ | with_reducible refine Ok_gt ?_ | with_reducible refine Ok_ge ?_
    | with_reducible refine Ok_add ?_ | with_reducible refine Ok_sb ?_ | with_reducible refine Ok_lenS ?_ | with_reducible refine Ok_lenT ?_ | with_reducible refine Ok_lenL ?_ | with_reducible refine Ok_min ?_
    | with_reducible refine Ok_max ?_ | with_reducible refine Ok_tuL ?_ | with_reducible refine Ok_liT ?_ | with_reducible refine Ok_isi ?_ | with_reducible refine Ok_allF ?_ | with_reducible refine Ok_allT ?_
    | with_reducible refine Ok_slT ?_ | with_reducible refine Ok_comp ?_ | with_reducible refine Ok_seq ?_ | with_reducible refine Ok_rev ?_ | with_reducible refine Ok_rvT ?_ | with_reducible refine Ok_rvL ?_
    | with_reducible refine Ok_isN ?_ | with_reducible refine Ok_isNN ?_ | with_reducible refine Ok_eqI ?_ | with_reducible refine Ok_neI ?_ | with_reducible refine Ok_par ?_ | with_reducible refine Ok_asgT ?_
    | with_reducible refine Ok_dct ?_ | with_reducible refine Ok_okI ?_ | with_reducible refine Ok_bnd ?_
    | ((with_reducible refine Ok_ift ?_ ?_); (exact rfl)) | ((with_reducible refine Ok_iff ?_ ?_); (exact rfl))
    | refine Exists.intro _ (And.intro rfl ?_) | refine Exists.intro _ (Exists.intro _ (And.intro rfl (And.intro (show List.length _ ≤ _ by first | decide | simp) ?_))))
    exact ⟨_, _, _, _, rfl, t3.mono (by omega)⟩
  rintro ρ N ⟨j, x3, x4, x5, rfl, th⟩
  obtain ⟨ts, hts, hn2, hg⟩ := id th.2.2
  have hn3 : ts.length ≤ 8 + 42 * 9 := hn2
  repeat' (first
    | ((with_reducible apply Ok_var); (exact rfl))
    | with_reducible refine Ok_cons ?_ | with_reducible refine Ok_nil ?_ | with_reducible refine Ok_asg ?_ | with_reducible refine Ok_ret ?_ | with_reducible refine Ok_sub ?_ | with_reducible refine Ok_ife ?_
    | with_reducible refine Ok_expr ?_ | with_reducible refine Go_nx ?_ | with_reducible refine Go_rt ?_ | with_reducible refine Ok_cst ?_ | with_reducible refine Ok_bin ?_ | with_reducible refine Ok_idx ?_
    | with_reducible refine Ok_cmp ?_ | with_reducible refine Ok_chn ?_ | with_reducible refine Ok_and ?_ | with_reducible refine Ok_or ?_ | with_reducible refine Ok_not ?_ | with_reducible refine Ok_blt ?_
    | with_reducible refine Ok_callE ?_ | with_reducible refine Ok_slc ?_ | with_reducible refine Ok_ifx ?_ | with_reducible refine Ok_neg ?_ | with_reducible refine Ok_esc ?_ | with_reducible refine Ok_esn ?_
    | with_reducible refine Ok_ono ?_ | with_reducible refine Ok_oye ?_ | with_reducible refine Ok_cno ?_ | with_reducible refine Ok_cye ?_ | with_reducible refine Ok_tup ?_ | with_reducible refine Ok_lst ?_
    | with_reducible refine Ok_toB ?_ | with_reducible refine Ok_isB ?_ | with_reducible refine Ok_lt ?_ | with_reducible refine Ok_le ?_ | with_reducible refine Ok_gt ?_ | with_reducible refine Ok_ge ?_
    | with_reducible refine Ok_add ?_ | with_reducible refine Ok_sb ?_ | with_reducible refine Ok_lenS ?_ | with_reducible refine Ok_lenT ?_ | with_reducible refine Ok_lenL ?_ | with_reducible refine Ok_min ?_
    | with_reducible refine Ok_max ?_ | with_reducible refine Ok_tuL ?_ | with_reducible refine Ok_liT ?_ | with_reducible refine Ok_isi ?_ | with_reducible refine Ok_allF ?_ | with_reducible refine Ok_allT ?_
    | with_reducible refine Ok_slT ?_ | with_reducible refine Ok_comp ?_ | with_reducible refine Ok_seq ?_ | with_reducible refine Ok_rev ?_ | with_reducible refine Ok_rvT ?_ | with_reducible refine Ok_rvL ?_
    | with_reducible refine Ok_isN ?_ | with_reducible refine Ok_isNN ?_ | with_reducible refine Ok_eqI ?_ | with_reducible refine Ok_neI ?_ | with_reducible refine Ok_par ?_ | with_reducible refine Ok_asgT ?_
    | with_reducible refine Ok_dct ?_ | with_reducible refine Ok_okI ?_ | with_reducible refine Ok_bnd ?_
    | with_reducible refine Ok.eq (h16 _) ?_
    | ((with_reducible refine Ok_ift ?_ ?_); (exact rfl)) | ((with_reducible refine Ok_iff ?_ ?_); (exact rfl))
    | refine Exists.intro _ (And.intro rfl ?_) | refine Exists.intro _ (Exists.intro _ (And.intro rfl (And.intro (show List.length _ ≤ _ by first | decide | simp) ?_))))
  refine Ok_addR hts (by simp only [List.length_singleton]; omega) ?_
  repeat' (first
    | ((with_reducible apply Ok_var); (exact rfl))
    | with_reducible refine Ok_cons ?_ | with_reducible refine Ok_nil ?_ | with_reducible refine Ok_asg ?_ | with_reducible refine Ok_ret ?_ | with_reducible refine Ok_sub ?_ | with_reducible refine Ok_ife ?_
    | with_reducible refine Ok_expr ?_ | with_reducible refine Go_nx ?_ | with_reducible refine Go_rt ?_ | with_reducible refine Ok_cst ?_ | with_reducible refine Ok_bin ?_ | with_reducible refine Ok_idx ?_
    | with_reducible refine Ok_cmp ?_ | with_reducible refine Ok_chn ?_ | with_reducible refine Ok_and ?_ | with_reducible refine Ok_or ?_ | with_reducible refine Ok_not ?_ | with_reducible refine Ok_blt ?_
    | with_reducible refine Ok_callE ?_ | with_reducible refine Ok_slc ?_ | with_reducible refine Ok_ifx ?_ | with_reducible refine Ok_neg ?_ | with_reducible refine Ok_esc ?_ | with_reducible refine Ok_esn ?_
    | with_reducible refine Ok_ono ?_ | with_reducible refine Ok_oye ?_ | with_reducible refine Ok_cno ?_ | with_reducible refine Ok_cye ?_ | with_reducible refine Ok_tup ?_ | with_reducible refine Ok_lst ?_
    | with_reducible refine Ok_toB ?_ | with_reducible refine Ok_isB ?_ | with_reducible refine Ok_lt ?_ | with_reducible refine Ok_le ?_ | with_reducible refine Ok_gt ?_ | with_reducible refine Ok_ge ?_
    | with_reducible refine Ok_add ?_ | with_reducible refine Ok_sb ?_ | with_reducible refine Ok_lenS ?_ | with_reducible refine Ok_lenT ?_ | with_reducible refine Ok_lenL ?_ | with_reducible refine Ok_min ?_
    | with_reducible refine Ok_max ?_ | with_reducible refine Ok_tuL ?_ | with_reducible refine Ok_liT ?_ | with_reducible refine Ok_isi ?_ | with_reducible refine Ok_allF ?_ | with_reducible refine Ok_allT ?_
    | with_reducible refine Ok_slT ?_ | with_reducible refine Ok_comp ?_ | with_reducible refine Ok_seq ?_ | with_reducible refine Ok_rev ?_ | with_reducible refine Ok_rvT ?_ | with_reducible refine Ok_rvL ?_
    | with_reducible refine Ok_isN ?_ | with_reducible refine Ok_isNN ?_ | with_reducible refine Ok_eqI ?_ | with_reducible refine Ok_neI ?_ | with_reducible refine Ok_par ?_ | with_reducible refine Ok_asgT ?_
    | with_reducible refine Ok_dct ?_ | with_reducible refine Ok_okI ?_ | with_reducible refine Ok_bnd ?_
    | ((with_reducible refine Ok_ift ?_ ?_); (exact rfl)) | ((with_reducible refine Ok_iff ?_ ?_); (exact rfl))
    | refine Exists.intro _ (And.intro rfl ?_) | refine Exists.intro _ (Exists.intro _ (And.intro rfl (And.intro (show List.length _ ≤ _ by first | decide | simp) ?_))))
  refine comp_not (fun _ => true) ?_ (by simp only [List.length_append, List.length_singleton]; omega) ?_
  · intro y hy
    refine ⟨_, rfl, ?_⟩
    repeat' (first
    | ((with_reducible apply Ok_var); (exact rfl))
    | with_reducible refine Ok_cons ?_ | with_reducible refine Ok_nil ?_ | with_reducible refine Ok_asg ?_ | with_reducible refine Ok_ret ?_ | with_reducible refine Ok_sub ?_ | with_reducible refine Ok_ife ?_
    | with_reducible refine Ok_expr ?_ | with_reducible refine Go_nx ?_ | with_reducible refine Go_rt ?_ | with_reducible refine Ok_cst ?_ | with_reducible refine Ok_bin ?_ | with_reducible refine Ok_idx ?_
    | with_reducible refine Ok_cmp ?_ | with_reducible refine Ok_chn ?_ | with_reducible refine Ok_and ?_ | with_reducible refine Ok_or ?_ | with_reducible refine Ok_not ?_ | with_reducible refine Ok_blt ?_
    | with_reducible refine Ok_callE ?_ | with_reducible refine Ok_slc ?_ | with_reducible refine Ok_ifx ?_ | with_reducible refine Ok_neg ?_ | with_reducible refine Ok_esc ?_ | with_reducible refine Ok_esn ?_
    | with_reducible refine Ok_ono ?_ | with_reducible refine Ok_oye ?_ | with_reducible refine Ok_cno ?_ | with_reducible refine Ok_cye ?_ | with_reducible refine Ok_tup ?_ | with_reducible refine Ok_lst ?_
    | with_reducible refine Ok_toB ?_ | with_reducible refine Ok_isB ?_ | with_reducible refine Ok_lt ?_ | with_reducible refine Ok_le ?_ | with_reducible refine Ok_gt ?_ | with_reducible refine Ok_ge ?_
    | with_reducible refine Ok_add ?_ | with_reducible refine Ok_sb ?_ | with_reducible refine Ok_lenS ?_ | with_reducible refine Ok_lenT ?_ | with_reducible refine Ok_lenL ?_ | with_reducible refine Ok_min ?_
    | with_reducible refine Ok_max ?_ | with_reducible refine Ok_tuL ?_ | with_reducible refine Ok_liT ?_ | with_reducible refine Ok_isi ?_ | with_reducible refine Ok_allF ?_ | with_reducible refine Ok_allT ?_
    | with_reducible refine Ok_slT ?_ | with_reducible refine Ok_comp ?_ | with_reducible refine Ok_seq ?_ | with_reducible refine Ok_rev ?_ | with_reducible refine Ok_rvT ?_ | with_reducible refine Ok_rvL ?_
    | with_reducible refine Ok_isN ?_ | with_reducible refine Ok_isNN ?_ | with_reducible refine Ok_eqI ?_ | with_reducible refine Ok_neI ?_ | with_reducible refine Ok_par ?_ | with_reducible refine Ok_asgT ?_
    | with_reducible refine Ok_dct ?_ | with_reducible refine Ok_okI ?_ | with_reducible refine Ok_bnd ?_
    | ((with_reducible refine Ok_ift ?_ ?_); (exact rfl)) | ((with_reducible refine Ok_iff ?_ ?_); (exact rfl))
    | refine Exists.intro _ (And.intro rfl ?_) | refine Exists.intro _ (Exists.intro _ (And.intro rfl (And.intro (show List.length _ ≤ _ by first | decide | simp) ?_))))
    refine Ok.eq (h11 _ y ?_) ⟨rfl, rfl⟩
    rcases List.mem_append.1 hy with hy | hy
    · exact hg y hy
    · rw [List.mem_singleton.1 hy]; exact hgf
  repeat' (first
    | ((with_reducible apply Ok_var); (exact rfl))
    | with_reducible refine Ok_cons ?_ | with_reducible refine Ok_nil ?_ | with_reducible refine Ok_asg ?_ | with_reducible refine Ok_ret ?_ | with_reducible refine Ok_sub ?_ | with_reducible refine Ok_ife ?_
    | with_reducible refine Ok_expr ?_ | with_reducible refine Go_nx ?_ | with_reducible refine Go_rt ?_ | with_reducible refine Ok_cst ?_ | with_reducible refine Ok_bin ?_ | with_reducible refine Ok_idx ?_
    | with_reducible refine Ok_cmp ?_ | with_reducible refine Ok_chn ?_ | with_reducible refine Ok_and ?_ | with_reducible refine Ok_or ?_ | with_reducible refine Ok_not ?_ | with_reducible refine Ok_blt ?_
    | with_reducible refine Ok_callE ?_ | with_reducible refine Ok_slc ?_ | with_reducible refine Ok_ifx ?_ | with_reducible refine Ok_neg ?_ | with_reducible refine Ok_esc ?_ | with_reducible refine Ok_esn ?_
    | with_reducible refine Ok_ono ?_ | with_reducible refine Ok_oye ?_ | with_reducible refine Ok_cno ?_ | with_reducible refine Ok_cye ?_ | with_reducible refine Ok_tup ?_ | with_reducible refine Ok_lst ?_
    | with_reducible refine Ok_toB ?_ | with_reducible refine Ok_isB ?_ | with_reducible refine Ok_lt ?_ | with_reducible refine Ok_le ?_ | with_reducible refine Ok_gt ?_ | with_reducible refine Ok_ge ?_
    | with_reducible refine Ok_add ?_ | with_reducible refine Ok_sb ?_ | with_reducible refine Ok_lenS ?_ | with_reducible refine Ok_lenT ?_ | with_reducible refine Ok_lenL ?_ | with_reducible refine Ok_min ?_
    | with_reducible refine Ok_max ?_ | with_reducible refine Ok_tuL ?_ | with_reducible refine Ok_liT ?_ | with_reducible refine Ok_isi ?_ | with_reducible refine Ok_allF ?_ | with_reducible refine Ok_allT ?_
    | with_reducible refine Ok_slT ?_ | with_reducible refine Ok_comp ?_ | with_reducible refine Ok_seq ?_ | with_reducible refine Ok_rev ?_ | with_reducible refine Ok_rvT ?_ | with_reducible refine Ok_rvL ?_
    | with_reducible refine Ok_isN ?_ | with_reducible refine Ok_isNN ?_ | with_reducible refine Ok_eqI ?_ | with_reducible refine Ok_neI ?_ | with_reducible refine Ok_par ?_ | with_reducible refine Ok_asgT ?_
    | with_reducible refine Ok_dct ?_ | with_reducible refine Ok_okI ?_ | with_reducible refine Ok_bnd ?_
    | ((with_reducible refine Ok_ift ?_ ?_); (exact rfl)) | ((with_reducible refine Ok_iff ?_ ?_); (exact rfl))
    | refine Exists.intro _ (And.intro rfl ?_) | refine Exists.intro _ (Exists.intro _ (And.intro rfl (And.intro (show List.length _ ≤ _ by first | decide | simp) ?_))))
  refine Ok_eqO ?_
  repeat' (first
    | ((with_reducible apply Ok_var); (exact rfl))
    | with_reducible refine Ok_cons ?_ | with_reducible refine Ok_nil ?_ | with_reducible refine Ok_asg ?_ | with_reducible refine Ok_ret ?_ | with_reducible refine Ok_sub ?_ | with_reducible refine Ok_ife ?_
    | with_reducible refine Ok_expr ?_ | with_reducible refine Go_nx ?_ | with_reducible refine Go_rt ?_ | with_reducible refine Ok_cst ?_ | with_reducible refine Ok_bin ?_ | with_reducible refine Ok_idx ?_
    | with_reducible refine Ok_cmp ?_ | with_reducible refine Ok_chn ?_ | with_reducible refine Ok_and ?_ | with_reducible refine Ok_or ?_ | with_reducible refine Ok_not ?_ | with_reducible refine Ok_blt ?_
    | with_reducible refine Ok_callE ?_ | with_reducible refine Ok_slc ?_ | with_reducible refine Ok_ifx ?_ | with_reducible refine Ok_neg ?_ | with_reducible refine Ok_esc ?_ | with_reducible refine Ok_esn ?_
    | with_reducible refine Ok_ono ?_ | with_reducible refine Ok_oye ?_ | with_reducible refine Ok_cno ?_ | with_reducible refine Ok_cye ?_ | with_reducible refine Ok_tup ?_ | with_reducible refine Ok_lst ?_
    | with_reducible refine Ok_toB ?_ | with_reducible refine Ok_isB ?_ | with_reducible refine Ok_lt ?_ | with_reducible refine Ok_le ?_ | with_reducible refine Ok_gt ?_ | with_reducible refine Ok_ge ?_
    | with_reducible refine Ok_add ?_ | with_reducible refine Ok_sb ?_ | with_reducible refine Ok_lenS ?_ | with_reducible refine Ok_lenT ?_ | with_reducible refine Ok_lenL ?_ | with_reducible refine Ok_min ?_
    | with_reducible refine Ok_max ?_ | with_reducible refine Ok_tuL ?_ | with_reducible refine Ok_liT ?_ | with_reducible refine Ok_isi ?_ | with_reducible refine Ok_allF ?_ | with_reducible refine Ok_allT ?_
    | with_reducible refine Ok_slT ?_ | with_reducible refine Ok_comp ?_ | with_reducible refine Ok_seq ?_ | with_reducible refine Ok_rev ?_ | with_reducible refine Ok_rvT ?_ | with_reducible refine Ok_rvL ?_
    | with_reducible refine Ok_isN ?_ | with_reducible refine Ok_isNN ?_ | with_reducible refine Ok_eqI ?_ | with_reducible refine Ok_neI ?_ | with_reducible refine Ok_par ?_ | with_reducible refine Ok_asgT ?_
    | with_reducible refine Ok_dct ?_ | with_reducible refine Ok_okI ?_ | with_reducible refine Ok_bnd ?_
    | ((with_reducible refine Ok_ift ?_ ?_); (exact rfl)) | ((with_reducible refine Ok_iff ?_ ?_); (exact rfl))
    | refine Exists.intro _ (And.intro rfl ?_) | refine Exists.intro _ (Exists.intro _ (And.intro rfl (And.intro (show List.length _ ≤ _ by first | decide | simp) ?_))))
  refine fin_t ⟨?_, th.2.1⟩
  rw [List.all_eq_true.2 fun _ _ => rfl]
theorem law_ok (ns : List Int) (M : Mem) : Ok (run Tb fuel (k + 6) 12 [.scr ns] M) (fun d N => d = .p (.bool true)) := by
  refine Ok_call (show Tb 12 = some _ from rfl) rfl ?_
  simp only [b12, enter, List.map_cons, List.map_nil, List.replicate, List.cons_append, List.nil_append, Nat.sub_self, List.append_nil]
  have h10 : ∀ M, run Tb fuel (k + 5) 10 [] M = .ok (.p (.list odds)) M := fun M => odds_ok (k := k + 4) rfl
  have h11 : ∀ M x, Gd x → run Tb fuel (k + 5) 11 [.p x] M = .ok (.p (.bool true)) M := fun M x h => right_ok (k := k + 1) h
  have h18 : ∀ M d (s : Stg), s.Ok → run Tb fuel (k + 5) 18 [d, .p s.d] M = .ok (.p (.bool true)) M := fun M d s h => all_ok h
  have h3 : ∀ M ns (j : Int), 0 ≤ j → Ok (run Tb fuel (k + 5) 3 [.scr ns, .p (.int j)] M) (fun d N => ∃ r : Int, d = .p (.int r) ∧ N = M) := fun M ns j h => cell_ok (k := k + 4) rfl h
  have h4 : ∀ M (j : Int), Ok (run Tb fuel (k + 5) 4 [.p (.int j)] M) (fun d N => d = .ref M.length ∧ ∃ x, N = M ++ [x] ∧ PenS N M.length 0 N) := fun M j => pen_ok (k := k + 4) rfl
  have h15 : ∀ {M0 M : Mem} {i t : Nat}, PenS M0 i t M → t + 20 < 2 ^ 60 → Ok (run Tb fuel (k + 5) 15 [.ref i] M) (fun d N => ∃ s : Stg, s.Ok ∧ d = .p s.d ∧ PenS M0 i (t + 11) N) := fun h h1 => stg_ok (k := k + 2) rfl rfl rfl h h1
  generalize run Tb fuel (k + 5) = fn at *
  repeat' (first
    | ((with_reducible apply Ok_var); (exact rfl))
    | with_reducible refine Ok_cons ?_ | with_reducible refine Ok_nil ?_ | with_reducible refine Ok_asg ?_ | with_reducible refine Ok_ret ?_ | with_reducible refine Ok_sub ?_ | with_reducible refine Ok_ife ?_
    | with_reducible refine Ok_expr ?_ | with_reducible refine Go_nx ?_ | with_reducible refine Go_rt ?_ | with_reducible refine Ok_cst ?_ | with_reducible refine Ok_bin ?_ | with_reducible refine Ok_idx ?_
    | with_reducible refine Ok_cmp ?_ | with_reducible refine Ok_chn ?_ | with_reducible refine Ok_and ?_ | with_reducible refine Ok_or ?_ | with_reducible refine Ok_not ?_ | with_reducible refine Ok_blt ?_
    | with_reducible refine Ok_callE ?_ | with_reducible refine Ok_slc ?_ | with_reducible refine Ok_ifx ?_ | with_reducible refine Ok_neg ?_ | with_reducible refine Ok_esc ?_ | with_reducible refine Ok_esn ?_
    | with_reducible refine Ok_ono ?_ | with_reducible refine Ok_oye ?_ | with_reducible refine Ok_cno ?_ | with_reducible refine Ok_cye ?_ | with_reducible refine Ok_tup ?_ | with_reducible refine Ok_lst ?_
    | with_reducible refine Ok_toB ?_ | with_reducible refine Ok_isB ?_ | with_reducible refine Ok_lt ?_ | with_reducible refine Ok_le ?_ | with_reducible refine Ok_gt ?_ | with_reducible refine Ok_ge ?_
    | with_reducible refine Ok_add ?_ | with_reducible refine Ok_sb ?_ | with_reducible refine Ok_lenS ?_ | with_reducible refine Ok_lenT ?_ | with_reducible refine Ok_lenL ?_ | with_reducible refine Ok_min ?_
    | with_reducible refine Ok_max ?_ | with_reducible refine Ok_tuL ?_ | with_reducible refine Ok_liT ?_ | with_reducible refine Ok_isi ?_ | with_reducible refine Ok_allF ?_ | with_reducible refine Ok_allT ?_
    | with_reducible refine Ok_slT ?_ | with_reducible refine Ok_comp ?_ | with_reducible refine Ok_seq ?_ | with_reducible refine Ok_rev ?_ | with_reducible refine Ok_rvT ?_ | with_reducible refine Ok_rvL ?_
    | with_reducible refine Ok_isN ?_ | with_reducible refine Ok_isNN ?_ | with_reducible refine Ok_eqI ?_ | with_reducible refine Ok_neI ?_ | with_reducible refine Ok_par ?_ | with_reducible refine Ok_asgT ?_
    | with_reducible refine Ok_dct ?_ | with_reducible refine Ok_okI ?_ | with_reducible refine Ok_bnd ?_
    | with_reducible refine Ok.eq (h10 _) ?_
    | ((with_reducible refine Ok_ift ?_ ?_); (exact rfl)) | ((with_reducible refine Ok_iff ?_ ?_); (exact rfl))
    | refine Exists.intro _ (And.intro rfl ?_) | refine Exists.intro _ (Exists.intro _ (And.intro rfl (And.intro (show List.length _ ≤ _ by first | decide | simp) ?_))))
  refine comp_not (fun _ => true) ?_ (by decide) ?_
  · intro y hy
    refine ⟨_, rfl, ?_⟩
    repeat' (first
    | ((with_reducible apply Ok_var); (exact rfl))
    | with_reducible refine Ok_cons ?_ | with_reducible refine Ok_nil ?_ | with_reducible refine Ok_asg ?_ | with_reducible refine Ok_ret ?_ | with_reducible refine Ok_sub ?_ | with_reducible refine Ok_ife ?_
    | with_reducible refine Ok_expr ?_ | with_reducible refine Go_nx ?_ | with_reducible refine Go_rt ?_ | with_reducible refine Ok_cst ?_ | with_reducible refine Ok_bin ?_ | with_reducible refine Ok_idx ?_
    | with_reducible refine Ok_cmp ?_ | with_reducible refine Ok_chn ?_ | with_reducible refine Ok_and ?_ | with_reducible refine Ok_or ?_ | with_reducible refine Ok_not ?_ | with_reducible refine Ok_blt ?_
    | with_reducible refine Ok_callE ?_ | with_reducible refine Ok_slc ?_ | with_reducible refine Ok_ifx ?_ | with_reducible refine Ok_neg ?_ | with_reducible refine Ok_esc ?_ | with_reducible refine Ok_esn ?_
    | with_reducible refine Ok_ono ?_ | with_reducible refine Ok_oye ?_ | with_reducible refine Ok_cno ?_ | with_reducible refine Ok_cye ?_ | with_reducible refine Ok_tup ?_ | with_reducible refine Ok_lst ?_
    | with_reducible refine Ok_toB ?_ | with_reducible refine Ok_isB ?_ | with_reducible refine Ok_lt ?_ | with_reducible refine Ok_le ?_ | with_reducible refine Ok_gt ?_ | with_reducible refine Ok_ge ?_
    | with_reducible refine Ok_add ?_ | with_reducible refine Ok_sb ?_ | with_reducible refine Ok_lenS ?_ | with_reducible refine Ok_lenT ?_ | with_reducible refine Ok_lenL ?_ | with_reducible refine Ok_min ?_
    | with_reducible refine Ok_max ?_ | with_reducible refine Ok_tuL ?_ | with_reducible refine Ok_liT ?_ | with_reducible refine Ok_isi ?_ | with_reducible refine Ok_allF ?_ | with_reducible refine Ok_allT ?_
    | with_reducible refine Ok_slT ?_ | with_reducible refine Ok_comp ?_ | with_reducible refine Ok_seq ?_ | with_reducible refine Ok_rev ?_ | with_reducible refine Ok_rvT ?_ | with_reducible refine Ok_rvL ?_
    | with_reducible refine Ok_isN ?_ | with_reducible refine Ok_isNN ?_ | with_reducible refine Ok_eqI ?_ | with_reducible refine Ok_neI ?_ | with_reducible refine Ok_par ?_ | with_reducible refine Ok_asgT ?_
    | with_reducible refine Ok_dct ?_ | with_reducible refine Ok_okI ?_ | with_reducible refine Ok_bnd ?_
    | ((with_reducible refine Ok_ift ?_ ?_); (exact rfl)) | ((with_reducible refine Ok_iff ?_ ?_); (exact rfl))
    | refine Exists.intro _ (And.intro rfl ?_) | refine Exists.intro _ (Exists.intro _ (And.intro rfl (And.intro (show List.length _ ≤ _ by first | decide | simp) ?_))))
    exact Ok.eq (h11 _ y (gd_small (List.all_eq_true.1 odds_small y hy))) ⟨rfl, rfl⟩
  repeat' (first
    | ((with_reducible apply Ok_var); (exact rfl))
    | with_reducible refine Ok_cons ?_ | with_reducible refine Ok_nil ?_ | with_reducible refine Ok_asg ?_ | with_reducible refine Ok_ret ?_ | with_reducible refine Ok_sub ?_ | with_reducible refine Ok_ife ?_
    | with_reducible refine Ok_expr ?_ | with_reducible refine Go_nx ?_ | with_reducible refine Go_rt ?_ | with_reducible refine Ok_cst ?_ | with_reducible refine Ok_bin ?_ | with_reducible refine Ok_idx ?_
    | with_reducible refine Ok_cmp ?_ | with_reducible refine Ok_chn ?_ | with_reducible refine Ok_and ?_ | with_reducible refine Ok_or ?_ | with_reducible refine Ok_not ?_ | with_reducible refine Ok_blt ?_
    | with_reducible refine Ok_callE ?_ | with_reducible refine Ok_slc ?_ | with_reducible refine Ok_ifx ?_ | with_reducible refine Ok_neg ?_ | with_reducible refine Ok_esc ?_ | with_reducible refine Ok_esn ?_
    | with_reducible refine Ok_ono ?_ | with_reducible refine Ok_oye ?_ | with_reducible refine Ok_cno ?_ | with_reducible refine Ok_cye ?_ | with_reducible refine Ok_tup ?_ | with_reducible refine Ok_lst ?_
    | with_reducible refine Ok_toB ?_ | with_reducible refine Ok_isB ?_ | with_reducible refine Ok_lt ?_ | with_reducible refine Ok_le ?_ | with_reducible refine Ok_gt ?_ | with_reducible refine Ok_ge ?_
    | with_reducible refine Ok_add ?_ | with_reducible refine Ok_sb ?_ | with_reducible refine Ok_lenS ?_ | with_reducible refine Ok_lenT ?_ | with_reducible refine Ok_lenL ?_ | with_reducible refine Ok_min ?_
    | with_reducible refine Ok_max ?_ | with_reducible refine Ok_tuL ?_ | with_reducible refine Ok_liT ?_ | with_reducible refine Ok_isi ?_ | with_reducible refine Ok_allF ?_ | with_reducible refine Ok_allT ?_
    | with_reducible refine Ok_slT ?_ | with_reducible refine Ok_comp ?_ | with_reducible refine Ok_seq ?_ | with_reducible refine Ok_rev ?_ | with_reducible refine Ok_rvT ?_ | with_reducible refine Ok_rvL ?_
    | with_reducible refine Ok_isN ?_ | with_reducible refine Ok_isNN ?_ | with_reducible refine Ok_eqI ?_ | with_reducible refine Ok_neI ?_ | with_reducible refine Ok_par ?_ | with_reducible refine Ok_asgT ?_
    | with_reducible refine Ok_dct ?_ | with_reducible refine Ok_okI ?_ | with_reducible refine Ok_bnd ?_
    | ((with_reducible refine Ok_ift ?_ ?_); (exact rfl)) | ((with_reducible refine Ok_iff ?_ ?_); (exact rfl))
    | refine Exists.intro _ (And.intro rfl ?_) | refine Exists.intro _ (Exists.intro _ (And.intro rfl (And.intro (show List.length _ ≤ _ by first | decide | simp) ?_))))
  refine Ok_neO ?_
  rw [List.all_eq_true.2 fun _ _ => rfl]
  repeat' (first
    | ((with_reducible apply Ok_var); (exact rfl))
    | with_reducible refine Ok_cons ?_ | with_reducible refine Ok_nil ?_ | with_reducible refine Ok_asg ?_ | with_reducible refine Ok_ret ?_ | with_reducible refine Ok_sub ?_ | with_reducible refine Ok_ife ?_
    | with_reducible refine Ok_expr ?_ | with_reducible refine Go_nx ?_ | with_reducible refine Go_rt ?_ | with_reducible refine Ok_cst ?_ | with_reducible refine Ok_bin ?_ | with_reducible refine Ok_idx ?_
    | with_reducible refine Ok_cmp ?_ | with_reducible refine Ok_chn ?_ | with_reducible refine Ok_and ?_ | with_reducible refine Ok_or ?_ | with_reducible refine Ok_not ?_ | with_reducible refine Ok_blt ?_
    | with_reducible refine Ok_callE ?_ | with_reducible refine Ok_slc ?_ | with_reducible refine Ok_ifx ?_ | with_reducible refine Ok_neg ?_ | with_reducible refine Ok_esc ?_ | with_reducible refine Ok_esn ?_
    | with_reducible refine Ok_ono ?_ | with_reducible refine Ok_oye ?_ | with_reducible refine Ok_cno ?_ | with_reducible refine Ok_cye ?_ | with_reducible refine Ok_tup ?_ | with_reducible refine Ok_lst ?_
    | with_reducible refine Ok_toB ?_ | with_reducible refine Ok_isB ?_ | with_reducible refine Ok_lt ?_ | with_reducible refine Ok_le ?_ | with_reducible refine Ok_gt ?_ | with_reducible refine Ok_ge ?_
    | with_reducible refine Ok_add ?_ | with_reducible refine Ok_sb ?_ | with_reducible refine Ok_lenS ?_ | with_reducible refine Ok_lenT ?_ | with_reducible refine Ok_lenL ?_ | with_reducible refine Ok_min ?_
    | with_reducible refine Ok_max ?_ | with_reducible refine Ok_tuL ?_ | with_reducible refine Ok_liT ?_ | with_reducible refine Ok_isi ?_ | with_reducible refine Ok_allF ?_ | with_reducible refine Ok_allT ?_
    | with_reducible refine Ok_slT ?_ | with_reducible refine Ok_comp ?_ | with_reducible refine Ok_seq ?_ | with_reducible refine Ok_rev ?_ | with_reducible refine Ok_rvT ?_ | with_reducible refine Ok_rvL ?_
    | with_reducible refine Ok_isN ?_ | with_reducible refine Ok_isNN ?_ | with_reducible refine Ok_eqI ?_ | with_reducible refine Ok_neI ?_ | with_reducible refine Ok_par ?_ | with_reducible refine Ok_asgT ?_
    | with_reducible refine Ok_dct ?_ | with_reducible refine Ok_okI ?_ | with_reducible refine Ok_bnd ?_
    | ((with_reducible refine Ok_ift ?_ ?_); (exact rfl)) | ((with_reducible refine Ok_iff ?_ ?_); (exact rfl))
    | refine Exists.intro _ (And.intro rfl ?_) | refine Exists.intro _ (Exists.intro _ (And.intro rfl (And.intro (show List.length _ ≤ _ by first | decide | simp) ?_))))
  refine Ok_loop (fun n ρ N => ∃ x1 x2 x3 x4, ρ = [some (.scr ns), x1, x2, x3, x4]) ?_
  refine Ok_rng ?_
  repeat' (first
    | ((with_reducible apply Ok_var); (exact rfl))
    | with_reducible refine Ok_cons ?_ | with_reducible refine Ok_nil ?_ | with_reducible refine Ok_asg ?_ | with_reducible refine Ok_ret ?_ | with_reducible refine Ok_sub ?_ | with_reducible refine Ok_ife ?_
    | with_reducible refine Ok_expr ?_ | with_reducible refine Go_nx ?_ | with_reducible refine Go_rt ?_ | with_reducible refine Ok_cst ?_ | with_reducible refine Ok_bin ?_ | with_reducible refine Ok_idx ?_
    | with_reducible refine Ok_cmp ?_ | with_reducible refine Ok_chn ?_ | with_reducible refine Ok_and ?_ | with_reducible refine Ok_or ?_ | with_reducible refine Ok_not ?_ | with_reducible refine Ok_blt ?_
    | with_reducible refine Ok_callE ?_ | with_reducible refine Ok_slc ?_ | with_reducible refine Ok_ifx ?_ | with_reducible refine Ok_neg ?_ | with_reducible refine Ok_esc ?_ | with_reducible refine Ok_esn ?_
    | with_reducible refine Ok_ono ?_ | with_reducible refine Ok_oye ?_ | with_reducible refine Ok_cno ?_ | with_reducible refine Ok_cye ?_ | with_reducible refine Ok_tup ?_ | with_reducible refine Ok_lst ?_
    | with_reducible refine Ok_toB ?_ | with_reducible refine Ok_isB ?_ | with_reducible refine Ok_lt ?_ | with_reducible refine Ok_le ?_ | with_reducible refine Ok_gt ?_ | with_reducible refine Ok_ge ?_
    | with_reducible refine Ok_add ?_ | with_reducible refine Ok_sb ?_ | with_reducible refine Ok_lenS ?_ | with_reducible refine Ok_lenT ?_ | with_reducible refine Ok_lenL ?_ | with_reducible refine Ok_min ?_
    | with_reducible refine Ok_max ?_ | with_reducible refine Ok_tuL ?_ | with_reducible refine Ok_liT ?_ | with_reducible refine Ok_isi ?_ | with_reducible refine Ok_allF ?_ | with_reducible refine Ok_allT ?_
    | with_reducible refine Ok_slT ?_ | with_reducible refine Ok_comp ?_ | with_reducible refine Ok_seq ?_ | with_reducible refine Ok_rev ?_ | with_reducible refine Ok_rvT ?_ | with_reducible refine Ok_rvL ?_
    | with_reducible refine Ok_isN ?_ | with_reducible refine Ok_isNN ?_ | with_reducible refine Ok_eqI ?_ | with_reducible refine Ok_neI ?_ | with_reducible refine Ok_par ?_ | with_reducible refine Ok_asgT ?_
    | with_reducible refine Ok_dct ?_ | with_reducible refine Ok_okI ?_ | with_reducible refine Ok_bnd ?_
    | ((with_reducible refine Ok_ift ?_ ?_); (exact rfl)) | ((with_reducible refine Ok_iff ?_ ?_); (exact rfl))
    | refine Exists.intro _ (And.intro rfl ?_) | refine Exists.intro _ (Exists.intro _ (And.intro rfl (And.intro (show List.length _ ≤ _ by first | decide | simp) ?_))))
  refine ⟨by simp only [rngOk, Bool.and_eq_true, decide_eq_true_eq]; repeat' split <;> omega, ?_⟩
  repeat' (first
    | ((with_reducible apply Ok_var); (exact rfl))
    | with_reducible refine Ok_cons ?_ | with_reducible refine Ok_nil ?_ | with_reducible refine Ok_asg ?_ | with_reducible refine Ok_ret ?_ | with_reducible refine Ok_sub ?_ | with_reducible refine Ok_ife ?_
    | with_reducible refine Ok_expr ?_ | with_reducible refine Go_nx ?_ | with_reducible refine Go_rt ?_ | with_reducible refine Ok_cst ?_ | with_reducible refine Ok_bin ?_ | with_reducible refine Ok_idx ?_
    | with_reducible refine Ok_cmp ?_ | with_reducible refine Ok_chn ?_ | with_reducible refine Ok_and ?_ | with_reducible refine Ok_or ?_ | with_reducible refine Ok_not ?_ | with_reducible refine Ok_blt ?_
    | with_reducible refine Ok_callE ?_ | with_reducible refine Ok_slc ?_ | with_reducible refine Ok_ifx ?_ | with_reducible refine Ok_neg ?_ | with_reducible refine Ok_esc ?_ | with_reducible refine Ok_esn ?_
    | with_reducible refine Ok_ono ?_ | with_reducible refine Ok_oye ?_ | with_reducible refine Ok_cno ?_ | with_reducible refine Ok_cye ?_ | with_reducible refine Ok_tup ?_ | with_reducible refine Ok_lst ?_
    | with_reducible refine Ok_toB ?_ | with_reducible refine Ok_isB ?_ | with_reducible refine Ok_lt ?_ | with_reducible refine Ok_le ?_ | with_reducible refine Ok_gt ?_ | with_reducible refine Ok_ge ?_
    | with_reducible refine Ok_add ?_ | with_reducible refine Ok_sb ?_ | with_reducible refine Ok_lenS ?_ | with_reducible refine Ok_lenT ?_ | with_reducible refine Ok_lenL ?_ | with_reducible refine Ok_min ?_
    | with_reducible refine Ok_max ?_ | with_reducible refine Ok_tuL ?_ | with_reducible refine Ok_liT ?_ | with_reducible refine Ok_isi ?_ | with_reducible refine Ok_allF ?_ | with_reducible refine Ok_allT ?_
    | with_reducible refine Ok_slT ?_ | with_reducible refine Ok_comp ?_ | with_reducible refine Ok_seq ?_ | with_reducible refine Ok_rev ?_ | with_reducible refine Ok_rvT ?_ | with_reducible refine Ok_rvL ?_
    | with_reducible refine Ok_isN ?_ | with_reducible refine Ok_isNN ?_ | with_reducible refine Ok_eqI ?_ | with_reducible refine Ok_neI ?_ | with_reducible refine Ok_par ?_ | with_reducible refine Ok_asgT ?_
    | with_reducible refine Ok_dct ?_ | with_reducible refine Ok_okI ?_ | with_reducible refine Ok_bnd ?_
    | ((with_reducible refine Ok_ift ?_ ?_); (exact rfl)) | ((with_reducible refine Ok_iff ?_ ?_); (exact rfl))
    | refine Exists.intro _ (And.intro rfl ?_) | refine Exists.intro _ (Exists.intro _ (And.intro rfl (And.intro (show List.length _ ≤ _ by first | decide | simp) ?_))))
  refine ⟨⟨_, _, _, _, rfl⟩, ?_, ?_⟩
  · rintro x hx n ρ N hn ⟨x1, x2, x3, x4, rfl⟩
    obtain ⟨i, rfl, hi⟩ := rng_item hx
    refine ⟨_, rfl, ?_⟩
    repeat' (first
    | ((with_reducible apply Ok_var); (exact rfl))
    | with_reducible refine Ok_cons ?_ | with_reducible refine Ok_nil ?_ | with_reducible refine Ok_asg ?_ | with_reducible refine Ok_ret ?_ | with_reducible refine Ok_sub ?_ | with_reducible refine Ok_ife ?_
    | with_reducible refine Ok_expr ?_ | with_reducible refine Go_nx ?_ | with_reducible refine Go_rt ?_ | with_reducible refine Ok_cst ?_ | with_reducible refine Ok_bin ?_ | with_reducible refine Ok_idx ?_
    | with_reducible refine Ok_cmp ?_ | with_reducible refine Ok_chn ?_ | with_reducible refine Ok_and ?_ | with_reducible refine Ok_or ?_ | with_reducible refine Ok_not ?_ | with_reducible refine Ok_blt ?_
    | with_reducible refine Ok_callE ?_ | with_reducible refine Ok_slc ?_ | with_reducible refine Ok_ifx ?_ | with_reducible refine Ok_neg ?_ | with_reducible refine Ok_esc ?_ | with_reducible refine Ok_esn ?_
    | with_reducible refine Ok_ono ?_ | with_reducible refine Ok_oye ?_ | with_reducible refine Ok_cno ?_ | with_reducible refine Ok_cye ?_ | with_reducible refine Ok_tup ?_ | with_reducible refine Ok_lst ?_
    | with_reducible refine Ok_toB ?_ | with_reducible refine Ok_isB ?_ | with_reducible refine Ok_lt ?_ | with_reducible refine Ok_le ?_ | with_reducible refine Ok_gt ?_ | with_reducible refine Ok_ge ?_
    | with_reducible refine Ok_add ?_ | with_reducible refine Ok_sb ?_ | with_reducible refine Ok_lenS ?_ | with_reducible refine Ok_lenT ?_ | with_reducible refine Ok_lenL ?_ | with_reducible refine Ok_min ?_
    | with_reducible refine Ok_max ?_ | with_reducible refine Ok_tuL ?_ | with_reducible refine Ok_liT ?_ | with_reducible refine Ok_isi ?_ | with_reducible refine Ok_allF ?_ | with_reducible refine Ok_allT ?_
    | with_reducible refine Ok_slT ?_ | with_reducible refine Ok_comp ?_ | with_reducible refine Ok_seq ?_ | with_reducible refine Ok_rev ?_ | with_reducible refine Ok_rvT ?_ | with_reducible refine Ok_rvL ?_
    | with_reducible refine Ok_isN ?_ | with_reducible refine Ok_isNN ?_ | with_reducible refine Ok_eqI ?_ | with_reducible refine Ok_neI ?_ | with_reducible refine Ok_par ?_ | with_reducible refine Ok_asgT ?_
    | with_reducible refine Ok_dct ?_ | with_reducible refine Ok_okI ?_ | with_reducible refine Ok_bnd ?_
    | ((with_reducible refine Ok_ift ?_ ?_); (exact rfl)) | ((with_reducible refine Ok_iff ?_ ?_); (exact rfl))
    | refine Exists.intro _ (And.intro rfl ?_) | refine Exists.intro _ (Exists.intro _ (And.intro rfl (And.intro (show List.length _ ≤ _ by first | decide | simp) ?_))))
    refine (h3 _ _ _ hi).mono ?_
    rintro d N ⟨r, rfl, rfl⟩
    repeat' (first
    | ((with_reducible apply Ok_var); (exact rfl))
    | with_reducible refine Ok_cons ?_ | with_reducible refine Ok_nil ?_ | with_reducible refine Ok_asg ?_ | with_reducible refine Ok_ret ?_ | with_reducible refine Ok_sub ?_ | with_reducible refine Ok_ife ?_
    | with_reducible refine Ok_expr ?_ | with_reducible refine Go_nx ?_ | with_reducible refine Go_rt ?_ | with_reducible refine Ok_cst ?_ | with_reducible refine Ok_bin ?_ | with_reducible refine Ok_idx ?_
    | with_reducible refine Ok_cmp ?_ | with_reducible refine Ok_chn ?_ | with_reducible refine Ok_and ?_ | with_reducible refine Ok_or ?_ | with_reducible refine Ok_not ?_ | with_reducible refine Ok_blt ?_
    | with_reducible refine Ok_callE ?_ | with_reducible refine Ok_slc ?_ | with_reducible refine Ok_ifx ?_ | with_reducible refine Ok_neg ?_ | with_reducible refine Ok_esc ?_ | with_reducible refine Ok_esn ?_
    | with_reducible refine Ok_ono ?_ | with_reducible refine Ok_oye ?_ | with_reducible refine Ok_cno ?_ | with_reducible refine Ok_cye ?_ | with_reducible refine Ok_tup ?_ | with_reducible refine Ok_lst ?_
    | with_reducible refine Ok_toB ?_ | with_reducible refine Ok_isB ?_ | with_reducible refine Ok_lt ?_ | with_reducible refine Ok_le ?_ | with_reducible refine Ok_gt ?_ | with_reducible refine Ok_ge ?_
    | with_reducible refine Ok_add ?_ | with_reducible refine Ok_sb ?_ | with_reducible refine Ok_lenS ?_ | with_reducible refine Ok_lenT ?_ | with_reducible refine Ok_lenL ?_ | with_reducible refine Ok_min ?_
    | with_reducible refine Ok_max ?_ | with_reducible refine Ok_tuL ?_ | with_reducible refine Ok_liT ?_ | with_reducible refine Ok_isi ?_ | with_reducible refine Ok_allF ?_ | with_reducible refine Ok_allT ?_
    | with_reducible refine Ok_slT ?_ | with_reducible refine Ok_comp ?_ | with_reducible refine Ok_seq ?_ | with_reducible refine Ok_rev ?_ | with_reducible refine Ok_rvT ?_ | with_reducible refine Ok_rvL ?_
    | with_reducible refine Ok_isN ?_ | with_reducible refine Ok_isNN ?_ | with_reducible refine Ok_eqI ?_ | with_reducible refine Ok_neI ?_ | with_reducible refine Ok_par ?_ | with_reducible refine Ok_asgT ?_
    | with_reducible refine Ok_dct ?_ | with_reducible refine Ok_okI ?_ | with_reducible refine Ok_bnd ?_
    | ((with_reducible refine Ok_ift ?_ ?_); (exact rfl)) | ((with_reducible refine Ok_iff ?_ ?_); (exact rfl))
    | refine Exists.intro _ (And.intro rfl ?_) | refine Exists.intro _ (Exists.intro _ (And.intro rfl (And.intro (show List.length _ ≤ _ by first | decide | simp) ?_))))
    refine (h4 _ _).mono ?_
    rintro d P ⟨rfl, y, rfl, hP⟩
    refine Go_nx ?_
    refine Ok_cons ?_
    generalize (N ++ [y] : Mem) = M0 at hP ⊢
    generalize List.length N = pi at hP ⊢
    refine Ok_loop (fun n ρ K => (∃ x1 x2 x4, ρ = [some (.scr ns), x1, x2, some (.ref pi), x4]) ∧ PenS M0 pi (n * 11) K) ?_
    refine Ok_rng ?_
    repeat' (first
    | ((with_reducible apply Ok_var); (exact rfl))
    | with_reducible refine Ok_cons ?_ | with_reducible refine Ok_nil ?_ | with_reducible refine Ok_asg ?_ | with_reducible refine Ok_ret ?_ | with_reducible refine Ok_sub ?_ | with_reducible refine Ok_ife ?_
    | with_reducible refine Ok_expr ?_ | with_reducible refine Go_nx ?_ | with_reducible refine Go_rt ?_ | with_reducible refine Ok_cst ?_ | with_reducible refine Ok_bin ?_ | with_reducible refine Ok_idx ?_
    | with_reducible refine Ok_cmp ?_ | with_reducible refine Ok_chn ?_ | with_reducible refine Ok_and ?_ | with_reducible refine Ok_or ?_ | with_reducible refine Ok_not ?_ | with_reducible refine Ok_blt ?_
    | with_reducible refine Ok_callE ?_ | with_reducible refine Ok_slc ?_ | with_reducible refine Ok_ifx ?_ | with_reducible refine Ok_neg ?_ | with_reducible refine Ok_esc ?_ | with_reducible refine Ok_esn ?_
    | with_reducible refine Ok_ono ?_ | with_reducible refine Ok_oye ?_ | with_reducible refine Ok_cno ?_ | with_reducible refine Ok_cye ?_ | with_reducible refine Ok_tup ?_ | with_reducible refine Ok_lst ?_
    | with_reducible refine Ok_toB ?_ | with_reducible refine Ok_isB ?_ | with_reducible refine Ok_lt ?_ | with_reducible refine Ok_le ?_ | with_reducible refine Ok_gt ?_ | with_reducible refine Ok_ge ?_
    | with_reducible refine Ok_add ?_ | with_reducible refine Ok_sb ?_ | with_reducible refine Ok_lenS ?_ | with_reducible refine Ok_lenT ?_ | with_reducible refine Ok_lenL ?_ | with_reducible refine Ok_min ?_
    | with_reducible refine Ok_max ?_ | with_reducible refine Ok_tuL ?_ | with_reducible refine Ok_liT ?_ | with_reducible refine Ok_isi ?_ | with_reducible refine Ok_allF ?_ | with_reducible refine Ok_allT ?_
    | with_reducible refine Ok_slT ?_ | with_reducible refine Ok_comp ?_ | with_reducible refine Ok_seq ?_ | with_reducible refine Ok_rev ?_ | with_reducible refine Ok_rvT ?_ | with_reducible refine Ok_rvL ?_
    | with_reducible refine Ok_isN ?_ | with_reducible refine Ok_isNN ?_ | with_reducible refine Ok_eqI ?_ | with_reducible refine Ok_neI ?_ | with_reducible refine Ok_par ?_ | with_reducible refine Ok_asgT ?_
    | with_reducible refine Ok_dct ?_ | with_reducible refine Ok_okI ?_ | with_reducible refine Ok_bnd ?_
    | ((with_reducible refine Ok_ift ?_ ?_); (exact rfl)) | ((with_reducible refine Ok_iff ?_ ?_); (exact rfl))
    | refine Exists.intro _ (And.intro rfl ?_) | refine Exists.intro _ (Exists.intro _ (And.intro rfl (And.intro (show List.length _ ≤ _ by first | decide | simp) ?_))))
    refine ⟨by decide, ?_⟩
    repeat' (first
    | ((with_reducible apply Ok_var); (exact rfl))
    | with_reducible refine Ok_cons ?_ | with_reducible refine Ok_nil ?_ | with_reducible refine Ok_asg ?_ | with_reducible refine Ok_ret ?_ | with_reducible refine Ok_sub ?_ | with_reducible refine Ok_ife ?_
    | with_reducible refine Ok_expr ?_ | with_reducible refine Go_nx ?_ | with_reducible refine Go_rt ?_ | with_reducible refine Ok_cst ?_ | with_reducible refine Ok_bin ?_ | with_reducible refine Ok_idx ?_
    | with_reducible refine Ok_cmp ?_ | with_reducible refine Ok_chn ?_ | with_reducible refine Ok_and ?_ | with_reducible refine Ok_or ?_ | with_reducible refine Ok_not ?_ | with_reducible refine Ok_blt ?_
    | with_reducible refine Ok_callE ?_ | with_reducible refine Ok_slc ?_ | with_reducible refine Ok_ifx ?_ | with_reducible refine Ok_neg ?_ | with_reducible refine Ok_esc ?_ | with_reducible refine Ok_esn ?_
    | with_reducible refine Ok_ono ?_ | with_reducible refine Ok_oye ?_ | with_reducible refine Ok_cno ?_ | with_reducible refine Ok_cye ?_ | with_reducible refine Ok_tup ?_ | with_reducible refine Ok_lst ?_
    | with_reducible refine Ok_toB ?_ | with_reducible refine Ok_isB ?_ | with_reducible refine Ok_lt ?_ | with_reducible refine Ok_le ?_ | with_reducible refine Ok_gt ?_ | with_reducible refine Ok_ge ?_
    | with_reducible refine Ok_add ?_ | with_reducible refine Ok_sb ?_ | with_reducible refine Ok_lenS ?_ | with_reducible refine Ok_lenT ?_ | with_reducible refine Ok_lenL ?_ | with_reducible refine Ok_min ?_
    | with_reducible refine Ok_max ?_ | with_reducible refine Ok_tuL ?_ | with_reducible refine Ok_liT ?_ | with_reducible refine Ok_isi ?_ | with_reducible refine Ok_allF ?_ | with_reducible refine Ok_allT ?_
    | with_reducible refine Ok_slT ?_ | with_reducible refine Ok_comp ?_ | with_reducible refine Ok_seq ?_ | with_reducible refine Ok_rev ?_ | with_reducible refine Ok_rvT ?_ | with_reducible refine Ok_rvL ?_
    | with_reducible refine Ok_isN ?_ | with_reducible refine Ok_isNN ?_ | with_reducible refine Ok_eqI ?_ | with_reducible refine Ok_neI ?_ | with_reducible refine Ok_par ?_ | with_reducible refine Ok_asgT ?_
    | with_reducible refine Ok_dct ?_ | with_reducible refine Ok_okI ?_ | with_reducible refine Ok_bnd ?_
    | ((with_reducible refine Ok_ift ?_ ?_); (exact rfl)) | ((with_reducible refine Ok_iff ?_ ?_); (exact rfl))
    | refine Exists.intro _ (And.intro rfl ?_) | refine Exists.intro _ (Exists.intro _ (And.intro rfl (And.intro (show List.length _ ≤ _ by first | decide | simp) ?_))))
    refine ⟨⟨⟨_, _, _, rfl⟩, hP⟩, ?_, ?_⟩
    · rintro x hx n ρ K hn ⟨⟨x1, x2, x4, rfl⟩, hK⟩
      have hn' : n < 3 := hn
      refine ⟨_, rfl, ?_⟩
      repeat' (first
    | ((with_reducible apply Ok_var); (exact rfl))
    | with_reducible refine Ok_cons ?_ | with_reducible refine Ok_nil ?_ | with_reducible refine Ok_asg ?_ | with_reducible refine Ok_ret ?_ | with_reducible refine Ok_sub ?_ | with_reducible refine Ok_ife ?_
    | with_reducible refine Ok_expr ?_ | with_reducible refine Go_nx ?_ | with_reducible refine Go_rt ?_ | with_reducible refine Ok_cst ?_ | with_reducible refine Ok_bin ?_ | with_reducible refine Ok_idx ?_
    | with_reducible refine Ok_cmp ?_ | with_reducible refine Ok_chn ?_ | with_reducible refine Ok_and ?_ | with_reducible refine Ok_or ?_ | with_reducible refine Ok_not ?_ | with_reducible refine Ok_blt ?_
    | with_reducible refine Ok_callE ?_ | with_reducible refine Ok_slc ?_ | with_reducible refine Ok_ifx ?_ | with_reducible refine Ok_neg ?_ | with_reducible refine Ok_esc ?_ | with_reducible refine Ok_esn ?_
    | with_reducible refine Ok_ono ?_ | with_reducible refine Ok_oye ?_ | with_reducible refine Ok_cno ?_ | with_reducible refine Ok_cye ?_ | with_reducible refine Ok_tup ?_ | with_reducible refine Ok_lst ?_
    | with_reducible refine Ok_toB ?_ | with_reducible refine Ok_isB ?_ | with_reducible refine Ok_lt ?_ | with_reducible refine Ok_le ?_ | with_reducible refine Ok_gt ?_ | with_reducible refine Ok_ge ?_
    | with_reducible refine Ok_add ?_ | with_reducible refine Ok_sb ?_ | with_reducible refine Ok_lenS ?_ | with_reducible refine Ok_lenT ?_ | with_reducible refine Ok_lenL ?_ | with_reducible refine Ok_min ?_
    | with_reducible refine Ok_max ?_ | with_reducible refine Ok_tuL ?_ | with_reducible refine Ok_liT ?_ | with_reducible refine Ok_isi ?_ | with_reducible refine Ok_allF ?_ | with_reducible refine Ok_allT ?_
    | with_reducible refine Ok_slT ?_ | with_reducible refine Ok_comp ?_ | with_reducible refine Ok_seq ?_ | with_reducible refine Ok_rev ?_ | with_reducible refine Ok_rvT ?_ | with_reducible refine Ok_rvL ?_
    | with_reducible refine Ok_isN ?_ | with_reducible refine Ok_isNN ?_ | with_reducible refine Ok_eqI ?_ | with_reducible refine Ok_neI ?_ | with_reducible refine Ok_par ?_ | with_reducible refine Ok_asgT ?_
    | with_reducible refine Ok_dct ?_ | with_reducible refine Ok_okI ?_ | with_reducible refine Ok_bnd ?_
    | ((with_reducible refine Ok_ift ?_ ?_); (exact rfl)) | ((with_reducible refine Ok_iff ?_ ?_); (exact rfl))
    | refine Exists.intro _ (And.intro rfl ?_) | refine Exists.intro _ (Exists.intro _ (And.intro rfl (And.intro (show List.length _ ≤ _ by first | decide | simp) ?_))))
      refine (h15 hK (by omega)).mono ?_
      rintro d K1 ⟨s, hs, rfl, hK1⟩
      repeat' (first
    | ((with_reducible apply Ok_var); (exact rfl))
    | with_reducible refine Ok_cons ?_ | with_reducible refine Ok_nil ?_ | with_reducible refine Ok_asg ?_ | with_reducible refine Ok_ret ?_ | with_reducible refine Ok_sub ?_ | with_reducible refine Ok_ife ?_
    | with_reducible refine Ok_expr ?_ | with_reducible refine Go_nx ?_ | with_reducible refine Go_rt ?_ | with_reducible refine Ok_cst ?_ | with_reducible refine Ok_bin ?_ | with_reducible refine Ok_idx ?_
    | with_reducible refine Ok_cmp ?_ | with_reducible refine Ok_chn ?_ | with_reducible refine Ok_and ?_ | with_reducible refine Ok_or ?_ | with_reducible refine Ok_not ?_ | with_reducible refine Ok_blt ?_
    | with_reducible refine Ok_callE ?_ | with_reducible refine Ok_slc ?_ | with_reducible refine Ok_ifx ?_ | with_reducible refine Ok_neg ?_ | with_reducible refine Ok_esc ?_ | with_reducible refine Ok_esn ?_
    | with_reducible refine Ok_ono ?_ | with_reducible refine Ok_oye ?_ | with_reducible refine Ok_cno ?_ | with_reducible refine Ok_cye ?_ | with_reducible refine Ok_tup ?_ | with_reducible refine Ok_lst ?_
    | with_reducible refine Ok_toB ?_ | with_reducible refine Ok_isB ?_ | with_reducible refine Ok_lt ?_ | with_reducible refine Ok_le ?_ | with_reducible refine Ok_gt ?_ | with_reducible refine Ok_ge ?_
    | with_reducible refine Ok_add ?_ | with_reducible refine Ok_sb ?_ | with_reducible refine Ok_lenS ?_ | with_reducible refine Ok_lenT ?_ | with_reducible refine Ok_lenL ?_ | with_reducible refine Ok_min ?_
    | with_reducible refine Ok_max ?_ | with_reducible refine Ok_tuL ?_ | with_reducible refine Ok_liT ?_ | with_reducible refine Ok_isi ?_ | with_reducible refine Ok_allF ?_ | with_reducible refine Ok_allT ?_
    | with_reducible refine Ok_slT ?_ | with_reducible refine Ok_comp ?_ | with_reducible refine Ok_seq ?_ | with_reducible refine Ok_rev ?_ | with_reducible refine Ok_rvT ?_ | with_reducible refine Ok_rvL ?_
    | with_reducible refine Ok_isN ?_ | with_reducible refine Ok_isNN ?_ | with_reducible refine Ok_eqI ?_ | with_reducible refine Ok_neI ?_ | with_reducible refine Ok_par ?_ | with_reducible refine Ok_asgT ?_
    | with_reducible refine Ok_dct ?_ | with_reducible refine Ok_okI ?_ | with_reducible refine Ok_bnd ?_
    | ((with_reducible refine Ok_ift ?_ ?_); (exact rfl)) | ((with_reducible refine Ok_iff ?_ ?_); (exact rfl))
    | refine Exists.intro _ (And.intro rfl ?_) | refine Exists.intro _ (Exists.intro _ (And.intro rfl (And.intro (show List.length _ ≤ _ by first | decide | simp) ?_))))
      refine Ok.eq (h18 _ _ s hs) ?_
      repeat' (first
    | ((with_reducible apply Ok_var); (exact rfl))
    | with_reducible refine Ok_cons ?_ | with_reducible refine Ok_nil ?_ | with_reducible refine Ok_asg ?_ | with_reducible refine Ok_ret ?_ | with_reducible refine Ok_sub ?_ | with_reducible refine Ok_ife ?_
    | with_reducible refine Ok_expr ?_ | with_reducible refine Go_nx ?_ | with_reducible refine Go_rt ?_ | with_reducible refine Ok_cst ?_ | with_reducible refine Ok_bin ?_ | with_reducible refine Ok_idx ?_
    | with_reducible refine Ok_cmp ?_ | with_reducible refine Ok_chn ?_ | with_reducible refine Ok_and ?_ | with_reducible refine Ok_or ?_ | with_reducible refine Ok_not ?_ | with_reducible refine Ok_blt ?_
    | with_reducible refine Ok_callE ?_ | with_reducible refine Ok_slc ?_ | with_reducible refine Ok_ifx ?_ | with_reducible refine Ok_neg ?_ | with_reducible refine Ok_esc ?_ | with_reducible refine Ok_esn ?_
    | with_reducible refine Ok_ono ?_ | with_reducible refine Ok_oye ?_ | with_reducible refine Ok_cno ?_ | with_reducible refine Ok_cye ?_ | with_reducible refine Ok_tup ?_ | with_reducible refine Ok_lst ?_
    | with_reducible refine Ok_toB ?_ | with_reducible refine Ok_isB ?_ | with_reducible refine Ok_lt ?_ | with_reducible refine Ok_le ?_ | with_reducible refine Ok_gt ?_ | with_reducible refine Ok_ge ?_
    | with_reducible refine Ok_add ?_ | with_reducible refine Ok_sb ?_ | with_reducible refine Ok_lenS ?_ | with_reducible refine Ok_lenT ?_ | with_reducible refine Ok_lenL ?_ | with_reducible refine Ok_min ?_
    | with_reducible refine Ok_max ?_ | with_reducible refine Ok_tuL ?_ | with_reducible refine Ok_liT ?_ | with_reducible refine Ok_isi ?_ | with_reducible refine Ok_allF ?_ | with_reducible refine Ok_allT ?_
    | with_reducible refine Ok_slT ?_ | with_reducible refine Ok_comp ?_ | with_reducible refine Ok_seq ?_ | with_reducible refine Ok_rev ?_ | with_reducible refine Ok_rvT ?_ | with_reducible refine Ok_rvL ?_
    | with_reducible refine Ok_isN ?_ | with_reducible refine Ok_isNN ?_ | with_reducible refine Ok_eqI ?_ | with_reducible refine Ok_neI ?_ | with_reducible refine Ok_par ?_ | with_reducible refine Ok_asgT ?_
    | with_reducible refine Ok_dct ?_ | with_reducible refine Ok_okI ?_ | with_reducible refine Ok_bnd ?_
    | ((with_reducible refine Ok_ift ?_ ?_); (exact rfl)) | ((with_reducible refine Ok_iff ?_ ?_); (exact rfl))
    | refine Exists.intro _ (And.intro rfl ?_) | refine Exists.intro _ (Exists.intro _ (And.intro rfl (And.intro (show List.length _ ≤ _ by first | decide | simp) ?_))))
      exact ⟨⟨_, _, _, rfl⟩, hK1.mono (by omega)⟩
    · rintro ρ K ⟨⟨x1, x2, x4, rfl⟩, hK⟩
      repeat' (first
    | ((with_reducible apply Ok_var); (exact rfl))
    | with_reducible refine Ok_cons ?_ | with_reducible refine Ok_nil ?_ | with_reducible refine Ok_asg ?_ | with_reducible refine Ok_ret ?_ | with_reducible refine Ok_sub ?_ | with_reducible refine Ok_ife ?_
    | with_reducible refine Ok_expr ?_ | with_reducible refine Go_nx ?_ | with_reducible refine Go_rt ?_ | with_reducible refine Ok_cst ?_ | with_reducible refine Ok_bin ?_ | with_reducible refine Ok_idx ?_
    | with_reducible refine Ok_cmp ?_ | with_reducible refine Ok_chn ?_ | with_reducible refine Ok_and ?_ | with_reducible refine Ok_or ?_ | with_reducible refine Ok_not ?_ | with_reducible refine Ok_blt ?_
    | with_reducible refine Ok_callE ?_ | with_reducible refine Ok_slc ?_ | with_reducible refine Ok_ifx ?_ | with_reducible refine Ok_neg ?_ | with_reducible refine Ok_esc ?_ | with_reducible refine Ok_esn ?_
    | with_reducible refine Ok_ono ?_ | with_reducible refine Ok_oye ?_ | with_reducible refine Ok_cno ?_ | with_reducible refine Ok_cye ?_ | with_reducible refine Ok_tup ?_ | with_reducible refine Ok_lst ?_
    | with_reducible refine Ok_toB ?_ | with_reducible refine Ok_isB ?_ | with_reducible refine Ok_lt ?_ | with_reducible refine Ok_le ?_ | with_reducible refine Ok_gt ?_ | with_reducible refine Ok_ge ?_
    | with_reducible refine Ok_add ?_ | with_reducible refine Ok_sb ?_ | with_reducible refine Ok_lenS ?_ | with_reducible refine Ok_lenT ?_ | with_reducible refine Ok_lenL ?_ | with_reducible refine Ok_min ?_
    | with_reducible refine Ok_max ?_ | with_reducible refine Ok_tuL ?_ | with_reducible refine Ok_liT ?_ | with_reducible refine Ok_isi ?_ | with_reducible refine Ok_allF ?_ | with_reducible refine Ok_allT ?_
    | with_reducible refine Ok_slT ?_ | with_reducible refine Ok_comp ?_ | with_reducible refine Ok_seq ?_ | with_reducible refine Ok_rev ?_ | with_reducible refine Ok_rvT ?_ | with_reducible refine Ok_rvL ?_
    | with_reducible refine Ok_isN ?_ | with_reducible refine Ok_isNN ?_ | with_reducible refine Ok_eqI ?_ | with_reducible refine Ok_neI ?_ | with_reducible refine Ok_par ?_ | with_reducible refine Ok_asgT ?_
    | with_reducible refine Ok_dct ?_ | with_reducible refine Ok_okI ?_ | with_reducible refine Ok_bnd ?_
    | ((with_reducible refine Ok_ift ?_ ?_); (exact rfl)) | ((with_reducible refine Ok_iff ?_ ?_); (exact rfl))
    | refine Exists.intro _ (And.intro rfl ?_) | refine Exists.intro _ (Exists.intro _ (And.intro rfl (And.intro (show List.length _ ≤ _ by first | decide | simp) ?_))))
      exact ⟨_, _, _, _, rfl⟩
  rintro ρ K ⟨x1, x2, x3, x4, rfl⟩
  repeat' (first
    | ((with_reducible apply Ok_var); (exact rfl))
    | with_reducible refine Ok_cons ?_ | with_reducible refine Ok_nil ?_ | with_reducible refine Ok_asg ?_ | with_reducible refine Ok_ret ?_ | with_reducible refine Ok_sub ?_ | with_reducible refine Ok_ife ?_
    | with_reducible refine Ok_expr ?_ | with_reducible refine Go_nx ?_ | with_reducible refine Go_rt ?_ | with_reducible refine Ok_cst ?_ | with_reducible refine Ok_bin ?_ | with_reducible refine Ok_idx ?_
    | with_reducible refine Ok_cmp ?_ | with_reducible refine Ok_chn ?_ | with_reducible refine Ok_and ?_ | with_reducible refine Ok_or ?_ | with_reducible refine Ok_not ?_ | with_reducible refine Ok_blt ?_
    | with_reducible refine Ok_callE ?_ | with_reducible refine Ok_slc ?_ | with_reducible refine Ok_ifx ?_ | with_reducible refine Ok_neg ?_ | with_reducible refine Ok_esc ?_ | with_reducible refine Ok_esn ?_
    | with_reducible refine Ok_ono ?_ | with_reducible refine Ok_oye ?_ | with_reducible refine Ok_cno ?_ | with_reducible refine Ok_cye ?_ | with_reducible refine Ok_tup ?_ | with_reducible refine Ok_lst ?_
    | with_reducible refine Ok_toB ?_ | with_reducible refine Ok_isB ?_ | with_reducible refine Ok_lt ?_ | with_reducible refine Ok_le ?_ | with_reducible refine Ok_gt ?_ | with_reducible refine Ok_ge ?_
    | with_reducible refine Ok_add ?_ | with_reducible refine Ok_sb ?_ | with_reducible refine Ok_lenS ?_ | with_reducible refine Ok_lenT ?_ | with_reducible refine Ok_lenL ?_ | with_reducible refine Ok_min ?_
    | with_reducible refine Ok_max ?_ | with_reducible refine Ok_tuL ?_ | with_reducible refine Ok_liT ?_ | with_reducible refine Ok_isi ?_ | with_reducible refine Ok_allF ?_ | with_reducible refine Ok_allT ?_
    | with_reducible refine Ok_slT ?_ | with_reducible refine Ok_comp ?_ | with_reducible refine Ok_seq ?_ | with_reducible refine Ok_rev ?_ | with_reducible refine Ok_rvT ?_ | with_reducible refine Ok_rvL ?_
    | with_reducible refine Ok_isN ?_ | with_reducible refine Ok_isNN ?_ | with_reducible refine Ok_eqI ?_ | with_reducible refine Ok_neI ?_ | with_reducible refine Ok_par ?_ | with_reducible refine Ok_asgT ?_
    | with_reducible refine Ok_dct ?_ | with_reducible refine Ok_okI ?_ | with_reducible refine Ok_bnd ?_
    | ((with_reducible refine Ok_ift ?_ ?_); (exact rfl)) | ((with_reducible refine Ok_iff ?_ ?_); (exact rfl))
    | refine Exists.intro _ (And.intro rfl ?_) | refine Exists.intro _ (Exists.intro _ (And.intro rfl (And.intro (show List.length _ ≤ _ by first | decide | simp) ?_))))
  exact fin_t rfl
end
theorem main (ns : List Int) (_ : ns.length ≤ 63) : ∃ M, run Tb 100000 40 d12.id [.scr ns] [] = .ok (.p (.bool true)) M := by
  obtain ⟨d, M, e, rfl⟩ := law_ok (fuel := 100000) (k := 34) ns []
  exact ⟨M, e⟩
end K01

open PySem PySem.W PyProof.Rows
set_option maxHeartbeats 0 in
theorem PySem.Challenge.cw_comesback_k01_settings_known_holds : PySem.Challenge.rw_comesback_k01_settings_known.Holds := by
  w_on; o_law; k_head; (case hw => w_witness2)
  k_fill
  refine Mi.law_of (l := PySem.Challenge.rw_comesback_k01_settings_known) (T := K01.T) (Tb := K01.Tb) (defs := K01.defs) (fuel := 100000) (k := 40) (d := K01.d12) (x := "_law_script") rfl rfl ⟨rfl, by decide, by decide⟩ (fun w h Y => PySem.W.kIn_of Y) K01.lawI (List.mem_cons_of_mem _ (List.mem_cons_of_mem _ (List.mem_cons_of_mem _ (List.mem_cons_of_mem _ (List.mem_cons_of_mem _ (List.mem_cons_of_mem _ (List.mem_cons_of_mem _ (List.mem_cons_of_mem _ (List.mem_cons_of_mem _ (List.mem_cons_of_mem _ (List.mem_cons_of_mem _ (List.mem_cons_of_mem _ (List.mem_cons_of_mem _ (List.mem_cons_of_mem _ (List.mem_cons_of_mem _ List.mem_cons_self))))))))))))))) rfl rfl (fun _ _ _ _ _ _ _ => rfl) ?G K01.main
  case G =>
    intro w mg h KX Gn
    refine' K01.globs KX Gn ?a0 ?l0 ?c0 ?k0 ?a1 ?l1 ?c1 ?k1 ?a2 ?l2 ?c2 ?k2 ?a3 ?l3 ?c3 ?k3 ?a4 ?l4 ?c4 ?k4 ?a5 ?l5 ?c5 ?k5 ?a6 ?l6 ?c6 ?k6 ?a7 ?l7 ?c7 ?k7 ?a8 ?l8 ?c8 ?k8 ?a9 ?l9 ?c9 ?k9 ?a10 ?l10 ?c10 ?k10 ?a11 ?l11 ?c11 ?k11 ?a12 ?l12 ?c12 ?k12 ?a13 ?l13 ?c13 ?k13 ?a14 ?l14 ?c14 ?k14 ?a15 ?l15 ?c15 ?k15 ?vv7 ?vv6 ?vv5 ?vv4 ?vv3 ?vv2 ?vv1 ?vv0 ?vl0 ?vc0 ?vd0 ?z0 ?z1 ?z2 ?z3 ?z4 ?z5 ?z6 ?z7 ?z8 ?z9 ?z10 ?z11
    (case a0 => k_is); (case l0 => k_is); (case c0 => k_is); (case k0 => k_is); (case a1 => k_is); (case l1 => k_is); (case c1 => k_is); (case k1 => k_is); (case a2 => k_is); (case l2 => k_is); (case c2 => k_is); (case k2 => k_is); (case a3 => k_is); (case l3 => k_is); (case c3 => k_is); (case k3 => k_is); (case a4 => k_is); (case l4 => k_is); (case c4 => k_is); (case k4 => k_is); (case a5 => k_is); (case l5 => k_is); (case c5 => k_is); (case k5 => k_is); (case a6 => k_is); (case l6 => k_is); (case c6 => k_is); (case k6 => k_is); (case a7 => k_is); (case l7 => k_is); (case c7 => k_is); (case k7 => k_is); (case a8 => k_is); (case l8 => k_is); (case c8 => k_is); (case k8 => k_is); (case a9 => k_is); (case l9 => k_is); (case c9 => k_is); (case k9 => k_is); (case a10 => k_is); (case l10 => k_is); (case c10 => k_is); (case k10 => k_is); (case a11 => k_is); (case l11 => k_is); (case c11 => k_is); (case k11 => k_is); (case a12 => k_is); (case l12 => k_is); (case c12 => k_is); (case k12 => k_is); (case a13 => k_is); (case l13 => k_is); (case c13 => k_is); (case k13 => k_is); (case a14 => k_is); (case l14 => k_is); (case c14 => k_is); (case k14 => k_is); (case a15 => k_is); (case l15 => k_is); (case c15 => k_is); (case k15 => k_is); (case vv7 => k_is); (case vv6 => k_is); (case vv5 => k_is); (case vv4 => k_is); (case vv3 => k_is); (case vv2 => k_is); (case vv1 => k_is); (case vv0 => k_is); (case vl0 => k_is); (case vc0 => rfl); (case vd0 => rfl); (case z0 => k_is); (case z1 => k_is); (case z2 => k_is); (case z3 => k_is); (case z4 => k_is); (case z5 => k_is); (case z6 => k_is); (case z7 => k_is); (case z8 => k_is); (case z9 => k_is); (case z10 => k_is); (case z11 => k_is)
